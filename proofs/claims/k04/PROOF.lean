import PyProof.Rows.All
import Wide.All
import OpenK.AllK
import Wide.FinOn
import HandS.ForMost
import HandS.Conv
import KE.Datum
import HandS.DeepEq
import HandS.Exc
import HandS.ExcOwn
import HandS.TryOnly
import HandS.TryMany
import HandS.WordsExc
import HandS.IsInst
import HandS.Wide
import HandS.Nested
import HandS.HeadHook4
import HandS.HeadWalk
import HandS.Head0
import HandS.Head1
import HandS.Head2
import HandS.HeadEnd
import HandS.Steps
import HandS.CallRecv
import HandS.DictComp
import HandS.ClsMeth
import KE.KExcIs
import HandS.Text
import PySem.Challenge.RW_anewhall_k04_read_or_refused
set_option Elab.async false
set_option linter.all false
set_option maxRecDepth 100000
set_option maxHeartbeats 4000000
/-! ## the layer of this proof: a def's promise by one word, readings by named steps -/
namespace L2.An
open PySem PySem.Spec PyProof.Rows

/-! ### defs -/
section
variable (P : Program) (w : World) (K : PySem.W.Frag) (mg : Str → Option Value) (base : Heap)
/-- the def at f keeps the promise -/
def Ok (k : Nat) (f : Addr) (ps : List Str) (sp : Sp) : Prop :=
  ∃ fd, FnOk P w K mg base (L2.CX P w) k f fd ps sp ∧ Binds K fd ps [] ∧ PySem.W.keepIn K (.ref f) = true ∧ ∃ oc od osl, K.lookup f = some ⟨oc, od, .func fd, osl⟩
end
section
variable {P : Program} {w : World} {K : PySem.W.Frag} {mg : Str → Option Value} {base : Heap} {k j : Nat} {f : Addr} {ps : List Str} {sp sp' : Sp}
theorem Ok.mono (o : Ok P w K mg base j f ps sp) (h : j ≤ k) : Ok P w K mg base k f ps sp := let ⟨fd, F, b, kp⟩ := o; ⟨fd, F.mono h, b, kp⟩
theorem Ok.imp (o : Ok P w K mg base k f ps sp) (h : ∀ vs H Q E, sp' vs H Q E → sp vs H Q E) : Ok P w K mg base k f ps sp' := let ⟨fd, F, b, kp⟩ := o; ⟨fd, F.imp h, b, kp⟩
/-- a def of the text as the head tells it -/
abbrev Def (K : PySem.W.Frag) (x qual : Str) (st : Stmt) (f : Addr) : Prop := ∃ fd, FunD K x qual (defArgs st) (defBody st) (defScope st) [] [] f fd
theorem def_lk {x qual : Str} {st : Stmt} {fd : FuncData} (F : FunD K x qual (defArgs st) (defBody st) (defScope st) [] [] f fd) : ∃ oc od osl, K.lookup f = some ⟨oc, od, .func fd, osl⟩ := by
  obtain ⟨oc, od, dV, kV, doc, pm, an, cdv, ct, osl, e, lk, _⟩ := F.ex
  exact ⟨oc, od, osl, e ▸ lk⟩
theorem ok_law_at {x qual : Str} {st : Stmt} (D : Def K x qual st f)
    (hb : ∀ (kV doc pm : Value) (an : Option Addr) (cdv ct : Value) (us : List Value), us.length = ps.length → bindArgs (PySem.W.fnOf x qual (defArgs st) (defBody st) (defScope st) .none kV doc pm an cdv ct) ⟨us, []⟩ = pure (ps.zip us))
    (hl : ps.length = 1) (F : ∀ base : Heap, Ok P w K mg base k f ps sp) : ∃ fd : FuncData, (∀ base : Heap, FnOk P w K mg base (L2.CX P w) k f fd ps sp) ∧ ∀ (s : Shared) (u : Value), BindsTo s fd ⟨[u], []⟩ (ps.zip [u]) := by
  obtain ⟨fd, D⟩ := D
  obtain ⟨oc, od, osl, lk⟩ := def_lk D
  refine ⟨fd, fun base => ?_, fun s u => FunD.bindsA D hb s [u] hl.symm⟩
  obtain ⟨fd2, F2, _, _, oc2, od2, osl2, lk2⟩ := F base
  rw [lk] at lk2
  cases lk2
  exact F2
theorem cx_never {P : Program} {w : World} {o : List Env} {H : Hp} {s s' : Shared} {u : Value} (z : L2.CX P w o H s (fun _ _ _ => False) u s') : False := by
  obtain ⟨_, _, _, _, _, _, _, _, _, _, _, _, z⟩ := z
  exact z
/-- a def that lets nothing out -/
theorem ok0 {x qual : Str} {st : Stmt} {N : List Str} (D : Def K x qual st f) (S : FnScope N ps (defScope st))
    (hb : ∀ (kV doc pm : Value) (an : Option Addr) (cdv ct : Value) (us : List Value), us.length = ps.length → bindArgs (PySem.W.fnOf x qual (defArgs st) (defBody st) (defScope st) .none kV doc pm an cdv ct) ⟨us, []⟩ = pure (ps.zip us))
    (len : ∀ vs H Q E, sp vs H Q E → vs.length = ps.length)
    (hbody : ∀ (cdv : Value) (A : Around) (outer : List Env) (s : Shared) (H : Hp) (vs : List V) (Q : VK) (E : XK), Room k (A.deeper (envOfC qual (defScope st) s.heap.objs.size f cdv)) → sp vs H Q E →
      ∃ t, PSs (cxOf (L2.CX P w) P w K mg base N qual (defScope st) f cdv A outer s H E).nox (defBody st) t ∧ t { nx := fun _ H' => Q .non H', rt := Q } (start N vs) H) : Ok P w K mg base (k + 1) f ps sp := by
  obtain ⟨fd, F⟩ := D
  refine ⟨fd, F.ok S len fun cdv A outer s H vs Q E hr h => ?_, FunD.bindsN F hb, F.kp, def_lk F⟩
  obtain ⟨t, ht, q⟩ := hbody cdv A outer s H vs Q E hr h
  exact ⟨t, ht.nox, q⟩
end

/-! ### calls of defs: the promise, what is let out by W -/
def tCW (sp : Sp) (W : WX) (t : TA) : TE := fun σ H Q => t σ H fun vs H1 => sp vs H1 Q (fun cls d H' => W cls d σ H')
section
variable {X : Cx} {W : WX} {k : Nat} {f : Addr} {ps : List Str} {sp : Sp} {x : Str} {p pos : Pos} {e : Expr} {es : List Expr} {t : TA}
theorem an_call (F : Ok X.prog X.w X.K X.mg X.base k f ps sp) (hr : Room k X.A) (tk : Takes X W) (hm : X.mg x = some (.ref f)) (ha : PA X (e :: es) t) (hg : Gl X x := by rfl)
    (hdb : (x == ("__debug__" : Str)) = false := by decide) (he : starEach (e :: es) X.env = (false, eval e X.env) :: starEach es X.env := by rfl) (hpl : (backTo pos (starEach es X.env)).any (·.1) = false := by rfl) :
    PE X (.Call (.Name x p) (e :: es) [] pos) (tCW sp W t) := by
  obtain ⟨fd, F, b, kp, _⟩ := F
  exact pe_callS (E := WE W) F hr hg hm kp b (passAt tk) ha hdb he hpl
end

def skv (l : List (Str × V)) : List (Key × V) := l.map fun p => (Sum.inr p.1, p.2)
abbrev dS (l : List (Str × V)) : HO := .dK (skv l)
/-! ### expressions: steps -/
section
variable {σ : St} {H : Hp} {Q : VK} {i : Nat} {v x y : V} {ta tb te : TE} {r : R2} {K : PySem.W.Frag}
theorem e_var (h : σ[i]? = some (some v)) (q : Q v H) : tVar i σ H Q := ⟨v, h, q⟩
theorem e_c (q : Q v H) : tC v σ H Q := q
theorem e_op (h : ta σ H fun x H1 => tb σ H1 fun y H2 => r x y H2 Q) : tOp r ta tb σ H Q := h
theorem e_un {r : V → Hp → VK → Prop} (h : ta σ H fun x H1 => r x H1 Q) : tUn r ta σ H Q := h
theorem e_I0 {g : Int → Int → V} {a b : Int} (q : Q (g a b) H) : rI0 g (.int a) (.int b) H Q := ⟨a, b, rfl, rfl, q⟩
theorem e_I {C : Int → Int → Prop} {g : Int → Int → V} {a b : Int} (c : C a b) (q : Q (g a b) H) : rI C g (.int a) (.int b) H Q := ⟨a, b, rfl, rfl, c, q⟩
theorem e_eqI {a b : Int} (q : Q (.bl (decide (a = b))) H) : rEq (.int a) (.int b) H Q := ⟨rfl, by
  rw [show decide (V.int a = V.int b) = decide (a = b) from decide_eq_decide.mpr ⟨fun e => V.int.inj e, fun e => congrArg _ e⟩]
  exact q⟩
theorem e_neI {a b : Int} (q : Q (.bl (!decide (a = b))) H) : rNe (.int a) (.int b) H Q := ⟨rfl, by
  rw [show decide (V.int a = V.int b) = decide (a = b) from decide_eq_decide.mpr ⟨fun e => V.int.inj e, fun e => congrArg _ e⟩]
  exact q⟩
theorem e_eqS {a b : Str} (q : Q (.bl (decide (a = b))) H) : rEq (.str a) (.str b) H Q := ⟨rfl, by
  rw [show decide (V.str a = V.str b) = decide (a = b) from decide_eq_decide.mpr ⟨fun e => V.str.inj e, fun e => congrArg _ e⟩]
  exact q⟩
theorem e_neS {a b : Str} (q : Q (.bl (!decide (a = b))) H) : rNe (.str a) (.str b) H Q := ⟨rfl, by
  rw [show decide (V.str a = V.str b) = decide (a = b) from decide_eq_decide.mpr ⟨fun e => V.str.inj e, fun e => congrArg _ e⟩]
  exact q⟩
theorem e_pn {e : TE} {tr : TA} {Q : List V → Hp → Prop} (h : e σ H fun x H1 => tr σ H1 fun xs H2 => Q (x :: xs) H2) : tCons e tr σ H Q := h
theorem e_p0 {Q : List V → Hp → Prop} (h : Q [] H) : tNil σ H Q := h
theorem e_cb {r : List V → Hp → VK → Prop} {t : TA} (h : t σ H fun vs H1 => r vs H1 Q) : tCB r t σ H Q := h
theorem e_cw {sp : Sp} {W : WX} {t : TA} (h : t σ H fun vs H1 => sp vs H1 Q (fun cls d H' => W cls d σ H')) : tCW sp W t σ H Q := h
theorem e_lst {t : TA} (h : t σ H fun xs H1 => xs.length ≤ sizeLine ∧ ∀ p, H1 p = none → Q (.ref p) (upd H1 p (.lst xs))) : tLst t σ H Q := h
theorem e_sz {xs : List V} {P : Prop} (h : Nat.ble xs.length sizeLine = true) (q : P) : xs.length ≤ sizeLine ∧ P := ⟨Nat.le_of_ble_eq_true h, q⟩
theorem e_tup {t : TA} (h : t σ H fun xs H1 => xs.length ≤ sizeLine ∧ ∀ p, H1 p = none → Q (.ref p) (upd H1 p (.tup xs))) : tTup t σ H Q := h
theorem e_bm {T : String} {r : V → List V → Hp → VK → Prop} {t : TA} (h : ta σ H fun x H1 => tyV K T x H1 ∧ t σ H1 fun xs H2 => r x xs H2 Q) : tBM K T r ta t σ H Q := h
theorem e_bm0 {T : String} {r : V → List V → Hp → VK → Prop} (h : ta σ H fun x H1 => tyV K T x H1 ∧ r x [] H1 Q) : tBM0 K T r ta σ H Q := h
theorem e_if {t : TT} (h : t σ H fun c H1 => if c = true then ta σ H1 Q else tb σ H1 Q) : tIf t ta tb σ H Q := h
end
/-! tests -/
section
variable {σ : St} {H : Hp} {Q : Bool → Hp → Prop} {t u : TT} {te : TE}
theorem e_tst (h : te σ H fun x H' => ∃ k, x = .bl k ∧ Q k H') : tTest te σ H Q := h
theorem e_tB (h : te σ H fun x H' => ∃ k, x = .bl k ∧ Q k H') : tB te σ H Q := h
theorem e_bk {k : Bool} {Q : Bool → Prop} (q : Q k) : ∃ k', V.bl k = .bl k' ∧ Q k' := ⟨k, rfl, q⟩
theorem e_and (h : t σ H fun c H1 => if c = true then u σ H1 Q else Q false H1) : tAnd t u σ H Q := h
theorem e_or (h : t σ H fun c H1 => if c = true then Q true H1 else u σ H1 Q) : tOr t u σ H Q := h
theorem e_not (h : t σ H fun c H1 => Q (!c) H1) : tNot t σ H Q := h
theorem ifd {p A B : Prop} [Decidable p] (h1 : p → A) (h2 : ¬ p → B) : if decide p = true then A else B := by
  by_cases h : p
  · rw [if_pos (decide_eq_true h)]
    exact h1 h
  · rw [if_neg (by rw [decide_eq_false h]; exact Bool.false_ne_true)]
    exact h2 h
theorem ifn {p A B : Prop} [Decidable p] (h1 : ¬ p → A) (h2 : p → B) : if (!decide p) = true then A else B := by
  by_cases h : p
  · rw [decide_eq_true h]
    exact iteF (h2 h)
  · rw [decide_eq_false h]
    exact iteT (h1 h)
theorem ifb {b : Bool} {A B : Prop} (h1 : b = true → A) (h2 : b = false → B) : if b = true then A else B := by
  cases b with
  | true => exact iteT (h1 rfl)
  | false => exact iteF (h2 rfl)
theorem ifnb {b : Bool} {A B : Prop} (h1 : b = false → A) (h2 : b = true → B) : if (!b) = true then A else B := by
  cases b with
  | true => exact iteF (h2 rfl)
  | false => exact iteT (h1 rfl)
end
/-- a for's word, named -/
def kFor (J : It) (g : TG) (tb : TS) (D : Ends) (σ : St) (H : Hp) : Prop := ∃ W : Nat → Nat → St → Hp → Prop, (∃ m, W 0 m σ H) ∧ ∀ i m σ H, W i m σ H →
  (J.stop i H ∧ D.nx σ H) ∨ (J.go i H ∧ ∃ N : St → Hp → Prop, (∀ σ' H', N σ' H' → ∃ m', m' < m ∧ W (i + 1) m' σ' H') ∧ ∀ x H', J.yld i H x H' → g x σ H' fun σ2 H2 => tb { D with nx := N, ct := N, bk := D.nx } σ2 H2)
def kIL (K : PySem.W.Frag) (x : V) (H : Hp) (R : It → Hp → Prop) : Prop := ∃ a, x = .ref a ∧ (∃ xs, SqL K H a xs) ∧ R (Itl K a) H
def kIU (K : PySem.W.Frag) (x : V) (H : Hp) (R : It → Hp → Prop) : Prop := ∃ a, x = .ref a ∧ (∃ xs, SqT K H a xs) ∧ R (Itt K a) H
def kIR (vs : List V) (H : Hp) (R : It → Hp → Prop) : Prop := ∃ j : Int, vs = [.int j] ∧ -(2 ^ 62) ≤ j ∧ j < 2 ^ 62 ∧ R (Itr 0 j.toNat) H
def kIS (x : V) (H : Hp) (R : It → Hp → Prop) : Prop := ∃ z, x = .str z ∧ R (Its z) H
def kIK (x : V) (H : Hp) (R : It → Hp → Prop) : Prop := ∃ d o, x = .ref d ∧ ((∃ kvs, H d = some (.frz o (.dK kvs)) ∧ R (Itk d o kvs) H) ∨ ∃ kvs, H d = some (.frz o (.dT kvs)) ∧ R (Itkt d o kvs) H)
def kLock (t : TS) (D : Ends) (σ : St) (H : Hp) : Prop := ∃ d u, H d = some u ∧ Mut (some u) ∧ ∀ od, t ⟨fun σ' H' => H' d = some (.frz od u) ∧ D.nx σ' (upd H' d u), fun v H' => H' d = some (.frz od u) ∧ D.rt v (upd H' d u), fun σ' H' => H' d = some (.frz od u) ∧ D.bk σ' (upd H' d u), fun σ' H' => H' d = some (.frz od u) ∧ D.ct σ' (upd H' d u)⟩ σ (upd H d (.frz od u))
/-! ### statements: steps -/
section
variable {D : Ends} {t u : TS} {σ : St} {H : Hp} {te ta : TE} {i : Nat}
theorem st_seq (h : t ⟨u D, D.rt, D.bk, D.ct⟩ σ H) : tSeq t u D σ H := h
theorem st_nx {N : St → Hp → Prop} {R : VK} {B C : St → Hp → Prop} (h : N σ H) : Ends.nx ⟨N, R, B, C⟩ σ H := h
theorem st_rt {N : St → Hp → Prop} {R : VK} {B C : St → Hp → Prop} {v : V} (h : R v H) : Ends.rt ⟨N, R, B, C⟩ v H := h
theorem st_bk {N : St → Hp → Prop} {R : VK} {B C : St → Hp → Prop} (h : B σ H) : Ends.bk ⟨N, R, B, C⟩ σ H := h
theorem st_ct {N : St → Hp → Prop} {R : VK} {B C : St → Hp → Prop} (h : C σ H) : Ends.ct ⟨N, R, B, C⟩ σ H := h
theorem st_while {c : TT} {tb : TS} (W : Nat → St → Hp → Prop) (m0 : Nat) (h0 : W m0 σ H) (hs : ∀ m σ H, W m σ H → c σ H fun b H1 => if b = true then ∃ N : St → Hp → Prop, (∀ σ' H', N σ' H' → ∃ m', m' < m ∧ W m' σ' H') ∧ tb { D with nx := N, ct := N, bk := D.nx } σ H1 else D.nx σ H1) : tWhile c tb D σ H :=
  ⟨W, ⟨m0, h0⟩, hs⟩
theorem st_wt {tb : TS} {W : Nat → St → Hp → Prop} {m : Nat} {R : VK} {B : St → Hp → Prop} (h : tb ⟨fun σ' H' => ∃ m', m' < m ∧ W m' σ' H', R, B, fun σ' H' => ∃ m', m' < m ∧ W m' σ' H'⟩ σ H) : ∃ N : St → Hp → Prop, (∀ σ' H', N σ' H' → ∃ m', m' < m ∧ W m' σ' H') ∧ tb ⟨N, R, B, N⟩ σ H := ⟨_, fun _ _ z => z, h⟩
theorem st_for {wi : TI} {g : TG} {tb : TS} (h : wi σ H fun J H1 => kFor J g tb D σ H1) : tFor wi g tb D σ H := h
theorem st_iL {K : PySem.W.Frag} {R : It → Hp → Prop} (h : te σ H fun x H1 => kIL K x H1 R) : iList K te σ H R := h
theorem st_iU {K : PySem.W.Frag} {R : It → Hp → Prop} (h : te σ H fun x H1 => kIU K x H1 R) : iTup K te σ H R := h
theorem st_iR1 {ta : TA} {R : It → Hp → Prop} (h : ta σ H fun vs H1 => kIR vs H1 R) : iRng1 ta σ H R := h
theorem st_iS {R : It → Hp → Prop} (h : te σ H fun v H1 => kIS v H1 R) : iStr te σ H R := h
theorem st_iK {R : It → Hp → Prop} (h : te σ H fun x H1 => kIK x H1 R) : iKeys te σ H R := h
/-- for over a list: the invariant, the list, the start, the list stays, a turn, behind -/
theorem k_forL {K : PySem.W.Frag} {a : Addr} {xs : List V} {g : TG} {tb : TS} (Pv : Nat → St → Hp → Prop) (hx : SqL K H a xs) (h0 : Pv 0 σ H) (hl : ∀ i σ H, i ≤ xs.length → Pv i σ H → SqL K H a xs)
    (hs : ∀ i x σ H, xs[i]? = some x → Pv i σ H → g x σ H fun σ2 H2 => tb ⟨Pv (i + 1), D.rt, D.nx, Pv (i + 1)⟩ σ2 H2) (hd : ∀ σ H, Pv xs.length σ H → D.nx σ H) : kIL K (.ref a) H fun J H1 => kFor J g tb D σ H1 :=
  ⟨a, rfl, ⟨xs, hx⟩, for_list Pv h0 hl hs hd⟩
theorem k_forU {K : PySem.W.Frag} {a : Addr} {xs : List V} {g : TG} {tb : TS} (Pv : Nat → St → Hp → Prop) (hx : SqT K H a xs) (h0 : Pv 0 σ H) (hl : ∀ i σ H, i ≤ xs.length → Pv i σ H → SqT K H a xs)
    (hs : ∀ i x σ H, xs[i]? = some x → Pv i σ H → g x σ H fun σ2 H2 => tb ⟨Pv (i + 1), D.rt, D.nx, Pv (i + 1)⟩ σ2 H2) (hd : ∀ σ H, Pv xs.length σ H → D.nx σ H) : kIU K (.ref a) H fun J H1 => kFor J g tb D σ H1 :=
  ⟨a, rfl, ⟨xs, hx⟩, for_tup Pv h0 hl hs hd⟩
theorem k_forR {n : Int} {g : TG} {tb : TS} (Pv : Nat → St → Hp → Prop) (hn : n < 2 ^ 62) (hn0 : 0 ≤ n) (h0 : Pv 0 σ H)
    (hs : ∀ (i : Nat) σ H, (i : Int) < n → Pv i σ H → g (.int i) σ H fun σ2 H2 => tb ⟨Pv (i + 1), D.rt, D.nx, Pv (i + 1)⟩ σ2 H2) (hd : ∀ σ H, Pv n.toNat σ H → D.nx σ H) : kIR [V.int n] H fun J H1 => kFor J g tb D σ H1 :=
  ⟨n, rfl, by omega, hn, for_range (lo := 0) (n := n.toNat) Pv h0 (fun i σ H hi p => by
        have e : (0 : Int) + (i : Nat) = (i : Int) := by omega
        have q := hs i σ H (by omega) p
        rw [← e] at q
        exact q) hd⟩
/-- for over a text -/
theorem k_forS {z : Str} {g : TG} {tb : TS} (Pv : Nat → St → Hp → Prop) (h0 : Pv 0 σ H)
    (hs : ∀ i c σ H, z.cps.toList[i]? = some c → Pv i σ H → g (.str ⟨#[c]⟩) σ H fun σ2 H2 => tb ⟨Pv (i + 1), D.rt, D.nx, Pv (i + 1)⟩ σ2 H2) (hd : ∀ σ H, Pv z.length σ H → D.nx σ H) : kIS (.str z) H fun J H1 => kFor J g tb D σ H1 :=
  ⟨z, rfl, fun i m σ H => m = z.length - i ∧ i ≤ z.length ∧ Pv i σ H, ⟨z.length, by simp, Nat.zero_le _, h0⟩, by
    rintro i m σ H ⟨rfl, hi, p⟩
    by_cases hlt : i < z.length
    · refine .inr ⟨hlt, Pv (i + 1), fun σ' H' p' => ⟨z.length - (i + 1), by omega, rfl, hlt, p'⟩, fun x H' y => ?_⟩
      obtain ⟨e, c, hc, y⟩ := y
      subst e y
      exact hs i c σ _ (by rw [Array.getElem?_toList]; exact hc) p
    · have e : i = z.length := by omega
      subst e
      exact .inl ⟨Nat.le_refl _, hd σ H p⟩⟩
theorem st_lock {t : TS} (h : kLock t D σ H) : tLock t D σ H := h
theorem k_lock {t : TS} (d : Addr) (u : HO) (h : H d = some u) (m : Mut (some u)) (q : ∀ od, t ⟨fun σ' H' => H' d = some (.frz od u) ∧ D.nx σ' (upd H' d u), fun v H' => H' d = some (.frz od u) ∧ D.rt v (upd H' d u), fun σ' H' => H' d = some (.frz od u) ∧ D.bk σ' (upd H' d u), fun σ' H' => H' d = some (.frz od u) ∧ D.ct σ' (upd H' d u)⟩ σ (upd H d (.frz od u))) : kLock t D σ H := ⟨d, u, h, m, q⟩
/-- for over a dict's keys, under the lock -/
theorem k_forK {d : Addr} {od : Obj} {l : List (Str × V)} {g : TG} {tb : TS} (Pv : Nat → St → Hp → Prop) (h : H d = some (.frz od (.dK (skv l)))) (h0 : Pv 0 σ H) (hl : ∀ i σ H, Pv i σ H → H d = some (.frz od (.dK (skv l))))
    (hs : ∀ i k v σ H, l[i]? = some (k, v) → Pv i σ H → g (.str k) σ H fun σ2 H2 => tb ⟨Pv (i + 1), D.rt, D.nx, Pv (i + 1)⟩ σ2 H2) (hd : ∀ σ H, Pv l.length σ H → D.nx σ H) : kIK (.ref d) H fun J H1 => kFor J g tb D σ H1 :=
  ⟨d, od, rfl, .inl ⟨skv l, h, fun i m σ H => m = l.length - i ∧ i ≤ l.length ∧ Pv i σ H, ⟨l.length, by simp, Nat.zero_le _, h0⟩, by
    rintro i m σ H ⟨rfl, hi, p⟩
    have ls : (skv l).length = l.length := List.length_map _
    by_cases hlt : i < l.length
    · refine .inr ⟨⟨hl i σ H p, by rw [ls]; exact hlt⟩, Pv (i + 1), fun σ' H' p' => ⟨l.length - (i + 1), by omega, rfl, hlt, p'⟩, fun x H' y => ?_⟩
      obtain ⟨e, k, v, hk, y⟩ := y
      subst e y
      unfold skv at hk
      rw [List.getElem?_map] at hk
      cases q : l[i]? with
      | none => rw [q] at hk; cases hk
      | some kv =>
        rw [q] at hk
        cases hk
        exact hs i kv.1 kv.2 σ _ (by rw [q]) p
    · have e : i = l.length := by omega
      subst e
      exact .inl ⟨⟨hl _ σ H p, by rw [ls]; exact Nat.le_refl _⟩, hd σ H p⟩⟩⟩
theorem st_next (h : D.nx σ H) : tNext D σ H := h
theorem st_brk (h : D.bk σ H) : tBreak D σ H := h
theorem st_cont (h : D.ct σ H) : tCont D σ H := h
theorem st_set (h : te σ H fun x H1 => D.nx (σ.set i (some x)) H1) : tAsg te (gName i) D σ H := h
theorem st_asg {g : TG} (h : te σ H fun x H1 => g x σ H1 D.nx) : tAsg te g D σ H := h
theorem st_drop (h : te σ H fun _ H1 => D.nx σ H1) : tDrop te D σ H := h
theorem st_ret (h : te σ H D.rt) : tRet te D σ H := h
theorem st_retN (h : D.rt .non H) : tRetN D σ H := h
theorem st_if {c : TT} (h : c σ H fun b H1 => if b = true then t D σ H1 else u D σ H1) : tIfS c t u D σ H := h
theorem st_name {v : V} {Q : St → Hp → Prop} (h : Q (σ.set i (some v)) H) : gName i v σ H Q := h
theorem st_gc {v : V} {r : List V} {g : TG} {gs : TGs} {Q : St → Hp → Prop} (h : g v σ H fun σ' H' => gs r σ' H' Q) : gCons g gs (v :: r) σ H Q := ⟨v, r, rfl, h⟩
theorem st_gn {Q : St → Hp → Prop} (h : Q σ H) : gNil [] σ H Q := ⟨rfl, h⟩
end

/-! ### dicts with text keys -/
section
variable {β γ : Type}
def getS (l : List (Str × β)) (k : Str) : Option β := (l.find? fun p => decide (p.1 = k)).map (·.2)
def putS (l : List (Str × β)) (k : Str) (v : β) : List (Str × β) :=
  if (l.any fun p => decide (p.1 = k)) = true then l.map (fun p => if p.1 = k then (p.1, v) else p) else l ++ [(k, v)]
def dropS (l : List (Str × β)) (k : Str) : List (Str × β) := l.filter fun p => decide (p.1 ≠ k)
end
theorem key_iff (a k : Str) : decide ((Sum.inr a : Key) = Sum.inr k) = decide (a = k) := decide_eq_decide.mpr ⟨fun e => Sum.inr.inj e, fun e => congrArg _ e⟩
theorem valV_skv (k : Str) : ∀ l : List (Str × V), valV (skv l) (Sum.inr k : Key) = getS l k
  | [] => rfl
  | (a, v) :: r => by
    have ih := valV_skv k r
    by_cases e : a = k
    · have e' : (Sum.inr a : Key) = Sum.inr k := congrArg _ e
      show valV ((Sum.inr a, v) :: skv r) _ = _
      rw [valV_pos e']
      simp [getS, List.find?_cons, e]
    · have e' : ¬ (Sum.inr a : Key) = Sum.inr k := fun z => e (Sum.inr.inj z)
      show valV ((Sum.inr a, v) :: skv r) _ = _
      rw [valV_neg e', ih]
      simp [getS, List.find?_cons, e]
theorem putK_skv (l : List (Str × V)) (k : Str) (v : V) : putK (skv l) (Sum.inr k : Key) v = skv (putS l k v) := by
  have ha : ((skv l).any fun kv => decide (kv.1 = (Sum.inr k : Key))) = l.any fun p => decide (p.1 = k) := by
    unfold skv
    rw [List.any_map]
    congr 1
    funext p
    exact key_iff _ _
  unfold putK putS
  rw [ha]
  split
  · unfold skv
    rw [List.map_map, List.map_map]
    apply List.map_congr_left
    intro p _
    show (if (Sum.inr p.1 : Key) = Sum.inr k then _ else _) = _
    by_cases e : p.1 = k
    · rw [if_pos (congrArg _ e)]
      simp [e]
    · rw [if_neg (fun z => e (Sum.inr.inj z))]
      simp [e]
  · simp [skv]
theorem dropK_skv (l : List (Str × V)) (k : Str) : dropK (skv l) (Sum.inr k : Key) = skv (dropS l k) := by
  unfold dropK dropS skv
  rw [List.filter_map]
  congr 1
  apply List.filter_congr
  intro p _
  show decide (¬ (Sum.inr p.1 : Key) = Sum.inr k) = decide (¬ p.1 = k)
  exact decide_eq_decide.mpr ⟨fun h e => h (congrArg _ e), fun h e => h (Sum.inr.inj e)⟩
theorem len_skv (l : List (Str × V)) : (skv l).length = l.length := List.length_map _
def kDg (x y : V) (H : Hp) (Q : VK) : Prop := ∃ a l s v, x = .ref a ∧ y = .str s ∧ Rd H a (dS l) ∧ getS l s = some v ∧ Q v H
def kIsD (x : V) (H : Hp) (P : Prop) : Prop := ∃ a l, x = .ref a ∧ Rd H a (dS l) ∧ P
def kDg2 (x y z : V) (H : Hp) (Q : VK) : Prop := ∃ a l s, x = .ref a ∧ y = .str s ∧ Rd H a (dS l) ∧ Q ((getS l s).getD z) H
def kDi (x y : V) (H : Hp) (Q : VK) : Prop := ∃ a l s, x = .ref a ∧ y = .str s ∧ Rd H a (dS l) ∧ Q (.bl (getS l s).isSome) H
def kDn (x y : V) (H : Hp) (Q : VK) : Prop := ∃ a l s, x = .ref a ∧ y = .str s ∧ Rd H a (dS l) ∧ Q (.bl (!(getS l s).isSome)) H
def kDp (x y v : V) (H : Hp) (P : Hp → Prop) : Prop := ∃ a l s, x = .ref a ∧ y = .str s ∧ H a = some (dS l) ∧ l.length < sizeLine ∧ P (upd H a (dS (putS l s v)))
def kPo (x y : V) (H : Hp) (Q : VK) : Prop := ∃ a l s v, x = .ref a ∧ y = .str s ∧ H a = some (dS l) ∧ getS l s = some v ∧ Q v (upd H a (dS (dropS l s)))
def kPo2 (x y z : V) (H : Hp) (Q : VK) : Prop := ∃ a l s, x = .ref a ∧ y = .str s ∧ H a = some (dS l) ∧ (∀ v, getS l s = some v → Q v (upd H a (dS (dropS l s)))) ∧ (getS l s = none → Q z H)
def tDg (td ty : TE) : TE := fun σ H Q => td σ H fun x H1 => ty σ H1 fun y H2 => kDg x y H2 Q
def tDg2 (td ty tx : TE) : TE := fun σ H Q => td σ H fun x H1 => kIsD x H1 (ty σ H1 fun y H2 => tx σ H2 fun z H3 => kDg2 x y z H3 Q)
def tDi (ty td : TE) : TE := fun σ H Q => ty σ H fun y H1 => td σ H1 fun x H2 => kDi x y H2 Q
def tDn (ty td : TE) : TE := fun σ H Q => ty σ H fun y H1 => td σ H1 fun x H2 => kDn x y H2 Q
def sDp (td ty tv : TE) : TS := fun D σ H => tv σ H fun v H1 => td σ H1 fun x H2 => ty σ H2 fun y H3 => kDp x y v H3 fun H4 => D.nx σ H4
def tPo (td ty : TE) : TE := fun σ H Q => td σ H fun x H1 => kIsD x H1 (ty σ H1 fun y H2 => kPo x y H2 Q)
def tPo2 (td ty tx : TE) : TE := fun σ H Q => td σ H fun x H1 => kIsD x H1 (ty σ H1 fun y H2 => tx σ H2 fun z H3 => kPo2 x y z H3 Q)
theorem dget_rd {H : Hp} {a : Addr} {l : List (Str × V)} (h : Rd H a (dS l)) (s : Str) : DGet H a (.str s) (getS l s) := .inl ⟨skv l, Sum.inr s, h, rfl, (valV_skv s l).symm ▸ rfl⟩
section
variable {X : Cx} {o i e f value : Expr} {pos pos' apos cpos : Pos} {td ty tx tv : TE}
theorem an_dget (hu : X.A.units + 1 < cLine) (ho : PE X o td) (hi : PE X i ty) (hs : NoSl i := by exact fun _ _ => rfl) : PE X (.Subscript o i pos) (tDg td ty) := by
  refine ⟨fun pins s σ H Q I h => ?_⟩
  refine subD_of PySem.F.slot_dict_getitem.lookup hs (thn (ho.run pins s σ H _ I h) fun u s1 ⟨x, H1, I1, rx, q1⟩ => thn (hi.run pins s1 σ H1 _ I1 q1) fun iv s2 ⟨y, H2, I2, ry, a, l, k, v, ex, ey, g, e, q2⟩ => ?_)
  subst ex ey
  obtain rfl : u = Value.ref a := rx
  have g' : DGet H2 a (.str k) (some v) := e ▸ dget_rd g k
  exact ⟨dict_typeIs I2 g', d_getItem hu I2 g' ry fun w' s3 I3 rw' => ⟨v, H2, I3, rw', q2⟩⟩
theorem an_din (hu : X.A.units + 1 < cLine) (hi : PE X i ty) (ho : PE X o td) : PC X .In i o (tDi ty td) := by
  refine ⟨fun pins s σ H Q I h => ?_⟩
  refine thn (hi.run pins s σ H _ I h) fun iv s1 ⟨y, H1, I1, ry, q1⟩ => thn (ho.run pins s1 σ H1 _ I1 q1) fun u s2 ⟨x, H2, I2, rx, a, l, k, ex, ey, g, q2⟩ => ?_
  subst ex ey
  obtain rfl : u = Value.ref a := rx
  exact d_in hu I2 (dget_rd g k) ry fun s3 I3 => ⟨.bl _, H2, I3, rfl, q2⟩
theorem an_dnin (hu : X.A.units + 1 < cLine) (hi : PE X i ty) (ho : PE X o td) : PC X .NotIn i o (tDn ty td) := by
  refine ⟨fun pins s σ H Q I h => ?_⟩
  refine thn (hi.run pins s σ H _ I h) fun iv s1 ⟨y, H1, I1, ry, q1⟩ => thn (ho.run pins s1 σ H1 _ I1 q1) fun u s2 ⟨x, H2, I2, rx, a, l, k, ex, ey, g, q2⟩ => ?_
  subst ex ey
  obtain rfl : u = Value.ref a := rx
  exact d_notIn hu I2 (dget_rd g k) ry fun s3 I3 => ⟨.bl _, H2, I3, rfl, q2⟩
theorem an_dput (hu : X.A.units + 1 < cLine) (ho : PE X o td) (hi : PE X i ty) (hv : PE X value tv) (hs : swapsWith value (some (.Subscript o i pos')) pos.line X.env = pure false := by rfl) :
    PS X (.Assign [.Subscript o i pos'] value pos) (sDp td ty tv) := by
  refine ⟨fun pins s σ H D I h => ?_⟩
  refine wpAny_Assign_Subscript (thn (hv.run pins s σ H _ I h) fun r s1 ⟨v, H1, I1, rv, q1⟩ => thn (ho.run pins s1 σ H1 _ I1 q1) fun u s2 ⟨x, H2, I2, rx, q2⟩ => thn (hi.run pins s2 σ H2 _ I2 q2) fun iv s3 ⟨y, H3, I3, ry, a, l, k, ex, ey, g, z, q3⟩ => ?_) hs
  subst ex ey
  obtain rfl : u = Value.ref a := rx
  have q4 : D.nx σ (upd H3 a (.dK (putK (skv l) (Sum.inr k) v))) := by
    rw [putK_skv]
    exact q3
  exact d_setItem hu I3 (DPut.k (k := Sum.inr k) g (by rw [len_skv]; exact z)) ry rv fun s4 I4 => ⟨σ, _, I4, q4⟩
theorem an_dget2 (hu : X.A.units + 1 < cLine) (ho : PE X o td) (he : PE X e ty) (hf : PE X f tx) (m : M2 X o "get" apos e f cpos := by exact ⟨rfl, rfl, rfl, rfl⟩) : PE X (.Call (.Attribute o "get" apos) [e, f] [] cpos) (tDg2 td ty tx) := by
  refine ⟨fun pins s σ H Q I h => ?_⟩
  refine wpAny_Call_method m.base m.few m.line PySem.F.plainAttrs_dict PySem.F.slot_dict_get PySem.F.type_dict_get (thn (ho.run pins s σ H _ I h) fun u s1 ⟨x, H1, I1, rx, a, l, ex, d, q1⟩ => ?_)
  subst ex
  obtain rfl : u = Value.ref a := rx
  obtain ⟨t1, t2, _⟩ := isD_at I1 (.inl ⟨_, d⟩)
  refine ⟨t1, t2, ?_⟩
  rw [m.trees]
  refine Calls.callWith_builtin rfl (Calls.evalArgs_plain (Calls.spliced_cons (thn (he.run pins s1 σ H1 _ I1 q1) fun iv s2 ⟨y, H2, I2, ry, q2⟩ =>
    Calls.spliced_cons (thn (hf.run pins s2 σ H2 _ I2 q2) fun fv s3 ⟨z, H3, I3, rz, a', l', k, ea, ey, d', q3⟩ => Calls.spliced_nil ?_))))
  subst ey
  cases ea
  exact d_get2 hu I3 (dget_rd d' k) ry rz fun w' s4 I4 rw' => ⟨_, H3, I4, rw', q3⟩
theorem an_dpop (ho : PE X o td) (he : PE X e ty) (m : M1 X o "pop" apos e cpos := by exact ⟨rfl, rfl, rfl, rfl⟩) : PE X (.Call (.Attribute o "pop" apos) [e] [] cpos) (tPo td ty) := by
  refine ⟨fun pins s σ H Q I h => ?_⟩
  refine wpAny_Call_method m.base m.few m.line PySem.F.plainAttrs_dict PySem.F.slot_dict_pop PySem.F.type_dict_pop (thn (ho.run pins s σ H _ I h) fun u s1 ⟨x, H1, I1, rx, a, l, ex, d, q1⟩ => ?_)
  subst ex
  obtain rfl : u = Value.ref a := rx
  obtain ⟨t1, t2, _⟩ := isD_at I1 (.inl ⟨_, d⟩)
  refine ⟨t1, t2, ?_⟩
  rw [m.trees]
  refine Calls.callWith_builtin rfl (Calls.evalArgs_plain (Calls.spliced_cons (thn (he.run pins s1 σ H1 _ I1 q1) fun iv s2 ⟨y, H2, I2, ry, a', l', k, v, ea, ey, d', g, q2⟩ => Calls.spliced_nil ?_)))
  subst ey
  cases ea
  have q3 : Q v (upd H2 a (.dK (dropK (skv l') (Sum.inr k)))) := by
    rw [dropK_skv]
    exact q2
  exact d_pop (k := Sum.inr k) I2 d' ry ((valV_skv k l').trans g) (.inl rfl) fun w' s3 I3 rw' => ⟨v, _, I3, rw', q3⟩
theorem an_dpop2 (ho : PE X o td) (he : PE X e ty) (hf : PE X f tx) (m : M2 X o "pop" apos e f cpos := by exact ⟨rfl, rfl, rfl, rfl⟩) : PE X (.Call (.Attribute o "pop" apos) [e, f] [] cpos) (tPo2 td ty tx) := by
  refine ⟨fun pins s σ H Q I h => ?_⟩
  refine wpAny_Call_method m.base m.few m.line PySem.F.plainAttrs_dict PySem.F.slot_dict_pop PySem.F.type_dict_pop (thn (ho.run pins s σ H _ I h) fun u s1 ⟨x, H1, I1, rx, a, l, ex, d, q1⟩ => ?_)
  subst ex
  obtain rfl : u = Value.ref a := rx
  obtain ⟨t1, t2, _⟩ := isD_at I1 (.inl ⟨_, d⟩)
  refine ⟨t1, t2, ?_⟩
  rw [m.trees]
  refine Calls.callWith_builtin rfl (Calls.evalArgs_plain (Calls.spliced_cons (thn (he.run pins s1 σ H1 _ I1 q1) fun iv s2 ⟨y, H2, I2, ry, q2⟩ =>
    Calls.spliced_cons (thn (hf.run pins s2 σ H2 _ I2 q2) fun fv s3 ⟨z, H3, I3, rz, a', l', k, ea, ey, d', q3, q4⟩ => Calls.spliced_nil ?_))))
  subst ey
  cases ea
  cases g : getS l' k with
  | some v =>
    have q5 : Q v (upd H3 a (.dK (dropK (skv l') (Sum.inr k)))) := by
      rw [dropK_skv]
      exact q3 v g
    exact d_pop (k := Sum.inr k) I3 d' ry ((valV_skv k l').trans g) (.inr ⟨fv, rfl⟩) fun w' s4 I4 rw' => ⟨v, _, I4, rw', q5⟩
  | none => exact d_popD (k := Sum.inr k) I3 d' ry ((valV_skv k l').trans g) fun s4 I4 => ⟨z, H3, I4, rz, q4 g⟩
/-- dict(d) -/
def rDictS : List V → Hp → VK → Prop := fun xs H Q => ∃ a l, xs = [.ref a] ∧ Rd H a (dS l) ∧ ∀ p, H p = none → Q (.ref p) (upd H p (dS l))
theorem call_dictS : CallR X (.type "dict") rDictS := by
  intro pins s σ H xs us Q I r h
  obtain ⟨a, l, rfl, ha, q⟩ := h
  obtain ⟨u, rfl, ru⟩ := vals1 r
  cases ru
  exact d_copyOf I ha fun p s' hp I' => ⟨.ref p, _, I', rfl, q p hp⟩
end
section
variable {D : Ends} {σ : St} {H : Hp} {Q : VK} {a : Addr} {l : List (Str × V)} {s : Str} {v z : V} {td ty tx tv : TE}
theorem e_dg (h : td σ H fun x H1 => ty σ H1 fun y H2 => kDg x y H2 Q) : tDg td ty σ H Q := h
theorem e_dg2 (h : td σ H fun x H1 => kIsD x H1 (ty σ H1 fun y H2 => tx σ H2 fun z H3 => kDg2 x y z H3 Q)) : tDg2 td ty tx σ H Q := h
theorem e_di (h : ty σ H fun y H1 => td σ H1 fun x H2 => kDi x y H2 Q) : tDi ty td σ H Q := h
theorem e_dn (h : ty σ H fun y H1 => td σ H1 fun x H2 => kDn x y H2 Q) : tDn ty td σ H Q := h
theorem e_dp (h : tv σ H fun v H1 => td σ H1 fun x H2 => ty σ H2 fun y H3 => kDp x y v H3 fun H4 => D.nx σ H4) : sDp td ty tv D σ H := h
theorem e_po (h : td σ H fun x H1 => kIsD x H1 (ty σ H1 fun y H2 => kPo x y H2 Q)) : tPo td ty σ H Q := h
theorem e_po2 (h : td σ H fun x H1 => kIsD x H1 (ty σ H1 fun y H2 => tx σ H2 fun z H3 => kPo2 x y z H3 Q)) : tPo2 td ty tx σ H Q := h
theorem k_dg (h : Rd H a (dS l)) (g : getS l s = some v) (q : Q v H) : kDg (.ref a) (.str s) H Q := ⟨a, l, s, v, rfl, rfl, h, g, q⟩
theorem k_isD {P : Prop} (h : Rd H a (dS l)) (q : P) : kIsD (.ref a) H P := ⟨a, l, rfl, h, q⟩
theorem k_dg2 (h : Rd H a (dS l)) (q : Q ((getS l s).getD z) H) : kDg2 (.ref a) (.str s) z H Q := ⟨a, l, s, rfl, rfl, h, q⟩
theorem k_di (h : Rd H a (dS l)) (q : Q (.bl (getS l s).isSome) H) : kDi (.ref a) (.str s) H Q := ⟨a, l, s, rfl, rfl, h, q⟩
theorem k_dn (h : Rd H a (dS l)) (q : Q (.bl (!(getS l s).isSome)) H) : kDn (.ref a) (.str s) H Q := ⟨a, l, s, rfl, rfl, h, q⟩
theorem k_dp {P : Hp → Prop} (h : H a = some (dS l)) (c : l.length < sizeLine) (q : P (upd H a (dS (putS l s v)))) : kDp (.ref a) (.str s) v H P := ⟨a, l, s, rfl, rfl, h, c, q⟩
theorem k_po (h : H a = some (dS l)) (g : getS l s = some v) (q : Q v (upd H a (dS (dropS l s)))) : kPo (.ref a) (.str s) H Q := ⟨a, l, s, v, rfl, rfl, h, g, q⟩
theorem e_dictS (h : Rd H a (dS l)) (q : ∀ p, H p = none → Q (.ref p) (upd H p (dS l))) : rDictS [.ref a] H Q := ⟨a, l, rfl, h, q⟩
end
/-! ### named rules -/
abbrev rAddI : R2 := rI0 fun i j => .int (i + j)
abbrev rSubI : R2 := rI0 fun i j => .int (i - j)
abbrev rModI : R2 := rI (fun _ j => 0 < j) fun i j => .int (i % j)
abbrev rDivI : R2 := rI CDivW fun i j => .int (i / j)
abbrev rMulI : R2 := rI IntMulOk fun i j => .int (i * j)
abbrev rPowI : R2 := rI CPow fun i j => .int (i ^ j.toNat)
abbrev rLtI : R2 := rI0 fun i j => .bl (decide (i < j))
abbrev rLeI : R2 := rI0 fun i j => .bl (decide (i ≤ j))
abbrev rGtI : R2 := rI0 fun i j => .bl (decide (j < i))
abbrev rGeI : R2 := rI0 fun i j => .bl (decide (j ≤ i))
abbrev rNeg : V → Hp → VK → Prop := rU fun i => .int (-i)
def rAddS : R2 := fun x y H Q => ∃ i j, x = .str i ∧ y = .str j ∧ i.length + j.length ≤ sizeLine ∧ Q (.str (i ++ j)) H
def rLenL (K : PySem.W.Frag) : List V → Hp → VK → Prop := fun xs H Q => ∃ p ys, xs = [.ref p] ∧ (SqL K H p ys ∨ SqT K H p ys) ∧ Q (.int ys.length) H
def rLenT : List V → Hp → VK → Prop := fun xs H Q => ∃ z, xs = [.str z] ∧ z.length ≤ sizeLine ∧ Q (.int z.length) H
def rLenD : List V → Hp → VK → Prop := fun xs H Q => ∃ a l, xs = [V.ref a] ∧ Rd H a (dS l) ∧ Q (.int l.length) H
def rListL (K : PySem.W.Frag) : List V → Hp → VK → Prop := fun xs H Q => ∃ p ys, xs = [.ref p] ∧ (SqL K H p ys ∨ SqT K H p ys) ∧ ∀ l, H l = none → Q (.ref l) (upd H l (.lst ys))
def rMin2 : List V → Hp → VK → Prop := fun xs H Q => ∃ i j, xs = [.int i, .int j] ∧ Q (.int (if j < i then j else i)) H
def rMax2 : List V → Hp → VK → Prop := fun xs H Q => ∃ i j, xs = [.int i, .int j] ∧ Q (.int (if j > i then j else i)) H
def rIntB : List V → Hp → VK → Prop := fun xs H Q => ∃ k, xs = [.bl k] ∧ Q (.int (if k = true then 1 else 0)) H
def rIntS : List V → Hp → VK → Prop := fun xs H Q => ∃ a n, xs = [.str a] ∧ PySem.intText? a = some n ∧ a.length ≤ 640 ∧ Q (.int n) H
def rStrI : List V → Hp → VK → Prop := fun xs H Q => ∃ i, xs = [.int i] ∧ i.natAbs.log2 < 1920 ∧ Q (.str (toString i)) H
section
variable {X : Cx}
theorem op_mulX : OpR X (binaryOp .Mult) rMulI := opI fun _ _ _ _ _ _ _ hc q => mul_int q hc
theorem op_addS : OpR X (binaryOp .Add) rAddS := op_add_str
theorem call_lenL : CallR X (.builtin "len") (rLenL X.K) := call_len_seq
theorem call_lenT : CallR X (.builtin "len") rLenT := call_len_str
theorem call_lenS : CallR X (.builtin "len") rLenD := by
  intro pins s σ H xs us Q I r h
  obtain ⟨a, l, rfl, ha, q⟩ := h
  obtain ⟨u, rfl, ru⟩ := vals1 r
  cases ru
  refine d_len I ha fun t s' I' => ⟨.int l.length, H, I', ⟨t, ?_⟩, q⟩
  rw [len_skv]
theorem call_listL : CallR X (.type "list") (rListL X.K) := call_list_of
theorem call_min2N (hc : X.calm = true) : CallR X (.builtin "min") rMin2 := call_min2 hc
theorem call_max2N (hc : X.calm = true) : CallR X (.builtin "max") rMax2 := call_max2 hc
theorem call_intB : CallR X (.type "int") rIntB := fun pins s σ H xs us Q I r h => call_int1 pins s σ H xs us Q I r (.inr h)
theorem call_strI : CallR X (.type "str") rStrI := call_str_int
theorem an_cint {x : Str} {i : Int} {pos : Pos} (h : ∃ t, X.mg x = some (.int i t)) (hg : Gl X x := by rfl) (hd : (x == ("__debug__" : Str)) = false := by decide) : PE X (.Name x pos) (tC (.int i)) := let ⟨t, h⟩ := h; pe_glob hg h ⟨t, rfl⟩ hd
theorem an_cstr {x z : Str} {pos : Pos} (h : ∃ t, X.mg x = some (.str z t)) (hg : Gl X x := by rfl) (hd : (x == ("__debug__" : Str)) = false := by decide) : PE X (.Name x pos) (tC (.str z)) := let ⟨t, h⟩ := h; pe_glob hg h ⟨t, rfl⟩ hd
end
section
variable {H : Hp} {Q : VK} {K : PySem.W.Frag} {p l : Addr} {ys xs zs : List V} {v : V}
theorem e_mod {a b : Int} (c : 0 < b) (q : Q (.int (a % b)) H) : rModI (.int a) (.int b) H Q := e_I c q
theorem e_div {a b : Int} (c : CDivW a b) (q : Q (.int (a / b)) H) : rDivI (.int a) (.int b) H Q := e_I c q
theorem e_mul {a b : Int} (c : IntMulOk a b) (q : Q (.int (a * b)) H) : rMulI (.int a) (.int b) H Q := e_I c q
theorem e_addS {a b : Str} (c : a.length + b.length ≤ sizeLine) (q : Q (.str (a ++ b)) H) : rAddS (.str a) (.str b) H Q := ⟨a, b, rfl, rfl, c, q⟩
theorem e_lenL (h : SqL K H p ys) (q : Q (.int ys.length) H) : rLenL K [.ref p] H Q := ⟨p, ys, rfl, .inl h, q⟩
theorem e_lenU (h : SqT K H p ys) (q : Q (.int ys.length) H) : rLenL K [.ref p] H Q := ⟨p, ys, rfl, .inr h, q⟩
theorem e_lenT {z : Str} (c : z.length ≤ sizeLine) (q : Q (.int z.length) H) : rLenT [.str z] H Q := ⟨z, rfl, c, q⟩
theorem e_lenD {l : List (Str × V)} (h : Rd H p (dS l)) (q : Q (.int l.length) H) : rLenD [.ref p] H Q := ⟨p, l, rfl, h, q⟩
theorem e_listL (h : SqL K H p ys) (q : ∀ l, H l = none → Q (.ref l) (upd H l (.lst ys))) : rListL K [.ref p] H Q := ⟨p, ys, rfl, .inl h, q⟩
theorem e_listD {l : List (Str × V)} (h : H p = some (dS l)) (q : ∀ r, H r = none → Q (.ref r) (upd H r (.lst (l.map fun p => V.str p.1)))) : rListD [.ref p] H Q := ⟨p, skv l, rfl, h, fun r hr => by
  have e : (skv l).map (fun kv => kV kv.1) = l.map fun p => V.str p.1 := by
    unfold skv
    rw [List.map_map]
    rfl
  rw [e]
  exact q r hr⟩
theorem e_ixL {i : Int} (h : SqL K H p ys) (a : atI ys i = some v) (q : Q v H) : rIxL K (.ref p) (.int i) H Q := ⟨p, ys, i, v, rfl, rfl, h, a, q⟩
theorem e_ixT {i : Int} (h : SqT K H p ys) (a : atI ys i = some v) (q : Q v H) : rIxT K (.ref p) (.int i) H Q := ⟨p, ys, i, v, rfl, rfl, h, a, q⟩
theorem e_ixS {z : Str} {i : Int} {c : Nat} (hz : z.length ≤ sizeLine) (a : atI z.cps.toList i = some c) (q : Q (.str ⟨#[c]⟩) H) : rIxS (.str z) (.int i) H Q := ⟨z, i, c, rfl, rfl, hz, a, q⟩
theorem e_app (h : H l = some (.lst xs)) (c : xs.length < sizeLine) (q : Q .non (upd H l (.lst (xs ++ [v])))) : rAppend (.ref l) [v] H Q := ⟨l, xs, v, rfl, rfl, h, c, q⟩
theorem e_ext (h : H l = some (.lst xs)) (h2 : H p = some (.lst zs)) (c : xs.length + zs.length ≤ sizeLine) (q : Q .non (upd H l (.lst (xs ++ zs)))) : rExtend (.ref l) [.ref p] H Q := ⟨l, p, xs, zs, rfl, rfl, h, h2, c, q⟩
theorem e_pop (h : H l = some (.lst xs)) (a : xs[xs.length - 1]? = some v) (q : Q v (upd H l (.lst xs.dropLast))) : rPop (.ref l) [] H Q := ⟨l, xs, v, rfl, rfl, h, a, q⟩
theorem e_cat (h : H l = some (.lst xs)) (h2 : H p = some (.lst zs)) (c : xs.length + zs.length ≤ sizeLine) (q : ∀ r, H r = none → Q (.ref r) (upd H r (.lst (xs ++ zs)))) : rCat (.ref l) (.ref p) H Q := ⟨l, p, xs, zs, rfl, rfl, h, h2, c, q⟩
theorem ty_list (h : H l = some (.lst xs)) : tyV K "list" (.ref l) H := .inl ⟨rfl, _, SqL.of h⟩
theorem e_tyl {P : Prop} (h : H l = some (.lst xs)) (q : P) : tyV K "list" (.ref l) H ∧ P := ⟨ty_list h, q⟩
end

/-! ### instances: attributes by place -/
def posOf (ns : List Str) (f : Str) : Option Nat := ns.findIdx? (· == f)
/-- an instance of the class at C with the attributes ns, of the values vs -/
abbrev ob (C : Addr) (ns : List Str) (dx : Addr) (vs : List V) : HO := .ins C dx (ns.zip vs)
structure IsC (K : PySem.W.Frag) (C : Addr) (ns : List Str) : Prop where
  cl : Cls K C
  no : ∀ f ∈ ns, NoAttr K C f
theorem posOf_lookup {f : Str} {i : Nat} : ∀ {ns : List Str} {vs : List V}, posOf ns f = some i → (ns.zip vs).lookup f = vs[i]?
  | [], vs, h => by cases h
  | n :: ns, [], h => by simp
  | n :: ns, v :: vs, h => by
    unfold posOf at h
    rw [List.findIdx?_cons] at h
    by_cases e : (n == f) = true
    · rw [if_pos e] at h
      cases h
      have e2 : (f == n) = true := by rw [beq_iff_eq] at e ⊢; exact e.symm
      simp [List.lookup, e2]
    · rw [if_neg e] at h
      have e2 : (f == n) = false := by
        rw [Bool.eq_false_iff]
        intro z
        rw [beq_iff_eq] at z
        exact e (beq_iff_eq.mpr z.symm)
      cases q : List.findIdx? (· == f) ns with
      | none => rw [q] at h; cases h
      | some j =>
        rw [q] at h
        cases h
        show (List.lookup f ((n, v) :: ns.zip vs)) = _
        unfold List.lookup
        rw [e2]
        simpa using posOf_lookup (ns := ns) (vs := vs) q
theorem posOf_mem {f : Str} {i : Nat} {ns : List Str} (h : posOf ns f = some i) : f ∈ ns := by
  unfold posOf at h
  obtain ⟨hi, hf, _⟩ := List.findIdx?_eq_some_iff_getElem.mp h
  rw [beq_iff_eq] at hf
  rw [← hf]
  exact List.getElem_mem hi
theorem posOf_put {f : Str} {i : Nat} {y : V} : ∀ {ns : List Str} {vs : List V}, posOf ns f = some i → i < vs.length → putF f y (ns.zip vs) = ns.zip (vs.set i y)
  | [], vs, h, _ => by cases h
  | n :: ns, [], h, hl => by simp at hl
  | n :: ns, v :: vs, h, hl => by
    unfold posOf at h
    rw [List.findIdx?_cons] at h
    by_cases e : (n == f) = true
    · rw [if_pos e] at h
      cases h
      have e1 : n = f := beq_iff_eq.mp e
      show (if n = f then (n, y) :: ns.zip vs else _) = (n, y) :: ns.zip vs
      rw [if_pos e1]
    · rw [if_neg e] at h
      cases q : List.findIdx? (· == f) ns with
      | none => rw [q] at h; cases h
      | some j =>
        rw [q] at h
        cases h
        have e1 : ¬ n = f := fun z => e (beq_iff_eq.mpr z)
        show (if n = f then _ else (n, v) :: putF f y (ns.zip vs)) = (n, v) :: ns.zip (vs.set j y)
        rw [if_neg e1, posOf_put (ns := ns) (vs := vs) q (by simpa using hl)]
/-- a first store appends -/
theorem put_new {f : Str} {y : V} : ∀ {ns : List Str} {vs : List V}, ns.length = vs.length → posOf ns f = none → putF f y (ns.zip vs) = (ns ++ [f]).zip (vs ++ [y])
  | [], [], _, _ => rfl
  | n :: ns, v :: vs, hl, h => by
    unfold posOf at h
    rw [List.findIdx?_cons] at h
    by_cases e : (n == f) = true
    · rw [if_pos e] at h
      cases h
    · rw [if_neg e] at h
      have e1 : ¬ n = f := fun z => e (beq_iff_eq.mpr z)
      have h' : posOf ns f = none := by
        cases q : List.findIdx? (· == f) ns with
        | none => exact q
        | some j => rw [q] at h; cases h
      show (if n = f then _ else (n, v) :: putF f y (ns.zip vs)) = (n, v) :: (ns ++ [f]).zip (vs ++ [y])
      rw [if_neg e1, put_new (by simpa using hl) h']
def kFi (C : Addr) (ns : List Str) (i : Nat) (x : V) (H : Hp) (Q : VK) : Prop := ∃ a dx vs v, x = .ref a ∧ H a = some (ob C ns dx vs) ∧ vs[i]? = some v ∧ Q v H
def kSf (C : Addr) (ns : List Str) (i : Nat) (x y : V) (H : Hp) (P : Hp → Prop) : Prop := ∃ a dx vs, x = .ref a ∧ H a = some (ob C ns dx vs) ∧ i < vs.length ∧ P (upd H a (ob C ns dx (vs.set i y)))
def kNw (C : Addr) (ns : List Str) (f : Str) (x y : V) (H : Hp) (P : Hp → Prop) : Prop := ∃ a dx vs, x = .ref a ∧ H a = some (ob C ns dx vs) ∧ vs.length = ns.length ∧ P (upd H a (ob C (ns ++ [f]) dx (vs ++ [y])))
/-- e.f -/
def tFi (C : Addr) (ns : List Str) (i : Nat) (ta : TE) : TE := fun σ H Q => ta σ H fun x H1 => kFi C ns i x H1 Q
/-- e.f = value, the attribute there -/
def sFi (C : Addr) (ns : List Str) (i : Nat) (ta tv : TE) : TS := fun D σ H => tv σ H fun y H1 => ta σ H1 fun x H2 => kSf C ns i x y H2 fun H3 => D.nx σ H3
/-- self.f = value in __init__: the attribute is new, ns are those there -/
def sNw (C : Addr) (ns : List Str) (f : Str) (ta tv : TE) : TS := fun D σ H => tv σ H fun y H1 => ta σ H1 fun x H2 => kNw C ns f x y H2 fun H3 => D.nx σ H3
section
variable {D : Ends} {σ : St} {H : Hp} {Q : VK} {a C dx : Addr} {ns : List Str} {vs : List V} {i : Nat} {v y : V} {ta tv : TE} {f : Str}
theorem e_fi (h : ta σ H fun x H1 => kFi C ns i x H1 Q) : tFi C ns i ta σ H Q := h
theorem e_sf (h : tv σ H fun y H1 => ta σ H1 fun x H2 => kSf C ns i x y H2 fun H3 => D.nx σ H3) : sFi C ns i ta tv D σ H := h
theorem e_nw (h : tv σ H fun y H1 => ta σ H1 fun x H2 => kNw C ns f x y H2 fun H3 => D.nx σ H3) : sNw C ns f ta tv D σ H := h
theorem k_fi (h : H a = some (ob C ns dx vs)) (l : vs[i]? = some v) (q : Q v H) : kFi C ns i (.ref a) H Q := ⟨a, dx, vs, v, rfl, h, l, q⟩
theorem k_sf {P : Hp → Prop} (h : H a = some (ob C ns dx vs)) (l : i < vs.length) (q : P (upd H a (ob C ns dx (vs.set i y)))) : kSf C ns i (.ref a) y H P := ⟨a, dx, vs, rfl, h, l, q⟩
theorem k_nw {P : Hp → Prop} (h : H a = some (ob C ns dx vs)) (l : vs.length = ns.length) (q : P (upd H a (ob C (ns ++ [f]) dx (vs ++ [y])))) : kNw C ns f (.ref a) y H P := ⟨a, dx, vs, rfl, h, l, q⟩
end
section
variable {X : Cx} {o e value : Expr} {f : Str} {pos pos' : Pos} {ta tv : TE} {C : Addr} {ns : List Str} {i : Nat}
theorem an_fld (t : IsC X.K C ns) (p : posOf ns f = some i) (he : PE X e ta) (hb : attributeBase e f X.env (eval e X.env) = eval e X.env := by rfl) : PE X (.Attribute e f pos) (tFi C ns i ta) := by
  refine ⟨fun pins s σ H Q I h => ?_⟩
  refine attr_of hb (thn (he.run pins s σ H _ I h) fun u s1 ⟨x, H1, I1, rx, a, dx, vs, v, ex, ea, l, q⟩ => ?_)
  subst ex
  obtain rfl : u = Value.ref a := rx
  exact getattr_ok I1 ea t.cl (t.no f (posOf_mem p)) ((posOf_lookup p).trans l) fun u' s2 I2 ru => ⟨v, H1, I2, ru, q⟩
theorem zip_small {ns : List Str} {vs : List V} (h : ns.length < 1000) : (ns.zip vs).length < 1000 := by
  rw [List.length_zip]
  omega
theorem an_sfld (t : IsC X.K C ns) (p : posOf ns f = some i) (ha : PE X o ta) (hv : PE X value tv) (hs : swapsWith value (some (.Attribute o f pos')) pos.line X.env = pure false := by rfl) (hl : ns.length < 1000 := by decide) : PS X (.Assign [.Attribute o f pos'] value pos) (sFi C ns i ta tv) := by
  refine ⟨fun pins s σ H D I h => ?_⟩
  refine plainObj_wpAny_Assign_Attribute (thn (hv.run pins s σ H _ I h) fun u s1 ⟨y, H1, I1, ry, q⟩ => thn (ha.run pins s1 σ H1 _ I1 q) fun ov s2 ⟨x, H2, I2, rx, a, dx, vs, ex, ea, l, q2⟩ => ?_) hs
  subst ex
  obtain rfl : ov = Value.ref a := rx
  rw [show ob C ns dx (vs.set i y) = HO.ins C dx (putF f y (ns.zip vs)) from congrArg (HO.ins C dx) (posOf_put p l).symm] at q2
  exact setattr_ok I2 ea t.cl (t.no f (posOf_mem p)) (zip_small hl) ry fun s3 I3 => ⟨σ, _, I3, q2⟩
theorem an_snew {nsA : List Str} (t : IsC X.K C nsA) (hf : f ∈ nsA) (p : posOf ns f = none) (ha : PE X o ta) (hv : PE X value tv) (hs : swapsWith value (some (.Attribute o f pos')) pos.line X.env = pure false := by rfl) (hl : ns.length < 1000 := by decide) : PS X (.Assign [.Attribute o f pos'] value pos) (sNw C ns f ta tv) := by
  refine ⟨fun pins s σ H D I h => ?_⟩
  refine plainObj_wpAny_Assign_Attribute (thn (hv.run pins s σ H _ I h) fun u s1 ⟨y, H1, I1, ry, q⟩ => thn (ha.run pins s1 σ H1 _ I1 q) fun ov s2 ⟨x, H2, I2, rx, a, dx, vs, ex, ea, l, q2⟩ => ?_) hs
  subst ex
  obtain rfl : ov = Value.ref a := rx
  rw [show ob C (ns ++ [f]) dx (vs ++ [y]) = HO.ins C dx (putF f y (ns.zip vs)) from congrArg (HO.ins C dx) (put_new l.symm p).symm] at q2
  exact setattr_ok I2 ea t.cl (t.no f hf) (zip_small hl) ry fun s3 I3 => ⟨σ, _, I3, q2⟩
end

/-! ### == and != of data with a Lean type -/
section
open PySem.W (Datum)
def rEqY (K : PySem.W.Frag) : R2 := fun x y H Q => ∃ (α : Type) (i1 : DecidableEq α) (i2 : Datum α) (a b : α), Datum.depth α ≤ 64 ∧ Dp K H x (Datum.toD a) ∧ Dp K H y (Datum.toD b) ∧ Q (.bl (decide (a = b))) H
def rNeY (K : PySem.W.Frag) : R2 := fun x y H Q => ∃ (α : Type) (i1 : DecidableEq α) (i2 : Datum α) (a b : α), Datum.depth α ≤ 64 ∧ Dp K H x (Datum.toD a) ∧ Dp K H y (Datum.toD b) ∧ Q (.bl (!decide (a = b))) H
variable {X : Cx}
theorem op_eqY (hu : X.A.units + 64 < cLine) : OpR X (compareOp .Eq) (rEqY X.K) := by
  intro pins s σ H x y v u Q I rx ry h
  obtain ⟨α, i1, i2, a, b, hd, ha, hb, q⟩ := h
  obtain ⟨as, r1⟩ := Dp.reads I _ x v ha rx
  obtain ⟨bs, r2⟩ := Dp.reads I _ y u hb ry
  exact PySem.W.eq_datum (x := a) (y := b) ⟨as, r1⟩ ⟨bs, r2⟩ (by omega) ⟨.bl _, H, I, rfl, q⟩
theorem op_neY (hu : X.A.units + 64 < cLine) : OpR X (compareOp .NotEq) (rNeY X.K) := by
  intro pins s σ H x y v u Q I rx ry h
  obtain ⟨α, i1, i2, a, b, hd, ha, hb, q⟩ := h
  obtain ⟨as, r1⟩ := Dp.reads I _ x v ha rx
  obtain ⟨bs, r2⟩ := Dp.reads I _ y u hb ry
  refine PySem.W.ne_datum (x := a) (y := b) ⟨as, r1⟩ ⟨bs, r2⟩ (by omega) ⟨.bl _, H, I, rfl, ?_⟩
  rw [decide_not]
  exact q
variable {K : PySem.W.Frag} {H : Hp} {Q : VK} {x y : V}
theorem e_eqY {α : Type} [DecidableEq α] [Datum α] (a b : α) (hd : Datum.depth α ≤ 64) (ha : Dp K H x (Datum.toD a)) (hb : Dp K H y (Datum.toD b)) (q : Q (.bl (decide (a = b))) H) : rEqY K x y H Q := ⟨α, _, _, a, b, hd, ha, hb, q⟩
theorem e_neY {α : Type} [DecidableEq α] [Datum α] (a b : α) (hd : Datum.depth α ≤ 64) (ha : Dp K H x (Datum.toD a)) (hb : Dp K H y (Datum.toD b)) (q : Q (.bl (!decide (a = b))) H) : rNeY K x y H Q := ⟨α, _, _, a, b, hd, ha, hb, q⟩
theorem dpa_map {α : Type} [DecidableEq α] [Datum α] {f : α → V} (h : ∀ a, Dp K H (f a) (Datum.toD a)) : ∀ ys : List α, DpAll K H (ys.map f) (ys.map Datum.toD)
  | [] => .nil
  | y :: ys => .cons (h y) (dpa_map h ys)
theorem dp_strs {p : Addr} {ys : List Str} (h : SqL K H p (ys.map V.str)) : Dp K H (.ref p) (Datum.toD ys) := .lst h (dpa_map (fun a => .str a) ys)
theorem dp_ints {p : Addr} {ys : List Int} (h : SqL K H p (ys.map V.int)) : Dp K H (.ref p) (Datum.toD ys) := .lst h (dpa_map (fun a => .int a) ys)
end

section
variable {K : PySem.W.Frag} {H : Hp} {Q : VK} {p : Addr}
theorem inV_strs (x : Str) (ys : List Str) : inV (.str x) (ys.map V.str) = decide (x ∈ ys) := by
  unfold inV
  rw [List.any_map, Bool.eq_iff_iff, List.any_eq_true, decide_eq_true_eq]
  constructor
  · rintro ⟨y, hy, e⟩
    have e' : (y == x) = true := e
    rw [beq_iff_eq] at e'
    exact e' ▸ hy
  · exact fun h => ⟨x, h, by show (x == x) = true; exact beq_self_eq_true x⟩
theorem flat_strs (ys : List Str) : (ys.map V.str).all flatV = true := by
  rw [List.all_map, List.all_eq_true]
  exact fun _ _ => rfl
theorem e_inS {x : Str} {ys : List Str} (h : SqL K H p (ys.map V.str)) (q : Q (.bl (decide (x ∈ ys))) H) : rIn K false (.str x) (.ref p) H Q := ⟨p, _, rfl, .inl h, rfl, flat_strs ys, by
  rw [inV_strs]
  exact q⟩
theorem e_ninS {x : Str} {ys : List Str} (h : SqL K H p (ys.map V.str)) (q : Q (.bl (!decide (x ∈ ys))) H) : rIn K true (.str x) (.ref p) H Q := ⟨p, _, rfl, .inl h, rfl, flat_strs ys, by
  rw [inV_strs]
  exact q⟩
end

section
variable {σ : St} {H : Hp} {Q : VK} {ta tb : TE} {K : PySem.W.Frag} {te : TE} {tl th : TO}
theorem e_andV (h : ta σ H fun x H1 => ∃ c, x = .bl c ∧ if c = true then tb σ H1 Q else Q (.bl false) H1) : tAndV ta tb σ H Q := h
theorem e_orV (h : ta σ H fun x H1 => ∃ c, x = .bl c ∧ if c = true then Q (.bl true) H1 else tb σ H1 Q) : tOrV ta tb σ H Q := h
theorem e_notV (h : ta σ H fun x H1 => ∃ c, x = .bl c ∧ Q (.bl (!c)) H1) : tNotV ta σ H Q := h
theorem e_sl {r : V → Option Int → Option Int → Hp → VK → Prop} (h : te σ H fun x H1 => tl σ H1 fun l H2 => th σ H2 fun u H3 => r x l u H3 Q) : tSl r te tl th σ H Q := h
theorem e_np {Q : Option Int → Hp → Prop} (h : Q none H) : tNoPart σ H Q := h
theorem e_prt {Q : Option Int → Hp → Prop} (h : te σ H fun x H1 => ∃ i, x = .int i ∧ Q (some i) H1) : tPart te σ H Q := h
theorem e_ik {i : Int} {P : Int → Prop} (h : P i) : ∃ j, V.int i = .int j ∧ P j := ⟨i, rfl, h⟩
theorem e_slL {a : Addr} {xs : List V} {lo hi : Option Int} (h : SqL K H a xs) (q : ∀ p, H p = none → Q (.ref p) (upd H p (.lst (cutV xs lo hi)))) : rSlL K (.ref a) lo hi H Q := ⟨a, xs, rfl, h, q⟩
theorem cut_from (xs : List V) (n : Nat) : cutV xs (some (n : Int)) none = xs.drop n := by
  unfold cutV
  have e : HT.sIx xs.length 0 (some (n : Int)) = min n xs.length := by
    show (if (n : Int) < 0 then ((n : Int) + (xs.length : Int)).toNat else min (n : Int).toNat xs.length) = _
    rw [if_neg (by omega)]
    simp
  rw [e]
  show List.take (xs.length - min n xs.length) (xs.drop (min n xs.length)) = _
  by_cases h : n ≤ xs.length
  · rw [Nat.min_eq_left h]
    exact List.take_of_length_le (by simp)
  · rw [Nat.min_eq_right (by omega)]
    rw [List.drop_of_length_le (i := n) (by omega)]
    simp
/-- isinstance, a built-in type -/
theorem e_isiL {a : Addr} {xs : List V} {n : String} {b : Bool} (h : H a = some (.lst xs)) (e : kitB "list" n = some b) (q : Q (.bl b) H) : rIsi K [.ref a, .ty n] H Q := ⟨_, _, _, _, b, rfl, .ty n, .base (.lst h), kit_ty e, q⟩
theorem e_isiI {i : Int} {n : String} {b : Bool} (e : kitB "int" n = some b) (q : Q (.bl b) H) : rIsi K [.int i, .ty n] H Q := ⟨_, _, _, _, b, rfl, .ty n, .base (.int i), kit_ty e, q⟩
theorem e_isiS {i : Str} {n : String} {b : Bool} (e : kitB "str" n = some b) (q : Q (.bl b) H) : rIsi K [.str i, .ty n] H Q := ⟨_, _, _, _, b, rfl, .ty n, .base (.str i), kit_ty e, q⟩
theorem e_isiT {a : Addr} {xs : List V} {n : String} {b : Bool} (h : H a = some (.tup xs)) (e : kitB "tuple" n = some b) (q : Q (.bl b) H) : rIsi K [.ref a, .ty n] H Q := ⟨_, _, _, _, b, rfl, .ty n, .base (.tup h), kit_ty e, q⟩
theorem e_isiD {a : Addr} {xs : List (Key × V)} {n : String} {b : Bool} (h : H a = some (.dK xs)) (e : kitB "dict" n = some b) (q : Q (.bl b) H) : rIsi K [.ref a, .ty n] H Q := ⟨_, _, _, _, b, rfl, .ty n, .base (.dK h), kit_ty e, q⟩
theorem e_sortS {a : Addr} {xs : List Str} (h : SqL K H a (xs.map V.str)) (c : xs.length < 64) (q : ∀ (ys : List Str) (p : Addr), ys.Perm xs → sortedS ys = true → H p = none → Q (.ref p) (upd H p (.lst (ys.map V.str)))) : rSortedS K [.ref a] H Q := ⟨a, xs, rfl, h, c, q⟩
end
end L2.An
namespace L2.An
open PySem PySem.Spec PyProof.Rows
local macro_rules | `(tactic| walk_at "g1") => `(tactic| first
  | (apply_rules (transparency := .reducible) (maxDepth := 1000000) -symm -exfalso only [st_seq, st_set, st_asg, st_drop, st_ret, st_retN, st_if, st_next, st_brk, st_cont, st_name, st_gc, st_gn, e_c, e_op, e_un, e_pn, e_p0, e_cb, e_cw, e_tst, e_tB, e_bk, e_and, e_or, e_not, e_I0, e_eqI, e_neI, e_eqS, e_neS, e_lst, e_tup, e_bm, e_bm0, e_if, st_for, st_lock, st_iL, st_iU, st_iR1, st_iS, st_iK, e_dg, e_di, e_dn, e_dp, e_dg2, e_po, e_po2, e_andV, e_orV, e_notV, e_sl, e_np, e_prt, e_ik, e_fi, e_sf, e_nw])
  | ((with_reducible apply e_var); rfl) | ((with_reducible apply e_sz); rfl) | (dsimp only))
local macro_rules | `(tactic| walk_at "go") => `(tactic| repeat walk_at "g1")
/-! ### the order of texts -/
def ltS (a b : Str) : Prop := a.cps.toList < b.cps.toList
theorem str_ext {a b : Str} (h : a.cps.toList = b.cps.toList) : a = b := by
  cases a with
  | mk x =>
    cases b with
    | mk y =>
      have e : x = y := Array.toList_inj.mp h
      rw [e]
theorem ltS_irrefl (a : Str) : ¬ ltS a a := List.lt_irrefl _
theorem ltS_trans {a b c : Str} (h : ltS a b) (h2 : ltS b c) : ltS a c := List.lt_trans h h2
theorem ltS_asymm {a b : Str} (h : ltS a b) : ¬ ltS b a := fun h2 => ltS_irrefl a (ltS_trans h h2)
theorem ltS_or {a b : Str} (h : a ≠ b) : ltS a b ∨ ltS b a := by
  rcases Classical.em (a.cps.toList < b.cps.toList) with q | q
  · exact .inl q
  · rcases Classical.em (b.cps.toList < a.cps.toList) with p | p
    · exact .inr p
    · exact absurd (str_ext (List.le_antisymm (List.not_lt.mp p) (List.not_lt.mp q))) h
theorem ltCps_false {a b : Str} : ltCps b.cps.toList a.cps.toList = false ↔ ¬ ltS b a := by
  rw [ltCps_eq]
  simp [ltS]
theorem rising_pw : ∀ {l : List Str} {p : Str}, risingS p l = true → (p :: l).Pairwise (fun a b => ¬ ltS b a)
  | [], p, _ => by simp
  | x :: r, p, h => by
    have h' : (!ltCps x.cps.toList p.cps.toList && risingS x r) = true := h
    rw [Bool.and_eq_true, Bool.not_eq_true'] at h'
    have ih := rising_pw h'.2
    have h1 : ¬ ltS x p := ltCps_false.mp h'.1
    refine List.Pairwise.cons (fun y hy => ?_) ih
    rcases List.mem_cons.mp hy with e | hy
    · rw [e]; exact h1
    · intro hyp
      have h2 : ¬ ltS y x := List.rel_of_pairwise_cons ih hy
      by_cases e : x = p
      · rw [e] at h2; exact h2 hyp
      · rcases ltS_or e with q | q
        · exact h1 q
        · exact h2 (ltS_trans hyp q)
theorem sorted_pw {l : List Str} (h : sortedS l = true) : l.Pairwise (fun a b => ¬ ltS b a) := by
  cases l with
  | nil => exact .nil
  | cons x r => exact rising_pw h
theorem sorted_lt {l : List Str} (h : l.Pairwise (fun a b => ¬ ltS b a)) (n : l.Nodup) : l.Pairwise ltS := by
  induction l with
  | nil => exact .nil
  | cons x r ih =>
    obtain ⟨h1, h2⟩ := List.pairwise_cons.mp h
    obtain ⟨n1, n2⟩ := List.nodup_cons.mp n
    refine List.Pairwise.cons (fun y hy => ?_) (ih h2 n2)
    have e : x ≠ y := fun z => n1 (z ▸ hy)
    rcases ltS_or e with q | q
    · exact q
    · exact absurd q (h1 y hy)
theorem sorted_one : ∀ {xs ys : List Str}, xs.Pairwise ltS → ys.Pairwise ltS → (∀ z, z ∈ xs ↔ z ∈ ys) → xs = ys
  | [], [], _, _, _ => rfl
  | [], y :: ys, _, _, h => absurd ((h y).mpr List.mem_cons_self) (by simp)
  | x :: xs, [], _, _, h => absurd ((h x).mp List.mem_cons_self) (by simp)
  | x :: xs, y :: ys, hx, hy, h => by
    obtain ⟨x1, x2⟩ := List.pairwise_cons.mp hx
    obtain ⟨y1, y2⟩ := List.pairwise_cons.mp hy
    have e : x = y := by
      rcases List.mem_cons.mp ((h x).mp List.mem_cons_self) with e | q
      · exact e
      · rcases List.mem_cons.mp ((h y).mpr List.mem_cons_self) with e | p
        · exact e.symm
        · exact absurd (y1 x q) (ltS_asymm (x1 y p))
    subst e
    have t : ∀ z, z ∈ xs ↔ z ∈ ys := fun z => by
      constructor
      · intro hz
        rcases List.mem_cons.mp ((h z).mp (List.mem_cons_of_mem _ hz)) with e | q
        · rw [e] at hz; exact absurd (x1 _ hz) (ltS_irrefl _)
        · exact q
      · intro hz
        rcases List.mem_cons.mp ((h z).mpr (List.mem_cons_of_mem _ hz)) with e | q
        · rw [e] at hz; exact absurd (y1 _ hz) (ltS_irrefl _)
        · exact q
    rw [sorted_one x2 y2 t]
/-- the texts of a list of values -/
theorem map_str_inj : ∀ {a b : List Str}, a.map V.str = b.map V.str → a = b
  | [], [], _ => rfl
  | [], _ :: _, h => by cases h
  | _ :: _, [], h => by cases h
  | x :: a, y :: b, h => by
    rw [List.map_cons, List.map_cons] at h
    injection h with h1 h2
    injection h1 with h1
    rw [h1, map_str_inj h2]
/-! ### dicts by texts, plain -/
section
variable {β γ : Type}
theorem getS_nil (k : Str) : getS ([] : List (Str × β)) k = none := rfl
theorem getS_cons (p : Str × β) (l : List (Str × β)) (k : Str) : getS (p :: l) k = if p.1 = k then some p.2 else getS l k := by
  unfold getS
  rw [List.find?_cons]
  by_cases e : p.1 = k
  · simp [e]
  · simp [e]
theorem getS_mem {l : List (Str × β)} {k : Str} {v : β} (h : getS l k = some v) : (k, v) ∈ l := by
  induction l with
  | nil => cases h
  | cons p r ih =>
    rw [getS_cons] at h
    by_cases e : p.1 = k
    · rw [if_pos e] at h
      cases h
      rw [← e]
      exact List.mem_cons_self
    · rw [if_neg e] at h
      exact List.mem_cons_of_mem _ (ih h)
theorem getS_none {l : List (Str × β)} {k : Str} : getS l k = none ↔ ¬ k ∈ l.map (·.1) := by
  induction l with
  | nil => simp [getS]
  | cons p r ih =>
    rw [getS_cons]
    by_cases e : p.1 = k
    · simp [e]
    · rw [if_neg e, ih, List.map_cons, List.mem_cons]
      constructor
      · intro h q
        rcases q with q | q
        · exact e q.symm
        · exact h q
      · exact fun h q => h (.inr q)
theorem getS_isSome {l : List (Str × β)} {k : Str} : (getS l k).isSome = decide (k ∈ l.map (·.1)) := by
  cases e : getS l k with
  | none =>
    have := getS_none.mp e
    simp only [Option.isSome_none]
    exact (decide_eq_false this).symm
  | some v =>
    have : k ∈ l.map (·.1) := List.mem_map.mpr ⟨_, getS_mem e, rfl⟩
    simp only [Option.isSome_some]
    exact (decide_eq_true this).symm
theorem any_key {l : List (Str × β)} {k : Str} : (l.any fun p => decide (p.1 = k)) = decide (k ∈ l.map (·.1)) := by
  induction l with
  | nil => rfl
  | cons p r ih =>
    rw [List.any_cons, ih, List.map_cons]
    by_cases e : p.1 = k
    · simp [e]
    · have e' : ¬ k = p.1 := fun z => e z.symm
      simp [e, e']
theorem putS_new {l : List (Str × β)} {k : Str} (v : β) (h : ¬ k ∈ l.map (·.1)) : putS l k v = l ++ [(k, v)] := by
  unfold putS
  rw [any_key, if_neg (by simpa using h)]
theorem putS_keys (l : List (Str × β)) (k : Str) (v : β) : (putS l k v).map (·.1) = if k ∈ l.map (·.1) then l.map (·.1) else l.map (·.1) ++ [k] := by
  unfold putS
  rw [any_key]
  by_cases h : k ∈ l.map (·.1)
  · rw [if_pos (by simpa using h), if_pos h, List.map_map]
    apply List.map_congr_left
    intro p _
    show (if p.1 = k then (p.1, v) else p).1 = p.1
    split <;> rfl
  · rw [if_neg (by simpa using h), if_neg h, List.map_append]
    rfl
theorem putS_len (l : List (Str × β)) (k : Str) (v : β) : (putS l k v).length ≤ l.length + 1 := by
  unfold putS
  split
  · rw [List.length_map]; exact Nat.le_succ _
  · rw [List.length_append]; exact Nat.le_refl _
theorem getS_app (l r : List (Str × β)) (k : Str) : getS (l ++ r) k = (getS l k).or (getS r k) := by
  induction l with
  | nil => rfl
  | cons p l ih =>
    rw [List.cons_append, getS_cons, getS_cons, ih]
    by_cases e : p.1 = k
    · rw [if_pos e, if_pos e]; rfl
    · rw [if_neg e, if_neg e]
theorem getS_put (l : List (Str × β)) (k j : Str) (v : β) : getS (putS l k v) j = if k = j then some v else getS l j := by
  unfold putS
  rw [any_key]
  by_cases h : k ∈ l.map (·.1)
  · rw [if_pos (by simpa using h)]
    induction l with
    | nil => cases h
    | cons p r ih =>
      rw [List.map_cons, getS_cons, getS_cons]
      by_cases e : p.1 = k
      · rw [if_pos e]
        show (if p.1 = j then some v else _) = _
        by_cases ej : k = j
        · rw [if_pos (e.trans ej), if_pos ej]
        · have e2 : ¬ p.1 = j := fun z => ej (e.symm.trans z)
          rw [if_neg e2, if_neg ej, if_neg e2]
          by_cases hr : k ∈ r.map (·.1)
          · rw [ih hr, if_neg ej]
          · congr 1
            have : r.map (fun p => if p.1 = k then (p.1, v) else p) = r := by
              conv => rhs; rw [← List.map_id r]
              apply List.map_congr_left
              intro q hq
              have : ¬ q.1 = k := fun z => hr (List.mem_map.mpr ⟨q, hq, z⟩)
              simp [this]
            rw [this]
      · have hr : k ∈ r.map (·.1) := by
          rw [List.map_cons] at h
          rcases List.mem_cons.mp h with q | q
          · exact absurd q.symm e
          · exact q
        rw [if_neg e, ih hr]
        by_cases ej : k = j
        · have e2 : ¬ p.1 = j := fun z => e (z.trans ej.symm)
          rw [if_pos ej, if_pos ej, if_neg e2]
        · rw [if_neg ej, if_neg ej]
  · rw [if_neg (by simpa using h), getS_app]
    have hn := getS_none.mpr h
    by_cases ej : k = j
    · subst ej
      rw [hn, if_pos rfl]
      simp [getS]
    · rw [if_neg ej]
      have : getS [(k, v)] j = none := by simp [getS, ej]
      rw [this]
      cases getS l j <;> rfl
theorem putS_nodup {l : List (Str × β)} (k : Str) (v : β) (h : (l.map (·.1)).Nodup) : ((putS l k v).map (·.1)).Nodup := by
  rw [putS_keys]
  by_cases e : k ∈ l.map (·.1)
  · rw [if_pos e]; exact h
  · rw [if_neg e]
    exact nd_snoc h e
theorem putS_map (f : β → γ) (l : List (Str × β)) (k : Str) (v : β) : putS (l.map fun p => (p.1, f p.2)) k (f v) = (putS l k v).map fun p => (p.1, f p.2) := by
  unfold putS
  have e : ((l.map fun p => (p.1, f p.2)).any fun p => decide (p.1 = k)) = l.any fun p => decide (p.1 = k) := by
    rw [List.any_map]
    rfl
  rw [e]
  split
  · rw [List.map_map, List.map_map]
    apply List.map_congr_left
    intro p _
    show (if p.1 = k then (p.1, f v) else (p.1, f p.2)) = _
    by_cases q : p.1 = k
    · simp [q]
    · simp [q]
  · rw [List.map_append]
    rfl
theorem getS_map (f : β → γ) (l : List (Str × β)) (k : Str) : getS (l.map fun p => (p.1, f p.2)) k = (getS l k).map f := by
  induction l with
  | nil => rfl
  | cons p r ih =>
    rw [List.map_cons, getS_cons, getS_cons, ih]
    by_cases e : p.1 = k
    · rw [if_pos e, if_pos e]; rfl
    · rw [if_neg e, if_neg e]
/-- related dicts: same keys in order, values related -/
abbrev RelD (R : β → V → Prop) (m : List (Str × β)) (l : List (Str × V)) : Prop := Paired (fun (p : Str × β) (q : Str × V) => p.1 = q.1 ∧ R p.2 q.2) m l
theorem RelD.keys {R : β → V → Prop} : ∀ {m : List (Str × β)} {l : List (Str × V)}, RelD R m l → m.map (·.1) = l.map (·.1)
  | _, _, .nil => rfl
  | _, _, .cons r t => by rw [List.map_cons, List.map_cons, r.1, RelD.keys t]
theorem RelD.get {R : β → V → Prop} {k : Str} : ∀ {m : List (Str × β)} {l : List (Str × V)}, RelD R m l → (getS m k = none ∧ getS l k = none) ∨ ∃ b v, getS m k = some b ∧ getS l k = some v ∧ R b v
  | _, _, .nil => .inl ⟨rfl, rfl⟩
  | p :: m, q :: l, .cons r t => by
    rw [getS_cons, getS_cons, ← r.1]
    by_cases e : p.1 = k
    · rw [if_pos e, if_pos e]
      exact .inr ⟨_, _, rfl, rfl, r.2⟩
    · rw [if_neg e, if_neg e]
      exact RelD.get t
theorem RelD.mono {R R' : β → V → Prop} {m : List (Str × β)} {l : List (Str × V)} (r : RelD R m l) (h : ∀ b v, R b v → R' b v) : RelD R' m l := Paired.mapP r fun _ _ z => ⟨z.1, h _ _ z.2⟩
theorem RelD.snoc {R : β → V → Prop} {k : Str} {b : β} {v : V} : ∀ {m : List (Str × β)} {l : List (Str × V)}, RelD R m l → R b v → RelD R (m ++ [(k, b)]) (l ++ [(k, v)])
  | _, _, .nil, h => .cons ⟨rfl, h⟩ .nil
  | _, _, .cons r t, h => .cons r (RelD.snoc t h)
theorem RelD.repl {R : β → V → Prop} {k : Str} {b : β} {v : V} : ∀ {m : List (Str × β)} {l : List (Str × V)}, RelD R m l → R b v →
    RelD R (m.map fun p => if p.1 = k then (p.1, b) else p) (l.map fun p => if p.1 = k then (p.1, v) else p)
  | _, _, .nil, _ => .nil
  | p :: m, q :: l, .cons r t, h => by
    rw [List.map_cons, List.map_cons]
    refine .cons ?_ (RelD.repl t h)
    by_cases e : p.1 = k
    · rw [if_pos e, if_pos (r.1 ▸ e)]
      exact ⟨r.1, h⟩
    · rw [if_neg e, if_neg (fun z => e (r.1.trans z))]
      exact r
theorem RelD.put {R : β → V → Prop} {k : Str} {b : β} {v : V} {m : List (Str × β)} {l : List (Str × V)} (r : RelD R m l) (h : R b v) : RelD R (putS m k b) (putS l k v) := by
  unfold putS
  rw [any_key, any_key, r.keys]
  split
  · exact r.repl h
  · exact r.snoc h
theorem RelD.length {R : β → V → Prop} {m : List (Str × β)} {l : List (Str × V)} (r : RelD R m l) : m.length = l.length := Paired.length r
end
/-! ### more operators: in a list of data, dicts of data unlike, slices with a step -/
section
open PySem.W (Datum)
def rInY (K : PySem.W.Frag) : R2 := fun x y H Q => ∃ (α : Type) (i1 : DecidableEq α) (i2 : Datum α) (a : α) (xs : List α) (p : Addr) (vs : List V), y = .ref p ∧ Datum.depth α ≤ 63 ∧ Dp K H x (Datum.toD a) ∧ SqL K H p vs ∧ DpAll K H vs (xs.map (fun z : α => Datum.toD z)) ∧ Q (.bl (decide (a ∈ xs))) H
def rNinY (K : PySem.W.Frag) : R2 := fun x y H Q => ∃ (α : Type) (i1 : DecidableEq α) (i2 : Datum α) (a : α) (xs : List α) (p : Addr) (vs : List V), y = .ref p ∧ Datum.depth α ≤ 63 ∧ Dp K H x (Datum.toD a) ∧ SqL K H p vs ∧ DpAll K H vs (xs.map (fun z : α => Datum.toD z)) ∧ Q (.bl (!decide (a ∈ xs))) H
variable {X : Cx}
theorem op_inY (hu : X.A.units + 64 < cLine) : OpR X (compareOp .In) (rInY X.K) := by
  intro pins s σ H x y v u Q I rx ry h
  obtain ⟨α, i1, i2, a, xs, p, vs, rfl, hd, ha, hl, hb, q⟩ := h
  obtain rfl : u = Value.ref p := ry
  obtain ⟨as, r1⟩ := Dp.reads I _ x v ha rx
  obtain ⟨its, rv, hli, hz⟩ := I.list hl
  obtain ⟨bs, r2⟩ := Dp.readsAll I _ _ its hb rv
  exact PySem.W.in_list_datum (x := a) (xs := xs) hli.isList ⟨bs, by simpa using r2⟩ ⟨as, r1⟩ (by omega) ⟨.bl _, H, I, rfl, q⟩
theorem op_ninY (hu : X.A.units + 64 < cLine) : OpR X (compareOp .NotIn) (rNinY X.K) := by
  intro pins s σ H x y v u Q I rx ry h
  obtain ⟨α, i1, i2, a, xs, p, vs, rfl, hd, ha, hl, hb, q⟩ := h
  obtain rfl : u = Value.ref p := ry
  obtain ⟨as, r1⟩ := Dp.reads I _ x v ha rx
  obtain ⟨its, rv, hli, hz⟩ := I.list hl
  obtain ⟨bs, r2⟩ := Dp.readsAll I _ _ its hb rv
  refine PySem.W.notIn_list_datum (x := a) (xs := xs) hli.isList ⟨bs, by simpa using r2⟩ ⟨as, r1⟩ (by omega) ⟨.bl _, H, I, rfl, ?_⟩
  rw [decide_not]
  exact q
theorem e_inY {K : PySem.W.Frag} {H : Hp} {Q : VK} {x : V} {p : Addr} {vs : List V} {α : Type} [DecidableEq α] [Datum α] (a : α) (xs : List α) (hd : Datum.depth α ≤ 63) (ha : Dp K H x (Datum.toD a)) (hl : SqL K H p vs) (hb : DpAll K H vs (xs.map Datum.toD)) (q : Q (.bl (decide (a ∈ xs))) H) : rInY K x (.ref p) H Q :=
  ⟨α, _, _, a, xs, p, vs, rfl, hd, ha, hl, hb, q⟩
theorem e_ninY {K : PySem.W.Frag} {H : Hp} {Q : VK} {x : V} {p : Addr} {vs : List V} {α : Type} [DecidableEq α] [Datum α] (a : α) (xs : List α) (hd : Datum.depth α ≤ 63) (ha : Dp K H x (Datum.toD a)) (hl : SqL K H p vs) (hb : DpAll K H vs (xs.map Datum.toD)) (q : Q (.bl (!decide (a ∈ xs))) H) : rNinY K x (.ref p) H Q :=
  ⟨α, _, _, a, xs, p, vs, rfl, hd, ha, hl, hb, q⟩
/-- d != e, two dicts of like data -/
def rNeDL (K : PySem.W.Frag) : R2 := fun x y H Q => ∃ (α : Type) (i1 : DecidableEq α) (i2 : Datum α) (a b : Addr) (ks ls : List (Key × V)), x = .ref a ∧ y = .ref b ∧ H a = some (.dK ks) ∧ H b = some (.dK ls) ∧ Datum.depth α ≤ 60 ∧ ks.length = ls.length ∧
  (∀ p ∈ ks, ∃ (u : V) (d : α), valV ls p.1 = some u ∧ Dp K H p.2 (Datum.toD d) ∧ Dp K H u (Datum.toD d)) ∧ Q (.bl false) H
theorem hits_dat {pins : List (Addr × Obj)} {σ : St} {H : Hp} {s : Shared} (I : Inv X pins σ H s) {A : Around} {α : Type} [DecidableEq α] [Datum α] (hA : A.units + Datum.depth α < cLine) {ls : List (Key × V)} {vb : List (Key × Value)} (rb : KV ls vb) {ks : List (Key × V)} {va : List (Key × Value)} (ra : KV ks va) :
    (∀ p ∈ ks, ∃ (u : V) (d : α), valV ls p.1 = some u ∧ Dp X.K H p.2 (Datum.toD d) ∧ Dp X.K H u (Datum.toD d)) → PySem.W.KeqHits A s vb va true := by
  unfold KV at ra
  induction ra with
  | nil => intro _; exact .nil
  | @cons p q ps qs h t ih =>
    intro hp
    obtain ⟨h1, h2⟩ := h
    obtain ⟨u, d, e, f1, f2⟩ := hp p List.mem_cons_self
    have rr : RelO (some u) (valueAt vb p.1) := by rw [← e]; exact rb.val p.1
    obtain ⟨y, hy, ry⟩ := rr.some_of
    obtain ⟨key, v⟩ := q
    have h1' : p.1 = key := h1
    rw [h1'] at hy
    obtain ⟨as, r1⟩ := Dp.reads I _ _ _ f1 h2
    obtain ⟨bs, r2⟩ := Dp.reads I _ _ _ f2 ry
    have eq := PySem.W.eqAt_datum (A := A) (x := d) (y := d) ⟨as, r1⟩ ⟨bs, r2⟩ hA
    rw [decide_eq_true (rfl : d = d)] at eq
    show PySem.W.KeqHits A s vb ((key, v) :: qs) (true && true)
    exact .hit hy eq (ih fun p' hm => hp p' (List.mem_cons_of_mem _ hm))
theorem op_neDL (hu : X.A.units + 64 < cLine) : OpR X (compareOp .NotEq) (rNeDL X.K) := by
  intro pins s σ H x y v u Q I rx ry h
  obtain ⟨α, i1, i2, a, b, ks, ls, rfl, rfl, ea, eb, hd, hlen, hp, q⟩ := h
  obtain rfl : v = Value.ref a := rx
  obtain rfl : u = Value.ref b := ry
  obtain ⟨_, ya, va, ra, da⟩ := (show ObjOk X.prog X.w H s.heap a (.dK ks) from I.hok a _ ea)
  obtain ⟨_, yb, vb, rb, db⟩ := (show ObjOk X.prog X.w H s.heap b (.dK ls) from I.hok b _ eb)
  have hl : va.length = vb.length := by rw [← ra.length, ← rb.length]; exact hlen
  refine PySem.W.keq_ne (knd := mixKind X.prog X.w) (r := true) ya yb da db (by omega) (fun _ => hits_dat (α := α) I (by show X.A.units + 1 + _ < cLine; omega) rb ra hp) ⟨.bl false, H, I, ?_, q⟩
  show Value.bool _ = Value.bool _
  simp [hl]
/-- the items of xs[lo:hi:st] -/
def pick3 {β : Type} (xs : List β) (lo hi : Option Int) (st : Int) : List β := (sliceRange (sliceBounds lo hi (some st) xs.length).1 (sliceBounds lo hi (some st) xs.length).2.1 (sliceBounds lo hi (some st) xs.length).2.2).filterMap (xs[·]?)
theorem pick3_map {β γ : Type} (f : β → γ) (xs : List β) (lo hi : Option Int) (st : Int) : pick3 (xs.map f) lo hi st = (pick3 xs lo hi st).map f := by
  unfold pick3
  rw [List.length_map, List.map_filterMap]
  congr 1
  funext i
  rw [List.getElem?_map]
theorem pick3_len {β : Type} (xs : List β) (lo hi : Option Int) (st : Int) : (pick3 xs lo hi st).length ≤ (sliceRange (sliceBounds lo hi (some st) xs.length).1 (sliceBounds lo hi (some st) xs.length).2.1 (sliceBounds lo hi (some st) xs.length).2.2).length := List.length_filterMap_le _ _
theorem vals_pick {xs : List V} {us : List Value} (r : Vals xs us) : ∀ is : List Nat, Vals (is.filterMap (xs[·]?)) (is.filterMap (us[·]?)) := by
  intro is
  induction is with
  | nil => exact .nil
  | cons i is ih =>
    rw [List.filterMap_cons, List.filterMap_cons]
    rcases hx : xs[i]? with _ | x
    · have hl := r.length
      have hu : us[i]? = none := by
        rw [List.getElem?_eq_none_iff] at hx ⊢
        omega
      rw [hu]
      exact ih
    · obtain ⟨u, hu, ru⟩ := Vals.get r hx
      rw [hu]
      exact .cons ru ih
def rSlL3 (K : PySem.W.Frag) (x : V) (lo hi : Option Int) (st : Int) (H : Hp) (Q : VK) : Prop := ∃ a xs, x = .ref a ∧ SqL K H a xs ∧ st ≠ 0 ∧ (pick3 xs lo hi st).length ≤ sizeLine ∧ ∀ p, H p = none → Q (.ref p) (upd H p (.lst (pick3 xs lo hi st)))
def tSl3 (K : PySem.W.Frag) (te : TE) (tl th tst : TO) : TE := fun σ H Q => te σ H fun x H1 => tl σ H1 fun l H2 => th σ H2 fun u H3 => tst σ H3 fun st H4 => ∃ i, st = some i ∧ rSlL3 K x l u i H4 Q
theorem an_slice3 {e : Expr} {te : TE} {lo hi : Option Expr} {e3 : Expr} {tl th tst : TO} {pos p2 : Pos} (he : PE X e te) (hl : PO X lo tl) (hu : PO X hi th) (hst : PO X (some e3) tst) : PE X (.Subscript e (.Slice lo hi (some e3) p2) pos) (tSl3 X.K te tl th tst) := by
  refine ⟨fun pins s σ H Q I h => ?_⟩
  refine Subscript_ (thn (he.run pins s σ H _ I h) fun v s1 ⟨x, H1, I1, r1, q1⟩ => ?_)
  refine wpAny_Slice (thn (hl.run pins s1 σ H1 _ I1 q1) fun vl s2 ⟨l, H2, I2, pl, q2⟩ => thn (hu.run pins s2 σ H2 _ I2 q2) fun vu s3 ⟨u, H3, I3, pu, q3⟩ => thn (hst.run pins s3 σ H3 _ I3 q3) fun vs s4 ⟨st, H4, I4, ps, q4⟩ => ?_)
  obtain ⟨i, rfl, a, xs, rfl, hx, hi0, hlen, q⟩ := q4
  have I5 : Inv X pins σ H4 { s4 with heap := s4.heap.push { cls := .type "slice", data := .fields #[vl, vu, vs] } } := I4.kept (t' := s4.toks) fun b ob q => Heap.get?_push_of_some _ q
  obtain rfl : v = Value.ref a := r1
  obtain ⟨its, r, ht, hz⟩ := I5.list hx
  have hl2 := r.length
  have hs2 : (⟨s4.heap.push { cls := .type "slice", data := .fields #[vl, vu, vs] }, s4.gens, s4.drawn, s4.toks, s4.os⟩ : Shared).heap.IsSliceOf s4.heap.objs.size vl vu vs := Heap.IsSliceOf.new ..
  refine tail_any (ops := [.ref a, .ref s4.heap.objs.size]) ht.isList.typeIs slot_list_getitem.lookup ?_ (by with_unfolding_all rfl)
  refine wpAny_getItem_list_slice ht.isList hs2 pl pu ps (by simpa using hi0) ?_ (by rw [List.size_toArray] <;> omega)
  have ep : slicePick its.toArray l u (some i) = (pick3 its l u i).toArray := by
    unfold slicePick pick3
    simp
  rw [ep]
  have el : pick3 its l u i = (sliceRange (sliceBounds l u (some i) xs.length).1 (sliceBounds l u (some i) xs.length).2.1 (sliceBounds l u (some i) xs.length).2.2).filterMap (its[·]?) := by
    unfold pick3
    rw [hl2]
  have rv : Vals (pick3 xs l u i) (pick3 its l u i) := by
    rw [el]
    exact vals_pick r _
  refine ⟨.ref _, _, I5.laid (t' := s4.toks) (o := .lst (pick3 xs l u i)) (fun b ob q => Heap.get?_push_of_some _ q) (Nat.le_refl _) ?_, rfl, q _ (I5.hok.fresh (Nat.le_refl _))⟩
  exact ⟨hlen, _, 0, rv, Heap.get?_push_size _ rfl⟩
theorem e_sl3 {K : PySem.W.Frag} {σ : St} {H : Hp} {Q : VK} {te : TE} {tl th tst : TO} (h : te σ H fun x H1 => tl σ H1 fun l H2 => th σ H2 fun u H3 => tst σ H3 fun st H4 => ∃ i, st = some i ∧ rSlL3 K x l u i H4 Q) : tSl3 K te tl th tst σ H Q := h
theorem e_slL3 {K : PySem.W.Frag} {H : Hp} {Q : VK} {a : Addr} {β : Type} {f : β → V} {xs : List β} {lo hi : Option Int} {st : Int} (h : SqL K H a (xs.map f)) (h0 : st ≠ 0) (hlen : (sliceRange (sliceBounds lo hi (some st) xs.length).1 (sliceBounds lo hi (some st) xs.length).2.1 (sliceBounds lo hi (some st) xs.length).2.2).length ≤ sizeLine)
    (q : ∀ p, H p = none → Q (.ref p) (upd H p (.lst ((pick3 xs lo hi st).map f)))) : ∃ i, some st = some i ∧ rSlL3 K (.ref a) lo hi i H Q :=
  ⟨st, rfl, a, _, rfl, h, h0, by rw [pick3_map, List.length_map]; exact Nat.le_trans (pick3_len ..) hlen, by rw [pick3_map]; exact q⟩
end
/-! ### led_to -/
def RefL (H : Hp) (ys : List Str) (v : V) : Prop := ∃ b, v = .ref b ∧ H b = some (.lst (ys.map V.str))
/-- lists of names in a dict, by names -/
abbrev LnRel (H : Hp) (m : List (Str × List Str)) (l : List (Str × V)) : Prop := RelD (RefL H) m l
theorem RefL.same {H H' : Hp} {ys : List Str} {v : V} (s : Same H H') (h : RefL H ys v) : RefL H' ys v := let ⟨b, e, q⟩ := h; ⟨b, e, s _ _ q⟩
def getL (m : List (Str × List Str)) (x : Str) : List Str := (getS m x).getD []
inductive Leads (m : List (Str × List Str)) (x : Str) : Str → Prop where
  | one {z} : z ∈ getL m x → Leads m x z
  | more {y z} : Leads m x y → z ∈ getL m y → Leads m x z
def sp_led_to (K : PySem.W.Frag) : Sp := fun vs H Q _ => ∃ (x : Str) (a : Addr) (m : List (Str × List Str)) (l : List (Str × V)) (U : List Str), vs = [.str x, .ref a] ∧ H a = some (dS l) ∧ LnRel H m l ∧ U.length < 64 ∧
  (∀ x, (getL m x).length ≤ 1000 ∧ ∀ z ∈ getL m x, z ∈ U) ∧
  ∀ (r : Addr) (ys : List Str) (H' : Hp), Same H H' → H r = none → H' r = some (.lst (ys.map V.str)) → ys.Pairwise ltS → (∀ z, z ∈ ys ↔ Leads m x z) → Q (.ref r) H'
theorem ln_led_to {K : PySem.W.Frag} {vs : List V} {H : Hp} {Q : VK} {E : XK} (h : sp_led_to K vs H Q E) : vs.length = 2 := by
  obtain ⟨x, a, m, l, U, rfl, _⟩ := h
  rfl
abbrev n_led_to : List Str := ["name", "leans", "found", "front", "other"]
def t_led_to (K : PySem.W.Frag) (W : WX) : TS :=
  tSeq (tAsg tDNewK (gName 2))
  (tSeq (tAsg (tCB (rListL K) (tCons (tDg2 (tVar 1) (tVar 0) (tLst tNil)) tNil)) (gName 3))
  (tSeq (tWhile (tTest (tOp (rNeY K) (tVar 3) (tLst tNil))) (tSeq (tAsg (tBM0 K "list" rPop (tVar 3)) (gName 4))
  (tIfS (tB (tDn (tVar 4) (tVar 2))) (tSeq (sDp (tVar 2) (tVar 4) (tC (.bl true)))
  (tDrop (tBM K "list" rExtend (tVar 3) (tCons (tDg2 (tVar 1) (tVar 4) (tLst tNil)) tNil)))) tNext)))
  (tRet (tCB (rSortedS K) (tCons (tCB rListD (tCons (tVar 2) tNil)) tNil)))))
theorem same_up {H H' : Hp} {p : Addr} {o : HO} (s : Same H H') (h : H' p = none) : Same H (upd H' p o) := fun b u q => by rw [upd_ne (ne_of_none (s b u q) h)]; exact s b u q
theorem same1 {H : Hp} {p : Addr} {o : HO} (h : H p = none) : Same H (upd H p o) := same_up (Same.refl H) h
/-- an object that was not there at H may change -/
theorem same_mut {H H' : Hp} {p : Addr} {o : HO} (s : Same H H') (h : H p = none) : Same H (upd H' p o) := fun b u q => by rw [upd_ne (ne_of_none q h)]; exact s b u q
theorem none_up {H : Hp} {a b : Addr} {o : HO} (e : upd H a o b = none) : H b = none ∧ b ≠ a := by
  unfold upd at e
  split at e
  · cases e
  · exact ⟨e, by assumption⟩
theorem dq_get {H : Hp} {m : List (Str × List Str)} {l : List (Str × V)} (hm : LnRel H m l) (x : Str) {p : Addr} (hp : H p = some (.lst [])) : ∃ b, (getS l x).getD (.ref p) = .ref b ∧ H b = some (.lst ((getL m x).map V.str)) := by
  rcases hm.get (k := x) with ⟨e1, e2⟩ | ⟨ys, v, e1, e2, b, rfl, hb⟩
  · exact ⟨p, by rw [e2]; rfl, by unfold getL; rw [e1]; exact hp⟩
  · exact ⟨b, by rw [e2]; rfl, by unfold getL; rw [e1]; exact hb⟩
theorem pure_led_to {K : PySem.W.Frag} {vs : List V} {H : Hp} {Q : VK} {E : XK} {W : WX} (h : sp_led_to K vs H Q E) : t_led_to K W { nx := fun _ H' => Q .non H', rt := Q } (start n_led_to vs) H := by
  obtain ⟨x, a, m, l, U, rfl, ha, hm, hU, hmU, k⟩ := h
  show t_led_to K W _ [some (.str x), some (.ref a), none, none, none] H
  unfold t_led_to
  walk_at "go"
  intro d hd
  walk_at "go"
  have ha1 : upd H d (HO.dK []) a = some (dS l) := by rw [upd_ne (ne_of_none ha hd)]; exact ha
  refine k_isD (.of ha1) ?_
  walk_at "go"
  intro p hp
  have s1 : Same H (upd (upd H d (HO.dK [])) p (.lst [])) := same_up (same_up (Same.refl H) hd) hp
  obtain ⟨b, eb, hb⟩ := dq_get (hm.mono fun _ _ => RefL.same s1) x (p := p) upd_same
  refine k_dg2 (.of (s1 _ _ ha)) ?_
  rw [eb]
  walk_at "go"
  refine e_listL (SqL.of hb) fun f hf => ?_
  obtain ⟨hf1, nfp⟩ := none_up hf
  obtain ⟨hf2, nfd⟩ := none_up hf1
  have s2 : Same H (upd (upd (upd H d (HO.dK [])) p (.lst [])) f (.lst ((getL m x).map V.str))) := same_up s1 hf
  have ndp : d ≠ p := fun z => (none_up hp).2 z.symm
  have hU1 : ∀ F : List Str, F.Nodup → (∀ z ∈ F, z ∈ U) → F.length ≤ 63 := fun F n s => by
    have := List.Nodup.length_le_of_subset n (fun z hz => s z hz)
    omega
  walk_at "go"
  let W : Nat → St → Hp → Prop := fun n σ H' => ∃ (F R : List Str) (v : Option V), σ = [some (.str x), some (.ref a), some (.ref d), some (.ref f), v] ∧ Same H H' ∧ H' d = some (dS (F.map fun z => (z, V.bl true))) ∧ H' f = some (.lst (R.map V.str)) ∧
    F.Nodup ∧ (∀ z ∈ F, Leads m x z) ∧ (∀ z ∈ R, Leads m x z) ∧ (∀ z ∈ getL m x, z ∈ F ∨ z ∈ R) ∧ (∀ y ∈ F, ∀ z ∈ getL m y, z ∈ F ∨ z ∈ R) ∧ R.length ≤ (F.length + 1) * 1000 ∧ n = (64 - F.length) * 1001 + R.length
  have leadU : ∀ z, Leads m x z → z ∈ U := fun z h => by
    cases h with
    | one h => exact (hmU _).2 _ h
    | more _ h => exact (hmU _).2 _ h
  refine st_while W ((64 - 0) * 1001 + (getL m x).length) ⟨[], getL m x, none, rfl, s2, ?_, upd_same, List.nodup_nil, by simp, fun z h => .one h, fun z h => .inr h, by simp, ?_, rfl⟩ ?_
  · rw [upd_ne nfd.symm, upd_ne ndp, upd_same]
    rfl
  · have := (hmU x).1
    simp only [List.length_nil]
    omega
  rintro n σ H1 ⟨F, R, v, rfl, s, hF, hR, nF, lF, lR, c1, c2, b1, rfl⟩
  walk_at "go"
  intro q hq
  have nfq : f ≠ q := ne_of_none hR hq
  have ndq : d ≠ q := ne_of_none hF hq
  have s3 : Same H (upd H1 q (.lst [])) := same_up s hq
  have hR3 : upd H1 q (.lst []) f = some (.lst (R.map V.str)) := by rw [upd_ne nfq]; exact hR
  have hF3 : upd H1 q (.lst []) d = some (dS (F.map fun z => (z, V.bl true))) := by rw [upd_ne ndq]; exact hF
  refine e_neY R [] (by decide) (dp_strs (SqL.of hR3)) (dp_strs (ys := []) (SqL.of upd_same)) ?_
  walk_at "go"
  refine ifn (fun hne => ?_) (fun he => ?_)
  · apply st_wt
    walk_at "go"
    refine e_tyl hR3 ?_
    obtain ⟨R', z, rfl⟩ : ∃ R' z, R = R' ++ [z] := ⟨R.dropLast, R.getLast hne, (List.dropLast_concat_getLast hne).symm⟩
    refine e_pop (v := .str z) hR3 ?_ ?_
    · simp
    have hzL : Leads m x z := lR z (by simp)
    have hR' : upd (upd H1 q (.lst [])) f (.lst ((((R' ++ [z]).map V.str)).dropLast)) f = some (.lst (R'.map V.str)) := by
      rw [upd_same]
      simp
    have nfd' : f ≠ d := nfd
    have hF4 : upd (upd H1 q (.lst [])) f (.lst ((((R' ++ [z]).map V.str)).dropLast)) d = some (dS (F.map fun z => (z, V.bl true))) := by rw [upd_ne nfd'.symm]; exact hF3
    have s4 : Same H (upd (upd H1 q (.lst [])) f (.lst ((((R' ++ [z]).map V.str)).dropLast))) := same_mut s3 hf2
    generalize upd (upd H1 q (.lst [])) f (.lst ((((R' ++ [z]).map V.str)).dropLast)) = H2 at hR' hF4 s4 ⊢
    walk_at "go"
    refine k_dn (.of hF4) ?_
    rw [getS_isSome, show (F.map fun z => (z, V.bl true)).map (·.1) = F by rw [List.map_map]; exact List.map_id F]
    walk_at "go"
    refine ifn (fun hz => ?_) (fun hz => ?_)
    · walk_at "go"
      have nF' : (F ++ [z]).Nodup := nd_snoc nF hz
      have hlF : (F ++ [z]).length ≤ 63 := hU1 _ nF' fun y hy => by
        rcases List.mem_append.mp hy with q | q
        · exact leadU y (lF y q)
        · rw [List.mem_singleton.mp q]; exact leadU z hzL
      rw [List.length_append, List.length_singleton] at hlF
      have hF5 : ∀ o, upd H2 d o f = some (.lst (R'.map V.str)) := fun o => by rw [upd_ne nfd]; exact hR'
      have ep : putS (F.map fun z => (z, V.bl true)) z (V.bl true) = (F ++ [z]).map fun z => (z, V.bl true) := by
        rw [putS_new, List.map_append]
        · rfl
        · rw [List.map_map]
          intro h
          exact hz (by simpa using h)
      refine k_dp hF4 (small1000 (by rw [List.length_map]; omega)) ?_
      rw [ep]
      have s5 : Same H (upd H2 d (dS ((F ++ [z]).map fun z => (z, V.bl true)))) := same_mut s4 hd
      have hR5 := hF5 (dS ((F ++ [z]).map fun z => (z, V.bl true)))
      have hF6 : upd H2 d (dS ((F ++ [z]).map fun z => (z, V.bl true))) d = some (dS ((F ++ [z]).map fun z => (z, V.bl true))) := upd_same
      generalize upd H2 d (dS ((F ++ [z]).map fun z => (z, V.bl true))) = H3 at s5 hR5 hF6 ⊢
      walk_at "go"
      refine e_tyl hR5 ?_
      walk_at "go"
      refine k_isD (.of (s5 _ _ ha)) ?_
      walk_at "go"
      intro p2 hp2
      have s6 : Same H (upd H3 p2 (.lst [])) := same_up s5 hp2
      obtain ⟨b2, eb2, hb2⟩ := dq_get (hm.mono fun _ _ => RefL.same s6) z (p := p2) upd_same
      refine k_dg2 (.of (s6 _ _ ha)) ?_
      rw [eb2]
      walk_at "go"
      have nfp2 : f ≠ p2 := ne_of_none hR5 hp2
      have ndp2 : d ≠ p2 := ne_of_none hF6 hp2
      have hR7 : upd H3 p2 (.lst []) f = some (.lst (R'.map V.str)) := by rw [upd_ne nfp2]; exact hR5
      have hF7 : upd H3 p2 (.lst []) d = some (dS ((F ++ [z]).map fun z => (z, V.bl true))) := by rw [upd_ne ndp2]; exact hF6
      have hl2 := (hmU z).1
      rw [List.length_append, List.length_singleton] at b1
      refine e_ext hR7 hb2 (by rw [List.length_map, List.length_map, sizeLine_eq]; omega) ?_
      refine ⟨_, ?_, F ++ [z], R' ++ getL m z, _, rfl, same_mut s6 hf2, ?_, ?_, nF', ?_, ?_, ?_, ?_, ?_, rfl⟩
      · simp only [List.length_append, List.length_singleton]
        omega
      · rw [upd_ne nfd.symm]; exact hF7
      · rw [upd_same, List.map_append]
      · intro y hy
        rcases List.mem_append.mp hy with q | q
        · exact lF y q
        · rw [List.mem_singleton.mp q]; exact hzL
      · intro y hy
        rcases List.mem_append.mp hy with q | q
        · exact lR y (List.mem_append_left _ q)
        · exact .more hzL q
      · intro y hy
        rcases c1 y hy with q | q
        · exact .inl (List.mem_append_left _ q)
        · rcases List.mem_append.mp q with q | q
          · exact .inr (List.mem_append_left _ q)
          · exact .inl (List.mem_append_right _ q)
      · intro y hy w hw
        rcases List.mem_append.mp hy with q | q
        · rcases c2 y q w hw with q | q
          · exact .inl (List.mem_append_left _ q)
          · rcases List.mem_append.mp q with q | q
            · exact .inr (List.mem_append_left _ q)
            · exact .inl (List.mem_append_right _ q)
        · rw [List.mem_singleton.mp q] at hw
          exact .inr (List.mem_append_right _ hw)
      · simp only [List.length_append, List.length_singleton]
        omega
    · walk_at "go"
      refine ⟨_, ?_, F, R', _, rfl, s4, hF4, hR', nF, lF, fun y hy => lR y (List.mem_append_left _ hy), fun y hy => ?_, fun y hy w hw => ?_, ?_, rfl⟩
      · rw [List.length_append, List.length_singleton]; omega
      · rcases c1 y hy with q | q
        · exact .inl q
        · rcases List.mem_append.mp q with q | q
          · exact .inr q
          · rw [List.mem_singleton.mp q]; exact .inl hz
      · rcases c2 y hy w hw with q | q
        · exact .inl q
        · rcases List.mem_append.mp q with q | q
          · exact .inr q
          · rw [List.mem_singleton.mp q]; exact .inl hz
      · rw [List.length_append, List.length_singleton] at b1; omega
  · subst he
    walk_at "go"
    refine e_listD hF3 fun r hr => ?_
    walk_at "go"
    have e1 : (F.map fun z => (z, V.bl true)).map (fun p => V.str p.1) = F.map V.str := by rw [List.map_map]; rfl
    rw [e1]
    refine ⟨r, F, rfl, SqL.of upd_same, by have := hU1 F nF fun y hy => leadU y (lF y hy); omega, fun ys t hp hs ht => ?_⟩
    refine k t ys _ (same_up (same_up s3 hr) ht) ((same_up s3 hr).free ht) upd_same (sorted_lt (sorted_pw hs) (hp.nodup_iff.mpr nF)) fun y => ?_
    rw [hp.mem_iff]
    refine ⟨lF y, fun h => ?_⟩
    induction h with
    | one h => exact (c1 _ h).resolve_right (by simp)
    | more _ h ih => exact (c2 _ ih _ h).resolve_right (by simp)
/-! ### the law's cells and names -/
def cellAt (ns : List Int) (k : Int) : Int := ns.getD k.toNat 0
def sp_cell_at (K : PySem.W.Frag) : Sp := fun vs H Q _ => ∃ (a : Addr) (ns : List Int) (k : Int), vs = [.ref a, .int k] ∧ SqL K H a (ns.map V.int) ∧ 0 ≤ k ∧ Q (.int (cellAt ns k)) H
theorem ln__law_cell_at {K : PySem.W.Frag} {vs : List V} {H : Hp} {Q : VK} {E : XK} (h : sp_cell_at K vs H Q E) : vs.length = 2 := by
  obtain ⟨a, ns, k, rfl, _⟩ := h
  rfl
abbrev n__law_cell_at : List Str := ["_law_script", "_law_k"]
def t__law_cell_at (K : PySem.W.Frag) (W : WX) : TS :=
  tSeq (tIfS (tTest (tOp rLtI (tVar 1) (tCB (rLenL K) (tCons (tVar 0) tNil)))) (tRet (tOp (rIxL K) (tVar 0) (tVar 1))) tNext)
  (tRet (tC (.int 0)))
theorem atI_map {ns : List Int} {k : Int} (h0 : 0 ≤ k) (h : k < (ns.length : Int)) : atI (ns.map V.int) k = some (.int (cellAt ns k)) := by
  have hk : k.toNat < ns.length := by omega
  refine at_of (j := k.toNat) (by omega) ?_
  rw [List.getElem?_map, List.getElem?_eq_getElem hk]
  unfold cellAt
  rw [List.getD_eq_getElem?_getD, List.getElem?_eq_getElem hk]
  rfl
theorem pure__law_cell_at {K : PySem.W.Frag} {vs : List V} {H : Hp} {Q : VK} {E : XK} {W : WX} (h : sp_cell_at K vs H Q E) : t__law_cell_at K W { nx := fun _ H' => Q .non H', rt := Q } (start n__law_cell_at vs) H := by
  obtain ⟨a, ns, k, rfl, hS, h0, q⟩ := h
  show t__law_cell_at K W _ [some (.ref a), some (.int k)] H
  unfold t__law_cell_at
  walk_at "go"
  refine e_lenL hS ?_
  walk_at "go"
  refine ifd (fun h => ?_) (fun h => ?_)
  · rw [List.length_map] at h
    walk_at "go"
    exact e_ixL hS (atI_map h0 h) q
  · rw [List.length_map] at h
    walk_at "go"
    have e : cellAt ns k = 0 := by
      unfold cellAt
      rw [List.getD_eq_getElem?_getD, List.getElem?_eq_none (by omega)]
      rfl
    rw [e] at q
    exact q
/-- the k-th of the law's names -/
def nmStep (c : Int) (k p : Nat) : Int := c / 36 % 26 + 5 * (p : Int) + (if (p : Int) = c / 6 % (1 + c % 6) then (k : Int) else 0)
def nmCode (c : Int) (k p : Nat) : Nat := 97 + (nmStep c k p % 26).toNat
def nmCodes (c : Int) (k n : Nat) : List Nat := (List.range n).map (nmCode c k)
def lawName (c : Int) (k : Nat) : Str := ⟨(nmCodes c k (1 + c % 6).toNat).toArray⟩
def lawNames (c : Int) (n : Nat) : List Str := (List.range n).map (lawName c)
def sp__law_names : Sp := fun vs H Q _ => ∃ (c : Int) (n : Nat), vs = [.int c, .int n] ∧ n ≤ 1000 ∧ ∀ r H', Same H H' → H r = none → H' r = some (.lst ((lawNames c n).map V.str)) → Q (.ref r) H'
theorem ln__law_names {vs : List V} {H : Hp} {Q : VK} {E : XK} (h : sp__law_names vs H Q E) : vs.length = 2 := by
  obtain ⟨c, n, rfl, _⟩ := h
  rfl
abbrev n__law_names : List Str := ["_law_cell", "_law_many", "_law_letters", "_law_size", "_law_at", "_law_out", "_law_k", "_law_name", "_law_place", "_law_step"]
def t__law_names (K : PySem.W.Frag) (W : WX) : TS :=
  tSeq (tAsg (tC (.str "abcdefghijklmnopqrstuvwxyz")) (gName 2))
  (tSeq (tAsg (tOp rAddI (tC (.int 1)) (tOp rModI (tVar 0) (tC (.int 6)))) (gName 3))
  (tSeq (tAsg (tOp rModI (tOp rDivI (tVar 0) (tC (.int 6))) (tVar 3)) (gName 4))
  (tSeq (tAsg (tLst tNil) (gName 5))
  (tSeq (tFor (iRng1 (tCons (tVar 1) tNil)) (gName 6) (tSeq (tAsg (tC (.str "")) (gName 7))
  (tSeq (tFor (iRng1 (tCons (tVar 3) tNil)) (gName 8) (tSeq (tAsg (tOp rAddI (tOp rModI (tOp rDivI (tVar 0) (tC (.int 36))) (tC (.int 26))) (tOp rMulI (tC (.int 5)) (tVar 8))) (gName 9))
  (tSeq (tIfS (tTest (tOp rEq (tVar 8) (tVar 4))) (tAsg (tOp rAddI (tVar 9) (tVar 6)) (gName 9)) tNext)
  (tAsg (tOp rAddS (tVar 7) (tOp rIxS (tVar 2) (tOp rModI (tVar 9) (tC (.int 26))))) (gName 7)))))
  (tDrop (tBM K "list" rAppend (tVar 5) (tCons (tVar 7) tNil))))))
  (tRet (tVar 5))))))
theorem letters_at : ∀ i : Fin 26, (Str.ofString "abcdefghijklmnopqrstuvwxyz").cps.toList[i.val]? = some (97 + i.val) := by decide +kernel
theorem letters_len : (Str.ofString "abcdefghijklmnopqrstuvwxyz").length ≤ sizeLine := by decide +kernel
theorem letters_atI {z : Int} (h0 : 0 ≤ z) (h : z < 26) : atI (Str.ofString "abcdefghijklmnopqrstuvwxyz").cps.toList z = some (97 + z.toNat) := by
  have e : (Str.ofString "abcdefghijklmnopqrstuvwxyz").cps.toList[z.toNat]? = some (97 + z.toNat) := letters_at ⟨z.toNat, by omega⟩
  have e2 : z = ((z.toNat : Nat) : Int) := by omega
  have e3 := atI_nat e
  rw [← e2] at e3
  exact e3
theorem str_snoc (l : List Nat) (c : Nat) : (⟨l.toArray⟩ : Str) ++ (⟨#[c]⟩ : Str) = ⟨(l ++ [c]).toArray⟩ := by
  apply str_ext
  show ((l.toArray ++ #[c]).toList : List Nat) = _
  simp
theorem divw (a : Int) {b : Int} (h : 0 < b) (h2 : b < 1000) : CDivW a b := wide_div (b := 10) h (Nat.lt_of_lt_of_le (show b.natAbs < 1000 by omega) (by decide)) (by decide) (by decide)
theorem mulok {a b : Int} (h0 : -(2 ^ 64) < a) (h : a < 2 ^ 64) : IntMulOk a b := (show CMul a b from .inl ⟨h0, h⟩).ok
theorem pure__law_names {K : PySem.W.Frag} {vs : List V} {H : Hp} {Q : VK} {E : XK} {W : WX} (h : sp__law_names vs H Q E) : t__law_names K W { nx := fun _ H' => Q .non H', rt := Q } (start n__law_names vs) H := by
  obtain ⟨c, n, rfl, hn, k⟩ := h
  show t__law_names K W _ [some (.int c), some (.int n), none, none, none, none, none, none, none, none] H
  unfold t__law_names
  walk_at "go"
  refine e_mod (by decide) ?_
  walk_at "go"
  refine e_div (divw c (by decide) (by decide)) ?_
  walk_at "go"
  refine e_mod (by omega) ?_
  walk_at "go"
  intro r hr
  walk_at "go"
  refine k_forR (n := (n : Int)) (fun i σ H' => ∃ v6 v7 v8 v9 : Option V, σ = [some (.int c), some (.int n), some (.str "abcdefghijklmnopqrstuvwxyz"), some (.int (1 + c % 6)), some (.int (c / 6 % (1 + c % 6))), some (.ref r), v6, v7, v8, v9] ∧ Same H H' ∧ H' r = some (.lst ((lawNames c i).map V.str)))
    (by omega) (by omega) ⟨none, none, none, none, rfl, same_up (Same.refl H) hr, upd_same⟩ ?_ ?_
  · rintro i σ H1 hi ⟨v6, v7, v8, v9, rfl, s1, h1⟩
    walk_at "go"
    refine k_forR (n := 1 + c % 6) (fun p σ H' => ∃ v8 v9 : Option V, σ = [some (.int c), some (.int n), some (.str "abcdefghijklmnopqrstuvwxyz"), some (.int (1 + c % 6)), some (.int (c / 6 % (1 + c % 6))), some (.ref r), some (.int i), some (.str ⟨(nmCodes c i p).toArray⟩), v8, v9] ∧ H' = H1)
      (by omega) (by omega) ⟨v8, v9, rfl, rfl⟩ ?_ ?_
    · rintro p σ H2 hp ⟨v8, v9, rfl, rfl⟩
      walk_at "go"
      refine e_div (divw c (by decide) (by decide)) ?_
      walk_at "go"
      refine e_mod (by decide) ?_
      walk_at "go"
      refine e_mul (mulok (by decide) (by decide)) ?_
      walk_at "go"
      have fin : ∀ z : Int, z = nmStep c i p → ∀ G : VK, G (.str ⟨(nmCodes c i (p + 1)).toArray⟩) H2 → rModI (.int z) (.int 26) H2 fun y H => rIxS (.str "abcdefghijklmnopqrstuvwxyz") y H fun y H => rAddS (.str ⟨(nmCodes c i p).toArray⟩) y H G := by
        rintro z rfl G hG
        refine e_mod (by decide) ?_
        refine e_ixS letters_len (letters_atI (by omega) (by omega)) ?_
        refine e_addS ?_ ?_
        · show (nmCodes c i p).length + 1 ≤ sizeLine
          unfold nmCodes
          rw [List.length_map, List.length_range, sizeLine_eq]
          omega
        · rw [str_snoc]
          have e : nmCodes c i (p + 1) = nmCodes c i p ++ [97 + (nmStep c i p % 26).toNat] := by
            unfold nmCodes
            rw [List.range_succ, List.map_append]
            rfl
          rw [e] at hG
          exact hG
      refine ifd (fun h => ?_) (fun h => ?_)
      · walk_at "go"
        exact fin _ (by unfold nmStep; rw [if_pos h]) _ ⟨_, _, rfl, rfl⟩
      · walk_at "go"
        exact fin _ (by unfold nmStep; rw [if_neg h]; omega) _ ⟨_, _, rfl, rfl⟩
    · rintro σ H2 ⟨v8, v9, rfl, rfl⟩
      walk_at "go"
      refine e_tyl h1 ?_
      walk_at "go"
      refine e_app h1 ?_ ?_
      · show ((lawNames c i).map V.str).length < sizeLine
        rw [List.length_map, lawNames, List.length_map, List.length_range, sizeLine_eq]
        omega
      · refine ⟨_, _, _, _, rfl, same_mut s1 hr, ?_⟩
        rw [upd_same]
        unfold lawNames
        rw [List.range_succ, List.map_append, List.map_append]
        rfl
  · rintro σ H1 ⟨v6, v7, v8, v9, rfl, s1, h1⟩
    walk_at "go"
    exact k r H1 s1 hr h1
/-! ### the law's leanings -/
def pick (ys : List Str) (c : Int) : Str := ys.getD (c % (ys.length : Int)).toNat ""
def lnStep (ys : List Str) (m : List (Str × List Str)) (c : Int) : List (Str × List Str) := putS m (pick ys c) (getL m (pick ys c) ++ [pick ys (c / 16)])
def leansOf (ys : List Str) (cs : List Int) : List (Str × List Str) := cs.foldl (lnStep ys) []
theorem leansOf_snoc (ys : List Str) (cs : List Int) (c : Int) : leansOf ys (cs ++ [c]) = lnStep ys (leansOf ys cs) c := by
  unfold leansOf
  rw [List.foldl_append]
  rfl
theorem pick_at {ys : List Str} {c : Int} (h : 0 < ys.length) : atI (ys.map V.str) (c % (ys.length : Int)) = some (.str (pick ys c)) := by
  have h1 : 0 ≤ c % (ys.length : Int) := Int.emod_nonneg _ (by omega)
  have h2 : c % (ys.length : Int) < ys.length := Int.emod_lt_of_pos _ (by omega)
  have hk : (c % (ys.length : Int)).toNat < ys.length := by omega
  refine at_of (j := (c % (ys.length : Int)).toNat) (by omega) ?_
  rw [List.getElem?_map, List.getElem?_eq_getElem hk]
  unfold pick
  rw [List.getD_eq_getElem?_getD, List.getElem?_eq_getElem hk]
  rfl
theorem pick_mem {ys : List Str} {c : Int} (h : 0 < ys.length) : pick ys c ∈ ys := by
  have h1 : 0 ≤ c % (ys.length : Int) := Int.emod_nonneg _ (by omega)
  have h2 : c % (ys.length : Int) < ys.length := Int.emod_lt_of_pos _ (by omega)
  have hk : (c % (ys.length : Int)).toNat < ys.length := by omega
  unfold pick
  rw [List.getD_eq_getElem?_getD, List.getElem?_eq_getElem hk]
  exact List.getElem_mem hk
theorem getL_put (m : List (Str × List Str)) (k j : Str) (v : List Str) : getL (putS m k v) j = if k = j then v else getL m j := by
  unfold getL
  rw [getS_put]
  split <;> rfl
theorem leansOf_in {ys : List Str} (h : 0 < ys.length) : ∀ (n : Nat) (cs : List Int), cs.length = n → (∀ x, ∀ z ∈ getL (leansOf ys cs) x, z ∈ ys) ∧ (∀ x, (getL (leansOf ys cs) x).length ≤ n) ∧ (leansOf ys cs).length ≤ n ∧ ((leansOf ys cs).map (·.1)).Nodup ∧ ((leansOf ys cs).flatMap (·.2)).length = n := by
  intro n
  induction n with
  | zero =>
    intro cs hc
    cases cs with
    | nil => exact ⟨fun x z hz => absurd hz (by simp [leansOf, getL, getS]), fun x => by simp [leansOf, getL, getS], by simp [leansOf], by simp [leansOf], by simp [leansOf]⟩
    | cons _ _ => simp at hc
  | succ n ih =>
    intro cs hc
    obtain ⟨cs, c, rfl⟩ : ∃ l c, cs = l ++ [c] := ⟨cs.dropLast, cs.getLast (by intro z; rw [z] at hc; simp at hc), (List.dropLast_concat_getLast _).symm⟩
    have hc' : cs.length = n := by simpa using hc
    obtain ⟨i1, i2, i3, i4, i5⟩ := ih cs hc'
    rw [leansOf_snoc]
    unfold lnStep
    refine ⟨fun x z hz => ?_, fun x => ?_, ?_, putS_nodup _ _ i4, ?_⟩
    · rw [getL_put] at hz
      split at hz
      · rcases List.mem_append.mp hz with q | q
        · exact i1 _ z q
        · rw [List.mem_singleton.mp q]
          exact pick_mem h
      · exact i1 _ z hz
    · rw [getL_put]
      split
      · have := i2 (pick ys c)
        rw [List.length_append, List.length_singleton]
        omega
      · have := i2 x
        omega
    · have := putS_len (leansOf ys cs) (pick ys c) (getL (leansOf ys cs) (pick ys c) ++ [pick ys (c / 16)])
      omega
    · rw [← i5]
      generalize leansOf ys cs = m at i4 ⊢
      generalize pick ys c = x
      generalize pick ys (c / 16) = y
      clear i1 i2 i3 i5 hc hc' ih
      by_cases hx : x ∈ m.map (·.1)
      · unfold putS
        rw [any_key, if_pos (by simpa using hx)]
        induction m with
        | nil => cases hx
        | cons p r ihm =>
          rw [List.map_cons] at i4
          obtain ⟨n1, n2⟩ := List.nodup_cons.mp i4
          rw [List.map_cons, List.flatMap_cons, List.flatMap_cons, List.length_append, List.length_append]
          by_cases e : p.1 = x
          · have hr : ¬ x ∈ r.map (·.1) := e ▸ n1
            have er : r.map (fun q => if q.1 = x then (q.1, getL (p :: r) x ++ [y]) else q) = r := by
              conv => rhs; rw [← List.map_id r]
              apply List.map_congr_left
              intro q hq
              have : ¬ q.1 = x := fun z => hr (List.mem_map.mpr ⟨q, hq, z⟩)
              simp [this]
            rw [er, if_pos e]
            have eg : getL (p :: r) x = p.2 := by
              unfold getL
              rw [getS_cons, if_pos e]
              rfl
            rw [eg]
            simp only [List.length_append, List.length_singleton]
            omega
          · have hr : x ∈ r.map (·.1) := by
              rw [List.map_cons] at hx
              rcases List.mem_cons.mp hx with q | q
              · exact absurd q.symm e
              · exact q
            rw [if_neg e]
            have eg : getL (p :: r) x = getL r x := by
              unfold getL
              rw [getS_cons, if_neg e]
            rw [eg, ihm n2 hr]
            omega
      · rw [putS_new _ hx]
        have eg : getL m x = [] := by
          unfold getL
          rw [getS_none.mpr hx]
          rfl
        rw [eg, List.flatMap_append]
        simp
def sp_leans (K : PySem.W.Frag) : Sp := fun vs H Q _ => ∃ (a b : Addr) (cs : List Int) (ys : List Str), vs = [.ref a, .ref b] ∧ SqL K H a (cs.map V.int) ∧ SqL K H b (ys.map V.str) ∧ 0 < ys.length ∧ cs.length ≤ 1000 ∧
  ∀ (d : Addr) (l : List (Str × V)) (H' : Hp), Same H H' → H d = none → H' d = some (dS l) → LnRel H' (leansOf ys cs) l → Q (.ref d) H'
theorem ln__law_leans {K : PySem.W.Frag} {vs : List V} {H : Hp} {Q : VK} {E : XK} (h : sp_leans K vs H Q E) : vs.length = 2 := by
  obtain ⟨a, b, cs, ys, rfl, _⟩ := h
  rfl
abbrev n__law_leans : List Str := ["_law_cells", "_law_names_here", "_law_leans_here", "_law_cell", "_law_one"]
def t__law_leans (K : PySem.W.Frag) (W : WX) : TS :=
  tSeq (tAsg tDNewK (gName 2))
  (tSeq (tFor (iList K (tVar 0)) (gName 3) (tSeq (tAsg (tOp (rIxL K) (tVar 1) (tOp rModI (tVar 3) (tCB (rLenL K) (tCons (tVar 1) tNil)))) (gName 4))
  (sDp (tVar 2) (tVar 4) (tOp rCat (tDg2 (tVar 2) (tVar 4) (tLst tNil)) (tLst (tCons (tOp (rIxL K) (tVar 1) (tOp rModI (tOp rDivI (tVar 3) (tC (.int 16))) (tCB (rLenL K) (tCons (tVar 1) tNil)))) tNil))))))
  (tRet (tVar 2)))
/-- a new object, or a change of a dict, leaves the lists -/
theorem RefL.updD {H : Hp} {d : Addr} {k k' : List (Key × V)} {ys : List Str} {v : V} (h : H d = some (.dK k)) (r : RefL H ys v) : RefL (upd H d (.dK k')) ys v := by
  obtain ⟨b, e, hb⟩ := r
  refine ⟨b, e, ?_⟩
  rw [upd_ne (ne_of hb h (by intro z; cases z))]
  exact hb
theorem pure__law_leans {K : PySem.W.Frag} {vs : List V} {H : Hp} {Q : VK} {E : XK} {W : WX} (h : sp_leans K vs H Q E) : t__law_leans K W { nx := fun _ H' => Q .non H', rt := Q } (start n__law_leans vs) H := by
  obtain ⟨a, b, cs, ys, rfl, hcs, hys, h0, hc, k⟩ := h
  show t__law_leans K W _ [some (.ref a), some (.ref b), none, none, none] H
  unfold t__law_leans
  walk_at "go"
  intro d hd
  walk_at "go"
  have lc : (cs.map V.int).length = cs.length := List.length_map _
  have ly : (ys.map V.str).length = ys.length := List.length_map _
  have s0 : Same H (upd H d (.dK [])) := same_up (Same.refl H) hd
  refine k_forL (fun i σ H' => ∃ (v3 v4 : Option V) (l : List (Str × V)), σ = [some (.ref a), some (.ref b), some (.ref d), v3, v4] ∧ Same H H' ∧ H' d = some (dS l) ∧ LnRel H' (leansOf ys (cs.take i)) l) (s0.seq hcs)
    ⟨none, none, [], rfl, s0, upd_same, .nil⟩ (fun i σ H' _ ⟨_, _, _, _, s, _⟩ => s.seq hcs) ?_ ?_
  · rintro i x σ H1 hi ⟨v3, v4, l, rfl, s1, hl, R⟩
    have hil : i < cs.length := by
      have := (List.getElem?_eq_some_iff.mp hi).1
      omega
    obtain rfl : x = V.int cs[i] := by
      rw [List.getElem?_map, List.getElem?_eq_getElem hil] at hi
      exact (Option.some.inj hi).symm
    have et : cs.take (i + 1) = cs.take i ++ [cs[i]] := by rw [List.take_succ_eq_append_getElem hil]
    generalize cs[i] = c at et ⊢
    have B := leansOf_in h0 i (cs.take i) (by rw [List.length_take]; omega)
    generalize em : leansOf ys (cs.take i) = m at R B ⊢
    walk_at "go"
    refine e_lenL (s1.seq hys) ?_
    rw [ly]
    refine e_mod (by omega) ?_
    refine e_ixL (s1.seq hys) (pick_at h0) ?_
    walk_at "go"
    refine k_isD (.of hl) ?_
    walk_at "go"
    intro p hp
    have s2 : Same H1 (upd H1 p (.lst [])) := same_up (Same.refl H1) hp
    obtain ⟨q, eq, hq⟩ := dq_get (R.mono fun _ _ => RefL.same s2) (pick ys c) (p := p) upd_same
    refine k_dg2 (.of (s2 _ _ hl)) ?_
    rw [eq]
    walk_at "go"
    refine e_div (divw c (by decide) (by decide)) ?_
    walk_at "go"
    refine e_lenL (s2.seq (s1.seq hys)) ?_
    rw [ly]
    refine e_mod (by omega) ?_
    refine e_ixL (s2.seq (s1.seq hys)) (pick_at h0) ?_
    walk_at "go"
    intro r hr
    have s3 := same1 (o := .lst [.str (pick ys (c / 16))]) hr
    refine e_cat (s3 _ _ hq) upd_same ?_ ?_
    · have := B.2.1 (pick ys c)
      rw [List.length_map, sizeLine_eq]
      simp only [List.length_singleton]
      omega
    intro t ht
    have s4 : Same H1 (upd (upd (upd H1 p (.lst [])) r (.lst [.str (pick ys (c / 16))])) t (.lst ((getL m (pick ys c)).map V.str ++ [.str (pick ys (c / 16))]))) := (s2.trans s3).trans (same1 ht)
    have h4 : upd (upd (upd H1 p (.lst [])) r (.lst [.str (pick ys (c / 16))])) t (.lst ((getL m (pick ys c)).map V.str ++ [.str (pick ys (c / 16))])) t = some (.lst ((getL m (pick ys c) ++ [pick ys (c / 16)]).map V.str)) := by
      rw [upd_same, List.map_append]
      rfl
    generalize upd (upd (upd H1 p (.lst [])) r (.lst [.str (pick ys (c / 16))])) t (.lst ((getL m (pick ys c)).map V.str ++ [.str (pick ys (c / 16))])) = H4 at s4 h4 ⊢
    walk_at "go"
    refine k_dp (s4 _ _ hl) (by rw [← R.length, sizeLine_eq]; omega) ?_
    walk_at "go"
    refine ⟨_, _, _, rfl, same_mut (s1.trans s4) hd, upd_same, ?_⟩
    rw [et, leansOf_snoc, em]
    exact RelD.put (R.mono fun _ _ z => RefL.updD (s4 _ _ hl) (RefL.same s4 z)) (RefL.updD (s4 _ _ hl) ⟨t, rfl, h4⟩)
  · rintro σ H1 ⟨v3, v4, l, rfl, s1, hl, R⟩
    rw [lc, List.take_of_length_le (Nat.le_refl _)] at R
    walk_at "go"
    exact k d l H1 s1 hd hl R
/-! ### comprehensions that sift a list of texts; heaps alike but for some places -/
def SameB (ds : List Addr) (H H' : Hp) : Prop := ∀ b o, ¬ b ∈ ds → H b = some o → H' b = some o
theorem SameB.refl {ds : List Addr} {H : Hp} : SameB ds H H := fun _ _ _ h => h
theorem SameB.same {ds : List Addr} {H H' H2 : Hp} (s : SameB ds H H') (s2 : Same H' H2) : SameB ds H H2 := fun b o hb h => s2 b o (s b o hb h)
theorem SameB.put {ds : List Addr} {H H' : Hp} {d : Addr} {o : HO} (s : SameB ds H H') (hd : d ∈ ds) : SameB ds H (upd H' d o) := fun b u hb h => by
  rw [upd_ne (fun e : b = d => hb (by rw [e]; exact hd))]
  exact s b u hb h
theorem SameB.of_same {ds : List Addr} {H H' : Hp} (s : Same H H') : SameB ds H H' := fun b o _ h => s b o h
theorem SameB.from {ds : List Addr} {H0 H H' : Hp} (s : SameB ds H H') (s0 : Same H0 H) (hn : ∀ d ∈ ds, H0 d = none) : Same H0 H' := fun b o h => s b o (fun hb => by rw [hn b hb] at h; cases h) (s0 b o h)
theorem SameB.refL {ds : List Addr} {H H' : Hp} {ys : List Str} {v : V} (s : SameB ds H H') (h : RefL H ys v) (hn : ∀ d ∈ ds, ∀ xs, H d ≠ some (.lst xs)) : RefL H' ys v := by
  obtain ⟨b, e, hb⟩ := h
  exact ⟨b, e, s _ _ (fun hd => hn b hd _ hb) hb⟩
def kLc (J : It) (g : TG) (tt : TT) (te : TE) (vs : List Nat) (σ : St) (Q : VK) (H1 : Hp) : Prop := ∀ D, H1 D = none → ∃ W : Nat → Nat → Hp → Prop, (∃ m, W 0 m (upd H1 D (.lst []))) ∧ ∀ i m H, W i m H →
  (J.stop i H ∧ Q (.ref D) H) ∨ (J.go i H ∧ ∃ Nx : Hp → Prop, (∀ H', Nx H' → ∃ m', m' < m ∧ W (i + 1) m' H') ∧ ∀ x H', J.yld i H x H' → g x (wipe σ vs) H' fun σ2 H2 => wipe σ2 vs = wipe σ vs ∧ tt σ2 H2 fun b H3 =>
    if b = true then te σ2 H3 fun y H4 => ∃ acc, H4 D = some (.lst acc) ∧ acc.length < sizeLine ∧ Nx (upd H4 D (.lst (acc ++ [y]))) else Nx H3)
theorem e_lc {wi : TI} {g : TG} {tt : TT} {te : TE} {vs : List Nat} {σ : St} {H : Hp} {Q : VK} (h : wi σ H fun J H1 => kLc J g tt te vs σ Q H1) : tLc wi g tt te vs σ H Q := h
theorem k_lcS {K : PySem.W.Frag} {a : Addr} {xs : List Str} {tt : TT} {i : Nat} {σ : St} {H : Hp} {Q : VK} (p : Str → Bool) (h : SqL K H a (xs.map V.str)) (hn : xs.length ≤ 1000)
    (hw : ∀ v, wipe ((wipe σ [i]).set i (some v)) [i] = wipe σ [i]) (hv : ∀ v : V, ((wipe σ [i]).set i (some v))[i]? = some (some v))
    (ht : ∀ (z : Str) (H' : Hp) (R : Bool → Hp → Prop), z ∈ xs → Same H H' → R (p z) H' → tt ((wipe σ [i]).set i (some (.str z))) H' R)
    (q : ∀ D H', H D = none → Same H H' → H' D = some (.lst ((xs.filter p).map V.str)) → Q (.ref D) H') : kIL K (.ref a) H fun J H1 => kLc J (gName i) tt (tVar i) [i] σ Q H1 := by
  refine ⟨a, rfl, ⟨_, h⟩, fun D hD => lc_list (fun n H' => Same H H' ∧ H' D = some (.lst (((xs.take n).filter p).map V.str))) ⟨same1 hD, upd_same⟩ (fun n H' _ z => z.1.seq h) ?_ ?_⟩
  · rintro n x H' hx ⟨s, hd⟩
    have hx2 : ∃ z, x = .str z ∧ xs[n]? = some z := by
      rw [List.getElem?_map] at hx
      cases e : xs[n]? with
      | none => rw [e] at hx; cases hx
      | some z => rw [e] at hx; exact ⟨z, (Option.some.inj hx).symm, rfl⟩
    obtain ⟨z, rfl, hz⟩ := hx2
    have hil := List.getElem?_eq_some_iff.mp hz
    have et : xs.take (n + 1) = xs.take n ++ [z] := by rw [List.take_succ_eq_append_getElem hil.1, hil.2]
    refine ⟨hw _, ht z H' _ (List.mem_of_getElem? hz) s ?_⟩
    cases e : p z with
    | true =>
      rw [if_pos rfl]
      refine ⟨_, hv _, _, hd, ?_, same_mut s hD, ?_⟩
      · rw [List.length_map]
        have := List.length_filter_le p (xs.take n)
        rw [List.length_take] at this
        exact small1000 (by omega)
      · rw [upd_same, et, List.filter_append, List.map_append, List.filter_cons, if_pos e]
        rfl
    | false =>
      rw [if_neg (by decide)]
      refine ⟨s, ?_⟩
      rw [et, List.filter_append, List.filter_cons, if_neg (by rw [e]; decide), List.filter_nil, List.append_nil]
      exact hd
  · rintro H' ⟨s, hd⟩
    rw [List.length_map, List.take_of_length_le (Nat.le_refl _)] at hd
    exact q D H' hD s hd
/-! ### code that is not come to; methods; new instances -/
def tNevE : TE := fun _ _ _ => False
def gNev : TG := fun _ _ _ _ => False
def tNevT : TT := fun _ _ _ => False
section
variable {X : Cx}
theorem pe_nev {e : Expr} : PE X e tNevE := ⟨fun _ _ _ _ _ _ h => h.elim⟩
theorem ps_nev {st : Stmt} : PS X st tNever := ⟨fun _ _ _ _ _ _ h => h.elim⟩
theorem pg_nev {e : Expr} : PG X e gNev := ⟨fun _ _ _ _ _ _ _ _ _ h => h.elim⟩
end
theorem lookup_none {f : Str} {ns : List Str} {vs : List V} (h : posOf ns f = none) : (ns.zip vs).lookup f = none := by
  cases e : (ns.zip vs).lookup f with
  | none => rfl
  | some v =>
    have hm : (f, v) ∈ ns.zip vs := by
      have key : ∀ l : List (Str × V), l.lookup f = some v → (f, v) ∈ l := by
        intro l
        induction l with
        | nil => intro h; cases h
        | cons p r ih =>
          intro h
          obtain ⟨a, b⟩ := p
          unfold List.lookup at h
          cases q : (f == a) with
          | true =>
            rw [q] at h
            rw [beq_iff_eq.mp q]
            cases h
            exact List.mem_cons_self
          | false =>
            rw [q] at h
            exact List.mem_cons_of_mem _ (ih h)
      exact key _ e
    have h2 := (List.of_mem_zip hm).1
    unfold posOf at h
    rw [List.findIdx?_eq_none_iff] at h
    have := h f h2
    simp at this
def kMC (C : Addr) (m : Str) (x : V) (H : Hp) (P : Prop) : Prop := ∃ a dx fs, x = .ref a ∧ H a = some (.ins C dx fs) ∧ fs.lookup m = none ∧ P
/-- o.m(..), o an instance of the class at C -/
def tMC (C : Addr) (m : Str) (sp : Sp) (ta : TE) (t : TA) : TE := fun σ H Q => ta σ H fun x H1 => kMC C m x H1 (t σ H1 fun vs H2 => sp (x :: vs) H2 Q E0)
def kMK (C : Addr) (sp : Sp) (vs : List V) (H : Hp) (Q : VK) : Prop := ∀ x dx, H x = none → H dx = none → dx ≠ x → sp (.ref x :: vs) (upd (upd H dx (.own x)) x (ob C [] dx [])) (fun v H2 => v = .non ∧ Q (.ref x) H2) E0
/-- C(..) -/
def tMK (C : Addr) (sp : Sp) (t : TA) : TE := fun σ H Q => t σ H fun vs H1 => kMK C sp vs H1 Q
theorem tMC_eq (C : Addr) (m : Str) (sp : Sp) (ta : TE) (t : TA) : tMeth C m sp [] E0 ta t = tMC C m sp ta t := by
  unfold tMeth tMC kMC
  simp only [List.append_nil]
theorem tMK_eq (C : Addr) (sp : Sp) (t : TA) : tMake C sp [] E0 t = tMK C sp t := by
  unfold tMake tMK kMK
  simp only [List.append_nil] <;> rfl
section
variable {X : Cx} {k : Nat} {f C : Addr} {ps ns : List Str} {sp : Sp} {x m : Str} {p pos apos : Pos} {e o : Expr} {es : List Expr} {ta : TE} {t : TA}
theorem an_meth {pl : Sem Bool} (c : IsC X.K C ns) (hm : Meth X.K C m f) (F : Ok X.prog X.w X.K X.mg X.base k f ps sp) (hr : Room k X.A) (he : PE X o ta) (ha : PA X (e :: es) t)
    (hst : starEach (e :: es) X.env = (false, eval e X.env) :: starEach es X.env := by rfl) (hpl : (backTo pos (starEach es X.env)).any (·.1) = false := by rfl)
    (ht : eval (.Call (.Attribute o m apos) (e :: es) [] pos) X.env = (do
      let ov ← eval o X.env
      standAt apos.atName
      let (f, first) ← holding [ov] (getMethod ov m pl)
      callWith pos f first (backTo pos (starEach (e :: es) X.env)) (backToKw pos (keywordEach [] X.env))) := by rfl) : PE X (.Call (.Attribute o m apos) (e :: es) [] pos) (tMC C m sp ta t) := by
  obtain ⟨fd, F, b, kp, _⟩ := F
  rw [← tMC_eq]
  exact pe_meth he c.cl hm F hr b .nil passL ha hst hpl ht
theorem an_meth0 {pl : Sem Bool} (c : IsC X.K C ns) (hm : Meth X.K C m f) (F : Ok X.prog X.w X.K X.mg X.base k f ps sp) (hr : Room k X.A) (he : PE X o ta)
    (ht : eval (.Call (.Attribute o m apos) [] [] pos) X.env = (do
      let ov ← eval o X.env
      standAt apos.atName
      let (f, first) ← holding [ov] (getMethod ov m pl)
      callWith pos f first (backTo pos (starEach [] X.env)) (backToKw pos (keywordEach [] X.env))) := by rfl) : PE X (.Call (.Attribute o m apos) [] [] pos) (tMC C m sp ta tNil) := by
  obtain ⟨fd, F, b, kp, _⟩ := F
  rw [← tMC_eq]
  exact pe_meth0 he c.cl hm F hr b .nil passL ht
theorem an_make (M : Mk X.K C f) (F : Ok X.prog X.w X.K X.mg X.base k f ps sp) (hr : Room (k + 1) X.A) (hm : X.mg x = some (.ref C)) (ha : PA X (e :: es) t) (hg : Gl X x := by rfl)
    (hdb : (x == ("__debug__" : Str)) = false := by decide) (he : starEach (e :: es) X.env = (false, eval e X.env) :: starEach es X.env := by rfl) (hpl : (backTo pos (starEach es X.env)).any (·.1) = false := by rfl) :
    PE X (.Call (.Name x p) (e :: es) [] pos) (tMK C sp t) := by
  obtain ⟨fd, F, b, kp, _⟩ := F
  rw [← tMK_eq]
  exact pe_make M F hr hg hm b .nil passL ha hdb he hpl
theorem an_make0 (M : Mk X.K C f) (F : Ok X.prog X.w X.K X.mg X.base k f ps sp) (hr : Room (k + 1) X.A) (hm : X.mg x = some (.ref C)) (hg : Gl X x := by rfl)
    (hdb : (x == ("__debug__" : Str)) = false := by decide) : PE X (.Call (.Name x p) [] [] pos) (tMK C sp tNil) := by
  obtain ⟨fd, F, b, kp, _⟩ := F
  rw [← tMK_eq]
  exact pe_make0 M F hr hg hm b .nil passL hdb
theorem an_call0 (F : Ok X.prog X.w X.K X.mg X.base k f ps sp) (hr : Room k X.A) (hm : X.mg x = some (.ref f)) (hg : Gl X x := by rfl) (hdb : (x == ("__debug__" : Str)) = false := by decide) : PE X (.Call (.Name x p) [] [] pos) (tCall sp [] E0 tNil) := by
  obtain ⟨fd, F, b, kp, _⟩ := F
  exact pe_call0 F hr hg hm kp b .nil passL hdb
end
section
variable {σ : St} {H : Hp} {Q : VK} {a C dx : Addr} {ns : List Str} {vs : List V} {m : Str} {sp : Sp} {ta : TE} {t : TA}
theorem e_mc (h : ta σ H fun x H1 => kMC C m x H1 (t σ H1 fun vs H2 => sp (x :: vs) H2 Q E0)) : tMC C m sp ta t σ H Q := h
theorem k_mc {P : Prop} (h : H a = some (ob C ns dx vs)) (l : posOf ns m = none) (q : P) : kMC C m (.ref a) H P := ⟨a, dx, _, rfl, h, lookup_none l, q⟩
theorem e_mk (h : t σ H fun vs H1 => kMK C sp vs H1 Q) : tMK C sp t σ H Q := h
end
/-! ### comprehensions over dicts and lists, by an invariant -/
section
variable {σ : St} {H : Hp} {Q : VK} {g : TG} {tt : TT} {te : TE} {vs : List Nat}
theorem k_lcK {d : Addr} {od : Obj} {l : List (Str × V)} (Pv : Nat → Addr → Hp → Prop) (h : H d = some (.frz od (.dK (skv l)))) (h0 : ∀ D, H D = none → Pv 0 D (upd H D (.lst []))) (hl : ∀ i D H, Pv i D H → H d = some (.frz od (.dK (skv l))))
    (hs : ∀ i k v D H', H D = none → l[i]? = some (k, v) → Pv i D H' → g (.str k) (wipe σ vs) H' fun σ2 H2 => wipe σ2 vs = wipe σ vs ∧ tt σ2 H2 fun b H3 => if b = true then te σ2 H3 fun y H4 => ∃ acc, H4 D = some (.lst acc) ∧ acc.length < sizeLine ∧ Pv (i + 1) D (upd H4 D (.lst (acc ++ [y]))) else Pv (i + 1) D H3)
    (hd : ∀ D H', H D = none → Pv l.length D H' → Q (.ref D) H') : kIK (.ref d) H fun J H1 => kLc J g tt te vs σ Q H1 :=
  ⟨d, od, rfl, .inl ⟨skv l, h, fun D hD => ⟨fun i m H => m = l.length - i ∧ i ≤ l.length ∧ Pv i D H, ⟨l.length, by simp, Nat.zero_le _, h0 D hD⟩, by
    rintro i m H' ⟨rfl, hi, p⟩
    have ls : (skv l).length = l.length := List.length_map _
    by_cases hlt : i < l.length
    · refine .inr ⟨⟨hl i D H' p, by rw [ls]; exact hlt⟩, Pv (i + 1) D, fun H' p' => ⟨l.length - (i + 1), by omega, rfl, hlt, p'⟩, fun x H' y => ?_⟩
      obtain ⟨e, k, v, hk, y⟩ := y
      subst e y
      unfold skv at hk
      rw [List.getElem?_map] at hk
      cases q : l[i]? with
      | none => rw [q] at hk; cases hk
      | some kv =>
        rw [q] at hk
        cases hk
        exact hs i kv.1 kv.2 D _ hD (by rw [q]) p
    · have e : i = l.length := by omega
      subst e
      exact .inl ⟨⟨hl _ D H' p, by rw [ls]; exact Nat.le_refl _⟩, hd D H' hD p⟩⟩⟩⟩
theorem k_lcL {K : PySem.W.Frag} {a : Addr} {xs : List V} (Pv : Nat → Addr → Hp → Prop) (h : SqL K H a xs) (h0 : ∀ D, H D = none → Pv 0 D (upd H D (.lst []))) (hl : ∀ i D H', i ≤ xs.length → Pv i D H' → SqL K H' a xs)
    (hs : ∀ i x D H', H D = none → xs[i]? = some x → Pv i D H' → g x (wipe σ vs) H' fun σ2 H2 => wipe σ2 vs = wipe σ vs ∧ tt σ2 H2 fun b H3 => if b = true then te σ2 H3 fun y H4 => ∃ acc, H4 D = some (.lst acc) ∧ acc.length < sizeLine ∧ Pv (i + 1) D (upd H4 D (.lst (acc ++ [y]))) else Pv (i + 1) D H3)
    (hd : ∀ D H', H D = none → Pv xs.length D H' → Q (.ref D) H') : kIL K (.ref a) H fun J H1 => kLc J g tt te vs σ Q H1 :=
  ⟨a, rfl, ⟨_, h⟩, fun D hD => lc_list (fun i H' => Pv i D H') (h0 D hD) (fun i H' hi p => hl i D H' hi p) (fun i x H' hx p => hs i x D H' hD hx p) (fun H' p => hd D H' hD p)⟩
theorem k_lc0 {K : PySem.W.Frag} {a : Addr} (h : SqL K H a []) (q : ∀ D, H D = none → Q (.ref D) (upd H D (.lst []))) : kIL K (.ref a) H fun J H1 => kLc J g tt te vs σ Q H1 :=
  k_lcL (fun i D H' => H' = upd H D (.lst []) ∧ H D = none) h (fun D hD => ⟨rfl, hD⟩) (fun i D H' _ p => by
    obtain ⟨rfl, hD⟩ := p
    exact (same1 hD).seq h) (fun i x D H' _ hx _ => by simp at hx) fun D H' hD p => by
    obtain ⟨rfl, _⟩ := p
    exact q D hD
theorem e_lockE (d : Addr) (u : HO) {t : TE} (h : H d = some u) (m : Mut (some u)) (q : ∀ od, t σ (upd H d (.frz od u)) fun v H' => H' d = some (.frz od u) ∧ Q v (upd H' d u)) : tLockE t σ H Q := ⟨d, u, h, m, q⟩
theorem e_yes {Q : Bool → Hp → Prop} (h : Q true H) : tYes σ H Q := h
/-- a heap with an object put back as it was -/
theorem upd_back {d : Addr} {u o : HO} (h : H d = some u) : upd (upd H d o) d u = H := by
  funext b
  by_cases e : b = d
  · rw [e, upd_same, h]
  · rw [upd_ne e, upd_ne e]
end
theorem e_inT {c : Nat} {z : Str} {H : Hp} {Q : VK} (q : Q (.bl (decide (c ∈ z.cps.toList))) H) : rInS (.str ⟨#[c]⟩) (.str z) H Q := ⟨c, z, rfl, rfl, q⟩
theorem e_ninT {c : Nat} {z : Str} {H : Hp} {Q : VK} (q : Q (.bl (!decide (c ∈ z.cps.toList))) H) : rNotInS (.str ⟨#[c]⟩) (.str z) H Q := ⟨c, z, rfl, rfl, q⟩
theorem e_notN {x : V} {H : Hp} {Q : VK} (q : Q (.bl (!decide (x = .non))) H) : rNotN x .non H Q := ⟨rfl, q⟩
theorem e_isN {x : V} {H : Hp} {Q : VK} (q : Q (.bl (decide (x = .non))) H) : rIsN x .non H Q := ⟨rfl, q⟩
theorem st_sub {to ti : TE} {t : TSet} {v : V} {σ : St} {H : Hp} {Q : St → Hp → Prop} (h : to σ H fun o H1 => ti σ H1 fun i H2 => t o i v H2 fun H3 => Q σ H3) : gSub to ti t v σ H Q := h
theorem k_setL {p : Addr} {xs : List V} {k : Int} {j : Nat} {v : V} {H : Hp} {P : Hp → Prop} (h : H p = some (.lst xs)) (hk : ixN xs.length k = some j) (q : P (upd H p (.lst (xs.set j v)))) : rSetL (.ref p) (.int k) v H P := ⟨p, xs, k, j, rfl, rfl, h, hk, q⟩
local macro_rules | `(tactic| walk_at "g1") => `(tactic| apply_rules (transparency := .reducible) (maxDepth := 1000000) -symm -exfalso only [e_lc, e_sl3, e_mc, e_mk])
local macro_rules | `(tactic| walk_at "g1") => `(tactic| apply_rules (transparency := .reducible) (maxDepth := 1000000) -symm -exfalso only [e_yes, e_inT, e_ninT, e_notN, e_isN, st_sub])
open He (ga ma)
/-! ### names -/
def nameB (x : Str) : Bool := decide (¬ x = "") && (decide (x.length ≤ 6) && x.cps.toList.all fun c => decide (c ∈ ("abcdefghijklmnopqrstuvwxyz" : Str).cps.toList))
def sp_is_name : Sp := fun vs H Q _ => ∃ x : Str, vs = [.str x] ∧ x.length ≤ 1000 ∧ Q (.bl (nameB x)) H
theorem ln_is_name {vs : List V} {H : Hp} {Q : VK} {E : XK} (h : sp_is_name vs H Q E) : vs.length = 1 := by
  obtain ⟨x, rfl, _⟩ := h
  rfl
abbrev n_is_name : List Str := ["word", "sign"]
def t_is_name (K : PySem.W.Frag) (W : WX) : TS :=
  tSeq (tIfS (tOr (tTest (tOp rEq (tVar 0) (tC (.str "")))) (tTest (tOp rGtI (tCB rLenT (tCons (tVar 0) tNil)) (tC (.int 6))))) (tRet (tC (.bl false))) tNext)
  (tSeq (tFor (iStr (tVar 0)) (gName 1) (tIfS (tTest (tOp rNotInS (tVar 1) (tC (.str "abcdefghijklmnopqrstuvwxyz")))) (tRet (tC (.bl false))) tNext))
  (tRet (tC (.bl true))))
theorem all_take {l : List Nat} {p : Nat → Bool} {i c : Nat} (h : l[i]? = some c) (ht : (l.take i).all p = true) (hc : p c = true) : (l.take (i + 1)).all p = true := by
  have hil := List.getElem?_eq_some_iff.mp h
  rw [List.take_succ_eq_append_getElem hil.1, hil.2, List.all_append, ht]
  simp [hc]
theorem pure_is_name {K : PySem.W.Frag} {vs : List V} {H : Hp} {Q : VK} {E : XK} {W : WX} (h : sp_is_name vs H Q E) : t_is_name K W { nx := fun _ H' => Q .non H', rt := Q } (start n_is_name vs) H := by
  obtain ⟨x, rfl, hl, k⟩ := h
  show t_is_name K W _ [some (.str x), none] H
  unfold t_is_name
  walk_at "go"
  refine ifd (fun h0 => ?_) (fun h0 => ?_)
  · walk_at "go"
    have e : nameB x = false := by unfold nameB; rw [h0]; rfl
    rw [e] at k
    exact k
  · walk_at "go"
    refine e_lenT (by rw [sizeLine_eq]; omega) ?_
    walk_at "go"
    refine ifd (fun h6 => ?_) (fun h6 => ?_)
    · walk_at "go"
      have e : nameB x = false := by
        unfold nameB
        rw [decide_eq_false (p := x.length ≤ 6) (by omega), Bool.false_and, Bool.and_false]
      rw [e] at k
      exact k
    · walk_at "go"
      refine k_forS (fun i σ H' => (∃ v, σ = [some (.str x), v]) ∧ H' = H ∧ (x.cps.toList.take i).all (fun c => decide (c ∈ ("abcdefghijklmnopqrstuvwxyz" : Str).cps.toList)) = true) ⟨⟨_, rfl⟩, rfl, by simp⟩ ?_ ?_
      · rintro i c σ H' hc ⟨⟨v, rfl⟩, rfl, ha⟩
        walk_at "go"
        refine ifn (fun hn => ?_) (fun hy => ?_)
        · walk_at "go"
          have e : nameB x = false := by
            unfold nameB
            have : x.cps.toList.all (fun c => decide (c ∈ ("abcdefghijklmnopqrstuvwxyz" : Str).cps.toList)) = false := by
              rw [Bool.eq_false_iff]
              intro z
              have := List.all_eq_true.mp z c (List.mem_of_getElem? hc)
              exact hn (of_decide_eq_true this)
            rw [this, Bool.and_false, Bool.and_false]
          rw [e] at k
          exact k
        · walk_at "go"
          exact ⟨⟨_, rfl⟩, rfl, all_take hc ha (decide_eq_true hy)⟩
      · rintro σ H' ⟨⟨v, rfl⟩, rfl, ha⟩
        walk_at "go"
        have ha : x.cps.toList.all (fun c => decide (c ∈ ("abcdefghijklmnopqrstuvwxyz" : Str).cps.toList)) = true := by
          rw [List.take_of_length_le (by show _ ≤ x.cps.size; rw [Array.length_toList]; exact Nat.le_refl _)] at ha
          exact ha
        have e : nameB x = true := by
          unfold nameB
          rw [ha, decide_eq_true h0, decide_eq_true (p := x.length ≤ 6) (by omega)]
          rfl
        rw [e] at k
        exact k
/-- need_name, of a name -/
def sp_need_name : Sp := fun vs H Q _ => ∃ x : Str, vs = [.str x] ∧ x.length ≤ 1000 ∧ nameB x = true ∧ Q .non H
theorem ln_need_name {vs : List V} {H : Hp} {Q : VK} {E : XK} (h : sp_need_name vs H Q E) : vs.length = 1 := by
  obtain ⟨x, rfl, _⟩ := h
  rfl
abbrev n_need_name : List Str := ["name"]
def t_need_name (K : PySem.W.Frag) (W : WX) : TS :=
  tIfS (tNot (tB (tCW sp_is_name W (tCons (tVar 0) tNil)))) tNever tNext
theorem pure_need_name {K : PySem.W.Frag} {vs : List V} {H : Hp} {Q : VK} {E : XK} {W : WX} (h : sp_need_name vs H Q E) : t_need_name K W { nx := fun _ H' => Q .non H', rt := Q } (start n_need_name vs) H := by
  obtain ⟨x, rfl, hl, hn, k⟩ := h
  show t_need_name K W _ [some (.str x)] H
  unfold t_need_name
  walk_at "go"
  refine ⟨x, rfl, hl, ?_⟩
  walk_at "go"
  rw [hn]
  refine iteF ?_
  walk_at "go"
  exact k
theorem lawName_nameB (c : Int) (k : Nat) : nameB (lawName c k) = true := by
  have h1 : 0 ≤ c % 6 := Int.emod_nonneg _ (by decide)
  have h2 : c % 6 < 6 := Int.emod_lt_of_pos _ (by decide)
  have hlen : (lawName c k).length = (1 + c % 6).toNat := by
    unfold lawName nmCodes
    show ((List.range _).map _).toArray.size = _
    simp
  unfold nameB
  rw [decide_eq_true (p := (lawName c k).length ≤ 6) (by rw [hlen]; omega), decide_eq_true (p := ¬ lawName c k = "") (by
    intro e
    rw [e] at hlen
    have : (0 : Nat) = (1 + c % 6).toNat := hlen
    omega)]
  simp only [Bool.true_and]
  rw [List.all_eq_true]
  intro x hx
  have hx : x ∈ (List.range (1 + c % 6).toNat).map (nmCode c k) := by
    unfold lawName nmCodes at hx
    simpa using hx
  obtain ⟨p, _, rfl⟩ := List.mem_map.mp hx
  have e : ("abcdefghijklmnopqrstuvwxyz" : Str).cps.toList = (List.range 26).map (97 + ·) := by decide +kernel
  rw [e]
  refine decide_eq_true (List.mem_map.mpr ⟨(nmStep c k p % 26).toNat, ?_, rfl⟩)
  rw [List.mem_range]
  have h1 : 0 ≤ nmStep c k p % 26 := Int.emod_nonneg _ (by decide)
  have h2 : nmStep c k p % 26 < 26 := Int.emod_lt_of_pos _ (by decide)
  omega
theorem lawNames_name {c : Int} {n : Nat} {x : Str} (h : x ∈ lawNames c n) : nameB x = true := by
  unfold lawNames at h
  obtain ⟨k, _, rfl⟩ := List.mem_map.mp h
  exact lawName_nameB c k
theorem name_len {x : Str} (h : nameB x = true) : x.length ≤ 6 := by
  unfold nameB at h
  rw [Bool.and_eq_true, Bool.and_eq_true] at h
  exact of_decide_eq_true h.2.1
/-! ### heaps: more -/
theorem upd_o {H : Hp} {a b : Addr} {o u : HO} (h : H b = some u) (n : b ≠ a) : upd H a o b = some u := by rw [upd_ne n]; exact h
theorem SameB.trans {ds : List Addr} {A B C : Hp} (a : SameB ds A B) (b : SameB ds B C) : SameB ds A C := fun x u n e => b x u n (a x u n e)
theorem SameB.fresh {ds : List Addr} {A B : Hp} {x : Addr} (s : SameB ds A B) (n : ¬ x ∈ ds) (e : B x = none) : A x = none := by
  cases q : A x with
  | none => rfl
  | some u => rw [s _ _ n q] at e; cases e
/-- a new attribute; the heap hidden -/
theorem k_nwF {C a dx : Addr} {ns : List Str} {vs : List V} {f : Str} {y : V} {H : Hp} {P : Hp → Prop} (h : H a = some (ob C ns dx vs)) (l : vs.length = ns.length)
    (q : ∀ H', SameB [a] H H' → H' a = some (ob C (ns ++ [f]) dx (vs ++ [y])) → P H') : kNw C ns f (.ref a) y H P := k_nw h l (q _ (SameB.refl.put (by simp)) upd_same)
/-- .. of a new object -/
theorem k_nwN {C a dx b : Addr} {ns : List Str} {vs : List V} {f : Str} {o : HO} {H : Hp} {P : Hp → Prop} (hb : H b = none) (h : H a = some (ob C ns dx vs)) (l : vs.length = ns.length)
    (q : ∀ H', SameB [a] H H' → H' a = some (ob C (ns ++ [f]) dx (vs ++ [.ref b])) → H' b = some o → b ≠ a → P H') : kNw C ns f (.ref a) (.ref b) (upd H b o) P :=
  have n : b ≠ a := fun e => by rw [e, h] at hb; cases hb
  k_nw (upd_o h n.symm) l (q _ ((SameB.of_same (same1 hb)).put (by simp)) upd_same (upd_o upd_same n) n)
theorem str_at {xs : List Str} {i : Nat} {x : V} (h : (xs.map V.str)[i]? = some x) : ∃ z, x = .str z ∧ xs[i]? = some z ∧ xs.take (i + 1) = xs.take i ++ [z] ∧ z ∈ xs := by
  rw [List.getElem?_map] at h
  cases e : xs[i]? with
  | none => rw [e] at h; cases h
  | some z =>
    rw [e] at h
    have hil := List.getElem?_eq_some_iff.mp e
    exact ⟨z, (Option.some.inj h).symm, rfl, by rw [List.take_succ_eq_append_getElem hil.1, hil.2], List.mem_of_getElem? e⟩
/-- a list of texts, not at o -/
def RefLx (o : Addr) (H : Hp) (ys : List Str) (v : V) : Prop := ∃ b, v = .ref b ∧ b ≠ o ∧ H b = some (.lst (ys.map V.str))
theorem paired_snoc {R : α → β → Prop} {x : α} {y : β} : ∀ {xs : List α} {ys : List β}, Paired R xs ys → R x y → Paired R (xs ++ [x]) (ys ++ [y])
  | _, _, .nil, h => .cons h .nil
  | _, _, .cons a r, h => .cons a (paired_snoc r h)
/-! ### the law's dice -/
def DiceR (H : Hp) (p : Addr) : Prop := ∃ a b : Int, H p = some (.lst [.int a, .int b]) ∧ 0 ≤ a ∧ a < 2147483647
def sp_dice (K : PySem.W.Frag) : Sp := fun vs H Q _ => ∃ c : Int, vs = [.int c] ∧ ∀ p H', Same H H' → H p = none → DiceR H' p → Q (.ref p) H'
theorem ln__law_dice {K : PySem.W.Frag} {vs : List V} {H : Hp} {Q : VK} {E : XK} (h : sp_dice K vs H Q E) : vs.length = 1 := by
  obtain ⟨c, rfl, _⟩ := h
  rfl
abbrev n__law_dice : List Str := ["_law_cell"]
def t__law_dice (K : PySem.W.Frag) (W : WX) : TS :=
  tRet (tLst (tCons (tOp rModI (tVar 0) (tC (.int 2147483647))) (tCons (tOp rMulI (tOp rDivI (tVar 0) (tC (.int 2147483647))) (tCB rIntB (tCons (tOp rGeI (tVar 0) (tOp rPowI (tC (.int 10)) (tC (.int 18)))) tNil))) tNil)))
theorem pure__law_dice {K : PySem.W.Frag} {vs : List V} {H : Hp} {Q : VK} {E : XK} {W : WX} (h : sp_dice K vs H Q E) : t__law_dice K W { nx := fun _ H' => Q .non H', rt := Q } (start n__law_dice vs) H := by
  obtain ⟨c, rfl, k⟩ := h
  show t__law_dice K W _ [some (.int c)] H
  unfold t__law_dice
  walk_at "go"
  refine e_mod (by decide) ?_
  walk_at "go"
  refine e_div (wide_div (b := 40) (by decide) (by decide) (by decide) (by decide)) ?_
  walk_at "go"
  refine e_I (C := CPow) ⟨by decide, by decide, by decide⟩ ?_
  walk_at "go"
  refine ⟨_, rfl, ?_⟩
  refine e_mul ?_ ?_
  · split
    · exact IntMulOk.of_right (by decide +kernel)
    · exact IntMulOk.of_right (by decide +kernel)
  walk_at "go"
  intro p hp
  exact k p _ (same1 hp) hp ⟨_, _, upd_same, Int.emod_nonneg _ (by decide), Int.emod_lt_of_pos _ (by decide)⟩
def sp_roll (K : PySem.W.Frag) : Sp := fun vs H Q _ => ∃ (p : Addr) (m : Int), vs = [.ref p, .int m] ∧ DiceR H p ∧ 0 < m ∧ m ≤ 100000000 ∧ ∀ r H', 0 ≤ r → r < m → SameB [p] H H' → DiceR H' p → Q (.int r) H'
theorem ln__law_roll {K : PySem.W.Frag} {vs : List V} {H : Hp} {Q : VK} {E : XK} (h : sp_roll K vs H Q E) : vs.length = 2 := by
  obtain ⟨p, m, rfl, _⟩ := h
  rfl
abbrev n__law_roll : List Str := ["_law_dice_here", "_law_most", "_law_found"]
def t__law_roll (K : PySem.W.Frag) (W : WX) : TS :=
  tSeq (tIfS (tTest (tOp rGtI (tOp (rIxL K) (tVar 0) (tC (.int 1))) (tC (.int 0)))) (tSeq (tAsg (tOp rModI (tOp (rIxL K) (tVar 0) (tC (.int 1))) (tVar 1)) (gName 2))
  (tSeq (tAsg (tOp rDivI (tOp (rIxL K) (tVar 0) (tC (.int 1))) (tVar 1)) (gSub (tVar 0) (tC (.int 1)) rSetL))
  (tRet (tVar 2)))) tNext)
  (tSeq (tAsg (tOp rModI (tOp rAddI (tOp rMulI (tOp (rIxL K) (tVar 0) (tC (.int 0))) (tC (.int 48271))) (tC (.int 11))) (tC (.int 2147483647))) (gSub (tVar 0) (tC (.int 0)) rSetL))
  (tRet (tOp rModI (tOp rDivI (tOp (rIxL K) (tVar 0) (tC (.int 0))) (tC (.int 7))) (tVar 1))))
theorem pure__law_roll {K : PySem.W.Frag} {vs : List V} {H : Hp} {Q : VK} {E : XK} {W : WX} (h : sp_roll K vs H Q E) : t__law_roll K W { nx := fun _ H' => Q .non H', rt := Q } (start n__law_roll vs) H := by
  obtain ⟨p, m, rfl, ⟨a, b, hp, ha, hb⟩, h0, h1, k⟩ := h
  show t__law_roll K W _ [some (.ref p), some (.int m), none] H
  unfold t__law_roll
  walk_at "go"
  refine e_ixL (SqL.of hp) (at_of (j := 1) rfl rfl) ?_
  walk_at "go"
  refine ifd (fun hpos => ?_) (fun hneg => ?_)
  · walk_at "go"
    refine e_ixL (SqL.of hp) (at_of (j := 1) rfl rfl) ?_
    walk_at "go"
    refine e_mod (by omega) ?_
    walk_at "go"
    refine e_ixL (SqL.of hp) (at_of (j := 1) rfl rfl) ?_
    walk_at "go"
    refine e_div (wide_div (b := 27) (by omega) (by omega) (by decide) (by decide)) ?_
    walk_at "go"
    refine k_setL (j := 1) hp rfl ?_
    walk_at "go"
    exact k _ _ (Int.emod_nonneg _ (by omega)) (Int.emod_lt_of_pos _ h0) (SameB.refl.put (by simp)) ⟨a, _, upd_same, ha, hb⟩
  · walk_at "go"
    refine e_ixL (SqL.of hp) (at_of (j := 0) rfl rfl) ?_
    walk_at "go"
    refine e_mul (mulok (by omega) (by omega)) ?_
    walk_at "go"
    refine e_mod (by decide) ?_
    walk_at "go"
    refine k_setL (j := 0) hp rfl ?_
    walk_at "go"
    refine e_ixL (SqL.of upd_same) (at_of (j := 0) rfl rfl) ?_
    walk_at "go"
    refine e_div (wide_div (b := 10) (by decide) (by decide) (by decide) (by decide)) ?_
    walk_at "go"
    refine e_mod (by omega) ?_
    exact k _ _ (Int.emod_nonneg _ (by omega)) (Int.emod_lt_of_pos _ h0) (SameB.refl.put (by simp)) ⟨_, b, upd_same, Int.emod_nonneg _ (by decide), Int.emod_lt_of_pos _ (by decide)⟩
/-! ### the law's trees -/
inductive Kd where
  | sum | least | most
def Kd.word : Kd → Str
  | .sum => "sum"
  | .least => "least"
  | .most => "most"
/-- one storey, what stands below of type α -/
inductive Nd (α : Type) where
  | num (n : Int)
  | nm (x : Str)
  | gate (x : Str) (b : Int) (t : α)
  | ch (k : Kd) (ts : List α)
/-- how a value stands for a tree: by the heap, its lists at places of A -/
abbrev TRel (α : Type) : Type := Hp → (Addr → Prop) → α → V → Prop
/-- the law's tuples -/
def NdR {α : Type} (R : TRel α) : TRel (Nd α) := fun H A t v => match t with
  | .num n => ∃ a, v = .ref a ∧ H a = some (.tup [.str "number", .int n])
  | .nm x => ∃ a, v = .ref a ∧ H a = some (.tup [.str "name", .str x])
  | .gate x b t => ∃ a u, v = .ref a ∧ H a = some (.tup [.str "gate", .str x, .int b, u]) ∧ R H A t u
  | .ch k ts => ∃ a l us, v = .ref a ∧ H a = some (.tup [.str k.word, .ref l]) ∧ H l = some (.lst us) ∧ A l ∧ Paired (R H A) ts us
def NdOk {α : Type} (C : List Str → α → Prop) (ys : List Str) : Nd α → Prop
  | .num n => 0 ≤ n ∧ n ≤ 30
  | .nm x => x ∈ ys
  | .gate x b t => x ∈ ys ∧ 1 ≤ b ∧ b ≤ 30 ∧ C ys t
  | .ch _ ts => 2 ≤ ts.length ∧ ts.length ≤ 3 ∧ ∀ t ∈ ts, C ys t
/-- what stays where the tuples and A's lists stay -/
def Good {α : Type} (R : TRel α) : Prop := ∀ (H H' : Hp) (A A' : Addr → Prop) (t : α) (v : V), R H A t v → (∀ a xs, H a = some (.tup xs) → H' a = some (.tup xs)) → (∀ l us, A l → H l = some (.lst us) → H' l = some (.lst us)) → (∀ l, A l → A' l) → R H' A' t v
theorem NdR.good {α : Type} {R : TRel α} (g : Good R) : Good (NdR R) := by
  intro H H' A A' t v h ft fl fa
  cases t with
  | num n =>
    obtain ⟨a, e, h⟩ := h
    exact ⟨a, e, ft _ _ h⟩
  | nm n =>
    obtain ⟨a, e, h⟩ := h
    exact ⟨a, e, ft _ _ h⟩
  | gate x b t =>
    obtain ⟨a, u, e, h, r⟩ := h
    exact ⟨a, u, e, ft _ _ h, g _ _ _ _ _ _ r ft fl fa⟩
  | ch k ts =>
    obtain ⟨a, l, us, e, h, hl, ha, r⟩ := h
    exact ⟨a, l, us, e, ft _ _ h, fl _ _ ha hl, fa _ ha, Paired.mapP r fun _ _ z => g _ _ _ _ _ _ z ft fl fa⟩
/-- a tree of up to n storeys over the ground -/
def TrD : Nat → Type
  | 0 => Nd Empty
  | n + 1 => Nd (TrD n)
def noR : TRel Empty := fun _ _ _ _ => False
theorem noR.good : Good noR := fun _ _ _ _ _ _ h => h.elim
def TreeR : (n : Nat) → TRel (TrD n)
  | 0 => NdR noR
  | n + 1 => NdR (TreeR n)
def TreeOk : (n : Nat) → List Str → TrD n → Prop
  | 0 => NdOk fun _ (_ : Empty) => False
  | n + 1 => NdOk (TreeOk n)
theorem TreeR.good : ∀ n, Good (TreeR n)
  | 0 => NdR.good noR.good
  | n + 1 => NdR.good (TreeR.good n)
def sp_treeG {α : Type} (R : TRel α) (C : List Str → α → Prop) (d : Nat) : Sp := fun vs H Q _ => ∃ (p r : Addr) (ys : List Str), vs = [.ref p, .ref r, .int (d : Int)] ∧ DiceR H p ∧ H r = some (.lst (ys.map V.str)) ∧ 0 < ys.length ∧ ys.length ≤ 1000 ∧
  ∀ (v : V) (t : α) (H' : Hp), SameB [p] H H' → DiceR H' p → R H' (fun l => H l = none) t v → C ys t → Q v H'
theorem ln__law_treeG {α : Type} {R : TRel α} {C : List Str → α → Prop} {d : Nat} (vs : List V) (H : Hp) (Q : VK) (E : XK) (h : sp_treeG R C d vs H Q E) : vs.length = 3 := by
  obtain ⟨p, r, ys, rfl, _⟩ := h
  rfl
theorem k_lcR {n : Nat} {σ : St} {H : Hp} {Q : VK} {g : TG} {tt : TT} {te : TE} {vs : List Nat} (Pv : Nat → Addr → Hp → Prop) (hn : n < 1000) (h0 : ∀ D, H D = none → Pv 0 D (upd H D (.lst [])))
    (hs : ∀ (i : Nat) D H', H D = none → i < n → Pv i D H' → g (.int (i : Int)) (wipe σ vs) H' fun σ2 H2 => wipe σ2 vs = wipe σ vs ∧ tt σ2 H2 fun b H3 => if b = true then te σ2 H3 fun y H4 => ∃ acc, H4 D = some (.lst acc) ∧ acc.length < sizeLine ∧ Pv (i + 1) D (upd H4 D (.lst (acc ++ [y]))) else Pv (i + 1) D H3)
    (hd : ∀ D H', H D = none → Pv n D H' → Q (.ref D) H') : kIR [V.int (n : Int)] H fun J H1 => kLc J g tt te vs σ Q H1 :=
  ⟨n, rfl, by omega, by omega, fun D hD => ⟨fun i m H' => m = n - i ∧ i ≤ n ∧ Pv i D H', ⟨n, by simp, Nat.zero_le _, h0 D hD⟩, by
    rintro i m H' ⟨rfl, hi, p⟩
    by_cases hlt : i < n
    · refine .inr ⟨by simpa [Itr] using hlt, Pv (i + 1) D, fun H' p' => ⟨n - (i + 1), by omega, rfl, hlt, p'⟩, fun x H2 y => ?_⟩
      have y2 : H2 = H' ∧ x = .int (0 + (i : Int)) := by simpa [Itr, and_comm] using y
      obtain ⟨rfl, rfl⟩ := y2
      rw [Int.zero_add]
      exact hs i D _ hD hlt p
    · have e : i = n := by omega
      subst e
      exact .inl ⟨by simp [Itr], hd D H' hD p⟩⟩⟩
abbrev n__law_tree : List Str := ["_law_dice_here", "_law_names_here", "_law_deep", "_law_way", "_law_name", "_law_kind", "_law_many", "_law_k"]
def t__law_tree (K : PySem.W.Frag) (W : WX) (S__law_tree : Sp) : TS :=
  tSeq (tAsg (tCW (sp_roll K) W (tCons (tVar 0) (tCons (tC (.int 10)) tNil))) (gName 3))
  (tSeq (tIfS (tOr (tTest (tOp rEq (tVar 2) (tC (.int 0)))) (tTest (tOp rLtI (tVar 3) (tC (.int 3))))) (tSeq (tIfS (tTest (tOp rEq (tCW (sp_roll K) W (tCons (tVar 0) (tCons (tC (.int 3)) tNil))) (tC (.int 0)))) (tRet (tTup (tCons (tC (.str "number")) (tCons (tCW (sp_roll K) W (tCons (tVar 0) (tCons (tC (.int 31)) tNil))) tNil)))) tNext)
  (tRet (tTup (tCons (tC (.str "name")) (tCons (tOp (rIxL K) (tVar 1) (tCW (sp_roll K) W (tCons (tVar 0) (tCons (tCB (rLenL K) (tCons (tVar 1) tNil)) tNil)))) tNil))))) tNext)
  (tSeq (tIfS (tTest (tOp rLtI (tVar 3) (tC (.int 5)))) (tSeq (tAsg (tOp (rIxL K) (tVar 1) (tCW (sp_roll K) W (tCons (tVar 0) (tCons (tCB (rLenL K) (tCons (tVar 1) tNil)) tNil)))) (gName 4))
  (tRet (tTup (tCons (tC (.str "gate")) (tCons (tVar 4) (tCons (tOp rAddI (tC (.int 1)) (tCW (sp_roll K) W (tCons (tVar 0) (tCons (tC (.int 30)) tNil)))) (tCons (tCW S__law_tree W (tCons (tVar 0) (tCons (tVar 1) (tCons (tOp rSubI (tVar 2) (tC (.int 1))) tNil)))) tNil))))))) tNext)
  (tSeq (tAsg (tOp (rIxL K) (tLst (tCons (tC (.str "sum")) (tCons (tC (.str "least")) (tCons (tC (.str "most")) tNil)))) (tCW (sp_roll K) W (tCons (tVar 0) (tCons (tC (.int 3)) tNil)))) (gName 5))
  (tSeq (tAsg (tOp rAddI (tC (.int 2)) (tCW (sp_roll K) W (tCons (tVar 0) (tCons (tC (.int 2)) tNil)))) (gName 6))
  (tRet (tTup (tCons (tVar 5) (tCons (tLc (iRng1 (tCons (tVar 6) tNil)) (gName 7) tYes (tCW S__law_tree W (tCons (tVar 0) (tCons (tVar 1) (tCons (tOp rSubI (tVar 2) (tC (.int 1))) tNil)))) [7]) tNil))))))))
theorem pure__law_tree {K : PySem.W.Frag} {α : Type} {R : TRel α} {C : List Str → α → Prop} {d : Nat} {S : Sp} (g : Good R) (hS : d = 0 ∨ S = sp_treeG R C (d - 1)) {vs : List V} {H : Hp} {Q : VK} {E : XK} {W : WX} (h : sp_treeG (NdR R) (NdOk C) d vs H Q E) :
    t__law_tree K W S { nx := fun _ H' => Q .non H', rt := Q } (start n__law_tree vs) H := by
  obtain ⟨p, r, ys, rfl, hD, hr, hy0, hy1, k⟩ := h
  show t__law_tree K W S _ [some (.ref p), some (.ref r), some (.int (d : Int)), none, none, none, none, none] H
  unfold t__law_tree
  -- a roll: the names and the tuples stay
  have rp : ∀ {H1 : Hp}, DiceR H1 p → H1 r = some (.lst (ys.map V.str)) → r ≠ p := fun {H1} ⟨a, b, e, _⟩ e2 q => by
    rw [q, e] at e2
    have e2 := HO.lst.inj (Option.some.inj e2)
    cases ys with
    | nil => simp at hy0
    | cons y ys => rw [List.map_cons] at e2; cases e2
  walk_at "go"
  refine ⟨p, 10, rfl, hD, by decide, by decide, fun way H1 w0 w1 s1 hD1 => ?_⟩
  have hr1 := s1 _ _ (by simpa using rp hD hr) hr
  have nm : ∀ {H1 : Hp} {i : Int}, H1 r = some (.lst (ys.map V.str)) → 0 ≤ i → i < (ys.length : Int) → ∃ x, x ∈ ys ∧ atI (ys.map V.str) i = some (.str x) := fun {H1 i} e h0 h1 => by
    have hk : i.toNat < ys.length := by omega
    exact ⟨ys[i.toNat], List.getElem_mem hk, at_of (j := i.toNat) (by omega) (by rw [List.getElem?_map, List.getElem?_eq_getElem hk]; rfl)⟩
  walk_at "go"
  have leaf : ∀ {D : Ends}, D.rt = Q → ∀ σ, σ = [some (.ref p), some (.ref r), some (.int (d : Int)), some (.int way), none, none, none, none] →
      tSeq (tIfS (tTest (tOp rEq (tCW (sp_roll K) W (tCons (tVar 0) (tCons (tC (.int 3)) tNil))) (tC (.int 0)))) (tRet (tTup (tCons (tC (.str "number")) (tCons (tCW (sp_roll K) W (tCons (tVar 0) (tCons (tC (.int 31)) tNil))) tNil)))) tNext)
        (tRet (tTup (tCons (tC (.str "name")) (tCons (tOp (rIxL K) (tVar 1) (tCW (sp_roll K) W (tCons (tVar 0) (tCons (tCB (rLenL K) (tCons (tVar 1) tNil)) tNil)))) tNil)))) D σ H1 := by
    rintro D hDr σ rfl
    walk_at "go"
    refine ⟨p, 3, rfl, hD1, by decide, by decide, fun b H2 b0 b1 s2 hD2 => ?_⟩
    have hr2 := s2 _ _ (by simpa using rp hD1 hr1) hr1
    walk_at "go"
    refine ifd (fun _ => ?_) (fun _ => ?_)
    · walk_at "go"
      refine ⟨p, 31, rfl, hD2, by decide, by decide, fun n H3 n0 n1 s3 hD3 => ?_⟩
      walk_at "go"
      intro a ha
      rw [hDr]
      obtain ⟨da, db, e, f⟩ := hD3
      exact k _ (.num n) _ ((s1.trans (s2.trans s3)).same (same1 ha)) ⟨da, db, (same1 ha) _ _ e, f⟩ ⟨a, rfl, upd_same⟩ ⟨n0, by omega⟩
    · walk_at "go"
      refine e_lenL (SqL.of hr2) ?_
      rw [List.length_map]
      walk_at "go"
      refine ⟨p, (ys.length : Int), rfl, hD2, by omega, by omega, fun n H3 n0 n1 s3 hD3 => ?_⟩
      have hr3 := s3 _ _ (by simpa using rp hD2 hr2) hr2
      obtain ⟨x, hx, ex⟩ := nm hr3 n0 n1
      refine e_ixL (SqL.of hr3) ex ?_
      walk_at "go"
      intro a ha
      rw [hDr]
      obtain ⟨da, db, e, f⟩ := hD3
      exact k _ (.nm x) _ ((s1.trans (s2.trans s3)).same (same1 ha)) ⟨da, db, (same1 ha) _ _ e, f⟩ ⟨a, rfl, upd_same⟩ hx
  refine ifd (fun h0 => ?_) (fun h0 => ?_)
  · exact leaf rfl _ rfl
  have hd : d ≠ 0 := fun e => h0 (by rw [e]; rfl)
  have hS : S = sp_treeG R C (d - 1) := hS.resolve_left hd
  subst hS
  have ed : (d : Int) - 1 = ((d - 1 : Nat) : Int) := by omega
  walk_at "go"
  refine ifd (fun _ => ?_) (fun _ => ?_)
  · exact leaf rfl _ rfl
  clear leaf
  walk_at "go"
  refine ifd (fun _ => ?_) (fun _ => ?_)
  · walk_at "go"
    refine e_lenL (SqL.of hr1) ?_
    rw [List.length_map]
    walk_at "go"
    refine ⟨p, (ys.length : Int), rfl, hD1, by omega, by omega, fun n H3 n0 n1 s3 hD3 => ?_⟩
    have hr3 := s3 _ _ (by simpa using rp hD1 hr1) hr1
    obtain ⟨x, hx, ex⟩ := nm hr3 n0 n1
    refine e_ixL (SqL.of hr3) ex ?_
    walk_at "go"
    refine ⟨p, 30, rfl, hD3, by decide, by decide, fun b H4 b0 b1 s4 hD4 => ?_⟩
    have hr4 := s4 _ _ (by simpa using rp hD3 hr3) hr3
    walk_at "go"
    rw [ed]
    refine ⟨p, r, ys, rfl, hD4, hr4, hy0, hy1, fun v t H5 s5 hD5 ht ho => ?_⟩
    walk_at "go"
    intro a ha
    obtain ⟨da, db, e, f⟩ := id hD5
    have hold : ∀ l, H4 l = none → H l = none := fun l hl => by
      obtain ⟨da4, db4, e4, _⟩ := id hD4
      have hlp : l ≠ p := fun q => by rw [q, e4] at hl; cases hl
      exact (s1.trans (s3.trans s4)).fresh (by simpa using hlp) hl
    refine k _ (.gate x (1 + b) t) _ ((s1.trans (s3.trans (s4.trans s5))).same (same1 ha)) ⟨da, db, (same1 ha) _ _ e, f⟩ ⟨a, v, rfl, upd_same, ?_⟩ ⟨hx, by omega, by omega, ho⟩
    exact g _ _ _ _ _ _ ht (fun _ _ e => (same1 ha) _ _ e) (fun _ _ _ e => (same1 ha) _ _ e) hold
  · walk_at "go"
    intro kl hkl
    have rkl : r ≠ kl := ne_of_none hr1 hkl
    have hD2 : DiceR (upd H1 kl (.lst [.str "sum", .str "least", .str "most"])) p := by
      obtain ⟨da, db, e, f⟩ := hD1
      exact ⟨da, db, (same1 hkl) _ _ e, f⟩
    have pk : kl ≠ p := by
      obtain ⟨da, db, e, f⟩ := hD1
      exact (ne_of_none e hkl).symm
    walk_at "go"
    refine ⟨p, 3, rfl, hD2, by decide, by decide, fun kd H3 n0 n1 s3 hD3 => ?_⟩
    have hr3 := s3 _ _ (by simpa using rp hD1 hr1) ((same1 hkl) _ _ hr1)
    have hk3 := s3 _ _ (by simpa using pk) (upd_same : upd H1 kl (.lst [.str "sum", .str "least", .str "most"]) kl = _)
    obtain ⟨kk, ek⟩ : ∃ kk : Kd, atI [V.str "sum", .str "least", .str "most"] kd = some (.str kk.word) := by
      rcases (show kd = 0 ∨ kd = 1 ∨ kd = 2 by omega) with rfl | rfl | rfl
      · exact ⟨.sum, at_of (j := 0) rfl rfl⟩
      · exact ⟨.least, at_of (j := 1) rfl rfl⟩
      · exact ⟨.most, at_of (j := 2) rfl rfl⟩
    refine e_ixL (SqL.of hk3) ek ?_
    have s13 : SameB [p] H H3 := s1.trans ((SameB.of_same (same1 hkl)).trans s3)
    walk_at "go"
    refine ⟨p, 2, rfl, hD3, by decide, by decide, fun b H4 b0 b1 s4 hD4 => ?_⟩
    have hr4 := s4 _ _ (by simpa using rp hD3 hr3) hr3
    have s14 := s13.trans s4
    have eb : (2 : Int) + b = (((2 + b).toNat : Nat) : Int) := by omega
    walk_at "go"
    rw [eb]
    have hn2 : 2 ≤ (2 + b).toNat ∧ (2 + b).toNat ≤ 3 := by omega
    generalize (2 + b).toNat = n at hn2
    have hold : ∀ l, H4 l = none → H l = none := fun l hl => by
      obtain ⟨da4, db4, e4, _⟩ := id hD4
      have hlp : l ≠ p := fun q => by rw [q, e4] at hl; cases hl
      exact s14.fresh (by simpa using hlp) hl
    refine k_lcR (fun i D H' => SameB [p] H4 H' ∧ DiceR H' p ∧ H4 D = none ∧ ∃ us ts, H' D = some (.lst us) ∧ ts.length = i ∧ Paired (R H' fun l => H4 l = none ∧ l ≠ D) ts us ∧ ∀ t ∈ ts, C ys t) (by omega) (fun D hD => ?_) ?_ ?_
    · obtain ⟨da, db, e, f⟩ := id hD4
      exact ⟨SameB.of_same (same1 hD), ⟨da, db, (same1 hD) _ _ e, f⟩, hD, [], [], upd_same, rfl, .nil, by simp⟩
    · rintro i D H' hD hi ⟨s5, hD5, nD, us, ts, hus, lts, P, ok⟩
      show _ ∧ tYes [some (.ref p), some (.ref r), some (.int (d : Int)), some (.int way), none, some (.str kk.word), some (.int (n : Int)), some (.int (i : Int))] H' _
      refine ⟨rfl, ?_⟩
      walk_at "go"
      refine iteT ?_
      walk_at "go"
      rw [ed]
      have hr5 := s5 _ _ (by simpa using rp hD4 hr4) hr4
      refine ⟨p, r, ys, rfl, hD5, hr5, hy0, hy1, fun v t H6 s6 hD6 ht ho => ?_⟩
      have Dp : D ≠ p := fun q => by
        obtain ⟨da4, db4, e4, _⟩ := id hD4
        rw [q, e4] at nD
        cases nD
      have hD6' := s6 _ _ (by simpa using Dp) hus
      have tupP : ∀ {H6 : Hp} {a : Addr} {xs : List V}, DiceR H6 p → H6 a = some (.tup xs) → a ≠ p := fun {H6 a xs} ⟨da, db, e, f⟩ e2 => ne_of e2 e (by intro z; cases z)
      refine ⟨us, hD6', ?_, ?_, ?_, nD, us ++ [v], ts ++ [t], upd_same, by rw [List.length_append, lts]; rfl, ?_, fun t' ht' => ?_⟩
      · rw [← Paired.length P, lts]
        exact small1000 (by omega)
      · intro b o hb e
        exact upd_o ((s5.trans s6) b o hb e) (ne_of_none e nD)
      · obtain ⟨da, db, e, f⟩ := id hD6
        exact ⟨da, db, upd_o e Dp.symm, f⟩
      · refine paired_snoc (Paired.mapP P fun _ _ z => g _ _ _ _ _ _ z (fun a xs e => ?_) (fun l us' hl e => ?_) fun _ z => z) (g _ _ _ _ _ _ ht (fun a xs e => upd_o e (ne_of e hD6' (by intro z; cases z))) (fun l us' hl e => upd_o e (fun q => by rw [q, hus] at hl; cases hl)) fun l hl => ?_)
        · exact upd_o (s6 _ _ (by simpa using tupP hD5 e) e) (ne_of e hus (by intro z; cases z))
        · have lp : l ≠ p := fun q => by
            obtain ⟨da4, db4, e4, _⟩ := id hD4
            rw [q, e4] at hl
            cases hl.1
          exact upd_o (s6 _ _ (by simpa using lp) e) hl.2
        · have lp : l ≠ p := fun q => by
            obtain ⟨da, db, e, f⟩ := id hD5
            rw [q, e] at hl
            cases hl
          exact ⟨s5.fresh (by simpa using lp) hl, fun q => by rw [q, hus] at hl; cases hl⟩
      · rcases List.mem_append.mp ht' with q | q
        · exact ok _ q
        · rw [List.mem_singleton.mp q]
          exact ho
    · rintro D H' hD ⟨s5, hD5, nD, us, ts, hus, lts, P, ok⟩
      walk_at "go"
      intro a ha
      obtain ⟨da, db, e, f⟩ := id hD5
      refine k _ (.ch kk ts) _ ((s14.trans s5).same (same1 ha)) ⟨da, db, (same1 ha) _ _ e, f⟩ ⟨a, D, us, rfl, upd_same, (same1 ha) _ _ hus, hold _ nD, ?_⟩ ⟨by omega, by omega, ok⟩
      exact Paired.mapP P fun _ _ z => g _ _ _ _ _ _ z (fun _ _ e => (same1 ha) _ _ e) (fun _ _ _ e => (same1 ha) _ _ e) fun l hl => hold _ hl.1
/-! ### a written dict, its keys written texts -/
def tPairs : List (Str × TE) → St → Hp → (List (Str × V) → Hp → Prop) → Prop
  | [], _, H, Q => Q [] H
  | (x, t) :: r, σ, H, Q => t σ H fun v H1 => tPairs r σ H1 fun kvs H2 => Q ((x, v) :: kvs) H2
def putAll (l : List (Str × V)) (kvs : List (Str × V)) : List (Str × V) := kvs.foldl (fun l p => putS l p.1 p.2) l
def tDct (ps : List (Str × TE)) : TE := fun σ H Q => ∀ d, H d = none → tPairs ps σ (upd H d (.dK [])) fun kvs H2 => H2 d = some (dS []) ∧ Q (.ref d) (upd H2 d (dS (putAll [] kvs)))
inductive PD (X : Cx) : List (Option Expr) → List Expr → List (Str × TE) → Prop where
  | nil : PD X [] [] []
  | cons {x : Str} {j : Nat} {p : Pos} {v : Expr} {t : TE} {ks : List (Option Expr)} {vs : List Expr} {ps : List (Str × TE)} : PE X v t → PD X ks vs ps → PD X (some (.Constant (.str x) j p) :: ks) (v :: vs) ((x, t) :: ps)
def PairsV (kvs : List (Str × V)) (us : List (Value × Value)) : Prop := Paired (fun (p : Str × V) (u : Value × Value) => RelV (.str p.1) u.1 ∧ RelV p.2 u.2) kvs us
section
variable {X : Cx}
theorem pairs_run {ks : List (Option Expr)} {vs : List Expr} {ps : List (Str × TE)} (h : PD X ks vs ps) : ∀ (pos : Pos) (pins : List (Addr × Obj)) (s : Shared) (σ : St) (H : Hp) (Q : List (Str × V) → Hp → Prop), Inv X pins σ H s → tPairs ps σ H Q →
    wpAny (model X.prog X.w) X.A (evalPairs (pairTrees ks vs X.env pos)) (fun us s' => ∃ kvs H', Inv X pins σ H' s' ∧ PairsV kvs us ∧ kvs.length = ps.length ∧ Q kvs H') X.xe s := by
  induction h with
  | nil => intro pos pins s σ H Q I q; exact evalPairs_nil ⟨[], H, I, .nil, rfl, q⟩
  | cons hv _ ih =>
    intro pos pins s σ H Q I q
    refine evalPairs_cons (thn (pe_str.run pins s σ H (fun v H1 => v = .str _ ∧ H1 = H) I ⟨rfl, rfl⟩) fun ku s1 ⟨kv, H1, I1, rk, ek, eH⟩ => ?_)
    subst ek eH
    refine wpAny_bind (thn (hv.run pins s1 σ _ _ I1 q) fun u s2 ⟨v, H2, I2, rv, q2⟩ => ?_)
    refine wpAny_bind (wpAny_standAt (wpAny_pure ?_))
    refine thn (ih pos pins s2 σ H2 _ I2 q2) fun us s3 ⟨kvs, H3, I3, r3, z3, q3⟩ => ?_
    exact ⟨_ :: kvs, H3, I3, .cons ⟨rk, rv⟩ r3, by rw [List.length_cons, List.length_cons, z3], q3⟩
theorem store_run {pins : List (Addr × Obj)} {σ : St} {d : Addr} {E : Value → Shared → Prop} {Q : PUnit → Shared → Prop} {kvs : List (Str × V)} {us : List (Value × Value)} (r : PairsV kvs us) : ∀ (acc : List (Str × V)) (H : Hp) (s : Shared), Inv X pins σ H s → H d = some (dS acc) →
    acc.length + kvs.length < sizeLine → (∀ s', Inv X pins σ (upd H d (dS (putAll acc kvs))) s' → Q PUnit.unit s') → wpAny (model X.prog X.w) X.A (storeAll d us) Q E s := by
  unfold PairsV at r
  induction r with
  | nil =>
    intro acc H s I hd _ h
    unfold storeAll
    rw [List.forIn_nil]
    refine wpAny_pure (h s ?_)
    have e : upd H d (dS (putAll acc [])) = H := by
      funext b
      by_cases q : b = d
      · rw [q, upd_same, hd] <;> rfl
      · rw [upd_ne q]
    rw [e]
    exact I
  | @cons p u kvs us a _ ih =>
    intro acc H s I hd hz h
    unfold storeAll
    rw [List.forIn_cons]
    rw [List.length_cons] at hz
    refine wpAny_bind (wpAny_bind (d_dictSet (k := .inr p.1) I hd (by rw [len_skv]; omega) a.1 a.2 fun s1 I1 => wpAny_pure ?_))
    rw [putK_skv] at I1
    refine ih (putS acc p.1 p.2) _ s1 I1 upd_same (by have := putS_len acc p.1 p.2; omega) fun s' I' => h s' ?_
    have e : upd (upd H d (dS (putS acc p.1 p.2))) d (dS (putAll (putS acc p.1 p.2) kvs)) = upd H d (dS (putAll acc (p :: kvs))) := by
      funext b
      by_cases q : b = d
      · rw [q, upd_same, upd_same] <;> rfl
      · rw [upd_ne q, upd_ne q, upd_ne q]
    rw [← e]
    exact I'
theorem an_dct {ks : List (Option Expr)} {vs : List Expr} {ps : List (Str × TE)} {pos : Pos} (h : PD X ks vs ps) (hall : ks.all (·.isSome) = true) (hl : ks.length = vs.length) (h0 : ks ≠ []) (hlen : ks.length ≤ 15) (hps : ps.length ≤ 15) : PE X (.Dict ks vs pos) (tDct ps) := by
  refine ⟨fun pins s σ H Q I q => ?_⟩
  refine wpAny_Dict_any hall hl h0 hlen ?_
  have I1 : Inv X pins σ (upd H s.heap.objs.size (.dK [])) { s with heap := s.heap.push { cls := .type "dict", data := .dict #[] } } := I.laid (a := s.heap.objs.size) (o := .dK []) (t' := s.toks) (fun _ _ q => Heap.get?_push_of_some _ q) (Nat.le_refl _) (dk_empty s.heap I.big)
  refine thn (pairs_run h pos pins _ σ _ _ I1 (q _ (I.hok.fresh (Nat.le_refl _)))) fun us s2 ⟨kvs, H2, I2, r, z, hd, q2⟩ => ?_
  exact store_run r [] H2 s2 I2 hd (by rw [sizeLine_eq]; simp only [List.length_nil]; omega) fun s' I' => ⟨.ref _, _, I', rfl, q2⟩
end
theorem paired_at {R : α → β → Prop} {xs : List α} {ys : List β} (h : Paired R xs ys) : ∀ {i : Nat} {y : β}, ys[i]? = some y → ∃ x, xs[i]? = some x ∧ R x y := by
  induction h with
  | nil => intro i y e; cases e
  | cons a _ ih =>
    intro i y e
    cases i with
    | zero => cases e; exact ⟨_, rfl, a⟩
    | succ i => exact ih e
theorem paired_refl {R : α → α → Prop} : ∀ {xs : List α}, (∀ x ∈ xs, R x x) → Paired R xs xs
  | [], _ => .nil
  | x :: xs, h => .cons (h x List.mem_cons_self) (paired_refl fun y hy => h y (List.mem_cons_of_mem _ hy))
theorem flatB_strs (ys : List Str) : (ys.map V.str).all flatB = true := by
  rw [List.all_map, List.all_eq_true]
  exact fun _ _ => rfl
theorem getS_of_nodup {β : Type} {k : Str} {v : β} : ∀ {l : List (Str × β)}, (l.map (·.1)).Nodup → (k, v) ∈ l → getS l k = some v
  | (a, b) :: r, n, h => by
    rw [List.map_cons] at n
    obtain ⟨n1, n2⟩ := List.nodup_cons.mp n
    rw [getS_cons]
    rcases List.mem_cons.mp h with q | q
    · cases q
      exact if_pos rfl
    · rw [if_neg (fun e => n1 (by rw [show a = k from e]; exact List.mem_map.mpr ⟨_, q, rfl⟩))]
      exact getS_of_nodup n2 q
/-! ### a tree's text -/
def Kd.rank : Kd → Int
  | .most => 1
  | .least => 2
  | .sum => 3
def Kd.sign : Kd → Str
  | .most => " | "
  | .least => " & "
  | .sum => " + "
def wrOut {α : Type} (w : α → Int → Str) (k : Kd) : List α → Str
  | [] => ""
  | t :: ts => ts.foldl (fun o u => o ++ k.sign ++ w u (k.rank + 1)) (w t (k.rank + 1))
def wrNd {α : Type} (w : α → Int → Str) : Nd α → Int → Str
  | .num n, _ => (toString n : String)
  | .nm x, _ => x
  | .gate x b t, _ => "[" ++ x ++ " " ++ (toString b : String) ++ "] " ++ w t 4
  | .ch k ts, f => if k.rank < f then "(" ++ wrOut w k ts ++ ")" else wrOut w k ts
def sp_written {α : Type} (R : TRel α) (C : α → Prop) (w : α → Int → Str) : Sp := fun vs H Q _ => ∃ (v : V) (f : Int) (t : α) (A : Addr → Prop), vs = [v, .int f] ∧ R H A t v ∧ C t ∧ ∀ H', Same H H' → Q (.str (w t f)) H'
theorem ln_written {α : Type} {R : TRel α} {C : α → Prop} {w : α → Int → Str} (vs : List V) (H : Hp) (Q : VK) (E : XK) (h : sp_written R C w vs H Q E) : vs.length = 2 := by
  obtain ⟨v, f, t, A, rfl, _⟩ := h
  rfl
theorem e_strI {i : Int} {H : Hp} {Q : VK} (c : i.natAbs.log2 < 1920) (q : Q (.str (toString i : String)) H) : rStrI [.int i] H Q := ⟨i, rfl, c, q⟩
theorem Good.same {α : Type} {R : TRel α} (g : Good R) {H H' : Hp} {A : Addr → Prop} {t : α} {v : V} (s : Same H H') (h : R H A t v) : R H' A t v := g _ _ _ _ _ _ h (fun _ _ e => s _ _ e) (fun _ _ _ e => s _ _ e) fun _ z => z
theorem len_app (a b : Str) : (a ++ b).length = a.length + b.length := by
  show (a.cps ++ b.cps).size = _
  rw [Array.size_append]
  rfl
theorem small_str (n : Int) (h0 : 0 ≤ n) (h : n ≤ 30) : ((toString n : String) : Str).length ≤ 2 := by
  obtain ⟨k, rfl⟩ : ∃ k : Nat, n = k := ⟨n.toNat, by omega⟩
  have h2 : ∀ k : Nat, k < 31 → ((toString (k : Int) : String) : Str).length ≤ 2 := by decide +kernel
  exact h2 k (by omega)
abbrev n__law_written : List Str := ["_law_tree_here", "_law_firm", "_law_rank", "_law_sign", "_law_out", "_law_piece"]
def t__law_written (K : PySem.W.Frag) (W : WX) (S__law_written : Sp) : TS :=
  tSeq (tIfS (tTest (tOp rEq (tOp (rIxT K) (tVar 0) (tC (.int 0))) (tC (.str "number")))) (tRet (tCB rStrI (tCons (tOp (rIxT K) (tVar 0) (tC (.int 1))) tNil))) tNext)
  (tSeq (tIfS (tTest (tOp rEq (tOp (rIxT K) (tVar 0) (tC (.int 0))) (tC (.str "name")))) (tRet (tOp (rIxT K) (tVar 0) (tC (.int 1)))) tNext)
  (tSeq (tIfS (tTest (tOp rEq (tOp (rIxT K) (tVar 0) (tC (.int 0))) (tC (.str "gate")))) (tRet (tOp rAddS (tOp rAddS (tOp rAddS (tOp rAddS (tOp rAddS (tC (.str "[")) (tOp (rIxT K) (tVar 0) (tC (.int 1)))) (tC (.str " "))) (tCB rStrI (tCons (tOp (rIxT K) (tVar 0) (tC (.int 2))) tNil))) (tC (.str "] "))) (tCW S__law_written W (tCons (tOp (rIxT K) (tVar 0) (tC (.int 3))) (tCons (tC (.int 4)) tNil))))) tNext)
  (tSeq (tAsg (tDg (tDct [("most", tC (.int 1)), ("least", tC (.int 2)), ("sum", tC (.int 3))]) (tOp (rIxT K) (tVar 0) (tC (.int 0)))) (gName 2))
  (tSeq (tAsg (tDg (tDct [("most", tC (.str " | ")), ("least", tC (.str " & ")), ("sum", tC (.str " + "))]) (tOp (rIxT K) (tVar 0) (tC (.int 0)))) (gName 3))
  (tSeq (tAsg (tCW S__law_written W (tCons (tOp (rIxL K) (tOp (rIxT K) (tVar 0) (tC (.int 1))) (tC (.int 0))) (tCons (tOp rAddI (tVar 2) (tC (.int 1))) tNil))) (gName 4))
  (tSeq (tFor (iList K (tSl (rSlL K) (tOp (rIxT K) (tVar 0) (tC (.int 1))) (tPart (tC (.int 1))) tNoPart)) (gName 5) (tAsg (tOp rAddS (tOp rAddS (tVar 4) (tVar 3)) (tCW S__law_written W (tCons (tVar 5) (tCons (tOp rAddI (tVar 2) (tC (.int 1))) tNil)))) (gName 4)))
  (tSeq (tIfS (tTest (tOp rLtI (tVar 2) (tVar 1))) (tRet (tOp rAddS (tOp rAddS (tC (.str "(")) (tVar 4)) (tC (.str ")")))) tNext)
  (tRet (tVar 4)))))))))
theorem e_dct {ps : List (Str × TE)} {σ : St} {H : Hp} {Q : VK} (h : ∀ d, H d = none → tPairs ps σ (upd H d (.dK [])) fun kvs H2 => H2 d = some (dS []) ∧ Q (.ref d) (upd H2 d (dS (putAll [] kvs)))) : tDct ps σ H Q := h
theorem rank_get (k : Kd) : getS (putAll [] [("most", V.int 1), ("least", V.int 2), ("sum", V.int 3)]) k.word = some (.int k.rank) := by cases k <;> rfl
theorem sign_get (k : Kd) : getS (putAll [] [("most", V.str " | "), ("least", V.str " & "), ("sum", V.str " + ")]) k.word = some (.str k.sign) := by cases k <;> rfl
theorem pure__law_written {K : PySem.W.Frag} {α : Type} {R : TRel α} {C : List Str → α → Prop} {ys : List Str} {w : α → Int → Str} {M : Nat} (g : Good R) (hM : M ≤ 1000) (hw : ∀ t f, C ys t → (w t f).length ≤ M) (hys : ∀ x ∈ ys, x.length ≤ 6) {vs : List V} {H : Hp} {Q : VK} {E : XK} {W : WX}
    (h : sp_written (NdR R) (NdOk C ys) (wrNd w) vs H Q E) : t__law_written K W (sp_written R (C ys) w) { nx := fun _ H' => Q .non H', rt := Q } (start n__law_written vs) H := by
  obtain ⟨v, f, t, A, rfl, r, ok, k⟩ := h
  show t__law_written K W _ _ [some v, some (.int f), none, none, none, none] H
  unfold t__law_written
  cases t with
  | num n =>
    obtain ⟨a, rfl, ha⟩ := r
    obtain ⟨n0, n1⟩ := ok
    walk_at "go"
    refine e_ixT (SqT.of ha) (at_of (j := 0) rfl rfl) ?_
    walk_at "go"
    refine ifd (fun _ => ?_) (fun h => absurd rfl h)
    walk_at "go"
    refine e_ixT (SqT.of ha) (at_of (j := 1) rfl rfl) ?_
    walk_at "go"
    refine e_strI ?_ (k _ (Same.refl _))
    have : n.natAbs < 2 ^ 10 := by omega
    by_cases z : n.natAbs = 0
    · rw [z]; decide
    · have := (Nat.log2_lt z).mpr this
      omega
  | nm x =>
    obtain ⟨a, rfl, ha⟩ := r
    walk_at "go"
    refine e_ixT (SqT.of ha) (at_of (j := 0) rfl rfl) ?_
    walk_at "go"
    refine ifd (fun h => absurd h (by decide)) (fun _ => ?_)
    walk_at "go"
    refine e_ixT (SqT.of ha) (at_of (j := 0) rfl rfl) ?_
    walk_at "go"
    refine ifd (fun _ => ?_) (fun h => absurd rfl h)
    walk_at "go"
    exact e_ixT (SqT.of ha) (at_of (j := 1) rfl rfl) (k _ (Same.refl _))
  | gate x b t =>
    obtain ⟨a, u, rfl, ha, ru⟩ := r
    obtain ⟨hx, b0, b1, ct⟩ := ok
    walk_at "go"
    refine e_ixT (SqT.of ha) (at_of (j := 0) rfl rfl) ?_
    walk_at "go"
    refine ifd (fun h => absurd h (by decide)) (fun _ => ?_)
    walk_at "go"
    refine e_ixT (SqT.of ha) (at_of (j := 0) rfl rfl) ?_
    walk_at "go"
    refine ifd (fun h => absurd h (by decide)) (fun _ => ?_)
    walk_at "go"
    refine e_ixT (SqT.of ha) (at_of (j := 0) rfl rfl) ?_
    walk_at "go"
    refine ifd (fun _ => ?_) (fun h => absurd rfl h)
    walk_at "go"
    have lx := hys x hx
    have lb := small_str b (by omega) b1
    have l1 : ("[" : Str).length = 1 := rfl
    have l2 : (" " : Str).length = 1 := rfl
    have l3 : ("] " : Str).length = 2 := rfl
    have lw := hw t 4 ct
    refine e_ixT (SqT.of ha) (at_of (j := 1) rfl rfl) ?_
    refine e_addS (by rw [sizeLine_eq]; omega) ?_
    walk_at "go"
    refine e_addS (by rw [sizeLine_eq, len_app]; omega) ?_
    walk_at "go"
    refine e_ixT (SqT.of ha) (at_of (j := 2) rfl rfl) ?_
    walk_at "go"
    refine e_strI ?_ ?_
    · have : b.natAbs < 2 ^ 10 := by omega
      have := (Nat.log2_lt (by omega)).mpr this
      omega
    refine e_addS (by rw [sizeLine_eq]; simp only [len_app]; omega) ?_
    walk_at "go"
    refine e_addS (by rw [sizeLine_eq]; simp only [len_app]; omega) ?_
    walk_at "go"
    refine e_ixT (SqT.of ha) (at_of (j := 3) rfl rfl) ?_
    walk_at "go"
    refine ⟨u, 4, t, A, rfl, ru, ct, fun H' s => ?_⟩
    refine e_addS (by rw [sizeLine_eq]; simp only [len_app]; omega) ?_
    exact k _ s
  | ch kd ts =>
    obtain ⟨a, l, us, rfl, ha, hl, hA, P⟩ := r
    obtain ⟨t2, t3, ct⟩ := ok
    have nw : ∀ z : Str, z = "number" ∨ z = "name" ∨ z = "gate" → ¬ kd.word = z := by
      rintro z (rfl | rfl | rfl) <;> cases kd <;> decide
    walk_at "go"
    refine e_ixT (SqT.of ha) (at_of (j := 0) rfl rfl) ?_
    walk_at "go"
    refine ifd (fun h => absurd h (nw _ (.inl rfl))) (fun _ => ?_)
    walk_at "go"
    refine e_ixT (SqT.of ha) (at_of (j := 0) rfl rfl) ?_
    walk_at "go"
    refine ifd (fun h => absurd h (nw _ (.inr (.inl rfl)))) (fun _ => ?_)
    walk_at "go"
    refine e_ixT (SqT.of ha) (at_of (j := 0) rfl rfl) ?_
    walk_at "go"
    refine ifd (fun h => absurd h (nw _ (.inr (.inr rfl)))) (fun _ => ?_)
    walk_at "go"
    refine e_dct fun d1 hd1 => ?_
    refine ⟨upd_same, ?_⟩
    have s1 : Same H (upd (upd H d1 (.dK [])) d1 (dS (putAll [] [("most", V.int 1), ("least", V.int 2), ("sum", V.int 3)]))) := same_mut (same1 hd1) hd1
    walk_at "go"
    refine e_ixT (SqT.of (s1 _ _ ha)) (at_of (j := 0) rfl rfl) ?_
    refine k_dg (.of upd_same) (rank_get kd) ?_
    show tSeq _ _ _ _ (upd (upd H d1 (.dK [])) d1 (dS (putAll [] [("most", V.int 1), ("least", V.int 2), ("sum", V.int 3)])))
    generalize upd (upd H d1 (.dK [])) d1 (dS (putAll [] [("most", V.int 1), ("least", V.int 2), ("sum", V.int 3)])) = H1 at s1 ⊢
    walk_at "go"
    refine e_dct fun d2 hd2 => ?_
    refine ⟨upd_same, ?_⟩
    have s2 : Same H1 (upd (upd H1 d2 (.dK [])) d2 (dS (putAll [] [("most", V.str " | "), ("least", V.str " & "), ("sum", V.str " + ")]))) := same_mut (same1 hd2) hd2
    walk_at "go"
    refine e_ixT (SqT.of (s2 _ _ (s1 _ _ ha))) (at_of (j := 0) rfl rfl) ?_
    refine k_dg (.of upd_same) (sign_get kd) ?_
    show tSeq _ _ _ _ (upd (upd H1 d2 (.dK [])) d2 (dS (putAll [] [("most", V.str " | "), ("least", V.str " & "), ("sum", V.str " + ")])))
    have s12 := s1.trans s2
    generalize upd (upd H1 d2 (.dK [])) d2 (dS (putAll [] [("most", V.str " | "), ("least", V.str " & "), ("sum", V.str " + ")])) = H2 at s12 ⊢
    clear s1 s2
    cases P with
    | nil => simp at t2
    | @cons t0 u0 ts us r0 P =>
      have lsg : kd.sign.length = 3 := by cases kd <;> rfl
      walk_at "go"
      refine e_ixT (SqT.of (s12 _ _ ha)) (at_of (j := 1) rfl rfl) ?_
      walk_at "go"
      refine e_ixL (SqL.of (s12 _ _ hl)) (at_of (j := 0) rfl rfl) ?_
      walk_at "go"
      refine ⟨u0, kd.rank + 1, t0, A, rfl, g.same s12 r0, ct _ List.mem_cons_self, fun H3 s3 => ?_⟩
      walk_at "go"
      refine e_ixT (SqT.of (s3 _ _ (s12 _ _ ha))) (at_of (j := 1) rfl rfl) ?_
      walk_at "go"
      refine e_slL (SqL.of (s3 _ _ (s12 _ _ hl))) fun c hc => ?_
      rw [show cutV (u0 :: us) (some 1) none = us from cut_from (u0 :: us) 1]
      have s4 := (s12.trans s3).trans (same1 (o := .lst us) hc)
      have hcc : upd H3 c (.lst us) c = some (.lst us) := upd_same
      generalize upd H3 c (.lst us) = H4 at s4 hcc ⊢
      simp only [List.length_cons] at t2 t3
      refine k_forL (fun i σ H' => ∃ v5, σ = [some (.ref a), some (.int f), some (.int kd.rank), some (.str kd.sign), some (.str ((ts.take i).foldl (fun o u => o ++ kd.sign ++ w u (kd.rank + 1)) (w t0 (kd.rank + 1)))), v5] ∧ Same H4 H' ∧ ((ts.take i).foldl (fun o u => o ++ kd.sign ++ w u (kd.rank + 1)) (w t0 (kd.rank + 1))).length ≤ M + i * (3 + M))
        (SqL.of hcc) ⟨none, rfl, Same.refl _, by simpa using hw t0 _ (ct _ List.mem_cons_self)⟩ (fun i σ H' _ ⟨_, _, s, _⟩ => SqL.of (s _ _ hcc)) ?_ ?_
      · rintro i x σ H5 hi ⟨v5, rfl, s5, lo⟩
        obtain ⟨t', ht', r'⟩ := paired_at P hi
        have hil := List.getElem?_eq_some_iff.mp ht'
        have htm : t' ∈ ts := List.mem_of_getElem? ht'
        have et : ts.take (i + 1) = ts.take i ++ [t'] := by rw [List.take_succ_eq_append_getElem hil.1, hil.2]
        have lw := hw t' (kd.rank + 1) (ct _ (List.mem_cons_of_mem _ htm))
        have hil1 := hil.1
        have i2 : i * (3 + M) ≤ 2 * (3 + M) := Nat.mul_le_mul_right _ (by omega)
        walk_at "go"
        refine e_addS (by rw [sizeLine_eq]; omega) ?_
        walk_at "go"
        refine ⟨x, kd.rank + 1, t', A, rfl, g.same (s4.trans s5) r', ct _ (List.mem_cons_of_mem _ htm), fun H6 s6 => ?_⟩
        refine e_addS (by rw [sizeLine_eq, len_app]; omega) ?_
        walk_at "go"
        refine ⟨some x, ?_, s5.trans s6, ?_⟩
        · rw [et, List.foldl_append]
          rfl
        · rw [et, List.foldl_append, Nat.succ_mul]
          show ((_ ++ kd.sign) ++ w t' (kd.rank + 1)).length ≤ _
          rw [len_app, len_app]
          omega
      · rintro σ H5 ⟨v5, rfl, s5, lo⟩
        have lu : us.length = ts.length := (Paired.length P).symm
        rw [lu] at lo ⊢
        rw [List.take_of_length_le (Nat.le_refl _)] at lo
        rw [List.take_of_length_le (Nat.le_refl _)]
        have i2 : ts.length * (3 + M) ≤ 2 * (3 + M) := Nat.mul_le_mul_right _ (by omega)
        walk_at "go"
        have l1 : ("(" : Str).length = 1 := rfl
        have l2 : (")" : Str).length = 1 := rfl
        have kk := k _ (s4.trans s5)
        refine ifd (fun hlt => ?_) (fun hge => ?_)
        · walk_at "go"
          refine e_addS (by rw [sizeLine_eq]; omega) ?_
          walk_at "go"
          refine e_addS (by rw [sizeLine_eq, len_app]; omega) ?_
          have e : wrNd w (.ch kd (t0 :: ts)) f = "(" ++ wrOut w kd (t0 :: ts) ++ ")" := if_pos hlt
          rw [e] at kk
          exact kk
        · walk_at "go"
          have e : wrNd w (.ch kd (t0 :: ts)) f = wrOut w kd (t0 :: ts) := if_neg hge
          rw [e] at kk
          exact kk
/-! ### texts to words -/
abbrev LT : List Nat := ("abcdefghijklmnopqrstuvwxyz" : Str).cps.toList
abbrev FG : List Nat := ("0123456789" : Str).cps.toList
abbrev SG : List Nat := ("+&|()[]" : Str).cps.toList
/-- a text's codes and its words -/
inductive Toks : List Nat → List Str → Prop where
  | nil : Toks [] []
  | sp {r : List Nat} {ws : List Str} : Toks r ws → Toks (32 :: r) ws
  | sg {c : Nat} {r : List Nat} {ws : List Str} : c ∈ SG → Toks r ws → Toks (c :: r) (⟨#[c]⟩ :: ws)
  | lt {x r : List Nat} {ws : List Str} : x ≠ [] → (∀ c ∈ x, c ∈ LT) → (∀ c, r.head? = some c → ¬ c ∈ LT) → Toks r ws → Toks (x ++ r) (⟨x.toArray⟩ :: ws)
  | fg {x r : List Nat} {ws : List Str} : x ≠ [] → (∀ c ∈ x, c ∈ FG) → (∀ c, r.head? = some c → ¬ c ∈ FG) → Toks r ws → Toks (x ++ r) (⟨x.toArray⟩ :: ws)
def sp_end_of : Sp := fun vs H Q _ => ∃ (z sg : Str) (at_ : Nat) (x r : List Nat), vs = [.str z, .int (at_ : Int), .str sg] ∧ z.length ≤ 1000 ∧ z.cps.toList.drop at_ = x ++ r ∧ (∀ c ∈ x, c ∈ sg.cps.toList) ∧ (∀ c, r.head? = some c → ¬ c ∈ sg.cps.toList) ∧ Q (.int ((at_ + x.length : Nat) : Int)) H
theorem ln_end_of {vs : List V} {H : Hp} {Q : VK} {E : XK} (h : sp_end_of vs H Q E) : vs.length = 3 := by
  obtain ⟨z, sg, a, x, r, rfl, _⟩ := h
  rfl
abbrev n_end_of : List Str := ["text", "at", "signs", "end"]
def t_end_of (K : PySem.W.Frag) (W : WX) : TS :=
  tSeq (tAsg (tVar 1) (gName 3))
  (tSeq (tWhile (tAnd (tTest (tOp rLtI (tVar 3) (tCB rLenT (tCons (tVar 0) tNil)))) (tTest (tOp rInS (tOp rIxS (tVar 0) (tVar 3)) (tVar 2)))) (tAsg (tOp rAddI (tVar 3) (tC (.int 1))) (gName 3)))
  (tRet (tVar 3)))
theorem drop_at {l x r : List Nat} {a i : Nat} (h : l.drop a = x ++ r) : l[a + i]? = (x ++ r)[i]? := by rw [← h, List.getElem?_drop]
theorem len_z (z : Str) : z.cps.toList.length = z.length := Array.length_toList
theorem pure_end_of {K : PySem.W.Frag} {vs : List V} {H : Hp} {Q : VK} {E : XK} {W : WX} (h : sp_end_of vs H Q E) : t_end_of K W { nx := fun _ H' => Q .non H', rt := Q } (start n_end_of vs) H := by
  obtain ⟨z, sg, a, x, r, rfl, hz, hd, hx, hr, k⟩ := h
  show t_end_of K W _ [some (.str z), some (.int (a : Int)), some (.str sg), none] H
  unfold t_end_of
  walk_at "go"
  refine st_while (fun n σ H' => ∃ i : Nat, σ = [some (.str z), some (.int (a : Int)), some (.str sg), some (.int ((a + i : Nat) : Int))] ∧ H' = H ∧ i ≤ x.length ∧ n = x.length - i) x.length ⟨0, rfl, rfl, Nat.zero_le _, rfl⟩ ?_
  rintro n σ H' ⟨i, rfl, rfl, hi, rfl⟩
  have out : ∀ {D : Ends}, D.rt = Q → i = x.length → tRet (tVar 3) D [some (.str z), some (.int (a : Int)), some (.str sg), some (.int ((a + i : Nat) : Int))] H' := by
    rintro D hD rfl
    walk_at "go"
    rw [hD]
    exact k
  walk_at "go"
  refine e_lenT (by rw [sizeLine_eq]; omega) ?_
  walk_at "go"
  refine ifd (fun hlt => ?_) (fun hge => ?_)
  · have hl : a + i < z.cps.toList.length := by rw [len_z]; omega
    obtain ⟨c, hc⟩ : ∃ c, z.cps.toList[a + i]? = some c := ⟨_, List.getElem?_eq_getElem hl⟩
    have hc2 := hc
    rw [drop_at hd] at hc2
    walk_at "go"
    refine e_ixS (by rw [sizeLine_eq]; omega) (atI_nat hc) ?_
    walk_at "go"
    refine ifd (fun hin => ?_) (fun hout => ?_)
    · apply st_wt
      walk_at "go"
      have hix : i < x.length := by
        rcases Nat.lt_or_ge i x.length with q | q
        · exact q
        · exfalso
          have e : i = x.length := by omega
          subst e
          rw [List.getElem?_append_right (Nat.le_refl _), Nat.sub_self] at hc2
          exact hr c (by rw [← hc2]; cases r <;> rfl) hin
      have e1 : ((a + i : Nat) : Int) + 1 = ((a + (i + 1) : Nat) : Int) := by omega
      exact ⟨_, by omega, i + 1, by rw [e1]; rfl, rfl, hix, rfl⟩
    · refine out rfl ?_
      rcases Nat.lt_or_ge i x.length with q | q
      · exfalso
        rw [List.getElem?_append_left q] at hc2
        exact hout (hx c (List.mem_of_getElem? hc2))
      · omega
  · refine out rfl ?_
    have h1 : (z.cps.toList.drop a).length = x.length + r.length := by rw [hd, List.length_append]
    rw [List.length_drop, len_z] at h1
    omega
def sp_words_of : Sp := fun vs H Q _ => ∃ (z : Str) (ws : List Str), vs = [.str z] ∧ z.length ≤ 400 ∧ Toks z.cps.toList ws ∧ ws.length ≤ 40 ∧ ∀ r H', Same H H' → H r = none → H' r = some (.lst (ws.map V.str)) → Q (.ref r) H'
theorem ln_words_of {vs : List V} {H : Hp} {Q : VK} {E : XK} (h : sp_words_of vs H Q E) : vs.length = 1 := by
  obtain ⟨z, ws, rfl, _⟩ := h
  rfl
abbrev n_words_of : List Str := ["text", "words", "at", "end"]
def t_words_of (K : PySem.W.Frag) (W : WX) : TS :=
  tSeq (tIfS (tTest (tOp rGtI (tCB rLenT (tCons (tVar 0) tNil)) (tC (.int 400)))) tNever tNext)
  (tSeq (tAsg (tLst tNil) (gName 1))
  (tSeq (tAsg (tC (.int 0)) (gName 2))
  (tSeq (tWhile (tTest (tOp rLtI (tVar 2) (tCB rLenT (tCons (tVar 0) tNil)))) (tSeq (tAsg (tOp rAddI (tVar 2) (tC (.int 1))) (gName 3))
  (tSeq (tIfS (tTest (tOp rInS (tOp rIxS (tVar 0) (tVar 2)) (tC (.str "abcdefghijklmnopqrstuvwxyz")))) (tAsg (tCW sp_end_of W (tCons (tVar 0) (tCons (tVar 2) (tCons (tC (.str "abcdefghijklmnopqrstuvwxyz")) tNil)))) (gName 3)) (tIfS (tTest (tOp rInS (tOp rIxS (tVar 0) (tVar 2)) (tC (.str "0123456789")))) (tAsg (tCW sp_end_of W (tCons (tVar 0) (tCons (tVar 2) (tCons (tC (.str "0123456789")) tNil)))) (gName 3)) (tIfS (tAnd (tTest (tOp rNotInS (tOp rIxS (tVar 0) (tVar 2)) (tC (.str "+&|()[]")))) (tTest (tOp rNe (tOp rIxS (tVar 0) (tVar 2)) (tC (.str " "))))) tNever tNext)))
  (tSeq (tIfS (tTest (tOp rNe (tOp rIxS (tVar 0) (tVar 2)) (tC (.str " ")))) (tDrop (tBM K "list" rAppend (tVar 1) (tCons (tSl rSlS (tVar 0) (tPart (tVar 2)) (tPart (tVar 3))) tNil))) tNext)
  (tAsg (tVar 3) (gName 2))))))
  (tSeq (tIfS (tTest (tOp rGtI (tCB (rLenL K) (tCons (tVar 1) tNil)) (tC (.int 40)))) tNever tNext)
  (tRet (tVar 1))))))
theorem cut_at {z : Str} {i n : Nat} {x r : List Nat} (h : z.cps.toList.drop i = x ++ r) (hn : x.length = n) (hz : i + n ≤ z.length) : cutS z (some (i : Int)) (some ((i + n : Nat) : Int)) = ⟨x.toArray⟩ := by
  unfold cutS
  have e1 : HT.sIx z.length 0 (some (i : Int)) = i := by
    show (if (i : Int) < 0 then ((i : Int) + (z.length : Int)).toNat else min (i : Int).toNat z.length) = _
    rw [if_neg (by omega)]
    omega
  have e2 : HT.sIx z.length z.length (some ((i + n : Nat) : Int)) = i + n := by
    show (if ((i + n : Nat) : Int) < 0 then (((i + n : Nat) : Int) + (z.length : Int)).toNat else min ((i + n : Nat) : Int).toNat z.length) = _
    rw [if_neg (by omega)]
    omega
  rw [e1, e2, h, show i + n - i = n by omega, ← hn, List.take_left]
theorem sg_not : ∀ c ∈ SG, ¬ c ∈ LT ∧ ¬ c ∈ FG ∧ c ≠ 32 := by decide +kernel
theorem fg_not : ∀ c ∈ FG, ¬ c ∈ LT ∧ c ≠ 32 := by decide +kernel
theorem lt_not : ∀ c ∈ LT, c ≠ 32 := by decide +kernel
theorem one_eq (c : Nat) : ((⟨#[c]⟩ : Str) = " ") ↔ c = 32 := by
  constructor
  · intro h
    have h := congrArg (fun s : Str => s.cps.toList) h
    have h2 : [c] = [32] := h
    exact (List.cons.inj h2).1
  · rintro rfl
    rfl
theorem pure_words_of {K : PySem.W.Frag} {vs : List V} {H : Hp} {Q : VK} {E : XK} {W : WX} (h : sp_words_of vs H Q E) : t_words_of K W { nx := fun _ H' => Q .non H', rt := Q } (start n_words_of vs) H := by
  obtain ⟨z, ws, rfl, hz, hT, hw, k⟩ := h
  show t_words_of K W _ [some (.str z), none, none, none] H
  unfold t_words_of
  have hzl : z.length ≤ sizeLine := by rw [sizeLine_eq]; omega
  walk_at "go"
  refine e_lenT hzl ?_
  walk_at "go"
  refine ifd (fun h => by omega) (fun _ => ?_)
  walk_at "go"
  intro w hwn
  walk_at "go"
  refine st_while (fun n σ H' => ∃ (i : Nat) (pre rest : List Str) (v3 : Option V), σ = [some (.str z), some (.ref w), some (.int (i : Int)), v3] ∧ Same H H' ∧ H' w = some (.lst (pre.map V.str)) ∧ pre ++ rest = ws ∧ Toks (z.cps.toList.drop i) rest ∧ i ≤ z.length ∧ n = z.length - i) z.length
    ⟨0, [], ws, none, rfl, same1 hwn, upd_same, rfl, hT, Nat.zero_le _, rfl⟩ ?_
  rintro n σ H' ⟨i, pre, rest, v3, rfl, s, hpre, hws, hTi, hi, rfl⟩
  walk_at "go"
  refine e_lenT hzl ?_
  walk_at "go"
  refine ifd (fun hlt => ?_) (fun hge => ?_)
  · apply st_wt
    have hil : i < z.length := by omega
    have hll : i < z.cps.toList.length := by rw [len_z]; exact hil
    obtain ⟨c, hc⟩ : ∃ c, z.cps.toList[i]? = some c := ⟨_, List.getElem?_eq_getElem hll⟩
    have hdc : z.cps.toList.drop i = c :: z.cps.toList.drop (i + 1) := by
      rw [List.drop_eq_getElem_cons hll]
      rw [List.getElem?_eq_getElem hll] at hc
      rw [Option.some.inj hc]
    have ix := atI_nat hc
    have hpl : pre.length ≤ 40 := by
      have := congrArg List.length hws
      rw [List.length_append] at this
      omega
    -- the turn's end: a word x, then r
    have fin : ∀ {D : Ends} (x r : List Nat) (rest' : List Str), D.rt = Q → x ≠ [] → z.cps.toList.drop i = x ++ r → c ≠ 32 → rest = ⟨x.toArray⟩ :: rest' → Toks r rest' →
        (∀ σ H'', (∃ m', m' < z.length - i ∧ ∃ (i : Nat) (pre rest : List Str) (v3 : Option V), σ = [some (.str z), some (.ref w), some (.int (i : Int)), v3] ∧ Same H H'' ∧ H'' w = some (.lst (pre.map V.str)) ∧ pre ++ rest = ws ∧ Toks (z.cps.toList.drop i) rest ∧ i ≤ z.length ∧ m' = z.length - i) → D.nx σ H'') →
        tSeq (tIfS (tTest (tOp rNe (tOp rIxS (tVar 0) (tVar 2)) (tC (.str " ")))) (tDrop (tBM K "list" rAppend (tVar 1) (tCons (tSl rSlS (tVar 0) (tPart (tVar 2)) (tPart (tVar 3))) tNil))) tNext)
          (tAsg (tVar 3) (gName 2)) D [some (.str z), some (.ref w), some (.int (i : Int)), some (.int ((i + x.length : Nat) : Int))] H' := by
      intro D x r rest' hD hx hd hc32 hrest hTr hN
      have hxl : i + x.length ≤ z.length := by
        have := congrArg List.length hd
        rw [List.length_drop, List.length_append, len_z] at this
        omega
      have hx1 : 0 < x.length := by
        cases x with
        | nil => exact absurd rfl hx
        | cons _ _ => simp
      walk_at "go"
      refine e_ixS hzl ix ?_
      walk_at "go"
      refine ifn (fun _ => ?_) (fun h => absurd ((one_eq c).mp h) hc32)
      walk_at "go"
      refine e_tyl hpre ?_
      walk_at "go"
      refine ⟨z, rfl, hzl, ?_⟩
      rw [cut_at hd rfl hxl]
      walk_at "go"
      refine e_app hpre (by rw [List.length_map]; exact small1000 (by omega)) ?_
      walk_at "go"
      refine hN _ _ ⟨z.length - (i + x.length), by omega, i + x.length, pre ++ [⟨x.toArray⟩], rest', some (.int ((i + x.length : Nat) : Int)), rfl, same_mut s hwn, by rw [upd_same, List.map_append]; rfl, by rw [← hws, hrest, List.append_assoc]; rfl, ?_, hxl, rfl⟩
      have e : z.cps.toList.drop (i + x.length) = r := by rw [← List.drop_drop, hd, List.drop_left]
      rw [e]
      exact hTr
    walk_at "go"
    refine e_ixS hzl ix ?_
    walk_at "go"
    generalize hl : z.cps.toList.drop i = l at hTi
    cases hTi with
    | nil => rw [hdc] at hl; cases hl
    | @sp r _ hTr =>
      rw [hdc] at hl
      obtain ⟨rfl, hr⟩ := List.cons.inj hl
      refine ifd (fun h => absurd h (by decide +kernel)) (fun _ => ?_)
      walk_at "go"
      refine e_ixS hzl ix ?_
      walk_at "go"
      refine ifd (fun h => absurd h (by decide +kernel)) (fun _ => ?_)
      walk_at "go"
      refine e_ixS hzl ix ?_
      walk_at "go"
      refine ifn (fun _ => ?_) (fun h => absurd h (by decide +kernel))
      walk_at "go"
      refine e_ixS hzl ix ?_
      walk_at "go"
      refine ifn (fun h => absurd ((one_eq 32).mpr rfl) h) (fun _ => ?_)
      walk_at "go"
      refine e_ixS hzl ix ?_
      walk_at "go"
      refine ifn (fun h => absurd ((one_eq 32).mpr rfl) h) (fun _ => ?_)
      walk_at "go"
      have e1 : (i : Int) + 1 = ((i + 1 : Nat) : Int) := by omega
      refine ⟨z.length - (i + 1), by omega, i + 1, pre, rest, some (.int ((i + 1 : Nat) : Int)), by rw [e1]; rfl, s, hpre, hws, ?_, hil, rfl⟩
      rw [hr]
      exact hTr
    | @sg c' r ws' hcs hTr =>
      rw [hdc] at hl
      obtain ⟨rfl, hr⟩ := List.cons.inj hl
      obtain ⟨n1, n2, n3⟩ := sg_not c hcs
      refine ifd (fun h => absurd h n1) (fun _ => ?_)
      walk_at "go"
      refine e_ixS hzl ix ?_
      walk_at "go"
      refine ifd (fun h => absurd h n2) (fun _ => ?_)
      walk_at "go"
      refine e_ixS hzl ix ?_
      walk_at "go"
      refine ifn (fun h => absurd hcs h) (fun _ => ?_)
      apply st_next
      refine fin [c] r ws' rfl (by simp) (by rw [hdc, hr]; rfl) n3 rfl hTr fun _ _ h => h
    | @lt x r ws' hx hxs hr hTr =>
      have hc0 : c ∈ LT := by
        rw [hdc] at hl
        cases x with
        | nil => exact absurd rfl hx
        | cons y x => exact (List.cons.inj hl).1 ▸ hxs y List.mem_cons_self
      refine ifd (fun _ => ?_) (fun h => absurd hc0 h)
      walk_at "go"
      refine ⟨z, _, i, x, r, rfl, by omega, hl, hxs, hr, ?_⟩
      refine fin x r ws' rfl hx hl (lt_not c hc0) rfl hTr fun _ _ h => h
    | @fg x r ws' hx hxs hr hTr =>
      have hc0 : c ∈ FG := by
        rw [hdc] at hl
        cases x with
        | nil => exact absurd rfl hx
        | cons y x => exact (List.cons.inj hl).1 ▸ hxs y List.mem_cons_self
      refine ifd (fun h => absurd h (fg_not c hc0).1) (fun _ => ?_)
      walk_at "go"
      refine e_ixS hzl ix ?_
      walk_at "go"
      refine ifd (fun _ => ?_) (fun h => absurd hc0 h)
      walk_at "go"
      refine ⟨z, _, i, x, r, rfl, by omega, hl, hxs, hr, ?_⟩
      refine fin x r ws' rfl hx hl (fg_not c hc0).2 rfl hTr fun _ _ h => h
  · have e : i = z.length := by omega
    subst e
    rw [List.drop_of_length_le (by rw [len_z]; exact Nat.le_refl _)] at hTi
    generalize hl : ([] : List Nat) = l at hTi
    cases hTi with
    | nil =>
      rw [List.append_nil] at hws
      subst hws
      walk_at "go"
      refine e_lenL (SqL.of hpre) ?_
      rw [List.length_map]
      walk_at "go"
      refine ifd (fun h => by omega) (fun _ => ?_)
      walk_at "go"
      exact k w H' s hwn hpre
    | sp _ => cases hl
    | sg _ _ => cases hl
    | @lt x r ws' hx _ _ _ =>
      cases x with
      | nil => exact absurd rfl hx
      | cons _ _ => cases hl
    | @fg x r ws' hx _ _ _ =>
      cases x with
      | nil => exact absurd rfl hx
      | cons _ _ => cases hl
/-! ### numbers -/
def numS (n : Int) : Str := (toString n : String)
def sp_number_of : Sp := fun vs H Q _ => ∃ n : Int, vs = [.str (numS n)] ∧ 0 ≤ n ∧ n ≤ 30 ∧ Q (.int n) H
theorem ln_number_of {vs : List V} {H : Hp} {Q : VK} {E : XK} (h : sp_number_of vs H Q E) : vs.length = 1 := by
  obtain ⟨n, rfl, _⟩ := h
  rfl
abbrev n_number_of : List Str := ["word", "sign"]
def t_number_of (K : PySem.W.Frag) (W : WX) : TS :=
  tSeq (tIfS (tOr (tTest (tOp rEq (tVar 0) (tC (.str "")))) (tTest (tOp rGtI (tCB rLenT (tCons (tVar 0) tNil)) (tC (.int 2))))) tNever tNext)
  (tSeq (tFor (iStr (tVar 0)) (gName 1) (tIfS (tTest (tOp rNotInS (tVar 1) (tC (.str "0123456789")))) tNever tNext))
  (tSeq (tIfS (tOr (tAnd (tTest (tOp rEq (tOp rIxS (tVar 0) (tC (.int 0))) (tC (.str "0")))) (tTest (tOp rGtI (tCB rLenT (tCons (tVar 0) tNil)) (tC (.int 1))))) (tTest (tOp rGtI (tCB rIntS (tCons (tVar 0) tNil)) (tC (.int 30))))) tNever tNext)
  (tRet (tCB rIntS (tCons (tVar 0) tNil)))))
theorem num_facts : ∀ k : Nat, k < 31 → ¬ numS (k : Int) = "" ∧ (numS (k : Int)).length ≤ 2 ∧ (∀ c ∈ (numS (k : Int)).cps.toList, c ∈ FG) ∧ ((numS (k : Int)).cps.toList[0]? = some 48 → (numS (k : Int)).length ≤ 1) ∧ PySem.intText? (numS (k : Int)) = some (k : Int) ∧ (numS (k : Int)).cps.toList[0]?.isSome = true := by decide +kernel
theorem pure_number_of {K : PySem.W.Frag} {vs : List V} {H : Hp} {Q : VK} {E : XK} {W : WX} (h : sp_number_of vs H Q E) : t_number_of K W { nx := fun _ H' => Q .non H', rt := Q } (start n_number_of vs) H := by
  obtain ⟨n, rfl, h0, h1, k⟩ := h
  obtain ⟨m, rfl⟩ : ∃ m : Nat, n = m := ⟨n.toNat, by omega⟩
  obtain ⟨f1, f2, f3, f4, f5, f6⟩ := num_facts m (by omega)
  generalize numS (m : Int) = z at f1 f2 f3 f4 f5 f6
  show t_number_of K W _ [some (.str z), none] H
  unfold t_number_of
  have hzl : z.length ≤ sizeLine := by rw [sizeLine_eq]; omega
  walk_at "go"
  refine ifd (fun h => absurd h f1) (fun _ => ?_)
  walk_at "go"
  refine e_lenT hzl ?_
  walk_at "go"
  refine ifd (fun h => by omega) (fun _ => ?_)
  walk_at "go"
  refine k_forS (fun i σ H' => (∃ v, σ = [some (.str z), v]) ∧ H' = H) ⟨⟨_, rfl⟩, rfl⟩ ?_ ?_
  · rintro i c σ H' hc ⟨⟨v, rfl⟩, rfl⟩
    walk_at "go"
    refine ifn (fun hn => absurd (f3 c (List.mem_of_getElem? hc)) hn) (fun _ => ?_)
    walk_at "go"
    exact ⟨⟨_, rfl⟩, rfl⟩
  · rintro σ H' ⟨⟨v, rfl⟩, rfl⟩
    obtain ⟨c, hc⟩ := Option.isSome_iff_exists.mp f6
    have ix : atI z.cps.toList 0 = some c := atI_nat (j := 0) hc
    walk_at "go"
    refine e_ixS hzl ix ?_
    walk_at "go"
    refine ifd (fun h => ?_) (fun h => ?_)
    · walk_at "go"
      refine e_lenT hzl ?_
      walk_at "go"
      have hc48 : c = 48 := by
        have h := congrArg (fun s : Str => s.cps.toList) h
        have h2 : [c] = [48] := h
        exact (List.cons.inj h2).1
      have := f4 (by rw [hc, hc48])
      rw [decide_eq_false (p := (1 : Int) < (z.length : Int)) (by omega)]
      refine iteF ?_
      walk_at "go"
      refine ⟨z, _, rfl, f5, by omega, ?_⟩
      walk_at "go"
      refine ifd (fun h => by omega) (fun _ => ?_)
      walk_at "go"
      exact ⟨z, _, rfl, f5, by omega, k⟩
    · refine iteF ?_
      walk_at "go"
      refine ⟨z, _, rfl, f5, by omega, ?_⟩
      walk_at "go"
      refine ifd (fun h => by omega) (fun _ => ?_)
      walk_at "go"
      exact ⟨z, _, rfl, f5, by omega, k⟩
/-! ### a tree's words -/
def Kd.wd : Kd → Str
  | .most => "|"
  | .least => "&"
  | .sum => "+"
def wdOut {α : Type} (d : α → Int → List Str) (k : Kd) : List α → List Str
  | [] => []
  | t :: ts => d t (k.rank + 1) ++ ts.flatMap fun u => k.wd :: d u (k.rank + 1)
def wdNd {α : Type} (d : α → Int → List Str) : Nd α → Int → List Str
  | .num n, _ => [numS n]
  | .nm x, _ => [x]
  | .gate x b t, _ => "[" :: x :: numS b :: "]" :: d t 4
  | .ch k ts, f => if k.rank < f then ("(" : Str) :: wdOut d k ts ++ [(")" : Str)] else wdOut d k ts
/-- a text that begins no word anew -/
def Cut (r : List Nat) : Prop := ∀ c, r.head? = some c → ¬ c ∈ LT ∧ ¬ c ∈ FG
def TokT (w : Str) (d : List Str) : Prop := ∀ (r : List Nat) (ws : List Str), Toks r ws → Cut r → Toks (w.cps.toList ++ r) (d ++ ws)
theorem cps_app (a b : Str) : (a ++ b).cps.toList = a.cps.toList ++ b.cps.toList := by
  show (a.cps ++ b.cps).toList = _
  exact Array.toList_append
theorem tok_name {x : Str} (h : nameB x = true) : TokT x [x] := by
  intro r ws hT hr
  unfold nameB at h
  rw [Bool.and_eq_true, Bool.and_eq_true] at h
  obtain ⟨h1, h2, h3⟩ := h
  have e : x = ⟨x.cps.toList.toArray⟩ := by cases x; simp
  have := Toks.lt (x := x.cps.toList) (r := r) (ws := ws) (fun q => of_decide_eq_true h1 (by rw [e, q]; rfl)) (fun c hc => of_decide_eq_true (List.all_eq_true.mp h3 c hc)) (fun c hc => (hr c hc).1) hT
  rw [← e] at this
  exact this
theorem tok_num {n : Int} (h0 : 0 ≤ n) (h1 : n ≤ 30) : TokT (numS n) [numS n] := by
  intro r ws hT hr
  obtain ⟨m, rfl⟩ : ∃ m : Nat, n = m := ⟨n.toNat, by omega⟩
  obtain ⟨f1, f2, f3, f4, f5, f6⟩ := num_facts m (by omega)
  generalize numS (m : Int) = x at f1 f2 f3 f4 f5 f6
  have e : x = ⟨x.cps.toList.toArray⟩ := by cases x; simp
  have := Toks.fg (x := x.cps.toList) (r := r) (ws := ws) (fun q => f1 (by rw [e, q]; rfl)) f3 (fun c hc => (hr c hc).2) hT
  rw [← e] at this
  exact this
theorem cut_cons {c : Nat} {r : List Nat} (h : ¬ c ∈ LT ∧ ¬ c ∈ FG) : Cut (c :: r) := fun d hd => by
  cases hd
  exact h
theorem cut_sp {r : List Nat} : Cut (32 :: r) := cut_cons (by decide +kernel)
theorem tok_sg {c : Nat} (h : c ∈ SG) {r : List Nat} {ws : List Str} (hT : Toks r ws) : Toks (c :: r) (⟨#[c]⟩ :: ws) ∧ Cut (c :: r) := ⟨.sg h hT, cut_cons ⟨(sg_not c h).1, (sg_not c h).2.1⟩⟩
theorem tok_sign (k : Kd) {r : List Nat} {ws : List Str} (hT : Toks r ws) : Toks (k.sign.cps.toList ++ r) (k.wd :: ws) ∧ Cut (k.sign.cps.toList ++ r) := by
  cases k
  · exact ⟨.sp (tok_sg (c := 43) (by decide +kernel) (.sp hT)).1, cut_sp⟩
  · exact ⟨.sp (tok_sg (c := 38) (by decide +kernel) (.sp hT)).1, cut_sp⟩
  · exact ⟨.sp (tok_sg (c := 124) (by decide +kernel) (.sp hT)).1, cut_sp⟩
theorem tok_out {α : Type} {w : α → Int → Str} {d : α → Int → List Str} (k : Kd) : ∀ (ts : List α) (o : Str) (ds : List Str), (∀ t ∈ ts, TokT (w t (k.rank + 1)) (d t (k.rank + 1))) → TokT o ds →
    TokT (ts.foldl (fun o u => o ++ k.sign ++ w u (k.rank + 1)) o) (ds ++ ts.flatMap fun u => k.wd :: d u (k.rank + 1))
  | [], o, ds, _, ho => by
    rw [List.flatMap_nil, List.append_nil]
    exact ho
  | t :: ts, o, ds, h, ho => by
    rw [List.foldl_cons, List.flatMap_cons, ← List.append_assoc]
    refine tok_out k ts _ _ (fun u hu => h u (List.mem_cons_of_mem _ hu)) ?_
    intro r ws hT hr
    rw [cps_app, cps_app, List.append_assoc, List.append_assoc, List.append_assoc]
    have t1 := h t List.mem_cons_self r ws hT hr
    have t2 := tok_sign k t1
    have t3 := ho _ _ t2.1 t2.2
    simpa using t3
theorem tok_Nd {α : Type} {C : List Str → α → Prop} {ys : List Str} {w : α → Int → Str} {d : α → Int → List Str} (hy : ∀ x ∈ ys, nameB x = true) (h : ∀ t f, C ys t → TokT (w t f) (d t f)) : ∀ (t : Nd α) (f : Int), NdOk C ys t → TokT (wrNd w t f) (wdNd d t f)
  | .num n, f, ⟨h0, h1⟩ => tok_num h0 h1
  | .nm x, f, hx => tok_name (hy x hx)
  | .gate x b t, f, ⟨hx, b0, b1, ct⟩ => by
    intro r ws hT hr
    show Toks (("[" ++ x ++ " " ++ numS b ++ "] " ++ w t 4 : Str).cps.toList ++ r) _
    simp only [cps_app, List.append_assoc]
    have t1 := h t 4 ct r ws hT hr
    have t2 := tok_sg (c := 93) (by decide +kernel) (.sp t1)
    have t3 := tok_num (by omega) b1 _ _ t2.1 t2.2
    have t4 := tok_name (hy x hx) _ _ (.sp t3) cut_sp
    exact (tok_sg (c := 91) (by decide +kernel) t4).1
  | .ch k [], f, ⟨h2, _, _⟩ => by simp at h2
  | .ch k (t :: ts), f, ⟨_, _, ct⟩ => by
    have ho : TokT (wrOut w k (t :: ts)) (wdOut d k (t :: ts)) := tok_out k ts _ _ (fun u hu => h u _ (ct u (List.mem_cons_of_mem _ hu))) (h t _ (ct t List.mem_cons_self))
    by_cases hk : k.rank < f
    · rw [show wrNd w (.ch k (t :: ts)) f = "(" ++ wrOut w k (t :: ts) ++ ")" from if_pos hk, show wdNd d (.ch k (t :: ts)) f = ("(" : Str) :: wdOut d k (t :: ts) ++ [(")" : Str)] from if_pos hk]
      intro r ws hT hr
      simp only [cps_app, List.append_assoc]
      have t1 := tok_sg (c := 41) (by decide +kernel) hT
      have t2 := ho _ _ t1.1 t1.2
      have t3 := (tok_sg (c := 40) (by decide +kernel) t2).1
      exact t3
    · rw [show wrNd w (.ch k (t :: ts)) f = wrOut w k (t :: ts) from if_neg hk, show wdNd d (.ch k (t :: ts)) f = wdOut d k (t :: ts) from if_neg hk]
      exact ho
/-! by storeys -/
def wr : (n : Nat) → TrD n → Int → Str
  | 0 => wrNd fun (e : Empty) _ => e.elim
  | n + 1 => wrNd (wr n)
def wd : (n : Nat) → TrD n → Int → List Str
  | 0 => wdNd fun (e : Empty) _ => e.elim
  | n + 1 => wdNd (wd n)
theorem tok_tree {ys : List Str} (hy : ∀ x ∈ ys, nameB x = true) : ∀ (n : Nat) (t : TrD n) (f : Int), TreeOk n ys t → TokT (wr n t f) (wd n t f)
  | 0, t, f, h => tok_Nd hy (fun e => e.elim) t f h
  | n + 1, t, f, h => tok_Nd hy (tok_tree hy n) t f h
theorem toks_of {w : Str} {d : List Str} (h : TokT w d) : Toks w.cps.toList d := by
  have := h [] [] .nil fun c hc => by cases hc
  simpa using this
/-! lengths -/
theorem out_len {α : Type} {w : α → Int → Str} (k : Kd) (M : Nat) : ∀ (ts : List α) (o : Str), (∀ t ∈ ts, (w t (k.rank + 1)).length ≤ M) → (ts.foldl (fun o u => o ++ k.sign ++ w u (k.rank + 1)) o).length ≤ o.length + ts.length * (3 + M)
  | [], o, _ => by simp
  | t :: ts, o, h => by
    rw [List.foldl_cons]
    have := out_len k M ts (o ++ k.sign ++ w t (k.rank + 1)) fun u hu => h u (List.mem_cons_of_mem _ hu)
    have h1 := h t List.mem_cons_self
    have ls : k.sign.length = 3 := by cases k <;> rfl
    rw [len_app, len_app] at this
    rw [List.length_cons, Nat.succ_mul]
    omega
theorem wr_len {α : Type} {C : List Str → α → Prop} {ys : List Str} {w : α → Int → Str} {M : Nat} (hy : ∀ x ∈ ys, x.length ≤ 6) (h : ∀ t f, C ys t → (w t f).length ≤ M) : ∀ (t : Nd α) (f : Int), NdOk C ys t → (wrNd w t f).length ≤ 3 * M + 12
  | .num n, f, ⟨h0, h1⟩ => by
    have := small_str n h0 h1
    show ((toString n : String) : Str).length ≤ _
    omega
  | .nm x, f, hx => by
    have := hy x hx
    show x.length ≤ _
    omega
  | .gate x b t, f, ⟨hx, b0, b1, ct⟩ => by
    have := hy x hx
    have := small_str b (by omega) b1
    have := h t 4 ct
    have l1 : ("[" : Str).length = 1 := rfl
    have l2 : (" " : Str).length = 1 := rfl
    have l3 : ("] " : Str).length = 2 := rfl
    show ("[" ++ x ++ " " ++ ((toString b : String) : Str) ++ "] " ++ w t 4 : Str).length ≤ _
    simp only [len_app]
    omega
  | .ch k [], f, ⟨h2, _, _⟩ => by simp at h2
  | .ch k (t :: ts), f, ⟨_, h3, ct⟩ => by
    have h1 := out_len k M ts (w t (k.rank + 1)) fun u hu => h u _ (ct u (List.mem_cons_of_mem _ hu))
    have h0 := h t (k.rank + 1) (ct t List.mem_cons_self)
    rw [List.length_cons] at h3
    have h4 : ts.length * (3 + M) ≤ 2 * (3 + M) := Nat.mul_le_mul_right _ (by omega)
    have l1 : ("(" : Str).length = 1 := rfl
    have l2 : (")" : Str).length = 1 := rfl
    have e : (wrOut w k (t :: ts)).length ≤ (w t (k.rank + 1)).length + ts.length * (3 + M) := h1
    by_cases hk : k.rank < f
    · rw [show wrNd w (.ch k (t :: ts)) f = "(" ++ wrOut w k (t :: ts) ++ ")" from if_pos hk, len_app, len_app]
      omega
    · rw [show wrNd w (.ch k (t :: ts)) f = wrOut w k (t :: ts) from if_neg hk]
      omega
theorem wd_len {α : Type} {C : List Str → α → Prop} {ys : List Str} {d : α → Int → List Str} {M : Nat} (h : ∀ t f, C ys t → (d t f).length ≤ M) : ∀ (t : Nd α) (f : Int), NdOk C ys t → (wdNd d t f).length ≤ 3 * M + 4
  | .num n, f, _ => by simp [wdNd]
  | .nm x, f, _ => by simp [wdNd]
  | .gate x b t, f, ⟨_, _, _, ct⟩ => by
    have := h t 4 ct
    simp only [wdNd, List.length_cons]
    omega
  | .ch k [], f, ⟨h2, _, _⟩ => by simp at h2
  | .ch k (t :: ts), f, ⟨_, h3, ct⟩ => by
    have h1 : ∀ l : List α, (∀ u ∈ l, (d u (k.rank + 1)).length ≤ M) → (l.flatMap fun u => k.wd :: d u (k.rank + 1)).length ≤ l.length * (1 + M) := by
      intro l
      induction l with
      | nil => intro _; simp
      | cons u l ih =>
        intro hl
        have := ih fun v hv => hl v (List.mem_cons_of_mem _ hv)
        have := hl u List.mem_cons_self
        rw [List.flatMap_cons, List.length_append, List.length_cons, List.length_cons, Nat.succ_mul]
        omega
    have h1 := h1 ts fun u hu => h u _ (ct u (List.mem_cons_of_mem _ hu))
    have h0 := h t (k.rank + 1) (ct t List.mem_cons_self)
    rw [List.length_cons] at h3
    have h4 : ts.length * (1 + M) ≤ 2 * (1 + M) := Nat.mul_le_mul_right _ (by omega)
    by_cases hk : k.rank < f
    · rw [show wdNd d (.ch k (t :: ts)) f = ("(" : Str) :: wdOut d k (t :: ts) ++ [(")" : Str)] from if_pos hk]
      simp only [wdOut, List.length_cons, List.length_append, List.length_nil]
      omega
    · rw [show wdNd d (.ch k (t :: ts)) f = wdOut d k (t :: ts) from if_neg hk]
      simp only [wdOut, List.length_append]
      omega
/-! ### C.m(..), m a plain def of the class at C -/
open ClX (CRead CVal)
def tCF (C : Addr) (sp : Sp) (ta : TE) (t : TA) : TE := fun σ H Q => ta σ H fun x H1 => x = .ref C ∧ t σ H1 fun vs H2 => sp vs H2 Q E0
section
variable {X : Cx} {k : Nat} {C f : Addr} {mc : Value} {ps : List Str} {sp : Sp} {m : Str} {pos apos : Pos} {e o : Expr} {es : List Expr} {ta : TE} {t : TA}
theorem an_cfun {pl : Sem Bool} (r : CRead X.K C mc) (c : CVal X.K C mc m (.ref f) (.ref f)) (F : Ok X.prog X.w X.K X.mg X.base k f ps sp) (hr : Room k X.A) (he : PE X o ta) (ha : PA X (e :: es) t)
    (hst : starEach (e :: es) X.env = (false, eval e X.env) :: starEach es X.env := by rfl) (hpl : (backTo pos (starEach es X.env)).any (·.1) = false := by rfl)
    (ht : eval (.Call (.Attribute o m apos) (e :: es) [] pos) X.env = (do
      let ov ← eval o X.env
      standAt apos.atName
      let (f, first) ← holding [ov] (getMethod ov m pl)
      callWith pos f first (backTo pos (starEach (e :: es) X.env)) (backToKw pos (keywordEach [] X.env))) := by rfl) : PE X (.Call (.Attribute o m apos) (e :: es) [] pos) (tCF C sp ta t) := by
  obtain ⟨fd, F, b, kp, _⟩ := F
  refine ⟨fun pins s σ H Q I h => ?_⟩
  refine PySem.W.methodCall_KW (pl := pl) (thn (he.run pins s σ H _ I h) fun u s1 ⟨x, H1, I1, rx, ex, q⟩ => ?_) ht
  subst ex
  obtain rfl : u = Value.ref C := rx
  refine PySem.W.method_cls I1.kIn r.ga (ClX.getcval_ok I1 r c fun s2 I2 => ?_)
  refine PySem.W.callWith_K (first := []) (h₀ := X.base) I.ok.mod.kin kp (thn (ha.run pos pins s2 σ H1 _ I2 q) fun us s3 ⟨vs, H2, I3, rv, q2⟩ => ⟨I3.kIn, ?_⟩) hst hpl
  exact run_fn F hr b .nil passL I3 rv (by rw [List.append_nil]; exact q2)
theorem an_gcls {x : Str} {p : Pos} (hm : X.mg x = some (.ref C)) (hg : Gl X x := by rfl) (hd : (x == ("__debug__" : Str)) = false := by decide) : PE X (.Name x p) (tC (.ref C)) := pe_glob hg hm rfl hd
end
theorem e_cf {C : Addr} {sp : Sp} {ta : TE} {t : TA} {σ : St} {H : Hp} {Q : VK} (h : ta σ H fun x H1 => x = .ref C ∧ t σ H1 fun vs H2 => sp vs H2 Q E0) : tCF C sp ta t σ H Q := h
/-! ### o.m(..), whatever the class of o: VM C f sp: an instance of the class at C is served by the def at f, which promises sp -/
def kVM (VM : Addr → Addr → Sp → Prop) (m : Str) (x : V) (H : Hp) (P : Sp → Prop) : Prop := ∃ a C dx fs f sp, x = .ref a ∧ H a = some (.ins C dx fs) ∧ fs.lookup m = none ∧ VM C f sp ∧ P sp
def tVM (VM : Addr → Addr → Sp → Prop) (m : Str) (ta : TE) (t : TA) : TE := fun σ H Q => ta σ H fun x H1 => kVM VM m x H1 fun sp => t σ H1 fun vs H2 => sp (x :: vs) H2 Q E0
section
variable {X : Cx} {k : Nat} {VM : Addr → Addr → Sp → Prop} {m : Str} {pos apos : Pos} {e o : Expr} {es : List Expr} {ta : TE} {t : TA}
theorem an_vm {pl : Sem Bool} (hv : ∀ C f sp, VM C f sp → Cls X.K C ∧ Meth X.K C m f ∧ ∃ ps, Ok X.prog X.w X.K X.mg X.base k f ps sp) (hr : Room k X.A) (he : PE X o ta) (ha : PA X (e :: es) t)
    (hst : starEach (e :: es) X.env = (false, eval e X.env) :: starEach es X.env := by rfl) (hpl : (backTo pos (starEach es X.env)).any (·.1) = false := by rfl)
    (ht : eval (.Call (.Attribute o m apos) (e :: es) [] pos) X.env = (do
      let ov ← eval o X.env
      standAt apos.atName
      let (f, first) ← holding [ov] (getMethod ov m pl)
      callWith pos f first (backTo pos (starEach (e :: es) X.env)) (backToKw pos (keywordEach [] X.env))) := by rfl) : PE X (.Call (.Attribute o m apos) (e :: es) [] pos) (tVM VM m ta t) := by
  refine ⟨fun pins s σ H Q I h => ?_⟩
  refine PySem.W.methodCall_KW (pl := pl) (thn (he.run pins s σ H _ I h) fun u s1 ⟨x, H1, I1, rx, a, C, dx, fs, f, sp, ex, ea, l, vm, q⟩ => ?_) ht
  subst ex
  obtain rfl : u = Value.ref a := rx
  obtain ⟨c, hm, ps, fd, F, b, kp, _⟩ := hv C f sp vm
  refine getmeth_ok I1 ea c hm l ?_
  refine PySem.W.callWith_K (first := [.ref a]) (h₀ := X.base) I.ok.mod.kin hm.kp (thn (ha.run pos pins s1 σ H1 _ I1 q) fun us s2 ⟨vs, H2, I2, r, q2⟩ => ⟨I2.kIn, ?_⟩) hst hpl
  exact run_fn (us := .ref a :: us) (vs := .ref a :: vs) F hr b .nil passL I2 (.cons rfl r) (by rw [List.append_nil]; exact q2)
theorem an_vm0 {pl : Sem Bool} (hv : ∀ C f sp, VM C f sp → Cls X.K C ∧ Meth X.K C m f ∧ ∃ ps, Ok X.prog X.w X.K X.mg X.base k f ps sp) (hr : Room k X.A) (he : PE X o ta)
    (ht : eval (.Call (.Attribute o m apos) [] [] pos) X.env = (do
      let ov ← eval o X.env
      standAt apos.atName
      let (f, first) ← holding [ov] (getMethod ov m pl)
      callWith pos f first (backTo pos (starEach [] X.env)) (backToKw pos (keywordEach [] X.env))) := by rfl) : PE X (.Call (.Attribute o m apos) [] [] pos) (tVM VM m ta tNil) := by
  refine ⟨fun pins s σ H Q I h => ?_⟩
  refine PySem.W.methodCall_KW (pl := pl) (thn (he.run pins s σ H _ I h) fun u s1 ⟨x, H1, I1, rx, a, C, dx, fs, f, sp, ex, ea, l, vm, q⟩ => ?_) ht
  subst ex
  obtain rfl : u = Value.ref a := rx
  obtain ⟨c, hm, ps, fd, F, b, kp, _⟩ := hv C f sp vm
  refine getmeth_ok I1 ea c hm l ?_
  exact PySem.W.callWith_K0 (first := [.ref a]) I1.kIn hm.kp (run_fn (us := [.ref a]) (vs := [.ref a]) F hr b .nil passL I1 (.cons rfl .nil) (by exact q))
end
section
variable {σ : St} {H : Hp} {Q : VK} {VM : Addr → Addr → Sp → Prop} {m : Str} {ta : TE} {t : TA}
theorem e_vm (h : ta σ H fun x H1 => kVM VM m x H1 fun sp => t σ H1 fun vs H2 => sp (x :: vs) H2 Q E0) : tVM VM m ta t σ H Q := h
theorem k_vm {a C dx f : Addr} {ns : List Str} {vs : List V} {sp : Sp} {P : Sp → Prop} (h : H a = some (ob C ns dx vs)) (l : posOf ns m = none) (v : VM C f sp) (q : P sp) : kVM VM m (.ref a) H P := ⟨a, C, dx, _, f, sp, rfl, h, lookup_none l, v, q⟩
end
/-- a def that is not come to -/
def spNev : Sp := fun _ _ _ _ => False
theorem ok_nev {P : Program} {w : World} {K : PySem.W.Frag} {mg : Str → Option Value} {base : Heap} {k : Nat} {f : Addr} {ps N : List Str} {x qual : Str} {st : Stmt} (D : Def K x qual st f) (S : FnScope N ps (defScope st))
    (hb : ∀ (kV doc pm : Value) (an : Option Addr) (cdv ct : Value) (us : List Value), us.length = ps.length → bindArgs (PySem.W.fnOf x qual (defArgs st) (defBody st) (defScope st) .none kV doc pm an cdv ct) ⟨us, []⟩ = pure (ps.zip us)) : Ok P w K mg base (k + 1) f ps spNev :=
  ok0 D S hb (fun _ _ _ _ h => h.elim) fun _ _ _ _ _ _ _ _ _ h => h.elim
/-! ### the reader: its words, its place -/
abbrev ns_Reader : List Str := ["words", "at", "deep"]
def RdR (K : PySem.W.Frag) (H : Hp) (rd : Addr) (W : List Str) (i : Nat) (dp : Nat) : Prop := ∃ dx wl, H rd = some (ob (ga K "Reader") ns_Reader dx [.ref wl, .int (i : Int), .int (dp : Int)]) ∧ H wl = some (.lst (W.map V.str)) ∧ W.length ≤ 40
theorem RdR.same {K : PySem.W.Frag} {H H' : Hp} {rd : Addr} {W : List Str} {i dp : Nat} (r : RdR K H rd W i dp) (s : Same H H') : RdR K H' rd W i dp := let ⟨dx, wl, a, b, c⟩ := r; ⟨dx, wl, s _ _ a, s _ _ b, c⟩
def sp_Reader_init (K : PySem.W.Frag) : Sp := fun vs H Q _ => ∃ (rd dx wl : Addr) (W : List Str), vs = [.ref rd, .ref wl] ∧ H rd = some (ob (ga K "Reader") [] dx []) ∧ H wl = some (.lst (W.map V.str)) ∧ W.length ≤ 40 ∧ ∀ H', SameB [rd] H H' → RdR K H' rd W 0 0 → Q .non H'
theorem ln_Reader___init__ {K : PySem.W.Frag} {vs : List V} {H : Hp} {Q : VK} {E : XK} (h : sp_Reader_init K vs H Q E) : vs.length = 2 := by
  obtain ⟨_, _, _, _, rfl, _⟩ := h
  rfl
abbrev n_Reader___init__ : List Str := ["self", "words"]
def t_Reader___init__ (K : PySem.W.Frag) (W : WX) : TS :=
  tSeq (sNw (ga K "Reader") [] "words" (tVar 0) (tVar 1))
  (tSeq (sNw (ga K "Reader") ["words"] "at" (tVar 0) (tC (.int 0)))
  (sNw (ga K "Reader") ["words", "at"] "deep" (tVar 0) (tC (.int 0))))
theorem pure_Reader___init__ {K : PySem.W.Frag} {vs : List V} {H : Hp} {Q : VK} {E : XK} {W : WX} (h : sp_Reader_init K vs H Q E) : t_Reader___init__ K W { nx := fun _ H' => Q .non H', rt := Q } (start n_Reader___init__ vs) H := by
  obtain ⟨rd, dx, wl, ws, rfl, hh, hw, hl, k⟩ := h
  show t_Reader___init__ K W _ [some (.ref rd), some (.ref wl)] H
  unfold t_Reader___init__
  walk_at "go"
  refine k_nwF hh rfl fun H1 s1 h1 => ?_
  walk_at "go"
  refine k_nwF h1 rfl fun H2 s2 h2 => ?_
  walk_at "go"
  refine k_nwF h2 rfl fun H3 s3 h3 => ?_
  walk_at "go"
  have s := s1.trans (s2.trans s3)
  exact k _ s ⟨dx, wl, h3, s _ _ (by
    have : wl ≠ rd := ne_of hw hh (by intro z; cases z)
    simpa using this) hw, hl⟩
def sp_here (K : PySem.W.Frag) : Sp := fun vs H Q _ => ∃ (rd : Addr) (W : List Str) (i dp : Nat), vs = [.ref rd] ∧ RdR K H rd W i dp ∧ Q (.str (W.getD i "")) H
theorem ln_Reader_here {K : PySem.W.Frag} {vs : List V} {H : Hp} {Q : VK} {E : XK} (h : sp_here K vs H Q E) : vs.length = 1 := by
  obtain ⟨_, _, _, _, rfl, _⟩ := h
  rfl
abbrev n_Reader_here : List Str := ["self"]
def t_Reader_here (K : PySem.W.Frag) (W : WX) : TS :=
  tSeq (tIfS (tTest (tOp rLtI (tFi (ga K "Reader") ns_Reader 1 (tVar 0)) (tCB (rLenL K) (tCons (tFi (ga K "Reader") ns_Reader 0 (tVar 0)) tNil)))) (tRet (tOp (rIxL K) (tFi (ga K "Reader") ns_Reader 0 (tVar 0)) (tFi (ga K "Reader") ns_Reader 1 (tVar 0)))) tNext)
  (tRet (tC (.str "")))
theorem pure_Reader_here {K : PySem.W.Frag} {vs : List V} {H : Hp} {Q : VK} {E : XK} {W : WX} (h : sp_here K vs H Q E) : t_Reader_here K W { nx := fun _ H' => Q .non H', rt := Q } (start n_Reader_here vs) H := by
  obtain ⟨rd, ws, i, dp, rfl, ⟨dx, wl, h1, h2, h3⟩, k⟩ := h
  show t_Reader_here K W _ [some (.ref rd)] H
  unfold t_Reader_here
  walk_at "go"
  refine k_fi h1 rfl ?_
  walk_at "go"
  refine k_fi h1 rfl ?_
  walk_at "go"
  refine e_lenL (SqL.of h2) ?_
  rw [List.length_map]
  walk_at "go"
  refine ifd (fun hlt => ?_) (fun hge => ?_)
  · have hil : i < ws.length := by omega
    rw [List.getD_eq_getElem?_getD, List.getElem?_eq_getElem hil] at k
    walk_at "go"
    refine k_fi h1 rfl ?_
    walk_at "go"
    refine k_fi h1 rfl ?_
    exact e_ixL (SqL.of h2) (atI_nat (by rw [List.getElem?_map, List.getElem?_eq_getElem hil]; rfl)) k
  · rw [List.getD_eq_getElem?_getD, List.getElem?_eq_none (by omega)] at k
    walk_at "go"
    exact k
theorem RdR.move {K : PySem.W.Frag} {H : Hp} {rd dx wl : Addr} {W : List Str} {i dp : Int} {i' dp' : Nat} (h : H wl = some (.lst (W.map V.str))) (hl : W.length ≤ 40) (ho : H rd = some (ob (ga K "Reader") ns_Reader dx [.ref wl, .int i, .int dp])) :
    RdR K (upd H rd (ob (ga K "Reader") ns_Reader dx [.ref wl, .int (i' : Int), .int (dp' : Int)])) rd W i' dp' := ⟨dx, wl, upd_same, upd_o h (ne_of h ho (by intro z; cases z)), hl⟩
def sp_step (K : PySem.W.Frag) : Sp := fun vs H Q _ => ∃ (rd : Addr) (W : List Str) (i dp : Nat), vs = [.ref rd] ∧ RdR K H rd W i dp ∧ ∀ H', SameB [rd] H H' → RdR K H' rd W (i + 1) dp → Q (.str (W.getD i "")) H'
theorem ln_Reader_step {K : PySem.W.Frag} {vs : List V} {H : Hp} {Q : VK} {E : XK} (h : sp_step K vs H Q E) : vs.length = 1 := by
  obtain ⟨_, _, _, _, rfl, _⟩ := h
  rfl
abbrev n_Reader_step : List Str := ["self", "word"]
def t_Reader_step (K : PySem.W.Frag) (W : WX) : TS :=
  tSeq (tAsg (tMC (ga K "Reader") "here" (sp_here K) (tVar 0) tNil) (gName 1))
  (tSeq (sFi (ga K "Reader") ns_Reader 1 (tVar 0) (tOp rAddI (tFi (ga K "Reader") ns_Reader 1 (tVar 0)) (tC (.int 1))))
  (tRet (tVar 1)))
theorem pure_Reader_step {K : PySem.W.Frag} {vs : List V} {H : Hp} {Q : VK} {E : XK} {W : WX} (h : sp_step K vs H Q E) : t_Reader_step K W { nx := fun _ H' => Q .non H', rt := Q } (start n_Reader_step vs) H := by
  obtain ⟨rd, ws, i, dp, rfl, ⟨dx, wl, h1, h2, h3⟩, k⟩ := h
  show t_Reader_step K W _ [some (.ref rd), none] H
  unfold t_Reader_step
  walk_at "go"
  refine k_mc h1 rfl ?_
  walk_at "go"
  refine ⟨rd, ws, i, dp, rfl, ⟨dx, wl, h1, h2, h3⟩, ?_⟩
  walk_at "go"
  refine k_fi h1 rfl ?_
  walk_at "go"
  refine k_sf h1 (by simp) ?_
  walk_at "go"
  have e : (i : Int) + 1 = ((i + 1 : Nat) : Int) := by omega
  rw [e]
  exact k _ (SameB.refl.put (by simp)) (RdR.move h2 h3 h1)
def sp_must (K : PySem.W.Frag) : Sp := fun vs H Q _ => ∃ (rd : Addr) (W : List Str) (i dp : Nat), vs = [.ref rd, .str (W.getD i "")] ∧ RdR K H rd W i dp ∧ ∀ H', SameB [rd] H H' → RdR K H' rd W (i + 1) dp → Q .non H'
theorem ln_Reader_must {K : PySem.W.Frag} {vs : List V} {H : Hp} {Q : VK} {E : XK} (h : sp_must K vs H Q E) : vs.length = 2 := by
  obtain ⟨_, _, _, _, rfl, _⟩ := h
  rfl
abbrev n_Reader_must : List Str := ["self", "word"]
def t_Reader_must (K : PySem.W.Frag) (W : WX) : TS :=
  tIfS (tTest (tOp rNe (tMC (ga K "Reader") "step" (sp_step K) (tVar 0) tNil) (tVar 1))) tNever tNext
theorem pure_Reader_must {K : PySem.W.Frag} {vs : List V} {H : Hp} {Q : VK} {E : XK} {W : WX} (h : sp_must K vs H Q E) : t_Reader_must K W { nx := fun _ H' => Q .non H', rt := Q } (start n_Reader_must vs) H := by
  obtain ⟨rd, ws, i, dp, rfl, R, k⟩ := h
  obtain ⟨dx, wl, h1, h2, h3⟩ := id R
  show t_Reader_must K W _ [some (.ref rd), some (.str (ws.getD i ""))] H
  unfold t_Reader_must
  walk_at "go"
  refine k_mc h1 rfl ?_
  walk_at "go"
  refine ⟨rd, ws, i, dp, rfl, R, fun H' s R' => ?_⟩
  walk_at "go"
  refine ifn (fun h => absurd rfl h) (fun _ => ?_)
  walk_at "go"
  exact k H' s R'
def sp_deeper (K : PySem.W.Frag) : Sp := fun vs H Q _ => ∃ (rd : Addr) (W : List Str) (i dp : Nat), vs = [.ref rd] ∧ RdR K H rd W i dp ∧ dp + 1 ≤ 2 ∧ ∀ H', SameB [rd] H H' → RdR K H' rd W i (dp + 1) → Q .non H'
theorem ln_Reader_deeper {K : PySem.W.Frag} {vs : List V} {H : Hp} {Q : VK} {E : XK} (h : sp_deeper K vs H Q E) : vs.length = 1 := by
  obtain ⟨_, _, _, _, rfl, _⟩ := h
  rfl
abbrev n_Reader_deeper : List Str := ["self"]
def t_Reader_deeper (K : PySem.W.Frag) (W : WX) : TS :=
  tSeq (sFi (ga K "Reader") ns_Reader 2 (tVar 0) (tOp rAddI (tFi (ga K "Reader") ns_Reader 2 (tVar 0)) (tC (.int 1))))
  (tIfS (tTest (tOp rGtI (tFi (ga K "Reader") ns_Reader 2 (tVar 0)) (tC (.int 2)))) tNever tNext)
theorem pure_Reader_deeper {K : PySem.W.Frag} {vs : List V} {H : Hp} {Q : VK} {E : XK} {W : WX} (h : sp_deeper K vs H Q E) : t_Reader_deeper K W { nx := fun _ H' => Q .non H', rt := Q } (start n_Reader_deeper vs) H := by
  obtain ⟨rd, ws, i, dp, rfl, ⟨dx, wl, h1, h2, h3⟩, hd, k⟩ := h
  show t_Reader_deeper K W _ [some (.ref rd)] H
  unfold t_Reader_deeper
  walk_at "go"
  refine k_fi h1 rfl ?_
  walk_at "go"
  refine k_sf h1 (by simp) ?_
  have e : (dp : Int) + 1 = ((dp + 1 : Nat) : Int) := by omega
  rw [e]
  have R := RdR.move (i' := i) (dp' := dp + 1) h2 h3 h1
  have s : SameB [rd] H (upd H rd (ob (ga K "Reader") ns_Reader dx [.ref wl, .int (i : Int), .int ((dp + 1 : Nat) : Int)])) := SameB.refl.put (by simp)
  show tIfS _ _ _ _ _ (upd H rd (ob (ga K "Reader") ns_Reader dx [.ref wl, .int (i : Int), .int ((dp + 1 : Nat) : Int)]))
  generalize upd H rd (ob (ga K "Reader") ns_Reader dx [.ref wl, .int (i : Int), .int ((dp + 1 : Nat) : Int)]) = H1 at R s ⊢
  obtain ⟨dx1, wl1, g1, g2, g3⟩ := id R
  walk_at "go"
  refine k_fi g1 rfl ?_
  walk_at "go"
  refine ifd (fun h => by omega) (fun _ => ?_)
  walk_at "go"
  exact k _ s R
local macro_rules | `(tactic| walk_at "g1") => `(tactic| apply_rules (transparency := .reducible) (maxDepth := 1000000) -symm -exfalso only [e_lc, e_sl3, e_mc, e_mk])
local macro_rules | `(tactic| walk_at "g1") => `(tactic| apply_rules (transparency := .reducible) (maxDepth := 1000000) -symm -exfalso only [e_yes, e_inT, e_ninT, e_notN, e_isN, st_sub])
open He (ga ma)
local macro_rules | `(tactic| walk_at "g1") => `(tactic| apply_rules (transparency := .reducible) (maxDepth := 1000000) -symm -exfalso only [e_cf, e_vm, e_dct])
/-! ### the pieces are made -/
theorem IsC.sub {K : PySem.W.Frag} {C : Addr} {ns ms : List Str} (t : IsC K C ns) (h : ∀ f ∈ ms, f ∈ ns) : IsC K C ms := ⟨t.cl, fun f hf => t.no f (h f hf)⟩
def sp_Piece_init' (C : Addr) : Sp := fun vs H Q _ => ∃ (a dx : Addr) (r : Int), vs = [.ref a, .int r] ∧ H a = some (ob C [] dx []) ∧ ∀ H', SameB [a] H H' → H' a = some (ob C ["rank"] dx [.int r]) → Q .non H'
def sp_Piece_init (K : PySem.W.Frag) : Sp := fun vs H Q E => ∃ C, IsC K C ["rank"] ∧ sp_Piece_init' C vs H Q E
theorem ln_Piece___init__ {K : PySem.W.Frag} {vs : List V} {H : Hp} {Q : VK} {E : XK} (h : sp_Piece_init K vs H Q E) : vs.length = 2 := by
  obtain ⟨_, _, _, _, _, rfl, _⟩ := h
  rfl
abbrev n_Piece___init__ : List Str := ["self", "rank"]
def t_Piece___init__ (K : PySem.W.Frag) (W : WX) (C : Addr) : TS :=
  sNw C [] "rank" (tVar 0) (tVar 1)
theorem pure_Piece___init__ {K : PySem.W.Frag} {C : Addr} {vs : List V} {H : Hp} {Q : VK} {E : XK} {W : WX} (h : sp_Piece_init' C vs H Q E) : t_Piece___init__ K W C { nx := fun _ H' => Q .non H', rt := Q } (start n_Piece___init__ vs) H := by
  obtain ⟨a, dx, r, rfl, hh, k⟩ := h
  show t_Piece___init__ K W C _ [some (.ref a), some (.int r)] H
  unfold t_Piece___init__
  walk_at "go"
  refine k_nwF hh rfl fun H1 s1 h1 => ?_
  walk_at "go"
  exact k _ s1 h1
def sp_Chain_init' (K : PySem.W.Frag) (C : Addr) : Sp := fun vs H Q _ => ∃ (a dx : Addr) (r : Int) (sg v : V), IsC K C ["rank"] ∧ vs = [.ref a, .int r, sg, v] ∧ H a = some (ob C [] dx []) ∧ ∀ H', SameB [a] H H' → H' a = some (ob C ["rank", "sign", "pieces"] dx [.int r, sg, v]) → Q .non H'
def sp_Chain_init (K : PySem.W.Frag) : Sp := fun vs H Q E => ∃ C, IsC K C ["sign", "pieces"] ∧ sp_Chain_init' K C vs H Q E
theorem ln_Chain___init__ {K : PySem.W.Frag} {vs : List V} {H : Hp} {Q : VK} {E : XK} (h : sp_Chain_init K vs H Q E) : vs.length = 4 := by
  obtain ⟨_, _, _, _, _, _, _, _, rfl, _⟩ := h
  rfl
abbrev n_Chain___init__ : List Str := ["self", "rank", "sign", "pieces"]
def t_Chain___init__ (K : PySem.W.Frag) (W : WX) (C : Addr) : TS :=
  tSeq (tDrop (tCF (ga K "Piece") (sp_Piece_init K) (tC (.ref (ga K "Piece"))) (tCons (tVar 0) (tCons (tVar 1) tNil))))
  (tSeq (sNw C ["rank"] "sign" (tVar 0) (tVar 2))
  (sNw C ["rank", "sign"] "pieces" (tVar 0) (tVar 3)))
theorem pure_Chain___init__ {K : PySem.W.Frag} {C : Addr} {vs : List V} {H : Hp} {Q : VK} {E : XK} {W : WX} (h : sp_Chain_init' K C vs H Q E) : t_Chain___init__ K W C { nx := fun _ H' => Q .non H', rt := Q } (start n_Chain___init__ vs) H := by
  obtain ⟨a, dx, r, sg, v, tC, rfl, hh, k⟩ := h
  show t_Chain___init__ K W C _ [some (.ref a), some (.int r), some sg, some v] H
  unfold t_Chain___init__
  walk_at "go"
  refine ⟨rfl, ?_⟩
  walk_at "go"
  refine ⟨C, tC, a, dx, r, rfl, hh, fun H1 s1 h1 => ?_⟩
  walk_at "go"
  refine k_nwF h1 rfl fun H2 s2 h2 => ?_
  walk_at "go"
  refine k_nwF h2 rfl fun H3 s3 h3 => ?_
  walk_at "go"
  exact k _ (s1.trans (s2.trans s3)) h3
def sp_Number_init (K : PySem.W.Frag) : Sp := fun vs H Q _ => ∃ (a dx : Addr) (v : V), IsC K (ga K "Number") ["rank"] ∧ vs = [.ref a, v] ∧ H a = some (ob (ga K "Number") [] dx []) ∧ ∀ H', SameB [a] H H' → H' a = some (ob (ga K "Number") ["rank", "number"] dx [.int 4, v]) → Q .non H'
theorem ln_Number___init__ {K : PySem.W.Frag} {vs : List V} {H : Hp} {Q : VK} {E : XK} (h : sp_Number_init K vs H Q E) : vs.length = 2 := by
  obtain ⟨_, _, _, _, rfl, _⟩ := h
  rfl
abbrev n_Number___init__ : List Str := ["self", "number"]
def t_Number___init__ (K : PySem.W.Frag) (W : WX) : TS :=
  tSeq (tDrop (tCF (ga K "Piece") (sp_Piece_init K) (tC (.ref (ga K "Piece"))) (tCons (tVar 0) (tCons (tC (.int 4)) tNil))))
  (sNw (ga K "Number") ["rank"] "number" (tVar 0) (tVar 1))
theorem pure_Number___init__ {K : PySem.W.Frag} {vs : List V} {H : Hp} {Q : VK} {E : XK} {W : WX} (h : sp_Number_init K vs H Q E) : t_Number___init__ K W { nx := fun _ H' => Q .non H', rt := Q } (start n_Number___init__ vs) H := by
  obtain ⟨a, dx, v, tC, rfl, hh, k⟩ := h
  show t_Number___init__ K W _ [some (.ref a), some v] H
  unfold t_Number___init__
  walk_at "go"
  refine ⟨rfl, ?_⟩
  walk_at "go"
  refine ⟨_, tC, a, dx, 4, rfl, hh, fun H1 s1 h1 => ?_⟩
  walk_at "go"
  refine k_nwF h1 rfl fun H2 s2 h2 => ?_
  walk_at "go"
  exact k _ (s1.trans s2) h2
def sp_Name_init (K : PySem.W.Frag) : Sp := fun vs H Q _ => ∃ (a dx : Addr) (v : V), IsC K (ga K "Name") ["rank"] ∧ vs = [.ref a, v] ∧ H a = some (ob (ga K "Name") [] dx []) ∧ ∀ H', SameB [a] H H' → H' a = some (ob (ga K "Name") ["rank", "name"] dx [.int 4, v]) → Q .non H'
theorem ln_Name___init__ {K : PySem.W.Frag} {vs : List V} {H : Hp} {Q : VK} {E : XK} (h : sp_Name_init K vs H Q E) : vs.length = 2 := by
  obtain ⟨_, _, _, _, rfl, _⟩ := h
  rfl
abbrev n_Name___init__ : List Str := ["self", "name"]
def t_Name___init__ (K : PySem.W.Frag) (W : WX) : TS :=
  tSeq (tDrop (tCF (ga K "Piece") (sp_Piece_init K) (tC (.ref (ga K "Piece"))) (tCons (tVar 0) (tCons (tC (.int 4)) tNil))))
  (sNw (ga K "Name") ["rank"] "name" (tVar 0) (tVar 1))
theorem pure_Name___init__ {K : PySem.W.Frag} {vs : List V} {H : Hp} {Q : VK} {E : XK} {W : WX} (h : sp_Name_init K vs H Q E) : t_Name___init__ K W { nx := fun _ H' => Q .non H', rt := Q } (start n_Name___init__ vs) H := by
  obtain ⟨a, dx, v, tC, rfl, hh, k⟩ := h
  show t_Name___init__ K W _ [some (.ref a), some v] H
  unfold t_Name___init__
  walk_at "go"
  refine ⟨rfl, ?_⟩
  walk_at "go"
  refine ⟨_, tC, a, dx, 4, rfl, hh, fun H1 s1 h1 => ?_⟩
  walk_at "go"
  refine k_nwF h1 rfl fun H2 s2 h2 => ?_
  walk_at "go"
  exact k _ (s1.trans s2) h2
def sp_Gate_init (K : PySem.W.Frag) : Sp := fun vs H Q _ => ∃ (a dx : Addr) (x b v : V), IsC K (ga K "Gate") ["rank"] ∧ vs = [.ref a, x, b, v] ∧ H a = some (ob (ga K "Gate") [] dx []) ∧ ∀ H', SameB [a] H H' → H' a = some (ob (ga K "Gate") ["rank", "name", "bound", "inner"] dx [.int 4, x, b, v]) → Q .non H'
theorem ln_Gate___init__ {K : PySem.W.Frag} {vs : List V} {H : Hp} {Q : VK} {E : XK} (h : sp_Gate_init K vs H Q E) : vs.length = 4 := by
  obtain ⟨_, _, _, _, _, _, rfl, _⟩ := h
  rfl
abbrev n_Gate___init__ : List Str := ["self", "name", "bound", "inner"]
def t_Gate___init__ (K : PySem.W.Frag) (W : WX) : TS :=
  tSeq (tDrop (tCF (ga K "Piece") (sp_Piece_init K) (tC (.ref (ga K "Piece"))) (tCons (tVar 0) (tCons (tC (.int 4)) tNil))))
  (tSeq (sNw (ga K "Gate") ["rank"] "name" (tVar 0) (tVar 1))
  (tSeq (sNw (ga K "Gate") ["rank", "name"] "bound" (tVar 0) (tVar 2))
  (sNw (ga K "Gate") ["rank", "name", "bound"] "inner" (tVar 0) (tVar 3))))
theorem pure_Gate___init__ {K : PySem.W.Frag} {vs : List V} {H : Hp} {Q : VK} {E : XK} {W : WX} (h : sp_Gate_init K vs H Q E) : t_Gate___init__ K W { nx := fun _ H' => Q .non H', rt := Q } (start n_Gate___init__ vs) H := by
  obtain ⟨a, dx, x, b, v, tC, rfl, hh, k⟩ := h
  show t_Gate___init__ K W _ [some (.ref a), some x, some b, some v] H
  unfold t_Gate___init__
  walk_at "go"
  refine ⟨rfl, ?_⟩
  walk_at "go"
  refine ⟨_, tC, a, dx, 4, rfl, hh, fun H1 s1 h1 => ?_⟩
  walk_at "go"
  refine k_nwF h1 rfl fun H2 s2 h2 => ?_
  walk_at "go"
  refine k_nwF h2 rfl fun H3 s3 h3 => ?_
  walk_at "go"
  refine k_nwF h3 rfl fun H4 s4 h4 => ?_
  walk_at "go"
  exact k _ (s1.trans (s2.trans (s3.trans s4))) h4
def Kd.cls : Kd → Str
  | .sum => "Sum"
  | .least => "Least"
  | .most => "Most"
def sp_K_init (K : PySem.W.Frag) (kd : Kd) : Sp := fun vs H Q _ => ∃ (a dx : Addr) (v : V), IsC K (ga K kd.cls) ["rank", "sign", "pieces"] ∧ vs = [.ref a, v] ∧ H a = some (ob (ga K kd.cls) [] dx []) ∧ ∀ H', SameB [a] H H' → H' a = some (ob (ga K kd.cls) ["rank", "sign", "pieces"] dx [.int kd.rank, .str kd.wd, v]) → Q .non H'
abbrev sp_Sum_init (K : PySem.W.Frag) : Sp := sp_K_init K .sum
theorem ln_Sum___init__ {K : PySem.W.Frag} {vs : List V} {H : Hp} {Q : VK} {E : XK} (h : sp_Sum_init K vs H Q E) : vs.length = 2 := by
  obtain ⟨_, _, _, _, rfl, _⟩ := h
  rfl
abbrev n_Sum___init__ : List Str := ["self", "pieces"]
def t_Sum___init__ (K : PySem.W.Frag) (W : WX) : TS :=
  tDrop (tCF (ga K "Chain") (sp_Chain_init K) (tC (.ref (ga K "Chain"))) (tCons (tVar 0) (tCons (tC (.int 3)) (tCons (tC (.str "+")) (tCons (tVar 1) tNil)))))
theorem pure_Sum___init__ {K : PySem.W.Frag} {vs : List V} {H : Hp} {Q : VK} {E : XK} {W : WX} (h : sp_Sum_init K vs H Q E) : t_Sum___init__ K W { nx := fun _ H' => Q .non H', rt := Q } (start n_Sum___init__ vs) H := by
  obtain ⟨a, dx, v, tC, rfl, hh, k⟩ := h
  show t_Sum___init__ K W _ [some (.ref a), some v] H
  unfold t_Sum___init__
  walk_at "go"
  refine ⟨rfl, ?_⟩
  walk_at "go"
  refine ⟨_, tC.sub (by decide), a, dx, _, _, _, tC.sub (by decide), rfl, hh, fun H1 s1 h1 => ?_⟩
  walk_at "go"
  exact k _ s1 h1
abbrev sp_Least_init (K : PySem.W.Frag) : Sp := sp_K_init K .least
theorem ln_Least___init__ {K : PySem.W.Frag} {vs : List V} {H : Hp} {Q : VK} {E : XK} (h : sp_Least_init K vs H Q E) : vs.length = 2 := by
  obtain ⟨_, _, _, _, rfl, _⟩ := h
  rfl
abbrev n_Least___init__ : List Str := ["self", "pieces"]
def t_Least___init__ (K : PySem.W.Frag) (W : WX) : TS :=
  tDrop (tCF (ga K "Chain") (sp_Chain_init K) (tC (.ref (ga K "Chain"))) (tCons (tVar 0) (tCons (tC (.int 2)) (tCons (tC (.str "&")) (tCons (tVar 1) tNil)))))
theorem pure_Least___init__ {K : PySem.W.Frag} {vs : List V} {H : Hp} {Q : VK} {E : XK} {W : WX} (h : sp_Least_init K vs H Q E) : t_Least___init__ K W { nx := fun _ H' => Q .non H', rt := Q } (start n_Least___init__ vs) H := by
  obtain ⟨a, dx, v, tC, rfl, hh, k⟩ := h
  show t_Least___init__ K W _ [some (.ref a), some v] H
  unfold t_Least___init__
  walk_at "go"
  refine ⟨rfl, ?_⟩
  walk_at "go"
  refine ⟨_, tC.sub (by decide), a, dx, _, _, _, tC.sub (by decide), rfl, hh, fun H1 s1 h1 => ?_⟩
  walk_at "go"
  exact k _ s1 h1
abbrev sp_Most_init (K : PySem.W.Frag) : Sp := sp_K_init K .most
theorem ln_Most___init__ {K : PySem.W.Frag} {vs : List V} {H : Hp} {Q : VK} {E : XK} (h : sp_Most_init K vs H Q E) : vs.length = 2 := by
  obtain ⟨_, _, _, _, rfl, _⟩ := h
  rfl
abbrev n_Most___init__ : List Str := ["self", "pieces"]
def t_Most___init__ (K : PySem.W.Frag) (W : WX) : TS :=
  tDrop (tCF (ga K "Chain") (sp_Chain_init K) (tC (.ref (ga K "Chain"))) (tCons (tVar 0) (tCons (tC (.int 1)) (tCons (tC (.str "|")) (tCons (tVar 1) tNil)))))
theorem pure_Most___init__ {K : PySem.W.Frag} {vs : List V} {H : Hp} {Q : VK} {E : XK} {W : WX} (h : sp_Most_init K vs H Q E) : t_Most___init__ K W { nx := fun _ H' => Q .non H', rt := Q } (start n_Most___init__ vs) H := by
  obtain ⟨a, dx, v, tC, rfl, hh, k⟩ := h
  show t_Most___init__ K W _ [some (.ref a), some v] H
  unfold t_Most___init__
  walk_at "go"
  refine ⟨rfl, ?_⟩
  walk_at "go"
  refine ⟨_, tC.sub (by decide), a, dx, _, _, _, tC.sub (by decide), rfl, hh, fun H1 s1 h1 => ?_⟩
  walk_at "go"
  exact k _ s1 h1
/-! ### parsing -/
/-- what stays where A's objects stay -/
def Good2 {β : Type} (R : TRel β) : Prop := ∀ (H H' : Hp) (A A' : Addr → Prop) (t : β) (v : V), R H A t v → (∀ a o, A a → H a = some o → H' a = some o ∧ A' a) → R H' A' t v
/-- the reader at i reads t off: the words e t, then others, not begun by a stop -/
def sp_parse (K : PySem.W.Frag) {β : Type} (R : TRel β) (e : β → List Str) (C : β → Prop) (nd : β → Nat) (stop : Str → Prop) (args : List V) : Sp := fun vs H Q _ => ∃ (rd : Addr) (W : List Str) (i dp : Nat) (t : β) (rest : List Str), vs = .ref rd :: args ∧ RdR K H rd W i dp ∧ W.drop i = e t ++ rest ∧ C t ∧ dp + nd t ≤ 2 ∧
  (∀ w, rest.head? = some w → ¬ stop w) ∧ ∀ (v : V) (H' : Hp), SameB [rd] H H' → RdR K H' rd W (i + (e t).length) dp → R H' (fun l => H l = none) t v → Q v H'
theorem ln_parse {K : PySem.W.Frag} {β : Type} {R : TRel β} {e : β → List Str} {C : β → Prop} {nd : β → Nat} {stop : Str → Prop} {args : List V} (vs : List V) (H : Hp) (Q : VK) (E : XK) (h : sp_parse K R e C nd stop args vs H Q E) : vs.length = args.length + 1 := by
  obtain ⟨_, _, _, _, _, _, rfl, _⟩ := h
  rfl
def RL {β : Type} (R : TRel β) : TRel (List β) := fun H A ts v => ∃ l us, v = .ref l ∧ H l = some (.lst us) ∧ A l ∧ Paired (R H A) ts us
def eL {β : Type} (e : β → List Str) (sg : Str) : List β → List Str
  | [] => []
  | t :: ts => e t ++ ts.flatMap fun u => sg :: e u
def ndL {β : Type} (nd : β → Nat) (ts : List β) : Nat := ts.foldr (fun t n => max (nd t) n) 0
theorem ndL_le {β : Type} {nd : β → Nat} : ∀ {ts : List β} {t : β}, t ∈ ts → nd t ≤ ndL nd ts
  | u :: ts, t, h => by
    have e : ndL nd (u :: ts) = max (nd u) (ndL nd ts) := rfl
    rcases List.mem_cons.mp h with q | q
    · rw [q, e]
      exact Nat.le_max_left _ _
    · rw [e]
      exact Nat.le_trans (ndL_le q) (Nat.le_max_right _ _)
def CL {β : Type} (C : β → Prop) (ts : List β) : Prop := 1 ≤ ts.length ∧ ts.length ≤ 3 ∧ ∀ t ∈ ts, C t
theorem getD_drop {W ws : List Str} {i : Nat} {w : Str} (h : W.drop i = w :: ws) : W.getD i "" = w := by
  have : (W.drop i)[0]? = some w := by rw [h]; rfl
  rw [List.getElem?_drop] at this
  rw [List.getD_eq_getElem?_getD, show i = i + 0 from rfl, this]
  rfl
theorem drop_more {W x r : List Str} {i : Nat} (h : W.drop i = x ++ r) : W.drop (i + x.length) = r := by rw [← List.drop_drop, h, List.drop_left]
theorem getD_ne {W r : List Str} {i : Nat} {sg : Str} (h : W.drop i = r) (hr : ∀ w, r.head? = some w → w ≠ sg) (h0 : sg ≠ "") : W.getD i "" ≠ sg := by
  cases r with
  | nil =>
    rw [List.getD_eq_getElem?_getD, List.getElem?_eq_none (List.drop_eq_nil_iff.mp h)]
    exact fun e => h0 e.symm
  | cons w r =>
    rw [getD_drop h]
    exact hr w rfl
abbrev n_Reader_chained : List Str := ["self", "sign", "found"]
def t_Reader_chained (K : PySem.W.Frag) (W : WX) (S_Reader_inner_of : Sp) : TS :=
  tSeq (tAsg (tLst (tCons (tMC (ga K "Reader") "inner_of" S_Reader_inner_of (tVar 0) (tCons (tVar 1) tNil)) tNil)) (gName 2))
  (tSeq (tWhile (tTest (tOp rEq (tMC (ga K "Reader") "here" (sp_here K) (tVar 0) tNil) (tVar 1))) (tSeq (sFi (ga K "Reader") ns_Reader 1 (tVar 0) (tOp rAddI (tFi (ga K "Reader") ns_Reader 1 (tVar 0)) (tC (.int 1))))
  (tDrop (tBM K "list" rAppend (tVar 2) (tCons (tMC (ga K "Reader") "inner_of" S_Reader_inner_of (tVar 0) (tCons (tVar 1) tNil)) tNil)))))
  (tSeq (tIfS (tTest (tOp rGtI (tCB (rLenL K) (tCons (tVar 2) tNil)) (tC (.int 8)))) tNever tNext)
  (tRet (tVar 2))))
theorem pure_Reader_chained {K : PySem.W.Frag} {β : Type} {R : TRel β} {e : β → List Str} {C : β → Prop} {nd : β → Nat} {stop : Str → Prop} {sg : Str} (g : Good2 R) (hR : ∀ H A t v, R H A t v → ∃ a, v = .ref a) (h0 : sg ≠ "") (hs : ¬ stop sg) {vs : List V} {H : Hp} {Q : VK} {E : XK} {W : WX}
    (h : sp_parse K (RL R) (eL e sg) (CL C) (ndL nd) (fun w => stop w ∨ w = sg) [.str sg] vs H Q E) : t_Reader_chained K W (sp_parse K R e C nd stop [.str sg]) { nx := fun _ H' => Q .non H', rt := Q } (start n_Reader_chained vs) H := by
  obtain ⟨rd, ws, i, dp, ts, rest, rfl, Rd, hd, ⟨l1, l3, hC⟩, hdp, hstop, k⟩ := h
  cases ts with
  | nil => simp at l1
  | cons t0 ts =>
    obtain ⟨dx, wl, r1, _⟩ := id Rd
    show t_Reader_chained K W _ _ [some (.ref rd), some (.str sg), none] H
    unfold t_Reader_chained
    rw [List.length_cons] at l3
    have hd0 : ws.drop i = e t0 ++ ((ts.flatMap fun u => sg :: e u) ++ rest) := by rw [hd]; simp [eL]
    have stp : ∀ (us : List β) w, ((us.flatMap fun u => sg :: e u) ++ rest).head? = some w → ¬ stop w := fun us w hw => by
      cases us with
      | nil => exact fun z => hstop w hw (.inl z)
      | cons u us =>
        have : w = sg := by simpa using hw.symm
        rw [this]
        exact hs
    have nb : ∀ t ∈ t0 :: ts, dp + nd t ≤ 2 := fun t ht => by have := ndL_le (nd := nd) ht; omega
    walk_at "go"
    refine k_mc r1 rfl ?_
    walk_at "go"
    refine ⟨rd, ws, i, dp, t0, _, rfl, Rd, hd0, hC _ List.mem_cons_self, nb _ List.mem_cons_self, stp ts, fun v H1 s1 Rd1 Rv => ?_⟩
    walk_at "go"
    intro l hl
    walk_at "go"
    have rdl : rd ≠ l := by
      obtain ⟨_, _, q, _⟩ := id Rd1
      exact ne_of_none q hl
    have hlH : H l = none := s1.fresh (by simpa using rdl.symm) hl
    refine st_while (fun n σ H' => ∃ (j i' : Nat) (us : List V), σ = [some (.ref rd), some (.str sg), some (.ref l)] ∧ j ≤ ts.length ∧ SameB [rd] H H' ∧ RdR K H' rd ws i' dp ∧ ws.drop i' = ((ts.drop j).flatMap fun u => sg :: e u) ++ rest ∧ i' + ((ts.drop j).flatMap fun u => sg :: e u).length = i + (eL e sg (t0 :: ts)).length ∧
      H' l = some (.lst us) ∧ Paired (R H' fun a => H a = none ∧ a ≠ l) (t0 :: ts.take j) us ∧ n = ts.length - j) ts.length ⟨0, i + (e t0).length, [v], rfl, Nat.zero_le _, s1.same (same1 hl), Rd1.same (same1 hl), drop_more hd0, by simp [eL]; omega, upd_same, .cons (g _ _ _ _ _ _ Rv (fun a o ha ho => ⟨(same1 hl) _ _ ho, ha, ne_of_none ho hl⟩)) .nil, rfl⟩ ?_
    rintro n σ H2 ⟨j, i', us, rfl, hj, s2, Rd2, hd2, hi2, hus, P, rfl⟩
    obtain ⟨dx2, wl2, q1, _⟩ := id Rd2
    walk_at "go"
    refine k_mc q1 rfl ?_
    refine ⟨rd, ws, i', dp, rfl, Rd2, ?_⟩
    walk_at "go"
    have lus : us.length = 1 + j := by
      rw [← Paired.length P, List.length_cons, List.length_take]
      omega
    cases hdr : ts.drop j with
    | nil =>
      have hjl : ts.length ≤ j := List.drop_eq_nil_iff.mp hdr
      rw [hdr] at hd2 hi2
      simp only [List.flatMap_nil, List.nil_append, List.length_nil, Nat.add_zero] at hd2 hi2
      rw [decide_eq_false (getD_ne hd2 (fun w hw q => hstop w hw (.inr q)) h0)]
      refine iteF ?_
      walk_at "go"
      refine e_lenL (SqL.of hus) ?_
      walk_at "go"
      refine ifd (fun h => by omega) (fun _ => ?_)
      walk_at "go"
      rw [List.take_of_length_le hjl] at P
      refine k _ _ s2 (hi2 ▸ Rd2) ⟨l, us, rfl, hus, hlH, Paired.mapP P fun _ _ z => g _ _ _ _ _ _ z fun a o ha ho => ⟨ho, ha.1⟩⟩
    | cons u more =>
      have hjl : j < ts.length := by
        rcases Nat.lt_or_ge j ts.length with q | q
        · exact q
        · rw [List.drop_of_length_le q] at hdr
          cases hdr
      have hu : ts[j]? = some u := by
        have : (ts.drop j)[0]? = some u := by rw [hdr]; rfl
        rw [List.getElem?_drop] at this
        exact this
      have hil := List.getElem?_eq_some_iff.mp hu
      have et : ts.take (j + 1) = ts.take j ++ [u] := by rw [List.take_succ_eq_append_getElem hil.1, hil.2]
      have hmore : ts.drop (j + 1) = more := by
        have : ts.drop (j + 1) = (ts.drop j).drop 1 := by rw [List.drop_drop]
        rw [this, hdr]
        rfl
      have hut : u ∈ t0 :: ts := List.mem_cons_of_mem _ (List.mem_of_getElem? hu)
      rw [hdr] at hd2 hi2
      have hd2' : ws.drop i' = sg :: (e u ++ ((more.flatMap fun u => sg :: e u) ++ rest)) := by rw [hd2]; simp
      rw [decide_eq_true (getD_drop hd2')]
      refine iteT ?_
      apply st_wt
      obtain ⟨dx2, wl2, q1, q2, q3⟩ := id Rd2
      walk_at "go"
      refine k_fi q1 rfl ?_
      walk_at "go"
      refine k_sf q1 (by simp) ?_
      have ei : (i' : Int) + 1 = ((i' + 1 : Nat) : Int) := by omega
      rw [ei]
      have Rd3 := RdR.move (i' := i' + 1) (dp' := dp) q2 q3 q1
      have s3 : SameB [rd] H2 (upd H2 rd (ob (ga K "Reader") ns_Reader dx2 [.ref wl2, .int ((i' + 1 : Nat) : Int), .int (dp : Int)])) := SameB.refl.put (by simp)
      show tDrop _ _ _ (upd H2 rd (ob (ga K "Reader") ns_Reader dx2 [.ref wl2, .int ((i' + 1 : Nat) : Int), .int (dp : Int)]))
      generalize upd H2 rd (ob (ga K "Reader") ns_Reader dx2 [.ref wl2, .int ((i' + 1 : Nat) : Int), .int (dp : Int)]) = H3 at Rd3 s3 ⊢
      have hus3 := s3 _ _ (by simpa using rdl.symm) hus
      obtain ⟨dx3, wl3, p1, _⟩ := id Rd3
      walk_at "go"
      refine e_tyl hus3 ?_
      walk_at "go"
      refine k_mc p1 rfl ?_
      walk_at "go"
      have hd3 : ws.drop (i' + 1) = e u ++ ((more.flatMap fun u => sg :: e u) ++ rest) := by
        rw [← List.drop_drop, hd2']
        rfl
      refine ⟨rd, ws, i' + 1, dp, u, _, rfl, Rd3, hd3, hC _ hut, nb _ hut, stp more, fun v4 H4 s4 Rd4 Rv4 => ?_⟩
      have hus4 := s4 _ _ (by simpa using rdl.symm) hus3
      walk_at "go"
      refine e_app hus4 (small1000 (by omega)) ?_
      walk_at "go"
      have s24 := s2.trans (s3.trans s4)
      have keepB : ∀ {b : Addr} {o : HO}, H b = none ∧ b ≠ l → H2 b = some o → H4 b = some o := fun {b o} hb e => (s3.trans s4) _ _ (by
        have : b ≠ rd := fun q => by
          obtain ⟨_, _, z, _⟩ := id Rd
          rw [q, z] at hb
          cases hb.1
        simpa using this) e
      refine ⟨_, ?_, j + 1, i' + 1 + (e u).length, us ++ [v4], rfl, hjl, ?_, ?_, ?_, ?_, upd_same, ?_, rfl⟩
      · omega
      · intro b o hb e
        exact upd_o (s24 b o hb e) (ne_of_none e hlH)
      · obtain ⟨dx4, wl4, z1, z2, z3⟩ := Rd4
        refine ⟨dx4, wl4, upd_o z1 rdl, upd_o z2 ?_, z3⟩
        intro q
        rw [q, hus4] at z2
        have z2 := HO.lst.inj (Option.some.inj z2)
        cases P with
        | cons a _ =>
          obtain ⟨b, rfl⟩ := hR _ _ _ _ a
          cases ws with
          | nil => cases z2
          | cons y ys => rw [List.map_cons] at z2; cases z2
      · rw [hmore]
        exact drop_more hd3
      · rw [hmore]
        rw [List.flatMap_cons] at hi2
        simp only [List.cons_append, List.length_cons, List.length_append] at hi2
        omega
      · rw [et, ← List.cons_append]
        refine paired_snoc (Paired.mapP P fun _ _ z => g _ _ _ _ _ _ z fun a o ha ho => ⟨upd_o (keepB ha ho) ha.2, ha⟩) (g _ _ _ _ _ _ Rv4 fun a o ha ho => ?_)
        have hal : a ≠ l := fun q => by rw [q, hus3] at ha; cases ha
        have har : a ≠ rd := fun q => by rw [q, p1] at ha; cases ha
        exact ⟨upd_o ho hal, (s2.trans s3).fresh (by simpa using har) ha, hal⟩
/-! ### the pieces that stand for a tree -/
def PcNd (K : PySem.W.Frag) {α : Type} (R : TRel α) : TRel (Nd α) := fun H A t v => match t with
  | .num n => ∃ a dx, v = .ref a ∧ A a ∧ H a = some (ob (ga K "Number") ["rank", "number"] dx [.int 4, .int n])
  | .nm x => ∃ a dx, v = .ref a ∧ A a ∧ H a = some (ob (ga K "Name") ["rank", "name"] dx [.int 4, .str x])
  | .gate x b t => ∃ a dx u, v = .ref a ∧ A a ∧ H a = some (ob (ga K "Gate") ["rank", "name", "bound", "inner"] dx [.int 4, .str x, .int b, u]) ∧ R H A t u
  | .ch k ts => ∃ a dx l, v = .ref a ∧ A a ∧ H a = some (ob (ga K k.cls) ["rank", "sign", "pieces"] dx [.int k.rank, .str k.wd, .ref l]) ∧ RL R H A ts (.ref l)
theorem RL.good {β : Type} {R : TRel β} (g : Good2 R) : Good2 (RL R) := by
  rintro H H' A A' ts v ⟨l, us, rfl, hl, ha, P⟩ f
  exact ⟨l, us, rfl, (f _ _ ha hl).1, (f _ _ ha hl).2, Paired.mapP P fun _ _ z => g _ _ _ _ _ _ z f⟩
theorem PcNd.good {K : PySem.W.Frag} {α : Type} {R : TRel α} (g : Good2 R) : Good2 (PcNd K R) := by
  intro H H' A A' t v h f
  cases t with
  | num n =>
    obtain ⟨a, dx, e, ha, h⟩ := h
    exact ⟨a, dx, e, (f _ _ ha h).2, (f _ _ ha h).1⟩
  | nm n =>
    obtain ⟨a, dx, e, ha, h⟩ := h
    exact ⟨a, dx, e, (f _ _ ha h).2, (f _ _ ha h).1⟩
  | gate x b t =>
    obtain ⟨a, dx, u, e, ha, h, r⟩ := h
    exact ⟨a, dx, u, e, (f _ _ ha h).2, (f _ _ ha h).1, g _ _ _ _ _ _ r f⟩
  | ch k ts =>
    obtain ⟨a, dx, l, e, ha, h, r⟩ := h
    exact ⟨a, dx, l, e, (f _ _ ha h).2, (f _ _ ha h).1, RL.good g _ _ _ _ _ _ r f⟩
theorem PcNd.ref {K : PySem.W.Frag} {α : Type} {R : TRel α} {H : Hp} {A : Addr → Prop} {t : Nd α} {v : V} (h : PcNd K R H A t v) : ∃ a, v = .ref a := by
  cases t with
  | num n => exact ⟨_, h.choose_spec.choose_spec.1⟩
  | nm x => exact ⟨_, h.choose_spec.choose_spec.1⟩
  | gate x b t => exact ⟨_, h.choose_spec.choose_spec.choose_spec.1⟩
  | ch k ts => exact ⟨_, h.choose_spec.choose_spec.choose_spec.1⟩
def PcR (K : PySem.W.Frag) : (n : Nat) → TRel (TrD n)
  | 0 => PcNd K noR
  | n + 1 => PcNd K (PcR K n)
theorem PcR.good {K : PySem.W.Frag} : ∀ n, Good2 (PcR K n)
  | 0 => PcNd.good fun _ _ _ _ _ _ h => h.elim
  | n + 1 => PcNd.good (PcR.good n)
/-- a tree with its storeys -/
abbrev TrS : Type := (n : Nat) × TrD n
def PcS (K : PySem.W.Frag) : TRel TrS := fun H A t v => PcR K t.1 H A t.2 v
theorem PcS.good {K : PySem.W.Frag} : Good2 (PcS K) := fun H H' A A' t v h f => PcR.good t.1 H H' A A' t.2 v h f
theorem PcS.ref {K : PySem.W.Frag} (H : Hp) (A : Addr → Prop) (t : TrS) (v : V) (h : PcS K H A t v) : ∃ a, v = .ref a := by
  obtain ⟨n, t⟩ := t
  cases n with
  | zero => exact PcNd.ref h
  | succ n => exact PcNd.ref h
/-- how deep brackets and gates go -/
def ndNd {α : Type} (m : Nat) (f : Int) : Nd α → Nat
  | .num _ => 0
  | .nm _ => 0
  | .gate _ _ _ => m
  | .ch k _ => if k.rank < f then m else m - 1
def ndT (f : Int) (t : TrS) : Nat := match t with
  | ⟨0, _⟩ => 0
  | ⟨m + 1, t⟩ => ndNd (m + 1) f t
theorem ndT_le (f : Int) (t : TrS) : ndT f t ≤ t.1 := by
  obtain ⟨n, t⟩ := t
  cases n with
  | zero => exact Nat.le_refl _
  | succ n =>
    show ndNd (n + 1) f t ≤ n + 1
    cases t with
    | num _ => exact Nat.zero_le _
    | nm _ => exact Nat.zero_le _
    | gate _ _ _ => exact Nat.le_refl _
    | ch k ts =>
      show (if k.rank < f then n + 1 else n + 1 - 1) ≤ n + 1
      split <;> omega
/-- a chain without brackets -/
def Unb (f : Int) (t : TrS) : Prop := match t with
  | ⟨0, _⟩ => False
  | ⟨_ + 1, .ch k _⟩ => ¬ k.rank < f
  | ⟨_ + 1, _⟩ => False
def Fits (n : Nat) (f : Int) (t : TrS) : Prop := t.1 ≤ n ∨ (t.1 = n + 1 ∧ Unb f t)
def stopF (f : Int) (w : Str) : Prop := ∃ k : Kd, f ≤ k.rank ∧ w = k.wd
abbrev wdS (f : Int) (t : TrS) : List Str := wd t.1 t.2 f
abbrev CS (ys : List Str) (n : Nat) (f : Int) (t : TrS) : Prop := TreeOk t.1 ys t.2 ∧ Fits n f t
/-- the promise of a level -/
abbrev sp_lv (K : PySem.W.Frag) (ys : List Str) (n : Nat) (f : Int) : Sp := sp_parse K (PcS K) (wdS f) (CS ys n f) (ndT f) (stopF f) []
abbrev sp_chain (K : PySem.W.Frag) (ys : List Str) (n : Nat) (k : Kd) : Sp := sp_parse K (RL (PcS K)) (eL (wdS (k.rank + 1)) k.wd) (CL (CS ys n (k.rank + 1))) (ndL (ndT (k.rank + 1))) (fun w => stopF (k.rank + 1) w ∨ w = k.wd) [.str k.wd]
theorem stop_iff (k : Kd) (w : Str) : (stopF (k.rank + 1) w ∨ w = k.wd) ↔ stopF k.rank w := by
  constructor
  · rintro (⟨j, h, e⟩ | e)
    · exact ⟨j, by omega, e⟩
    · exact ⟨k, Int.le_refl _, e⟩
  · rintro ⟨j, h, e⟩
    by_cases q : k.rank = j.rank
    · have : k = j := by cases k <;> cases j <;> first | rfl | cases q
      rw [this]
      exact .inr e
    · exact .inl ⟨j, by omega, e⟩
/-- a level's tree: a chain of its own kind, or what the next level reads too -/
theorem lv_cases (k : Kd) (t : TrS) : (∃ m ts, t = ⟨m + 1, .ch k ts⟩) ∨ (wdS k.rank t = wdS (k.rank + 1) t ∧ ndT k.rank t = ndT (k.rank + 1) t ∧ (Unb k.rank t → Unb (k.rank + 1) t) ∨ ∃ ts, t = ⟨0, .ch k ts⟩) := by
  obtain ⟨n, t⟩ := t
  cases n with
  | zero =>
    cases t with
    | num _ => exact .inr (.inl ⟨rfl, rfl, id⟩)
    | nm _ => exact .inr (.inl ⟨rfl, rfl, id⟩)
    | gate _ _ t => exact t.elim
    | ch j ts =>
      by_cases q : j = k
      · rw [q]
        exact .inr (.inr ⟨ts, rfl⟩)
      · have hj : (j.rank < k.rank) ↔ (j.rank < k.rank + 1) := by
          have : j.rank ≠ k.rank := fun z => q (by cases j <;> cases k <;> first | rfl | cases z)
          omega
        refine .inr (.inl ⟨?_, rfl, id⟩)
        show wdNd _ _ _ = wdNd _ _ _
        unfold wdNd
        simp only [hj]
  | succ n =>
    cases t with
    | num _ => exact .inr (.inl ⟨rfl, rfl, id⟩)
    | nm _ => exact .inr (.inl ⟨rfl, rfl, id⟩)
    | gate _ _ t => exact .inr (.inl ⟨rfl, rfl, id⟩)
    | ch j ts =>
      by_cases q : j = k
      · rw [q]
        exact .inl ⟨n, ts, rfl⟩
      · have hj : (j.rank < k.rank) ↔ (j.rank < k.rank + 1) := by
          have : j.rank ≠ k.rank := fun z => q (by cases j <;> cases k <;> first | rfl | cases z)
          omega
        refine .inr (.inl ⟨?_, ?_, ?_⟩)
        · show wdNd _ _ _ = wdNd _ _ _
          unfold wdNd
          simp only [hj]
        · show (if j.rank < k.rank then n + 1 else n + 1 - 1) = (if j.rank < k.rank + 1 then n + 1 else n + 1 - 1)
          simp only [hj]
        · intro h
          have h : ¬ j.rank < k.rank := h
          show ¬ j.rank < k.rank + 1
          rw [← hj]
          exact h
/-- whole, lesser, summed alike -/
def t_lv (K : PySem.W.Frag) (S : Sp) (k : Kd) : TS :=
  tSeq (tAsg (tMC (ga K "Reader") "chained" S (tVar 0) (tCons (tC (.str k.wd)) tNil)) (gName 1))
  (tSeq (tIfS (tTest (tOp rEq (tCB (rLenL K) (tCons (tVar 1) tNil)) (tC (.int 1)))) (tRet (tOp (rIxL K) (tVar 1) (tC (.int 0)))) tNext)
  (tRet (tMK (ga K k.cls) (sp_K_init K k) (tCons (tVar 1) tNil))))
theorem kids_words {m : Nat} (k : Kd) (ts : List (TrD m)) : eL (wdS (k.rank + 1)) k.wd (ts.map fun t => (⟨m, t⟩ : TrS)) = wdOut (wd m) k ts := by
  cases ts with
  | nil => rfl
  | cons t ts =>
    show _ ++ List.flatMap _ (List.map _ ts) = _
    rw [List.flatMap_map]
    rfl
theorem kids_nd {m : Nat} (f : Int) (ts : List (TrD m)) : ndL (ndT f) (ts.map fun t => (⟨m, t⟩ : TrS)) ≤ m := by
  induction ts with
  | nil => exact Nat.zero_le _
  | cons t ts ih => exact Nat.max_le.mpr ⟨ndT_le f ⟨m, t⟩, ih⟩
theorem paired_mapL {α β γ : Type} {R : β → γ → Prop} {f : α → β} : ∀ {xs : List α} {ys : List γ}, Paired R (xs.map f) ys → Paired (fun a y => R (f a) y) xs ys
  | [], _, .nil => .nil
  | _ :: _, _, .cons a r => .cons a (paired_mapL r)
theorem pure_lv {K : PySem.W.Frag} {ys : List Str} {n : Nat} {k : Kd} (tC : IsC K (ga K k.cls) ["rank", "sign", "pieces"]) {vs : List V} {H : Hp} {Q : VK} {E : XK} (h : sp_lv K ys n k.rank vs H Q E) :
    t_lv K (sp_chain K ys n k) k { nx := fun _ H' => Q .non H', rt := Q } (start ["self", "found"] vs) H := by
  obtain ⟨rd, ws, i, dp, t, rest, rfl, Rd, hd, ⟨ok, fit⟩, hdp, hst, kk⟩ := h
  obtain ⟨dx, wl, r1, _⟩ := id Rd
  show t_lv K _ k _ [some (.ref rd), none] H
  unfold t_lv
  have hst' : ∀ w, rest.head? = some w → ¬ (stopF (k.rank + 1) w ∨ w = k.wd) := fun w hw z => hst w hw ((stop_iff k w).mp z)
  walk_at "go"
  refine k_mc r1 rfl ?_
  walk_at "go"
  rcases lv_cases k t with ⟨m, ts, rfl⟩ | ⟨e1, e2, e3⟩ | ⟨ts, rfl⟩
  · obtain ⟨o2, o3, okk⟩ := ok
    have nr : ¬ k.rank < k.rank := Int.lt_irrefl _
    have ew : wdS k.rank (⟨m + 1, .ch k ts⟩ : TrS) = eL (wdS (k.rank + 1)) k.wd (ts.map fun t => (⟨m, t⟩ : TrS)) := by
      rw [kids_words]
      exact if_neg nr
    have en : ndT k.rank (⟨m + 1, .ch k ts⟩ : TrS) = m := if_neg nr
    have mn : m ≤ n := by
      rcases fit with q | q
      · have : m + 1 ≤ n := q
        omega
      · have : m + 1 = n + 1 := q.1
        omega
    refine ⟨rd, ws, i, dp, ts.map fun t => (⟨m, t⟩ : TrS), rest, rfl, Rd, by rw [← ew]; exact hd, ⟨by rw [List.length_map]; omega, by rw [List.length_map]; omega, fun t ht => ?_⟩, ?_, hst', fun v H1 s1 Rd1 Rv => ?_⟩
    · obtain ⟨u, hu, rfl⟩ := List.mem_map.mp ht
      exact ⟨okk u hu, .inl mn⟩
    · have := kids_nd (k.rank + 1) ts
      rw [en] at hdp
      omega
    · obtain ⟨l, us, rfl, hl, hA, P⟩ := Rv
      have lus : us.length = ts.length := by rw [← Paired.length P, List.length_map]
      walk_at "go"
      refine e_lenL (SqL.of hl) ?_
      walk_at "go"
      refine ifd (fun h => by omega) (fun _ => ?_)
      walk_at "go"
      intro a dx1 ha hdx1 ne
      have s2 : Same H1 (upd (upd H1 dx1 (.own a)) a (ob (ga K k.cls) [] dx1 [])) := same_up (same1 hdx1) (by rw [upd_ne ne.symm]; exact ha)
      refine ⟨a, dx1, .ref l, tC, rfl, upd_same, fun H2 s3 h2 => ⟨rfl, ?_⟩⟩
      have s12 : Same H1 H2 := s3.from s2 (by simpa using ha)
      have har : a ≠ rd := fun q => by
        obtain ⟨_, _, z, _⟩ := id Rd1
        rw [q, z] at ha
        cases ha
      refine kk _ _ (s1.same s12) (by rw [ew]; exact Rd1.same s12) ⟨a, dx1, l, rfl, s1.fresh (by simpa using har) ha, h2, l, us, rfl, s12 _ _ hl, hA, ?_⟩
      exact Paired.mapP (paired_mapL P) fun t u z => PcR.good m _ _ _ _ _ _ z fun _ _ ha ho => ⟨s12 _ _ ho, ha⟩
  · have en : ndL (ndT (k.rank + 1)) [t] = ndT (k.rank + 1) t := Nat.max_eq_left (Nat.zero_le _)
    have ew : eL (wdS (k.rank + 1)) k.wd [t] = wdS (k.rank + 1) t := by simp [eL]
    refine ⟨rd, ws, i, dp, [t], rest, rfl, Rd, by rw [ew, ← e1]; exact hd, ⟨by simp, by simp, fun u hu => ?_⟩, by rw [en, ← e2]; exact hdp, hst', fun v H1 s1 Rd1 Rv => ?_⟩
    · rw [List.mem_singleton.mp hu]
      exact ⟨ok, fit.elim .inl fun q => .inr ⟨q.1, e3 q.2⟩⟩
    · obtain ⟨l, us, rfl, hl, hA, P⟩ := Rv
      cases P with
      | cons a P =>
        cases P with
        | nil =>
          walk_at "go"
          refine e_lenL (SqL.of hl) ?_
          walk_at "go"
          refine ifd (fun _ => ?_) (fun h => absurd rfl h)
          walk_at "go"
          refine e_ixL (SqL.of hl) (at_of (j := 0) rfl rfl) ?_
          exact kk _ _ s1 (by rw [e1, ← ew]; exact Rd1) a
  · have : 2 ≤ ts.length := ok.1
    cases ts with
    | nil => simp at this
    | cons e _ => exact e.elim
/-! ### inner_of, single -/
abbrev sp_inner (K : PySem.W.Frag) (ys : List Str) (n : Nat) (k : Kd) : Sp := sp_parse K (PcS K) (wdS (k.rank + 1)) (CS ys n (k.rank + 1)) (ndT (k.rank + 1)) (stopF (k.rank + 1)) [.str k.wd]
abbrev n_Reader_inner_of : List Str := ["self", "sign"]
def t_Reader_inner_of (K : PySem.W.Frag) (W : WX) (S_Reader_lesser : Sp) (S_Reader_summed : Sp) (S_Reader_single : Sp) : TS :=
  tSeq (tIfS (tTest (tOp rEq (tVar 1) (tC (.str "|")))) (tRet (tMC (ga K "Reader") "lesser" S_Reader_lesser (tVar 0) tNil)) tNext)
  (tSeq (tIfS (tTest (tOp rEq (tVar 1) (tC (.str "&")))) (tRet (tMC (ga K "Reader") "summed" S_Reader_summed (tVar 0) tNil)) tNext)
  (tRet (tMC (ga K "Reader") "single" S_Reader_single (tVar 0) tNil)))
theorem pure_Reader_inner_of {K : PySem.W.Frag} {ys : List Str} {n : Nat} {k : Kd} {S1 S2 S3 : Sp} (h1 : k = .most → S1 = sp_lv K ys n 2) (h2 : k = .least → S2 = sp_lv K ys n 3) (h3 : k = .sum → S3 = sp_lv K ys n 4) {vs : List V} {H : Hp} {Q : VK} {E : XK} {W : WX} (h : sp_inner K ys n k vs H Q E) :
    t_Reader_inner_of K W S1 S2 S3 { nx := fun _ H' => Q .non H', rt := Q } (start n_Reader_inner_of vs) H := by
  obtain ⟨rd, ws, i, dp, t, rest, rfl, Rd, hd, hC, hdp, hst, kk⟩ := h
  obtain ⟨dx, wl, r1, _⟩ := id Rd
  show t_Reader_inner_of K W S1 S2 S3 _ [some (.ref rd), some (.str k.wd)] H
  unfold t_Reader_inner_of
  cases k with
  | most =>
    rw [h1 rfl]
    walk_at "go"
    refine ifd (fun _ => ?_) (fun h => absurd rfl h)
    walk_at "go"
    refine k_mc r1 rfl ?_
    exact ⟨rd, ws, i, dp, t, rest, rfl, Rd, hd, hC, hdp, hst, kk⟩
  | least =>
    rw [h2 rfl]
    walk_at "go"
    refine ifd (fun h => absurd h (by decide)) (fun _ => ?_)
    walk_at "go"
    refine ifd (fun _ => ?_) (fun h => absurd rfl h)
    walk_at "go"
    refine k_mc r1 rfl ?_
    exact ⟨rd, ws, i, dp, t, rest, rfl, Rd, hd, hC, hdp, hst, kk⟩
  | sum =>
    rw [h3 rfl]
    walk_at "go"
    refine ifd (fun h => absurd h (by decide)) (fun _ => ?_)
    walk_at "go"
    refine ifd (fun h => absurd h (by decide)) (fun _ => ?_)
    walk_at "go"
    refine k_mc r1 rfl ?_
    exact ⟨rd, ws, i, dp, t, rest, rfl, Rd, hd, hC, hdp, hst, kk⟩
/-! ### single -/
/-- a gate behind its first bracket -/
abbrev sp_gated (K : PySem.W.Frag) (ys : List Str) (n : Nat) : Sp := sp_parse K (PcS K) (fun t => (wdS 4 t).tail) (fun t => TreeOk t.1 ys t.2 ∧ ∃ m x b t', t = ⟨m + 1, .gate x b t'⟩ ∧ m ≤ n) (ndT 4) (stopF 4) []
theorem num_not : ∀ k : Nat, k < 31 → ¬ numS (k : Int) = "(" ∧ ¬ numS (k : Int) = "[" ∧ nameB (numS (k : Int)) = false := by decide +kernel
theorem name_not {x : Str} (h : nameB x = true) : ¬ x = "(" ∧ ¬ x = "[" := by
  constructor
  · rintro rfl
    exact absurd h (by decide +kernel)
  · rintro rfl
    exact absurd h (by decide +kernel)
theorem rank_le (k : Kd) : 1 ≤ k.rank ∧ k.rank ≤ 3 := by cases k <;> decide
theorem stop_br : ¬ stopF 1 ")" := by
  rintro ⟨k, _, e⟩
  cases k <;> exact absurd e (by decide)
theorem made_new {H : Hp} {a dx : Addr} {o : HO} (ha : H a = none) (hdx : H dx = none) (ne : dx ≠ a) : Same H (upd (upd H dx (.own a)) a o) := same_up (same1 hdx) (by rw [upd_ne ne.symm]; exact ha)
abbrev n_Reader_single : List Str := ["self", "word", "found"]
def t_Reader_single (K : PySem.W.Frag) (W : WX) (S_Reader_whole : Sp) (S_Reader_gated : Sp) : TS :=
  tSeq (tAsg (tMC (ga K "Reader") "step" (sp_step K) (tVar 0) tNil) (gName 1))
  (tSeq (tIfS (tTest (tOp rEq (tVar 1) (tC (.str "(")))) (tSeq (tDrop (tMC (ga K "Reader") "deeper" (sp_deeper K) (tVar 0) tNil))
  (tSeq (tAsg (tMC (ga K "Reader") "whole" S_Reader_whole (tVar 0) tNil) (gName 2))
  (tSeq (tDrop (tMC (ga K "Reader") "must" (sp_must K) (tVar 0) (tCons (tC (.str ")")) tNil)))
  (tSeq (sFi (ga K "Reader") ns_Reader 2 (tVar 0) (tOp rSubI (tFi (ga K "Reader") ns_Reader 2 (tVar 0)) (tC (.int 1))))
  (tRet (tVar 2)))))) tNext)
  (tSeq (tIfS (tTest (tOp rEq (tVar 1) (tC (.str "[")))) (tRet (tMC (ga K "Reader") "gated" S_Reader_gated (tVar 0) tNil)) tNext)
  (tSeq (tIfS (tB (tCW sp_is_name W (tCons (tVar 1) tNil))) (tRet (tMK (ga K "Name") (sp_Name_init K) (tCons (tVar 1) tNil))) tNext)
  (tRet (tMK (ga K "Number") (sp_Number_init K) (tCons (tCW sp_number_of W (tCons (tVar 1) tNil)) tNil))))))
theorem pure_Reader_single {K : PySem.W.Frag} {ys : List Str} (hy : ∀ x ∈ ys, nameB x = true) {n : Nat} {S1 S2 : Sp} (h1 : n = 0 ∨ S1 = sp_lv K ys (n - 1) 1) (h2 : n = 0 ∨ S2 = sp_gated K ys (n - 1)) (tM : IsC K (ga K "Name") ["rank"]) (tN : IsC K (ga K "Number") ["rank"]) {vs : List V} {H : Hp} {Q : VK} {E : XK} {W : WX} (h : sp_lv K ys n 4 vs H Q E) :
    t_Reader_single K W S1 S2 { nx := fun _ H' => Q .non H', rt := Q } (start n_Reader_single vs) H := by
  obtain ⟨rd, ws, i, dp, ⟨m, t⟩, rest, rfl, Rd, hd, ⟨ok, fit⟩, hdp, hst, kk⟩ := h
  obtain ⟨dx, wl, r1, _⟩ := id Rd
  show t_Reader_single K W S1 S2 _ [some (.ref rd), none, none] H
  unfold t_Reader_single
  have hmn : m ≤ n := by
    rcases fit with q | ⟨_, q⟩
    · exact q
    · cases m with
      | zero => exact q.elim
      | succ m =>
        cases t with
        | ch k ts =>
          have q : ¬ k.rank < 4 := q
          have := rank_le k
          omega
        | num _ => exact q.elim
        | nm _ => exact q.elim
        | gate _ _ _ => exact q.elim
  -- the two leaves
  have leafN : ∀ c : Int, 0 ≤ c → c ≤ 30 → ws.drop i = numS c :: rest → (∀ (v : V) (H' : Hp), SameB [rd] H H' → RdR K H' rd ws (i + 1) dp → (∃ a dx, v = .ref a ∧ H a = none ∧ H' a = some (ob (ga K "Number") ["rank", "number"] dx [.int 4, .int c])) → Q v H') →
      t_Reader_single K W S1 S2 { nx := fun _ H' => Q .non H', rt := Q } [some (.ref rd), none, none] H := by
    intro c c0 c1 hd kk
    obtain ⟨mm, rfl⟩ : ∃ mm : Nat, c = mm := ⟨c.toNat, by omega⟩
    obtain ⟨n1, n2, n3⟩ := num_not mm (by omega)
    have f2 := (num_facts mm (by omega)).2.1
    unfold t_Reader_single
    walk_at "go"
    refine k_mc r1 rfl ?_
    refine ⟨rd, ws, i, dp, rfl, Rd, fun H1 s1 Rd1 => ?_⟩
    rw [getD_drop hd]
    walk_at "go"
    refine ifd (fun h => absurd h n1) (fun _ => ?_)
    walk_at "go"
    refine ifd (fun h => absurd h n2) (fun _ => ?_)
    walk_at "go"
    refine ⟨_, rfl, by omega, ?_⟩
    rw [n3]
    walk_at "go"
    refine iteF ?_
    walk_at "go"
    refine ⟨_, rfl, c0, c1, ?_⟩
    walk_at "go"
    intro a dx1 ha hdx1 ne
    refine ⟨a, dx1, _, tN, rfl, upd_same, fun H2 s2 h2 => ⟨rfl, ?_⟩⟩
    have s12 : Same H1 H2 := s2.from (made_new ha hdx1 ne) (by simpa using ha)
    have har : a ≠ rd := fun q => by
      obtain ⟨_, _, z, _⟩ := id Rd1
      rw [q, z] at ha
      cases ha
    exact kk _ _ (s1.same s12) (Rd1.same s12) ⟨a, dx1, rfl, s1.fresh (by simpa using har) ha, h2⟩
  have leafM : ∀ x : Str, nameB x = true → ws.drop i = x :: rest → (∀ (v : V) (H' : Hp), SameB [rd] H H' → RdR K H' rd ws (i + 1) dp → (∃ a dx, v = .ref a ∧ H a = none ∧ H' a = some (ob (ga K "Name") ["rank", "name"] dx [.int 4, .str x])) → Q v H') →
      t_Reader_single K W S1 S2 { nx := fun _ H' => Q .non H', rt := Q } [some (.ref rd), none, none] H := by
    intro x hx hd kk
    obtain ⟨n1, n2⟩ := name_not hx
    unfold t_Reader_single
    walk_at "go"
    refine k_mc r1 rfl ?_
    refine ⟨rd, ws, i, dp, rfl, Rd, fun H1 s1 Rd1 => ?_⟩
    rw [getD_drop hd]
    walk_at "go"
    refine ifd (fun h => absurd h n1) (fun _ => ?_)
    walk_at "go"
    refine ifd (fun h => absurd h n2) (fun _ => ?_)
    walk_at "go"
    refine ⟨_, rfl, by have := name_len hx; omega, ?_⟩
    rw [hx]
    walk_at "go"
    refine iteT ?_
    walk_at "go"
    intro a dx1 ha hdx1 ne
    refine ⟨a, dx1, _, tM, rfl, upd_same, fun H2 s2 h2 => ⟨rfl, ?_⟩⟩
    have s12 : Same H1 H2 := s2.from (made_new ha hdx1 ne) (by simpa using ha)
    have har : a ≠ rd := fun q => by
      obtain ⟨_, _, z, _⟩ := id Rd1
      rw [q, z] at ha
      cases ha
    exact kk _ _ (s1.same s12) (Rd1.same s12) ⟨a, dx1, rfl, s1.fresh (by simpa using har) ha, h2⟩
  cases m with
  | zero =>
    cases t with
    | num c => exact leafN c ok.1 ok.2 hd fun v H' s R z => kk v H' s R z
    | nm x => exact leafM x (hy x ok) hd fun v H' s R z => kk v H' s R z
    | gate _ _ t => exact t.elim
    | ch k ts =>
      have : 2 ≤ ts.length := ok.1
      cases ts with
      | nil => simp at this
      | cons e _ => exact e.elim
  | succ m =>
    cases t with
    | num c => exact leafN c ok.1 ok.2 hd fun v H' s R z => kk v H' s R z
    | nm x => exact leafM x (hy x ok) hd fun v H' s R z => kk v H' s R z
    | gate x b t =>
      have h2 := h2.resolve_left (by omega)
      have hd0 : ws.drop i = ("[" : Str) :: ((x :: numS b :: ("]" : Str) :: wd m t 4) ++ rest) := hd
      walk_at "go"
      refine k_mc r1 rfl ?_
      refine ⟨rd, ws, i, dp, rfl, Rd, fun H1 s1 Rd1 => ?_⟩
      rw [getD_drop hd0]
      walk_at "go"
      refine ifd (fun h => absurd h (by decide)) (fun _ => ?_)
      walk_at "go"
      refine ifd (fun _ => ?_) (fun h => absurd rfl h)
      obtain ⟨dx1, wl1, q1, _⟩ := id Rd1
      walk_at "go"
      refine k_mc q1 rfl ?_
      rw [h2]
      refine ⟨rd, ws, i + 1, dp, ⟨m + 1, .gate x b t⟩, rest, rfl, Rd1, ?_, ⟨ok, m, x, b, t, rfl, by omega⟩, hdp, hst, fun v H2 s2 Rd2 Rv => ?_⟩
      · exact drop_more (x := [("[" : Str)]) hd0
      · have e : i + 1 + ((wdS 4 (⟨m + 1, .gate x b t⟩ : TrS)).tail).length = i + (wdS 4 (⟨m + 1, .gate x b t⟩ : TrS)).length := by
          show i + 1 + (x :: numS b :: ("]" : Str) :: wd m t 4).length = i + (("[" : Str) :: x :: numS b :: ("]" : Str) :: wd m t 4).length
          simp only [List.length_cons]
          omega
        rw [e] at Rd2
        refine kk _ _ (s1.trans s2) Rd2 (PcS.good _ _ _ _ _ _ Rv fun a o ha ho => ⟨ho, s1.fresh (by
          have : a ≠ rd := fun q => by
            rw [q, q1] at ha
            cases ha
          simpa using this) ha⟩)
    | ch k ts =>
      have h1 := h1.resolve_left (by omega)
      have r4 := rank_le k
      have ew : wdS 4 (⟨m + 1, .ch k ts⟩ : TrS) = ("(" : Str) :: wdOut (wd m) k ts ++ [(")" : Str)] := if_pos (by omega)
      have ew1 : wdS 1 (⟨m + 1, .ch k ts⟩ : TrS) = wdOut (wd m) k ts := if_neg (by omega)
      have en : ndT 4 (⟨m + 1, .ch k ts⟩ : TrS) = m + 1 := if_pos (by omega)
      have en1 : ndT 1 (⟨m + 1, .ch k ts⟩ : TrS) = m := if_neg (by omega)
      rw [en] at hdp
      have hd0 : ws.drop i = ("(" : Str) :: (wdOut (wd m) k ts ++ (")" : Str) :: rest) := by rw [hd]; show wdS 4 (⟨m + 1, .ch k ts⟩ : TrS) ++ rest = _; rw [ew]; simp
      walk_at "go"
      refine k_mc r1 rfl ?_
      refine ⟨rd, ws, i, dp, rfl, Rd, fun H1 s1 Rd1 => ?_⟩
      rw [getD_drop hd0]
      walk_at "go"
      refine ifd (fun _ => ?_) (fun h => absurd rfl h)
      obtain ⟨dx1, wl1, q1, _⟩ := id Rd1
      walk_at "go"
      refine k_mc q1 rfl ?_
      refine ⟨rd, ws, i + 1, dp, rfl, Rd1, by omega, fun H2 s2 Rd2 => ?_⟩
      obtain ⟨dx2, wl2, q2, _⟩ := id Rd2
      walk_at "go"
      refine k_mc q2 rfl ?_
      rw [h1]
      have hd1 : ws.drop (i + 1) = wdOut (wd m) k ts ++ (")" : Str) :: rest := drop_more (x := [("(" : Str)]) hd0
      refine ⟨rd, ws, i + 1, dp + 1, ⟨m + 1, .ch k ts⟩, (")" : Str) :: rest, rfl, Rd2, by rw [ew1]; exact hd1, ⟨ok, ?_⟩, by rw [en1]; omega, fun w hw => by cases hw; exact stop_br, fun v H3 s3 Rd3 Rv => ?_⟩
      · by_cases q : m + 1 ≤ n - 1
        · exact .inl q
        · refine .inr ⟨by show m + 1 = n - 1 + 1; omega, ?_⟩
          show ¬ k.rank < 1
          omega
      rw [ew1] at Rd3
      have hd3 : ws.drop (i + 1 + (wdOut (wd m) k ts).length) = (")" : Str) :: rest := drop_more hd1
      obtain ⟨dx3, wl3, q3, _⟩ := id Rd3
      walk_at "go"
      refine k_mc q3 rfl ?_
      walk_at "go"
      refine ⟨rd, ws, _, _, by rw [getD_drop hd3], Rd3, fun H4 s4 Rd4 => ?_⟩
      obtain ⟨dx4, wl4, q4, q5, q6⟩ := id Rd4
      walk_at "go"
      refine k_fi q4 rfl ?_
      walk_at "go"
      refine k_sf q4 (by simp) ?_
      have e4 : ((dp + 1 : Nat) : Int) - 1 = (dp : Int) := by omega
      rw [e4]
      have Rd5 := RdR.move (i' := i + 1 + (wdOut (wd m) k ts).length + 1) (dp' := dp) q5 q6 q4
      have s5 : SameB [rd] H4 (upd H4 rd (ob (ga K "Reader") ns_Reader dx4 [.ref wl4, .int ((i + 1 + (wdOut (wd m) k ts).length + 1 : Nat) : Int), .int (dp : Int)])) := SameB.refl.put (by simp)
      have el : i + 1 + (wdOut (wd m) k ts).length + 1 = i + (wdS 4 (⟨m + 1, .ch k ts⟩ : TrS)).length := by
        rw [ew]
        simp only [List.length_cons, List.length_append, List.length_nil]
        omega
      walk_at "go"
      refine kk v _ (s1.trans (s2.trans (s3.trans (s4.trans s5)))) (by rw [← el]; exact Rd5) (PcS.good _ _ _ _ _ _ Rv fun a o ha ho => ?_)
      have har : a ≠ rd := fun q => by rw [q, q2] at ha; cases ha
      exact ⟨(s4.trans s5) _ _ (by simpa using har) ho, (s1.trans s2).fresh (by simpa using har) ha⟩
/-! ### gated -/
abbrev n_Reader_gated : List Str := ["self", "name", "bound", "found"]
def t_Reader_gated (K : PySem.W.Frag) (W : WX) (S_Reader_single : Sp) : TS :=
  tSeq (tAsg (tMC (ga K "Reader") "step" (sp_step K) (tVar 0) tNil) (gName 1))
  (tSeq (tIfS (tNot (tB (tCW sp_is_name W (tCons (tVar 1) tNil)))) tNever tNext)
  (tSeq (tAsg (tCW sp_number_of W (tCons (tMC (ga K "Reader") "step" (sp_step K) (tVar 0) tNil) tNil)) (gName 2))
  (tSeq (tIfS (tTest (tOp rEq (tVar 2) (tC (.int 0)))) tNever tNext)
  (tSeq (tDrop (tMC (ga K "Reader") "must" (sp_must K) (tVar 0) (tCons (tC (.str "]")) tNil)))
  (tSeq (tDrop (tMC (ga K "Reader") "deeper" (sp_deeper K) (tVar 0) tNil))
  (tSeq (tAsg (tMK (ga K "Gate") (sp_Gate_init K) (tCons (tVar 1) (tCons (tVar 2) (tCons (tMC (ga K "Reader") "single" S_Reader_single (tVar 0) tNil) tNil)))) (gName 3))
  (tSeq (sFi (ga K "Reader") ns_Reader 2 (tVar 0) (tOp rSubI (tFi (ga K "Reader") ns_Reader 2 (tVar 0)) (tC (.int 1))))
  (tRet (tVar 3)))))))))
theorem pure_Reader_gated {K : PySem.W.Frag} {ys : List Str} (hy : ∀ x ∈ ys, nameB x = true) {n : Nat} (tG : IsC K (ga K "Gate") ["rank"]) {vs : List V} {H : Hp} {Q : VK} {E : XK} {W : WX} (h : sp_gated K ys n vs H Q E) :
    t_Reader_gated K W (sp_lv K ys n 4) { nx := fun _ H' => Q .non H', rt := Q } (start n_Reader_gated vs) H := by
  obtain ⟨rd, ws, i, dp, t, rest, rfl, Rd, hd, ⟨ok, m, x, b, t, rfl, hm⟩, hdp, hst, kk⟩ := h
  obtain ⟨hx, b0, b1, okt⟩ := ok
  obtain ⟨dx, wl, r1, _⟩ := id Rd
  show t_Reader_gated K W _ _ [some (.ref rd), none, none, none] H
  unfold t_Reader_gated
  have hdp : dp + (m + 1) ≤ 2 := hdp
  have hd0 : ws.drop i = x :: (numS b :: ("]" : Str) :: (wd m t 4 ++ rest)) := hd
  walk_at "go"
  refine k_mc r1 rfl ?_
  refine ⟨rd, ws, i, dp, rfl, Rd, fun H1 s1 Rd1 => ?_⟩
  rw [getD_drop hd0]
  have hd1 : ws.drop (i + 1) = numS b :: (("]" : Str) :: (wd m t 4 ++ rest)) := drop_more (x := [x]) hd0
  walk_at "go"
  refine ⟨x, rfl, by have := name_len (hy x hx); omega, ?_⟩
  rw [hy x hx]
  walk_at "go"
  refine iteF ?_
  obtain ⟨dx1, wl1, q1, _⟩ := id Rd1
  walk_at "go"
  refine k_mc q1 rfl ?_
  refine ⟨rd, ws, i + 1, dp, rfl, Rd1, fun H2 s2 Rd2 => ?_⟩
  rw [getD_drop hd1]
  have hd2 : ws.drop (i + 1 + 1) = ("]" : Str) :: (wd m t 4 ++ rest) := drop_more (x := [numS b]) hd1
  walk_at "go"
  refine ⟨b, rfl, by omega, b1, ?_⟩
  walk_at "go"
  refine ifd (fun h => by omega) (fun _ => ?_)
  obtain ⟨dx2, wl2, q2, _⟩ := id Rd2
  walk_at "go"
  refine k_mc q2 rfl ?_
  walk_at "go"
  refine ⟨rd, ws, i + 1 + 1, dp, by rw [getD_drop hd2], Rd2, fun H3 s3 Rd3 => ?_⟩
  have hd3 : ws.drop (i + 1 + 1 + 1) = wd m t 4 ++ rest := drop_more (x := [("]" : Str)]) hd2
  obtain ⟨dx3, wl3, q3, _⟩ := id Rd3
  walk_at "go"
  refine k_mc q3 rfl ?_
  refine ⟨rd, ws, i + 1 + 1 + 1, dp, rfl, Rd3, by omega, fun H4 s4 Rd4 => ?_⟩
  obtain ⟨dx4, wl4, q4, _⟩ := id Rd4
  walk_at "go"
  refine k_mc q4 rfl ?_
  have hnd := ndT_le 4 ⟨m, t⟩
  refine ⟨rd, ws, i + 1 + 1 + 1, dp + 1, ⟨m, t⟩, rest, rfl, Rd4, hd3, ⟨okt, .inl hm⟩, by
    have : ndT 4 (⟨m, t⟩ : TrS) ≤ m := hnd
    omega, hst, fun v H5 s5 Rd5 Rv => ?_⟩
  walk_at "go"
  intro a dx5 ha hdx5 ne
  refine ⟨a, dx5, _, _, _, tG, rfl, upd_same, fun H6 s6 h6 => ⟨rfl, ?_⟩⟩
  have s56 : Same H5 H6 := s6.from (made_new ha hdx5 ne) (by simpa using ha)
  have Rd6 := Rd5.same s56
  obtain ⟨dx6, wl6, p1, p2, p3⟩ := id Rd6
  have har : a ≠ rd := fun q => by
    obtain ⟨_, _, z, _⟩ := id Rd5
    rw [q, z] at ha
    cases ha
  walk_at "go"
  refine k_fi p1 rfl ?_
  walk_at "go"
  refine k_sf p1 (by simp) ?_
  have e4 : ((dp + 1 : Nat) : Int) - 1 = (dp : Int) := by omega
  rw [e4]
  have Rd7 := RdR.move (i' := i + 1 + 1 + 1 + (wdS 4 (⟨m, t⟩ : TrS)).length) (dp' := dp) p2 p3 p1
  have s7 : SameB [rd] H6 (upd H6 rd (ob (ga K "Reader") ns_Reader dx6 [.ref wl6, .int ((i + 1 + 1 + 1 + (wdS 4 (⟨m, t⟩ : TrS)).length : Nat) : Int), .int (dp : Int)])) := SameB.refl.put (by simp)
  have el : i + 1 + 1 + 1 + (wdS 4 (⟨m, t⟩ : TrS)).length = i + ((wdS 4 (⟨m + 1, .gate x b t⟩ : TrS)).tail).length := by
    show i + 1 + 1 + 1 + (wd m t 4).length = i + (x :: numS b :: ("]" : Str) :: wd m t 4).length
    simp only [List.length_cons]
    omega
  walk_at "go"
  have s14 := s1.trans (s2.trans (s3.trans s4))
  have s15 := s14.trans s5
  refine kk _ _ (s15.trans ((SameB.of_same s56).trans s7)) (by rw [← el]; exact Rd7) ⟨a, dx5, v, rfl, s15.fresh (by simpa using har) ha, upd_o h6 har, PcR.good m _ _ _ _ _ _ Rv fun a' o ha' ho => ?_⟩
  have har' : a' ≠ rd := fun q => by rw [q, q4] at ha'; cases ha'
  exact ⟨upd_o (s56 _ _ ho) har', s14.fresh (by simpa using har') ha'⟩
/-! ### read -/
def sp_read (K : PySem.W.Frag) (ys : List Str) (n : Nat) : Sp := fun vs H Q _ => ∃ (z : Str) (t : TrS), vs = [.str z] ∧ z.length ≤ 400 ∧ Toks z.cps.toList (wdS 1 t) ∧ (wdS 1 t).length ≤ 40 ∧ CS ys n 1 t ∧ ndT 1 t ≤ 2 ∧ ∀ (v : V) (H' : Hp), Same H H' → PcS K H' (fun a => H a = none) t v → Q v H'
theorem ln_read {K : PySem.W.Frag} {ys : List Str} {n : Nat} (vs : List V) (H : Hp) (Q : VK) (E : XK) (h : sp_read K ys n vs H Q E) : vs.length = 1 := by
  obtain ⟨_, _, rfl, _⟩ := h
  rfl
abbrev n_read : List Str := ["text", "reader", "found"]
def t_read (K : PySem.W.Frag) (W : WX) (S_Reader_whole : Sp) : TS :=
  tSeq (tAsg (tMK (ga K "Reader") (sp_Reader_init K) (tCons (tCW sp_words_of W (tCons (tVar 0) tNil)) tNil)) (gName 1))
  (tSeq (tAsg (tMC (ga K "Reader") "whole" S_Reader_whole (tVar 1) tNil) (gName 2))
  (tSeq (tIfS (tTest (tOp rNe (tMC (ga K "Reader") "here" (sp_here K) (tVar 1) tNil) (tC (.str "")))) tNever tNext)
  (tRet (tVar 2))))
theorem pure_read {K : PySem.W.Frag} {ys : List Str} {n : Nat} {vs : List V} {H : Hp} {Q : VK} {E : XK} {W : WX} (h : sp_read K ys n vs H Q E) : t_read K W (sp_lv K ys n 1) { nx := fun _ H' => Q .non H', rt := Q } (start n_read vs) H := by
  obtain ⟨z, t, rfl, hz, hT, hw, hC, hnd, kk⟩ := h
  show t_read K W _ _ [some (.str z), none, none] H
  unfold t_read
  walk_at "go"
  refine ⟨z, _, rfl, hz, hT, hw, fun wl H1 s1 wn hwl => ?_⟩
  walk_at "go"
  intro rd dx hrd hdx ne
  have s2 := made_new (o := ob (ga K "Reader") [] dx []) hrd hdx ne
  refine ⟨rd, dx, wl, wdS 1 t, rfl, upd_same, s2 _ _ hwl, hw, fun H2 s3 Rd => ⟨rfl, ?_⟩⟩
  have s12 : Same H1 H2 := s3.from s2 (by simpa using hrd)
  have hrdH : H rd = none := by
    cases q : H rd with
    | none => rfl
    | some o => rw [s1 _ _ q] at hrd; cases hrd
  obtain ⟨dx2, wl2, q2, _⟩ := id Rd
  walk_at "go"
  refine k_mc q2 rfl ?_
  refine ⟨rd, wdS 1 t, 0, 0, t, [], rfl, Rd, by simp, hC, by omega, (fun w hw => nomatch hw), fun v H3 s4 Rd3 Rv => ?_⟩
  obtain ⟨dx3, wl3, q3, _⟩ := id Rd3
  walk_at "go"
  refine k_mc q3 rfl ?_
  refine ⟨rd, _, _, _, rfl, Rd3, ?_⟩
  have e : (wdS 1 t).getD (0 + (wdS 1 t).length) "" = "" := by
    rw [List.getD_eq_getElem?_getD, List.getElem?_eq_none (by omega)]
    rfl
  rw [e]
  walk_at "go"
  refine ifn (fun h => absurd rfl h) (fun _ => ?_)
  walk_at "go"
  have s : Same H H3 := s4.from (s1.trans s12) (by simpa using hrdH)
  refine kk v H3 s (PcS.good _ _ _ _ _ _ Rv fun a o ha ho => ⟨ho, ?_⟩)
  cases q : H a with
  | none => rfl
  | some u => rw [(s1.trans s12) _ _ q] at ha; cases ha
/-! ### facts of a class read for a def of its own, as Bools -/
def crB (K : PySem.W.Frag) (C : Addr) : Bool := PySem.W.readsIn K C (.type "type") && He.eqO (PySem.W.specialIn K (.ref C) "__getattribute__") (some (some (.builtin "type.__getattribute__")))
theorem crB_ok {K : PySem.W.Frag} {C : Addr} (h : crB K C = true) : ClX.CRead K C (.type "type") := by
  obtain ⟨h1, h2⟩ := He.ba h
  exact ⟨h1, He.eqO_ok h2⟩
def cvB (K : PySem.W.Frag) (C f : Addr) (m : Str) : Bool := match PySem.W.findCls K (.ref C) (.type "type") m with
  | some (.val (.ref g)) => decide (g = f)
  | _ => false
theorem cvB_ok {K : PySem.W.Frag} {C f : Addr} {m : Str} (h : cvB K C f m = true) : ClX.CVal K C (.type "type") m (.ref f) (.ref f) := by
  unfold cvB at h
  cases e : PySem.W.findCls K (.ref C) (.type "type") m with
  | none => rw [e] at h; cases h
  | some r =>
    rw [e] at h
    cases r with
    | val v =>
      cases v with
      | ref g =>
        have : g = f := of_decide_eq_true h
        exact ⟨by rw [e, this], rfl⟩
      | _ => cases h
    | get _ _ _ _ => cases h
/-! ### the head's hook: the library's facts over a K that has the class of classes' table too -/
section
open He (AlX SaysX frT frT_in frT_none asD obsT tabsB valX emptyTab emptyTab_eq Fa DefD Defn)
/-- the part of the heap that the facts look at -/
def kC (g : Addr → Option Obj) (n : Nat) : PySem.W.Frag := frT g (cStatics :: asD g n)
def seenC (n : Nat) (fa : List Fa) (fn : List DefD) (tf : List Defn) (ex : PySem.W.Frag → Bool) (g : Addr → Option Obj) : AlX := ⟨obsT fa fn [] (kC g n), ex (kC g n) && tabsB g tf (kC g n)⟩
theorem says_of_seen {n : Nat} {fa : List Fa} {fn : List DefD} {tf : List Defn} {ex : PySem.W.Frag → Bool} {w : World} {h : Heap} (e : seenC n fa fn tf ex h.get? = valX fn [] w) : SaysX fa fn [] tf ex w h (kC h.get? n) := by
  unfold seenC at e
  obtain ⟨told, rest⟩ := Prod.mk.inj e
  obtain ⟨m, tb⟩ := Bool.and_eq_true_iff.mp rest
  have one := fun p hp => Bool.and_eq_true_iff.mp (List.all_eq_true.mp tb p hp)
  have ob : ∀ p ∈ tf, ∃ o, h.get? (He.cT (kC h.get? n) p).2 = some o ∧ emptyTab o = true := fun p hp => by
    have z := (one p hp).2
    split at z
    · exact ⟨_, by assumption, z⟩
    · cases z
  refine ⟨told, m, fun p hp => (one p hp).1, ?_, ?_⟩
  · intro p hp
    obtain ⟨o, a, b⟩ := ob p hp
    exact frT_none a b
  · intro p hp
    obtain ⟨o, a, b⟩ := ob p hp
    rw [a, emptyTab_eq b]
def hookC (n : Nat) (fa : List Fa) (fn : List DefD) (tf : List Defn) (ex : PySem.W.Frag → Bool) : PySem.W.Hook :=
  { α := AlX, obs := fun s => seenC n fa fn tf ex s.heap.get?, val := valX fn [], says := fun w h => ∃ K : PySem.W.Frag, K.In h ∧ SaysX fa fn [] tf ex w h K,
    of := fun w s e => ⟨kC s.heap.get? n, frT_in, says_of_seen e⟩,
    keeps := fun w h h' ⟨K, inK, c⟩ k => ⟨K, inK.keeps k, c.t, c.more, c.hd, c.out, fun p hp => k _ _ (c.empty p hp)⟩ }
theorem seenC_eq {n : Nat} {fa : List Fa} {fn : List DefD} {tf : List Defn} {ex : PySem.W.Frag → Bool} {g : Addr → Option Obj} {s : Shared} (h : ∀ a, g a = s.heap.get? a) : seenC n fa fn tf ex g = (hookC n fa fn tf ex).obs s := congrArg (seenC n fa fn tf ex) (funext h)
end
abbrev tbAt (K : PySem.W.Frag) (pk : He.Defn) : Addr := He.tabOf K (He.codeOf K pk)
/-! ### closures: the cells that a frame lends while it calls -/
section
open LamX NdefX
/-- the object at a is o -/
def Ex (a : Addr) (o : Obj) : HO := .ext fun h => h.get? a = some o
def mix (cs : List Addr) (G H : Hp) : Hp := fun a => if a ∈ cs then G a else H a
abbrev none0 : Hp := fun _ => none
section
variable {P : Program} {w : World} {K : PySem.W.Frag} {mg : Str → Option Value} {base : Heap} {A : Around} {outer : List Env} {s : Shared} {H H' G : Hp} {h h' : Heap} {a : Addr} {o : Obj} {cs fs : List Addr}
theorem Ex.ok (e : h.get? a = some o) : ObjOk P w H h a (Ex a o) := ⟨e, ⟨o, e⟩, fun _ _ p st => st _ p⟩
theorem Ex.get (hok : HOk P w H h) (e : H a = some (Ex a o)) : h.get? a = some o := (hok a _ e).1
theorem mix_in (m : a ∈ cs) : mix cs G H a = G a := if_pos m
theorem mix_out (m : ¬ a ∈ cs) : mix cs G H a = H a := if_neg m
/-- at cs stands nothing, or an object known as it is -/
def Xs (cs : List Addr) (G : Hp) : Prop := ∀ a ∈ cs, G a = none ∨ ∃ o, G a = some (Ex a o)
theorem Xs.out (x : Xs cs G) {u : HO} (e : G a = some u) (n : ∀ φ, u ≠ .ext φ) : ¬ a ∈ cs := fun m => by
  rcases x a m with z | ⟨o, z⟩
  · rw [z] at e; cases e
  · rw [z] at e; cases e; exact n _ rfl
theorem hok_mix (ok : HOk P w H h) (x : Xs cs H) (g : ∀ a ∈ cs, G a = none ∨ ∃ o, G a = some (Ex a o) ∧ h.get? a = some o) : HOk P w (mix cs G H) h := fun b u e => by
  by_cases hb : b ∈ cs
  · rw [mix_in hb] at e
    rcases g b hb with z | ⟨o, z, q⟩
    · rw [z] at e; cases e
    · rw [z] at e; cases e; exact Ex.ok q
  · rw [mix_out hb] at e
    exact (ok b u e).stay (fun _ _ _ q => q) (fun c q => by rw [mix_out (x.out q (fun _ z => by cases z))]; exact q) fun c ys q => by rw [mix_out (x.out q (fun _ z => by cases z))]; exact q
theorem un_mix (u : Un fs [] H H' h h') (x : Xs cs G) (sm : ∀ a ∈ cs, ∀ o, h.get? a = some o → h'.get? a = some o) : Un fs [] (mix cs G H) (mix cs G H') h h' := by
  have ot : ∀ {b : Addr} {v : HO}, mix cs G H b = some v → (∀ φ, v ≠ .ext φ) → ¬ b ∈ cs := fun {b v} e n m => by
    rw [mix_in m] at e
    exact x.out e n m
  refine ⟨fun b o e n hf hx => ?_, fun b o e n hf hx => ?_, fun b o e n hx => ?_, u.there, fun b ys e => ?_, fun b o v e => ?_, fun b ps e => ?_⟩
  · by_cases m : b ∈ cs
    · exact sm b m o e
    · rw [mix_out m] at n
      exact u.keep b o e n hf hx
  · by_cases m : b ∈ cs
    · exact ⟨o.slots, sm b m o e⟩
    · rw [mix_out m] at n
      exact u.slot b o e n hf hx
  · by_cases m : b ∈ cs
    · rw [mix_in m] at n ⊢
      exact n
    · rw [mix_out m] at n ⊢
      exact u.free b o e n hx
  · have m := ot e (fun _ z => by cases z)
    rw [mix_out m] at e ⊢
    exact u.tups b ys e
  · have m := ot e (fun _ z => by cases z)
    rw [mix_out m] at e ⊢
    exact u.frzs b o v e
  · have m := ot e (fun _ z => by cases z)
    rw [mix_out m] at e ⊢
    exact u.tbls b ps e
theorem env0_mix (e : Env0 P w K mg base A outer s H) (x : Xs cs H) (g : ∀ a ∈ cs, G a = none ∨ ∃ o, G a = some (Ex a o) ∧ s.heap.get? a = some o) (nb : ∀ a ∈ cs, G a ≠ none → base.get? a = none ∧ ¬ a ∈ frs outer) : Env0 P w K mg base A outer s (mix cs G H) := by
  refine ⟨e.frames, e.mod, fun b o q => ⟨(e.bs b o q).1, ?_⟩, e.bsz, e.funs, fun b hb => ?_, hok_mix e.hok x g, e.bare⟩
  · by_cases m : b ∈ cs
    · rw [mix_in m]
      by_cases z : G b = none
      · exact z
      · have := (nb b m z).1
        rw [q] at this
        cases this
    · rw [mix_out m]
      exact (e.bs b o q).2
  · by_cases m : b ∈ cs
    · rw [mix_in m]
      by_cases z : G b = none
      · exact z
      · exact absurd hb (nb b m z).2
    · rw [mix_out m]
      exact e.frf b hb
theorem mix_back (x : ∀ a ∈ cs, H a = G a) : mix cs G H = H := funext fun a => by
  by_cases m : a ∈ cs
  · rw [mix_in m, x a m]
  · rw [mix_out m]
theorem mix_mix {G' : Hp} : mix cs G (mix cs G' H) = mix cs G H := funext fun a => by
  by_cases m : a ∈ cs
  · rw [mix_in m, mix_in m]
  · rw [mix_out m, mix_out m, mix_out m]
/-- behind a call to which the cells were lent -/
theorem ce_lend {Q : VK} {u : Value} {s' : Shared} (n : ∀ a ∈ cs, H a = none) (g : ∀ a ∈ cs, ∃ o, G a = some (Ex a o) ∧ s.heap.get? a = some o)
    (c : CE outer P w (mix cs G H) s (fun v H1 => (∀ a ∈ cs, H1 a = G a) ∧ Q v (mix cs none0 H1)) u s') : CE outer P w H s Q u s' := by
  obtain ⟨v, H1, os, bare, un, hok, r, kp, q⟩ := c
  have at_ : ∀ a ∈ cs, ∃ o, H1 a = some (Ex a o) ∧ s.heap.get? a = some o ∧ s'.heap.get? a = some o := fun a m => by
    obtain ⟨o, e1, e2⟩ := g a m
    have e3 := (kp a m).trans e1
    exact ⟨o, e3, e2, Ex.get hok e3⟩
  have x0 : Xs cs (none0 : Hp) := fun a _ => .inl rfl
  have un2 := un_mix (G := none0) un x0 fun a m o e => by
    obtain ⟨o', _, e2, e3⟩ := at_ a m
    rw [e2] at e
    cases e
    exact e3
  rw [mix_mix, mix_back n] at un2
  exact ⟨v, mix cs none0 H1, os, bare, un2, hok_mix hok (fun a m => by obtain ⟨o, e, _⟩ := at_ a m; exact .inr ⟨o, e⟩) fun _ _ => .inl rfl, r, q⟩
/-- behind a run of the cells' function -/
theorem ce_own {Q : VK} {u : Value} {s' : Shared} (e0 : Env0 P w K mg base A outer s H) (g : ∀ a ∈ cs, ∃ o, H a = some (Ex a o))
    (c : CE outer P w (mix cs none0 H) s (fun v H1 => (∀ a ∈ cs, H1 a = none) → Q v (mix cs H H1)) u s') : CE outer P w H s Q u s' := by
  obtain ⟨v, H1, os, bare, un, hok, r, q⟩ := c
  have at_ : ∀ a ∈ cs, ∃ o, H a = some (Ex a o) ∧ s.heap.get? a = some o ∧ s'.heap.get? a = some o ∧ H1 a = none := fun a m => by
    obtain ⟨o, e1⟩ := g a m
    have e2 := Ex.get e0.hok e1
    have nf : ¬ a ∈ frs outer := fun z => by rw [e0.frf a z] at e1; cases e1
    have n : mix cs none0 H a = none := mix_in m
    exact ⟨o, e1, e2, un.keep a o e2 n nf (by simp), un.free a o e2 n (by simp)⟩
  have un2 := un_mix (G := H) un (fun a m => .inr (g a m)) fun a m o e => by
    obtain ⟨o', _, e2, e3, _⟩ := at_ a m
    rw [e2] at e
    cases e
    exact e3
  rw [mix_mix, mix_back fun a _ => rfl] at un2
  refine ⟨v, mix cs H H1, os, bare, un2, hok_mix hok (fun a m => .inl (at_ a m).choose_spec.2.2.2) fun a m => ?_, r, q fun a m => (at_ a m).choose_spec.2.2.2⟩
  obtain ⟨o, e1, _, e3, _⟩ := at_ a m
  exact .inr ⟨o, e1, e3⟩
end
/-! functions as values -/
def FnObj (o : Obj) : Prop := ∃ (fd : FuncData) (od : Option Addr) (sl : Array (Option Value)), o = ⟨.type "function", od, .func fd, sl⟩
/-- a function stands at f -/
def Fn (f : Addr) (H : Hp) : Prop := ∃ o, H f = some (Ex f o) ∧ FnObj o
/-- the function at f keeps the promise S, which tells too what stands at f -/
structure HeldC (P : Program) (w : World) (K : PySem.W.Frag) (mg : Str → Option Value) (base : Heap) (k : Nat) (f : Addr) (S : Sp) : Prop where
  run : ∀ (A : Around) (outer : List Env) (s : Shared) (H : Hp) (us : List Value) (vs : List V) (Q : VK), Room k A → Env0 P w K mg base A outer s H → Vals vs us → S vs H Q E0 → codeAny (model P w) A (.call (.ref f) ⟨us, []⟩) (CR (L2.CX P w) outer P w H s Q E0) s
theorem HeldC.mono {P : Program} {w : World} {K : PySem.W.Frag} {mg : Str → Option Value} {base : Heap} {j k : Nat} {f : Addr} {S : Sp} (c : HeldC P w K mg base j f S) (h : j ≤ k) : HeldC P w K mg base k f S := ⟨fun A outer s H us vs Q hr => c.run A outer s H us vs Q (hr.mono h)⟩
/-- x(..), x a local that holds a function -/
def tCallH (HC : Addr → Sp → Prop) (i : Nat) (t : TA) : TE := fun σ H Q => ∃ f S, σ[i]? = some (some (.ref f)) ∧ HC f S ∧ Fn f H ∧ t σ H fun vs H1 => Fn f H1 ∧ S vs H1 Q E0
section
variable {X : Cx} {pins : List (Addr × Obj)} {σ : St} {H : Hp} {s : Shared} {k i : Nat} {x : Str} {t : TA} {e : Expr} {es : List Expr} {p pos : Pos} {HC : Addr → Sp → Prop}
theorem Fn.at_ {f : Addr} (I : Inv X pins σ H s) (h : Fn f H) : PySem.W.FnAt f s.heap := by
  obtain ⟨o, e, fd, od, sl, rfl⟩ := h
  exact ⟨_, od, fd, sl, Ex.get I.hok e⟩
theorem cr_end {r : Result} {s' : Shared} {Q : VK} (I : Inv X pins σ H s) (hq : CR (L2.CX X.prog X.w) X.stack X.prog X.w H s Q E0 r s') : match r with
    | .ok (.ret u) => EP X pins σ Q u s'
    | .ok _ => False
    | .error e => X.xe e s' := by
  cases r with
  | error e => exact (cx_never hq).elim
  | ok fl =>
    cases fl with
    | ret u => exact I.after hq
    | next => exact False.elim hq
    | brk => exact False.elim hq
    | cont => exact False.elim hq
theorem pe_callH (hC : ∀ f S, HC f S → HeldC X.prog X.w X.K X.mg X.base k f S) (hr : Room k X.A) (hN : X.N[i]? = some x) (hv : Vis X.env.scope x) (ha : PA X (e :: es) t)
    (hd : (x == ("__debug__" : Str)) = false := by decide) (hcd : (x == ("__classdict__" : Str)) = false := by decide)
    (he : starEach (e :: es) X.env = (false, eval e X.env) :: starEach es X.env := by rfl) (hpl : (backTo pos (starEach es X.env)).any (·.1) = false := by rfl) :
    PE X (.Call (.Name x p) (e :: es) [] pos) (tCallH HC i t) := by
  refine ⟨fun pins s σ H Q I h => ?_⟩
  obtain ⟨f, S, hs, hc, hf, ht⟩ := h
  refine wpAny_Call_Name_kw (thn ((pe_var (pos := p) hN hv hd hcd).run pins s σ H (fun v H1 => v = .ref f ∧ H1 = H) I ⟨.ref f, hs, rfl, rfl⟩) fun u s1 ⟨v, H1, I1, r1, q1⟩ => ?_)
  obtain ⟨ev, eH⟩ := q1
  subst ev
  rw [eH] at I1
  obtain rfl : u = Value.ref f := r1
  refine PySem.W.callWith_F (first := []) (hf.at_ I1) (thn (ha.run pos pins s1 σ H _ I1 ht) fun us s2 ⟨vs, H2, I2, r, h1, q⟩ => ⟨h1.at_ I2, ?_⟩) he hpl
  refine wpAny_call (codeAny_mono ((hC f S hc).run X.A X.stack s2 H2 us vs Q hr I2.env0 r q) fun r s' hq => ?_)
  have z := cr_end I2 hq
  cases r with
  | error e => exact z
  | ok fl => cases fl <;> exact z
end
end
/-! ### lambdas made, lent cells, calls -/
section
open LamX NdefX
/-- the lambda's object -/
abbrev lamO (q : Str) (params : Arguments) (body : Expr) (scope : Scope) (cl : List (Str × Addr)) (pm : Value) (c' : Addr) (ctv : Value) : Obj := PySem.W.kla_obj "<lambda>" q params body scope cl pm c' ctv
/-- what is told of a lambda made: o stands at f, c' is its code -/
def LMr (q : Str) (params : Arguments) (body : Expr) (scope : Scope) (cl : List (Str × Addr)) : Addr → HO → Addr → Prop := fun f o c' => ∃ pm ctv, o = Ex f (lamO q params body scope cl pm c' ctv)
def tLam (T : List NTab) (LM : Addr → HO → Addr → Prop) (q : Str) : TE := fun _ H Q => TabsN T H ∧ ∀ (f c' : Addr) (o : HO) (H1 : Hp), SameB (T.map (·.1)) H H1 → (∀ b, H1 b = none → H b = none) → TabsN T H1 → H f = none → LM f o c' → H1 f = some o → H1 c' = some (CodeO c' q) → Fn f H1 → Q (.ref f) H1
section
variable {X : Cx} {pins : List (Addr × Obj)} {σ : St} {H : Hp} {s : Shared}
theorem inv_ex {o : Obj} {t' : Nat} (I : Inv X pins σ H s) (hz : o.isFreed = false := by rfl) : Inv X pins σ (upd H s.heap.objs.size (Ex s.heap.objs.size o)) { s with heap := s.heap.push o, toks := t' } :=
  I.laid (a := s.heap.objs.size) (fun b u e => Heap.get?_push_of_some _ e) (Nat.le_refl _) (Ex.ok (Heap.get?_push_size _ hz))
theorem fn_lam {f c' : Addr} {q : Str} {params : Arguments} {body : Expr} {scope : Scope} {cl : List (Str × Addr)} {pm ctv : Value} (h : H f = some (Ex f (lamO q params body scope cl pm c' ctv))) : Fn f H := ⟨_, h, _, _, _, rfl⟩
theorem pe_lam {T : List NTab} {nm : Nat → Nat → Str} {c P : Addr} {params : Arguments} {body : Expr} {scope : Scope} {pos : Pos} (TB : TabB X.base X.mg c P) (hcode : X.env.code = .ref c) (hm : (P, nm) ∈ T) (hn : nm pos.line pos.col = X.env.qual ++ "<lambda>") (hu : ∀ p ∈ T, p.1 = P → p.2 = nm)
    (hdef : defaultsOf params X.env = ([], [])) (hfree : ∀ y ∈ scope.names, y.2 = .free → X.env.scope.names.lookup y.1 = some .cell ∨ X.env.scope.names.lookup y.1 = some .free) :
    PE X (.Lambda params body scope pos) (tLam T (LMr (X.env.qual ++ "<lambda>") params body scope (cloFrom X.env.cells scope.names [])) (X.env.qual ++ "<lambda>")) := by
  refine ⟨fun pins s σ H Q I h => ?_⟩
  obtain ⟨hT, h⟩ := h
  have hfr : ∀ y ∈ scope.names, y.2 = .free → ∃ c, X.env.cells.lookup y.1 = some c := fun y hy e => (hfree y hy e).elim (fun z => I.ok.has _ (.inl z)) fun z => I.ok.has _ (.inr z)
  obtain ⟨ps, hP, ht, ha⟩ := (show TabN H P nm from hT _ hm)
  have bP : s.heap.BuiltinsAt X.mg P := TB.bm.keeps I.bk
  have hP' : s.heap.get? P = some { cls := .none, data := .fields ps } := I.hok P _ hP
  refine PySem.W.kla_eval hdef ?_
  have clo := closure_ok (env := X.env) hfr
  have gl := I.mod.glob.keeps I.bk
  have cd := TB.code.keeps I.bk
  generalize hq : X.env.qual ++ "<lambda>" = q at *
  cases hc : codeAmong pos ps.toList with
  | some cv =>
    -- the code object stands in the table
    obtain ⟨c', e, hco⟩ := ha pos cv hc
    subst e
    rw [hn] at hco
    refine PySem.W.kla_makeFunctionHit (mg := X.mg) (c := c) (P := P) (ps := ps) clo I.ok.glob gl hcode cd hP' ht hc bP fun ctv h' tk hx hsz => ?_
    have I1 : Inv X pins σ H { s with heap := h', toks := tk } := I.kept hx
    have nF : H h'.objs.size = none := I1.hok.fresh (Nat.le_refl _)
    have I2 := inv_ex (o := lamO q params body scope (cloFrom X.env.cells scope.names []) ((X.mg "__name__").getD .none) c' ctv) (t' := tk) I1
    refine ⟨.ref h'.objs.size, _, I2, rfl, h _ c' _ _ (fun b o _ e => ?_) (fun b e => upd_none e) (hT.ext fun b o e => ?_) nF ⟨_, _, rfl⟩ upd_same ?_ (fn_lam upd_same)⟩
    · exact upd_o e (ne_of_none e nF)
    · exact upd_o e (ne_of_none e nF)
    · exact upd_o hco (ne_of_none hco nF)
  | none =>
    refine PySem.W.kla_makeFunction (mg := X.mg) (c := c) (P := P) (ps := ps) clo I.ok.glob gl hcode cd hP' ht hc TB.gP bP fun c' ctv h' tk hx hge hlt hrec htb => ?_
    obtain ⟨c2, oc, vs, t, e2, hoc, hd, hv⟩ := hrec
    cases e2
    have nC : H c' = none := I.hok.fresh hge
    have I1 := inv_table (t' := tk) (more := #[rawInt pos.line, rawInt pos.col, .ref c']) (h' := h') I hP (fun b o hb e => hx b o hb e) htb hge ⟨oc, vs, t, hoc, hd, hv⟩
    obtain ⟨H2, e2⟩ : ∃ H2, H2 = upd (upd H P (.tbl (ps ++ #[rawInt pos.line, rawInt pos.col, .ref c']))) c' (CodeO c' q) := ⟨_, rfl⟩
    rw [← e2] at I1
    have atP : H2 P = some (.tbl (ps ++ #[rawInt pos.line, rawInt pos.col, .ref c'])) := by rw [e2]; exact upd_o upd_same (ne_of_none hP nC)
    have atC : H2 c' = some (CodeO c' q) := by rw [e2]; exact upd_same
    have old : ExtN H H2 := fun b o e n => by
      rw [e2]
      refine upd_o (upd_o e fun z => ?_) (ne_of_none e nC)
      rw [z, hP] at e
      exact n _ (Option.some.inj e).symm
    have non : ∀ b, H2 b = none → H b = none := fun b e => upd_none (upd_none (e2 ▸ e))
    have el : (ps ++ #[rawInt pos.line, rawInt pos.col, .ref c']).toList = ps.toList ++ [rawInt pos.line, rawInt pos.col, .ref c'] := by simp
    have T1 : TabsN T H2 := fun p hp => by
      by_cases hb : p.1 = P
      · rw [hu p hp hb, hb]
        refine ⟨_, atP, by rw [el]; exact PySem.TriplesOk_snoc _ _ _ _ ht, fun p' cv hcv => ?_⟩
        rw [el] at hcv
        rcases among_app2 _ ht hcv with z | ⟨z, z1, z2⟩
        · obtain ⟨c0, d1, d2⟩ := ha p' cv z
          exact ⟨c0, d1, old _ _ d2 codeO_ne⟩
        · refine ⟨c', z, ?_⟩
          rw [← z1, ← z2, hn]
          exact atC
      · obtain ⟨ps', a1, a2, a3⟩ := hT p hp
        refine ⟨ps', ?_, a2, fun p' cv hcv => ?_⟩
        · rw [e2]
          exact upd_o (upd_o a1 hb) (ne_of_none a1 nC)
        · obtain ⟨c0, d1, d2⟩ := a3 p' cv hcv
          exact ⟨c0, d1, old _ _ d2 codeO_ne⟩
    have nF : H2 h'.objs.size = none := I1.hok.fresh (Nat.le_refl _)
    have I2 := inv_ex (o := lamO q params body scope (cloFrom X.env.cells scope.names []) ((X.mg "__name__").getD .none) c' ctv) (t' := tk) I1
    refine ⟨.ref h'.objs.size, _, I2, rfl, h _ c' _ _ (fun b o n e => ?_) (fun b e => non b (upd_none e)) (T1.ext fun b o e => ?_) (non _ nF) ⟨_, _, rfl⟩ upd_same ?_ (fn_lam upd_same)⟩
    · have hbP : b ≠ P := fun z => n (List.mem_map.mpr ⟨_, hm, z.symm⟩)
      have e1 : H2 b = some o := by rw [e2]; exact upd_o (upd_o e hbP) (ne_of_none e nC)
      exact upd_o e1 (ne_of_none e1 nF)
    · exact upd_o e (ne_of_none e nF)
    · exact upd_o atC (ne_of_none atC nF)
end
/-! what is lent -/
structure Lent (H1 HL : Hp) : Prop where
  up : ∀ a o, H1 a = some o → HL a = some o
  ext : ∀ a, H1 a = none → HL a ≠ none → ∃ φ, HL a = some (.ext φ)
def ExtKept (HL H : Hp) : Prop := ∀ a φ, HL a = some (.ext φ) → H a = some (.ext φ)
/-- H' is H without what was lent from H1 to HL -/
structure Unlent (H1 HL H H' : Hp) : Prop where
  down : ∀ a o, H' a = some o → H a = some o
  keep : ∀ a o, H a = some o → ¬ (H1 a = none ∧ HL a ≠ none) → H' a = some o
/-- H'' is H' with what was lent in H -/
structure Relent (H1 HL H H' H'' : Hp) : Prop where
  up : ∀ a o, H' a = some o → H'' a = some o
  back : ∀ a o, H1 a = none → HL a ≠ none → H a = some o → H'' a = some o
theorem Unlent.plain {H1 HL H H' : Hp} (u : Unlent H1 HL H H') (l : Lent H1 HL) (k : ExtKept HL H) {a : Addr} {o : HO} (e : H a = some o) (n : ∀ φ, o ≠ .ext φ) : H' a = some o := u.keep a o e fun ⟨z1, z2⟩ => by
  obtain ⟨φ, q⟩ := l.ext a z1 z2
  have := k a φ q
  rw [e] at this
  exact n φ (Option.some.inj this)
theorem ExtKept.same {HL H H' : Hp} (k : ExtKept HL H) (s : Same H H') : ExtKept HL H' := fun a φ e => s _ _ (k a φ e)
theorem ExtKept.refl (H : Hp) : ExtKept H H := fun _ _ e => e
/-- the promise of a function made here, its cells lent: body tb, the captured ones ws -/
def kClo (HC : Addr → Sp → Prop) (n : Nat) (tb : TE) (N : List Str) (ws : List (Option V)) (H1 HL : Hp) (f : Addr) : Prop :=
  ∃ S, HC f S ∧ ∀ (us : List V) (H : Hp) (Q : VK), us.length = n → ExtKept HL H → (∀ H0, Unlent H1 HL H H0 → tb (startF N us ws) H0 fun v H0' => ∀ H'', Relent H1 HL H H0' H'' → Q v H'') → S us H Q E0
/-- x(..), the function made here among the arguments -/
def tCWL (HC : Addr → Sp → Prop) (LM : Addr → HO → Addr → Prop) (q : Str) (tb : TE) (n : Nat) (N : List Str) (js : List Nat) (sp : Sp) (t : TA) : TE := fun σ H Q => t σ H fun vs H1 => ∀ HL, Lent H1 HL →
  (∀ f o c', LM f o c' → HL f = some o → HL c' = some (CodeO c' q) → kClo HC n tb N (js.map (slotAt σ)) H1 HL f) → sp vs HL (fun v H' => ExtKept HL H' ∧ ∀ H'', Unlent H1 HL H' H'' → Q v H'') E0
section
variable {P : Program} {w : World} {K : PySem.W.Frag} {mg : Str → Option Value} {base : Heap} {k : Nat}
/-- the promise of a lambda -/
theorem held_lam {f c' : Addr} {q : Str} {params : Arguments} {body : Expr} {scope : Scope} {cl : List (Str × Addr)} {pm ctv : Value} {N ps fr : List Str} {ws : List (Option V)} {h1 : Heap} {H1 HL : Hp} {tb : TE} (Sc : NScope N ps fr scope)
    (hb : ∀ us : List Value, us.length = ps.length → bindArgs (PySem.W.kla_fn "<lambda>" q params body scope cl pm (.ref c') ctv) ⟨us, []⟩ = pure (ps.zip us)) (C : CellsAt cl fr ws h1 H1) (hN : ∀ a ∈ cl.map (·.2), H1 a = none) (hL : ∀ a ∈ cl.map (·.2), ∃ o, HL a = some (Ex a o) ∧ h1.get? a = some o)
    (hf : HL f = some (Ex f (lamO q params body scope cl pm c' ctv))) (hc : HL c' = some (CodeO c' q))
    (hcs : ∀ a, H1 a = none → HL a ≠ none → a ∈ cl.map (·.2))
    (hbody : ∀ (A : Around) (outer : List Env) (s : Shared) (H0 : Hp), Room k (A.deeper (envF ⟨"<lambda>", q, params, [], scope, cl, c'⟩ f s.heap.objs.size)) → PE (ncx (L2.CX P w) P w K mg base N ⟨"<lambda>", q, params, [], scope, cl, c'⟩ f A outer s H0 E0) body tb) :
    HeldC P w K mg base (k + 1) f fun us H Q _ => us.length = ps.length ∧ ExtKept HL H ∧ ∀ H0, Unlent H1 HL H H0 → tb (startF N us ws) H0 fun v H0' => ∀ H'', Relent H1 HL H H0' H'' → Q v H'' := by
  refine ⟨fun A outer s H us vs Q hr e0 r ⟨hl, ek, hu⟩ => ?_⟩
  have ho := Ex.get e0.hok (ek f _ hf)
  have hcod := codeO_at e0.hok (ek c' _ hc)
  have at_ : ∀ a ∈ cl.map (·.2), ∃ o, H a = some (Ex a o) ∧ h1.get? a = some o ∧ s.heap.get? a = some o := fun a m => by
    obtain ⟨o, e1, e2⟩ := hL a m
    have e3 := ek a _ e1
    exact ⟨o, e3, e2, Ex.get e0.hok e3⟩
  have xs : Xs (cl.map (·.2)) H := fun a m => .inr ⟨_, (at_ a m).choose_spec.1⟩
  have e1 : Env0 P w K mg base A outer s (mix (cl.map (·.2)) none0 H) := env0_mix e0 xs (fun _ _ => .inl rfl) fun _ _ z => absurd rfl z
  have mem : ∀ {y : Str} {c : Addr}, cl.lookup y = some c → c ∈ cl.map (·.2) := fun {y c} e => List.mem_map.mpr ⟨(y, c), PySem.mem_of_lookup e, rfl⟩
  have cell : ∀ {y : Str} {c : Addr} {v : Option Value}, cl.lookup y = some c → h1.IsCell c v → s.heap.IsCell c v := fun {y c v} e ⟨o, g1, g2⟩ => by
    obtain ⟨o', _, e2, e3⟩ := at_ c (mem e)
    rw [g1] at e2
    cases e2
    exact ⟨o, e3, g2⟩
  have ht := hu (mix (cl.map (·.2)) none0 H) ⟨fun a o e => by
    by_cases m : a ∈ cl.map (·.2)
    · rw [mix_in m] at e; cases e
    · rw [mix_out m] at e; exact e, fun a o e n => by
    refine (mix_out fun m => n ?_).trans e
    obtain ⟨⟨y, c⟩, hm, rfl⟩ := List.mem_map.mp m
    obtain ⟨o', e1, _⟩ := hL _ m
    exact ⟨hN c m, by rw [e1]; exact fun z => nomatch z⟩⟩
  have C1 : CellsAt cl fr ws s.heap (mix (cl.map (·.2)) none0 H) := ⟨C.len, fun y c e => ⟨mix_in (mem e), (C.all y c e).2.choose, cell e (C.all y c e).2.choose_spec⟩, C.inj, fun i y e => by
    obtain ⟨c, hcl, hv⟩ := C.has i y e
    refine ⟨c, hcl, fun v hw => ?_⟩
    obtain ⟨u, ru, hu⟩ := hv v hw
    exact ⟨u, ru, cell hcl hu⟩⟩
  have lim : s.heap.NoLimit := e0.mod.nolimit.keeps fun b o e => (e0.bs b o e).1
  have hlu : us.length = ps.length := by rw [← r.length]; exact hl
  refine codeAny_mono (R := CR (L2.CX P w) outer P w (mix (cl.map (·.2)) none0 H) s (fun v H0' => ∀ H'', Relent H1 HL H H0' H'' → Q v H'') E0) ?_ fun rr s' hq => ?_
  · refine PySem.W.kla_callFunE hr.depth ho rfl Sc.co Sc.gen rfl hcod ?_
    rw [hb us hlu]
    refine wpAny_pure (wpAny_newFunctionEnv Sc.nocell (fun ⟨n, _⟩ hy => Sc.par n (List.of_mem_zip hy).1) (fun h₁ hns hsb => ⟨lim.fresh _ hsb, ?_⟩) Sc.kind)
    have kp : ∀ b o, s.heap.get? b = some o → h₁.get? b = some o := fun b o e => hsb.extBut b o (Nat.ne_of_lt (Heap.lt_size e)) (Heap.get?_push_of_some _ e)
    have I := inv_startN (CX := L2.CX P w) (F := ⟨"<lambda>", q, params, [], scope, cl, c'⟩) (f := f) (E := E0) (tk := s.toks + (ps.zip us).length) Sc hr.hd e1 hl r C1 hns kp
    exact PySem.W.kla_codeExpr (wpAny_mono ((hbody A outer s _ (hr.deeper _)).run [] _ _ _ _ I ht) (fun v s' ⟨x, H', J, rv, z⟩ => ⟨x, H', J.os, J.bare, J.base, J.hok, rv, z⟩) fun e s' z => z)
  · cases rr with
    | error e => exact (cx_never hq).elim
    | ok fl =>
      cases fl with
      | ret u =>
        obtain ⟨v, H2, os, bare, un, hok, rv, z⟩ := hq
        refine ce_own e0 (fun a m => ⟨_, (at_ a m).choose_spec.1⟩) ⟨v, H2, os, bare, un, hok, rv, fun hz => z _ ⟨fun a o e => ?_, fun a o n1 n2 e => (mix_in (hcs a n1 n2)).trans e⟩⟩
        refine (mix_out fun m => ?_).trans e
        rw [hz a m] at e
        cases e
      | next => exact False.elim hq
      | brk => exact False.elim hq
      | cont => exact False.elim hq
end
section
variable {X : Cx} {kf kb : Nat} {fg : Addr} {psg N ps fr : List Str} {spg : Sp} {HC : Addr → Sp → Prop} {x : Str} {p pos : Pos} {e : Expr} {es : List Expr} {t : TA} {tb : TE} {js : List Nat} {params : Arguments} {body : Expr} {scope : Scope}
/-- x(..), a lambda of this frame among the arguments: its cells are lent -/
theorem pe_lend (Fk : Ok X.prog X.w X.K X.mg X.base kf fg psg spg) (hr : Room kf X.A) (hHC : ∀ f S, HeldC X.prog X.w X.K X.mg X.base (kb + 1) f S → HC f S) (hfn : ∀ y, X.fn y = true) (hm : X.mg x = some (.ref fg)) (ha : PA X (e :: es) t) (Sc : NScope N ps fr scope)
    (hb : ∀ (q : Str) (cl : List (Str × Addr)) (pm cv ctv : Value) (us : List Value), us.length = ps.length → bindArgs (PySem.W.kla_fn "<lambda>" q params body scope cl pm cv ctv) ⟨us, []⟩ = pure (ps.zip us))
    (hfree : ∀ y ∈ scope.names, y.2 = .free → X.env.scope.names.lookup y.1 = some .cell ∨ X.env.scope.names.lookup y.1 = some .free) (hfr : ∀ y ∈ fr, (y, NameKind.free) ∈ scope.names) (hjs : js.map (fun j => X.N[j]?) = fr.map some)
    (hbody : ∀ (f c' : Addr) (A : Around) (outer : List Env) (s : Shared) (H0 : Hp), Room kb (A.deeper (envF ⟨"<lambda>", X.env.qual ++ "<lambda>", params, [], scope, cloFrom X.env.cells scope.names [], c'⟩ f s.heap.objs.size)) →
      PE (ncx (L2.CX X.prog X.w) X.prog X.w X.K X.mg X.base N ⟨"<lambda>", X.env.qual ++ "<lambda>", params, [], scope, cloFrom X.env.cells scope.names [], c'⟩ f A outer s H0 E0) body tb)
    (hg : Gl X x := by rfl) (hdb : (x == ("__debug__" : Str)) = false := by decide) (he : starEach (e :: es) X.env = (false, eval e X.env) :: starEach es X.env := by rfl) (hpl : (backTo pos (starEach es X.env)).any (·.1) = false := by rfl) :
    PE X (.Call (.Name x p) (e :: es) [] pos) (tCWL HC (LMr (X.env.qual ++ "<lambda>") params body scope (cloFrom X.env.cells scope.names [])) (X.env.qual ++ "<lambda>") tb ps.length N js spg t) := by
  obtain ⟨fd, F, b, kp, _⟩ := Fk
  refine ⟨fun pins s σ H Q I h => ?_⟩
  refine wpAny_Call_Name_kw (ld_glob I hg hm ?_ hdb)
  refine PySem.W.callWith_K (h₀ := X.base) I.ok.mod.kin kp (thn (ha.run pos pins s σ H _ I h) fun us s1 ⟨vs, H1, I1, r, q⟩ => ⟨I1.kIn, ?_⟩) he hpl
  have cp : Caps X (cloFrom X.env.cells scope.names []) fr js := Caps.made I1.ok hfree hfr hjs
  have C := cells_of I1 cp
  obtain ⟨cs, ecs⟩ : ∃ cs, cs = (cloFrom X.env.cells scope.names []).map (·.2) := ⟨_, rfl⟩
  have hfr2 : ∀ y ∈ scope.names, y.2 = .free → ∃ c, X.env.cells.lookup y.1 = some c := fun y hy e => (hfree y hy e).elim (fun z => I1.ok.has _ (.inl z)) fun z => I1.ok.has _ (.inr z)
  -- a captured cell
  have at_ : ∀ a ∈ cs, H1 a = none ∧ X.base.get? a = none ∧ (¬ a ∈ frs X.stack) ∧ ∃ o v, s1.heap.get? a = some o ∧ o.data = .cell v := fun a m => by
    rw [ecs] at m
    obtain ⟨⟨y, c⟩, hm, rfl⟩ := List.mem_map.mp m
    have hl : X.env.cells.lookup y = some c := by
      rcases cloFrom_mem hm with z | ⟨z1, z2⟩
      · cases z
      · obtain ⟨c1, hc⟩ := hfr2 _ z1 rfl
        have hc : X.env.cells.lookup y = some c1 := hc
        rw [hc] at z2
        have z2 : c = c1 := z2
        rw [z2]
        exact hc
    have above := I1.ok.cab y c (hfn y) hl
    obtain ⟨v, o, ho, hd⟩ := I1.cell y c hl
    refine ⟨I1.freeC y c hl, ?_, fun z => ?_, o, v, ho, hd⟩
    · cases q2 : X.base.get? c with
      | none => rfl
      | some u =>
        exact absurd (Nat.lt_of_lt_of_le (Heap.lt_size q2) (Nat.le_trans I1.ok.bsz above)) (Nat.lt_irrefl _)
    · rcases List.mem_cons.mp (I1.stkSub c z) with e1 | e1
      · obtain ⟨m, ⟨o2, es2, ep2, ho2, hd2, _⟩, _⟩ := I1.loc
        have ho2 : s1.heap.get? X.env.locals = some o2 := ho2
        rw [← show c = X.env.locals from e1, ho] at ho2
        cases ho2
        rw [hd] at hd2
        cases hd2
      · obtain ⟨_, o2, ho2, _⟩ := I1.ok.funs.mem e1
        exact absurd (Nat.lt_of_lt_of_le (Heap.lt_size ho2) above) (Nat.lt_irrefl _)
  obtain ⟨G, eG⟩ : ∃ G : Hp, G = fun a => (s1.heap.get? a).map (Ex a) := ⟨_, rfl⟩
  have gx : ∀ a ∈ cs, ∃ o, G a = some (Ex a o) ∧ s1.heap.get? a = some o := fun a m => by
    obtain ⟨_, _, _, o, v, ho, _⟩ := at_ a m
    exact ⟨o, by rw [eG]; show (s1.heap.get? a).map (Ex a) = _; rw [ho] <;> rfl, ho⟩
  have hcs : ∀ a, H1 a = none → mix cs G H1 a ≠ none → a ∈ cs := fun a n z => by
    by_cases m : a ∈ cs
    · exact m
    · rw [mix_out m, n] at z
      exact absurd rfl z
  have L : Lent H1 (mix cs G H1) := ⟨fun a o ea => (mix_out fun m => by rw [(at_ a m).1] at ea; cases ea).trans ea, fun a n z => by
    obtain ⟨o, g1, _⟩ := gx a (hcs a n z)
    exact ⟨_, (mix_in (hcs a n z)).trans g1⟩⟩
  have e1 : Env0 X.prog X.w X.K X.mg X.base X.A X.stack s1 (mix cs G H1) := env0_mix I1.env0 (fun a m => .inl (at_ a m).1) (fun a m => .inr (gx a m)) fun a m _ => ⟨(at_ a m).2.1, (at_ a m).2.2.1⟩
  have q1 := q _ L fun f o c' lm hf hc => by
    obtain ⟨pm, ctv, rfl⟩ := lm
    refine ⟨_, hHC f _ (held_lam (pm := pm) (ctv := ctv) Sc (hb _ _ _ _ _) C (fun a m => (at_ a (ecs ▸ m)).1) (fun a m => ?_) hf hc (fun a n z => ecs ▸ hcs a n z) (hbody f c')), fun us H Q hl ek st => ⟨hl, ek, st⟩⟩
    obtain ⟨o, g1, g2⟩ := gx a (ecs ▸ m)
    exact ⟨o, (mix_in (ecs ▸ m)).trans g1, g2⟩
  have hl : us.length = psg.length := by rw [← r.length]; exact F.len _ _ _ _ q1
  have bd := b s1 us I1.kIn (by rw [List.append_nil]; exact hl)
  rw [List.append_nil] at bd
  refine wpAny_call (codeAny_mono (F.run X.A X.stack s1 _ ⟨us, []⟩ us vs _ E0 hr e1 bd r q1) fun rr s' hq => ?_)
  cases rr with
  | error e => exact (cx_never hq).elim
  | ok fl =>
    cases fl with
    | ret u =>
      obtain ⟨v, H2, os, bare, un, hok, rv, ek, z⟩ := hq
      have kpt : ∀ a ∈ cs, H2 a = G a := fun a m => by
        obtain ⟨o, g1, _⟩ := gx a m
        rw [ek a _ ((mix_in m).trans g1), g1] <;> rfl
      refine I1.after (ce_lend (fun a m => (at_ a m).1) gx ⟨v, H2, os, bare, un, hok, rv, kpt, z _ ⟨fun a o ea => ?_, fun a o ea n => ?_⟩⟩)
      · by_cases m : a ∈ cs
        · rw [mix_in m] at ea; cases ea
        · rw [mix_out m] at ea; exact ea
      · refine (mix_out fun m => n ⟨(at_ a m).1, ?_⟩).trans ea
        obtain ⟨o', g1, _⟩ := gx a m
        rw [mix_in m, g1]
        exact fun z => nomatch z
    | next => exact False.elim hq
    | brk => exact False.elim hq
    | cont => exact False.elim hq
end
end
/-! ### defs that make functions; steps -/
section
open LamX NdefX
/-- as ok0, the def's code object known -/
theorem ok0C {P : Program} {w : World} {K : PySem.W.Frag} {mg : Str → Option Value} {base : Heap} {k : Nat} {ps N : List Str} {sp : Sp} {x qual : Str} {st : Stmt} (pk : He.Defn) (D : Def K x qual st (He.fAd K pk)) (S : FnScope N ps (defScope st))
    (hb : ∀ (kV doc pm : Value) (an : Option Addr) (cdv ct : Value) (us : List Value), us.length = ps.length → bindArgs (PySem.W.fnOf x qual (defArgs st) (defBody st) (defScope st) .none kV doc pm an cdv ct) ⟨us, []⟩ = pure (ps.zip us))
    (len : ∀ vs H Q E, sp vs H Q E → vs.length = ps.length)
    (hbody : ∀ (A : Around) (outer : List Env) (s : Shared) (H : Hp) (vs : List V) (Q : VK) (E : XK), Room k (A.deeper (envOfC qual (defScope st) s.heap.objs.size (He.fAd K pk) (.ref (He.codeOf K pk)))) → sp vs H Q E →
      ∃ t, PSs (cxOf (L2.CX P w) P w K mg base N qual (defScope st) (He.fAd K pk) (.ref (He.codeOf K pk)) A outer s H E).nox (defBody st) t ∧ t { nx := fun _ H' => Q .non H', rt := Q } (start N vs) H) : Ok P w K mg base (k + 1) (He.fAd K pk) ps sp := by
  obtain ⟨fd, F⟩ := D
  obtain ⟨oc, od, dV, kV, doc, pm, an, cdv, ct, osl, e, lk, hcd, _, _⟩ := F.ex
  obtain ⟨c, rfl⟩ := He.codeIn_ref hcd
  have ec : He.codeOf K pk = c := He.codeOf_eq lk (by rw [e])
  subst ec
  refine ⟨fd, ?_, FunD.bindsN F hb, F.kp, def_lk F⟩
  rw [e]
  refine fn_of (e ▸ lk) hcd S len fun A outer s H vs Q E hr hsp => ?_
  obtain ⟨t, ht, q⟩ := hbody A outer s H vs Q E hr hsp
  exact ⟨t, ht.nox, q⟩
/-- the table of the def's code object serves its lambdas -/
abbrev TbOk (K : PySem.W.Frag) (mg : Str → Option Value) (base : Heap) (pk : He.Defn) : Prop := TabB base mg (He.codeOf K pk) (He.tabOf K (He.codeOf K pk))
theorem tab_mem {P : Addr} {nm : Nat → Nat → Str} : (P, nm) ∈ [((P, nm) : NTab)] := List.mem_singleton.mpr rfl
theorem tab_one {P : Addr} {nm : Nat → Nat → Str} : ∀ p ∈ [((P, nm) : NTab)], p.1 = P → p.2 = nm := fun p hp _ => by rw [List.mem_singleton.mp hp]
theorem tabs_one {P : Addr} {nm : Nat → Nat → Str} {H : Hp} : TabsN [((P, nm) : NTab)] H ↔ TabN H P nm := ⟨fun h => h _ tab_mem, fun h p hp => by rw [List.mem_singleton.mp hp]; exact h⟩
section
variable {σ : St} {H : Hp} {Q : VK} {t : TA} {T : List NTab} {LM : Addr → HO → Addr → Prop} {q : Str} {HC : Addr → Sp → Prop} {tb : TE} {n i : Nat} {N : List Str} {js : List Nat} {sp : Sp}
theorem e_lam (h : TabsN T H) (r : ∀ (f c' : Addr) (o : HO) (H1 : Hp), SameB (T.map (·.1)) H H1 → (∀ b, H1 b = none → H b = none) → TabsN T H1 → H f = none → LM f o c' → H1 f = some o → H1 c' = some (CodeO c' q) → Fn f H1 → Q (.ref f) H1) : tLam T LM q σ H Q := ⟨h, r⟩
theorem e_cwl (h : t σ H fun vs H1 => ∀ HL, Lent H1 HL → (∀ f o c', LM f o c' → HL f = some o → HL c' = some (CodeO c' q) → kClo HC n tb N (js.map (slotAt σ)) H1 HL f) → sp vs HL (fun v H' => ExtKept HL H' ∧ ∀ H'', Unlent H1 HL H' H'' → Q v H'') E0) : tCWL HC LM q tb n N js sp t σ H Q := h
theorem e_ch {f : Addr} {S : Sp} (hs : σ[i]? = some (some (.ref f))) (hc : HC f S) (hf : Fn f H) (h : t σ H fun vs H1 => Fn f H1 ∧ S vs H1 Q E0) : tCallH HC i t σ H Q := ⟨f, S, hs, hc, hf, h⟩
/-- code objects, functions, lent cells are known as they are -/
theorem codeO_ext (c : Addr) (q : Str) : ∃ φ, CodeO c q = .ext φ := ⟨_, rfl⟩
theorem Fn.same {f : Addr} {H H' : Hp} (h : Fn f H) (s : ∀ a φ, H a = some (.ext φ) → H' a = some (.ext φ)) : Fn f H' := let ⟨o, e, z⟩ := h; ⟨o, s _ _ e, z⟩
end
end
/-! ### raising: what a def lets out, own exceptions, the clause that catches them -/
section
open He (ga ma)
variable {P : Program} {w : World} {K : PySem.W.Frag} {mg : Str → Option Value} {base : Heap} {k : Nat} {f : Addr} {ps : List Str} {sp : Sp}
/-- what the def at hand lets out -/
abbrev WofE (E : XK) : WX := fun cls d _ H => E cls d H
theorem tkE {N : List Str} {qual : Str} {scope : Scope} {cdv : Value} {A : Around} {outer : List Env} {s : Shared} {H : Hp} {E : XK} : Takes (cxOf (L2.CX P w) P w K mg base N qual scope f cdv A outer s H E) (WofE E) := takes_of rfl rfl rfl rfl
/-- a def that may raise -/
theorem okX {x qual : Str} {st : Stmt} {N : List Str} (D : Def K x qual st f) (S : FnScope N ps (defScope st))
    (hb : ∀ (kV doc pm : Value) (an : Option Addr) (cdv ct : Value) (us : List Value), us.length = ps.length → bindArgs (PySem.W.fnOf x qual (defArgs st) (defBody st) (defScope st) .none kV doc pm an cdv ct) ⟨us, []⟩ = pure (ps.zip us))
    (len : ∀ vs H Q E, sp vs H Q E → vs.length = ps.length)
    (hbody : ∀ (cdv : Value) (A : Around) (outer : List Env) (s : Shared) (H : Hp) (vs : List V) (Q : VK) (E : XK), Room k (A.deeper (envOfC qual (defScope st) s.heap.objs.size f cdv)) → sp vs H Q E →
      ∃ t, PSs (cxOf (L2.CX P w) P w K mg base N qual (defScope st) f cdv A outer s H E) (defBody st) t ∧ t { nx := fun _ H' => Q .non H', rt := Q } (start N vs) H) : Ok P w K mg base (k + 1) f ps sp := by
  obtain ⟨fd, F⟩ := D
  exact ⟨fd, F.ok S len hbody, FunD.bindsN F hb, F.kp, def_lk F⟩
/-- an own exception class without own __init__ -/
structure ExC (K : PySem.W.Frag) (C : Addr) : Prop where
  q : PySem.W.excIn K C He.veBase "ValueError.__new__" = true
  kp : PySem.W.keepIn K (.ref C) = true
  sub : PySem.W.subIn K (.ref C) (.type "BaseException") = some true
  ty : PySem.W.typeIn K (.ref C) = some (.type "type")
theorem exC_ok {x : Str} (c : (He.Fa.exc x).ok K = true) : ExC K (ga K x) := let ⟨a, b, d, e⟩ := He.exc_ok c; ⟨a, b, d, e⟩
def tRaise (C : Addr) (W : WX) : TS := fun _ σ H => W (.ref C) none σ H
theorem ps_rz {X : Cx} {W : WX} {C : Addr} {x m : Str} {j : Nat} {p p2 pos pos2 : Pos} (c : ExC X.K C) (tk : Takes X W) (gC : X.mg x = some (.ref C)) (hc : X.calm = true := by rfl) (hg : Gl X x := by rfl) (hdb : (x == ("__debug__" : Str)) = false := by decide) :
    PS X (.Raise (some (.Call (.Name x p) [.Constant (.str m) j p2] [] pos)) none pos2) (tRaise C W) := ps_raise hc tk (pmk_own F.excBase_ValueError c.q gC c.kp (raises_own c.sub c.ty) hg hdb)
theorem st_raise {C : Addr} {W : WX} {D : Ends} {σ : St} {H : Hp} (h : W (.ref C) none σ H) : tRaise C W D σ H := h
/-- what isinstance asks of the class of a caught exception -/
structure ExI (K : PySem.W.Frag) (C : Addr) : Prop where
  cl : (PySem.W.clsIn K C).isSome = true
  ga : PySem.W.findIn K (.ref C) "__getattribute__" = some (some (.builtin "BaseException.__getattribute__"))
  gt : PySem.W.findIn K (.ref C) "__getattr__" = some none
  sub : PySem.W.subIn K (.ref C) (.type "BaseException") = some true
  ha : PySem.W.findIn K (.ref C) "__class__" = some (some (.builtin "object.__class__"))
  hn : PySem.W.specialIn K (.builtin "object.__class__") "__get__" = some (some (.builtin "getset_descriptor.__get__"))
  tk : PySem.W.takesIn K (.builtin "object.__class__") = some true
  mr : PySem.W.mroIn K C (.type "object") = some true
def xiB (K : PySem.W.Frag) (C : Addr) : Bool := (PySem.W.clsIn K C).isSome && (decide (PySem.W.findIn K (.ref C) "__getattribute__" = some (some (.builtin "BaseException.__getattribute__"))) && (decide (PySem.W.findIn K (.ref C) "__getattr__" = some none) &&
  (decide (PySem.W.subIn K (.ref C) (.type "BaseException") = some true) && (decide (PySem.W.findIn K (.ref C) "__class__" = some (some (.builtin "object.__class__"))) && (decide (PySem.W.specialIn K (.builtin "object.__class__") "__get__" = some (some (.builtin "getset_descriptor.__get__"))) &&
  (decide (PySem.W.takesIn K (.builtin "object.__class__") = some true) && decide (PySem.W.mroIn K C (.type "object") = some true)))))))
theorem xiB_ok {C : Addr} (h : xiB K C = true) : ExI K C := by
  unfold xiB at h
  simp only [Bool.and_eq_true, decide_eq_true_eq] at h
  obtain ⟨a, b, c, d, e, f, g, i⟩ := h
  exact ⟨a, b, c, d, e, f, g, i⟩
/-- isinstance(e, c) of the exception that the suite holds -/
def rIsiE (K : PySem.W.Frag) (a : Addr) (cls : Value) (d : Option Addr) : List V → Hp → VK → Prop := fun xs H Q => ∃ (c : V) (u : Value) (C : Addr) (b : Bool), xs = [.ref a, c] ∧ ClsV c u ∧ cls = .ref C ∧ d = none ∧ ExI K C ∧ PySem.W.kitOne K (.ref C) u = some b ∧ Q (.bl b) H
theorem call_isiE {X : Cx} {a : Addr} {oe : Obj} {cls : Value} {d : Option Addr} {pn : List (Addr × Obj)} (hz : Zc cls d oe) (hf : ∃ vs, oe.data = .fields vs) : CallR (X.suite a ((a, oe) :: pn)) (.builtin "isinstance") (rIsiE X.K a cls d) := by
  intro pins s σ H xs us Q I r h
  obtain ⟨c, u, C, b, rfl, kc, rfl, rfl, xi, e, q⟩ := h
  obtain ⟨u1, u2, rfl, r1, r2⟩ := vals2 r
  have e2 := kc.eq r2
  subst e2
  cases (show u1 = Value.ref a from r1)
  obtain ⟨ha, _⟩ := I.pin (a, oe) (List.mem_append_left _ List.mem_cons_self)
  obtain ⟨vs, hd⟩ := hf
  have J : PySem.W.InstAt s.heap a oe C none := ⟨ha, hz.1, by unfold PySem.W.notCls; rw [hd] <;> rfl, by rw [hz.2]; trivial⟩
  exact PySem.W.kia_one (PySem.W.kitx_exc (gt := none) xi.cl xi.ga xi.gt xi.sub xi.ha xi.hn xi.tk xi.mr) I.kIn J e (fun z => nomatch z) fun tk => ⟨.bl b, H, I.tok tk, rfl, q⟩
/-- try: tb / except c as n: ts -/
def tTryAs (K : PySem.W.Frag) (c : Value) (i : Nat) (tb : WX → TS) (ts : Addr → Value → Option Addr → TS) (W : WX) : TS := fun D σ H => tb (wAs K c i ts W D) D σ H
theorem st_tryAs {c : Value} {i : Nat} {tb : WX → TS} {ts : Addr → Value → Option Addr → TS} {W : WX} {D : Ends} {σ : St} {H : Hp} (h : tb (wAs K c i ts W D) D σ H) : tTryAs K c i tb ts W D σ H := h
/-- o.m(..), what is let out by W -/
def tMW (C : Addr) (m : Str) (sp : Sp) (W : WX) (ta : TE) (t : TA) : TE := fun σ H Q => ta σ H fun x H1 => kMC C m x H1 (t σ H1 fun vs H2 => sp (x :: vs) H2 Q (fun cls d H' => W cls d σ H'))
theorem e_mw {C : Addr} {m : Str} {sp : Sp} {W : WX} {ta : TE} {t : TA} {σ : St} {H : Hp} {Q : VK} (h : ta σ H fun x H1 => kMC C m x H1 (t σ H1 fun vs H2 => sp (x :: vs) H2 Q (fun cls d H' => W cls d σ H'))) : tMW C m sp W ta t σ H Q := h
section
variable {X : Cx} {W : WX} {C : Addr} {ns : List Str} {m : Str} {pos apos : Pos} {e o : Expr} {es : List Expr} {ta : TE} {t : TA}
theorem an_methW {pl : Sem Bool} (c : IsC X.K C ns) (hm : Meth X.K C m f) (F : Ok X.prog X.w X.K X.mg X.base k f ps sp) (hr : Room k X.A) (tk : Takes X W) (he : PE X o ta) (ha : PA X (e :: es) t)
    (hst : starEach (e :: es) X.env = (false, eval e X.env) :: starEach es X.env := by rfl) (hpl : (backTo pos (starEach es X.env)).any (·.1) = false := by rfl)
    (ht : eval (.Call (.Attribute o m apos) (e :: es) [] pos) X.env = (do
      let ov ← eval o X.env
      standAt apos.atName
      let (f, first) ← holding [ov] (getMethod ov m pl)
      callWith pos f first (backTo pos (starEach (e :: es) X.env)) (backToKw pos (keywordEach [] X.env))) := by rfl) : PE X (.Call (.Attribute o m apos) (e :: es) [] pos) (tMW C m sp W ta t) := by
  refine ⟨fun pins s σ H Q I h => ?_⟩
  refine PySem.W.methodCall_KW (pl := pl) (thn (he.run pins s σ H _ I h) fun u s1 ⟨x, H1, I1, rx, a, dx, fs, ex, ea, l, q⟩ => ?_) ht
  subst ex
  obtain rfl : u = Value.ref a := rx
  obtain ⟨fd, F, b, kp, _⟩ := F
  refine getmeth_ok I1 ea c.cl hm l ?_
  refine PySem.W.callWith_K (first := [.ref a]) (h₀ := X.base) I.ok.mod.kin hm.kp (thn (ha.run pos pins s1 σ H1 _ I1 q) fun us s2 ⟨vs, H2, I2, r, q2⟩ => ⟨I2.kIn, ?_⟩) hst hpl
  exact run_fnS (us := .ref a :: us) (vs := .ref a :: vs) F hr b (passAt tk σ) I2 (.cons rfl r) q2
theorem an_methW0 {pl : Sem Bool} (c : IsC X.K C ns) (hm : Meth X.K C m f) (F : Ok X.prog X.w X.K X.mg X.base k f ps sp) (hr : Room k X.A) (tk : Takes X W) (he : PE X o ta)
    (ht : eval (.Call (.Attribute o m apos) [] [] pos) X.env = (do
      let ov ← eval o X.env
      standAt apos.atName
      let (f, first) ← holding [ov] (getMethod ov m pl)
      callWith pos f first (backTo pos (starEach [] X.env)) (backToKw pos (keywordEach [] X.env))) := by rfl) : PE X (.Call (.Attribute o m apos) [] [] pos) (tMW C m sp W ta tNil) := by
  refine ⟨fun pins s σ H Q I h => ?_⟩
  refine PySem.W.methodCall_KW (pl := pl) (thn (he.run pins s σ H _ I h) fun u s1 ⟨x, H1, I1, rx, a, dx, fs, ex, ea, l, q⟩ => ?_) ht
  subst ex
  obtain rfl : u = Value.ref a := rx
  obtain ⟨fd, F, b, kp, _⟩ := F
  refine getmeth_ok I1 ea c.cl hm l ?_
  exact PySem.W.callWith_K0 (first := [.ref a]) I1.kIn hm.kp (run_fnS (us := [.ref a]) (vs := [.ref a]) F hr b (passAt tk σ) I1 (.cons rfl .nil) q)
end
end
/-! ### virtual methods of pieces; gather -/
/-- what serves a method m of the pieces R, by class -/
abbrev six : List Str := ["Number", "Name", "Gate", "Sum", "Least", "Most"]
abbrev SpT (α : Type) : Type := (Addr → Prop) → α → List V → Hp → VK → XK → Prop
def spv {α : Type} (R : TRel α) (C : α → Prop) (cls : α → Str) (spt : SpT α) (c : Str) : Sp := fun vs H Q E => ∃ (v : V) (us : List V) (t : α) (A : Addr → Prop), vs = v :: us ∧ R H A t v ∧ C t ∧ cls t = c ∧ spt A t us H Q E
def VMs (K : PySem.W.Frag) (m : Str) {α : Type} (R : TRel α) (C : α → Prop) (cls : α → Str) (spt : SpT α) : Addr → Addr → Sp → Prop := fun Cc f sp => ∃ c, c ∈ six ∧ Cc = ga K c ∧ f = ma K (ga K c) m ∧ sp = spv R C cls spt c
def PcObj (K : PySem.W.Frag) (m : Str) {α : Type} (R : TRel α) (cls : α → Str) : Prop := ∀ (H : Hp) (A : Addr → Prop) (t : α) (v : V), R H A t v → ∃ a dx ns vs, v = .ref a ∧ A a ∧ H a = some (ob (ga K (cls t)) ns dx vs) ∧ posOf ns m = none ∧ cls t ∈ six
def Nd.cls {α : Type} : Nd α → Str
  | .num _ => "Number"
  | .nm _ => "Name"
  | .gate _ _ _ => "Gate"
  | .ch k _ => k.cls
theorem kd_six (k : Kd) : k.cls ∈ six := by cases k <;> decide
theorem kd_num (k : Kd) : ¬ k.cls = "Number" := by cases k <;> decide
theorem kd_name (k : Kd) : ¬ k.cls = "Name" := by cases k <;> decide
theorem kd_gate (k : Kd) : ¬ k.cls = "Gate" := by cases k <;> decide
theorem cls_six {α : Type} (t : Nd α) : t.cls ∈ six := by
  cases t with
  | ch k _ => exact kd_six k
  | num _ => exact (by decide : ("Number" : Str) ∈ six)
  | nm _ => exact (by decide : ("Name" : Str) ∈ six)
  | gate _ _ _ => exact (by decide : ("Gate" : Str) ∈ six)
def mOk (m : Str) : Bool := ([["rank", "number"], ["rank", "name"], ["rank", "name", "bound", "inner"], ["rank", "sign", "pieces"]] : List (List Str)).all fun ns => (posOf ns m).isNone
theorem PcNd.obj {K : PySem.W.Frag} {m : Str} (hm : mOk m = true) {α : Type} {R : TRel α} : PcObj K m (PcNd K R) Nd.cls := by
  intro H A t v h
  have hh := List.all_eq_true.mp hm
  cases t with
  | num n =>
    obtain ⟨a, dx, e, ha, h⟩ := h
    exact ⟨a, dx, _, _, e, ha, h, Option.isNone_iff_eq_none.mp (hh _ (by simp)), cls_six (.num n : Nd α)⟩
  | nm x =>
    obtain ⟨a, dx, e, ha, h⟩ := h
    exact ⟨a, dx, _, _, e, ha, h, Option.isNone_iff_eq_none.mp (hh _ (by simp)), cls_six (.nm x : Nd α)⟩
  | gate x b t =>
    obtain ⟨a, dx, u, e, ha, h, _⟩ := h
    exact ⟨a, dx, _, _, e, ha, h, Option.isNone_iff_eq_none.mp (hh _ (by simp)), cls_six (.gate x b t : Nd α)⟩
  | ch k ts =>
    obtain ⟨a, dx, l, e, ha, h, _⟩ := h
    exact ⟨a, dx, _, _, e, ha, h, Option.isNone_iff_eq_none.mp (hh _ (by simp)), cls_six (.ch k ts : Nd α)⟩
theorem noR.obj {K : PySem.W.Frag} {m : Str} {cls : Empty → Str} : PcObj K m noR cls := fun _ _ _ _ h => h.elim
theorem kd_cls {k j : Kd} (h : k.cls = j.cls) : k = j := by cases k <;> cases j <;> first | rfl | exact absurd h (by decide)
/-! the names of a tree -/
def adds (l xs : List Str) : List Str := xs.foldl (fun l x => if x ∈ l then l else l ++ [x]) l
theorem adds_app (l xs ys : List Str) : adds l (xs ++ ys) = adds (adds l xs) ys := List.foldl_append
theorem adds_len (l xs : List Str) : (adds l xs).length ≤ l.length + xs.length := by
  induction xs generalizing l with
  | nil => exact Nat.le_refl _
  | cons x xs ih =>
    show (adds (if x ∈ l then l else l ++ [x]) xs).length ≤ _
    refine Nat.le_trans (ih _) ?_
    split
    · simp only [List.length_cons]; omega
    · simp only [List.length_cons, List.length_append, List.length_nil]; omega
abbrev dB (l : List Str) : HO := dS (l.map fun x => (x, V.bl true))
theorem put_dB (l : List Str) (x : Str) : putS (l.map fun x => (x, V.bl true)) x (V.bl true) = (adds l [x]).map fun x => (x, V.bl true) := by
  show _ = (if x ∈ l then l else l ++ [x]).map _
  by_cases h : x ∈ l
  · rw [if_pos h]
    unfold putS
    rw [any_key, List.map_map]
    rw [if_pos (by simpa using h), List.map_map]
    apply List.map_congr_left
    intro y _
    show (if y = x then (y, V.bl true) else (y, V.bl true)) = _
    split <;> rfl
  · rw [if_neg h, putS_new _ (by rw [List.map_map]; simpa using h), List.map_append]
    rfl
def nmNd {α : Type} (nm : α → List Str) : Nd α → List Str
  | .num _ => []
  | .nm x => [x]
  | .gate x _ t => x :: nm t
  | .ch _ ts => ts.flatMap nm
def nmT : (n : Nat) → TrD n → List Str
  | 0 => nmNd fun (e : Empty) => e.elim
  | n + 1 => nmNd (nmT n)
def spt_g {α : Type} (nm : α → List Str) : SpT α := fun A t us H Q _ => ∃ d l, us = [.ref d] ∧ ¬ A d ∧ H d = some (dB l) ∧ l.length + (nm t).length < 1000 ∧ ∀ H', SameB [d] H H' → H' d = some (dB (adds l (nm t))) → Q (.ref d) H'
abbrev sp_gath (K : PySem.W.Frag) {α : Type} (R : TRel α) (C : List Str → α → Prop) (ys : List Str) (nm : α → List Str) : Str → Sp := spv (PcNd K R) (NdOk C ys) Nd.cls (spt_g (nmNd nm))
theorem ln_gath {α : Type} {R : TRel α} {C : α → Prop} {cls : α → Str} {nm : α → List Str} {c : Str} (vs : List V) (H : Hp) (Q : VK) (E : XK) (h : spv R C cls (spt_g nm) c vs H Q E) : vs.length = 2 := by
  obtain ⟨_, _, _, _, rfl, _, _, _, _, _, rfl, _⟩ := h
  rfl
abbrev ns_Name : List Str := ["rank", "name"]
abbrev ns_Gate : List Str := ["rank", "name", "bound", "inner"]
abbrev ns_Chain : List Str := ["rank", "sign", "pieces"]
abbrev n_Piece_gather : List Str := ["self", "found"]
def t_Piece_gather (K : PySem.W.Frag) (W : WX) : TS :=
  tRet (tVar 1)
theorem pure_Piece_gather {K : PySem.W.Frag} {α : Type} {R : TRel α} {C : List Str → α → Prop} {ys : List Str} {nm : α → List Str} {vs : List V} {H : Hp} {Q : VK} {E : XK} {W : WX} (h : sp_gath K R C ys nm "Number" vs H Q E) : t_Piece_gather K W { nx := fun _ H' => Q .non H', rt := Q } (start n_Piece_gather vs) H := by
  obtain ⟨v, us, t, A, rfl, hR, hC, hc, d, l, rfl, hA, hd, hl, kk⟩ := h
  show t_Piece_gather K W _ [some v, some (.ref d)] H
  unfold t_Piece_gather
  walk_at "go"
  cases t with
  | num n => exact kk _ SameB.refl hd
  | nm x => exact absurd hc (by decide : ¬ ("Name" : Str) = "Number")
  | gate x b t => exact absurd hc (by decide : ¬ ("Gate" : Str) = "Number")
  | ch k ts => exact absurd hc (kd_num k)
abbrev n_Name_gather : List Str := ["self", "found"]
def t_Name_gather (K : PySem.W.Frag) (W : WX) : TS :=
  tSeq (sDp (tVar 1) (tFi (ga K "Name") ns_Name 1 (tVar 0)) (tC (.bl true)))
  (tRet (tVar 1))
theorem pure_Name_gather {K : PySem.W.Frag} {α : Type} {R : TRel α} {C : List Str → α → Prop} {ys : List Str} {nm : α → List Str} {vs : List V} {H : Hp} {Q : VK} {E : XK} {W : WX} (h : sp_gath K R C ys nm "Name" vs H Q E) : t_Name_gather K W { nx := fun _ H' => Q .non H', rt := Q } (start n_Name_gather vs) H := by
  obtain ⟨v, us, t, A, rfl, hR, hC, hc, d, l, rfl, hA, hd, hl, kk⟩ := h
  cases t with
  | num n => exact absurd hc (by decide : ¬ ("Number" : Str) = "Name")
  | nm x =>
    obtain ⟨a, dx, rfl, ha, ho⟩ := hR
    show t_Name_gather K W _ [some (.ref a), some (.ref d)] H
    unfold t_Name_gather
    walk_at "go"
    refine k_fi ho rfl ?_
    refine k_dp hd (by rw [List.length_map]; exact small1000 (by omega)) ?_
    walk_at "go"
    rw [put_dB]
    exact kk _ (SameB.refl.put (by simp)) upd_same
  | gate x b t => exact absurd hc (by decide : ¬ ("Gate" : Str) = "Name")
  | ch k ts => exact absurd hc (kd_name k)
abbrev n_Gate_gather : List Str := ["self", "found"]
def t_Gate_gather (K : PySem.W.Frag) (W : WX) (VM_gather : Addr → Addr → Sp → Prop) : TS :=
  tSeq (sDp (tVar 1) (tFi (ga K "Gate") ns_Gate 1 (tVar 0)) (tC (.bl true)))
  (tRet (tVM VM_gather "gather" (tFi (ga K "Gate") ns_Gate 3 (tVar 0)) (tCons (tVar 1) tNil)))
theorem pure_Gate_gather {K : PySem.W.Frag} {α : Type} {R : TRel α} {C : List Str → α → Prop} {cls : α → Str} {ys : List Str} {nm : α → List Str} (g : Good2 R) (hO : PcObj K "gather" R cls) {vs : List V} {H : Hp} {Q : VK} {E : XK} {W : WX} (h : sp_gath K R C ys nm "Gate" vs H Q E) :
    t_Gate_gather K W (VMs K "gather" R (C ys) cls (spt_g nm)) { nx := fun _ H' => Q .non H', rt := Q } (start n_Gate_gather vs) H := by
  obtain ⟨v, us, t, A, rfl, hR, hC, hc, d, l, rfl, hA, hd, hl, kk⟩ := h
  cases t with
  | num n => exact absurd hc (by decide : ¬ ("Number" : Str) = "Gate")
  | nm x => exact absurd hc (by decide : ¬ ("Name" : Str) = "Gate")
  | gate x b t =>
    obtain ⟨a, dx, u, rfl, ha, ho, hR⟩ := hR
    show t_Gate_gather K W _ _ [some (.ref a), some (.ref d)] H
    unfold t_Gate_gather
    have hl2 : l.length + (nm t).length + 1 < 1000 := hl
    walk_at "go"
    refine k_fi ho rfl ?_
    refine k_dp hd (by rw [List.length_map]; exact small1000 (by omega)) ?_
    walk_at "go"
    rw [put_dB]
    have s1 : SameB [d] H (upd H d (dB (adds l [x]))) := SameB.refl.put (by simp)
    have hR1 : R (upd H d (dB (adds l [x]))) A t u := g _ _ _ _ _ _ hR fun b (o : HO) hb e => ⟨(upd_ne (fun z : b = d => hA (by rw [← z]; exact hb))).trans e, hb⟩
    have had : a ≠ d := fun z => hA (z ▸ ha)
    have ho1 : upd H d (dB (adds l [x])) a = _ := (upd_ne had).trans ho
    refine k_fi ho1 rfl ?_
    obtain ⟨a2, dx2, ns2, vs2, rfl, ha2, ho2, hn, h6⟩ := hO _ _ _ _ hR1
    refine k_vm ho2 hn ⟨_, h6, rfl, rfl, rfl⟩ ?_
    walk_at "go"
    refine ⟨_, _, t, A, rfl, hR1, hC.2.2.2, rfl, d, _, rfl, hA, upd_same, ?_, fun H' s2 h2 => ?_⟩
    · have := adds_len l [x]
      simp only [List.length_cons, List.length_nil] at this
      omega
    · walk_at "go"
      refine kk _ (s1.trans s2) ?_
      rw [h2]
      rfl
  | ch k ts => exact absurd hc (kd_gate k)
abbrev n_Chain_gather : List Str := ["self", "found", "piece"]
def t_Chain_gather (K : PySem.W.Frag) (W : WX) (C : Addr) (VM_gather : Addr → Addr → Sp → Prop) : TS :=
  tSeq (tFor (iList K (tFi C ns_Chain 2 (tVar 0))) (gName 2) (tDrop (tVM VM_gather "gather" (tVar 2) (tCons (tVar 1) tNil))))
  (tRet (tVar 1))
theorem adds_le (l : List Str) {α : Type} (nm : α → List Str) (ts : List α) (i : Nat) : (adds l ((ts.take i).flatMap nm)).length + ((ts.drop i).flatMap nm).length ≤ l.length + (ts.flatMap nm).length := by
  have h := adds_len l ((ts.take i).flatMap nm)
  have e : (ts.flatMap nm).length = ((ts.take i).flatMap nm).length + ((ts.drop i).flatMap nm).length := by
    rw [← List.length_append, ← List.flatMap_append, List.take_append_drop]
  omega
theorem pure_Chain_gather {K : PySem.W.Frag} {α : Type} {R : TRel α} {C : List Str → α → Prop} {cls : α → Str} {ys : List Str} {nm : α → List Str} {k : Kd} (g : Good2 R) (hO : PcObj K "gather" R cls) {vs : List V} {H : Hp} {Q : VK} {E : XK} {W : WX} (h : sp_gath K R C ys nm k.cls vs H Q E) :
    t_Chain_gather K W (ga K k.cls) (VMs K "gather" R (C ys) cls (spt_g nm)) { nx := fun _ H' => Q .non H', rt := Q } (start n_Chain_gather vs) H := by
  obtain ⟨v, us, t, A, rfl, hR, hC, hc, d, l, rfl, hA, hd, hl, kk⟩ := h
  cases t with
  | num n => exact absurd hc.symm (kd_num k)
  | nm x => exact absurd hc.symm (kd_name k)
  | gate x b t => exact absurd hc.symm (kd_gate k)
  | ch j ts =>
    obtain rfl := kd_cls hc
    obtain ⟨a, dx, lp, rfl, ha, ho, l', us, e, hl', hAl, P⟩ := hR
    cases e
    show t_Chain_gather K W _ _ _ [some (.ref a), some (.ref d), none] H
    unfold t_Chain_gather
    have hl2 : l.length + (ts.flatMap nm).length < 1000 := hl
    have lus := Paired.length P
    have keep : ∀ {H' : Hp}, SameB [d] H H' → ∀ b o, A b → H b = some o → H' b = some o ∧ A b := fun {H'} s b o hb e => ⟨s _ _ (by simpa using fun z : b = d => hA (by rw [← z]; exact hb)) e, hb⟩
    walk_at "go"
    refine k_fi ho rfl ?_
    refine k_forL (fun i σ H' => (∃ o, σ = [some (.ref a), some (.ref d), o]) ∧ SameB [d] H H' ∧ H' d = some (dB (adds l ((ts.take i).flatMap nm)))) (SqL.of hl') ⟨⟨_, rfl⟩, SameB.refl, hd⟩ (fun i σ H' _ p => SqL.of (keep p.2.1 _ _ hAl hl').1) ?_ ?_
    · rintro i x σ H' hx ⟨⟨o, rfl⟩, s1, h1⟩
      obtain ⟨t, ht, hR⟩ := paired_at P hx
      have hR1 : R H' A t x := g _ _ _ _ _ _ hR (keep s1)
      walk_at "go"
      obtain ⟨a2, dx2, ns2, vs2, rfl, ha2, ho2, hn, h6⟩ := hO _ _ _ _ hR1
      refine k_vm ho2 hn ⟨_, h6, rfl, rfl, rfl⟩ ?_
      walk_at "go"
      have hil := List.getElem?_eq_some_iff.mp ht
      have ed : ts.drop i = t :: ts.drop (i + 1) := by rw [List.drop_eq_getElem_cons hil.1, hil.2]
      have et : ts.take (i + 1) = ts.take i ++ [t] := by rw [List.take_succ_eq_append_getElem hil.1, hil.2]
      refine ⟨_, _, t, A, rfl, hR1, hC.2.2 _ (List.mem_of_getElem? ht), rfl, d, _, rfl, hA, h1, ?_, fun H2 s2 h2 => ?_⟩
      · have := adds_le l nm ts i
        rw [ed, List.flatMap_cons, List.length_append] at this
        omega
      · refine ⟨⟨_, rfl⟩, s1.trans s2, ?_⟩
        rw [h2, et, List.flatMap_append, adds_app]
        simp
    · rintro σ H' ⟨⟨o, rfl⟩, s1, h1⟩
      walk_at "go"
      refine kk _ s1 ?_
      rw [h1, List.take_of_length_le (by omega)]
      rfl
/-! names_of -/
def sp_names_of (K : PySem.W.Frag) (ys : List Str) (n : Nat) : Sp := fun vs H Q _ => ∃ (v : V) (t : TrD n) (A : Addr → Prop), vs = [v] ∧ PcR K n H A t v ∧ TreeOk n ys t ∧ (nmT n t).length < 1000 ∧ ∀ r H', Same H H' → H r = none → H' r = some (.lst ((adds [] (nmT n t)).map V.str)) → Q (.ref r) H'
theorem ln_names_of {K : PySem.W.Frag} {ys : List Str} {n : Nat} (vs : List V) (H : Hp) (Q : VK) (E : XK) (h : sp_names_of K ys n vs H Q E) : vs.length = 1 := by
  obtain ⟨_, _, _, rfl, _⟩ := h
  rfl
def clsT : (n : Nat) → TrD n → Str
  | 0 => Nd.cls
  | _ + 1 => Nd.cls
theorem PcR.obj {K : PySem.W.Frag} {m : Str} (hm : mOk m = true) : ∀ n, PcObj K m (PcR K n) (clsT n)
  | 0 => PcNd.obj hm
  | _ + 1 => PcNd.obj hm
abbrev n_names_of : List Str := ["recipe"]
def t_names_of (K : PySem.W.Frag) (W : WX) (VM_gather : Addr → Addr → Sp → Prop) : TS :=
  tRet (tCB rListD (tCons (tVM VM_gather "gather" (tVar 0) (tCons tDNewK tNil)) tNil))
theorem pure_names_of {K : PySem.W.Frag} {ys : List Str} {n : Nat} {vs : List V} {H : Hp} {Q : VK} {E : XK} {W : WX} (h : sp_names_of K ys n vs H Q E) :
    t_names_of K W (VMs K "gather" (PcR K n) (TreeOk n ys) (clsT n) (spt_g (nmT n))) { nx := fun _ H' => Q .non H', rt := Q } (start n_names_of vs) H := by
  obtain ⟨v, t, A, rfl, hR, hC, hl, kk⟩ := h
  show t_names_of K W _ _ [some v] H
  unfold t_names_of
  walk_at "go"
  have hR0 : PcR K n H (fun a => (H a).isSome = true) t v := PcR.good n _ _ _ _ _ _ hR fun a o _ e => ⟨e, by rw [e]; rfl⟩
  obtain ⟨a, dx, ns, vs, rfl, ha, ho, hn, h6⟩ := PcR.obj (m := "gather") (by decide +kernel) n _ _ _ _ hR0
  refine k_vm ho hn ⟨_, h6, rfl, rfl, rfl⟩ ?_
  walk_at "go"
  intro d hd
  walk_at "go"
  have hR1 : PcR K n (upd H d (.dK [])) (fun a => (H a).isSome = true) t (.ref a) := PcR.good n _ _ _ _ _ _ hR0 fun b o hb e => ⟨(same1 hd) _ _ e, hb⟩
  refine ⟨_, _, t, _, rfl, hR1, hC, rfl, d, [], rfl, (by show ¬ (H d).isSome = true; rw [hd]; simp), upd_same, by simpa using hl, fun H1 s1 h1 => ?_⟩
  walk_at "go"
  have sH : Same H H1 := s1.from (same1 hd) (by simpa using hd)
  refine e_listD h1 fun r hr => ?_
  walk_at "go"
  refine kk r _ (same_up sH hr) ?_ ?_
  · cases q : H r with
    | none => rfl
    | some o => rw [sH _ _ q] at hr; cases hr
  · rw [upd_same, List.map_map]
    rfl
/-! ### the law's trees: text and words of the law's three storeys -/
section
variable {P : Program} {w : World} {K : PySem.W.Frag} {mg : Str → Option Value} {base : Heap} {k : Nat} {f : Addr} {ps : List Str}
/-- a promise for each i is a promise of some i -/
theorem Ok.ex {ι : Type} {sp : ι → Sp} (i0 : ι) (h : ∀ i, Ok P w K mg base k f ps (sp i)) : Ok P w K mg base k f ps fun vs H Q E => ∃ i, sp i vs H Q E := by
  obtain ⟨fd, F, b, kp, oc, od, osl, lk⟩ := h i0
  have hF : ∀ i, FnOk P w K mg base (L2.CX P w) k f fd ps (sp i) := fun i => by
    obtain ⟨fd2, F2, _, _, oc2, od2, osl2, lk2⟩ := h i
    rw [lk] at lk2
    cases lk2
    exact F2
  exact ⟨fd, ⟨fun vs H Q E ⟨i, q⟩ => (hF i).len vs H Q E q, fun A outer s H args us vs Q E hr e0 bd r ⟨i, q⟩ => (hF i).run A outer s H args us vs Q E hr e0 bd r q⟩, b, kp, oc, od, osl, lk⟩
end
theorem wd_0 {ys : List Str} {t : TrD 0} (h : TreeOk 0 ys t) (f : Int) : (wd 0 t f).length = 1 := by
  cases t with
  | num n => rfl
  | nm x => rfl
  | gate x b t => exact t.elim
  | ch k ts =>
    have : 2 ≤ ts.length := h.1
    cases ts with
    | nil => simp at this
    | cons e _ => exact e.elim
theorem wd_1 {ys : List Str} {t : TrD 1} (h : TreeOk 1 ys t) (f : Int) : (wd 1 t f).length ≤ 7 := wd_len (M := 1) (fun t f h => Nat.le_of_eq (wd_0 h f)) t f h
theorem wd_2 {ys : List Str} {t : TrD 2} (h : TreeOk 2 ys t) (f : Int) : (wd 2 t f).length ≤ 25 := wd_len (M := 7) (fun t f h => wd_1 h f) t f h
theorem wr_0 {ys : List Str} (hy : ∀ x ∈ ys, x.length ≤ 6) {t : TrD 0} (h : TreeOk 0 ys t) (f : Int) : (wr 0 t f).length ≤ 12 := wr_len (M := 0) hy (fun (e : Empty) => e.elim) t f h
theorem wr_1 {ys : List Str} (hy : ∀ x ∈ ys, x.length ≤ 6) {t : TrD 1} (h : TreeOk 1 ys t) (f : Int) : (wr 1 t f).length ≤ 48 := wr_len (M := 12) hy (fun t f h => wr_0 hy h f) t f h
theorem wr_2 {ys : List Str} (hy : ∀ x ∈ ys, x.length ≤ 6) {t : TrD 2} (h : TreeOk 2 ys t) (f : Int) : (wr 2 t f).length ≤ 156 := wr_len (M := 48) hy (fun t f h => wr_1 hy h f) t f h
theorem wd_firm {α : Type} (d : α → Int → List Str) (t : Nd α) : wdNd d t 0 = wdNd d t 1 := by
  cases t with
  | num n => rfl
  | nm x => rfl
  | gate x b t => rfl
  | ch k ts =>
    have := rank_le k
    show (if k.rank < 0 then _ else _) = if k.rank < 1 then _ else _
    rw [if_neg (by omega), if_neg (by omega)]
theorem wdT_firm (n : Nat) (t : TrD n) : wd n t 0 = wd n t 1 := by
  cases n with
  | zero => exact wd_firm _ t
  | succ n => exact wd_firm _ t
theorem nm_len {α : Type} {C : List Str → α → Prop} {ys : List Str} {nm : α → List Str} {M : Nat} (h : ∀ t, C ys t → (nm t).length ≤ M) (t : Nd α) (ht : NdOk C ys t) : (nmNd nm t).length ≤ 3 * M + 1 := by
  cases t with
  | num n => exact Nat.zero_le _
  | nm x => show 1 ≤ _; omega
  | gate x b t =>
    have := h t ht.2.2.2
    show (nm t).length + 1 ≤ _
    omega
  | ch k ts =>
    obtain ⟨_, t3, ct⟩ := ht
    have key : ∀ l : List α, (∀ t ∈ l, C ys t) → (l.flatMap nm).length ≤ l.length * M := by
      intro l
      induction l with
      | nil => intro _; simp
      | cons t l ih =>
        intro hl
        rw [List.flatMap_cons, List.length_append, List.length_cons, Nat.succ_mul]
        have := ih fun t ht => hl t (List.mem_cons_of_mem _ ht)
        have := h t (hl t List.mem_cons_self)
        omega
    have h1 := key ts ct
    have h2 : ts.length * M ≤ 3 * M := Nat.mul_le_mul_right _ t3
    show (ts.flatMap nm).length ≤ _
    omega
theorem nm_2 {ys : List Str} {t : TrD 2} (h : TreeOk 2 ys t) : (nmT 2 t).length ≤ 13 := nm_len (M := 4) (nm_len (M := 1) (nm_len (M := 0) fun (e : Empty) => e.elim)) t h
/-! ### _law_named -/
def sp_named {α : Type} (R : TRel α) (C : List Str → α → Prop) (ys : List Str) (nm : α → List Str) : Sp := fun vs H Q _ => ∃ (v : V) (t : α) (A : Addr → Prop), vs = [v] ∧ R H A t v ∧ C ys t ∧ ∀ r H', Same H H' → H r = none → H' r = some (.lst ((nm t).map V.str)) → Q (.ref r) H'
theorem ln_named {α : Type} {R : TRel α} {C : List Str → α → Prop} {ys : List Str} {nm : α → List Str} (vs : List V) (H : Hp) (Q : VK) (E : XK) (h : sp_named R C ys nm vs H Q E) : vs.length = 1 := by
  obtain ⟨_, _, _, rfl, _⟩ := h
  rfl
abbrev n__law_named : List Str := ["_law_tree_here", "_law_out", "_law_piece"]
def t__law_named (K : PySem.W.Frag) (W : WX) (S__law_named : Sp) : TS :=
  tSeq (tIfS (tTest (tOp rEq (tOp (rIxT K) (tVar 0) (tC (.int 0))) (tC (.str "number")))) (tRet (tLst tNil)) tNext)
  (tSeq (tIfS (tTest (tOp rEq (tOp (rIxT K) (tVar 0) (tC (.int 0))) (tC (.str "name")))) (tRet (tLst (tCons (tOp (rIxT K) (tVar 0) (tC (.int 1))) tNil))) tNext)
  (tSeq (tIfS (tTest (tOp rEq (tOp (rIxT K) (tVar 0) (tC (.int 0))) (tC (.str "gate")))) (tRet (tOp rCat (tLst (tCons (tOp (rIxT K) (tVar 0) (tC (.int 1))) tNil)) (tCW S__law_named W (tCons (tOp (rIxT K) (tVar 0) (tC (.int 3))) tNil)))) tNext)
  (tSeq (tAsg (tLst tNil) (gName 1))
  (tSeq (tFor (iList K (tOp (rIxT K) (tVar 0) (tC (.int 1)))) (gName 2) (tAsg (tOp rCat (tVar 1) (tCW S__law_named W (tCons (tVar 2) tNil))) (gName 1)))
  (tRet (tVar 1))))))
theorem fresh_of {H H' : Hp} {r : Addr} (s : Same H H') (h : H' r = none) : H r = none := by
  cases q : H r with
  | none => rfl
  | some o => rw [s _ _ q] at h; cases h
theorem pure__law_named {K : PySem.W.Frag} {α : Type} {R : TRel α} {C : List Str → α → Prop} {ys : List Str} {nm : α → List Str} {M : Nat} (g : Good R) (hM : M ≤ 1000) (hw : ∀ t, C ys t → (nm t).length ≤ M) {vs : List V} {H : Hp} {Q : VK} {E : XK} {W : WX}
    (h : sp_named (NdR R) (NdOk C) ys (nmNd nm) vs H Q E) : t__law_named K W (sp_named R C ys nm) { nx := fun _ H' => Q .non H', rt := Q } (start n__law_named vs) H := by
  obtain ⟨v, t, A, rfl, r, ok, kk⟩ := h
  show t__law_named K W _ _ [some v, none, none] H
  unfold t__law_named
  cases t with
  | num n =>
    obtain ⟨a, rfl, ha⟩ := r
    walk_at "go"
    refine e_ixT (SqT.of ha) (at_of (j := 0) rfl rfl) ?_
    walk_at "go"
    refine ifd (fun _ => ?_) (fun h => absurd rfl h)
    walk_at "go"
    exact fun l hl => kk l _ (same1 hl) hl upd_same
  | nm x =>
    obtain ⟨a, rfl, ha⟩ := r
    walk_at "go"
    refine e_ixT (SqT.of ha) (at_of (j := 0) rfl rfl) ?_
    walk_at "go"
    refine ifd (fun h => absurd h (by decide)) (fun _ => ?_)
    walk_at "go"
    refine e_ixT (SqT.of ha) (at_of (j := 0) rfl rfl) ?_
    walk_at "go"
    refine ifd (fun _ => ?_) (fun h => absurd rfl h)
    walk_at "go"
    refine e_ixT (SqT.of ha) (at_of (j := 1) rfl rfl) ?_
    walk_at "go"
    exact fun l hl => kk l _ (same1 hl) hl upd_same
  | gate x b t =>
    obtain ⟨a, u, rfl, ha, ru⟩ := r
    obtain ⟨hx, b0, b1, ct⟩ := ok
    walk_at "go"
    refine e_ixT (SqT.of ha) (at_of (j := 0) rfl rfl) ?_
    walk_at "go"
    refine ifd (fun h => absurd h (by decide)) (fun _ => ?_)
    walk_at "go"
    refine e_ixT (SqT.of ha) (at_of (j := 0) rfl rfl) ?_
    walk_at "go"
    refine ifd (fun h => absurd h (by decide)) (fun _ => ?_)
    walk_at "go"
    refine e_ixT (SqT.of ha) (at_of (j := 0) rfl rfl) ?_
    walk_at "go"
    refine ifd (fun _ => ?_) (fun h => absurd rfl h)
    walk_at "go"
    refine e_ixT (SqT.of ha) (at_of (j := 1) rfl rfl) ?_
    walk_at "go"
    intro l hl
    have s1 : Same H (upd H l (.lst [.str x])) := same1 hl
    walk_at "go"
    refine e_ixT (SqT.of (s1 _ _ ha)) (at_of (j := 3) rfl rfl) ?_
    walk_at "go"
    refine ⟨u, t, A, rfl, g.same s1 ru, ct, fun r H2 s2 r0 h2 => ?_⟩
    have hw2 := hw t ct
    refine e_cat (s2 _ _ upd_same) h2 (by rw [sizeLine_eq, List.length_map]; simp only [List.length_singleton]; omega) fun q hq => ?_
    walk_at "go"
    refine kk q _ ((s1.trans s2).trans (same1 hq)) (fresh_of (s1.trans s2) hq) ?_
    rw [upd_same]
    rfl
  | ch kd ts =>
    obtain ⟨a, l, us, rfl, ha, hl, hA, P⟩ := r
    obtain ⟨t2, t3, ct⟩ := ok
    have nw : ∀ z : Str, z = "number" ∨ z = "name" ∨ z = "gate" → ¬ kd.word = z := by
      rintro z (rfl | rfl | rfl) <;> cases kd <;> decide
    walk_at "go"
    refine e_ixT (SqT.of ha) (at_of (j := 0) rfl rfl) ?_
    walk_at "go"
    refine ifd (fun h => absurd h (nw _ (.inl rfl))) (fun _ => ?_)
    walk_at "go"
    refine e_ixT (SqT.of ha) (at_of (j := 0) rfl rfl) ?_
    walk_at "go"
    refine ifd (fun h => absurd h (nw _ (.inr (.inl rfl)))) (fun _ => ?_)
    walk_at "go"
    refine e_ixT (SqT.of ha) (at_of (j := 0) rfl rfl) ?_
    walk_at "go"
    refine ifd (fun h => absurd h (nw _ (.inr (.inr rfl)))) (fun _ => ?_)
    walk_at "go"
    intro o ho
    walk_at "go"
    have s1 : Same H (upd H o (.lst [])) := same1 ho
    refine e_ixT (SqT.of (s1 _ _ ha)) (at_of (j := 1) rfl rfl) ?_
    refine k_forL (fun i σ H' => ∃ b v2, σ = [some (.ref a), some (.ref b), v2] ∧ Same H H' ∧ H b = none ∧ H' b = some (.lst (((ts.take i).flatMap nm).map V.str)) ∧ ((ts.take i).flatMap nm).length ≤ i * M) (SqL.of (s1 _ _ hl)) ⟨o, none, rfl, s1, ho, upd_same, Nat.zero_le _⟩ (fun i σ H' _ ⟨_, _, _, s, _⟩ => SqL.of (s _ _ hl)) ?_ ?_
    · rintro i x σ H5 hi ⟨b, v2, rfl, s5, b0, hb, lb⟩
      obtain ⟨t', ht', r'⟩ := paired_at P hi
      have hil := List.getElem?_eq_some_iff.mp ht'
      have htm : t' ∈ ts := List.mem_of_getElem? ht'
      have et : ts.take (i + 1) = ts.take i ++ [t'] := by rw [List.take_succ_eq_append_getElem hil.1, hil.2]
      have lw := hw t' (ct _ htm)
      have hil1 := hil.1
      have i2 : i * M ≤ 2 * M := Nat.mul_le_mul_right _ (by omega)
      walk_at "go"
      refine ⟨x, t', A, rfl, g.same s5 r', ct _ htm, fun r H6 s6 r0 h6 => ?_⟩
      refine e_cat (s6 _ _ hb) h6 (by rw [sizeLine_eq, List.length_map, List.length_map]; omega) fun q hq => ?_
      walk_at "go"
      refine ⟨q, _, rfl, (s5.trans s6).trans (same1 hq), fresh_of (s5.trans s6) hq, ?_, ?_⟩
      · rw [upd_same, et, List.flatMap_append, List.map_append]
        simp
      · rw [et, List.flatMap_append, List.length_append, Nat.succ_mul]
        simp only [List.flatMap_cons, List.flatMap_nil, List.append_nil]
        omega
    · rintro σ H5 ⟨b, v2, rfl, s5, b0, hb, lb⟩
      have lu : us.length = ts.length := (Paired.length P).symm
      rw [lu, List.take_of_length_le (Nat.le_refl _)] at hb
      walk_at "go"
      exact kk b _ s5 b0 hb
local macro_rules | `(tactic| walk_at "g1") => `(tactic| apply_rules (transparency := .reducible) (maxDepth := 1000000) -symm -exfalso only [e_cwl])
local macro_rules | `(tactic| walk_at "g1") => `(tactic| apply_rules (transparency := .reducible) (maxDepth := 1000000) -symm -exfalso only [st_raise, e_mw, st_tryAs])
/-! ### number_of, whatever the word -/
def numOf (z : Str) : Option Int := match z.cps.toList with
  | [a] => if a ∈ FG then some ((a : Int) - 48) else none
  | [a, b] => if a ∈ FG ∧ b ∈ FG ∧ a ≠ 48 ∧ ((a : Int) - 48) * 10 + ((b : Int) - 48) ≤ 30 then some (((a : Int) - 48) * 10 + ((b : Int) - 48)) else none
  | _ => none
def sp_number_ofX (K : PySem.W.Frag) : Sp := fun vs H Q E => ∃ z : Str, vs = [.str z] ∧ z.length ≤ 1000 ∧ (∀ n, numOf z = some n → Q (.int n) H) ∧ (numOf z = none → E (.ref (ga K "NoRecipe")) none H)
theorem ln_number_ofX {K : PySem.W.Frag} {vs : List V} {H : Hp} {Q : VK} {E : XK} (h : sp_number_ofX K vs H Q E) : vs.length = 1 := by
  obtain ⟨n, rfl, _⟩ := h
  rfl
abbrev n_number_ofX : List Str := ["word", "sign"]
def t_number_ofX (K : PySem.W.Frag) (W : WX) : TS :=
  tSeq (tIfS (tOr (tTest (tOp rEq (tVar 0) (tC (.str "")))) (tTest (tOp rGtI (tCB rLenT (tCons (tVar 0) tNil)) (tC (.int 2))))) (tRaise (ga K "NoRecipe") W) tNext)
  (tSeq (tFor (iStr (tVar 0)) (gName 1) (tIfS (tTest (tOp rNotInS (tVar 1) (tC (.str "0123456789")))) (tRaise (ga K "NoRecipe") W) tNext))
  (tSeq (tIfS (tOr (tAnd (tTest (tOp rEq (tOp rIxS (tVar 0) (tC (.int 0))) (tC (.str "0")))) (tTest (tOp rGtI (tCB rLenT (tCons (tVar 0) tNil)) (tC (.int 1))))) (tTest (tOp rGtI (tCB rIntS (tCons (tVar 0) tNil)) (tC (.int 30))))) (tRaise (ga K "NoRecipe") W) tNext)
  (tRet (tCB rIntS (tCons (tVar 0) tNil)))))
theorem int_1 : ∀ a ∈ FG, PySem.intText? (⟨#[a]⟩ : Str) = some ((a : Int) - 48) ∧ (a : Int) - 48 ≤ 9 := by decide +kernel
theorem int_2 : ∀ a ∈ FG, ∀ b ∈ FG, PySem.intText? (⟨#[a, b]⟩ : Str) = some (((a : Int) - 48) * 10 + ((b : Int) - 48)) := by decide +kernel
theorem one_zero (a : Nat) : ((⟨#[a]⟩ : Str) = "0") ↔ a = 48 := by
  constructor
  · intro h
    have h2 : [a] = [48] := congrArg (fun s : Str => s.cps.toList) h
    exact (List.cons.inj h2).1
  · rintro rfl
    rfl
theorem str_of_list {z : Str} {l : List Nat} (h : z.cps.toList = l) : z = ⟨l.toArray⟩ := by
  obtain ⟨a⟩ := z
  cases h
  rfl
theorem pure_number_ofX {K : PySem.W.Frag} {vs : List V} {H : Hp} {Q : VK} {E : XK} (h : sp_number_ofX K vs H Q E) : t_number_ofX K (WofE E) { nx := fun _ H' => Q .non H', rt := Q } (start n_number_ofX vs) H := by
  obtain ⟨z, rfl, hz, kq, ke⟩ := h
  show t_number_ofX K _ _ [some (.str z), none] H
  unfold t_number_ofX
  have hzl : z.length ≤ sizeLine := by rw [sizeLine_eq]; omega
  walk_at "go"
  refine ifd (fun h => ?_) (fun hne => ?_)
  · walk_at "go"
    exact ke (by rw [h]; rfl)
  walk_at "go"
  refine e_lenT hzl ?_
  walk_at "go"
  refine ifd (fun h => ?_) (fun hle => ?_)
  · walk_at "go"
    refine ke ?_
    unfold numOf
    have hl := len_z z
    generalize z.cps.toList = l at hl
    match l with
    | [] => rfl
    | [a] => simp at hl; omega
    | [a, b] => simp at hl; omega
    | a :: b :: c :: r => rfl
  walk_at "go"
  refine k_forS (fun i σ H' => (∃ v, σ = [some (.str z), v]) ∧ H' = H ∧ ∀ c ∈ z.cps.toList.take i, c ∈ FG) ⟨⟨_, rfl⟩, rfl, by simp⟩ ?_ ?_
  · rintro i c σ H' hc ⟨⟨v, rfl⟩, rfl, hF⟩
    walk_at "go"
    refine ifn (fun hn => ?_) (fun hy => ?_)
    · walk_at "go"
      refine ke ?_
      have hm := List.mem_of_getElem? hc
      unfold numOf
      generalize z.cps.toList = l at hm
      match l, hm with
      | [], hm => cases hm
      | [a], hm =>
        rw [List.mem_singleton.mp hm] at hn
        exact if_neg hn
      | [a, b], hm =>
        refine if_neg fun ⟨h1, h2, _⟩ => ?_
        simp only [List.mem_cons, List.not_mem_nil, or_false] at hm
        rcases hm with e | e
        · exact hn (by rw [e]; exact h1)
        · exact hn (by rw [e]; exact h2)
      | a :: b :: c :: r, _ => rfl
    · walk_at "go"
      refine ⟨⟨_, rfl⟩, rfl, fun x hx => ?_⟩
      rw [List.take_add_one, hc] at hx
      rcases List.mem_append.mp hx with q | q
      · exact hF x q
      · rw [List.mem_singleton.mp q]
        exact Classical.not_not.mp (fun z => z hy)
  · rintro σ H' ⟨⟨v, rfl⟩, rfl, hF⟩
    have hl := len_z z
    rw [← hl, List.take_length] at hF
    generalize hzz : z.cps.toList = l at hl hF
    have ez := str_of_list hzz
    match l, hl, hF, hzz, ez with
    | [], hl, hF, hzz, ez => exact absurd (ez.trans rfl) hne
    | [a], hl, hF, hzz, ez =>
      have ha := hF a (by simp)
      have ix : atI z.cps.toList 0 = some a := by rw [hzz]; rfl
      have i1 := int_1 a ha
      rw [← ez] at i1
      have en : numOf z = some ((a : Int) - 48) := by
        unfold numOf
        rw [hzz]
        exact if_pos ha
      walk_at "go"
      refine e_ixS hzl ix ?_
      walk_at "go"
      have e1 : decide ((1 : Int) < (z.length : Int)) = false := decide_eq_false (by rw [← hl]; simp)
      have h6 : z.length ≤ 640 := by rw [← hl]; simp
      refine ifd (fun _ => ?_) (fun _ => ?_)
      · walk_at "go"
        refine e_lenT hzl ?_
        walk_at "go"
        rw [e1]
        refine iteF ?_
        walk_at "go"
        refine ⟨z, _, rfl, i1.1, h6, ?_⟩
        walk_at "go"
        refine ifd (fun h => by have := i1.2; omega) (fun _ => ?_)
        walk_at "go"
        exact ⟨z, _, rfl, i1.1, h6, kq _ en⟩
      · refine iteF ?_
        walk_at "go"
        refine ⟨z, _, rfl, i1.1, h6, ?_⟩
        walk_at "go"
        refine ifd (fun h => by have := i1.2; omega) (fun _ => ?_)
        walk_at "go"
        exact ⟨z, _, rfl, i1.1, h6, kq _ en⟩
    | [a, b], hl, hF, hzz, ez =>
      have ha := hF a (by simp)
      have hb := hF b (by simp)
      have ix : atI z.cps.toList 0 = some a := by rw [hzz]; rfl
      have i1 := int_2 a ha b hb
      rw [← ez] at i1
      have en : numOf z = if a ∈ FG ∧ b ∈ FG ∧ a ≠ 48 ∧ ((a : Int) - 48) * 10 + ((b : Int) - 48) ≤ 30 then some (((a : Int) - 48) * 10 + ((b : Int) - 48)) else none := by
        unfold numOf
        rw [hzz]
      walk_at "go"
      refine e_ixS hzl ix ?_
      walk_at "go"
      have h6 : z.length ≤ 640 := by rw [← hl]; simp
      have e1 : decide ((1 : Int) < (z.length : Int)) = true := decide_eq_true (by rw [← hl]; simp)
      refine ifd (fun h0 => ?_) (fun h0 => ?_)
      · walk_at "go"
        refine e_lenT hzl ?_
        walk_at "go"
        rw [e1]
        refine iteT ?_
        walk_at "go"
        exact ke (by rw [en]; exact if_neg fun q => q.2.2.1 ((one_zero a).mp h0))
      · refine iteF ?_
        walk_at "go"
        refine ⟨z, _, rfl, i1, h6, ?_⟩
        walk_at "go"
        refine ifd (fun h => ?_) (fun h => ?_)
        · walk_at "go"
          exact ke (by rw [en]; exact if_neg fun q => by have := q.2.2.2; omega)
        · walk_at "go"
          refine ⟨z, _, rfl, i1, h6, ?_⟩
          exact kq _ (by rw [en]; exact if_pos ⟨ha, hb, fun e => h0 ((one_zero a).mpr e), by omega⟩)
    | a :: b :: c :: r, hl, hF, hzz, ez =>
      exfalso
      simp at hl
      omega
/-! ### words_of, whatever the text -/
/-- a text's codes, the words ahead of the first code that is none (false), or all (true) -/
inductive TokE : List Nat → List Str → Bool → Prop where
  | nil : TokE [] [] true
  | bad {c : Nat} {r : List Nat} : ¬ c ∈ LT → ¬ c ∈ FG → ¬ c ∈ SG → c ≠ 32 → TokE (c :: r) [] false
  | sp {r : List Nat} {ws : List Str} {ok : Bool} : TokE r ws ok → TokE (32 :: r) ws ok
  | sg {c : Nat} {r : List Nat} {ws : List Str} {ok : Bool} : c ∈ SG → TokE r ws ok → TokE (c :: r) (⟨#[c]⟩ :: ws) ok
  | lt {x r : List Nat} {ws : List Str} {ok : Bool} : x ≠ [] → (∀ c ∈ x, c ∈ LT) → (∀ c, r.head? = some c → ¬ c ∈ LT) → TokE r ws ok → TokE (x ++ r) (⟨x.toArray⟩ :: ws) ok
  | fg {x r : List Nat} {ws : List Str} {ok : Bool} : x ≠ [] → (∀ c ∈ x, c ∈ FG) → (∀ c, r.head? = some c → ¬ c ∈ FG) → TokE r ws ok → TokE (x ++ r) (⟨x.toArray⟩ :: ws) ok
theorem Toks.toE {l : List Nat} {ws : List Str} (h : Toks l ws) : TokE l ws true := by
  induction h with
  | nil => exact .nil
  | sp _ ih => exact .sp ih
  | sg hc _ ih => exact .sg hc ih
  | lt h1 h2 h3 _ ih => exact .lt h1 h2 h3 ih
  | fg h1 h2 h3 _ ih => exact .fg h1 h2 h3 ih
theorem span_of (p : Nat → Prop) [DecidablePred p] : ∀ l : List Nat, ∃ x r, l = x ++ r ∧ (∀ c ∈ x, p c) ∧ (∀ c, r.head? = some c → ¬ p c) ∧ ∀ c, l.head? = some c → p c → x ≠ []
  | [] => ⟨[], [], rfl, by simp, by simp, by simp⟩
  | a :: l => by
    by_cases ha : p a
    · obtain ⟨x, r, e, h1, h2, _⟩ := span_of p l
      exact ⟨a :: x, r, by rw [e]; rfl, by simpa using ⟨ha, h1⟩, h2, fun _ _ _ => by simp⟩
    · exact ⟨[], a :: l, rfl, by simp, by simpa using ha, fun c hc hp => by simp at hc; exact absurd (hc ▸ hp) ha⟩
theorem tok_all : ∀ (n : Nat) (l : List Nat), l.length ≤ n → ∃ ws ok, TokE l ws ok
  | _, [], _ => ⟨_, _, .nil⟩
  | n + 1, a :: l, hn => by
    have hl : l.length ≤ n := by simpa using hn
    by_cases h1 : a ∈ LT
    · obtain ⟨x, r, e, hx, hr, hne⟩ := span_of (· ∈ LT) (a :: l)
      have hx0 := hne a rfl h1
      have h3 := congrArg List.length e
      have : 0 < x.length := List.length_pos_iff.mpr hx0
      rw [List.length_append] at h3
      obtain ⟨ws, ok, t⟩ := tok_all n r (by simp at h3; omega)
      exact ⟨_, ok, by rw [e]; exact TokE.lt hx0 hx hr t⟩
    · by_cases h2 : a ∈ FG
      · obtain ⟨x, r, e, hx, hr, hne⟩ := span_of (· ∈ FG) (a :: l)
        have hx0 := hne a rfl h2
        have h3 := congrArg List.length e
        have : 0 < x.length := List.length_pos_iff.mpr hx0
        rw [List.length_append] at h3
        obtain ⟨ws, ok, t⟩ := tok_all n r (by simp at h3; omega)
        exact ⟨_, ok, by rw [e]; exact TokE.fg hx0 hx hr t⟩
      · obtain ⟨ws, ok, t⟩ := tok_all n l hl
        by_cases h3 : a ∈ SG
        · exact ⟨_, ok, .sg h3 t⟩
        · by_cases h4 : a = 32
          · subst h4
            exact ⟨_, ok, .sp t⟩
          · exact ⟨_, _, .bad h1 h2 h3 h4⟩
def sp_words_ofX (K : PySem.W.Frag) : Sp := fun vs H Q E => ∃ (z : Str) (ws : List Str) (ok : Bool), vs = [.str z] ∧ z.length ≤ 100000 ∧ TokE z.cps.toList ws ok ∧
  (z.length ≤ 400 → ok = true → ws.length ≤ 40 → ∀ r H', Same H H' → H r = none → H' r = some (.lst (ws.map V.str)) → Q (.ref r) H') ∧ ((400 < z.length ∨ ok = false ∨ 40 < ws.length) → ∀ H', Same H H' → E (.ref (ga K "NoRecipe")) none H')
theorem ln_words_ofX {K : PySem.W.Frag} {vs : List V} {H : Hp} {Q : VK} {E : XK} (h : sp_words_ofX K vs H Q E) : vs.length = 1 := by
  obtain ⟨z, ws, _, rfl, _⟩ := h
  rfl
abbrev n_words_ofX : List Str := ["text", "words", "at", "end"]
def t_words_ofX (K : PySem.W.Frag) (W : WX) : TS :=
  tSeq (tIfS (tTest (tOp rGtI (tCB rLenT (tCons (tVar 0) tNil)) (tC (.int 400)))) (tRaise (ga K "NoRecipe") W) tNext)
  (tSeq (tAsg (tLst tNil) (gName 1))
  (tSeq (tAsg (tC (.int 0)) (gName 2))
  (tSeq (tWhile (tTest (tOp rLtI (tVar 2) (tCB rLenT (tCons (tVar 0) tNil)))) (tSeq (tAsg (tOp rAddI (tVar 2) (tC (.int 1))) (gName 3))
  (tSeq (tIfS (tTest (tOp rInS (tOp rIxS (tVar 0) (tVar 2)) (tC (.str "abcdefghijklmnopqrstuvwxyz")))) (tAsg (tCW sp_end_of W (tCons (tVar 0) (tCons (tVar 2) (tCons (tC (.str "abcdefghijklmnopqrstuvwxyz")) tNil)))) (gName 3)) (tIfS (tTest (tOp rInS (tOp rIxS (tVar 0) (tVar 2)) (tC (.str "0123456789")))) (tAsg (tCW sp_end_of W (tCons (tVar 0) (tCons (tVar 2) (tCons (tC (.str "0123456789")) tNil)))) (gName 3)) (tIfS (tAnd (tTest (tOp rNotInS (tOp rIxS (tVar 0) (tVar 2)) (tC (.str "+&|()[]")))) (tTest (tOp rNe (tOp rIxS (tVar 0) (tVar 2)) (tC (.str " "))))) (tRaise (ga K "NoRecipe") W) tNext)))
  (tSeq (tIfS (tTest (tOp rNe (tOp rIxS (tVar 0) (tVar 2)) (tC (.str " ")))) (tDrop (tBM K "list" rAppend (tVar 1) (tCons (tSl rSlS (tVar 0) (tPart (tVar 2)) (tPart (tVar 3))) tNil))) tNext)
  (tAsg (tVar 3) (gName 2))))))
  (tSeq (tIfS (tTest (tOp rGtI (tCB (rLenL K) (tCons (tVar 1) tNil)) (tC (.int 40)))) (tRaise (ga K "NoRecipe") W) tNext)
  (tRet (tVar 1))))))
theorem pure_words_ofX {K : PySem.W.Frag} {vs : List V} {H : Hp} {Q : VK} {E : XK} (h : sp_words_ofX K vs H Q E) : t_words_ofX K (WofE E) { nx := fun _ H' => Q .non H', rt := Q } (start n_words_ofX vs) H := by
  obtain ⟨z, ws, ok, rfl, hz, hT, k, ke⟩ := h
  show t_words_ofX K _ _ [some (.str z), none, none, none] H
  unfold t_words_ofX
  have hzl : z.length ≤ sizeLine := by rw [sizeLine_eq]; omega
  walk_at "go"
  refine e_lenT hzl ?_
  walk_at "go"
  refine ifd (fun h => ?_) (fun hz4 => ?_)
  · walk_at "go"
    exact ke (.inl (by omega)) _ (fun _ _ h => h)
  have hz4 : z.length ≤ 400 := by omega
  walk_at "go"
  intro w hwn
  walk_at "go"
  refine st_while (fun n σ H' => ∃ (i : Nat) (pre rest : List Str) (v3 : Option V), σ = [some (.str z), some (.ref w), some (.int (i : Int)), v3] ∧ Same H H' ∧ H' w = some (.lst (pre.map V.str)) ∧ pre ++ rest = ws ∧ TokE (z.cps.toList.drop i) rest ok ∧ i ≤ z.length ∧ pre.length ≤ i ∧ n = z.length - i) z.length
    ⟨0, [], ws, none, rfl, same1 hwn, upd_same, rfl, hT, Nat.zero_le _, Nat.le_refl _, rfl⟩ ?_
  rintro n σ H' ⟨i, pre, rest, v3, rfl, s, hpre, hws, hTi, hi, hpi, rfl⟩
  walk_at "go"
  refine e_lenT hzl ?_
  walk_at "go"
  refine ifd (fun hlt => ?_) (fun hge => ?_)
  · apply st_wt
    have hil : i < z.length := by omega
    have hll : i < z.cps.toList.length := by rw [len_z]; exact hil
    obtain ⟨c, hc⟩ : ∃ c, z.cps.toList[i]? = some c := ⟨_, List.getElem?_eq_getElem hll⟩
    have hdc : z.cps.toList.drop i = c :: z.cps.toList.drop (i + 1) := by
      rw [List.drop_eq_getElem_cons hll]
      rw [List.getElem?_eq_getElem hll] at hc
      rw [Option.some.inj hc]
    have ix := atI_nat hc
    -- the turn's end: a word x, then r
    have fin : ∀ {D : Ends} (x r : List Nat) (rest' : List Str), D.rt = Q → x ≠ [] → z.cps.toList.drop i = x ++ r → c ≠ 32 → rest = ⟨x.toArray⟩ :: rest' → TokE r rest' ok →
        (∀ σ H'', (∃ m', m' < z.length - i ∧ ∃ (i : Nat) (pre rest : List Str) (v3 : Option V), σ = [some (.str z), some (.ref w), some (.int (i : Int)), v3] ∧ Same H H'' ∧ H'' w = some (.lst (pre.map V.str)) ∧ pre ++ rest = ws ∧ TokE (z.cps.toList.drop i) rest ok ∧ i ≤ z.length ∧ pre.length ≤ i ∧ m' = z.length - i) → D.nx σ H'') →
        tSeq (tIfS (tTest (tOp rNe (tOp rIxS (tVar 0) (tVar 2)) (tC (.str " ")))) (tDrop (tBM K "list" rAppend (tVar 1) (tCons (tSl rSlS (tVar 0) (tPart (tVar 2)) (tPart (tVar 3))) tNil))) tNext)
          (tAsg (tVar 3) (gName 2)) D [some (.str z), some (.ref w), some (.int (i : Int)), some (.int ((i + x.length : Nat) : Int))] H' := by
      intro D x r rest' hD hx hd hc32 hrest hTr hN
      have hxl : i + x.length ≤ z.length := by
        have := congrArg List.length hd
        rw [List.length_drop, List.length_append, len_z] at this
        omega
      have hx1 : 0 < x.length := by
        cases x with
        | nil => exact absurd rfl hx
        | cons _ _ => simp
      walk_at "go"
      refine e_ixS hzl ix ?_
      walk_at "go"
      refine ifn (fun _ => ?_) (fun h => absurd ((one_eq c).mp h) hc32)
      walk_at "go"
      refine e_tyl hpre ?_
      walk_at "go"
      refine ⟨z, rfl, hzl, ?_⟩
      rw [cut_at hd rfl hxl]
      walk_at "go"
      refine e_app hpre (by rw [List.length_map]; exact small1000 (by omega)) ?_
      walk_at "go"
      refine hN _ _ ⟨z.length - (i + x.length), by omega, i + x.length, pre ++ [⟨x.toArray⟩], rest', some (.int ((i + x.length : Nat) : Int)), rfl, same_mut s hwn, by rw [upd_same, List.map_append]; rfl, by rw [← hws, hrest, List.append_assoc]; rfl, ?_, hxl, by rw [List.length_append]; simp; omega, rfl⟩
      have e : z.cps.toList.drop (i + x.length) = r := by rw [← List.drop_drop, hd, List.drop_left]
      rw [e]
      exact hTr
    walk_at "go"
    refine e_ixS hzl ix ?_
    walk_at "go"
    generalize hl : z.cps.toList.drop i = l at hTi
    cases hTi with
    | nil => rw [hdc] at hl; cases hl
    | @bad c' r b1 b2 b3 b4 =>
      rw [hdc] at hl
      obtain ⟨rfl, hr⟩ := List.cons.inj hl
      refine ifd (fun h => absurd h b1) (fun _ => ?_)
      walk_at "go"
      refine e_ixS hzl ix ?_
      walk_at "go"
      refine ifd (fun h => absurd h b2) (fun _ => ?_)
      walk_at "go"
      refine e_ixS hzl ix ?_
      walk_at "go"
      refine ifn (fun _ => ?_) (fun h => absurd h b3)
      walk_at "go"
      refine e_ixS hzl ix ?_
      walk_at "go"
      refine ifn (fun _ => ?_) (fun h => absurd ((one_eq c).mp h) b4)
      walk_at "go"
      exact ke (.inr (.inl rfl)) _ s
    | @sp r _ _ hTr =>
      rw [hdc] at hl
      obtain ⟨rfl, hr⟩ := List.cons.inj hl
      refine ifd (fun h => absurd h (by decide +kernel)) (fun _ => ?_)
      walk_at "go"
      refine e_ixS hzl ix ?_
      walk_at "go"
      refine ifd (fun h => absurd h (by decide +kernel)) (fun _ => ?_)
      walk_at "go"
      refine e_ixS hzl ix ?_
      walk_at "go"
      refine ifn (fun _ => ?_) (fun h => absurd h (by decide +kernel))
      walk_at "go"
      refine e_ixS hzl ix ?_
      walk_at "go"
      refine ifn (fun h => absurd ((one_eq 32).mpr rfl) h) (fun _ => ?_)
      walk_at "go"
      refine e_ixS hzl ix ?_
      walk_at "go"
      refine ifn (fun h => absurd ((one_eq 32).mpr rfl) h) (fun _ => ?_)
      walk_at "go"
      have e1 : (i : Int) + 1 = ((i + 1 : Nat) : Int) := by omega
      refine ⟨z.length - (i + 1), by omega, i + 1, pre, rest, some (.int ((i + 1 : Nat) : Int)), by rw [e1]; rfl, s, hpre, hws, ?_, hil, by omega, rfl⟩
      rw [hr]
      exact hTr
    | @sg c' r ws' _ hcs hTr =>
      rw [hdc] at hl
      obtain ⟨rfl, hr⟩ := List.cons.inj hl
      obtain ⟨n1, n2, n3⟩ := sg_not c hcs
      refine ifd (fun h => absurd h n1) (fun _ => ?_)
      walk_at "go"
      refine e_ixS hzl ix ?_
      walk_at "go"
      refine ifd (fun h => absurd h n2) (fun _ => ?_)
      walk_at "go"
      refine e_ixS hzl ix ?_
      walk_at "go"
      refine ifn (fun h => absurd hcs h) (fun _ => ?_)
      apply st_next
      refine fin [c] r ws' rfl (by simp) (by rw [hdc, hr]; rfl) n3 rfl hTr fun _ _ h => h
    | @lt x r ws' _ hx hxs hr hTr =>
      have hc0 : c ∈ LT := by
        rw [hdc] at hl
        cases x with
        | nil => exact absurd rfl hx
        | cons y x => exact (List.cons.inj hl).1 ▸ hxs y List.mem_cons_self
      refine ifd (fun _ => ?_) (fun h => absurd hc0 h)
      walk_at "go"
      refine ⟨z, _, i, x, r, rfl, by omega, hl, hxs, hr, ?_⟩
      refine fin x r ws' rfl hx hl (lt_not c hc0) rfl hTr fun _ _ h => h
    | @fg x r ws' _ hx hxs hr hTr =>
      have hc0 : c ∈ FG := by
        rw [hdc] at hl
        cases x with
        | nil => exact absurd rfl hx
        | cons y x => exact (List.cons.inj hl).1 ▸ hxs y List.mem_cons_self
      refine ifd (fun h => absurd h (fg_not c hc0).1) (fun _ => ?_)
      walk_at "go"
      refine e_ixS hzl ix ?_
      walk_at "go"
      refine ifd (fun _ => ?_) (fun h => absurd hc0 h)
      walk_at "go"
      refine ⟨z, _, i, x, r, rfl, by omega, hl, hxs, hr, ?_⟩
      refine fin x r ws' rfl hx hl (fg_not c hc0).2 rfl hTr fun _ _ h => h
  · have e : i = z.length := by omega
    subst e
    rw [List.drop_of_length_le (by rw [len_z]; exact Nat.le_refl _)] at hTi
    generalize hl : ([] : List Nat) = l at hTi
    cases hTi with
    | nil =>
      rw [List.append_nil] at hws
      subst hws
      walk_at "go"
      refine e_lenL (SqL.of hpre) ?_
      rw [List.length_map]
      walk_at "go"
      refine ifd (fun h => ?_) (fun h => ?_)
      · walk_at "go"
        exact ke (.inr (.inr (by omega))) _ s
      walk_at "go"
      exact k hz4 rfl (by omega) w H' s hwn hpre
    | bad _ _ _ _ => cases hl
    | sp _ => cases hl
    | sg _ _ => cases hl
    | @lt x r ws' _ hx _ _ _ =>
      cases x with
      | nil => exact absurd rfl hx
      | cons _ _ => cases hl
    | @fg x r ws' _ hx _ _ _ =>
      cases x with
      | nil => exact absurd rfl hx
      | cons _ _ => cases hl
/-! ### the reader, whatever the words: as plain functions -/
/-- a recipe, of any storeys -/
inductive Pt : Type where
  | mk : Nd Pt → Pt
def PcX (K : PySem.W.Frag) : Nat → TRel Pt
  | 0 => fun _ _ _ _ => False
  | n + 1 => fun H A t v => match t with
    | .mk d => PcNd K (PcX K n) H A d v
theorem PcX.good {K : PySem.W.Frag} : ∀ n, Good2 (PcX K n)
  | 0 => fun _ _ _ _ _ _ h => h.elim
  | n + 1 => fun H H' A A' t v h f => match t, h with
    | .mk d, h => PcNd.good (PcX.good n) H H' A A' d v h f
theorem PcNd.imp {K : PySem.W.Frag} {α : Type} {R R' : TRel α} (f : ∀ H A t v, R H A t v → R' H A t v) {H : Hp} {A : Addr → Prop} {t : Nd α} {v : V} (h : PcNd K R H A t v) : PcNd K R' H A t v := by
  cases t with
  | num n => exact h
  | nm x => exact h
  | gate x b t =>
    obtain ⟨a, dx, u, e, ha, h, r⟩ := h
    exact ⟨a, dx, u, e, ha, h, f _ _ _ _ r⟩
  | ch k ts =>
    obtain ⟨a, dx, l, e, ha, h, l', us, e', hl, hA, P⟩ := h
    exact ⟨a, dx, l, e, ha, h, l', us, e', hl, hA, Paired.mapP P fun _ _ z => f _ _ _ _ z⟩
theorem PcX.succ {K : PySem.W.Frag} : ∀ n H A t v, PcX K n H A t v → PcX K (n + 1) H A t v
  | 0, _, _, _, _, h => h.elim
  | n + 1, _, _, .mk _, _, h => PcNd.imp (PcX.succ n) h
theorem PcX.mono {K : PySem.W.Frag} {n m : Nat} {H : Hp} {A : Addr → Prop} {t : Pt} {v : V} (h : PcX K n H A t v) (l : n ≤ m) : PcX K m H A t v := by
  induction l with
  | refl => exact h
  | step _ ih => exact PcX.succ _ _ _ _ _ ih
theorem PcX.ref {K : PySem.W.Frag} {n : Nat} (H : Hp) (A : Addr → Prop) (t : Pt) (v : V) (h : PcX K n H A t v) : ∃ a, v = .ref a := by
  cases n with
  | zero => exact h.elim
  | succ n =>
    obtain ⟨d⟩ := t
    exact PcNd.ref h
abbrev PRd : Type := List Str → Option (Pt × List Str)
def chainF (inner : PRd) (sg : Str) : Nat → List Pt → List Str → Option (List Pt × List Str)
  | 0, _, _ => none
  | f + 1, acc, ws => if ws.headD "" = sg then (match inner ws.tail with
    | none => none
    | some (t, r) => chainF inner sg f (acc ++ [t]) r) else some (acc, ws)
def chainedF (inner : PRd) (sg : Str) (ws : List Str) : Option (List Pt × List Str) := match inner ws with
  | none => none
  | some (t, r) => match chainF inner sg (r.length + 1) [t] r with
    | none => none
    | some (ts, r) => if 8 < ts.length then none else some (ts, r)
def lvF (k : Kd) (inner : PRd) : PRd := fun ws => match chainedF inner k.wd ws with
  | none => none
  | some ([t], r) => some (t, r)
  | some (ts, r) => some (.mk (.ch k ts), r)
def wholeF (single : PRd) : PRd := lvF .most (lvF .least (lvF .sum single))
/-- behind a first bracket of a gate; the gate's piece by p -/
def gatedF (p : Option PRd) : PRd := fun ws => if nameB (ws.headD "") = true then (match numOf (ws.tail.headD "") with
    | none => none
    | some b => if b = 0 then none else if ws.tail.tail.headD "" = "]" then (match p with
      | none => none
      | some p => match p ws.tail.tail.tail with
        | none => none
        | some (t, r) => some (.mk (.gate (ws.headD "") b t), r)) else none) else none
def bracketF (p : Option PRd) : PRd := fun ws => match p with
  | none => none
  | some p => match p ws with
    | none => none
    | some (t, r) => if r.headD "" = ")" then some (t, r.tail) else none
def leafF (w : Str) (r : List Str) : Option (Pt × List Str) := if nameB w = true then some (.mk (.nm w), r) else match numOf w with
  | none => none
  | some c => some (.mk (.num c), r)
def singleF : Nat → PRd
  | 0 => fun ws => if ws.headD "" = "(" then none else if ws.headD "" = "[" then gatedF none ws.tail else leafF (ws.headD "") ws.tail
  | n + 1 => fun ws => if ws.headD "" = "(" then bracketF (some (wholeF (singleF n))) ws.tail else if ws.headD "" = "[" then gatedF (some (singleF n)) ws.tail else leafF (ws.headD "") ws.tail
def parseF (ws : List Str) : Option Pt := match wholeF (singleF 2) ws with
  | none => none
  | some (t, r) => if r.headD "" = "" then some t else none
/-- what a reading function does: it reads off what p reads, or is refused -/
def sp_px (K : PySem.W.Frag) (p : PRd) (n m : Nat) (args : List V) : Sp := fun vs H Q E => ∃ (rd : Addr) (W : List Str) (i dp : Nat), vs = .ref rd :: args ∧ RdR K H rd W i dp ∧ dp + n = 2 ∧ (∀ w ∈ W, w.length ≤ 400) ∧
  (∀ t r, p (W.drop i) = some (t, r) → ∀ (v : V) (H' : Hp) (i' : Nat), SameB [rd] H H' → RdR K H' rd W i' dp → W.drop i' = r → PcX K m H' (fun l => H l = none) t v → Q v H') ∧ (p (W.drop i) = none → ∀ H', SameB [rd] H H' → E (.ref (ga K "NoRecipe")) none H')
theorem ln_px {K : PySem.W.Frag} {p : PRd} {n m : Nat} {args : List V} (vs : List V) (H : Hp) (Q : VK) (E : XK) (h : sp_px K p n m args vs H Q E) : vs.length = args.length + 1 := by
  obtain ⟨_, _, _, _, rfl, _⟩ := h
  rfl
theorem getD_head {W : List Str} {i : Nat} : W.getD i "" = (W.drop i).headD "" := by
  rw [List.headD_eq_head?_getD, List.head?_drop, List.getD_eq_getElem?_getD]
theorem tail_drop {W : List Str} {i : Nat} : (W.drop i).tail = W.drop (i + 1) := List.tail_drop
/-! must, deeper: with what they let out -/
def sp_Reader_mustX (K : PySem.W.Frag) : Sp := fun vs H Q E => ∃ (rd : Addr) (W : List Str) (i dp : Nat) (w : Str), vs = [.ref rd, .str w] ∧ RdR K H rd W i dp ∧ ∀ H', SameB [rd] H H' → RdR K H' rd W (i + 1) dp → (W.getD i "" = w → Q .non H') ∧ (W.getD i "" ≠ w → E (.ref (ga K "NoRecipe")) none H')
theorem ln_Reader_mustX {K : PySem.W.Frag} {vs : List V} {H : Hp} {Q : VK} {E : XK} (h : sp_Reader_mustX K vs H Q E) : vs.length = 2 := by
  obtain ⟨_, _, _, _, _, rfl, _⟩ := h
  rfl
abbrev n_Reader_mustX : List Str := ["self", "word"]
def t_Reader_mustX (K : PySem.W.Frag) (W : WX) : TS :=
  tIfS (tTest (tOp rNe (tMW (ga K "Reader") "step" (sp_step K) W (tVar 0) tNil) (tVar 1))) (tRaise (ga K "NoRecipe") W) tNext
theorem pure_Reader_mustX {K : PySem.W.Frag} {vs : List V} {H : Hp} {Q : VK} {E : XK} (h : sp_Reader_mustX K vs H Q E) : t_Reader_mustX K (WofE E) { nx := fun _ H' => Q .non H', rt := Q } (start n_Reader_mustX vs) H := by
  obtain ⟨rd, ws, i, dp, w, rfl, R, k⟩ := h
  obtain ⟨dx, wl, h1, h2, h3⟩ := id R
  show t_Reader_mustX K _ _ [some (.ref rd), some (.str w)] H
  unfold t_Reader_mustX
  walk_at "go"
  refine k_mc h1 rfl ?_
  walk_at "go"
  refine ⟨rd, ws, i, dp, rfl, R, fun H' s R' => ?_⟩
  have k' := k H' s R'
  walk_at "go"
  refine ifn (fun h => ?_) (fun h => ?_)
  · walk_at "go"
    exact k'.2 h
  · walk_at "go"
    exact k'.1 h
def sp_Reader_deeperX (K : PySem.W.Frag) : Sp := fun vs H Q E => ∃ (rd : Addr) (W : List Str) (i dp : Nat), vs = [.ref rd] ∧ RdR K H rd W i dp ∧ ∀ H', SameB [rd] H H' → RdR K H' rd W i (dp + 1) → (dp + 1 ≤ 2 → Q .non H') ∧ (2 < dp + 1 → E (.ref (ga K "NoRecipe")) none H')
theorem ln_Reader_deeperX {K : PySem.W.Frag} {vs : List V} {H : Hp} {Q : VK} {E : XK} (h : sp_Reader_deeperX K vs H Q E) : vs.length = 1 := by
  obtain ⟨_, _, _, _, rfl, _⟩ := h
  rfl
abbrev n_Reader_deeperX : List Str := ["self"]
def t_Reader_deeperX (K : PySem.W.Frag) (W : WX) : TS :=
  tSeq (sFi (ga K "Reader") ns_Reader 2 (tVar 0) (tOp rAddI (tFi (ga K "Reader") ns_Reader 2 (tVar 0)) (tC (.int 1))))
  (tIfS (tTest (tOp rGtI (tFi (ga K "Reader") ns_Reader 2 (tVar 0)) (tC (.int 2)))) (tRaise (ga K "NoRecipe") W) tNext)
theorem pure_Reader_deeperX {K : PySem.W.Frag} {vs : List V} {H : Hp} {Q : VK} {E : XK} (h : sp_Reader_deeperX K vs H Q E) : t_Reader_deeperX K (WofE E) { nx := fun _ H' => Q .non H', rt := Q } (start n_Reader_deeperX vs) H := by
  obtain ⟨rd, ws, i, dp, rfl, ⟨dx, wl, h1, h2, h3⟩, k⟩ := h
  show t_Reader_deeperX K _ _ [some (.ref rd)] H
  unfold t_Reader_deeperX
  walk_at "go"
  refine k_fi h1 rfl ?_
  walk_at "go"
  refine k_sf h1 (by simp) ?_
  have e : (dp : Int) + 1 = ((dp + 1 : Nat) : Int) := by omega
  rw [e]
  have R := RdR.move (i' := i) (dp' := dp + 1) h2 h3 h1
  have s : SameB [rd] H (upd H rd (ob (ga K "Reader") ns_Reader dx [.ref wl, .int (i : Int), .int ((dp + 1 : Nat) : Int)])) := SameB.refl.put (by simp)
  show tIfS _ _ _ _ _ (upd H rd (ob (ga K "Reader") ns_Reader dx [.ref wl, .int (i : Int), .int ((dp + 1 : Nat) : Int)]))
  generalize upd H rd (ob (ga K "Reader") ns_Reader dx [.ref wl, .int (i : Int), .int ((dp + 1 : Nat) : Int)]) = H1 at R s ⊢
  have k' := k H1 s R
  obtain ⟨dx1, wl1, g1, g2, g3⟩ := id R
  walk_at "go"
  refine k_fi g1 rfl ?_
  walk_at "go"
  refine ifd (fun h => ?_) (fun h => ?_)
  · walk_at "go"
    exact k'.2 (by omega)
  · walk_at "go"
    exact k'.1 (by omega)
/-! ### chained -/
def sp_cx (K : PySem.W.Frag) (p : PRd) (sg : Str) (n m : Nat) : Sp := fun vs H Q E => ∃ (rd : Addr) (W : List Str) (i dp : Nat), vs = [.ref rd, .str sg] ∧ RdR K H rd W i dp ∧ dp + n = 2 ∧ (∀ w ∈ W, w.length ≤ 400) ∧
  (∀ ts r, chainedF p sg (W.drop i) = some (ts, r) → ∀ (v : V) (H' : Hp) (i' : Nat), SameB [rd] H H' → RdR K H' rd W i' dp → W.drop i' = r → RL (PcX K m) H' (fun l => H l = none) ts v → Q v H') ∧ (chainedF p sg (W.drop i) = none → ∀ H', SameB [rd] H H' → E (.ref (ga K "NoRecipe")) none H')
theorem ln_cx {K : PySem.W.Frag} {p : PRd} {sg : Str} {n m : Nat} (vs : List V) (H : Hp) (Q : VK) (E : XK) (h : sp_cx K p sg n m vs H Q E) : vs.length = 2 := by
  obtain ⟨_, _, _, _, rfl, _⟩ := h
  rfl
abbrev n_Reader_chainedX : List Str := ["self", "sign", "found"]
def t_Reader_chainedX (K : PySem.W.Frag) (W : WX) (S_Reader_inner_of : Sp) : TS :=
  tSeq (tAsg (tLst (tCons (tMW (ga K "Reader") "inner_of" S_Reader_inner_of W (tVar 0) (tCons (tVar 1) tNil)) tNil)) (gName 2))
  (tSeq (tWhile (tTest (tOp rEq (tMW (ga K "Reader") "here" (sp_here K) W (tVar 0) tNil) (tVar 1))) (tSeq (sFi (ga K "Reader") ns_Reader 1 (tVar 0) (tOp rAddI (tFi (ga K "Reader") ns_Reader 1 (tVar 0)) (tC (.int 1))))
  (tDrop (tBM K "list" rAppend (tVar 2) (tCons (tMW (ga K "Reader") "inner_of" S_Reader_inner_of W (tVar 0) (tCons (tVar 1) tNil)) tNil)))))
  (tSeq (tIfS (tTest (tOp rGtI (tCB (rLenL K) (tCons (tVar 2) tNil)) (tC (.int 8)))) (tRaise (ga K "NoRecipe") W) tNext)
  (tRet (tVar 2))))
/-- what is left is no longer -/
def Shr (p : PRd) : Prop := ∀ ws t r, p ws = some (t, r) → r.length ≤ ws.length
theorem pure_Reader_chainedX {K : PySem.W.Frag} {p : PRd} {sg : Str} {n m : Nat} (hp : Shr p) (h0 : sg ≠ "") {vs : List V} {H : Hp} {Q : VK} {E : XK} (h : sp_cx K p sg n m vs H Q E) :
    t_Reader_chainedX K (WofE E) (sp_px K p n m [.str sg]) { nx := fun _ H' => Q .non H', rt := Q } (start n_Reader_chainedX vs) H := by
  obtain ⟨rd, ws, i, dp, rfl, Rd, hdp, hw, kq, ke⟩ := h
  obtain ⟨dx, wl, r1, _⟩ := id Rd
  have hw40 : ws.length ≤ 40 := Rd.choose_spec.choose_spec.2.2
  have rdH : ∀ {b : Addr}, H b = none → b ≠ rd := fun {b} hb q => by rw [q, r1] at hb; cases hb
  show t_Reader_chainedX K _ _ _ [some (.ref rd), some (.str sg), none] H
  unfold t_Reader_chainedX
  walk_at "go"
  refine k_mc r1 rfl ?_
  walk_at "go"
  refine ⟨rd, ws, i, dp, rfl, Rd, hdp, hw, fun t r ep v H1 i1 s1 Rd1 hr1 Rv => ?_, fun ep H' s => ?_⟩
  rotate_left
  · exact ke (by unfold chainedF; rw [ep]) H' s
  have ech : chainedF p sg (ws.drop i) = (match chainF p sg (r.length + 1) [t] r with
    | none => none
    | some (ts, r) => if 8 < ts.length then none else some (ts, r)) := by simp only [chainedF, ep] <;> rfl
  walk_at "go"
  intro l hl
  walk_at "go"
  have rdl : rd ≠ l := by
    obtain ⟨_, _, q, _⟩ := id Rd1
    exact ne_of_none q hl
  have hlH : H l = none := s1.fresh (by simpa using rdl.symm) hl
  refine st_while (fun f σ H' => ∃ (i' : Nat) (ts : List Pt) (us : List V), σ = [some (.ref rd), some (.str sg), some (.ref l)] ∧ SameB [rd] H H' ∧ RdR K H' rd ws i' dp ∧ chainF p sg (f + 1) ts (ws.drop i') = chainF p sg (r.length + 1) [t] r ∧ (ws.drop i').length ≤ f ∧ H' l = some (.lst us) ∧
    Paired (PcX K m H' fun a => H a = none ∧ a ≠ l) ts us ∧ 1 ≤ ts.length ∧ ts.length + (ws.drop i').length ≤ 50) r.length ⟨i1, [t], [v], rfl, s1.same (same1 hl), Rd1.same (same1 hl), by rw [hr1], by rw [hr1]; exact Nat.le_refl _, upd_same, .cons (PcX.good _ _ _ _ _ _ _ Rv (fun a o ha ho => ⟨(same1 hl) _ _ ho, ha, ne_of_none ho hl⟩)) .nil, Nat.le_refl _, by
      have : (ws.drop i1).length ≤ ws.length := by rw [List.length_drop]; omega
      simp only [List.length_singleton]
      omega⟩ ?_
  rintro f σ H2 ⟨i', ts, us, rfl, s2, Rd2, hch, hfu, hus, P, l1, l50⟩
  obtain ⟨dx2, wl2, q1, _⟩ := id Rd2
  walk_at "go"
  refine k_mc q1 rfl ?_
  refine ⟨rd, ws, i', dp, rfl, Rd2, ?_⟩
  walk_at "go"
  have lus : us.length = ts.length := (Paired.length P).symm
  rw [getD_head]
  refine ifd (fun hsg => ?_) (fun hsg => ?_)
  · apply st_wt
    have hne : ws.drop i' ≠ [] := fun z => by rw [z] at hsg; exact h0 hsg.symm
    have hpos : 0 < (ws.drop i').length := List.length_pos_iff.mpr hne
    have htl : (ws.drop i').tail = ws.drop (i' + 1) := tail_drop
    have hlt : (ws.drop (i' + 1)).length + 1 = (ws.drop i').length := by
      rw [List.length_drop, List.length_drop] at *
      omega
    obtain ⟨f, rfl⟩ : ∃ f', f = f' + 1 := ⟨f - 1, by omega⟩
    obtain ⟨dx2, wl2, q1, q2, q3⟩ := id Rd2
    walk_at "go"
    refine k_fi q1 rfl ?_
    walk_at "go"
    refine k_sf q1 (by simp) ?_
    have ei : (i' : Int) + 1 = ((i' + 1 : Nat) : Int) := by omega
    rw [ei]
    have Rd3 := RdR.move (i' := i' + 1) (dp' := dp) q2 q3 q1
    have s3 : SameB [rd] H2 (upd H2 rd (ob (ga K "Reader") ns_Reader dx2 [.ref wl2, .int ((i' + 1 : Nat) : Int), .int (dp : Int)])) := SameB.refl.put (by simp)
    show tDrop _ _ _ (upd H2 rd (ob (ga K "Reader") ns_Reader dx2 [.ref wl2, .int ((i' + 1 : Nat) : Int), .int (dp : Int)]))
    generalize upd H2 rd (ob (ga K "Reader") ns_Reader dx2 [.ref wl2, .int ((i' + 1 : Nat) : Int), .int (dp : Int)]) = H3 at Rd3 s3 ⊢
    have hus3 := s3 _ _ (by simpa using rdl.symm) hus
    obtain ⟨dx3, wl3, p1, _⟩ := id Rd3
    have hch2 : chainF p sg (f + 1 + 1) ts (ws.drop i') = (match p (ws.drop (i' + 1)) with
      | none => none
      | some (t, r) => chainF p sg (f + 1) (ts ++ [t]) r) := by rw [← htl]; exact if_pos hsg
    rw [hch2] at hch
    walk_at "go"
    refine e_tyl hus3 ?_
    walk_at "go"
    refine k_mc p1 rfl ?_
    walk_at "go"
    refine ⟨rd, ws, i' + 1, dp, rfl, Rd3, hdp, hw, fun u r4 ep4 v4 H4 i4 s4 Rd4 hr4 Rv4 => ?_, fun ep4 H' s => ?_⟩
    rotate_left
    · rw [ep4] at hch
      exact ke (by rw [ech, ← hch]) H' (s2.trans (s3.trans s))
    rw [ep4] at hch
    have hus4 := s4 _ _ (by simpa using rdl.symm) hus3
    walk_at "go"
    refine e_app hus4 (small1000 (by omega)) ?_
    walk_at "go"
    have s24 := s2.trans (s3.trans s4)
    have keepB : ∀ {b : Addr} {o : HO}, H b = none ∧ b ≠ l → H2 b = some o → H4 b = some o := fun {b o} hb e => (s3.trans s4) _ _ (by simpa using rdH hb.1) e
    have hsh := hp _ _ _ ep4
    refine ⟨f, Nat.lt_succ_self _, i4, ts ++ [u], us ++ [v4], rfl, ?_, ?_, by rw [hr4]; exact hch, by rw [hr4]; omega, upd_same, ?_, by simp, by rw [hr4, List.length_append]; simp only [List.length_singleton]; omega⟩
    · intro b o hb e
      exact upd_o (s24 b o hb e) (ne_of_none e hlH)
    · obtain ⟨dx4, wl4, z1, z2, z3⟩ := Rd4
      refine ⟨dx4, wl4, upd_o z1 rdl, upd_o z2 ?_, z3⟩
      intro q
      rw [q, hus4] at z2
      have z2 := HO.lst.inj (Option.some.inj z2)
      cases P with
      | nil => simp at l1
      | cons a _ =>
        obtain ⟨b, rfl⟩ := PcX.ref _ _ _ _ a
        cases ws with
        | nil => cases z2
        | cons y ys => rw [List.map_cons] at z2; cases z2
    · refine paired_snoc (Paired.mapP P fun _ _ z => PcX.good _ _ _ _ _ _ _ z fun a o ha ho => ⟨upd_o (keepB ha ho) ha.2, ha⟩) (PcX.good _ _ _ _ _ _ _ Rv4 fun a o ha ho => ?_)
      have hal : a ≠ l := fun q => by rw [q, hus3] at ha; cases ha
      have har : a ≠ rd := fun q => by rw [q, p1] at ha; cases ha
      exact ⟨upd_o ho hal, (s2.trans s3).fresh (by simpa using har) ha, hal⟩
  · have hch2 : chainF p sg (f + 1) ts (ws.drop i') = some (ts, ws.drop i') := if_neg hsg
    rw [hch2] at hch
    walk_at "go"
    refine e_lenL (SqL.of hus) ?_
    walk_at "go"
    refine ifd (fun h => ?_) (fun h => ?_)
    · walk_at "go"
      refine ke ?_ H2 s2
      rw [ech, ← hch]
      exact if_pos (by omega)
    · walk_at "go"
      refine kq ts (ws.drop i') ?_ _ _ i' s2 Rd2 rfl ⟨l, us, rfl, hus, hlH, Paired.mapP P fun _ _ z => PcX.good _ _ _ _ _ _ _ z fun a o ha ho => ⟨ho, ha.1⟩⟩
      rw [ech, ← hch]
      exact if_neg (by omega)
/-! ### whole, lesser, summed; inner_of -/
theorem lvF_none {k : Kd} {p : PRd} {ws : List Str} (h : chainedF p k.wd ws = none) : lvF k p ws = none := by simp only [lvF, h]
theorem lvF_one {k : Kd} {p : PRd} {ws r : List Str} {t : Pt} (h : chainedF p k.wd ws = some ([t], r)) : lvF k p ws = some (t, r) := by simp only [lvF, h]
theorem lvF_many {k : Kd} {p : PRd} {ws r : List Str} {ts : List Pt} (h : chainedF p k.wd ws = some (ts, r)) (n : ts.length ≠ 1) : lvF k p ws = some (.mk (.ch k ts), r) := by
  match ts, n with
  | [], _ => simp only [lvF, h]
  | [_], n => exact absurd rfl n
  | _ :: _ :: _, _ => simp only [lvF, h]
def t_lvX (K : PySem.W.Frag) (W : WX) (S : Sp) (k : Kd) : TS :=
  tSeq (tAsg (tMW (ga K "Reader") "chained" S W (tVar 0) (tCons (tC (.str k.wd)) tNil)) (gName 1))
  (tSeq (tIfS (tTest (tOp rEq (tCB (rLenL K) (tCons (tVar 1) tNil)) (tC (.int 1)))) (tRet (tOp (rIxL K) (tVar 1) (tC (.int 0)))) tNext)
  (tRet (tMK (ga K k.cls) (sp_K_init K k) (tCons (tVar 1) tNil))))
theorem pure_lvX {K : PySem.W.Frag} {p : PRd} {n m : Nat} {k : Kd} (tC : IsC K (ga K k.cls) ["rank", "sign", "pieces"]) {vs : List V} {H : Hp} {Q : VK} {E : XK} (h : sp_px K (lvF k p) n (m + 1) [] vs H Q E) :
    t_lvX K (WofE E) (sp_cx K p k.wd n m) k { nx := fun _ H' => Q .non H', rt := Q } (start ["self", "found"] vs) H := by
  obtain ⟨rd, ws, i, dp, rfl, Rd, hdp, hw, kq, ke⟩ := h
  obtain ⟨dx, wl, r1, _⟩ := id Rd
  show t_lvX K _ _ k _ [some (.ref rd), none] H
  unfold t_lvX
  walk_at "go"
  refine k_mc r1 rfl ?_
  walk_at "go"
  refine ⟨rd, ws, i, dp, rfl, Rd, hdp, hw, fun ts r ec v H1 i1 s1 Rd1 hr1 Rv => ?_, fun ec H' s => ke (lvF_none ec) H' s⟩
  obtain ⟨l, us, rfl, hl, hA, P⟩ := Rv
  have lus : us.length = ts.length := (Paired.length P).symm
  walk_at "go"
  refine e_lenL (SqL.of hl) ?_
  walk_at "go"
  refine ifd (fun h => ?_) (fun h => ?_)
  · have l1 : ts.length = 1 := by omega
    match ts, l1, P with
    | [t], _, .cons a .nil =>
      walk_at "go"
      refine e_ixL (SqL.of hl) (at_of (j := 0) rfl rfl) ?_
      exact kq t r (lvF_one ec) _ H1 i1 s1 Rd1 hr1 (PcX.succ _ _ _ _ _ a)
  · walk_at "go"
    intro a dx1 ha hdx1 ne
    have s2 : Same H1 (upd (upd H1 dx1 (.own a)) a (ob (ga K k.cls) [] dx1 [])) := same_up (same1 hdx1) (by rw [upd_ne ne.symm]; exact ha)
    refine ⟨a, dx1, .ref l, tC, rfl, upd_same, fun H2 s3 h2 => ⟨rfl, ?_⟩⟩
    have s12 : Same H1 H2 := s3.from s2 (by simpa using ha)
    have har : a ≠ rd := fun q => by
      obtain ⟨_, _, z, _⟩ := id Rd1
      rw [q, z] at ha
      cases ha
    refine kq _ r (lvF_many ec (by omega)) _ H2 i1 (s1.same s12) (Rd1.same s12) hr1 ?_
    exact ⟨a, dx1, l, rfl, s1.fresh (by simpa using har) ha, h2, l, us, rfl, s12 _ _ hl, hA, Paired.mapP P fun _ _ z => PcX.good _ _ _ _ _ _ _ z fun _ _ ha ho => ⟨s12 _ _ ho, ha⟩⟩
abbrev n_Reader_inner_ofX : List Str := ["self", "sign"]
def t_Reader_inner_ofX (K : PySem.W.Frag) (W : WX) (S_Reader_lesser : Sp) (S_Reader_summed : Sp) (S_Reader_single : Sp) : TS :=
  tSeq (tIfS (tTest (tOp rEq (tVar 1) (tC (.str "|")))) (tRet (tMW (ga K "Reader") "lesser" S_Reader_lesser W (tVar 0) tNil)) tNext)
  (tSeq (tIfS (tTest (tOp rEq (tVar 1) (tC (.str "&")))) (tRet (tMW (ga K "Reader") "summed" S_Reader_summed W (tVar 0) tNil)) tNext)
  (tRet (tMW (ga K "Reader") "single" S_Reader_single W (tVar 0) tNil)))
theorem pure_Reader_inner_ofX {K : PySem.W.Frag} {p : PRd} {n m : Nat} {k : Kd} {S1 S2 S3 : Sp} (h1 : k = .most → S1 = sp_px K p n m []) (h2 : k = .least → S2 = sp_px K p n m []) (h3 : k = .sum → S3 = sp_px K p n m []) {vs : List V} {H : Hp} {Q : VK} {E : XK} (h : sp_px K p n m [.str k.wd] vs H Q E) :
    t_Reader_inner_ofX K (WofE E) S1 S2 S3 { nx := fun _ H' => Q .non H', rt := Q } (start n_Reader_inner_ofX vs) H := by
  obtain ⟨rd, ws, i, dp, rfl, Rd, hdp, hw, kq, ke⟩ := h
  obtain ⟨dx, wl, r1, _⟩ := id Rd
  show t_Reader_inner_ofX K _ S1 S2 S3 _ [some (.ref rd), some (.str k.wd)] H
  unfold t_Reader_inner_ofX
  cases k with
  | most =>
    rw [h1 rfl]
    walk_at "go"
    refine ifd (fun _ => ?_) (fun h => absurd rfl h)
    walk_at "go"
    refine k_mc r1 rfl ?_
    exact ⟨rd, ws, i, dp, rfl, Rd, hdp, hw, kq, ke⟩
  | least =>
    rw [h2 rfl]
    walk_at "go"
    refine ifd (fun h => absurd h (by decide)) (fun _ => ?_)
    walk_at "go"
    refine ifd (fun _ => ?_) (fun h => absurd rfl h)
    walk_at "go"
    refine k_mc r1 rfl ?_
    exact ⟨rd, ws, i, dp, rfl, Rd, hdp, hw, kq, ke⟩
  | sum =>
    rw [h3 rfl]
    walk_at "go"
    refine ifd (fun h => absurd h (by decide)) (fun _ => ?_)
    walk_at "go"
    refine ifd (fun h => absurd h (by decide)) (fun _ => ?_)
    walk_at "go"
    refine k_mc r1 rfl ?_
    exact ⟨rd, ws, i, dp, rfl, Rd, hdp, hw, kq, ke⟩
/-! ### single -/
def subF : Nat → Option PRd
  | 0 => none
  | n + 1 => some (singleF n)
theorem singleF_eq (n : Nat) (ws : List Str) : singleF n ws = if ws.headD "" = "(" then bracketF ((subF n).map wholeF) ws.tail else if ws.headD "" = "[" then gatedF (subF n) ws.tail else leafF (ws.headD "") ws.tail := by
  cases n <;> rfl
theorem head_len {W : List Str} (h : ∀ w ∈ W, w.length ≤ 400) (i : Nat) : ((W.drop i).headD "").length ≤ 400 := by
  cases e : W.drop i with
  | nil => exact Nat.zero_le _
  | cons a r => exact h a (List.mem_of_mem_drop (by rw [e]; exact List.mem_cons_self))
abbrev n_Reader_singleX : List Str := ["self", "word", "found"]
def t_Reader_singleX (K : PySem.W.Frag) (W : WX) (S_Reader_whole : Sp) (S_Reader_gated : Sp) : TS :=
  tSeq (tAsg (tMW (ga K "Reader") "step" (sp_step K) W (tVar 0) tNil) (gName 1))
  (tSeq (tIfS (tTest (tOp rEq (tVar 1) (tC (.str "(")))) (tSeq (tDrop (tMW (ga K "Reader") "deeper" (sp_Reader_deeperX K) W (tVar 0) tNil))
  (tSeq (tAsg (tMW (ga K "Reader") "whole" S_Reader_whole W (tVar 0) tNil) (gName 2))
  (tSeq (tDrop (tMW (ga K "Reader") "must" (sp_Reader_mustX K) W (tVar 0) (tCons (tC (.str ")")) tNil)))
  (tSeq (sFi (ga K "Reader") ns_Reader 2 (tVar 0) (tOp rSubI (tFi (ga K "Reader") ns_Reader 2 (tVar 0)) (tC (.int 1))))
  (tRet (tVar 2)))))) tNext)
  (tSeq (tIfS (tTest (tOp rEq (tVar 1) (tC (.str "[")))) (tRet (tMW (ga K "Reader") "gated" S_Reader_gated W (tVar 0) tNil)) tNext)
  (tSeq (tIfS (tB (tCW sp_is_name W (tCons (tVar 1) tNil))) (tRet (tMK (ga K "Name") (sp_Name_init K) (tCons (tVar 1) tNil))) tNext)
  (tRet (tMK (ga K "Number") (sp_Number_init K) (tCons (tCW (sp_number_ofX K) W (tCons (tVar 1) tNil)) tNil))))))
theorem pure_Reader_singleX {K : PySem.W.Frag} {n : Nat} {S1 : Sp} (h1 : ∀ n', n = n' + 1 → S1 = sp_px K (wholeF (singleF n')) n' (4 * n' + 4) []) (tM : IsC K (ga K "Name") ["rank"]) (tN : IsC K (ga K "Number") ["rank"]) {vs : List V} {H : Hp} {Q : VK} {E : XK}
    (h : sp_px K (singleF n) n (4 * n + 1) [] vs H Q E) : t_Reader_singleX K (WofE E) S1 (sp_px K (gatedF (subF n)) n (4 * n + 1) []) { nx := fun _ H' => Q .non H', rt := Q } (start n_Reader_singleX vs) H := by
  obtain ⟨rd, ws, i, dp, rfl, Rd, hdp, hw, kq, ke⟩ := h
  obtain ⟨dx, wl, r1, _⟩ := id Rd
  show t_Reader_singleX K _ _ _ _ [some (.ref rd), none, none] H
  unfold t_Reader_singleX
  have rdH : ∀ {b : Addr}, H b = none → b ≠ rd := fun {b} hb q => by rw [q, r1] at hb; cases hb
  have hwl := head_len hw i
  have htl : (ws.drop i).tail = ws.drop (i + 1) := tail_drop
  simp only [singleF_eq, htl] at kq ke
  walk_at "go"
  refine k_mc r1 rfl ?_
  refine ⟨rd, ws, i, dp, rfl, Rd, fun H1 s1 Rd1 => ?_⟩
  rw [getD_head]
  generalize (ws.drop i).headD "" = w at hwl kq ke
  obtain ⟨dx1, wl1, q1, _⟩ := id Rd1
  walk_at "go"
  refine ifd (fun hb => ?_) (fun hb => ?_)
  · simp only [if_pos hb] at kq ke
    walk_at "go"
    refine k_mc q1 rfl ?_
    refine ⟨rd, ws, i + 1, dp, rfl, Rd1, fun H2 s2 Rd2 => ⟨fun hd2 => ?_, fun hd2 => ?_⟩⟩
    rotate_left
    · obtain rfl : n = 0 := by omega
      exact ke rfl H2 (s1.trans s2)
    obtain ⟨n, rfl⟩ : ∃ n', n = n' + 1 := ⟨n - 1, by omega⟩
    rw [h1 n rfl]
    obtain ⟨dx2, wl2, q2, _⟩ := id Rd2
    walk_at "go"
    refine k_mc q2 rfl ?_
    refine ⟨rd, ws, i + 1, dp + 1, rfl, Rd2, by omega, hw, fun t r ep v H3 i3 s3 Rd3 hr3 Rv => ?_, fun ep H' s => ke (by simp only [subF, Option.map, bracketF, ep]) H' ((s1.trans s2).trans s)⟩
    obtain ⟨dx3, wl3, q3, _⟩ := id Rd3
    walk_at "go"
    refine k_mc q3 rfl ?_
    walk_at "go"
    refine ⟨rd, ws, i3, dp + 1, ")", rfl, Rd3, fun H4 s4 Rd4 => ⟨fun hm => ?_, fun hm => ?_⟩⟩
    rotate_left
    · rw [getD_head, hr3] at hm
      exact ke (by simp only [subF, Option.map, bracketF, ep]; exact if_neg hm) H4 ((s1.trans s2).trans (s3.trans s4))
    rw [getD_head, hr3] at hm
    obtain ⟨dx4, wl4, q4, q5, q6⟩ := id Rd4
    walk_at "go"
    refine k_fi q4 rfl ?_
    walk_at "go"
    refine k_sf q4 (by simp) ?_
    have e4 : ((dp + 1 : Nat) : Int) - 1 = (dp : Int) := by omega
    rw [e4]
    have Rd5 := RdR.move (i' := i3 + 1) (dp' := dp) q5 q6 q4
    have s5 : SameB [rd] H4 (upd H4 rd (ob (ga K "Reader") ns_Reader dx4 [.ref wl4, .int ((i3 + 1 : Nat) : Int), .int (dp : Int)])) := SameB.refl.put (by simp)
    walk_at "go"
    refine kq t r.tail (by simp only [subF, Option.map, bracketF, ep]; exact if_pos hm) v _ (i3 + 1) (s1.trans (s2.trans (s3.trans (s4.trans s5)))) Rd5 (by rw [← tail_drop, hr3]) (PcX.mono (PcX.good _ _ _ _ _ _ _ Rv fun a o ha ho => ?_) (by omega))
    have har : a ≠ rd := fun q => by rw [q, q2] at ha; cases ha
    exact ⟨(s4.trans s5) _ _ (by simpa using har) ho, (s1.trans s2).fresh (by simpa using har) ha⟩
  simp only [if_neg hb] at kq ke
  walk_at "go"
  refine ifd (fun hg => ?_) (fun hg => ?_)
  · simp only [if_pos hg] at kq ke
    walk_at "go"
    refine k_mc q1 rfl ?_
    refine ⟨rd, ws, i + 1, dp, rfl, Rd1, hdp, hw, fun t r ep v H2 i2 s2 Rd2 hr2 Rv => ?_, fun ep H' s => ke ep H' (s1.trans s)⟩
    refine kq t r ep v H2 i2 (s1.trans s2) Rd2 hr2 (PcX.good _ _ _ _ _ _ _ Rv fun a o ha ho => ⟨ho, s1.fresh ?_ ha⟩)
    have : a ≠ rd := fun q => by
      rw [q, q1] at ha
      cases ha
    simpa using this
  simp only [if_neg hg] at kq ke
  walk_at "go"
  refine ⟨_, rfl, by omega, ?_⟩
  cases hnb : nameB w with
  | true =>
    walk_at "go"
    refine iteT ?_
    walk_at "go"
    intro a dx2 ha hdx2 ne
    refine ⟨a, dx2, _, tM, rfl, upd_same, fun H2 s2 h2 => ⟨rfl, ?_⟩⟩
    have s12 : Same H1 H2 := s2.from (made_new ha hdx2 ne) (by simpa using ha)
    have har : a ≠ rd := fun q => by rw [q, q1] at ha; cases ha
    exact kq (.mk (.nm w)) _ (by simp only [leafF, hnb, if_true]) _ _ (i + 1) (s1.same s12) (Rd1.same s12) rfl ⟨a, dx2, rfl, s1.fresh (by simpa using har) ha, h2⟩
  | false =>
    walk_at "go"
    refine iteF ?_
    walk_at "go"
    refine ⟨w, rfl, by omega, fun c ec => ?_, fun ec => ?_⟩
    rotate_left
    · exact ke (by simp only [leafF, hnb, ec]; rfl) H1 s1
    walk_at "go"
    intro a dx2 ha hdx2 ne
    refine ⟨a, dx2, _, tN, rfl, upd_same, fun H2 s2 h2 => ⟨rfl, ?_⟩⟩
    have s12 : Same H1 H2 := s2.from (made_new ha hdx2 ne) (by simpa using ha)
    have har : a ≠ rd := fun q => by rw [q, q1] at ha; cases ha
    exact kq (.mk (.num c)) _ (by simp only [leafF, hnb, ec]; rfl) _ _ (i + 1) (s1.same s12) (Rd1.same s12) rfl ⟨a, dx2, rfl, s1.fresh (by simpa using har) ha, h2⟩
/-! ### gated -/
abbrev n_Reader_gatedX : List Str := ["self", "name", "bound", "found"]
def t_Reader_gatedX (K : PySem.W.Frag) (W : WX) (S_Reader_single : Sp) : TS :=
  tSeq (tAsg (tMW (ga K "Reader") "step" (sp_step K) W (tVar 0) tNil) (gName 1))
  (tSeq (tIfS (tNot (tB (tCW sp_is_name W (tCons (tVar 1) tNil)))) (tRaise (ga K "NoRecipe") W) tNext)
  (tSeq (tAsg (tCW (sp_number_ofX K) W (tCons (tMW (ga K "Reader") "step" (sp_step K) W (tVar 0) tNil) tNil)) (gName 2))
  (tSeq (tIfS (tTest (tOp rEq (tVar 2) (tC (.int 0)))) (tRaise (ga K "NoRecipe") W) tNext)
  (tSeq (tDrop (tMW (ga K "Reader") "must" (sp_Reader_mustX K) W (tVar 0) (tCons (tC (.str "]")) tNil)))
  (tSeq (tDrop (tMW (ga K "Reader") "deeper" (sp_Reader_deeperX K) W (tVar 0) tNil))
  (tSeq (tAsg (tMK (ga K "Gate") (sp_Gate_init K) (tCons (tVar 1) (tCons (tVar 2) (tCons (tMW (ga K "Reader") "single" S_Reader_single W (tVar 0) tNil) tNil)))) (gName 3))
  (tSeq (sFi (ga K "Reader") ns_Reader 2 (tVar 0) (tOp rSubI (tFi (ga K "Reader") ns_Reader 2 (tVar 0)) (tC (.int 1))))
  (tRet (tVar 3)))))))))
theorem pure_Reader_gatedX {K : PySem.W.Frag} {n : Nat} {S1 : Sp} (h1 : ∀ n', n = n' + 1 → S1 = sp_px K (singleF n') n' (4 * n' + 1) []) (tG : IsC K (ga K "Gate") ["rank"]) {vs : List V} {H : Hp} {Q : VK} {E : XK}
    (h : sp_px K (gatedF (subF n)) n (4 * n + 1) [] vs H Q E) : t_Reader_gatedX K (WofE E) S1 { nx := fun _ H' => Q .non H', rt := Q } (start n_Reader_gatedX vs) H := by
  obtain ⟨rd, ws, i, dp, rfl, Rd, hdp, hw, kq, ke⟩ := h
  obtain ⟨dx, wl, r1, _⟩ := id Rd
  show t_Reader_gatedX K _ _ _ [some (.ref rd), none, none, none] H
  unfold t_Reader_gatedX
  have hl0 := head_len hw i
  have hl1 := head_len hw (i + 1)
  have t1 : (ws.drop i).tail = ws.drop (i + 1) := tail_drop
  have t2 : (ws.drop (i + 1)).tail = ws.drop (i + 1 + 1) := tail_drop
  have t3 : (ws.drop (i + 1 + 1)).tail = ws.drop (i + 1 + 1 + 1) := tail_drop
  simp only [gatedF, t1, t2, t3] at kq ke
  walk_at "go"
  refine k_mc r1 rfl ?_
  refine ⟨rd, ws, i, dp, rfl, Rd, fun H1 s1 Rd1 => ?_⟩
  rw [getD_head]
  generalize (ws.drop i).headD "" = x at hl0 kq ke
  walk_at "go"
  refine ⟨x, rfl, by omega, ?_⟩
  cases hnb : nameB x with
  | false =>
    walk_at "go"
    refine iteT ?_
    walk_at "go"
    exact ke (by rw [hnb]; rfl) H1 s1
  | true =>
  simp only [hnb, if_true] at kq ke
  walk_at "go"
  refine iteF ?_
  obtain ⟨dx1, wl1, q1, _⟩ := id Rd1
  walk_at "go"
  refine k_mc q1 rfl ?_
  refine ⟨rd, ws, i + 1, dp, rfl, Rd1, fun H2 s2 Rd2 => ?_⟩
  rw [getD_head]
  generalize (ws.drop (i + 1)).headD "" = y at hl1 kq ke
  have s12 := s1.trans s2
  walk_at "go"
  refine ⟨y, rfl, by omega, fun b eb => ?_, fun eb => ke (by rw [eb]) H2 s12⟩
  simp only [eb] at kq ke
  walk_at "go"
  refine ifd (fun h0 => ?_) (fun h0 => ?_)
  · walk_at "go"
    exact ke (if_pos h0) H2 s12
  simp only [if_neg h0] at kq ke
  obtain ⟨dx2, wl2, q2, _⟩ := id Rd2
  walk_at "go"
  refine k_mc q2 rfl ?_
  walk_at "go"
  refine ⟨rd, ws, i + 1 + 1, dp, "]", rfl, Rd2, fun H3 s3 Rd3 => ⟨fun hm => ?_, fun hm => ?_⟩⟩
  rotate_left
  · rw [getD_head] at hm
    exact ke (if_neg hm) H3 (s12.trans s3)
  rw [getD_head] at hm
  simp only [if_pos hm] at kq ke
  have s13 := s12.trans s3
  obtain ⟨dx3, wl3, q3, _⟩ := id Rd3
  walk_at "go"
  refine k_mc q3 rfl ?_
  refine ⟨rd, ws, i + 1 + 1 + 1, dp, rfl, Rd3, fun H4 s4 Rd4 => ⟨fun hd4 => ?_, fun hd4 => ?_⟩⟩
  rotate_left
  · obtain rfl : n = 0 := by omega
    exact ke rfl H4 (s13.trans s4)
  obtain ⟨n, rfl⟩ : ∃ n', n = n' + 1 := ⟨n - 1, by omega⟩
  rw [h1 n rfl]
  simp only [subF] at kq ke
  have s14 := s13.trans s4
  obtain ⟨dx4, wl4, q4, _⟩ := id Rd4
  walk_at "go"
  refine k_mc q4 rfl ?_
  refine ⟨rd, ws, i + 1 + 1 + 1, dp + 1, rfl, Rd4, by omega, hw, fun t r ep v H5 i5 s5 Rd5 hr5 Rv => ?_, fun ep H' s => ke (by rw [ep]) H' (s14.trans s)⟩
  simp only [ep] at kq
  walk_at "go"
  intro a dx5 ha hdx5 ne
  refine ⟨a, dx5, _, _, _, tG, rfl, upd_same, fun H6 s6 h6 => ⟨rfl, ?_⟩⟩
  have s56 : Same H5 H6 := s6.from (made_new ha hdx5 ne) (by simpa using ha)
  have Rd6 := Rd5.same s56
  obtain ⟨dx6, wl6, p1, p2, p3⟩ := id Rd6
  have har : a ≠ rd := fun q => by
    obtain ⟨_, _, z, _⟩ := id Rd5
    rw [q, z] at ha
    cases ha
  walk_at "go"
  refine k_fi p1 rfl ?_
  walk_at "go"
  refine k_sf p1 (by simp) ?_
  have e4 : ((dp + 1 : Nat) : Int) - 1 = (dp : Int) := by omega
  rw [e4]
  have Rd7 := RdR.move (i' := i5) (dp' := dp) p2 p3 p1
  have s7 : SameB [rd] H6 (upd H6 rd (ob (ga K "Reader") ns_Reader dx6 [.ref wl6, .int (i5 : Int), .int (dp : Int)])) := SameB.refl.put (by simp)
  walk_at "go"
  have s15 := s14.trans s5
  refine kq _ r rfl _ _ i5 (s15.trans ((SameB.of_same s56).trans s7)) Rd7 hr5 ?_
  refine PcX.mono (n := 4 * n + 1 + 1) ⟨a, dx5, v, rfl, s15.fresh (by simpa using har) ha, upd_o h6 har, PcX.good _ _ _ _ _ _ _ Rv fun a' o ha' ho => ?_⟩ (by omega)
  have har' : a' ≠ rd := fun q => by rw [q, q4] at ha'; cases ha'
  exact ⟨upd_o (s56 _ _ ho) har', s14.fresh (by simpa using har') ha'⟩
/-! ### read -/
/-- the words of a text that can be read: no more signs, no more words than may be -/
def sp_readX (K : PySem.W.Frag) : Sp := fun vs H Q E => ∃ (z : Str) (ws : List Str) (ok : Bool), vs = [.str z] ∧ z.length ≤ 100000 ∧ TokE z.cps.toList ws ok ∧
  (∀ t, z.length ≤ 400 → ok = true → ws.length ≤ 40 → parseF ws = some t → ∀ (v : V) (H' : Hp), Same H H' → PcX K 12 H' (fun a => H a = none) t v → Q v H') ∧
  ((400 < z.length ∨ ok = false ∨ 40 < ws.length ∨ parseF ws = none) → ∀ H', Same H H' → E (.ref (ga K "NoRecipe")) none H')
theorem ln_readX {K : PySem.W.Frag} (vs : List V) (H : Hp) (Q : VK) (E : XK) (h : sp_readX K vs H Q E) : vs.length = 1 := by
  obtain ⟨_, _, _, rfl, _⟩ := h
  rfl
abbrev n_readX : List Str := ["text", "reader", "found"]
def t_readX (K : PySem.W.Frag) (W : WX) (S_Reader_whole : Sp) : TS :=
  tSeq (tAsg (tMK (ga K "Reader") (sp_Reader_init K) (tCons (tCW (sp_words_ofX K) W (tCons (tVar 0) tNil)) tNil)) (gName 1))
  (tSeq (tAsg (tMW (ga K "Reader") "whole" S_Reader_whole W (tVar 1) tNil) (gName 2))
  (tSeq (tIfS (tTest (tOp rNe (tMW (ga K "Reader") "here" (sp_here K) W (tVar 1) tNil) (tC (.str "")))) (tRaise (ga K "NoRecipe") W) tNext)
  (tRet (tVar 2))))
theorem tok_len {l : List Nat} {ws : List Str} {ok : Bool} (h : TokE l ws ok) : ∀ w ∈ ws, w.length ≤ l.length := by
  induction h with
  | nil => simp
  | bad _ _ _ _ => simp
  | sp _ ih => exact fun w hw => Nat.le_trans (ih w hw) (by simp)
  | @sg c r ws ok _ _ ih =>
    intro w hw
    rcases List.mem_cons.mp hw with e | e
    · rw [e]
      show (#[c] : Array Nat).size ≤ _
      simp
    · exact Nat.le_trans (ih w e) (by simp)
  | @lt x r ws ok _ _ _ _ ih =>
    intro w hw
    rcases List.mem_cons.mp hw with e | e
    · rw [e]
      show x.toArray.size ≤ _
      simp
    · exact Nat.le_trans (ih w e) (by simp)
  | @fg x r ws ok _ _ _ _ ih =>
    intro w hw
    rcases List.mem_cons.mp hw with e | e
    · rw [e]
      show x.toArray.size ≤ _
      simp
    · exact Nat.le_trans (ih w e) (by simp)
theorem pure_readX {K : PySem.W.Frag} {vs : List V} {H : Hp} {Q : VK} {E : XK} (h : sp_readX K vs H Q E) : t_readX K (WofE E) (sp_px K (wholeF (singleF 2)) 2 12 []) { nx := fun _ H' => Q .non H', rt := Q } (start n_readX vs) H := by
  obtain ⟨z, tw, ok, rfl, hz, hT, kq, ke⟩ := h
  show t_readX K _ _ _ [some (.str z), none, none] H
  unfold t_readX
  walk_at "go"
  refine ⟨z, tw, ok, rfl, hz, hT, fun hz4 hok hl wl H1 s1 wn hwl => ?_, fun hb H' s => ke (hb.imp id (Or.imp id .inl)) H' s⟩
  walk_at "go"
  intro rd dx hrd hdx ne
  have s2 := made_new (o := ob (ga K "Reader") [] dx []) hrd hdx ne
  refine ⟨rd, dx, wl, tw, rfl, upd_same, s2 _ _ hwl, hl, fun H2 s3 Rd => ⟨rfl, ?_⟩⟩
  have s12 : Same H1 H2 := s3.from s2 (by simpa using hrd)
  have hrdH : H rd = none := by
    cases q : H rd with
    | none => rfl
    | some o => rw [s1 _ _ q] at hrd; cases hrd
  obtain ⟨dx2, wl2, q2, _⟩ := id Rd
  walk_at "go"
  refine k_mc q2 rfl ?_
  refine ⟨rd, tw, 0, 0, rfl, Rd, rfl, fun w hw => ?_, fun t r ep v H3 i3 s4 Rd3 hr3 Rv => ?_, fun ep H' s => ?_⟩
  · have := tok_len hT w hw
    rw [len_z] at this
    omega
  · obtain ⟨dx3, wl3, q3, _⟩ := id Rd3
    have s : Same H H3 := s4.from (s1.trans s12) (by simpa using hrdH)
    rw [List.drop_zero] at ep
    walk_at "go"
    refine k_mc q3 rfl ?_
    refine ⟨rd, _, _, _, rfl, Rd3, ?_⟩
    rw [getD_head, hr3]
    walk_at "go"
    refine ifn (fun h => ?_) (fun h => ?_)
    · walk_at "go"
      exact ke (.inr (.inr (.inr (by simp only [parseF, ep]; exact if_neg h)))) H3 s
    · walk_at "go"
      refine kq t hz4 hok hl (by simp only [parseF, ep]; exact if_pos h) v H3 s (PcX.good _ _ _ _ _ _ _ Rv fun a o ha ho => ⟨ho, ?_⟩)
      cases q : H a with
      | none => rfl
      | some u => rw [(s1.trans s12) _ _ q] at ha; cases ha
  · rw [List.drop_zero] at ep
    exact ke (.inr (.inr (.inr (by simp only [parseF, ep])))) H' (s.from (s1.trans s12) (by simpa using hrdH))
/-! ### a law's tree, its words read: the tree -/
def embNd {α : Type} (f : α → Pt) : Nd α → Pt
  | .num n => .mk (.num n)
  | .nm x => .mk (.nm x)
  | .gate x b t => .mk (.gate x b (f t))
  | .ch k ts => .mk (.ch k (ts.map f))
def emb : (n : Nat) → TrD n → Pt
  | 0 => embNd fun (e : Empty) => e.elim
  | n + 1 => embNd (emb n)
abbrev embS (t : TrS) : Pt := emb t.1 t.2
theorem embNd_pc {K : PySem.W.Frag} {α : Type} {R : TRel α} {f : α → Pt} (hf : ∀ m H A t v, PcX K m H A (f t) v → R H A t v) {m : Nat} {H : Hp} {A : Addr → Prop} {t : Nd α} {v : V} (h : PcX K m H A (embNd f t) v) : PcNd K R H A t v := by
  cases m with
  | zero => exact h.elim
  | succ m =>
    cases t with
    | num n => exact h
    | nm x => exact h
    | gate x b t =>
      obtain ⟨a, dx, u, e, ha, h, r⟩ := (show PcNd K (PcX K m) H A (.gate x b (f t)) v from h)
      exact ⟨a, dx, u, e, ha, h, hf _ _ _ _ _ r⟩
    | ch k ts =>
      obtain ⟨a, dx, l, e, ha, h, l', us, e', hl, hA, P⟩ := (show PcNd K (PcX K m) H A (.ch k (ts.map f)) v from h)
      exact ⟨a, dx, l, e, ha, h, l', us, e', hl, hA, Paired.mapP (paired_mapL P) fun _ _ z => hf _ _ _ _ _ z⟩
theorem emb_pc {K : PySem.W.Frag} : ∀ n m H A (t : TrD n) v, PcX K m H A (emb n t) v → PcR K n H A t v
  | 0, _, _, _, _, _, h => embNd_pc (fun _ _ _ e _ _ => e.elim) h
  | n + 1, _, _, _, _, _, h => embNd_pc (emb_pc n) h
theorem own_nt (k : Kd) : ¬ stopF (k.rank + 1) k.wd := by
  rintro ⟨j, h, e⟩
  cases k <;> cases j <;> first | exact absurd e (by decide) | exact absurd h (by decide)
/-- p reads off what is written for f -/
def RdsP (ys : List Str) (p : PRd) (f : Int) (N : Nat) : Prop := ∀ (t : TrS) (rest : List Str), CS ys N f t → (∀ w, rest.head? = some w → ¬ stopF f w) → p (wdS f t ++ rest) = some (embS t, rest)
theorem chainF_run {ys : List Str} {p : PRd} {k : Kd} {N : Nat} (hp : RdsP ys p (k.rank + 1) N) : ∀ (us : List TrS) (g : Nat) (acc : List Pt) (rest : List Str), (∀ u ∈ us, CS ys N (k.rank + 1) u) → us.length < g → (∀ w, rest.head? = some w → ¬ stopF k.rank w) →
    chainF p k.wd g acc ((us.flatMap fun u => k.wd :: wdS (k.rank + 1) u) ++ rest) = some (acc ++ us.map embS, rest)
  | [], g, acc, rest, _, hg, hr => by
    cases g with
    | zero => simp at hg
    | succ g =>
      have e : ¬ (rest.headD "" = k.wd) := by
        cases rest with
        | nil => cases k <;> decide
        | cons w r => exact fun z => hr w rfl ⟨k, Int.le_refl _, z⟩
      show chainF p k.wd (g + 1) acc rest = _
      rw [chainF, if_neg e]
      simp
  | u :: us, g, acc, rest, hC, hg, hr => by
    cases g with
    | zero => simp at hg
    | succ g =>
      have e0 : ((u :: us).flatMap fun u => k.wd :: wdS (k.rank + 1) u) ++ rest = k.wd :: (wdS (k.rank + 1) u ++ ((us.flatMap fun u => k.wd :: wdS (k.rank + 1) u) ++ rest)) := by simp
      have st : ∀ w, ((us.flatMap fun u => k.wd :: wdS (k.rank + 1) u) ++ rest).head? = some w → ¬ stopF (k.rank + 1) w := fun w hw => by
        cases us with
        | nil => exact fun z => hr w hw ((stop_iff k w).mp (.inl z))
        | cons u us =>
          have : w = k.wd := by simpa using hw.symm
          rw [this]
          exact own_nt k
      rw [e0, chainF, if_pos (show (k.wd :: _).headD "" = k.wd from rfl), List.tail_cons, hp u _ (hC u List.mem_cons_self) st]
      show chainF p k.wd g (acc ++ [embS u]) _ = _
      rw [chainF_run hp us g (acc ++ [embS u]) rest (fun v hv => hC v (List.mem_cons_of_mem _ hv)) (by simp at hg; omega) hr]
      simp
theorem chained_run {ys : List Str} {p : PRd} {k : Kd} {N : Nat} (hp : RdsP ys p (k.rank + 1) N) {us : List TrS} {rest : List Str} (hC : ∀ u ∈ us, CS ys N (k.rank + 1) u) (h1 : 1 ≤ us.length) (h3 : us.length ≤ 8) (hr : ∀ w, rest.head? = some w → ¬ stopF k.rank w) :
    chainedF p k.wd (eL (wdS (k.rank + 1)) k.wd us ++ rest) = some (us.map embS, rest) := by
  cases us with
  | nil => simp at h1
  | cons u us =>
    have st : ∀ w, ((us.flatMap fun u => k.wd :: wdS (k.rank + 1) u) ++ rest).head? = some w → ¬ stopF (k.rank + 1) w := fun w hw => by
      cases us with
      | nil => exact fun z => hr w hw ((stop_iff k w).mp (.inl z))
      | cons u us =>
        have : w = k.wd := by simpa using hw.symm
        rw [this]
        exact own_nt k
    have e1 : p (eL (wdS (k.rank + 1)) k.wd (u :: us) ++ rest) = some (embS u, (us.flatMap fun u => k.wd :: wdS (k.rank + 1) u) ++ rest) := by
      rw [show eL (wdS (k.rank + 1)) k.wd (u :: us) ++ rest = wdS (k.rank + 1) u ++ ((us.flatMap fun u => k.wd :: wdS (k.rank + 1) u) ++ rest) by simp [eL]]
      exact hp u _ (hC u List.mem_cons_self) st
    have e2 := chainF_run hp us (((us.flatMap fun u => k.wd :: wdS (k.rank + 1) u) ++ rest).length + 1) [embS u] rest (fun v hv => hC v (List.mem_cons_of_mem _ hv)) (by
      have : us.length ≤ (us.flatMap fun u => k.wd :: wdS (k.rank + 1) u).length := by
        clear h1 h3 hC st e1
        induction us with
        | nil => simp
        | cons a l ih => simp only [List.flatMap_cons, List.length_append, List.length_cons] at *; omega
      rw [List.length_append]
      omega) hr
    simp only [chainedF, e1, e2]
    rw [if_neg (by simp at h3 ⊢; omega)]
    rfl
theorem lv_run {ys : List Str} {p : PRd} {k : Kd} {N : Nat} (hp : RdsP ys p (k.rank + 1) N) : RdsP ys (lvF k p) k.rank N := by
  intro t rest ⟨ok, fit⟩ hr
  rcases lv_cases k t with ⟨m, ts, rfl⟩ | ⟨e1, e2, e3⟩ | ⟨ts, rfl⟩
  · obtain ⟨o2, o3, okk⟩ := ok
    have nr : ¬ k.rank < k.rank := Int.lt_irrefl _
    have ew : wdS k.rank (⟨m + 1, .ch k ts⟩ : TrS) = eL (wdS (k.rank + 1)) k.wd (ts.map fun t => (⟨m, t⟩ : TrS)) := by
      rw [kids_words]
      exact if_neg nr
    have mn : m ≤ N := by
      rcases fit with q | q
      · have : m + 1 ≤ N := q
        omega
      · have : m + 1 = N + 1 := q.1
        omega
    have := chained_run hp (us := ts.map fun t => (⟨m, t⟩ : TrS)) (rest := rest) (fun u hu => by
      obtain ⟨v, hv, rfl⟩ := List.mem_map.mp hu
      exact ⟨okk v hv, .inl mn⟩) (by rw [List.length_map]; omega) (by rw [List.length_map]; omega) hr
    rw [ew, lvF_many this (by rw [List.length_map, List.length_map]; omega), List.map_map]
    rfl
  · have ew : eL (wdS (k.rank + 1)) k.wd [t] = wdS (k.rank + 1) t := by simp [eL]
    have := chained_run hp (us := [t]) (rest := rest) (fun u hu => by
      rw [List.mem_singleton.mp hu]
      exact ⟨ok, fit.elim .inl fun q => .inr ⟨q.1, e3 q.2⟩⟩) (by simp) (by simp) hr
    rw [e1, ← ew]
    exact lvF_one this
  · have : 2 ≤ ts.length := ok.1
    cases ts with
    | nil => simp at this
    | cons e _ => exact e.elim
theorem whole_run {ys : List Str} {p : PRd} {N : Nat} (hp : RdsP ys p 4 N) : RdsP ys (wholeF p) 1 N := lv_run (k := .most) (lv_run (k := .least) (lv_run (k := .sum) hp))
theorem num_of : ∀ k : Nat, k < 31 → numOf (numS (k : Int)) = some (k : Int) := by decide +kernel
theorem num_ofI {c : Int} (h0 : 0 ≤ c) (h1 : c ≤ 30) : numOf (numS c) = some c ∧ ¬ numS c = "(" ∧ ¬ numS c = "[" ∧ nameB (numS c) = false := by
  obtain ⟨m, rfl⟩ : ∃ m : Nat, c = m := ⟨c.toNat, by omega⟩
  obtain ⟨a, b, d⟩ := num_not m (by omega)
  exact ⟨num_of m (by omega), a, b, d⟩
theorem single_run {ys : List Str} (hy : ∀ x ∈ ys, nameB x = true) (N : Nat) (ih : ∀ N', N = N' + 1 → RdsP ys (singleF N') 4 N') : RdsP ys (singleF N) 4 N := by
  rintro ⟨m, t⟩ rest ⟨ok, fit⟩ hr
  have mn : m ≤ N := by
    rcases fit with q | ⟨_, q⟩
    · exact q
    · cases m with
      | zero => exact q.elim
      | succ m =>
        cases t with
        | ch k ts =>
          have q : ¬ k.rank < 4 := q
          have := rank_le k
          omega
        | num _ => exact q.elim
        | nm _ => exact q.elim
        | gate _ _ _ => exact q.elim
  have leafN : ∀ c : Int, 0 ≤ c → c ≤ 30 → singleF N (numS c :: rest) = some (.mk (.num c), rest) := by
    intro c h0 h1
    obtain ⟨a, b, d, e⟩ := num_ofI h0 h1
    rw [singleF_eq]
    show (if numS c = "(" then _ else if numS c = "[" then _ else leafF (numS c) rest) = _
    rw [if_neg b, if_neg d]
    simp only [leafF, e, a]
    rfl
  have leafM : ∀ x : Str, nameB x = true → singleF N (x :: rest) = some (.mk (.nm x), rest) := by
    intro x hx
    obtain ⟨b, d⟩ := name_not hx
    rw [singleF_eq]
    show (if x = "(" then _ else if x = "[" then _ else leafF x rest) = _
    rw [if_neg b, if_neg d]
    simp only [leafF, hx]
    rfl
  cases m with
  | zero =>
    cases t with
    | num c => exact leafN c ok.1 ok.2
    | nm x => exact leafM x (hy x ok)
    | gate _ _ t => exact t.elim
    | ch k ts =>
      have : 2 ≤ ts.length := ok.1
      cases ts with
      | nil => simp at this
      | cons e _ => exact e.elim
  | succ m =>
    obtain ⟨N, rfl⟩ : ∃ N', N = N' + 1 := ⟨N - 1, by omega⟩
    cases t with
    | num c => exact leafN c ok.1 ok.2
    | nm x => exact leafM x (hy x ok)
    | gate x b t =>
      obtain ⟨hx, b0, b1, okt⟩ := ok
      obtain ⟨nb, _⟩ := num_ofI (c := b) (by omega) b1
      have hi := ih N rfl ⟨m, t⟩ rest ⟨okt, .inl (by show m ≤ N; omega)⟩ hr
      rw [singleF_eq]
      show gatedF (some (singleF N)) (x :: numS b :: ("]" : Str) :: (wd m t 4 ++ rest)) = _
      simp only [gatedF, List.headD_cons, List.tail_cons, hy x hx, nb, if_true]
      rw [if_neg (by omega)]
      show (match singleF N (wdS 4 ⟨m, t⟩ ++ rest) with
        | none => none
        | some (t, r) => some (Pt.mk (.gate x b t), r)) = _
      rw [hi]
      rfl
    | ch k ts =>
      have r4 := rank_le k
      have ew : wdS 4 (⟨m + 1, .ch k ts⟩ : TrS) = ("(" : Str) :: wdOut (wd m) k ts ++ [(")" : Str)] := if_pos (by omega)
      have ew1 : wdS 1 (⟨m + 1, .ch k ts⟩ : TrS) = wdOut (wd m) k ts := if_neg (by omega)
      have hi := whole_run (ih N rfl) ⟨m + 1, .ch k ts⟩ ((")" : Str) :: rest) ⟨ok, by
        by_cases q : m + 1 ≤ N
        · exact .inl q
        · refine .inr ⟨by show m + 1 = N + 1; omega, ?_⟩
          show ¬ k.rank < 1
          omega⟩ (fun w hw => by cases hw; exact stop_br)
      rw [ew1] at hi
      rw [ew, singleF_eq]
      have e0 : (("(" : Str) :: wdOut (wd m) k ts ++ [(")" : Str)]) ++ rest = ("(" : Str) :: (wdOut (wd m) k ts ++ (")" : Str) :: rest) := by simp
      rw [e0]
      show bracketF (some (wholeF (singleF N))) (wdOut (wd m) k ts ++ (")" : Str) :: rest) = _
      simp only [bracketF, hi]
      rfl
theorem singleN_run {ys : List Str} (hy : ∀ x ∈ ys, nameB x = true) : ∀ N, RdsP ys (singleF N) 4 N
  | 0 => single_run hy 0 fun _ h => nomatch h
  | N + 1 => single_run hy (N + 1) fun N' h => by
    cases h
    exact singleN_run hy N
/-- a law's tree of two storeys above its leaves, its words parsed -/
theorem parse_run {ys : List Str} (hy : ∀ x ∈ ys, nameB x = true) {t : TrS} (h : CS ys 2 1 t) : parseF (wdS 1 t) = some (embS t) := by
  have := whole_run (singleN_run hy 2) t [] h fun _ hw => nomatch hw
  rw [List.append_nil] at this
  simp only [parseF, this]
  rfl
/-! ### what is left is no longer -/
theorem chainF_shr {p : PRd} (hp : Shr p) {sg : Str} : ∀ (g : Nat) (acc : List Pt) (ws : List Str) (ts : List Pt) (r : List Str), chainF p sg g acc ws = some (ts, r) → r.length ≤ ws.length
  | 0, _, _, _, _, h => by cases h
  | g + 1, acc, ws, ts, r, h => by
    rw [chainF] at h
    by_cases q : ws.headD "" = sg
    · rw [if_pos q] at h
      cases e : p ws.tail with
      | none => rw [e] at h; cases h
      | some x =>
        obtain ⟨t, r1⟩ := x
        rw [e] at h
        have h1 := hp _ _ _ e
        have h2 := chainF_shr hp g _ _ _ _ h
        rw [List.length_tail] at h1
        omega
    · rw [if_neg q] at h
      cases h
      exact Nat.le_refl _
theorem chainedF_shr {p : PRd} (hp : Shr p) {sg : Str} {ws r : List Str} {ts : List Pt} (h : chainedF p sg ws = some (ts, r)) : r.length ≤ ws.length := by
  cases e : p ws with
  | none => simp only [chainedF, e] at h; cases h
  | some x =>
    obtain ⟨t, r1⟩ := x
    cases e2 : chainF p sg (r1.length + 1) [t] r1 with
    | none => simp only [chainedF, e, e2] at h; cases h
    | some y =>
      obtain ⟨ts2, r2⟩ := y
      simp only [chainedF, e, e2] at h
      have h1 := hp _ _ _ e
      have h2 := chainF_shr hp _ _ _ _ _ e2
      by_cases q : 8 < ts2.length
      · rw [if_pos q] at h; cases h
      · rw [if_neg q] at h
        cases h
        omega
theorem lvF_shr {p : PRd} (hp : Shr p) (k : Kd) : Shr (lvF k p) := fun ws t r h => by
  cases e : chainedF p k.wd ws with
  | none => rw [lvF_none e] at h; cases h
  | some x =>
    obtain ⟨ts, r1⟩ := x
    have h1 := chainedF_shr hp e
    by_cases q : ts.length = 1
    · match ts, q with
      | [t1], _ =>
        rw [lvF_one e] at h
        cases h
        exact h1
    · rw [lvF_many e q] at h
      cases h
      exact h1
theorem wholeF_shr {p : PRd} (hp : Shr p) : Shr (wholeF p) := lvF_shr (lvF_shr (lvF_shr hp _) _) _
theorem leafF_shr {w : Str} {r r1 : List Str} {t : Pt} (h : leafF w r = some (t, r1)) : r1 = r := by
  unfold leafF at h
  by_cases q : nameB w = true
  · rw [if_pos q] at h
    cases h
    rfl
  · rw [if_neg q] at h
    cases e : numOf w with
    | none => rw [e] at h; cases h
    | some c => rw [e] at h; cases h; rfl
theorem gatedF_shr {p : Option PRd} (hp : ∀ q, p = some q → Shr q) : Shr (gatedF p) := fun ws t r h => by
  unfold gatedF at h
  by_cases q1 : nameB (ws.headD "") = true
  · rw [if_pos q1] at h
    cases e : numOf (ws.tail.headD "") with
    | none => rw [e] at h; cases h
    | some b =>
      rw [e] at h
      simp only at h
      by_cases q2 : b = 0
      · rw [if_pos q2] at h; cases h
      · rw [if_neg q2] at h
        by_cases q3 : ws.tail.tail.headD "" = "]"
        · rw [if_pos q3] at h
          cases p with
          | none => cases h
          | some p =>
            simp only at h
            cases e2 : p ws.tail.tail.tail with
            | none => rw [e2] at h; cases h
            | some x =>
              obtain ⟨t1, r1⟩ := x
              rw [e2] at h
              cases h
              have := hp p rfl _ _ _ e2
              simp only [List.length_tail] at this
              omega
        · rw [if_neg q3] at h; cases h
  · rw [if_neg q1] at h; cases h
theorem bracketF_shr {p : Option PRd} (hp : ∀ q, p = some q → Shr q) : Shr (bracketF p) := fun ws t r h => by
  unfold bracketF at h
  cases p with
  | none => cases h
  | some p =>
    simp only at h
    cases e2 : p ws with
    | none => rw [e2] at h; cases h
    | some x =>
      obtain ⟨t1, r1⟩ := x
      rw [e2] at h
      simp only at h
      by_cases q : r1.headD "" = ")"
      · rw [if_pos q] at h
        cases h
        have := hp p rfl _ _ _ e2
        simp only [List.length_tail]
        omega
      · rw [if_neg q] at h; cases h
theorem singleF_shr : ∀ n, Shr (singleF n) := by
  have key : ∀ n, (∀ q, subF n = some q → Shr q) → Shr (singleF n) := fun n hs ws t r h => by
    rw [singleF_eq] at h
    have lt : ws.tail.length ≤ ws.length := by rw [List.length_tail]; omega
    by_cases q1 : ws.headD "" = "("
    · rw [if_pos q1] at h
      refine Nat.le_trans (bracketF_shr (fun q hq => ?_) _ _ _ h) lt
      cases e : subF n with
      | none => rw [e] at hq; cases hq
      | some p =>
        rw [e] at hq
        cases hq
        exact wholeF_shr (hs p e)
    · rw [if_neg q1] at h
      by_cases q2 : ws.headD "" = "["
      · rw [if_pos q2] at h
        exact Nat.le_trans (gatedF_shr hs _ _ _ h) lt
      · rw [if_neg q2] at h
        rw [leafF_shr h]
        exact lt
  intro n
  induction n with
  | zero => exact key 0 fun q h => nomatch h
  | succ n ih =>
    refine key (n + 1) fun q h => ?_
    cases h
    exact ih
/-! ### walking a recipe, told by steps -/
abbrev StepR (σ : Type) : Type := σ → Str → Int → σ → Prop
def mn (i j : Int) : Int := if j < i then j else i
def mx (i j : Int) : Int := if j > i then j else i
section
variable {α σ : Type}
/-- all of a chain, one behind the other -/
def foldR (op : Int → Int → Int) (wk : α → σ → Int → σ → Prop) : List α → Int → σ → Int → σ → Prop
  | [], a, st, r, st' => r = a ∧ st' = st
  | t :: ts, a, st, r, st' => ∃ q s1, wk t st q s1 ∧ foldR op wk ts (op a q) s1 r st'
/-- .. up to a nought -/
def leastR (wk : α → σ → Int → σ → Prop) : List α → Int → σ → Int → σ → Prop
  | [], a, st, r, st' => r = a ∧ st' = st
  | t :: ts, a, st, r, st' => if a = 0 then r = 0 ∧ st' = st else ∃ q s1, wk t st q s1 ∧ leastR wk ts (mn a q) s1 r st'
theorem leastR_0 {wk : α → σ → Int → σ → Prop} {st st' : σ} {r : Int} : ∀ {ts : List α}, leastR wk ts 0 st r st' → r = 0 ∧ st' = st
  | [], h => h
  | _ :: _, h => by
    unfold leastR at h
    rw [if_pos rfl] at h
    exact h
def opK : Kd → Int → Int → Int
  | .sum => fun a q => a + q
  | _ => mx
def chR (wk : α → σ → Int → σ → Prop) : Kd → List α → σ → Int → σ → Prop
  | .sum, ts, st, r, st' => ∃ r1, foldR (opK .sum) wk ts 0 st r1 st' ∧ r = mn r1 30
  | .least, ts, st, r, st' => leastR wk ts 30 st r st'
  | .most, ts, st, r, st' => foldR (opK .most) wk ts 0 st r st'
def ndR (Step : StepR σ) (wk : α → σ → Int → σ → Prop) : Nd α → σ → Int → σ → Prop
  | .num n, st, r, st' => r = n ∧ st' = st
  | .nm x, st, r, st' => Step st x r st'
  | .gate x b t, st, r, st' => ∃ q s1, Step st x q s1 ∧ if b ≤ q then wk t s1 r st' else r = 0 ∧ st' = s1
  | .ch k ts, st, r, st' => chR wk k ts st r st'
end
abbrev Wr (α : Type) : Type 1 := (σ : Type) → StepR σ → α → σ → Int → σ → Prop
def wrR {α : Type} (wk : Wr α) : Wr (Nd α) := fun σ S t st r st' => ndR S (wk σ S) t st r st'
def walkR : (n : Nat) → Wr (TrD n)
  | 0 => wrR fun _ _ (e : Empty) _ _ _ => e.elim
  | n + 1 => wrR (walkR n)
/-- the function at f asks by steps of Step: I tells what stands for a state, Ms may change -/
structure AskOk (HC : Addr → Sp → Prop) (f : Addr) {σ : Type} (I : σ → Hp → Prop) (Step : StepR σ) (Ms : List Addr) : Prop where
  fn : ∀ st H, I st H → Fn f H
  asks : ∃ S, HC f S ∧ ∀ st H x r st' (Q : VK), Step st x r st' → I st H → (∀ H', SameB Ms H H' → I st' H' → Q (.int r) H') → S [.str x] H Q E0
def spt_c (HC : Addr → Sp → Prop) {α : Type} (wk : Wr α) : SpT α := fun A t us H Q _ => ∃ (f : Addr) (σ : Type) (I : σ → Hp → Prop) (Step : StepR σ) (st : σ) (Ms : List Addr) (r : Int) (st' : σ), us = [.ref f] ∧ AskOk HC f I Step Ms ∧ I st H ∧ (∀ m ∈ Ms, ¬ A m) ∧
  wk σ Step t st r st' ∧ ∀ H', SameB Ms H H' → I st' H' → Q (.int r) H'
abbrev sp_come (K : PySem.W.Frag) (HC : Addr → Sp → Prop) {α : Type} (R : TRel α) (wk : Wr α) : Str → Sp := spv (PcNd K R) (fun _ => True) Nd.cls (spt_c HC (wrR wk))
theorem ln_come {HC : Addr → Sp → Prop} {α : Type} {R : TRel α} {C : α → Prop} {cls : α → Str} {wk : Wr α} {c : Str} (vs : List V) (H : Hp) (Q : VK) (E : XK) (h : spv R C cls (spt_c HC wk) c vs H Q E) : vs.length = 2 := by
  obtain ⟨_, _, _, _, rfl, _, _, _, _, _, _, _, _, _, _, _, rfl, _⟩ := h
  rfl
abbrev ns_Number : List Str := ["rank", "number"]
abbrev ns_Sum : List Str := ["rank", "sign", "pieces"]
abbrev ns_Least : List Str := ["rank", "sign", "pieces"]
abbrev ns_Most : List Str := ["rank", "sign", "pieces"]
abbrev n_Number_come_to : List Str := ["self", "ask"]
def t_Number_come_to (K : PySem.W.Frag) (W : WX) : TS :=
  tRet (tFi (ga K "Number") ns_Number 1 (tVar 0))
abbrev n_Name_come_to : List Str := ["self", "ask"]
def t_Name_come_to (K : PySem.W.Frag) (W : WX) (HC : Addr → Sp → Prop) : TS :=
  tRet (tCallH HC 1 (tCons (tFi (ga K "Name") ns_Name 1 (tVar 0)) tNil))
abbrev n_Sum_come_to : List Str := ["self", "ask", "total", "piece"]
def t_Sum_come_to (K : PySem.W.Frag) (W : WX) (VM_come_to : Addr → Addr → Sp → Prop) : TS :=
  tSeq (tAsg (tC (.int 0)) (gName 2))
  (tSeq (tFor (iList K (tFi (ga K "Sum") ns_Sum 2 (tVar 0))) (gName 3) (tAsg (tOp rAddI (tVar 2) (tVM VM_come_to "come_to" (tVar 3) (tCons (tVar 1) tNil))) (gName 2)))
  (tRet (tCB rMin2 (tCons (tVar 2) (tCons (tC (.int 30)) tNil)))))
abbrev n_Least_come_to : List Str := ["self", "ask", "found", "piece"]
def t_Least_come_to (K : PySem.W.Frag) (W : WX) (VM_come_to : Addr → Addr → Sp → Prop) : TS :=
  tSeq (tAsg (tC (.int 30)) (gName 2))
  (tSeq (tFor (iList K (tFi (ga K "Least") ns_Least 2 (tVar 0))) (gName 3) (tSeq (tAsg (tCB rMin2 (tCons (tVar 2) (tCons (tVM VM_come_to "come_to" (tVar 3) (tCons (tVar 1) tNil)) tNil))) (gName 2))
  (tIfS (tTest (tOp rEq (tVar 2) (tC (.int 0)))) (tRet (tC (.int 0))) tNext)))
  (tRet (tVar 2)))
abbrev n_Most_come_to : List Str := ["self", "ask", "found", "piece"]
def t_Most_come_to (K : PySem.W.Frag) (W : WX) (VM_come_to : Addr → Addr → Sp → Prop) : TS :=
  tSeq (tAsg (tC (.int 0)) (gName 2))
  (tSeq (tFor (iList K (tFi (ga K "Most") ns_Most 2 (tVar 0))) (gName 3) (tAsg (tCB rMax2 (tCons (tVar 2) (tCons (tVM VM_come_to "come_to" (tVar 3) (tCons (tVar 1) tNil)) tNil))) (gName 2)))
  (tRet (tVar 2)))
abbrev n_Gate_come_to : List Str := ["self", "ask"]
def t_Gate_come_to (K : PySem.W.Frag) (W : WX) (VM_come_to : Addr → Addr → Sp → Prop) (HC : Addr → Sp → Prop) : TS :=
  tSeq (tIfS (tTest (tOp rGeI (tCallH HC 1 (tCons (tFi (ga K "Gate") ns_Gate 1 (tVar 0)) tNil)) (tFi (ga K "Gate") ns_Gate 2 (tVar 0)))) (tRet (tVM VM_come_to "come_to" (tFi (ga K "Gate") ns_Gate 3 (tVar 0)) (tCons (tVar 1) tNil))) tNext)
  (tRet (tC (.int 0)))
section
variable {K : PySem.W.Frag} {HC : Addr → Sp → Prop} {α : Type} {R : TRel α} {cls : α → Str} {wk : Wr α} {vs : List V} {H : Hp} {Q : VK} {E : XK} {W : WX}
theorem pure_Number_come_to (h : sp_come K HC R wk "Number" vs H Q E) : t_Number_come_to K W { nx := fun _ H' => Q .non H', rt := Q } (start n_Number_come_to vs) H := by
  obtain ⟨v, us, t, A, rfl, hR, hC, hc, f, σ, I, Step, st, Ms, r, st', rfl, hA, hI, hM, hw, kk⟩ := h
  cases t with
  | num n =>
    obtain ⟨a, dx, rfl, ha, ho⟩ := hR
    show t_Number_come_to K W _ [some (.ref a), some (.ref f)] H
    unfold t_Number_come_to
    obtain ⟨rfl, rfl⟩ := hw
    walk_at "go"
    refine k_fi ho rfl ?_
    walk_at "go"
    exact kk H SameB.refl hI
  | nm x => exact absurd hc (by decide : ¬ ("Name" : Str) = "Number")
  | gate x b t => exact absurd hc (by decide : ¬ ("Gate" : Str) = "Number")
  | ch k ts => exact absurd hc (kd_num k)
theorem pure_Name_come_to (h : sp_come K HC R wk "Name" vs H Q E) : t_Name_come_to K W HC { nx := fun _ H' => Q .non H', rt := Q } (start n_Name_come_to vs) H := by
  obtain ⟨v, us, t, A, rfl, hR, hC, hc, f, σ, I, Step, st, Ms, r, st', rfl, hA, hI, hM, hw, kk⟩ := h
  cases t with
  | num n => exact absurd hc (by decide : ¬ ("Number" : Str) = "Name")
  | nm x =>
    obtain ⟨a, dx, rfl, ha, ho⟩ := hR
    obtain ⟨S, hS, hq⟩ := hA.asks
    show t_Name_come_to K W HC _ [some (.ref a), some (.ref f)] H
    unfold t_Name_come_to
    walk_at "go"
    refine e_ch rfl hS (hA.fn _ _ hI) ?_
    walk_at "go"
    refine k_fi ho rfl ?_
    walk_at "go"
    exact ⟨hA.fn _ _ hI, hq st H x _ _ _ hw hI fun H' s i => kk H' s i⟩
  | gate x b t => exact absurd hc (by decide : ¬ ("Gate" : Str) = "Name")
  | ch k ts => exact absurd hc (kd_name k)
theorem pure_Gate_come_to (g : Good2 R) (hO : PcObj K "come_to" R cls) (h : sp_come K HC R wk "Gate" vs H Q E) : t_Gate_come_to K W (VMs K "come_to" R (fun _ => True) cls (spt_c HC wk)) HC { nx := fun _ H' => Q .non H', rt := Q } (start n_Gate_come_to vs) H := by
  obtain ⟨v, us, t, A, rfl, hR, hC, hc, f, σ, I, Step, st, Ms, r, st', rfl, hA, hI, hM, hw, kk⟩ := h
  cases t with
  | num n => exact absurd hc (by decide : ¬ ("Number" : Str) = "Gate")
  | nm x => exact absurd hc (by decide : ¬ ("Name" : Str) = "Gate")
  | gate x b t =>
    obtain ⟨a, dx, u, rfl, ha, ho, hR⟩ := hR
    obtain ⟨S, hS, hq⟩ := hA.asks
    show t_Gate_come_to K W _ HC _ [some (.ref a), some (.ref f)] H
    unfold t_Gate_come_to
    have keep : ∀ {H' : Hp}, SameB Ms H H' → ∀ b (o : HO), A b → H b = some o → H' b = some o ∧ A b := fun {H'} s b o hb e => ⟨s _ _ (fun z => hM b z hb) e, hb⟩
    obtain ⟨q, st1, hw1, hw2⟩ := hw
    walk_at "go"
    refine e_ch rfl hS (hA.fn _ _ hI) ?_
    walk_at "go"
    refine k_fi ho rfl ?_
    walk_at "go"
    refine ⟨hA.fn _ _ hI, hq st H x _ _ _ hw1 hI fun H1 s1 i1 => ?_⟩
    walk_at "go"
    have ho1 := (keep s1 _ _ ha ho).1
    refine k_fi ho1 rfl ?_
    walk_at "go"
    refine ifd (fun hb => ?_) (fun hb => ?_)
    · rw [if_pos hb] at hw2
      walk_at "go"
      refine k_fi ho1 rfl ?_
      have hR1 : R H1 A t u := g _ _ _ _ _ _ hR (keep s1)
      obtain ⟨a2, dx2, ns2, vs2, rfl, ha2, ho2, hn, h6⟩ := hO _ _ _ _ hR1
      refine k_vm ho2 hn ⟨_, h6, rfl, rfl, rfl⟩ ?_
      walk_at "go"
      exact ⟨_, _, t, A, rfl, hR1, trivial, rfl, f, σ, I, Step, _, Ms, _, _, rfl, hA, i1, hM, hw2, fun H' s2 i2 => kk H' (s1.trans s2) i2⟩
    · rw [if_neg hb] at hw2
      obtain ⟨rfl, rfl⟩ := hw2
      walk_at "go"
      exact kk H1 s1 i1
  | ch k ts => exact absurd hc (kd_gate k)
theorem drop_at' {β : Type} {xs : List β} {i : Nat} {x : β} (h : xs[i]? = some x) : xs.drop i = x :: xs.drop (i + 1) := by
  have hil := List.getElem?_eq_some_iff.mp h
  rw [List.drop_eq_getElem_cons hil.1, hil.2]
theorem pure_Sum_come_to (g : Good2 R) (hO : PcObj K "come_to" R cls) (h : sp_come K HC R wk "Sum" vs H Q E) : t_Sum_come_to K W (VMs K "come_to" R (fun _ => True) cls (spt_c HC wk)) { nx := fun _ H' => Q .non H', rt := Q } (start n_Sum_come_to vs) H := by
  obtain ⟨v, us, t, A, rfl, hR, hC, hc, f, σ, I, Step, st, Ms, r, st', rfl, hA, hI, hM, hw, kk⟩ := h
  cases t with
  | num n => exact absurd hc.symm (kd_num .sum)
  | nm x => exact absurd hc.symm (kd_name .sum)
  | gate x b t => exact absurd hc.symm (kd_gate .sum)
  | ch j ts =>
    obtain rfl := kd_cls (j := .sum) hc
    obtain ⟨a, dx, lp, rfl, ha, ho, l', us, e, hl', hAl, P⟩ := hR
    cases e
    show t_Sum_come_to K W _ _ [some (.ref a), some (.ref f), none, none] H
    unfold t_Sum_come_to
    have lus := Paired.length P
    have keep : ∀ {H' : Hp}, SameB Ms H H' → ∀ b (o : HO), A b → H b = some o → H' b = some o ∧ A b := fun {H'} s b o hb e => ⟨s _ _ (fun z => hM b z hb) e, hb⟩
    obtain ⟨r1, hw, rfl⟩ := hw
    walk_at "go"
    refine k_fi ho rfl ?_
    refine k_forL (fun i σ' H' => ∃ o c s, σ' = [some (.ref a), some (.ref f), some (.int c), o] ∧ SameB Ms H H' ∧ I s H' ∧ foldR (opK .sum) (wk σ Step) (ts.drop i) c s r1 st') (SqL.of hl') ⟨_, _, _, rfl, SameB.refl, hI, hw⟩ (fun i σ' H' _ ⟨_, _, _, _, s, _⟩ => SqL.of (keep s _ _ hAl hl').1) ?_ ?_
    · rintro i x σ' H' hx ⟨o, c, s0, rfl, s1, i1, w1⟩
      obtain ⟨t, ht, hR⟩ := paired_at P hx
      have hR1 : R H' A t x := g _ _ _ _ _ _ hR (keep s1)
      rw [drop_at' ht] at w1
      obtain ⟨q, s2, wa, wb⟩ := w1
      walk_at "go"
      obtain ⟨a2, dx2, ns2, vs2, rfl, ha2, ho2, hn, h6⟩ := hO _ _ _ _ hR1
      refine k_vm ho2 hn ⟨_, h6, rfl, rfl, rfl⟩ ?_
      walk_at "go"
      refine ⟨_, _, t, A, rfl, hR1, trivial, rfl, f, σ, I, Step, _, Ms, _, _, rfl, hA, i1, hM, wa, fun H2 sb i2 => ?_⟩
      walk_at "go"
      exact ⟨some (.ref a2), _, _, rfl, s1.trans sb, i2, wb⟩
    · rintro σ' H' ⟨o, c, s0, rfl, s1, i1, w1⟩
      rw [List.drop_of_length_le (by omega)] at w1
      obtain ⟨rfl, rfl⟩ := w1
      walk_at "go"
      exact ⟨_, _, rfl, kk H' s1 i1⟩
theorem pure_Most_come_to (g : Good2 R) (hO : PcObj K "come_to" R cls) (h : sp_come K HC R wk "Most" vs H Q E) : t_Most_come_to K W (VMs K "come_to" R (fun _ => True) cls (spt_c HC wk)) { nx := fun _ H' => Q .non H', rt := Q } (start n_Most_come_to vs) H := by
  obtain ⟨v, us, t, A, rfl, hR, hC, hc, f, σ, I, Step, st, Ms, r, st', rfl, hA, hI, hM, hw, kk⟩ := h
  cases t with
  | num n => exact absurd hc.symm (kd_num .most)
  | nm x => exact absurd hc.symm (kd_name .most)
  | gate x b t => exact absurd hc.symm (kd_gate .most)
  | ch j ts =>
    obtain rfl := kd_cls (j := .most) hc
    obtain ⟨a, dx, lp, rfl, ha, ho, l', us, e, hl', hAl, P⟩ := hR
    cases e
    show t_Most_come_to K W _ _ [some (.ref a), some (.ref f), none, none] H
    unfold t_Most_come_to
    have lus := Paired.length P
    have keep : ∀ {H' : Hp}, SameB Ms H H' → ∀ b (o : HO), A b → H b = some o → H' b = some o ∧ A b := fun {H'} s b o hb e => ⟨s _ _ (fun z => hM b z hb) e, hb⟩
    walk_at "go"
    refine k_fi ho rfl ?_
    refine k_forL (fun i σ' H' => ∃ o c s, σ' = [some (.ref a), some (.ref f), some (.int c), o] ∧ SameB Ms H H' ∧ I s H' ∧ foldR (opK .most) (wk σ Step) (ts.drop i) c s r st') (SqL.of hl') ⟨_, _, _, rfl, SameB.refl, hI, hw⟩ (fun i σ' H' _ ⟨_, _, _, _, s, _⟩ => SqL.of (keep s _ _ hAl hl').1) ?_ ?_
    · rintro i x σ' H' hx ⟨o, c, s0, rfl, s1, i1, w1⟩
      obtain ⟨t, ht, hR⟩ := paired_at P hx
      have hR1 : R H' A t x := g _ _ _ _ _ _ hR (keep s1)
      rw [drop_at' ht] at w1
      obtain ⟨q, s2, wa, wb⟩ := w1
      walk_at "go"
      obtain ⟨a2, dx2, ns2, vs2, rfl, ha2, ho2, hn, h6⟩ := hO _ _ _ _ hR1
      refine k_vm ho2 hn ⟨_, h6, rfl, rfl, rfl⟩ ?_
      walk_at "go"
      refine ⟨_, _, t, A, rfl, hR1, trivial, rfl, f, σ, I, Step, _, Ms, _, _, rfl, hA, i1, hM, wa, fun H2 sb i2 => ?_⟩
      walk_at "go"
      refine ⟨_, _, rfl, ?_⟩
      walk_at "go"
      exact ⟨some (.ref a2), _, _, rfl, s1.trans sb, i2, wb⟩
    · rintro σ' H' ⟨o, c, s0, rfl, s1, i1, w1⟩
      rw [List.drop_of_length_le (by omega)] at w1
      obtain ⟨rfl, rfl⟩ := w1
      walk_at "go"
      exact kk H' s1 i1
theorem pure_Least_come_to (g : Good2 R) (hO : PcObj K "come_to" R cls) (h : sp_come K HC R wk "Least" vs H Q E) : t_Least_come_to K W (VMs K "come_to" R (fun _ => True) cls (spt_c HC wk)) { nx := fun _ H' => Q .non H', rt := Q } (start n_Least_come_to vs) H := by
  obtain ⟨v, us, t, A, rfl, hR, hC, hc, f, σ, I, Step, st, Ms, r, st', rfl, hA, hI, hM, hw, kk⟩ := h
  cases t with
  | num n => exact absurd hc.symm (kd_num .least)
  | nm x => exact absurd hc.symm (kd_name .least)
  | gate x b t => exact absurd hc.symm (kd_gate .least)
  | ch j ts =>
    obtain rfl := kd_cls (j := .least) hc
    obtain ⟨a, dx, lp, rfl, ha, ho, l', us, e, hl', hAl, P⟩ := hR
    cases e
    show t_Least_come_to K W _ _ [some (.ref a), some (.ref f), none, none] H
    unfold t_Least_come_to
    have lus := Paired.length P
    have keep : ∀ {H' : Hp}, SameB Ms H H' → ∀ b (o : HO), A b → H b = some o → H' b = some o ∧ A b := fun {H'} s b o hb e => ⟨s _ _ (fun z => hM b z hb) e, hb⟩
    walk_at "go"
    refine k_fi ho rfl ?_
    refine k_forL (fun i σ' H' => ∃ o c s, σ' = [some (.ref a), some (.ref f), some (.int c), o] ∧ SameB Ms H H' ∧ I s H' ∧ c ≠ 0 ∧ leastR (wk σ Step) (ts.drop i) c s r st') (SqL.of hl') ⟨_, _, _, rfl, SameB.refl, hI, (by decide), hw⟩ (fun i σ' H' _ ⟨_, _, _, _, s, _⟩ => SqL.of (keep s _ _ hAl hl').1) ?_ ?_
    · rintro i x σ' H' hx ⟨o, c, s0, rfl, s1, i1, n0, w1⟩
      obtain ⟨t, ht, hR⟩ := paired_at P hx
      have hR1 : R H' A t x := g _ _ _ _ _ _ hR (keep s1)
      rw [drop_at' ht] at w1
      unfold leastR at w1
      rw [if_neg n0] at w1
      obtain ⟨q, s2, wa, wb⟩ := w1
      walk_at "go"
      obtain ⟨a2, dx2, ns2, vs2, rfl, ha2, ho2, hn, h6⟩ := hO _ _ _ _ hR1
      refine k_vm ho2 hn ⟨_, h6, rfl, rfl, rfl⟩ ?_
      walk_at "go"
      refine ⟨_, _, t, A, rfl, hR1, trivial, rfl, f, σ, I, Step, _, Ms, _, _, rfl, hA, i1, hM, wa, fun H2 sb i2 => ?_⟩
      walk_at "go"
      refine ⟨_, _, rfl, ?_⟩
      walk_at "go"
      refine ifd (fun h0 => ?_) (fun h0 => ?_)
      · walk_at "go"
        have h0 : mn c q = 0 := h0
        rw [h0] at wb
        obtain ⟨rfl, rfl⟩ := leastR_0 wb
        exact kk H2 (s1.trans sb) i2
      · walk_at "go"
        exact ⟨some (.ref a2), _, _, rfl, s1.trans sb, i2, h0, wb⟩
    · rintro σ' H' ⟨o, c, s0, rfl, s1, i1, n0, w1⟩
      rw [List.drop_of_length_le (by omega)] at w1
      obtain ⟨rfl, rfl⟩ := w1
      walk_at "go"
      exact kk H' s1 i1
end
/-! ### an attribute of a piece, whatever its class -/
def kFv (K : PySem.W.Frag) (f : Str) (x : V) (H : Hp) (Q : VK) : Prop := ∃ a c ns dx vs i v, x = .ref a ∧ c ∈ six ∧ H a = some (ob (ga K c) ns dx vs) ∧ posOf ns f = some i ∧ vs[i]? = some v ∧ Q v H
def tFv (K : PySem.W.Frag) (f : Str) (ta : TE) : TE := fun σ H Q => ta σ H fun x H1 => kFv K f x H1 Q
theorem an_fldv {X : Cx} {e : Expr} {f : Str} {pos : Pos} {ta : TE} (hv : ∀ c ∈ six, Cls X.K (ga X.K c) ∧ NoAttr X.K (ga X.K c) f) (he : PE X e ta) (hb : attributeBase e f X.env (eval e X.env) = eval e X.env := by rfl) : PE X (.Attribute e f pos) (tFv X.K f ta) := by
  refine ⟨fun pins s σ H Q I h => ?_⟩
  refine attr_of hb (thn (he.run pins s σ H _ I h) fun u s1 ⟨x, H1, I1, rx, a, c, ns, dx, vs, i, v, ex, hc, ea, p, l, q⟩ => ?_)
  subst ex
  obtain rfl : u = Value.ref a := rx
  exact getattr_ok I1 ea (hv c hc).1 (hv c hc).2 ((posOf_lookup p).trans l) fun u' s2 I2 ru => ⟨v, H1, I2, ru, q⟩
theorem e_fv {K : PySem.W.Frag} {f : Str} {ta : TE} {σ : St} {H : Hp} {Q : VK} (h : ta σ H fun x H1 => kFv K f x H1 Q) : tFv K f ta σ H Q := h
theorem six_all {P : Str → Prop} (a : P "Number") (b : P "Name") (c : P "Gate") (d : P "Sum") (e : P "Least") (f : P "Most") : ∀ x ∈ six, P x := by
  intro x hx
  simp only [six, List.mem_cons, List.not_mem_nil, or_false] at hx
  rcases hx with rfl | rfl | rfl | rfl | rfl | rfl
  · exact a
  · exact b
  · exact c
  · exact d
  · exact e
  · exact f
local macro_rules | `(tactic| walk_at "g1") => `(tactic| apply_rules (transparency := .reducible) (maxDepth := 1000000) -symm -exfalso only [e_fv])
/-! ### a recipe told -/
def rkNd {α : Type} : Nd α → Int
  | .num _ => 4
  | .nm _ => 4
  | .gate _ _ _ => 4
  | .ch k _ => k.rank
def PcRank (K : PySem.W.Frag) {α : Type} (R : TRel α) (rk : α → Int) : Prop := ∀ (H : Hp) (A : Addr → Prop) (t : α) (v : V), R H A t v → ∃ a c ns dx vs, v = .ref a ∧ c ∈ six ∧ H a = some (ob (ga K c) ns dx vs) ∧ posOf ns "rank" = some 0 ∧ vs[0]? = some (.int (rk t))
theorem pr_1 : posOf ["rank", "number"] "rank" = some 0 := by decide +kernel
theorem pr_2 : posOf ["rank", "name"] "rank" = some 0 := by decide +kernel
theorem pr_3 : posOf ["rank", "name", "bound", "inner"] "rank" = some 0 := by decide +kernel
theorem pr_4 : posOf ["rank", "sign", "pieces"] "rank" = some 0 := by decide +kernel
theorem PcNd.rank {K : PySem.W.Frag} {α : Type} {R : TRel α} : PcRank K (PcNd K R) rkNd := by
  intro H A t v h
  cases t with
  | num n =>
    obtain ⟨a, dx, e, ha, h⟩ := h
    exact ⟨a, _, _, dx, _, e, cls_six (.num n : Nd α), h, pr_1, rfl⟩
  | nm x =>
    obtain ⟨a, dx, e, ha, h⟩ := h
    exact ⟨a, _, _, dx, _, e, cls_six (.nm x : Nd α), h, pr_2, rfl⟩
  | gate x b t =>
    obtain ⟨a, dx, u, e, ha, h, _⟩ := h
    exact ⟨a, _, _, dx, _, e, cls_six (.gate x b t : Nd α), h, pr_3, rfl⟩
  | ch k ts =>
    obtain ⟨a, dx, l, e, ha, h, _⟩ := h
    exact ⟨a, _, _, dx, _, e, cls_six (.ch k ts : Nd α), h, pr_4, rfl⟩
/-- how a written piece takes brackets -/
def Brk {α : Type} (rk : α → Int) (w : α → Int → Str) : Prop := ∀ t f, f ≤ 4 → w t f = if rk t < f then "(" ++ w t 0 ++ ")" else w t 0
theorem kd_rank0 (k : Kd) : ¬ k.rank < 0 := by cases k <;> decide
theorem kd_rank4 (k : Kd) : k.rank + 1 ≤ 4 := by cases k <;> decide
theorem Brk.nd {α : Type} {w : α → Int → Str} : Brk rkNd (wrNd w) := by
  intro t f hf
  cases t with
  | num n =>
    show _ = if (4 : Int) < f then _ else _
    rw [if_neg (by omega)]
    rfl
  | nm x =>
    show _ = if (4 : Int) < f then _ else _
    rw [if_neg (by omega)]
    rfl
  | gate x b t =>
    show _ = if (4 : Int) < f then _ else _
    rw [if_neg (by omega)]
    rfl
  | ch k ts =>
    have e : wrNd w (.ch k ts) 0 = wrOut w k ts := if_neg (kd_rank0 k)
    rw [e]
    rfl
def spt_s {α : Type} (w : α → Int → Str) : SpT α := fun _ t us H Q _ => us = [] ∧ ∀ H', Same H H' → Q (.str (w t 0)) H'
def sp_brk {α : Type} (R : TRel α) (C : α → Prop) (w : α → Int → Str) : Sp := fun vs H Q _ => ∃ (v : V) (f : Int) (t : α) (A : Addr → Prop), vs = [v, .int f] ∧ R H A t v ∧ C t ∧ f ≤ 4 ∧ ∀ H', Same H H' → Q (.str (w t f)) H'
theorem ln_spk {α : Type} {R : TRel α} {C : α → Prop} {cls : α → Str} {w : α → Int → Str} {c : Str} (vs : List V) (H : Hp) (Q : VK) (E : XK) (h : spv R C cls (spt_s w) c vs H Q E) : vs.length = 1 := by
  obtain ⟨_, _, _, _, rfl, _, _, _, rfl, _⟩ := h
  rfl
theorem ln_brk {α : Type} {R : TRel α} {C : α → Prop} {w : α → Int → Str} (vs : List V) (H : Hp) (Q : VK) (E : XK) (h : sp_brk R C w vs H Q E) : vs.length = 2 := by
  obtain ⟨_, _, _, _, rfl, _⟩ := h
  rfl
abbrev n_bracketed : List Str := ["piece", "least"]
def t_bracketed (K : PySem.W.Frag) (W : WX) (VM_spoken : Addr → Addr → Sp → Prop) : TS :=
  tSeq (tIfS (tTest (tOp rLtI (tFv K "rank" (tVar 0)) (tVar 1))) (tRet (tOp rAddS (tOp rAddS (tC (.str "(")) (tVM VM_spoken "spoken" (tVar 0) tNil)) (tC (.str ")")))) tNext)
  (tRet (tVM VM_spoken "spoken" (tVar 0) tNil))
theorem mega : 1000000 + 1000000 ≤ sizeLine := by decide +kernel
theorem mega8 : 8 * 1000010 ≤ sizeLine := by decide +kernel
theorem pure_bracketed {K : PySem.W.Frag} {α : Type} {R : TRel α} {C : α → Prop} {cls : α → Str} {rk : α → Int} {w : α → Int → Str} (hO : PcObj K "spoken" R cls) (hr : PcRank K R rk) (hb : Brk rk w) (hl : ∀ t f, C t → (w t f).length ≤ 1000000) {vs : List V} {H : Hp} {Q : VK} {E : XK} {W : WX} (h : sp_brk R C w vs H Q E) :
    t_bracketed K W (VMs K "spoken" R C cls (spt_s w)) { nx := fun _ H' => Q .non H', rt := Q } (start n_bracketed vs) H := by
  obtain ⟨v, f, t, A, rfl, hR, hC, hf, kk⟩ := h
  have hm := mega
  show t_bracketed K W _ _ [some v, some (.int f)] H
  unfold t_bracketed
  obtain ⟨a, c, ns, dx, us, rfl, hc, ho, hp, hu⟩ := hr _ _ _ _ hR
  obtain ⟨a2, dx2, ns2, vs2, e2, _, ho2, hn, h6⟩ := hO _ _ _ _ hR
  cases e2
  have hl0 := hl t 0 hC
  walk_at "go"
  refine ⟨a, c, ns, dx, us, 0, _, rfl, hc, ho, hp, hu, ?_⟩
  walk_at "go"
  refine ifd (fun h => ?_) (fun h => ?_)
  · walk_at "go"
    refine k_vm ho2 hn ⟨_, h6, rfl, rfl, rfl⟩ ?_
    walk_at "go"
    refine ⟨_, _, t, A, rfl, hR, hC, rfl, rfl, fun H' s => ?_⟩
    have e1 : ("(" ++ w t 0).length = 1 + (w t 0).length := len_app _ _
    refine e_addS (by show 1 + (w t 0).length ≤ sizeLine; omega) ?_
    walk_at "go"
    refine e_addS (by rw [e1]; show 1 + (w t 0).length + 1 ≤ sizeLine; omega) ?_
    have := kk H' s
    rw [hb t f hf, if_pos h] at this
    exact this
  · walk_at "go"
    refine k_vm ho2 hn ⟨_, h6, rfl, rfl, rfl⟩ ?_
    walk_at "go"
    refine ⟨_, _, t, A, rfl, hR, hC, rfl, rfl, fun H' s => ?_⟩
    have := kk H' s
    rw [hb t f hf, if_neg h] at this
    exact this
abbrev n_Number_spoken : List Str := ["self"]
def t_Number_spoken (K : PySem.W.Frag) (W : WX) : TS :=
  tRet (tCB rStrI (tCons (tFi (ga K "Number") ns_Number 1 (tVar 0)) tNil))
/-- what a storey of a recipe is -/
def NdOkX {α : Type} (C : α → Prop) : Nd α → Prop
  | .num n => 0 ≤ n ∧ n ≤ 30
  | .nm x => nameB x = true
  | .gate x b t => nameB x = true ∧ 1 ≤ b ∧ b ≤ 30 ∧ C t
  | .ch _ ts => 2 ≤ ts.length ∧ ts.length ≤ 8 ∧ ∀ t ∈ ts, C t
theorem log_small {n : Int} (h0 : 0 ≤ n) (h1 : n ≤ 30) : n.natAbs.log2 < 1920 := by
  have : n.natAbs < 2 ^ 10 := by omega
  by_cases z : n.natAbs = 0
  · rw [z]; decide
  · have := (Nat.log2_lt z).mpr this
    omega
section
variable {K : PySem.W.Frag} {α : Type} {R : TRel α} {C : α → Prop} {w : α → Int → Str} {vs : List V} {H : Hp} {Q : VK} {E : XK} {W : WX}
theorem pure_Number_spoken (h : spv (PcNd K R) (NdOkX C) Nd.cls (spt_s (wrNd w)) "Number" vs H Q E) : t_Number_spoken K W { nx := fun _ H' => Q .non H', rt := Q } (start n_Number_spoken vs) H := by
  obtain ⟨v, us, t, A, rfl, hR, hC, hc, rfl, kk⟩ := h
  cases t with
  | num n =>
    obtain ⟨a, dx, rfl, ha, ho⟩ := hR
    show t_Number_spoken K W _ [some (.ref a)] H
    unfold t_Number_spoken
    walk_at "go"
    refine k_fi ho rfl ?_
    refine e_strI (log_small hC.1 hC.2) (kk _ (Same.refl _))
  | nm x => exact absurd hc (by decide : ¬ ("Name" : Str) = "Number")
  | gate x b t => exact absurd hc (by decide : ¬ ("Gate" : Str) = "Number")
  | ch k ts => exact absurd hc (kd_num k)
abbrev n_Name_spoken : List Str := ["self"]
def t_Name_spoken (K : PySem.W.Frag) (W : WX) : TS :=
  tRet (tFi (ga K "Name") ns_Name 1 (tVar 0))
theorem pure_Name_spoken (h : spv (PcNd K R) (NdOkX C) Nd.cls (spt_s (wrNd w)) "Name" vs H Q E) : t_Name_spoken K W { nx := fun _ H' => Q .non H', rt := Q } (start n_Name_spoken vs) H := by
  obtain ⟨v, us, t, A, rfl, hR, hC, hc, rfl, kk⟩ := h
  cases t with
  | num n => exact absurd hc (by decide : ¬ ("Number" : Str) = "Name")
  | nm x =>
    obtain ⟨a, dx, rfl, ha, ho⟩ := hR
    show t_Name_spoken K W _ [some (.ref a)] H
    unfold t_Name_spoken
    walk_at "go"
    exact k_fi ho rfl (kk _ (Same.refl _))
  | gate x b t => exact absurd hc (by decide : ¬ ("Gate" : Str) = "Name")
  | ch k ts => exact absurd hc (kd_name k)
abbrev n_Gate_spoken : List Str := ["self"]
def t_Gate_spoken (K : PySem.W.Frag) (W : WX) (S_bracketed : Sp) : TS :=
  tRet (tOp rAddS (tOp rAddS (tOp rAddS (tOp rAddS (tOp rAddS (tC (.str "[")) (tFi (ga K "Gate") ns_Gate 1 (tVar 0))) (tC (.str " "))) (tCB rStrI (tCons (tFi (ga K "Gate") ns_Gate 2 (tVar 0)) tNil))) (tC (.str "] "))) (tCW S_bracketed W (tCons (tFi (ga K "Gate") ns_Gate 3 (tVar 0)) (tCons (tC (.int 4)) tNil))))
theorem pure_Gate_spoken (hl : ∀ t f, C t → (w t f).length ≤ 1000000) (h : spv (PcNd K R) (NdOkX C) Nd.cls (spt_s (wrNd w)) "Gate" vs H Q E) : t_Gate_spoken K W (sp_brk R C w) { nx := fun _ H' => Q .non H', rt := Q } (start n_Gate_spoken vs) H := by
  obtain ⟨v, us, t, A, rfl, hR, hC, hc, rfl, kk⟩ := h
  cases t with
  | num n => exact absurd hc (by decide : ¬ ("Number" : Str) = "Gate")
  | nm x => exact absurd hc (by decide : ¬ ("Name" : Str) = "Gate")
  | gate x b t =>
    obtain ⟨a, dx, u, rfl, ha, ho, hR⟩ := hR
    obtain ⟨hx, b0, b1, hC⟩ := hC
    have hm := mega
    have lx := name_len hx
    have lb := small_str b (by omega) b1
    have lt := hl t 4 hC
    have e1 : ("[" ++ x).length = 1 + x.length := len_app _ _
    have e2 : ("[" ++ x ++ " ").length = 1 + x.length + 1 := (len_app _ _).trans (by rw [e1]; rfl)
    have e3 : ("[" ++ x ++ " " ++ (toString b : String)).length = 1 + x.length + 1 + ((toString b : String) : Str).length := (len_app _ _).trans (by rw [e2])
    have e4 : ("[" ++ x ++ " " ++ (toString b : String) ++ "] ").length = 1 + x.length + 1 + ((toString b : String) : Str).length + 2 := (len_app _ _).trans (by rw [e3]; rfl)
    show t_Gate_spoken K W _ _ [some (.ref a)] H
    unfold t_Gate_spoken
    walk_at "go"
    refine k_fi ho rfl ?_
    refine e_addS (by show 1 + x.length ≤ sizeLine; omega) ?_
    walk_at "go"
    refine e_addS (by rw [e1]; show 1 + x.length + 1 ≤ sizeLine; omega) ?_
    walk_at "go"
    refine k_fi ho rfl ?_
    walk_at "go"
    refine e_strI (log_small (by omega) b1) ?_
    walk_at "go"
    refine e_addS (by rw [e2]; omega) ?_
    walk_at "go"
    refine e_addS (by rw [e3]; show _ + 2 ≤ sizeLine; omega) ?_
    walk_at "go"
    refine k_fi ho rfl ?_
    walk_at "go"
    refine ⟨u, 4, t, A, rfl, hR, hC, by decide, fun H' s => ?_⟩
    refine e_addS (by rw [e4]; omega) ?_
    exact kk H' s
  | ch k ts => exact absurd hc (kd_gate k)
abbrev n_Chain_spoken : List Str := ["self", "texts", "out", "text", "piece"]
def t_Chain_spoken (K : PySem.W.Frag) (W : WX) (S_bracketed : Sp) (C : Addr) : TS :=
  tSeq (tAsg (tLc (iList K (tFi C ns_Chain 2 (tVar 0))) (gName 4) tYes (tCW S_bracketed W (tCons (tVar 4) (tCons (tOp rAddI (tFi C ns_Chain 0 (tVar 0)) (tC (.int 1))) tNil))) [4]) (gName 1))
  (tSeq (tAsg (tOp (rIxL K) (tVar 1) (tC (.int 0))) (gName 2))
  (tSeq (tFor (iList K (tSl (rSlL K) (tVar 1) (tPart (tC (.int 1))) tNoPart)) (gName 3) (tAsg (tOp rAddS (tOp rAddS (tOp rAddS (tOp rAddS (tVar 2) (tC (.str " "))) (tFi C ns_Chain 1 (tVar 0))) (tC (.str " "))) (tVar 3)) (gName 2)))
  (tRet (tVar 2))))
theorem str_assoc (a b c : Str) : a ++ b ++ c = a ++ (b ++ c) := by
  show (⟨a.cps ++ b.cps ++ c.cps⟩ : Str) = ⟨a.cps ++ (b.cps ++ c.cps)⟩
  rw [Array.append_assoc]
theorem kd_sign (k : Kd) (o : Str) : o ++ " " ++ k.wd ++ " " = o ++ k.sign := by
  rw [str_assoc, str_assoc]
  congr 1
  cases k <;> decide +kernel
theorem kd_wd1 (k : Kd) : k.wd.length = 1 := by cases k <;> decide +kernel
/-- what is written of a chain's first pieces -/
def outPre (w : α → Int → Str) (k : Kd) (t : α) (ts : List α) (i : Nat) : Str := (ts.take i).foldl (fun o u => o ++ k.sign ++ w u (k.rank + 1)) (w t (k.rank + 1))
theorem outPre_succ (w : α → Int → Str) (k : Kd) (t : α) (ts : List α) {i : Nat} {u : α} (h : ts[i]? = some u) : outPre w k t ts (i + 1) = outPre w k t ts i ++ k.sign ++ w u (k.rank + 1) := by
  unfold outPre
  have hil := List.getElem?_eq_some_iff.mp h
  rw [List.take_succ_eq_append_getElem hil.1, hil.2, List.foldl_append]
  rfl
theorem kd_sign3 (k : Kd) : k.sign.length = 3 := by cases k <;> decide +kernel
theorem outPre_len (w : α → Int → Str) (k : Kd) (t : α) (ts : List α) (h0 : (w t (k.rank + 1)).length ≤ 1000000) (h : ∀ u ∈ ts, (w u (k.rank + 1)).length ≤ 1000000) : ∀ i, i ≤ ts.length → (outPre w k t ts i).length ≤ (i + 1) * 1000003
  | 0, _ => by
    show (w t (k.rank + 1)).length ≤ _
    omega
  | i + 1, hi => by
    have hu : ts[i]? = some ts[i] := List.getElem?_eq_getElem (by omega)
    rw [outPre_succ w k t ts hu, len_app, len_app, kd_sign3]
    have := outPre_len w k t ts h0 h i (by omega)
    have := h ts[i] (List.getElem_mem _)
    omega
theorem pure_Chain_spoken (g : Good2 R) (hl : ∀ t f, C t → (w t f).length ≤ 1000000) {k : Kd} (h : spv (PcNd K R) (NdOkX C) Nd.cls (spt_s (wrNd w)) k.cls vs H Q E) : t_Chain_spoken K W (sp_brk R C w) (ga K k.cls) { nx := fun _ H' => Q .non H', rt := Q } (start n_Chain_spoken vs) H := by
  obtain ⟨v, us, t, A, rfl, hR, hC, hc, rfl, kk⟩ := h
  cases t with
  | num n => exact absurd hc.symm (kd_num k)
  | nm x => exact absurd hc.symm (kd_name k)
  | gate x b t => exact absurd hc.symm (kd_gate k)
  | ch j ts =>
    obtain rfl := kd_cls hc
    obtain ⟨a, dx, lp, rfl, ha, ho, l', us, e, hl', hAl, P⟩ := hR
    cases e
    obtain ⟨c2, c8, hC⟩ := hC
    have hm := mega8
    show t_Chain_spoken K W _ _ _ [some (.ref a), none, none, none, none] H
    unfold t_Chain_spoken
    have lus := Paired.length P
    have rk4 := kd_rank4 j
    walk_at "go"
    refine k_fi ho rfl ?_
    refine k_lcL (xs := us) (fun i D H' => Same H H' ∧ H D = none ∧ H' D = some (.lst ((ts.take i).map fun t => V.str (w t (j.rank + 1))))) (SqL.of hl') (fun D hD => ⟨same1 hD, hD, upd_same⟩) (fun i D H' _ p => SqL.of (p.1 _ _ hl')) ?_ ?_
    · rintro i x D H' hD hx ⟨s1, nD, h1⟩
      obtain ⟨t, ht, hR⟩ := paired_at P hx
      have hil := List.getElem?_eq_some_iff.mp ht
      show _ ∧ tYes [some (.ref a), none, none, none, some x] H' _
      refine ⟨rfl, ?_⟩
      walk_at "go"
      refine iteT ?_
      walk_at "go"
      refine k_fi (s1 _ _ ho) rfl ?_
      walk_at "go"
      refine ⟨x, j.rank + 1, t, A, rfl, g _ _ _ _ _ _ hR (fun b o hb e => ⟨s1 _ _ e, hb⟩), hC t (List.mem_of_getElem? ht), rk4, fun H2 s2 => ?_⟩
      refine ⟨_, s2 _ _ h1, by rw [List.length_map, List.length_take]; exact small1000 (by omega), fun b o e => upd_o (s2 _ _ (s1 _ _ e)) (fun z => by rw [z, nD] at e; cases e), nD, ?_⟩
      rw [upd_same, List.take_succ_eq_append_getElem hil.1, hil.2, List.map_append]
      rfl
    · rintro D H' hD ⟨s1, nD, h1⟩
      rw [List.take_of_length_le (by omega)] at h1
      walk_at "go"
      obtain ⟨t0, tr, rfl⟩ : ∃ t0 tr, ts = t0 :: tr := by
        match ts, c2 with
        | t0 :: tr, _ => exact ⟨t0, tr, rfl⟩
      refine e_ixL (SqL.of h1) (at_of (j := 0) rfl rfl) ?_
      walk_at "go"
      refine e_slL (SqL.of h1) fun p hp => ?_
      have ec : cutV ((t0 :: tr).map fun t => V.str (w t (j.rank + 1))) (some (1 : Int)) none = tr.map fun t => V.str (w t (j.rank + 1)) := cut_from _ 1
      rw [ec]
      have s2 : Same H (upd H' p (.lst (tr.map fun t => V.str (w t (j.rank + 1))))) := s1.trans (same1 hp)
      have hlen : ∀ i, i ≤ tr.length → (outPre w j t0 tr i).length ≤ (i + 1) * 1000003 := outPre_len w j t0 tr (hl _ _ (hC t0 (by simp))) fun u hu => hl _ _ (hC u (by simp [hu]))
      have h8 : tr.length ≤ 7 := by simp only [List.length_cons] at c8; omega
      refine k_forL (xs := tr.map fun t => V.str (w t (j.rank + 1))) (fun i σ H2 => H2 = upd H' p (.lst (tr.map fun t => V.str (w t (j.rank + 1)))) ∧ ∃ o3, σ = [some (.ref a), some (.ref D), some (.str (outPre w j t0 tr i)), o3, none]) (SqL.of upd_same) ⟨rfl, _, rfl⟩ (fun i σ H2 _ p => by rw [p.1]; exact SqL.of upd_same) ?_ ?_
      · rintro i x σ H2 hx ⟨rfl, o3, rfl⟩
        rw [List.getElem?_map] at hx
        cases hu : tr[i]? with
        | none => rw [hu] at hx; cases hx
        | some u =>
          rw [hu] at hx
          cases hx
          have hi := (List.getElem?_eq_some_iff.mp hu).1
          have li := hlen i (by omega)
          have lu := hl u (j.rank + 1) (hC u (List.mem_cons_of_mem _ (List.mem_of_getElem? hu)))
          have li8 : (outPre w j t0 tr i).length ≤ 7 * 1000003 := Nat.le_trans li (Nat.mul_le_mul_right _ (by omega))
          walk_at "go"
          refine e_addS (by show _ + 1 ≤ sizeLine; omega) ?_
          walk_at "go"
          refine k_fi (s2 _ _ ho) rfl ?_
          refine e_addS (by rw [len_app, kd_wd1]; show _ + 1 + 1 ≤ sizeLine; omega) ?_
          walk_at "go"
          refine e_addS (by rw [len_app, len_app, kd_wd1]; show _ + 1 + 1 + 1 ≤ sizeLine; omega) ?_
          walk_at "go"
          refine e_addS (by rw [len_app, len_app, len_app, kd_wd1]; show _ + 1 + 1 + 1 + _ ≤ sizeLine; omega) ?_
          walk_at "go"
          refine ⟨rfl, some (.str (w u (j.rank + 1))), ?_⟩
          rw [outPre_succ w j t0 tr hu, ← kd_sign]
          rfl
      · rintro σ H2 ⟨rfl, o3, rfl⟩
        walk_at "go"
        rw [List.length_map]
        have e := kk _ s2
        have e2 : wrNd w (.ch j (t0 :: tr)) 0 = outPre w j t0 tr tr.length := by
          show (if j.rank < 0 then _ else _) = _
          rw [if_neg (kd_rank0 j)]
          unfold outPre
          rw [List.take_of_length_le (Nat.le_refl _)]
          rfl
        rw [e2] at e
        exact e
end
/-! shown -/
def sp_shown {α : Type} (R : TRel α) (C : α → Prop) (w : α → Int → Str) : Sp := fun vs H Q _ => ∃ (v : V) (t : α) (A : Addr → Prop), vs = [v] ∧ R H A t v ∧ C t ∧ ∀ H', Same H H' → Q (.str (w t 0)) H'
theorem ln_shown {α : Type} {R : TRel α} {C : α → Prop} {w : α → Int → Str} (vs : List V) (H : Hp) (Q : VK) (E : XK) (h : sp_shown R C w vs H Q E) : vs.length = 1 := by
  obtain ⟨_, _, _, rfl, _⟩ := h
  rfl
abbrev n_shown : List Str := ["recipe"]
def t_shown (K : PySem.W.Frag) (W : WX) (VM_spoken : Addr → Addr → Sp → Prop) : TS :=
  tRet (tVM VM_spoken "spoken" (tVar 0) tNil)
theorem pure_shown {K : PySem.W.Frag} {α : Type} {R : TRel α} {C : α → Prop} {cls : α → Str} {w : α → Int → Str} (hO : PcObj K "spoken" R cls) {vs : List V} {H : Hp} {Q : VK} {E : XK} {W : WX} (h : sp_shown R C w vs H Q E) :
    t_shown K W (VMs K "spoken" R C cls (spt_s w)) { nx := fun _ H' => Q .non H', rt := Q } (start n_shown vs) H := by
  obtain ⟨v, t, A, rfl, hR, hC, kk⟩ := h
  show t_shown K W _ _ [some v] H
  unfold t_shown
  obtain ⟨a2, dx2, ns2, vs2, rfl, _, ho2, hn, h6⟩ := hO _ _ _ _ hR
  walk_at "go"
  refine k_vm ho2 hn ⟨_, h6, rfl, rfl, rfl⟩ ?_
  walk_at "go"
  exact ⟨_, _, t, A, rfl, hR, hC, rfl, rfl, kk⟩
/-! ### what is read is a recipe, no greater than its words -/
def PtOk : Nat → Pt → Prop
  | 0, _ => False
  | m + 1, .mk d => NdOkX (PtOk m) d
def ndsNd {α : Type} (nd : α → Nat) : Nd α → Nat
  | .num _ => 1
  | .nm _ => 1
  | .gate _ _ t => 1 + nd t
  | .ch _ ts => 1 + (ts.map nd).sum
def nodesX : Nat → Pt → Nat
  | 0, _ => 0
  | m + 1, .mk d => ndsNd (nodesX m) d
def wrX : Nat → Pt → Int → Str
  | 0, _ => fun _ => ""
  | m + 1, .mk d => wrNd (wrX m) d
theorem NdOkX.imp {α : Type} {C C' : α → Prop} (h : ∀ t, C t → C' t) {d : Nd α} (hd : NdOkX C d) : NdOkX C' d := by
  cases d with
  | num n => exact hd
  | nm x => exact hd
  | gate x b t => exact ⟨hd.1, hd.2.1, hd.2.2.1, h _ hd.2.2.2⟩
  | ch k ts => exact ⟨hd.1, hd.2.1, fun t ht => h t (hd.2.2 t ht)⟩
theorem PtOk.succ : ∀ {m : Nat} {t : Pt}, PtOk m t → PtOk (m + 1) t
  | 0, _, h => h.elim
  | _ + 1, .mk _, h => NdOkX.imp (fun _ => PtOk.succ) h
theorem PtOk.mono {m n : Nat} {t : Pt} (h : PtOk m t) (l : m ≤ n) : PtOk n t := by
  induction l with
  | refl => exact h
  | step _ ih => exact ih.succ
theorem nodes_succ : ∀ {m : Nat} {t : Pt}, PtOk m t → nodesX (m + 1) t = nodesX m t
  | 0, _, h => h.elim
  | m + 1, .mk d, h => by
    show ndsNd (nodesX (m + 1)) d = ndsNd (nodesX m) d
    cases d with
    | num n => rfl
    | nm x => rfl
    | gate x b t => show 1 + _ = 1 + _; rw [nodes_succ h.2.2.2]
    | ch k ts =>
      show 1 + _ = 1 + _
      rw [List.map_congr_left fun t ht => nodes_succ (h.2.2 t ht)]
theorem nodes_mono {m n : Nat} {t : Pt} (h : PtOk m t) (l : m ≤ n) : nodesX n t = nodesX m t := by
  induction l with
  | refl => rfl
  | step l ih => rw [nodes_succ (h.mono l), ih]
theorem wrNd_congr {α : Type} {C : α → Prop} {w w' : α → Int → Str} (h : ∀ t f, C t → w t f = w' t f) {d : Nd α} (hd : NdOkX C d) (f : Int) : wrNd w d f = wrNd w' d f := by
  cases d with
  | num n => rfl
  | nm x => rfl
  | gate x b t => show "[" ++ x ++ " " ++ (toString b : String) ++ "] " ++ w t 4 = "[" ++ x ++ " " ++ (toString b : String) ++ "] " ++ w' t 4; rw [h t 4 hd.2.2.2]
  | ch k ts =>
    have e : wrOut w k ts = wrOut w' k ts := by
      have hc := hd.2.2
      have : ∀ (ts : List α) (o : Str), (∀ t ∈ ts, C t) → ts.foldl (fun o u => o ++ k.sign ++ w u (k.rank + 1)) o = ts.foldl (fun o u => o ++ k.sign ++ w' u (k.rank + 1)) o := by
        intro ts
        induction ts with
        | nil => intro o _; rfl
        | cons t ts ih =>
          intro o hC
          rw [List.foldl_cons, List.foldl_cons, h t _ (hC t List.mem_cons_self)]
          exact ih _ fun u hu => hC u (List.mem_cons_of_mem _ hu)
      cases ts with
      | nil => rfl
      | cons t ts =>
        show ts.foldl _ (w t (k.rank + 1)) = ts.foldl _ (w' t (k.rank + 1))
        rw [h t _ (hc t List.mem_cons_self)]
        exact this ts _ fun u hu => hc u (List.mem_cons_of_mem _ hu)
    show (if k.rank < f then "(" ++ wrOut w k ts ++ ")" else wrOut w k ts) = if k.rank < f then "(" ++ wrOut w' k ts ++ ")" else wrOut w' k ts
    rw [e]
theorem wr_succ : ∀ {m : Nat} {t : Pt}, PtOk m t → ∀ f, wrX (m + 1) t f = wrX m t f
  | 0, _, h => h.elim
  | m + 1, .mk _, h => fun f => wrNd_congr (C := PtOk m) (fun _ f h => wr_succ h f) h f
theorem wr_mono {m n : Nat} {t : Pt} (h : PtOk m t) (l : m ≤ n) (f : Int) : wrX n t f = wrX m t f := by
  induction l with
  | refl => rfl
  | step l ih => rw [wr_succ (h.mono l), ih]
theorem foldl_len {α : Type} (w : α → Int → Str) (k : Kd) (nd : α → Nat) (f : Int) : ∀ (ts : List α) (o : Str), (∀ t ∈ ts, (w t f).length ≤ 40 * nd t) → (ts.foldl (fun o u => o ++ k.sign ++ w u f) o).length ≤ o.length + 3 * ts.length + 40 * (ts.map nd).sum
  | [], o, _ => by simp
  | t :: ts, o, h => by
    rw [List.foldl_cons]
    refine Nat.le_trans (foldl_len w k nd f ts _ fun u hu => h u (List.mem_cons_of_mem _ hu)) ?_
    rw [len_app, len_app, kd_sign3, List.map_cons, List.sum_cons, List.length_cons]
    have := h t List.mem_cons_self
    omega
theorem len_wrX : ∀ (m : Nat) (t : Pt) (f : Int), PtOk m t → (wrX m t f).length ≤ 40 * nodesX m t
  | 0, _, _, h => h.elim
  | m + 1, .mk d, f, h => by
    show (wrNd (wrX m) d f).length ≤ 40 * ndsNd (nodesX m) d
    cases d with
    | num n =>
      have := small_str n h.1 h.2
      show ((toString n : String) : Str).length ≤ 40 * 1
      omega
    | nm x =>
      have := name_len h
      show x.length ≤ 40 * 1
      omega
    | gate x b t =>
      obtain ⟨hx, b0, b1, hC⟩ := h
      have := name_len hx
      have := small_str b (by omega) b1
      have := len_wrX m t 4 hC
      show ("[" ++ x ++ " " ++ (toString b : String) ++ "] " ++ wrX m t 4).length ≤ 40 * (1 + nodesX m t)
      rw [len_app, len_app, len_app, len_app, len_app]
      show 1 + x.length + 1 + _ + 2 + _ ≤ _
      omega
    | ch k ts =>
      obtain ⟨c2, c8, hC⟩ := h
      have e : (wrOut (wrX m) k ts).length ≤ 3 * ts.length + 40 * (ts.map (nodesX m)).sum := by
        cases ts with
        | nil => simp at c2
        | cons t ts =>
          refine Nat.le_trans (foldl_len (wrX m) k (nodesX m) (k.rank + 1) ts _ fun u hu => len_wrX m u _ (hC u (List.mem_cons_of_mem _ hu))) ?_
          have := len_wrX m t (k.rank + 1) (hC t List.mem_cons_self)
          rw [List.map_cons, List.sum_cons, List.length_cons]
          omega
      show (if k.rank < f then "(" ++ wrOut (wrX m) k ts ++ ")" else wrOut (wrX m) k ts).length ≤ 40 * (1 + (ts.map (nodesX m)).sum)
      split
      · rw [len_app, len_app]
        show 1 + _ + 1 ≤ _
        omega
      · omega
/-- what p reads -/
def OkP (m : Nat) (p : PRd) : Prop := ∀ ws t r, p ws = some (t, r) → PtOk m t ∧ nodesX m t + r.length ≤ ws.length
theorem OkP.mono {m n : Nat} {p : PRd} (h : OkP m p) (l : m ≤ n) : OkP n p := fun ws t r e => by
  obtain ⟨h1, h2⟩ := h ws t r e
  exact ⟨h1.mono l, by rw [nodes_mono h1 l]; exact h2⟩
theorem tail_len {ws : List Str} {sg : Str} (hs : sg ≠ "") (h : ws.headD "" = sg) : ws.tail.length + 1 = ws.length := by
  cases ws with
  | nil => exact absurd h.symm hs
  | cons a r => rfl
theorem chainF_ok {p : PRd} {sg : Str} {m : Nat} (hs : sg ≠ "") (hp : OkP m p) : ∀ (g : Nat) (acc : List Pt) (ws : List Str) (ts : List Pt) (r : List Str), chainF p sg g acc ws = some (ts, r) → ∃ us, ts = acc ++ us ∧ (∀ u ∈ us, PtOk m u) ∧ (us.map (nodesX m)).sum + us.length + r.length ≤ ws.length
  | 0, _, _, _, _, h => by cases h
  | g + 1, acc, ws, ts, r, h => by
    rw [chainF] at h
    by_cases q : ws.headD "" = sg
    · rw [if_pos q] at h
      cases e : p ws.tail with
      | none => rw [e] at h; cases h
      | some x =>
        obtain ⟨t, r1⟩ := x
        rw [e] at h
        obtain ⟨h1, h2⟩ := hp _ _ _ e
        obtain ⟨us, rfl, h3, h4⟩ := chainF_ok hs hp g _ _ _ _ h
        have := tail_len hs q
        refine ⟨t :: us, by simp, fun u hu => ?_, ?_⟩
        · rcases List.mem_cons.mp hu with z | z
          · rw [z]; exact h1
          · exact h3 u z
        · rw [List.map_cons, List.sum_cons, List.length_cons]
          omega
    · rw [if_neg q] at h
      cases h
      exact ⟨[], by simp, by simp, by simp⟩
theorem chainedF_ok {p : PRd} {sg : Str} {m : Nat} (hs : sg ≠ "") (hp : OkP m p) {ws r : List Str} {ts : List Pt} (h : chainedF p sg ws = some (ts, r)) : 1 ≤ ts.length ∧ ts.length ≤ 8 ∧ (∀ u ∈ ts, PtOk m u) ∧ (ts.map (nodesX m)).sum + (ts.length - 1) + r.length ≤ ws.length := by
  cases e : p ws with
  | none => simp only [chainedF, e] at h; cases h
  | some x =>
    obtain ⟨t, r1⟩ := x
    cases e2 : chainF p sg (r1.length + 1) [t] r1 with
    | none => simp only [chainedF, e, e2] at h; cases h
    | some y =>
      obtain ⟨ts2, r2⟩ := y
      simp only [chainedF, e, e2] at h
      obtain ⟨h1, h2⟩ := hp _ _ _ e
      obtain ⟨us, rfl, h3, h4⟩ := chainF_ok hs hp _ _ _ _ _ e2
      by_cases q : 8 < ([t] ++ us).length
      · rw [if_pos q] at h; cases h
      · rw [if_neg q] at h
        cases h
        refine ⟨by simp, by omega, fun u hu => ?_, ?_⟩
        · rcases List.mem_cons.mp hu with z | z
          · rw [z]; exact h1
          · exact h3 u z
        · simp only [List.cons_append, List.nil_append, List.map_cons, List.sum_cons, List.length_cons]
          omega
theorem kd_wd_ne (k : Kd) : k.wd ≠ "" := by cases k <;> decide
theorem lvF_ok {p : PRd} {m : Nat} (hp : OkP m p) (k : Kd) : OkP (m + 1) (lvF k p) := fun ws t r h => by
  cases e : chainedF p k.wd ws with
  | none => rw [lvF_none e] at h; cases h
  | some x =>
    obtain ⟨ts, r1⟩ := x
    obtain ⟨c1, c8, hC, hn⟩ := chainedF_ok (kd_wd_ne k) hp e
    by_cases q : ts.length = 1
    · match ts, q with
      | [t1], _ =>
        rw [lvF_one e] at h
        cases h
        have := hC t (by simp)
        exact ⟨this.succ, by rw [nodes_succ this]; simpa using hn⟩
    · rw [lvF_many e q] at h
      cases h
      refine ⟨⟨by omega, c8, hC⟩, ?_⟩
      show 1 + (ts.map (nodesX m)).sum + _ ≤ _
      omega
theorem wholeF_ok {p : PRd} {m : Nat} (hp : OkP m p) : OkP (m + 3) (wholeF p) := lvF_ok (lvF_ok (lvF_ok hp _) _) _
theorem numOf_rng {z : Str} {n : Int} (h : numOf z = some n) : 0 ≤ n ∧ n ≤ 30 := by
  unfold numOf at h
  split at h
  · split at h
    · rename_i a hz hm
      cases h
      have : ∀ a ∈ FG, (48 : Nat) ≤ a ∧ a ≤ 57 := by decide
      have := this a hm
      omega
    · cases h
  · split at h
    · rename_i a b hz hm
      cases h
      obtain ⟨ha, hb, _, hs⟩ := hm
      have k : ∀ a ∈ FG, (48 : Nat) ≤ a ∧ a ≤ 57 := by decide
      have := k a ha
      have := k b hb
      omega
    · cases h
  · cases h
theorem nodes_leaf {d : Nd Pt} (h : ndsNd (nodesX 0) d = 1) : nodesX 1 (.mk d) = 1 := h
theorem leafF_ok {w : Str} {ws r : List Str} {t : Pt} (hw : ws.headD "" = w) (h : leafF w ws.tail = some (t, r)) : PtOk 1 t ∧ nodesX 1 t + r.length ≤ ws.length := by
  have ne : w ≠ "" → ws.tail.length + 1 = ws.length := fun q => tail_len q hw
  unfold leafF at h
  by_cases q : nameB w = true
  · rw [if_pos q] at h
    cases h
    have := ne (fun z => by rw [z] at q; exact absurd q (by decide))
    exact ⟨q, by show 1 + _ ≤ _; omega⟩
  · rw [if_neg q] at h
    cases e : numOf w with
    | none => rw [e] at h; cases h
    | some c =>
      rw [e] at h
      cases h
      have := ne (fun z => by
        rw [z, (by decide : numOf "" = none)] at e
        cases e)
      exact ⟨numOf_rng e, by show 1 + _ ≤ _; omega⟩
theorem gatedF_ok {p : Option PRd} {m : Nat} (hp : ∀ q, p = some q → OkP m q) : OkP (m + 1) (gatedF p) := fun ws t r h => by
  unfold gatedF at h
  by_cases q1 : nameB (ws.headD "") = true
  · rw [if_pos q1] at h
    cases e : numOf (ws.tail.headD "") with
    | none => rw [e] at h; cases h
    | some b =>
      rw [e] at h
      simp only at h
      by_cases q2 : b = 0
      · rw [if_pos q2] at h; cases h
      · rw [if_neg q2] at h
        by_cases q3 : ws.tail.tail.headD "" = "]"
        · rw [if_pos q3] at h
          cases p with
          | none => cases h
          | some p =>
            simp only at h
            cases e2 : p ws.tail.tail.tail with
            | none => rw [e2] at h; cases h
            | some x =>
              obtain ⟨t1, r1⟩ := x
              rw [e2] at h
              cases h
              obtain ⟨h1, h2⟩ := hp p rfl _ _ _ e2
              have := numOf_rng e
              have l3 := tail_len (by decide) q3
              simp only [List.length_tail] at h2 l3
              exact ⟨⟨q1, by omega, by omega, h1⟩, by show 1 + nodesX m t1 + _ ≤ _; omega⟩
        · rw [if_neg q3] at h; cases h
  · rw [if_neg q1] at h; cases h
theorem bracketF_ok {p : Option PRd} {m : Nat} (hp : ∀ q, p = some q → OkP m q) : OkP m (bracketF p) := fun ws t r h => by
  unfold bracketF at h
  cases p with
  | none => cases h
  | some p =>
    simp only at h
    cases e2 : p ws with
    | none => rw [e2] at h; cases h
    | some x =>
      obtain ⟨t1, r1⟩ := x
      rw [e2] at h
      simp only at h
      by_cases q : r1.headD "" = ")"
      · rw [if_pos q] at h
        cases h
        obtain ⟨h1, h2⟩ := hp p rfl _ _ _ e2
        simp only [List.length_tail]
        exact ⟨h1, by omega⟩
      · rw [if_neg q] at h; cases h
theorem singleF_ok : ∀ n, OkP (4 * n + 1) (singleF n) := by
  have key : ∀ n, (∀ q, subF n = some q → ∃ n', n = n' + 1 ∧ OkP (4 * n' + 1) q) → OkP (4 * n + 1) (singleF n) := fun n hs ws t r h => by
    rw [singleF_eq] at h
    have lt : ws.tail.length ≤ ws.length := by rw [List.length_tail]; omega
    by_cases q1 : ws.headD "" = "("
    · rw [if_pos q1] at h
      obtain ⟨h1, h2⟩ := bracketF_ok (m := 4 * n + 1) (fun q hq => by
        cases e : subF n with
        | none => rw [e] at hq; cases hq
        | some p =>
          rw [e] at hq
          cases hq
          obtain ⟨n', rfl, hp⟩ := hs p e
          exact (wholeF_ok hp).mono (by omega)) _ _ _ h
      exact ⟨h1, by omega⟩
    · rw [if_neg q1] at h
      by_cases q2 : ws.headD "" = "["
      · rw [if_pos q2] at h
        obtain ⟨h1, h2⟩ := (gatedF_ok (m := 4 * n) (fun q hq => by
          obtain ⟨n', rfl, hp⟩ := hs q hq
          exact hp.mono (by omega))) _ _ _ h
        exact ⟨h1, by omega⟩
      · rw [if_neg q2] at h
        obtain ⟨h1, h2⟩ := leafF_ok rfl h
        exact ⟨h1.mono (by omega), by rw [nodes_mono h1 (by omega)]; exact h2⟩
  intro n
  induction n with
  | zero => exact key 0 fun q h => nomatch h
  | succ n ih =>
    refine key (n + 1) fun q h => ?_
    cases h
    exact ⟨n, rfl, ih⟩
theorem parse_ok {ws : List Str} {t : Pt} (h : parseF ws = some t) : PtOk 12 t ∧ nodesX 12 t ≤ ws.length := by
  unfold parseF at h
  cases e : wholeF (singleF 2) ws with
  | none => rw [e] at h; cases h
  | some x =>
    obtain ⟨t1, r1⟩ := x
    rw [e] at h
    simp only at h
    by_cases q : r1.headD "" = ""
    · rw [if_pos q] at h
      cases h
      obtain ⟨h1, h2⟩ := wholeF_ok (singleF_ok 2) _ _ _ e
      have h2 : nodesX 12 t + r1.length ≤ ws.length := h2
      exact ⟨h1, by omega⟩
    · rw [if_neg q] at h; cases h
/-- a recipe that can be told -/
def PtT (m : Nat) (t : Pt) : Prop := PtOk m t ∧ nodesX m t ≤ 1000
theorem PtT.len {m : Nat} {t : Pt} (h : PtT m t) (f : Int) : (wrX m t f).length ≤ 1000000 := by
  have := len_wrX m t f h.1
  have := h.2
  omega
theorem sum_mem {α : Type} (nd : α → Nat) : ∀ {ts : List α} {t : α}, t ∈ ts → nd t ≤ (ts.map nd).sum
  | u :: ts, t, h => by
    rw [List.map_cons, List.sum_cons]
    rcases List.mem_cons.mp h with z | z
    · rw [z]; omega
    · have := sum_mem nd z
      omega
theorem PtT.nd {m : Nat} {d : Nd Pt} (h : PtT (m + 1) (.mk d)) : NdOkX (PtT m) d := by
  obtain ⟨h1, h2⟩ := h
  have h1 : NdOkX (PtOk m) d := h1
  have h2 : ndsNd (nodesX m) d ≤ 1000 := h2
  cases d with
  | num n => exact h1
  | nm x => exact h1
  | gate x b t =>
    have h2 : 1 + nodesX m t ≤ 1000 := h2
    exact ⟨h1.1, h1.2.1, h1.2.2.1, h1.2.2.2, by omega⟩
  | ch k ts =>
    have h2 : 1 + (ts.map (nodesX m)).sum ≤ 1000 := h2
    exact ⟨h1.1, h1.2.1, fun t ht => ⟨h1.2.2 t ht, by have := sum_mem (nodesX m) ht; omega⟩⟩
/-! ### the promises of spoken, shown -/
def clsX : Pt → Str
  | .mk d => d.cls
def rkX : Pt → Int
  | .mk d => rkNd d
theorem PcX.obj {K : PySem.W.Frag} {m : Str} (hm : mOk m = true) : ∀ n, PcObj K m (PcX K n) clsX
  | 0 => fun _ _ _ _ h => h.elim
  | _ + 1 => fun H A t v h => match t, h with
    | .mk d, h => PcNd.obj hm H A d v h
theorem PcX.rank {K : PySem.W.Frag} : ∀ n, PcRank K (PcX K n) rkX
  | 0 => fun _ _ _ _ h => h.elim
  | _ + 1 => fun H A t v h => match t, h with
    | .mk d, h => PcNd.rank H A d v h
theorem Brk.x (n : Nat) : Brk rkX (wrX (n + 1)) := fun t f hf => match t with
  | .mk d => Brk.nd d f hf
/-! ### texts with blanks put in -/
def rMulS : R2 := fun x y H Q => ∃ (z : Str) (n : Int), x = .str z ∧ y = .int n ∧ 0 ≤ n ∧ n ≤ 1000 ∧ z.length ≤ 1000 ∧ Q (.str (PySem.Txt.mul z n)) H
theorem op_mulS {X : Cx} : OpR X (binaryOp .Mult) rMulS := by
  intro pins s σ H x y v u Q I rx ry h
  obtain ⟨z, n, rfl, rfl, h0, h1, hz, q⟩ := h
  obtain ⟨t, rfl⟩ := rx
  obtain ⟨t2, rfl⟩ := ry
  refine SB.mul ⟨by simp; omega, fun h2 _ => ?_, fun _ _ => ?_⟩ fun t' k => ⟨.str _, H, I.tok k, ⟨t', rfl⟩, q⟩
  · have : (z.length : Int) ≤ (2 ^ 63 - 1) / n := by
      refine Int.le_ediv_of_mul_le (by omega) ?_
      have : (z.length : Int) * n ≤ 1000 * 1000 := Int.mul_le_mul (by omega) h1 h0 (by decide)
      omega
    omega
  · have : z.length * n.toNat ≤ 1000 * 1000 := Nat.mul_le_mul hz (by omega)
    have : (1000 * 1000 : Nat) ≤ sizeLine := by decide +kernel
    show decide (z.length * n.toNat > sizeLine) = false
    exact decide_eq_false (by omega)
theorem e_mulS {z : Str} {n : Int} {H : Hp} {Q : VK} (h0 : 0 ≤ n) (h1 : n ≤ 1000) (hz : z.length ≤ 1000) (q : Q (.str (PySem.Txt.mul z n)) H) : rMulS (.str z) (.int n) H Q := ⟨z, n, rfl, rfl, h0, h1, hz, q⟩
theorem mul_1 : ∀ n : Nat, n < 4 → PySem.Txt.mul " " (n : Int) = ⟨(List.replicate n 32).toArray⟩ := by decide +kernel
theorem mul_2 : ∀ n : Nat, n < 3 → PySem.Txt.mul "  " (n : Int) = ⟨(List.replicate (2 * n) 32).toArray⟩ := by decide +kernel
def cntB (cell : Int) (j : Nat) : Nat := ((cell / ((j : Int) % 7 + 1) + j) % 4).toNat
def sgnB (prev c : Nat) (r : List Nat) : List Nat := if c ≠ 32 then [c] else if prev ∈ SG ∨ r.headD 32 ∈ SG then [] else [32]
def padB (cell : Int) (j c : Nat) : List Nat := if c = 32 ∨ c ∈ SG then List.replicate (cntB cell j) 32 else []
def blF (cell : Int) : Nat → Nat → List Nat → List Nat
  | _, _, [] => []
  | j, prev, c :: r => sgnB prev c r ++ padB cell j c ++ blF cell (j + 1) c r
def IntB (l : List Nat) : Prop := ∀ j, l[j]? = some 32 → 1 ≤ j ∧ j + 1 < l.length
def prevB (l : List Nat) (j : Nat) : Nat := if j = 0 then 32 else l.getD (j - 1) 32
def sp_sign_at : Sp := fun vs H Q _ => ∃ (z : Str) (j c : Nat), vs = [.str z, .int (j : Int)] ∧ z.length ≤ 1000 ∧ IntB z.cps.toList ∧ z.cps.toList[j]? = some c ∧ Q (.str ⟨(sgnB (prevB z.cps.toList j) c (z.cps.toList.drop (j + 1))).toArray⟩) H
theorem ln__law_sign_at {vs : List V} {H : Hp} {Q : VK} {E : XK} (h : sp_sign_at vs H Q E) : vs.length = 2 := by
  obtain ⟨_, _, _, rfl, _⟩ := h
  rfl
abbrev n__law_sign_at : List Str := ["_law_text", "_law_k"]
def t__law_sign_at (K : PySem.W.Frag) (W : WX) : TS :=
  tSeq (tIfS (tTest (tOp rNe (tOp rIxS (tVar 0) (tVar 1)) (tC (.str " ")))) (tRet (tOp rIxS (tVar 0) (tVar 1))) tNext)
  (tSeq (tIfS (tOr (tTest (tOp rInS (tOp rIxS (tVar 0) (tOp rSubI (tVar 1) (tC (.int 1)))) (tC (.str "+&|()[]")))) (tTest (tOp rInS (tOp rIxS (tVar 0) (tOp rAddI (tVar 1) (tC (.int 1)))) (tC (.str "+&|()[]"))))) (tRet (tC (.str ""))) tNext)
  (tRet (tC (.str " "))))
theorem chr_ne {c d : Nat} (h : c ≠ d) : (⟨#[c]⟩ : Str) ≠ ⟨#[d]⟩ := fun e => h (by have := congrArg (fun s : Str => s.cps.toList) e; simpa using this)
theorem mk_len (l : List Nat) : (⟨l.toArray⟩ : Str).length = l.length := by
  show l.toArray.size = _
  simp
theorem small24 {n : Nat} (h : n ≤ 1000) : n ≤ sizeLine := Nat.le_trans h (by decide +kernel)
theorem pure__law_sign_at {K : PySem.W.Frag} {vs : List V} {H : Hp} {Q : VK} {E : XK} {W : WX} (h : sp_sign_at vs H Q E) : t__law_sign_at K W { nx := fun _ H' => Q .non H', rt := Q } (start n__law_sign_at vs) H := by
  obtain ⟨z, j, c, rfl, hz, hI, hc, kk⟩ := h
  show t__law_sign_at K W _ [some (.str z), some (.int (j : Int))] H
  unfold t__law_sign_at
  have hz2 := small24 hz
  generalize hl : z.cps.toList = l at hI hc kk
  have ix : ∀ {i : Nat} {d : Nat}, l[i]? = some d → atI z.cps.toList (i : Int) = some d := fun e => by rw [hl]; exact atI_nat e
  walk_at "go"
  refine e_ixS hz2 (ix hc) ?_
  walk_at "go"
  by_cases h32 : c = 32
  · subst h32
    obtain ⟨j1, jl⟩ := hI j hc
    obtain ⟨p, hp⟩ : ∃ p, l[j - 1]? = some p := ⟨_, List.getElem?_eq_getElem (by omega)⟩
    obtain ⟨n, hn⟩ : ∃ n, l[j + 1]? = some n := ⟨_, List.getElem?_eq_getElem (by omega)⟩
    have ep : prevB l j = p := by
      unfold prevB
      rw [if_neg (by omega), List.getD_eq_getElem?_getD, hp]
      rfl
    have en : (l.drop (j + 1)).headD 32 = n := by
      rw [List.headD_eq_head?_getD, List.head?_drop, hn]
      rfl
    have e : sgnB (prevB l j) 32 (l.drop (j + 1)) = if p ∈ SG ∨ n ∈ SG then [] else [32] := by
      unfold sgnB
      rw [if_neg (by simp), ep, en]
    rw [e] at kk
    refine ifn (fun h => absurd rfl h) (fun _ => ?_)
    walk_at "go"
    have e1 : ((j : Int) - 1) = ((j - 1 : Nat) : Int) := by omega
    rw [e1]
    refine e_ixS hz2 (ix hp) ?_
    walk_at "go"
    refine ifd (fun h => ?_) (fun h => ?_)
    · walk_at "go"
      refine iteT ?_
      walk_at "go"
      rw [if_pos (.inl h)] at kk
      exact kk
    · walk_at "go"
      have e2 : ((j : Int) + 1) = ((j + 1 : Nat) : Int) := by omega
      rw [e2]
      refine e_ixS hz2 (ix hn) ?_
      walk_at "go"
      refine ifd (fun h2 => ?_) (fun h2 => ?_)
      · walk_at "go"
        rw [if_pos (.inr h2)] at kk
        exact kk
      · walk_at "go"
        rw [if_neg (fun z => z.elim h h2)] at kk
        exact kk
  · have e : sgnB (prevB l j) c (l.drop (j + 1)) = [c] := by
      unfold sgnB
      rw [if_pos h32]
    rw [e] at kk
    refine ifn (fun _ => ?_) (fun h => absurd h (chr_ne h32))
    walk_at "go"
    exact e_ixS hz2 (ix hc) kk
def sp_blanks : Sp := fun vs H Q _ => ∃ (z : Str) (cell : Int), vs = [.str z, .int cell] ∧ z.length ≤ 1000 ∧ IntB z.cps.toList ∧ 0 ≤ cell ∧ cell < 100 ∧ Q (.str ⟨(blF cell 0 32 z.cps.toList).toArray⟩) H
theorem ln__law_blanks {vs : List V} {H : Hp} {Q : VK} {E : XK} (h : sp_blanks vs H Q E) : vs.length = 2 := by
  obtain ⟨_, _, rfl, _⟩ := h
  rfl
abbrev n__law_blanks : List Str := ["_law_text", "_law_cell", "_law_out", "_law_k"]
def t__law_blanks (K : PySem.W.Frag) (W : WX) : TS :=
  tSeq (tAsg (tC (.str "")) (gName 2))
  (tSeq (tFor (iRng1 (tCons (tCB rLenT (tCons (tVar 0) tNil)) tNil)) (gName 3) (tSeq (tAsg (tOp rAddS (tVar 2) (tCW sp_sign_at W (tCons (tVar 0) (tCons (tVar 3) tNil)))) (gName 2))
  (tIfS (tOr (tTest (tOp rEq (tOp rIxS (tVar 0) (tVar 3)) (tC (.str " ")))) (tTest (tOp rInS (tOp rIxS (tVar 0) (tVar 3)) (tC (.str "+&|()[]"))))) (tAsg (tOp rAddS (tVar 2) (tOp rMulS (tC (.str " ")) (tOp rModI (tOp rAddI (tOp rDivI (tVar 1) (tOp rAddI (tOp rModI (tVar 3) (tC (.int 7))) (tC (.int 1)))) (tVar 3)) (tC (.int 4))))) (gName 2)) tNext)))
  (tRet (tVar 2)))
theorem cnt_lt (cell : Int) (j : Nat) : cntB cell j < 4 := by
  unfold cntB
  have := Int.emod_lt_of_pos (cell / ((j : Int) % 7 + 1) + j) (by decide : (0 : Int) < 4)
  have := Int.emod_nonneg (cell / ((j : Int) % 7 + 1) + j) (by decide : (4 : Int) ≠ 0)
  omega
theorem bl_len (cell : Int) : ∀ (l : List Nat) (j prev : Nat), (blF cell j prev l).length ≤ 4 * l.length
  | [], _, _ => by simp [blF]
  | c :: r, j, prev => by
    have h := bl_len cell r (j + 1) c
    have h1 : (sgnB prev c r).length ≤ 1 := by unfold sgnB; split <;> (try split) <;> simp
    have h2 : (padB cell j c).length ≤ 3 := by
      have := cnt_lt cell j
      unfold padB
      split
      · rw [List.length_replicate]; omega
      · simp
    show (sgnB prev c r ++ padB cell j c ++ blF cell (j + 1) c r).length ≤ _
    rw [List.length_append, List.length_append, List.length_cons]
    omega
theorem str_toList (a : Str) : a.length = a.cps.toList.length := by
  show a.cps.size = _
  rw [Array.length_toList]
theorem bl_step (cell : Int) {l : List Nat} {j c : Nat} (h : l[j]? = some c) : blF cell j (prevB l j) (l.drop j) = sgnB (prevB l j) c (l.drop (j + 1)) ++ padB cell j c ++ blF cell (j + 1) (prevB l (j + 1)) (l.drop (j + 1)) := by
  have hil := List.getElem?_eq_some_iff.mp h
  have e : prevB l (j + 1) = c := by
    unfold prevB
    rw [if_neg (by omega), List.getD_eq_getElem?_getD]
    simp only [Nat.add_sub_cancel, h]
    rfl
  rw [List.drop_eq_getElem_cons hil.1, hil.2, e]
  rfl
theorem pure__law_blanks {K : PySem.W.Frag} {vs : List V} {H : Hp} {Q : VK} {E : XK} {W : WX} (h : sp_blanks vs H Q E) : t__law_blanks K W { nx := fun _ H' => Q .non H', rt := Q } (start n__law_blanks vs) H := by
  obtain ⟨z, cell, rfl, hz, hI, c0, c1, kk⟩ := h
  show t__law_blanks K W _ [some (.str z), some (.int cell), none, none] H
  unfold t__law_blanks
  have hz2 := small24 hz
  have lz := str_toList z
  have big : (4 * 1000 : Nat) ≤ sizeLine := by decide +kernel
  have tot := bl_len cell z.cps.toList 0 32
  walk_at "go"
  refine e_lenT hz2 ?_
  walk_at "go"
  refine k_forR (n := (z.length : Int)) (fun j σ H' => H' = H ∧ ∃ (o : Str) (o3 : Option V), σ = [some (.str z), some (.int cell), some (.str o), o3] ∧ o.cps.toList ++ blF cell j (prevB z.cps.toList j) (z.cps.toList.drop j) = blF cell 0 32 z.cps.toList) (by omega) (by omega) ⟨rfl, "", none, rfl, rfl⟩ ?_ ?_
  · rintro j σ H' hj ⟨rfl, o, o3, rfl, ho⟩
    have hj : j < z.cps.toList.length := by omega
    obtain ⟨c, hc⟩ : ∃ c, z.cps.toList[j]? = some c := ⟨_, List.getElem?_eq_getElem hj⟩
    rw [bl_step cell hc] at ho
    have lo := congrArg List.length ho
    rw [List.length_append, List.length_append, List.length_append] at lo
    have l0 := str_toList o
    walk_at "go"
    refine ⟨z, j, c, rfl, hz, hI, hc, ?_⟩
    refine e_addS (by rw [mk_len (sgnB (prevB z.cps.toList j) c (z.cps.toList.drop (j + 1)))]; omega) ?_
    walk_at "go"
    refine e_ixS hz2 (atI_nat hc) ?_
    walk_at "go"
    have key : ∀ (pad : List Nat), pad = padB cell j c → ((⟨(o ++ ⟨(sgnB (prevB z.cps.toList j) c (z.cps.toList.drop (j + 1))).toArray⟩ : Str).cps ++ pad.toArray⟩ : Str)).cps.toList ++ blF cell (j + 1) (prevB z.cps.toList (j + 1)) (z.cps.toList.drop (j + 1)) = blF cell 0 32 z.cps.toList := fun pad hp => by
      subst hp
      rw [← ho, Array.toList_append, cps_app]
      simp
    have lsg : ∀ (a : List Nat), (o ++ (⟨a.toArray⟩ : Str)).length = o.length + a.length := fun a => by rw [len_app]; show _ + a.toArray.size = _; simp
    have pads : c = 32 ∨ c ∈ SG → ∀ (n : Int), n = (cell / ((j : Int) % 7 + 1) + j) % 4 → PySem.Txt.mul " " n = ⟨(padB cell j c).toArray⟩ := fun hp n hn => by
      have h4 := cnt_lt cell j
      have : n = (cntB cell j : Int) := by
        unfold cntB
        have := Int.emod_nonneg (cell / ((j : Int) % 7 + 1) + j) (by decide : (4 : Int) ≠ 0)
        omega
      rw [this, mul_1 _ h4]
      unfold padB
      rw [if_pos hp]
    have done : ∀ hp : c = 32 ∨ c ∈ SG, tAsg (tOp rAddS (tVar 2) (tOp rMulS (tC (.str " ")) (tOp rModI (tOp rAddI (tOp rDivI (tVar 1) (tOp rAddI (tOp rModI (tVar 3) (tC (.int 7))) (tC (.int 1)))) (tVar 3)) (tC (.int 4))))) (gName 2)
        ⟨fun σ H'_1 => H'_1 = H' ∧ ∃ (o : Str) (o3 : Option V), σ = [some (.str z), some (.int cell), some (.str o), o3] ∧ o.cps.toList ++ blF cell (j + 1) (prevB z.cps.toList (j + 1)) (z.cps.toList.drop (j + 1)) = blF cell 0 32 z.cps.toList, Q, fun _ H'_1 => Q .non H'_1, fun σ H'_1 => H'_1 = H' ∧ ∃ (o : Str) (o3 : Option V), σ = [some (.str z), some (.int cell), some (.str o), o3] ∧ o.cps.toList ++ blF cell (j + 1) (prevB z.cps.toList (j + 1)) (z.cps.toList.drop (j + 1)) = blF cell 0 32 z.cps.toList⟩
        [some (.str z), some (.int cell), some (.str (o ++ ⟨(sgnB (prevB z.cps.toList j) c (z.cps.toList.drop (j + 1))).toArray⟩)), some (.int (j : Int))] H' := fun hp => by
      walk_at "go"
      refine e_mod (by decide) ?_
      walk_at "go"
      refine e_div ?_ ?_
      · have hp : 0 < (j : Int) % 7 + 1 := by omega
        refine ⟨hp, ?_⟩
        have : ((j : Int) % 7 + 1).natAbs < 2 ^ 10 := by omega
        have := (Nat.log2_lt (by omega : ((j : Int) % 7 + 1).natAbs ≠ 0)).mpr this
        omega
      walk_at "go"
      refine e_mod (by decide) ?_
      walk_at "go"
      refine e_mulS (Int.emod_nonneg _ (by decide)) (by have := Int.emod_lt_of_pos (cell / ((j : Int) % 7 + 1) + j) (by decide : (0 : Int) < 4); omega) (by decide) ?_
      rw [pads hp _ rfl]
      refine e_addS (by rw [lsg, mk_len (padB cell j c)]; omega) ?_
      walk_at "go"
      exact ⟨rfl, _, _, rfl, key _ rfl⟩
    by_cases h32 : c = 32
    · refine ifd (fun _ => ?_) (fun h => absurd (by rw [h32]; rfl) h)
      walk_at "go"
      refine iteT ?_
      exact done (.inl h32)
    · refine ifd (fun h => absurd h (chr_ne h32)) (fun _ => ?_)
      walk_at "go"
      refine e_ixS hz2 (atI_nat hc) ?_
      walk_at "go"
      refine ifd (fun h => ?_) (fun h => ?_)
      · exact done (.inr h)
      · walk_at "go"
        refine ⟨rfl, _, _, rfl, ?_⟩
        have := key [] (by unfold padB; rw [if_neg (fun z => z.elim h32 h)])
        simpa using this
  · rintro σ H' ⟨rfl, o, o3, rfl, ho⟩
    walk_at "go"
    have e : z.cps.toList.drop (z.length : Int).toNat = [] := List.drop_of_length_le (by omega)
    rw [e] at ho
    have ho : o.cps.toList ++ [] = blF cell 0 32 z.cps.toList := ho
    rw [List.append_nil] at ho
    have : o = ⟨(blF cell 0 32 z.cps.toList).toArray⟩ := by
      rw [← ho]
    rw [this]
    exact kk
/-! ### k03: blanks change no words -/
theorem pad_toks {r : List Nat} {ws : List Str} (h : Toks r ws) : ∀ n, Toks (List.replicate n 32 ++ r) ws
  | 0 => h
  | n + 1 => .sp (pad_toks h n)
theorem fg_not32 : ∀ c ∈ FG, c ≠ 32 := by decide +kernel
theorem fg_sg : ∀ c ∈ FG, ¬ c ∈ SG := by decide +kernel
theorem lt_sg : ∀ c ∈ LT, ¬ c ∈ SG := by decide +kernel
theorem bl_word (cell : Int) : ∀ (x r : List Nat) (j prev : Nat), (∀ c ∈ x, c ≠ 32 ∧ ¬ c ∈ SG) → x ≠ [] → ∃ j' p', (p' ∈ x) ∧ blF cell j prev (x ++ r) = x ++ blF cell j' p' r
  | [c], r, j, prev, h, _ => by
    obtain ⟨h1, h2⟩ := h c (by simp)
    refine ⟨j + 1, c, by simp, ?_⟩
    show sgnB prev c r ++ padB cell j c ++ blF cell (j + 1) c r = _
    unfold sgnB padB
    rw [if_pos h1, if_neg (fun z => z.elim h1 h2), List.append_nil]
  | c :: d :: x, r, j, prev, h, _ => by
    obtain ⟨h1, h2⟩ := h c (by simp)
    obtain ⟨j', p', hp, e⟩ := bl_word cell (d :: x) r (j + 1) c (fun a ha => h a (List.mem_cons_of_mem _ ha)) (by simp)
    refine ⟨j', p', List.mem_cons_of_mem _ hp, ?_⟩
    show sgnB prev c (d :: x ++ r) ++ padB cell j c ++ blF cell (j + 1) c (d :: x ++ r) = _
    rw [e]
    unfold sgnB padB
    rw [if_pos h1, if_neg (fun z => z.elim h1 h2), List.append_nil]
    rfl
/-- behind a word: what is put begins no word of the same kind -/
theorem bl_head (cell : Int) {D : List Nat} (hD : ∀ c ∈ D, c ≠ 32 ∧ ¬ c ∈ SG) {r : List Nat} {j prev : Nat} (hp : ¬ prev ∈ SG) (hr : ∀ c, r.head? = some c → ¬ c ∈ D) : ∀ c, (blF cell j prev r).head? = some c → ¬ c ∈ D := by
  intro c hc hm
  cases r with
  | nil => cases hc
  | cons d r =>
    by_cases h32 : d = 32
    · subst h32
      have hc : (sgnB prev 32 r ++ padB cell j 32 ++ blF cell (j + 1) 32 r).head? = some c := hc
      have ep : padB cell j 32 = List.replicate (cntB cell j) 32 := if_pos (.inl rfl)
      by_cases hs : prev ∈ SG ∨ r.headD 32 ∈ SG
      · have es : sgnB prev 32 r = [] := by unfold sgnB; rw [if_neg (by simp), if_pos hs]
        rw [es, ep, List.nil_append] at hc
        cases hn : cntB cell j with
        | succ n =>
          rw [hn] at hc
          cases hc
          exact (hD _ hm).1 rfl
        | zero =>
          rw [hn] at hc
          rcases hs with z | z
          · exact hp z
          · cases r with
            | nil => exact absurd z (by decide +kernel)
            | cons e r =>
              have z : e ∈ SG := z
              have he : e ≠ 32 := (sg_not e z).2.2
              have e1 : sgnB 32 e r = [e] := if_pos he
              have hc : (sgnB 32 e r ++ padB cell (j + 1) e ++ blF cell (j + 1 + 1) e r).head? = some c := hc
              rw [e1] at hc
              cases hc
              exact (hD _ hm).2 z
      · have es : sgnB prev 32 r = [32] := by unfold sgnB; rw [if_neg (by simp), if_neg hs]
        rw [es] at hc
        cases hc
        exact (hD _ hm).1 rfl
    · have hc : (sgnB prev d r ++ padB cell j d ++ blF cell (j + 1) d r).head? = some c := hc
      have es : sgnB prev d r = [d] := if_pos h32
      rw [es] at hc
      cases hc
      exact hr _ rfl hm
theorem bl_toks (cell : Int) {l : List Nat} {ws : List Str} (h : Toks l ws) : ∀ j prev, Toks (blF cell j prev l) ws := by
  induction h with
  | nil => exact fun _ _ => .nil
  | @sp r ws _ ih =>
    intro j prev
    show Toks (sgnB prev 32 r ++ padB cell j 32 ++ blF cell (j + 1) 32 r) ws
    have ep : padB cell j 32 = List.replicate (cntB cell j) 32 := if_pos (.inl rfl)
    rw [ep, List.append_assoc]
    have h1 := pad_toks (ih (j + 1) 32) (cntB cell j)
    unfold sgnB
    rw [if_neg (by simp)]
    split
    · exact h1
    · exact .sp h1
  | @sg c r ws hc _ ih =>
    intro j prev
    show Toks (sgnB prev c r ++ padB cell j c ++ blF cell (j + 1) c r) _
    have ep : padB cell j c = List.replicate (cntB cell j) 32 := if_pos (.inr hc)
    have es : sgnB prev c r = [c] := if_pos (sg_not c hc).2.2
    rw [ep, es, List.append_assoc]
    exact .sg hc (pad_toks (ih (j + 1) c) (cntB cell j))
  | @lt x r ws hx hxs hr _ ih =>
    intro j prev
    obtain ⟨j', p', hp, e⟩ := bl_word cell x r j prev (fun c hc => ⟨lt_not c (hxs c hc), lt_sg c (hxs c hc)⟩) hx
    rw [e]
    exact .lt hx hxs (bl_head cell (fun c hc => ⟨lt_not c hc, lt_sg c hc⟩) (lt_sg _ (hxs _ hp)) hr) (ih j' p')
  | @fg x r ws hx hxs hr _ ih =>
    intro j prev
    obtain ⟨j', p', hp, e⟩ := bl_word cell x r j prev (fun c hc => ⟨fg_not32 c (hxs c hc), fg_sg c (hxs c hc)⟩) hx
    rw [e]
    exact .fg hx hxs (bl_head cell (fun c hc => ⟨fg_not32 c hc, fg_sg c hc⟩) (fg_sg _ (hxs _ hp)) hr) (ih j' p')
/-! lengths -/
def wtc (c : Nat) : Nat := if c = 32 ∨ c ∈ SG then 4 else 1
def wtl (l : List Nat) : Nat := (l.map wtc).sum
theorem bl_wt (cell : Int) : ∀ (l : List Nat) (j prev : Nat), (blF cell j prev l).length ≤ wtl l
  | [], _, _ => by simp [blF]
  | c :: r, j, prev => by
    have h := bl_wt cell r (j + 1) c
    have h1 : (sgnB prev c r).length ≤ 1 := by unfold sgnB; split <;> (try split) <;> simp
    show (sgnB prev c r ++ padB cell j c ++ blF cell (j + 1) c r).length ≤ wtc c + wtl r
    rw [List.length_append, List.length_append]
    have h2 : (padB cell j c).length + 1 ≤ wtc c := by
      have := cnt_lt cell j
      unfold padB wtc
      split
      · rw [List.length_replicate]; omega
      · simp
    omega
abbrev wtS (s : Str) : Nat := wtl s.cps.toList
theorem wtS_app (a b : Str) : wtS (a ++ b) = wtS a + wtS b := by
  unfold wtS wtl
  rw [cps_app, List.map_append, List.sum_append]
theorem wt_plain : ∀ {l : List Nat}, (∀ c ∈ l, c ≠ 32 ∧ ¬ c ∈ SG) → wtl l = l.length
  | [], _ => rfl
  | c :: l, h => by
    have := wt_plain fun d hd => h d (List.mem_cons_of_mem _ hd)
    obtain ⟨h1, h2⟩ := h c List.mem_cons_self
    show wtc c + wtl l = _
    unfold wtc
    rw [if_neg (fun z => z.elim h1 h2), List.length_cons]
    omega
theorem name_codes {x : Str} (h : nameB x = true) : x.cps.toList ≠ [] ∧ ∀ c ∈ x.cps.toList, c ∈ LT := by
  unfold nameB at h
  rw [Bool.and_eq_true, Bool.and_eq_true] at h
  obtain ⟨h1, _, h3⟩ := h
  have e : x = ⟨x.cps.toList.toArray⟩ := by cases x; simp
  exact ⟨fun q => of_decide_eq_true h1 (by rw [e, q]; rfl), fun c hc => of_decide_eq_true (List.all_eq_true.mp h3 c hc)⟩
theorem wt_name {x : Str} (h : nameB x = true) : wtS x ≤ 6 := by
  have := name_len h
  have e := wt_plain (fun c hc => ⟨lt_not c ((name_codes h).2 c hc), lt_sg c ((name_codes h).2 c hc)⟩)
  show wtl x.cps.toList ≤ 6
  rw [e, ← str_toList]
  exact this
theorem num_codes : ∀ m : Nat, m < 31 → (numS (m : Int)).cps.toList ≠ [] ∧ (∀ c ∈ (numS (m : Int)).cps.toList, c ∈ FG) ∧ wtS (numS (m : Int)) ≤ 2 := by decide +kernel
theorem num_codesI {n : Int} (h0 : 0 ≤ n) (h1 : n ≤ 30) : (numS n).cps.toList ≠ [] ∧ (∀ c ∈ (numS n).cps.toList, c ∈ FG) ∧ wtS (numS n) ≤ 2 := by
  obtain ⟨m, rfl⟩ : ∃ m : Nat, n = m := ⟨n.toNat, by omega⟩
  exact num_codes m (by omega)
theorem wt_sign (k : Kd) : wtS k.sign = 12 := by cases k <;> decide +kernel
theorem wt_out {α : Type} {w : α → Int → Str} (k : Kd) (M : Nat) : ∀ (ts : List α) (o : Str), (∀ t ∈ ts, wtS (w t (k.rank + 1)) ≤ M) → wtS (ts.foldl (fun o u => o ++ k.sign ++ w u (k.rank + 1)) o) ≤ wtS o + ts.length * (12 + M)
  | [], o, _ => by simp
  | t :: ts, o, h => by
    rw [List.foldl_cons]
    have := wt_out k M ts (o ++ k.sign ++ w t (k.rank + 1)) fun u hu => h u (List.mem_cons_of_mem _ hu)
    have h1 := h t List.mem_cons_self
    rw [wtS_app, wtS_app, wt_sign] at this
    rw [List.length_cons, Nat.succ_mul]
    omega
theorem wt_nd {α : Type} {C : List Str → α → Prop} {ys : List Str} {w : α → Int → Str} {M : Nat} (hy : ∀ x ∈ ys, nameB x = true) (h : ∀ t f, C ys t → wtS (w t f) ≤ M) : ∀ (t : Nd α) (f : Int), NdOk C ys t → wtS (wrNd w t f) ≤ 3 * M + 32
  | .num n, f, ⟨h0, h1⟩ => by
    have := (num_codesI h0 h1).2.2
    show wtS (numS n) ≤ _
    omega
  | .nm x, f, hx => by
    have := wt_name (hy x hx)
    show wtS x ≤ _
    omega
  | .gate x b t, f, ⟨hx, b0, b1, ct⟩ => by
    have := wt_name (hy x hx)
    have := (num_codesI (by omega : 0 ≤ b) b1).2.2
    have := h t 4 ct
    have l1 : wtS ("[" : Str) = 4 := by decide +kernel
    have l2 : wtS (" " : Str) = 4 := by decide +kernel
    have l3 : wtS ("] " : Str) = 8 := by decide +kernel
    show wtS ("[" ++ x ++ " " ++ numS b ++ "] " ++ w t 4 : Str) ≤ _
    rw [wtS_app, wtS_app, wtS_app, wtS_app, wtS_app, l1, l2, l3]
    omega
  | .ch k [], f, ⟨h2, _, _⟩ => by simp at h2
  | .ch k (t :: ts), f, ⟨_, h3, ct⟩ => by
    have h1 := wt_out k M ts (w t (k.rank + 1)) fun u hu => h u _ (ct u (List.mem_cons_of_mem _ hu))
    have h0 := h t (k.rank + 1) (ct t List.mem_cons_self)
    rw [List.length_cons] at h3
    have h4 : ts.length * (12 + M) ≤ 2 * (12 + M) := Nat.mul_le_mul_right _ (by omega)
    have l1 : wtS ("(" : Str) = 4 := by decide +kernel
    have l2 : wtS (")" : Str) = 4 := by decide +kernel
    have e : wtS (wrOut w k (t :: ts)) ≤ wtS (w t (k.rank + 1)) + ts.length * (12 + M) := h1
    by_cases hk : k.rank < f
    · rw [show wrNd w (.ch k (t :: ts)) f = "(" ++ wrOut w k (t :: ts) ++ ")" from if_pos hk, wtS_app, wtS_app, l1, l2]
      omega
    · rw [show wrNd w (.ch k (t :: ts)) f = wrOut w k (t :: ts) from if_neg hk]
      omega
theorem wt_0 {ys : List Str} (hy : ∀ x ∈ ys, nameB x = true) {t : TrD 0} (h : TreeOk 0 ys t) (f : Int) : wtS (wr 0 t f) ≤ 6 := by
  cases t with
  | num n => exact Nat.le_trans (num_codesI h.1 h.2).2.2 (by decide)
  | nm x => exact wt_name (hy x h)
  | gate x b t => exact t.elim
  | ch k ts =>
    have : 2 ≤ ts.length := h.1
    cases ts with
    | nil => simp at this
    | cons e _ => exact e.elim
theorem wt_1 {ys : List Str} (hy : ∀ x ∈ ys, nameB x = true) {t : TrD 1} (h : TreeOk 1 ys t) (f : Int) : wtS (wr 1 t f) ≤ 50 := wt_nd (M := 6) hy (fun t f h => wt_0 hy h f) t f h
theorem wt_2 {ys : List Str} (hy : ∀ x ∈ ys, nameB x = true) {t : TrD 2} (h : TreeOk 2 ys t) (f : Int) : wtS (wr 2 t f) ≤ 182 := wt_nd (M := 50) hy (fun t f h => wt_1 hy h f) t f h
/-! no blank at the ends -/
def EndsB (l : List Nat) : Prop := l ≠ [] ∧ l.head? ≠ some 32 ∧ l.getLast? ≠ some 32
theorem EndsB.int {l : List Nat} (h : EndsB l) : IntB l := by
  intro j hj
  obtain ⟨_, h2, h3⟩ := h
  have hil := (List.getElem?_eq_some_iff.mp hj).1
  refine ⟨?_, ?_⟩
  · cases j with
    | zero => exact absurd (by rw [List.head?_eq_getElem?]; exact hj) h2
    | succ j => omega
  · by_cases e : j + 1 = l.length
    · exact absurd (by rw [List.getLast?_eq_getElem?]; rw [show l.length - 1 = j by omega]; exact hj) h3
    · omega
theorem EndsB.app {a m b : List Nat} (ha : EndsB a) (hb : EndsB b) : EndsB (a ++ m ++ b) := by
  refine ⟨by simp [ha.1], ?_, ?_⟩
  · obtain ⟨a0, a1, _⟩ := ha
    cases a with
    | nil => exact absurd rfl a0
    | cons c a => simpa using a1
  · obtain ⟨b0, _, b2⟩ := hb
    rw [List.getLast?_append]
    cases e : b.getLast? with
    | none => exact absurd (List.getLast?_eq_none_iff.mp e) b0
    | some c =>
      rw [e] at b2
      simpa using b2
theorem ends_plain {l : List Nat} (h0 : l ≠ []) (h : ∀ c ∈ l, c ≠ 32) : EndsB l := ⟨h0, fun e => h 32 (List.mem_of_mem_head? e) rfl, fun e => h 32 (List.mem_of_mem_getLast? e) rfl⟩
theorem ends_out {α : Type} {w : α → Int → Str} (k : Kd) : ∀ (ts : List α) (o : Str), EndsB o.cps.toList → (∀ t ∈ ts, EndsB (w t (k.rank + 1)).cps.toList) → EndsB (ts.foldl (fun o u => o ++ k.sign ++ w u (k.rank + 1)) o).cps.toList
  | [], _, ho, _ => ho
  | t :: ts, o, ho, h => by
    rw [List.foldl_cons]
    refine ends_out k ts _ ?_ fun u hu => h u (List.mem_cons_of_mem _ hu)
    rw [cps_app, cps_app]
    exact EndsB.app ho (h t List.mem_cons_self)
theorem ends_nd {α : Type} {C : List Str → α → Prop} {ys : List Str} {w : α → Int → Str} (hy : ∀ x ∈ ys, nameB x = true) (h : ∀ t f, C ys t → EndsB (w t f).cps.toList) : ∀ (t : Nd α) (f : Int), NdOk C ys t → EndsB (wrNd w t f).cps.toList
  | .num n, f, ⟨h0, h1⟩ => ends_plain (num_codesI h0 h1).1 fun c hc => fg_not32 c ((num_codesI h0 h1).2.1 c hc)
  | .nm x, f, hx => ends_plain (name_codes (hy x hx)).1 fun c hc => lt_not c ((name_codes (hy x hx)).2 c hc)
  | .gate x b t, f, ⟨hx, b0, b1, ct⟩ => by
    show EndsB ("[" ++ x ++ " " ++ numS b ++ "] " ++ w t 4 : Str).cps.toList
    have e : ("[" ++ x ++ " " ++ numS b ++ "] " ++ w t 4 : Str).cps.toList = ("[" : Str).cps.toList ++ (x ++ " " ++ numS b ++ "] " : Str).cps.toList ++ (w t 4).cps.toList := by simp only [cps_app, List.append_assoc]
    rw [e]
    exact EndsB.app (show EndsB [91] from ⟨by simp, by simp, by simp⟩) (h t 4 ct)
  | .ch k [], f, ⟨h2, _, _⟩ => by simp at h2
  | .ch k (t :: ts), f, ⟨_, h3, ct⟩ => by
    have e : EndsB (wrOut w k (t :: ts)).cps.toList := ends_out k ts _ (h t _ (ct t List.mem_cons_self)) fun u hu => h u _ (ct u (List.mem_cons_of_mem _ hu))
    by_cases hk : k.rank < f
    · rw [show wrNd w (.ch k (t :: ts)) f = "(" ++ wrOut w k (t :: ts) ++ ")" from if_pos hk, cps_app, cps_app]
      exact EndsB.app (show EndsB [40] from ⟨by simp, by simp, by simp⟩) (show EndsB [41] from ⟨by simp, by simp, by simp⟩)
    · rw [show wrNd w (.ch k (t :: ts)) f = wrOut w k (t :: ts) from if_neg hk]
      exact e
theorem ends_wr {ys : List Str} (hy : ∀ x ∈ ys, nameB x = true) : ∀ (n : Nat) (t : TrD n) (f : Int), TreeOk n ys t → EndsB (wr n t f).cps.toList
  | 0, t, f, h => ends_nd (C := fun _ (_ : Empty) => False) hy (fun e => e.elim) t f h
  | n + 1, t, f, h => ends_nd (C := TreeOk n) hy (ends_wr hy n) t f h
/-! the tree's text, told again -/
theorem out_map {α β : Type} {w : α → Int → Str} {w' : β → Int → Str} {g : α → β} (h : ∀ t f, w' (g t) f = w t f) (k : Kd) (ts : List α) : wrOut w' k (ts.map g) = wrOut w k ts := by
  cases ts with
  | nil => rfl
  | cons t ts =>
    show (ts.map g).foldl _ (w' (g t) (k.rank + 1)) = ts.foldl _ (w t (k.rank + 1))
    rw [List.foldl_map, h]
    simp only [h]
theorem wrX_emb : ∀ (n m : Nat) (t : TrD n) (f : Int), n < m → wrX m (emb n t) f = wr n t f
  | 0, m + 1, t, f, _ => by
    cases t with
    | num n => rfl
    | nm x => rfl
    | gate x b t => exact t.elim
    | ch k ts =>
      have e : wrOut (wrX m) k (ts.map fun (e : Empty) => (e.elim : Pt)) = wrOut (fun (e : Empty) (_ : Int) => (e.elim : Str)) k ts := out_map (fun e => e.elim) k ts
      show (if k.rank < f then "(" ++ wrOut (wrX m) k (ts.map fun (e : Empty) => (e.elim : Pt)) ++ ")" else wrOut (wrX m) k (ts.map fun (e : Empty) => (e.elim : Pt))) = _
      rw [e]
      rfl
  | n + 1, m + 1, t, f, h => by
    cases t with
    | num n => rfl
    | nm x => rfl
    | gate x b t =>
      show "[" ++ x ++ " " ++ (toString b : String) ++ "] " ++ wrX m (emb n t) 4 = _
      rw [wrX_emb n m t 4 (by omega)]
      rfl
    | ch k ts =>
      have e : wrOut (wrX m) k (ts.map (emb n)) = wrOut (wr n) k ts := out_map (fun t f => wrX_emb n m t f (by omega)) k ts
      show (if k.rank < f then "(" ++ wrOut (wrX m) k (ts.map (emb n)) ++ ")" else wrOut (wrX m) k (ts.map (emb n))) = _
      rw [e]
      rfl
/-- what is read off z is told as text -/
def Tells (z text : Str) : Prop := z.length ≤ 400 ∧ ∃ ws T, TokE z.cps.toList ws true ∧ ws.length ≤ 40 ∧ parseF ws = some T ∧ wrX 12 T 0 = text
theorem tells_of {ys : List Str} (hy : ∀ x ∈ ys, nameB x = true) {n : Nat} (hn : n ≤ 2) {t : TrD n} (h : TreeOk n ys t) (lw : (wd n t 1).length ≤ 40) {z : Str} (lz : z.length ≤ 400) (hT : Toks z.cps.toList (wd n t 1)) : Tells z (wr n t 0) :=
  ⟨lz, wd n t 1, emb n t, hT.toE, lw, parse_run hy (t := ⟨n, t⟩) ⟨h, .inl hn⟩, wrX_emb n 12 t 0 (by omega)⟩
theorem wd_firmT {ys : List Str} : ∀ (n : Nat) (t : TrD n), wd n t 0 = wd n t 1
  | 0, t => wd_firm _ t
  | _ + 1, t => wd_firm _ t
theorem lv_end {k : Kd} {p : PRd} {ws : List Str} {t : Pt} (h : p ws = some (t, [])) : lvF k p ws = some (t, []) := by
  refine lvF_one ?_
  have e : ¬ (([] : List Str).headD "" = k.wd) := by cases k <;> decide
  simp only [chainedF, h, chainF]
  rw [if_neg e]
  rfl
theorem parse_brk {ys : List Str} (hy : ∀ x ∈ ys, nameB x = true) {t : TrD 1} (h : TreeOk 1 ys t) : parseF (("(" : Str) :: (wd 1 t 1 ++ [(")" : Str)])) = some (emb 1 t) := by
  have hw := whole_run (singleN_run hy 1) ⟨1, t⟩ [(")" : Str)] ⟨h, .inl (Nat.le_refl _)⟩ fun w hw => by
    cases hw
    rintro ⟨j, _, e⟩
    cases j <;> exact absurd e (by decide)
  have hs : singleF 2 (("(" : Str) :: (wd 1 t 1 ++ [(")" : Str)])) = some (emb 1 t, []) := by
    rw [singleF_eq, if_pos (show (("(" : Str) :: (wd 1 t 1 ++ [(")" : Str)])).headD "" = "(" from rfl)]
    show bracketF (some (wholeF (singleF 1))) (wd 1 t 1 ++ [(")" : Str)]) = _
    have hw : wholeF (singleF 1) (wd 1 t 1 ++ [(")" : Str)]) = some (emb 1 t, [(")" : Str)]) := hw
    simp only [bracketF, hw]
    rfl
  have hh : wholeF (singleF 2) (("(" : Str) :: (wd 1 t 1 ++ [(")" : Str)])) = some (emb 1 t, []) := lv_end (lv_end (lv_end hs))
  simp only [parseF, hh]
  rfl
def NamesZ : Type := { ys : List Str // ∀ x ∈ ys, nameB x = true }
def isChN {α : Type} : Nd α → Bool
  | .ch _ _ => true
  | _ => false
def isCh1 (t : TrD 1) : Bool := isChN (α := TrD 0) t
def brk1 (t : TrD 1) : Str := if isCh1 t = true then wr 1 t 0 else "(" ++ wr 1 t 0 ++ ")"
def sp_lbr : Sp := fun vs H Q _ => ∃ (ys : NamesZ) (v : V) (t : TrD 1) (A : Addr → Prop), vs = [v] ∧ TreeR 1 H A t v ∧ TreeOk 1 ys.1 t ∧ ∀ H', Same H H' → Q (.str (brk1 t)) H'
theorem ln_lbr (vs : List V) (H : Hp) (Q : VK) (E : XK) (h : sp_lbr vs H Q E) : vs.length = 1 := by
  obtain ⟨_, _, _, _, rfl, _⟩ := h
  rfl
abbrev sp_wrF : Sp := fun vs H Q E => ∃ i : Fin 3 × NamesZ, sp_written (TreeR i.1.1) (TreeOk i.1.1 i.2.1) (wr i.1.1) vs H Q E
abbrev sp_treeF : Sp := fun vs H Q E => ∃ i : Fin 3, sp_treeG (TreeR i.1) (TreeOk i.1) i.1 vs H Q E
abbrev n__law_bracketed : List Str := ["_law_tree_here", "_law_text"]
def t__law_bracketed (K : PySem.W.Frag) (W : WX) (S__law_written : Sp) : TS :=
  tSeq (tAsg (tCW S__law_written W (tCons (tVar 0) (tCons (tC (.int 0)) tNil))) (gName 1))
  (tSeq (tIfS (tOr (tTest (tOp rEq (tOp (rIxT K) (tVar 0) (tC (.int 0))) (tC (.str "number")))) (tOr (tTest (tOp rEq (tOp (rIxT K) (tVar 0) (tC (.int 0))) (tC (.str "name")))) (tTest (tOp rEq (tOp (rIxT K) (tVar 0) (tC (.int 0))) (tC (.str "gate")))))) (tRet (tOp rAddS (tOp rAddS (tC (.str "(")) (tVar 1)) (tC (.str ")")))) tNext)
  (tRet (tVar 1)))
theorem kd_word_ne (k : Kd) : k.word ≠ "number" ∧ k.word ≠ "name" ∧ k.word ≠ "gate" := by cases k <;> decide
theorem pure__law_bracketed {K : PySem.W.Frag} {vs : List V} {H : Hp} {Q : VK} {E : XK} {W : WX} (h : sp_lbr vs H Q E) : t__law_bracketed K W sp_wrF { nx := fun _ H' => Q .non H', rt := Q } (start n__law_bracketed vs) H := by
  obtain ⟨ys, v, t, A, rfl, hR, hC, kk⟩ := h
  show t__law_bracketed K W _ _ [some v, none] H
  unfold t__law_bracketed
  walk_at "go"
  refine ⟨(⟨1, by decide⟩, ys), v, 0, t, A, rfl, hR, hC, fun H1 s1 => ?_⟩
  have hR1 := (TreeR.good 1).same s1 hR
  have lw := wr_1 (fun x hx => name_len (ys.2 x hx)) hC 0
  have big : (1000 : Nat) ≤ sizeLine := by decide +kernel
  have e1 : ("(" ++ wr 1 t 0).length = 1 + (wr 1 t 0).length := len_app _ _
  have fin : isCh1 t = false → Q (.str ("(" ++ wr 1 t 0 ++ ")")) H1 := fun hb => by
    have := kk H1 s1
    unfold brk1 at this
    rw [hb] at this
    exact this
  have fin2 : isCh1 t = true → Q (.str (wr 1 t 0)) H1 := fun hb => by
    have := kk H1 s1
    unfold brk1 at this
    rw [hb] at this
    exact this
  have a1 : (("(" : Str)).length + (wr 1 t 0).length ≤ sizeLine := by show 1 + _ ≤ sizeLine; omega
  have a2 : ("(" ++ wr 1 t 0).length + ((")" : Str)).length ≤ sizeLine := by rw [e1]; show 1 + _ + 1 ≤ sizeLine; omega
  revert lw fin fin2 kk a1 a2 e1
  generalize wr 1 t 0 = z
  intro kk lw e1 fin fin2 a1 a2
  cases t with
  | num n =>
    obtain ⟨a, rfl, ha⟩ := hR1
    walk_at "go"
    refine e_ixT (SqT.of ha) (at_of (j := 0) rfl rfl) ?_
    walk_at "go"
    refine ifd (fun _ => ?_) (fun h => absurd rfl h)
    walk_at "go"
    refine iteT ?_
    walk_at "go"
    refine e_addS a1 ?_
    walk_at "go"
    exact e_addS a2 (fin rfl)
  | nm x =>
    obtain ⟨a, rfl, ha⟩ := hR1
    walk_at "go"
    refine e_ixT (SqT.of ha) (at_of (j := 0) rfl rfl) ?_
    walk_at "go"
    refine ifd (fun h => absurd h (by decide)) (fun _ => ?_)
    walk_at "go"
    refine e_ixT (SqT.of ha) (at_of (j := 0) rfl rfl) ?_
    walk_at "go"
    refine ifd (fun _ => ?_) (fun h => absurd rfl h)
    walk_at "go"
    refine iteT ?_
    walk_at "go"
    refine e_addS a1 ?_
    walk_at "go"
    exact e_addS a2 (fin rfl)
  | gate x b t =>
    obtain ⟨a, u, rfl, ha, _⟩ := hR1
    walk_at "go"
    refine e_ixT (SqT.of ha) (at_of (j := 0) rfl rfl) ?_
    walk_at "go"
    refine ifd (fun h => absurd h (by decide)) (fun _ => ?_)
    walk_at "go"
    refine e_ixT (SqT.of ha) (at_of (j := 0) rfl rfl) ?_
    walk_at "go"
    refine ifd (fun h => absurd h (by decide)) (fun _ => ?_)
    walk_at "go"
    refine e_ixT (SqT.of ha) (at_of (j := 0) rfl rfl) ?_
    walk_at "go"
    refine ifd (fun _ => ?_) (fun h => absurd rfl h)
    walk_at "go"
    refine e_addS a1 ?_
    walk_at "go"
    exact e_addS a2 (fin rfl)
  | ch k ts =>
    obtain ⟨a, l, us, rfl, ha, _⟩ := hR1
    obtain ⟨k1, k2, k3⟩ := kd_word_ne k
    walk_at "go"
    refine e_ixT (SqT.of ha) (at_of (j := 0) rfl rfl) ?_
    walk_at "go"
    refine ifd (fun h => absurd h k1) (fun _ => ?_)
    walk_at "go"
    refine e_ixT (SqT.of ha) (at_of (j := 0) rfl rfl) ?_
    walk_at "go"
    refine ifd (fun h => absurd h k2) (fun _ => ?_)
    walk_at "go"
    refine e_ixT (SqT.of ha) (at_of (j := 0) rfl rfl) ?_
    walk_at "go"
    refine ifd (fun h => absurd h k3) (fun _ => ?_)
    walk_at "go"
    exact fin2 rfl
abbrev sp_shownX (K : PySem.W.Frag) : Sp := sp_shown (PcX K 12) (PtT 12) (wrX 12)
theorem st_ifK {c : TT} {A u : TS} {D : Ends} {σ : St} {H : Hp} (J : St → Hp → Prop) (hJ : ∀ σ' H', J σ' H' → u D σ' H') (h : ∀ N : St → Hp → Prop, (∀ σ' H', J σ' H' → N σ' H') → tIfS c A tNext ⟨N, D.rt, D.bk, D.ct⟩ σ H) : tSeq (tIfS c A tNext) u D σ H := h _ hJ
def sp_law (K : PySem.W.Frag) : Sp := fun vs H Q _ => ∃ (a : Addr) (ns : List Int), vs = [.ref a] ∧ SqL K H a (ns.map V.int) ∧ ns.length ≤ 63 ∧ ∀ H', Q (.bl true) H'
theorem ln_law {K : PySem.W.Frag} (vs : List V) (H : Hp) (Q : VK) (E : XK) (h : sp_law K vs H Q E) : vs.length = 1 := by
  obtain ⟨_, _, rfl, _⟩ := h
  rfl
theorem sp_law_of {K : PySem.W.Frag} {H : Hp} {a : Addr} {ns : List Int} (hS : SqL K H a (ns.map V.int)) (hl : ns.length ≤ 63) : sp_law K [.ref a] H (fun v _ => v = .bl true) fun _ _ _ => False := ⟨a, ns, rfl, hS, hl, fun _ => rfl⟩
theorem cut_pad : ∀ n, Cut (List.replicate n 32)
  | 0 => fun c hc => by cases hc
  | n + 1 => cut_cons (by decide +kernel)
theorem mul_1I {n : Int} (h0 : 0 ≤ n) (h1 : n < 3) : ∃ m : Nat, m < 3 ∧ PySem.Txt.mul " " n = ⟨(List.replicate m 32).toArray⟩ := by
  obtain ⟨m, rfl⟩ : ∃ m : Nat, n = m := ⟨n.toNat, by omega⟩
  exact ⟨m, by omega, mul_1 m (by omega)⟩
theorem mul_2I {n : Int} (h0 : 0 ≤ n) (h1 : n < 3) : ∃ m : Nat, m < 5 ∧ PySem.Txt.mul "  " n = ⟨(List.replicate m 32).toArray⟩ := by
  obtain ⟨m, rfl⟩ : ∃ m : Nat, n = m := ⟨n.toNat, by omega⟩
  exact ⟨2 * m, by omega, mul_2 m (by omega)⟩
/-- blanks around a tree's text, in brackets or not -/
theorem tells_brk {ys : List Str} (hy : ∀ x ∈ ys, nameB x = true) {t : TrD 1} (h : TreeOk 1 ys t) (m n : Nat) (hm : m < 5) (hn : n < 3) : Tells ((⟨(List.replicate m 32).toArray⟩ : Str) ++ brk1 t ++ (⟨(List.replicate n 32).toArray⟩ : Str)) (wr 1 t 0) := by
  have lw := wr_1 (fun x hx => name_len (hy x hx)) h 0
  have ld := wd_1 h 1
  have hT := tok_tree hy 1 t 0 h
  rw [wd_firmT (ys := ys)] at hT
  have p0 : Toks (List.replicate n 32) [] := by simpa using pad_toks .nil n
  have lp : ∀ k, (⟨(List.replicate k 32).toArray⟩ : Str).length = k := fun k => by rw [mk_len (List.replicate k 32), List.length_replicate]
  by_cases hb : isCh1 t = true
  · have eb : brk1 t = wr 1 t 0 := if_pos hb
    rw [eb]
    refine tells_of (n := 1) hy (by decide) h (by omega) ?_ ?_
    · rw [len_app, len_app, lp, lp]
      omega
    · rw [cps_app, cps_app]
      have h1 := hT (List.replicate n 32) [] p0 (cut_pad n)
      rw [List.append_nil] at h1
      rw [List.append_assoc]
      exact pad_toks h1 m
  · have eb : brk1 t = "(" ++ wr 1 t 0 ++ ")" := if_neg hb
    rw [eb]
    have h1 := tok_sg (c := 41) (by decide +kernel) p0
    have h2 := hT _ _ h1.1 h1.2
    have h3 := (tok_sg (c := 40) (by decide +kernel) h2).1
    have hT2 := pad_toks h3 m
    refine ⟨?_, ("(" : Str) :: (wd 1 t 1 ++ [(")" : Str)]), emb 1 t, ?_, ?_, parse_brk hy h, wrX_emb 1 12 t 0 (by omega)⟩
    · rw [len_app, len_app, lp, lp, len_app, len_app]
      show m + (1 + _ + 1) + n ≤ 400
      omega
    · rw [cps_app, cps_app, cps_app, cps_app]
      refine Toks.toE ?_
      rw [List.append_assoc, List.append_assoc, List.append_assoc]
      exact hT2
    · rw [List.length_cons, List.length_append]
      show _ + 1 + 1 ≤ 40
      omega
theorem read_tells {K : PySem.W.Frag} {z text : Str} (h : Tells z text) {H : Hp} {Q : VK} {E : XK} (q : ∀ v H' T, Same H H' → PcX K 12 H' (fun a => H a = none) T v → PtT 12 T → wrX 12 T 0 = text → Q v H') : sp_readX K [.str z] H Q E := by
  obtain ⟨lz, ws, T, hT, lw, hp, hw⟩ := h
  obtain ⟨p1, p2⟩ := parse_ok hp
  refine ⟨z, ws, true, rfl, by omega, hT, fun t _ _ _ ep v H' s hX => ?_, fun hb => ?_⟩
  · rw [hp] at ep
    cases ep
    exact q v H' T s hX ⟨p1, by omega⟩ hw
  · rw [hp] at hb
    simp at hb
    omega
/-! ### methods of texts -/
section
variable {X : Cx} {o e : Expr} {to te : TE} {σ : St} {H : Hp} {Q : VK} {K : PySem.W.Frag}
def rJoinT (K : PySem.W.Frag) : V → List V → Hp → VK → Prop := fun x xs H Q => ∃ a p, ∃ ys : List Str, x = .str a ∧ xs = [.ref p] ∧ (SqL K H p (ys.map V.str) ∨ SqT K H p (ys.map V.str)) ∧ (ys.map (·.length)).sum + ys.length * a.length ≤ 16777216 ∧ Q (.str (Txt.join a ys)) H
def rSplitT : V → List V → Hp → VK → Prop := fun x xs H Q => ∃ a b, x = .str a ∧ xs = [.str b] ∧ (b.length == 0) = false ∧ a.length + 2 ≤ sizeLine ∧ ∀ p, H p = none → Q (.ref p) (upd H p (.lst ((Txt.split a b).map V.str)))
def rPartT : V → List V → Hp → VK → Prop := fun x xs H Q => ∃ a b, x = .str a ∧ xs = [.str b] ∧ (b.length == 0) = false ∧ a.length ≤ sizeLine ∧ ∀ p, H p = none → Q (.ref p) (upd H p (.tup [.str (Txt.partition a b).1, .str (Txt.partition a b).2.1, .str (Txt.partition a b).2.2]))
def tTM (r : V → List V → Hp → VK → Prop) (to te : TE) : TE := fun σ H Q => to σ H fun x H1 => (∃ a, x = .str a) ∧ te σ H1 fun y H2 => r x [y] H2 Q
theorem an_joinT {apos pos : Pos} (ho : PE X o to) (he : PE X e te) (hs : starEach [e] X.env = [(false, eval e X.env)] := by rfl) (hbase : attributeBase o "join" X.env (eval o X.env) = eval o X.env := by rfl) (hline : (apos.endLine == pos.line) = true := by rfl) : PE X (.Call (.Attribute o "join" apos) [e] [] pos) (tTM (rJoinT X.K) to te) := pe_join ho he hs hbase hline
theorem an_splitT {apos pos : Pos} (ho : PE X o to) (he : PE X e te) (hs : starEach [e] X.env = [(false, eval e X.env)] := by rfl) (hbase : attributeBase o "split" X.env (eval o X.env) = eval o X.env := by rfl) (hline : (apos.endLine == pos.line) = true := by rfl) : PE X (.Call (.Attribute o "split" apos) [e] [] pos) (tTM rSplitT to te) := pe_split ho he hs hbase hline
theorem an_partT {apos pos : Pos} (ho : PE X o to) (he : PE X e te) (hs : starEach [e] X.env = [(false, eval e X.env)] := by rfl) (hbase : attributeBase o "partition" X.env (eval o X.env) = eval o X.env := by rfl) (hline : (apos.endLine == pos.line) = true := by rfl) : PE X (.Call (.Attribute o "partition" apos) [e] [] pos) (tTM rPartT to te) := pe_partition ho he hs hbase hline
theorem e_tm {r : V → List V → Hp → VK → Prop} (h : to σ H fun x H1 => (∃ a, x = .str a) ∧ te σ H1 fun y H2 => r x [y] H2 Q) : tTM r to te σ H Q := h
theorem e_joinL {a : Str} {p : Addr} {ys : List Str} (h : SqL K H p (ys.map V.str)) (l : (ys.map (·.length)).sum + ys.length * a.length ≤ 16777216) (q : Q (.str (Txt.join a ys)) H) : rJoinT K (.str a) [.ref p] H Q := ⟨a, p, ys, rfl, rfl, .inl h, l, q⟩
theorem e_split {a b : Str} (hb : (b.length == 0) = false) (l : a.length + 2 ≤ sizeLine) (q : ∀ p, H p = none → Q (.ref p) (upd H p (.lst ((Txt.split a b).map V.str)))) : rSplitT (.str a) [.str b] H Q := ⟨a, b, rfl, rfl, hb, l, q⟩
theorem e_part {a b : Str} (hb : (b.length == 0) = false) (l : a.length ≤ sizeLine) (q : ∀ p, H p = none → Q (.ref p) (upd H p (.tup [.str (Txt.partition a b).1, .str (Txt.partition a b).2.1, .str (Txt.partition a b).2.2]))) : rPartT (.str a) [.str b] H Q := ⟨a, b, rfl, rfl, hb, l, q⟩
end
/-! ### laws k36 and k04: the law's own reader -/
theorem k_lcStr {z : Str} {g : TG} {tt : TT} {te : TE} {vs : List Nat} {σ : St} {H : Hp} {Q : VK} (Pv : Nat → Addr → Hp → Prop) (h0 : ∀ D, H D = none → Pv 0 D (upd H D (.lst [])))
    (hs : ∀ i c D H', H D = none → z.cps.toList[i]? = some c → Pv i D H' → g (.str ⟨#[c]⟩) (wipe σ vs) H' fun σ2 H2 => wipe σ2 vs = wipe σ vs ∧ tt σ2 H2 fun b H3 => if b = true then te σ2 H3 fun y H4 => ∃ acc, H4 D = some (.lst acc) ∧ acc.length < sizeLine ∧ Pv (i + 1) D (upd H4 D (.lst (acc ++ [y]))) else Pv (i + 1) D H3)
    (hd : ∀ D H', H D = none → Pv z.length D H' → Q (.ref D) H') : kIS (.str z) H fun J H1 => kLc J g tt te vs σ Q H1 := by
  refine ⟨z, rfl, fun D hD => ⟨fun i m H' => m = z.length - i ∧ i ≤ z.length ∧ Pv i D H', ⟨z.length, by simp, Nat.zero_le _, h0 D hD⟩, ?_⟩⟩
  rintro i m H' ⟨rfl, hi, p⟩
  by_cases hlt : i < z.length
  · refine .inr ⟨hlt, Pv (i + 1) D, fun H2 p' => ⟨z.length - (i + 1), by omega, rfl, hlt, p'⟩, fun x H2 y => ?_⟩
    obtain ⟨e, c, hc, y⟩ := y
    subst e y
    exact hs i c D _ hD (by rw [Array.getElem?_toList]; exact hc) p
  · have e : i = z.length := by omega
    subst e
    exact .inl ⟨Nat.le_refl _, hd D H' hD p⟩
def sp_lisn : Sp := fun vs H Q _ => ∃ w : Str, vs = [.str w] ∧ w.length ≤ 1000000 ∧ ∀ H', Same H H' → Q (.bl (nameB w)) H'
theorem ln__law_is_name {vs : List V} {H : Hp} {Q : VK} {E : XK} (h : sp_lisn vs H Q E) : vs.length = 1 := by
  obtain ⟨w, rfl, _⟩ := h
  rfl
abbrev n__law_is_name : List Str := ["_law_word", "_law_letters", "_law_sign"]
def t__law_is_name (K : PySem.W.Frag) (W : WX) : TS :=
  tSeq (tAsg (tC (.str "abcdefghijklmnopqrstuvwxyz")) (gName 1))
  (tRet (tAndV (tChain rLtI rLtI (tC (.int 0)) (tCB rLenT (tCons (tVar 0) tNil)) (tC (.int 7))) (tOp rEq (tCB (rLenL K) (tCons (tLc (iStr (tVar 0)) (gName 2) (tTest (tOp rInS (tVar 2) (tVar 1))) (tVar 2) [2]) tNil)) (tCB rLenT (tCons (tVar 0) tNil)))))
theorem name_len7 {w : Str} (h : ¬ (w.length : Int) < 7) : nameB w = false := by
  unfold nameB
  rw [decide_eq_false (p := w.length ≤ 6) (by omega)]
  simp
theorem pure__law_is_name {K : PySem.W.Frag} {vs : List V} {H : Hp} {Q : VK} {E : XK} {W : WX} (h : sp_lisn vs H Q E) : t__law_is_name K W { nx := fun _ H' => Q .non H', rt := Q } (start n__law_is_name vs) H := by
  obtain ⟨w, rfl, l1, kk⟩ := h
  have hm := mega
  show t__law_is_name K W _ [some (.str w), none, none] H
  unfold t__law_is_name
  walk_at "go"
  have eLT : ("abcdefghijklmnopqrstuvwxyz" : Str).cps.toList = LT := rfl
  show tChain rLtI rLtI _ _ _ _ H _
  unfold tChain
  walk_at "go"
  refine e_lenT (by omega) ?_
  walk_at "go"
  by_cases h0 : (0 : Int) < (w.length : Nat)
  · rw [decide_eq_true h0]
    refine iteT ?_
    walk_at "go"
    by_cases h7 : ((w.length : Nat) : Int) < 7
    · rw [decide_eq_true h7]
      refine iteT ?_
      walk_at "go"
      refine k_lcStr (z := w) (fun i D H' => Same H H' ∧ H D = none ∧ H' D = some (.lst (((w.cps.toList.take i).filter fun c => decide (c ∈ LT)).map fun c => V.str ⟨#[c]⟩))) (fun D hD => ⟨same1 hD, hD, by rw [upd_same]; rfl⟩) ?_ ?_
      · rintro i c D H1 hD hc ⟨s1, n1, e1⟩
        have hil := List.getElem?_eq_some_iff.mp hc
        have et : (w.cps.toList.take (i + 1)).filter (fun c => decide (c ∈ LT)) = (w.cps.toList.take i).filter (fun c => decide (c ∈ LT)) ++ if c ∈ LT then [c] else [] := by
          rw [List.take_succ_eq_append_getElem hil.1, hil.2, List.filter_append]
          congr 1
          by_cases q : c ∈ LT
          · rw [if_pos q, List.filter_cons, if_pos (decide_eq_true q)]; rfl
          · rw [if_neg q, List.filter_cons, if_neg (by simpa using q)]; rfl
        walk_at "go"
        refine ⟨rfl, ?_⟩
        walk_at "go"
        rw [eLT]
        by_cases q : c ∈ LT
        · rw [decide_eq_true q]
          refine iteT ?_
          walk_at "go"
          refine ⟨_, e1, ?_, same_mut s1 n1, n1, ?_⟩
          · rw [List.length_map]
            have h1 := List.length_filter_le (fun c => decide (c ∈ LT)) (w.cps.toList.take i)
            have h2 : (w.cps.toList.take i).length ≤ w.length := by rw [List.length_take, Array.length_toList]; exact Nat.min_le_right _ _
            omega
          · rw [upd_same, et, if_pos q, List.map_append]
            rfl
        · rw [decide_eq_false q]
          refine iteF ?_
          refine ⟨s1, n1, ?_⟩
          rw [et, if_neg q, List.append_nil]
          exact e1
      · rintro D H1 hD ⟨s1, n1, e1⟩
        have elen : w.cps.toList.take w.length = w.cps.toList := List.take_of_length_le (by rw [Array.length_toList]; exact Nat.le_refl _)
        rw [elen] at e1
        walk_at "go"
        refine e_lenL (SqL.of e1) ?_
        rw [List.length_map]
        walk_at "go"
        refine e_lenT (by omega) ?_
        walk_at "go"
        have eq : decide ((((w.cps.toList.filter fun c => decide (c ∈ LT)).length : Nat) : Int) = (w.length : Nat)) = nameB w := by
          have l6 : w.length ≤ 6 := by omega
          have ne : ¬ w = "" := fun z => by
            rw [z] at h0
            exact absurd h0 (by decide)
          unfold nameB
          rw [decide_eq_true ne, decide_eq_true l6, Bool.true_and, Bool.true_and]
          have e2 : w.length = w.cps.toList.length := Array.length_toList.symm
          by_cases all : ∀ c ∈ w.cps.toList, c ∈ LT
          · rw [List.filter_eq_self.mpr fun c hc => decide_eq_true (all c hc), ← e2, decide_eq_true rfl]
            exact (List.all_eq_true.mpr fun c hc => decide_eq_true (all c hc)).symm
          · have lt : (w.cps.toList.filter fun c => decide (c ∈ LT)).length < w.cps.toList.length := by
              refine Nat.lt_of_le_of_ne (List.length_filter_le _ _) fun z => all fun c hc => ?_
              have := List.length_filter_eq_length_iff.mp z c hc
              exact of_decide_eq_true this
            rw [decide_eq_false (by omega)]
            symm
            rw [Bool.eq_false_iff]
            intro z
            exact all fun c hc => of_decide_eq_true (List.all_eq_true.mp z c hc)
        rw [eq]
        exact kk _ s1
    · rw [decide_eq_false h7]
      refine iteF ?_
      have := kk H (Same.refl _)
      rw [name_len7 h7] at this
      exact this
  · rw [decide_eq_false h0]
    refine iteF ?_
    refine ⟨_, rfl, ?_⟩
    refine iteF ?_
    have := kk H (Same.refl _)
    have e : nameB w = false := by
      have l0 : w.length = 0 := by omega
      have : w = "" := by
        cases w with
        | mk a =>
          have : a = #[] := Array.eq_empty_of_size_eq_zero l0
          rw [this]
          rfl
      rw [this]
      decide
    rw [e] at this
    exact this
def sp_lnum : Sp := fun vs H Q _ => ∃ w : Str, vs = [.str w] ∧ Q (.int ((numOf w).getD (-1))) H
theorem ln__law_number {vs : List V} {H : Hp} {Q : VK} {E : XK} (h : sp_lnum vs H Q E) : vs.length = 1 := by
  obtain ⟨w, rfl, _⟩ := h
  rfl
abbrev n__law_number : List Str := ["_law_word", "_law_number_here"]
def t__law_number (K : PySem.W.Frag) (W : WX) : TS :=
  tSeq (tFor (iRng1 (tCons (tC (.int 31)) tNil)) (gName 1) (tIfS (tTest (tOp rEq (tVar 0) (tCB rStrI (tCons (tVar 1) tNil)))) (tRet (tVar 1)) tNext))
  (tRet (tUn rNeg (tC (.int 1))))
theorem str_eq {a b : Str} (h : a.cps.toList = b.cps.toList) : a = b := by
  cases a with
  | mk a =>
    cases b with
    | mk b =>
      have h : a.toList = b.toList := h
      rw [Array.toList_inj.mp h]
theorem num_back {w : Str} {c : Int} (h : numOf w = some c) : w = numS c := by
  have k1 : ∀ a ∈ FG, (numS ((a : Int) - 48)).cps.toList = [a] := by decide +kernel
  have k2 : ∀ a ∈ FG, ∀ b ∈ FG, a ≠ 48 ∧ ((a : Int) - 48) * 10 + ((b : Int) - 48) ≤ 30 → (numS (((a : Int) - 48) * 10 + ((b : Int) - 48))).cps.toList = [a, b] := by decide +kernel
  unfold numOf at h
  split at h
  · rename_i a e
    split at h
    · rename_i ha
      cases h
      exact str_eq (e.trans (k1 a ha).symm)
    · cases h
  · rename_i a b e
    split at h
    · rename_i q
      cases h
      exact str_eq (e.trans (k2 a q.1 b q.2.1 q.2.2).symm)
    · cases h
  · cases h
theorem pure__law_number {K : PySem.W.Frag} {vs : List V} {H : Hp} {Q : VK} {E : XK} {W : WX} (h : sp_lnum vs H Q E) : t__law_number K W { nx := fun _ H' => Q .non H', rt := Q } (start n__law_number vs) H := by
  obtain ⟨w, rfl, kk⟩ := h
  show t__law_number K W _ [some (.str w), none] H
  unfold t__law_number
  walk_at "go"
  refine k_forR (n := 31) (fun i σ H' => ∃ v1 : Option V, H' = H ∧ σ = [some (.str w), v1] ∧ ∀ k : Nat, k < i → w ≠ numS (k : Int)) (by decide) (by decide) ⟨none, rfl, rfl, fun k hk => by omega⟩ ?_ ?_
  · rintro i σ H1 hi ⟨v1, rfl, rfl, al⟩
    walk_at "go"
    refine e_strI (log_small (by omega) (by omega)) ?_
    walk_at "go"
    by_cases q : w = numS (i : Int)
    · rw [decide_eq_true (show w = ((toString (i : Int) : String) : Str) from q)]
      refine iteT ?_
      walk_at "go"
      have e := num_of i (by omega)
      rw [← q] at e
      rw [e] at kk
      exact kk
    · rw [decide_eq_false (show ¬ w = ((toString (i : Int) : String) : Str) from q)]
      refine iteF ?_
      walk_at "go"
      refine ⟨_, rfl, rfl, fun k hk => ?_⟩
      by_cases e : k = i
      · rw [e]; exact q
      · exact al k (by omega)
  · rintro σ H1 ⟨v1, rfl, rfl, al⟩
    walk_at "go"
    have e : numOf w = none := by
      cases q : numOf w with
      | none => rfl
      | some c =>
        have r := numOf_rng q
        have b := num_back q
        obtain ⟨k, rfl⟩ : ∃ k : Nat, c = k := ⟨c.toNat, by omega⟩
        exact absurd b (al k (by have : ((31 : Int).toNat) = 31 := rfl; omega))
    rw [e] at kk
    exact ⟨1, rfl, kk⟩
/-! ### the law's tuples of any storeys; _law_single, _law_chain -/
theorem NdR.re {α : Type} {R R' : TRel α} {H H' : Hp} {A A' : Addr → Prop} {t : Nd α} {v : V} (f : ∀ a xs, H a = some (.tup xs) → H' a = some (.tup xs)) (g : ∀ l us, A l → H l = some (.lst us) → A' l ∧ H' l = some (.lst us)) (r : ∀ t v, R H A t v → R' H' A' t v) (h : NdR R H A t v) : NdR R' H' A' t v := by
  cases t with
  | num n =>
    obtain ⟨a, e, h⟩ := h
    exact ⟨a, e, f _ _ h⟩
  | nm n =>
    obtain ⟨a, e, h⟩ := h
    exact ⟨a, e, f _ _ h⟩
  | gate x b t =>
    obtain ⟨a, u, e, h, q⟩ := h
    exact ⟨a, u, e, f _ _ h, r _ _ q⟩
  | ch k ts =>
    obtain ⟨a, l, us, e, h, hl, ha, q⟩ := h
    exact ⟨a, l, us, e, f _ _ h, (g _ _ ha hl).2, (g _ _ ha hl).1, Paired.mapP q fun _ _ z => r _ _ z⟩
def TrX : Nat → TRel Pt
  | 0 => fun _ _ _ _ => False
  | n + 1 => fun H A t v => match t with
    | .mk d => NdR (TrX n) H A d v
theorem TrX.re {H H' : Hp} {A A' : Addr → Prop} (f : ∀ a xs, H a = some (.tup xs) → H' a = some (.tup xs)) (g : ∀ l us, A l → H l = some (.lst us) → A' l ∧ H' l = some (.lst us)) : ∀ (n : Nat) (t : Pt) (v : V), TrX n H A t v → TrX n H' A' t v
  | 0, _, _, h => h.elim
  | n + 1, .mk d, v, h => NdR.re f g (fun t v z => TrX.re f g n t v z) h
theorem TrX.good (n : Nat) : Good (TrX n) := fun _ _ _ _ t v h ft fl fa => TrX.re ft (fun l us ha hl => ⟨fa l ha, fl l us ha hl⟩) n t v h
theorem TrX.succ : ∀ {n : Nat} {H : Hp} {A : Addr → Prop} {t : Pt} {v : V}, TrX n H A t v → TrX (n + 1) H A t v
  | 0, _, _, _, _, h => h.elim
  | n + 1, _, _, .mk _, _, h => NdR.re (R := TrX n) (R' := TrX (n + 1)) (fun _ _ h => h) (fun _ _ h q => ⟨h, q⟩) (fun _ _ z => TrX.succ z) h
theorem TrX.mono {n m : Nat} {H : Hp} {A : Addr → Prop} {t : Pt} {v : V} (h : TrX n H A t v) (l : n ≤ m) : TrX m H A t v := by
  induction l with
  | refl => exact h
  | step _ ih => exact ih.succ
theorem cut_one (xs : List V) {i : Nat} (h : i ≤ xs.length) : cutV xs (some (i : Int)) (some ((i : Int) + 1)) = (xs.drop i).take 1 := by
  unfold cutV
  have e1 : HT.sIx xs.length 0 (some (i : Int)) = i := by
    show (if (i : Int) < 0 then ((i : Int) + (xs.length : Int)).toNat else min (i : Int).toNat xs.length) = _
    rw [if_neg (by omega)]
    omega
  have e2 : HT.sIx xs.length xs.length (some ((i : Int) + 1)) = min (i + 1) xs.length := by
    show (if (i : Int) + 1 < 0 then (((i : Int) + 1) + (xs.length : Int)).toNat else min ((i : Int) + 1).toNat xs.length) = _
    rw [if_neg (by omega)]
    omega
  rw [e1, e2]
  by_cases q : i < xs.length
  · rw [show min (i + 1) xs.length - i = 1 by omega]
  · have : xs.drop i = [] := List.drop_eq_nil_of_le (by omega)
    rw [this, List.take_nil, List.take_nil]
def hdL (ws : List Str) : List Str := ws.take 1
theorem hd_eq {ws : List Str} {s : Str} (hs : s ≠ "") : (ws.take 1 = [s]) ↔ ws.headD "" = s := by
  cases ws with
  | nil =>
    constructor
    · intro h; cases h
    · intro h; exact absurd h.symm hs
  | cons a r =>
    constructor
    · intro h; exact (List.cons.inj h).1
    · intro h
      have h : a = s := h
      rw [h]; rfl
theorem hd_join (ws : List Str) : Txt.join "" (ws.take 1) = ws.headD "" := by
  cases ws with
  | nil => rfl
  | cons a r => rfl
/-- one of the law's reading functions: it reads off what p reads, or answers None -/
def sp_lr (p : PRd) (n m : Nat) (args : List V) : Sp := fun vs H Q _ => ∃ (wl : Addr) (W : List Str) (i dp : Nat), vs = .ref wl :: .int (i : Int) :: .int (dp : Int) :: args ∧ H wl = some (.lst (W.map V.str)) ∧ dp + n = 2 ∧ i ≤ W.length ∧ W.length ≤ 100000 ∧ (∀ w ∈ W, w.length ≤ 100000) ∧
  (p (W.drop i) = none → ∀ H', Same H H' → Q .non H') ∧ ∀ t r, p (W.drop i) = some (t, r) → ∀ (a : Addr) (v : V) (j : Nat) (H' : Hp), Same H H' → H' a = some (.tup [v, .int (j : Int)]) → j ≤ W.length → W.drop j = r → TrX m H' (fun l => H l = none) t v → Q (.ref a) H'
theorem ln_lr {p : PRd} {n m : Nat} {args : List V} (vs : List V) (H : Hp) (Q : VK) (E : XK) (h : sp_lr p n m args vs H Q E) : vs.length = args.length + 3 := by
  obtain ⟨_, _, _, _, rfl, _⟩ := h
  rfl
abbrev n__law_single : List Str := ["_law_words", "_law_at", "_law_deep", "_law_word", "_law_found", "_law_inner", "_law_bound"]
def t__law_single (K : PySem.W.Frag) (W : WX) (S__law_chain : Sp) (S__law_single : Sp) : TS :=
  tSeq (tAsg (tTM (rJoinT K) (tC (.str "")) (tSl (rSlL K) (tVar 0) (tPart (tVar 1)) (tPart (tOp rAddI (tVar 1) (tC (.int 1)))))) (gName 3))
  (tSeq (tIfS (tAnd (tTest (tOp rEq (tVar 3) (tC (.str "(")))) (tTest (tOp rLtI (tVar 2) (tC (.int 2))))) (tSeq (tAsg (tCW S__law_chain W (tCons (tVar 0) (tCons (tOp rAddI (tVar 1) (tC (.int 1))) (tCons (tOp rAddI (tVar 2) (tC (.int 1))) (tCons (tC (.int 1)) tNil))))) (gName 4))
  (tSeq (tIfS (tOr (tTest (tOp rIsN (tVar 4) (tC .non))) (tTest (tOp (rNeY K) (tSl (rSlL K) (tVar 0) (tPart (tOp (rIxT K) (tVar 4) (tC (.int 1)))) (tPart (tOp rAddI (tOp (rIxT K) (tVar 4) (tC (.int 1))) (tC (.int 1))))) (tLst (tCons (tC (.str ")")) tNil))))) (tRet (tC .non)) tNext)
  (tRet (tTup (tCons (tOp (rIxT K) (tVar 4) (tC (.int 0))) (tCons (tOp rAddI (tOp (rIxT K) (tVar 4) (tC (.int 1))) (tC (.int 1))) tNil)))))) tNext)
  (tSeq (tIfS (tAnd (tTest (tOp rEq (tVar 3) (tC (.str "[")))) (tAnd (tTest (tOp rLtI (tVar 2) (tC (.int 2)))) (tAnd (tTest (tOp rGtI (tCB (rLenL K) (tCons (tVar 0) tNil)) (tOp rAddI (tVar 1) (tC (.int 4))))) (tTest (tOp rEq (tOp (rIxL K) (tVar 0) (tOp rAddI (tVar 1) (tC (.int 3)))) (tC (.str "]"))))))) (tSeq (tAsg (tCW S__law_single W (tCons (tVar 0) (tCons (tOp rAddI (tVar 1) (tC (.int 4))) (tCons (tOp rAddI (tVar 2) (tC (.int 1))) tNil)))) (gName 5))
  (tSeq (tAsg (tCW sp_lnum W (tCons (tOp (rIxL K) (tVar 0) (tOp rAddI (tVar 1) (tC (.int 2)))) tNil)) (gName 6))
  (tSeq (tIfS (tOr (tTest (tOp rIsN (tVar 5) (tC .non))) (tOr (tTest (tOp rLtI (tVar 6) (tC (.int 1)))) (tNot (tB (tCW sp_lisn W (tCons (tOp (rIxL K) (tVar 0) (tOp rAddI (tVar 1) (tC (.int 1)))) tNil)))))) (tRet (tC .non)) tNext)
  (tRet (tTup (tCons (tTup (tCons (tC (.str "gate")) (tCons (tOp (rIxL K) (tVar 0) (tOp rAddI (tVar 1) (tC (.int 1)))) (tCons (tVar 6) (tCons (tOp (rIxT K) (tVar 5) (tC (.int 0))) tNil))))) (tCons (tOp (rIxT K) (tVar 5) (tC (.int 1))) tNil))))))) tNext)
  (tSeq (tIfS (tB (tCW sp_lisn W (tCons (tVar 3) tNil))) (tRet (tTup (tCons (tTup (tCons (tC (.str "name")) (tCons (tVar 3) tNil))) (tCons (tOp rAddI (tVar 1) (tC (.int 1))) tNil)))) tNext)
  (tSeq (tIfS (tTest (tOp rGeI (tCW sp_lnum W (tCons (tVar 3) tNil)) (tC (.int 0)))) (tRet (tTup (tCons (tTup (tCons (tC (.str "number")) (tCons (tCW sp_lnum W (tCons (tVar 3) tNil)) tNil))) (tCons (tOp rAddI (tVar 1) (tC (.int 1))) tNil)))) tNext)
  (tRet (tC .non))))))
theorem same_fresh {A B : Hp} (s : Same A B) {x : Addr} (e : B x = none) : A x = none := by
  cases q : A x with
  | none => rfl
  | some o => rw [s _ _ q] at e; cases e
def t_lleaf (K : PySem.W.Frag) (W : WX) : TS :=
  tSeq (tIfS (tB (tCW sp_lisn W (tCons (tVar 3) tNil))) (tRet (tTup (tCons (tTup (tCons (tC (.str "name")) (tCons (tVar 3) tNil))) (tCons (tOp rAddI (tVar 1) (tC (.int 1))) tNil)))) tNext)
  (tSeq (tIfS (tTest (tOp rGeI (tCW sp_lnum W (tCons (tVar 3) tNil)) (tC (.int 0)))) (tRet (tTup (tCons (tTup (tCons (tC (.str "number")) (tCons (tCW sp_lnum W (tCons (tVar 3) tNil)) tNil))) (tCons (tOp rAddI (tVar 1) (tC (.int 1))) tNil)))) tNext)
  (tRet (tC .non)))
theorem pure_lleaf {K : PySem.W.Frag} {Wx : WX} {Q : VK} {H : Hp} {wl : Addr} {W : List Str} {i : Nat} {wd : Str} {dv x4 x5 x6 : Option V} (lh : wd.length ≤ 100000)
    (k0 : leafF wd (W.drop (i + 1)) = none → ∀ H', Same H H' → Q .non H')
    (k1 : ∀ t r, leafF wd (W.drop (i + 1)) = some (t, r) → ∀ (a : Addr) (v : V) (H' : Hp), Same H H' → H' a = some (.tup [v, .int ((i : Int) + 1)]) → wd ≠ "" → W.drop (i + 1) = r → TrX 1 H' (fun l => H l = none) t v → Q (.ref a) H') :
    t_lleaf K Wx { nx := fun _ H' => Q .non H', rt := Q } [some (.ref wl), some (.int (i : Int)), dv, some (.str wd), x4, x5, x6] H := by
  unfold t_lleaf
  walk_at "go"
  refine ⟨wd, rfl, by omega, fun H1 s1 => ?_⟩
  cases hn : nameB wd with
  | true =>
    walk_at "go"
    refine iteT ?_
    walk_at "go"
    intro p hp
    walk_at "go"
    intro q hq
    have ne : wd ≠ "" := fun z => by rw [z] at hn; exact absurd hn (by decide)
    have s2 : Same H1 (upd H1 p (.tup [.str "name", .str wd])) := same1 hp
    have s3 : Same (upd H1 p (.tup [.str "name", .str wd])) (upd (upd H1 p (.tup [.str "name", .str wd])) q (.tup [.ref p, .int ((i : Int) + 1)])) := same1 hq
    exact k1 (.mk (.nm wd)) _ (by simp only [leafF, hn, if_true]) q _ _ (s1.trans (s2.trans s3)) upd_same ne rfl ⟨p, rfl, s3 _ _ upd_same⟩
  | false =>
    walk_at "go"
    refine iteF ?_
    walk_at "go"
    refine ⟨wd, rfl, ?_⟩
    cases ec : numOf wd with
    | none =>
      walk_at "go"
      refine ifd (fun h => absurd h (by decide)) (fun _ => ?_)
      walk_at "go"
      exact k0 (by simp only [leafF, hn, ec]; rfl) H1 s1
    | some c =>
      have rc := numOf_rng ec
      have ne : wd ≠ "" := fun z => by
        have e0 : numOf "" = none := by decide
        rw [z, e0] at ec
        cases ec
      walk_at "go"
      refine ifd (fun _ => ?_) (fun h => absurd rc.1 h)
      walk_at "go"
      refine ⟨wd, rfl, ?_⟩
      rw [ec]
      walk_at "go"
      intro p hp
      walk_at "go"
      intro q hq
      have s2 : Same H1 (upd H1 p (.tup [.str "number", .int c])) := same1 hp
      have s3 : Same (upd H1 p (.tup [.str "number", .int c])) (upd (upd H1 p (.tup [.str "number", .int c])) q (.tup [.ref p, .int ((i : Int) + 1)])) := same1 hq
      exact k1 (.mk (.num c)) _ (by simp only [leafF, hn, ec]; rfl) q _ _ (s1.trans (s2.trans s3)) upd_same ne rfl ⟨p, rfl, s3 _ _ upd_same⟩
theorem gated_non (ws : List Str) : gatedF none ws = none := by
  unfold gatedF
  split
  · split
    · rfl
    · split
      · rfl
      · split <;> rfl
  · rfl
theorem single_nil : ∀ n, singleF n [] = none := fun n => by
  rw [singleF_eq]
  rfl
theorem gated_inv {p : PRd} {ws : List Str} {x : Pt × List Str} (h : gatedF (some p) ws = some x) : ∃ b t r, nameB (ws.headD "") = true ∧ numOf (ws.tail.headD "") = some b ∧ b ≠ 0 ∧ ws.tail.tail.headD "" = "]" ∧ p ws.tail.tail.tail = some (t, r) ∧ x = (.mk (.gate (ws.headD "") b t), r) := by
  unfold gatedF at h
  by_cases q1 : nameB (ws.headD "") = true
  · rw [if_pos q1] at h
    cases e : numOf (ws.tail.headD "") with
    | none => rw [e] at h; cases h
    | some b =>
      rw [e] at h
      simp only at h
      by_cases q2 : b = 0
      · rw [if_pos q2] at h; cases h
      · rw [if_neg q2] at h
        by_cases q3 : ws.tail.tail.headD "" = "]"
        · rw [if_pos q3] at h
          cases e2 : p ws.tail.tail.tail with
          | none => rw [e2] at h; cases h
          | some y =>
            obtain ⟨t1, r1⟩ := y
            rw [e2] at h
            cases h
            exact ⟨b, t1, r1, q1, rfl, q2, q3, rfl, rfl⟩
        · rw [if_neg q3] at h; cases h
  · rw [if_neg q1] at h; cases h
theorem gated_run {p : PRd} {ws r : List Str} {b : Int} {t : Pt} (h1 : nameB (ws.headD "") = true) (h2 : numOf (ws.tail.headD "") = some b) (h3 : b ≠ 0) (h4 : ws.tail.tail.headD "" = "]") (h5 : p ws.tail.tail.tail = some (t, r)) : gatedF (some p) ws = some (.mk (.gate (ws.headD "") b t), r) := by
  unfold gatedF
  rw [if_pos h1, h2]
  simp only
  rw [if_neg h3, if_pos h4, h5]
theorem head_len1 {W : List Str} (h : ∀ w ∈ W, w.length ≤ 100000) (i : Nat) : ((W.drop i).headD "").length ≤ 100000 := by
  cases e : W.drop i with
  | nil => exact Nat.zero_le _
  | cons a r => exact h a (List.mem_of_mem_drop (by rw [e]; exact List.mem_cons_self))
theorem pure__law_single {K : PySem.W.Frag} {n : Nat} {Sc Ss : Sp} (hc : ∀ n', n = n' + 1 → Sc = sp_lr (wholeF (singleF n')) n' (4 * n' + 4) [.int 1]) (hs : ∀ n', n = n' + 1 → Ss = sp_lr (singleF n') n' (4 * n' + 1) []) {vs : List V} {H : Hp} {Q : VK} {E : XK} {Wx : WX}
    (h : sp_lr (singleF n) n (4 * n + 1) [] vs H Q E) : t__law_single K Wx Sc Ss { nx := fun _ H' => Q .non H', rt := Q } (start n__law_single vs) H := by
  obtain ⟨wl, W, i, dp, rfl, hw, hdp, hi, lW, lw, k0, k1⟩ := h
  have hm := mega
  show t__law_single K Wx _ _ _ [some (.ref wl), some (.int (i : Int)), some (.int (dp : Int)), none, none, none, none] H
  unfold t__law_single
  walk_at "go"
  refine e_tm ?_
  walk_at "go"
  refine ⟨⟨_, rfl⟩, ?_⟩
  walk_at "go"
  refine e_slL (SqL.of hw) fun p hp => ?_
  rw [cut_one _ (by rw [List.length_map]; exact hi), ← List.map_drop, ← List.map_take]
  have s1 : Same H (upd H p (.lst (((W.drop i).take 1).map V.str))) := same1 hp
  refine e_joinL (SqL.of upd_same) ?_ ?_
  · have l0 : ("" : Str).length = 0 := rfl
    rw [l0, Nat.mul_zero, Nat.add_zero]
    have q := head_len1 lw i
    cases e : W.drop i with
    | nil => exact Nat.zero_le _
    | cons a r =>
      rw [e] at q
      have q : a.length ≤ 100000 := q
      show ([a].map (·.length)).sum ≤ _
      simp only [List.map_cons, List.map_nil, List.sum_cons, List.sum_nil]
      omega
  rw [hd_join]
  have lh := head_len1 lw i
  rw [singleF_eq] at k0 k1
  generalize hwd : (W.drop i).headD "" = wd at lh k0 k1 ⊢
  generalize upd H p (.lst (((W.drop i).take 1).map V.str)) = H1 at s1 ⊢
  have htl : (W.drop i).tail = W.drop (i + 1) := tail_drop
  rw [htl] at k0 k1
  have lt : wd ≠ "" → i < W.length := fun q => by
    refine Nat.lt_of_not_le fun z => q ?_
    rw [List.drop_eq_nil_of_le z] at hwd
    exact hwd.symm
  walk_at "go"
  refine ifd (fun hb => ?_) (fun hb => ?_)
  · rw [if_pos hb] at k0 k1
    have il : i < W.length := lt (by rw [hb]; decide)
    walk_at "go"
    refine ifd (fun hd => ?_) (fun hd => ?_)
    · obtain ⟨n, rfl⟩ : ∃ n', n = n' + 1 := ⟨n - 1, by omega⟩
      rw [hc n rfl]
      walk_at "go"
      refine ⟨wl, W, i + 1, dp + 1, rfl, s1 _ _ hw, by omega, il, lW, lw, fun e0 H2 s2 => ?_, fun t r ep a v j H2 s2 ha hj hr Rt => ?_⟩
      · walk_at "go"
        refine ifd (fun _ => ?_) (fun h => absurd rfl h)
        walk_at "go"
        exact k0 (by simp only [subF, Option.map, bracketF, e0]) H2 (s1.trans s2)
      · walk_at "go"
        refine ifd (fun h => nomatch h) (fun _ => ?_)
        have hw2 := s2 _ _ (s1 _ _ hw)
        walk_at "go"
        refine e_ixT (SqT.of ha) (at_of (j := 1) rfl rfl) ?_
        walk_at "go"
        refine e_ixT (SqT.of ha) (at_of (j := 1) rfl rfl) ?_
        walk_at "go"
        refine e_slL (SqL.of hw2) fun p2 hp2 => ?_
        rw [cut_one _ (by rw [List.length_map]; exact hj), ← List.map_drop, ← List.map_take]
        have s3 : Same H2 (upd H2 p2 (.lst (((W.drop j).take 1).map V.str))) := same1 hp2
        have g3 : upd H2 p2 (.lst (((W.drop j).take 1).map V.str)) p2 = some (.lst (((W.drop j).take 1).map V.str)) := upd_same
        generalize upd H2 p2 (.lst (((W.drop j).take 1).map V.str)) = H3 at s3 g3 ⊢
        walk_at "go"
        intro p3 hp3
        have s4 : Same H3 (upd H3 p3 (.lst [V.str ")"])) := same1 hp3
        refine e_neY ((W.drop j).take 1) [(")" : Str)] (by decide) (dp_strs (SqL.of (s4 _ _ g3))) (dp_strs (ys := [(")" : Str)]) (SqL.of upd_same)) ?_
        generalize upd H3 p3 (.lst [V.str ")"]) = H4 at s4 ⊢
        have s24 := s3.trans s4
        rw [hr]
        walk_at "go"
        refine ifn (fun h => ?_) (fun h => ?_)
        · have h : ¬ r.headD "" = ")" := fun z => h ((hd_eq (by decide)).mpr z)
          walk_at "go"
          exact k0 (by simp only [subF, Option.map, bracketF, ep]; exact if_neg h) H4 (s1.trans (s2.trans s24))
        · have h : r.headD "" = ")" := (hd_eq (by decide)).mp h
          walk_at "go"
          refine e_ixT (SqT.of (s24 _ _ ha)) (at_of (j := 0) rfl rfl) ?_
          walk_at "go"
          refine e_ixT (SqT.of (s24 _ _ ha)) (at_of (j := 1) rfl rfl) ?_
          walk_at "go"
          intro p5 hp5
          have jl : j < W.length := by
            refine Nat.lt_of_not_le fun z => ?_
            rw [List.drop_eq_nil_of_le z] at hr
            rw [← hr] at h
            exact absurd h (by decide)
          have s5 : Same H4 (upd H4 p5 (.tup [v, .int ((j : Int) + 1)])) := same1 hp5
          refine k1 t r.tail (by simp only [subF, Option.map, bracketF, ep]; exact if_pos h) p5 v (j + 1) _ (s1.trans (s2.trans (s24.trans s5))) upd_same jl (by rw [← tail_drop, hr]) ?_
          refine TrX.mono (TrX.re (fun b xs e => (s24.trans s5) _ _ e) (fun b us hb e => ⟨?_, (s24.trans s5) _ _ e⟩) _ _ _ Rt) (by omega)
          exact same_fresh s1 hb
    · obtain rfl : n = 0 := by omega
      have ln : leafF wd (W.drop (i + 1)) = none := by rw [hb]; rfl
      walk_at "go"
      refine ifd (fun h => ?_) (fun _ => ?_)
      · rw [hb] at h
        exact absurd h (by decide)
      show t_lleaf K Wx _ _ _
      exact pure_lleaf lh (fun _ H' s => k0 rfl H' (s1.trans s)) (fun t r e => by rw [ln] at e; cases e)
  rw [if_neg hb] at k0 k1
  refine iteF ?_
  walk_at "go"
  refine ifd (fun hg => ?_) (fun hg => ?_)
  rotate_left
  · rw [if_neg hg] at k0 k1
    refine iteF ?_
    show t_lleaf K Wx _ _ _
    refine pure_lleaf lh (fun e H' s => k0 e H' (s1.trans s)) (fun t r e a v H' s ha ne hr R => k1 t r e a v (i + 1) H' (s1.trans s) ha (lt ne) hr (TrX.mono (TrX.re (fun _ _ e => e) (fun b us hb e => ⟨same_fresh s1 hb, e⟩) _ _ _ R) (by omega)))
  have il : i < W.length := lt (by rw [hg]; decide)
  rw [if_pos hg] at k0 k1
  have ln : leafF wd (W.drop (i + 1)) = none := by rw [hg]; rfl
  have fall : (gatedF (subF n) (W.drop (i + 1)) = none) → t_lleaf K Wx { nx := fun _ H' => Q .non H', rt := Q } [some (.ref wl), some (.int (i : Int)), some (.int (dp : Int)), some (.str wd), none, none, none] H1 := fun e0 =>
    pure_lleaf lh (fun _ H' s => k0 e0 H' (s1.trans s)) (fun t r e => by rw [ln] at e; cases e)
  have hw1 := s1 _ _ hw
  have t2 : (W.drop (i + 1)).tail = W.drop (i + 2) := tail_drop
  have t3 : (W.drop (i + 2)).tail = W.drop (i + 3) := tail_drop
  have t4 : (W.drop (i + 3)).tail = W.drop (i + 4) := tail_drop
  have at_ : ∀ k, k < W.length → (W.map V.str)[k]? = some (.str ((W.drop k).headD "")) := fun k hk => by
    rw [List.getElem?_map, List.getElem?_eq_getElem hk, List.drop_eq_getElem_cons hk]
    rfl
  walk_at "go"
  refine ifd (fun hd => ?_) (fun hd => ?_)
  rotate_left
  · obtain rfl : n = 0 := by omega
    refine iteF ?_
    exact fall (gated_non _)
  obtain ⟨n, rfl⟩ : ∃ n', n = n' + 1 := ⟨n - 1, by omega⟩
  walk_at "go"
  refine e_lenL (SqL.of hw1) ?_
  rw [List.length_map]
  walk_at "go"
  refine ifd (fun h4 => ?_) (fun h4 => ?_)
  rotate_left
  · refine iteF ?_
    refine fall ?_
    have e4 : W.drop (i + 4) = [] := List.drop_eq_nil_of_le (by omega)
    cases q : gatedF (subF (n + 1)) (W.drop (i + 1)) with
    | none => rfl
    | some x =>
      obtain ⟨b, t, r, _, _, _, _, h4, _⟩ := gated_inv q
      rw [t2, t3, t4, e4, single_nil] at h4
      cases h4
  walk_at "go"
  refine e_ixL (SqL.of hw1) (at_of (j := i + 3) rfl (at_ _ (by omega))) ?_
  walk_at "go"
  refine ifd (fun h5 => ?_) (fun h5 => ?_)
  rotate_left
  · refine fall ?_
    cases q : gatedF (subF (n + 1)) (W.drop (i + 1)) with
    | none => rfl
    | some x =>
      obtain ⟨b, t, r, _, _, _, h3, _, _⟩ := gated_inv q
      rw [t2, t3] at h3
      exact absurd h3 h5
  rw [hs n rfl]
  have gd : gatedF (subF (n + 1)) (W.drop (i + 1)) = gatedF (some (singleF n)) (W.drop (i + 1)) := rfl
  rw [gd] at k0 k1
  have gnone : (∀ b t r, nameB ((W.drop (i + 1)).headD "") = true → numOf ((W.drop (i + 2)).headD "") = some b → b ≠ 0 → singleF n (W.drop (i + 4)) = some (t, r) → False) → gatedF (some (singleF n)) (W.drop (i + 1)) = none := fun z => by
    cases q : gatedF (some (singleF n)) (W.drop (i + 1)) with
    | none => rfl
    | some x =>
      obtain ⟨b, t, r, h1, h2, h3, _, h5, _⟩ := gated_inv q
      rw [t2, t3, t4] at h5
      rw [t2] at h2
      exact (z b t r h1 h2 h3 h5).elim
  have lx := head_len1 lw (i + 1)
  walk_at "go"
  refine ⟨wl, W, i + 4, dp + 1, rfl, hw1, by omega, by omega, lW, lw, fun e0 H2 s2 => ?_, fun t r ep a v j H2 s2 ha hj hr Rt => ?_⟩
  · have hw2 := s2 _ _ hw1
    walk_at "go"
    refine e_ixL (SqL.of hw2) (at_of (j := i + 2) rfl (at_ _ (by omega))) ?_
    walk_at "go"
    refine ⟨_, rfl, ?_⟩
    walk_at "go"
    refine ifd (fun _ => ?_) (fun h => absurd rfl h)
    walk_at "go"
    exact k0 (gnone fun b t r _ _ _ h => by rw [e0] at h; cases h) H2 (s1.trans s2)
  · have hw2 := s2 _ _ hw1
    walk_at "go"
    refine e_ixL (SqL.of hw2) (at_of (j := i + 2) rfl (at_ _ (by omega))) ?_
    walk_at "go"
    refine ⟨_, rfl, ?_⟩
    walk_at "go"
    refine ifd (fun h => nomatch h) (fun _ => ?_)
    cases eb : numOf ((W.drop (i + 2)).headD "") with
    | none =>
      walk_at "go"
      refine ifd (fun _ => ?_) (fun h => absurd (by decide) h)
      walk_at "go"
      exact k0 (gnone fun b t r _ h _ _ => by rw [eb] at h; cases h) H2 (s1.trans s2)
    | some b =>
      have rb := numOf_rng eb
      walk_at "go"
      refine ifd (fun hb1 => ?_) (fun hb1 => ?_)
      · walk_at "go"
        refine k0 (gnone fun b' t r _ h hb0 _ => ?_) H2 (s1.trans s2)
        rw [eb] at h
        cases h
        have hb1 : b < 1 := hb1
        omega
      · have hb1 : ¬ b < 1 := hb1
        walk_at "go"
        refine e_ixL (SqL.of hw2) (at_of (j := i + 1) rfl (at_ _ (by omega))) ?_
        walk_at "go"
        refine ⟨_, rfl, by omega, fun H3 s3 => ?_⟩
        have s23 := s2.trans s3
        cases hnm : nameB ((W.drop (i + 1)).headD "") with
        | false =>
          refine ⟨false, rfl, ?_⟩
          refine iteT ?_
          walk_at "go"
          exact k0 (gnone fun b t r h _ _ _ => by rw [hnm] at h; cases h) H3 (s1.trans s23)
        | true =>
          refine ⟨true, rfl, ?_⟩
          refine iteF ?_
          have hw3 := s3 _ _ hw2
          have ha3 := s3 _ _ ha
          walk_at "go"
          refine e_ixL (SqL.of hw3) (at_of (j := i + 1) rfl (at_ _ (by omega))) ?_
          walk_at "go"
          refine e_ixT (SqT.of ha3) (at_of (j := 0) rfl rfl) ?_
          walk_at "go"
          intro p1 hp1
          have s4 : Same H3 (upd H3 p1 (.tup [.str "gate", .str ((W.drop (i + 1)).headD ""), .int b, v])) := same1 hp1
          have g4 : upd H3 p1 (.tup [.str "gate", .str ((W.drop (i + 1)).headD ""), .int b, v]) p1 = some (.tup [.str "gate", .str ((W.drop (i + 1)).headD ""), .int b, v]) := upd_same
          show tCons _ _ _ (upd H3 p1 (.tup [.str "gate", .str ((W.drop (i + 1)).headD ""), .int b, v])) _
          generalize upd H3 p1 (.tup [.str "gate", .str ((W.drop (i + 1)).headD ""), .int b, v]) = H4 at s4 g4 ⊢
          walk_at "go"
          refine e_ixT (SqT.of (s4 _ _ ha3)) (at_of (j := 1) rfl rfl) ?_
          walk_at "go"
          intro p5 hp5
          have s5 : Same H4 (upd H4 p5 (.tup [.ref p1, .int (j : Int)])) := same1 hp5
          have rr : gatedF (some (singleF n)) (W.drop (i + 1)) = some (.mk (.gate ((W.drop (i + 1)).headD "") b t), r) := gated_run hnm (by rw [t2]; exact eb) (by omega) (by rw [t2, t3]; exact h5) (by rw [t2, t3, t4]; exact ep)
          refine k1 _ _ rr p5 (.ref p1) j _ (s1.trans (s23.trans (s4.trans s5))) upd_same hj hr ?_
          refine TrX.mono (n := 4 * n + 1 + 1) ⟨p1, v, rfl, s5 _ _ g4, TrX.re (fun c xs e => ((s3.trans s4).trans s5) _ _ e) (fun c us hc e => ⟨same_fresh s1 hc, ((s3.trans s4).trans s5) _ _ e⟩) _ _ _ Rt⟩ (by omega)
abbrev n__law_chain : List Str := ["_law_words", "_law_at", "_law_deep", "_law_rank", "_law_found", "_law_pieces"]
def t__law_chain (K : PySem.W.Frag) (W : WX) (S__law_chain : Sp) (S__law_single : Sp) : TS :=
  tSeq (tIfS (tTest (tOp rEq (tVar 3) (tC (.int 4)))) (tRet (tCW S__law_single W (tCons (tVar 0) (tCons (tVar 1) (tCons (tVar 2) tNil))))) tNext)
  (tSeq (tAsg (tCW S__law_chain W (tCons (tVar 0) (tCons (tVar 1) (tCons (tVar 2) (tCons (tOp rAddI (tVar 3) (tC (.int 1))) tNil))))) (gName 4))
  (tSeq (tAsg (tLst tNil) (gName 5))
  (tSeq (tWhile (tTest (tOp rNotN (tVar 4) (tC .non))) (tSeq (tDrop (tBM K "list" rAppend (tVar 5) (tCons (tOp (rIxT K) (tVar 4) (tC (.int 0))) tNil)))
  (tSeq (tIfS (tTest (tOp (rNeY K) (tSl (rSlL K) (tVar 0) (tPart (tOp (rIxT K) (tVar 4) (tC (.int 1)))) (tPart (tOp rAddI (tOp (rIxT K) (tVar 4) (tC (.int 1))) (tC (.int 1))))) (tLst (tCons (tOp (rIxL K) (tLst (tCons (tC (.str "")) (tCons (tC (.str "|")) (tCons (tC (.str "&")) (tCons (tC (.str "+")) tNil))))) (tVar 3)) tNil)))) (tSeq (tIfS (tTest (tOp rEq (tCB (rLenL K) (tCons (tVar 5) tNil)) (tC (.int 1)))) (tRet (tVar 4)) tNext)
  (tSeq (tIfS (tTest (tOp rGtI (tCB (rLenL K) (tCons (tVar 5) tNil)) (tC (.int 8)))) (tRet (tC .non)) tNext)
  (tRet (tTup (tCons (tTup (tCons (tOp (rIxL K) (tLst (tCons (tC (.str "")) (tCons (tC (.str "most")) (tCons (tC (.str "least")) (tCons (tC (.str "sum")) tNil))))) (tVar 3)) (tCons (tVar 5) tNil))) (tCons (tOp (rIxT K) (tVar 4) (tC (.int 1))) tNil)))))) tNext)
  (tAsg (tCW S__law_chain W (tCons (tVar 0) (tCons (tOp rAddI (tOp (rIxT K) (tVar 4) (tC (.int 1))) (tC (.int 1))) (tCons (tVar 2) (tCons (tOp rAddI (tVar 3) (tC (.int 1))) tNil))))) (gName 4)))))
  (tRet (tC .non)))))
theorem k_nil {k : Kd} : k.wd ≠ "" := by cases k <;> decide
def Kd.lw : Kd → Str
  | .most => "most"
  | .least => "least"
  | .sum => "sum"
theorem pure__law_chain4 {K : PySem.W.Frag} {p : PRd} {n m : Nat} {Sc : Sp} {vs : List V} {H : Hp} {Q : VK} {E : XK} {Wx : WX} (h : sp_lr p n m [.int 4] vs H Q E) : t__law_chain K Wx Sc (sp_lr p n m []) { nx := fun _ H' => Q .non H', rt := Q } (start n__law_chain vs) H := by
  obtain ⟨wl, W, i, dp, rfl, hw, hdp, hi, lW, lw, k0, k1⟩ := h
  show t__law_chain K Wx _ _ _ [some (.ref wl), some (.int (i : Int)), some (.int (dp : Int)), some (.int 4), none, none] H
  unfold t__law_chain
  walk_at "go"
  refine ifd (fun _ => ?_) (fun h => absurd rfl h)
  walk_at "go"
  exact ⟨wl, W, i, dp, rfl, hw, hdp, hi, lW, lw, k0, k1⟩
theorem pure__law_chain {K : PySem.W.Frag} {p : PRd} {n m : Nat} (k : Kd) {Ss : Sp} (hp : Shr p) {vs : List V} {H : Hp} {Q : VK} {E : XK} {Wx : WX} (h : sp_lr (lvF k p) n (m + 1) [.int k.rank] vs H Q E) :
    t__law_chain K Wx (sp_lr p n m [.int (k.rank + 1)]) Ss { nx := fun _ H' => Q .non H', rt := Q } (start n__law_chain vs) H := by
  obtain ⟨wl, W, i, dp, rfl, hw, hdp, hi, lW, lw, k0, k1⟩ := h
  have hm := mega
  show t__law_chain K Wx _ _ _ [some (.ref wl), some (.int (i : Int)), some (.int (dp : Int)), some (.int k.rank), none, none] H
  unfold t__law_chain
  have r4 : ¬ k.rank = 4 := by cases k <;> decide
  walk_at "go"
  refine ifd (fun h => absurd h r4) (fun _ => ?_)
  walk_at "go"
  refine ⟨wl, W, i, dp, rfl, hw, hdp, hi, lW, lw, fun e0 H1 s1 => ?_, fun t r ep a v j H1 s1 ha hj hr Rt => ?_⟩
  · walk_at "go"
    intro l hl
    have s2 : Same H1 (upd H1 l (.lst [])) := same1 hl
    walk_at "go"
    refine st_while (fun _ σ H' => σ = [some (.ref wl), some (.int (i : Int)), some (.int (dp : Int)), some (.int k.rank), some .non, some (.ref l)] ∧ Same H H') 0 ⟨rfl, s1.trans s2⟩ ?_
    rintro _ σ H2 ⟨rfl, s⟩
    walk_at "go"
    refine ifn (fun h => absurd rfl h) (fun _ => ?_)
    walk_at "go"
    exact k0 (lvF_none (by unfold chainedF; rw [e0])) H2 s
  · walk_at "go"
    intro l hl
    have s2 : Same H1 (upd H1 l (.lst [])) := same1 hl
    have lH : H l = none := same_fresh s1 hl
    have ech : chainedF p k.wd (W.drop i) = (match chainF p k.wd (r.length + 1) [t] r with
      | none => none
      | some (ts, r) => if 8 < ts.length then none else some (ts, r)) := by simp only [chainedF, ep] <;> rfl
    walk_at "go"
    -- the state: found is none (and the chain is none), or a tuple; pieces hold what was read ahead of it
    refine st_while (fun f σ H' => ∃ (vf : V) (ts : List Pt) (us : List V), σ = [some (.ref wl), some (.int (i : Int)), some (.int (dp : Int)), some (.int k.rank), some vf, some (.ref l)] ∧ Same H H' ∧ H' l = some (.lst us) ∧
      Paired (TrX m H' fun b => H b = none ∧ b ≠ l) ts us ∧ ts.length ≤ 200000 ∧ ((vf = .non ∧ chainF p k.wd (r.length + 1) [t] r = none) ∨ ∃ (t' : Pt) (a' : Addr) (v' : V) (j' : Nat), vf = .ref a' ∧ H' a' = some (.tup [v', .int (j' : Int)]) ∧ j' ≤ W.length ∧ TrX m H' (fun b => H b = none ∧ b ≠ l) t' v' ∧
        chainF p k.wd (f + 1) (ts ++ [t']) (W.drop j') = chainF p k.wd (r.length + 1) [t] r ∧ (W.drop j').length ≤ f ∧ ts.length + (W.drop j').length ≤ 150000)) r.length
      ⟨.ref a, [], [], rfl, s1.trans s2, upd_same, .nil, Nat.zero_le _, .inr ⟨t, a, v, j, rfl, s2 _ _ ha, hj, TrX.re (fun b xs e => s2 _ _ e) (fun b us hb e => ⟨⟨hb, ne_of_none e hl⟩, s2 _ _ e⟩) _ _ _ Rt, by rw [hr]; rfl, by rw [hr]; exact Nat.le_refl _, ?_⟩⟩ ?_
    · rw [List.length_drop]
      simp only [List.length_nil]
      omega
    rintro f σ H2 ⟨vf, ts, us, rfl, s, hus, P, lts, hh⟩
    rcases hh with ⟨rfl, hnone⟩ | ⟨t', a', v', j', rfl, ha', hj', Rt', hch, hfu, l15⟩
    · walk_at "go"
      refine ifn (fun h => absurd rfl h) (fun _ => ?_)
      walk_at "go"
      exact k0 (lvF_none (by rw [ech, hnone])) H2 s
    · walk_at "go"
      refine ifn (fun _ => ?_) (fun h => nomatch h)
      apply st_wt
      walk_at "go"
      have lus : us.length = ts.length := (Paired.length P).symm
      refine e_tyl hus ?_
      walk_at "go"
      refine e_ixT (SqT.of ha') (at_of (j := 0) rfl rfl) ?_
      walk_at "go"
      refine e_app hus (by omega) ?_
      have s3 : Same H (upd H2 l (.lst (us ++ [v']))) := same_mut s lH
      have g3 : upd H2 l (.lst (us ++ [v'])) l = some (.lst (us ++ [v'])) := upd_same
      have tk : ∀ b xs, H2 b = some (.tup xs) → upd H2 l (.lst (us ++ [v'])) b = some (.tup xs) := fun b xs e => upd_o e fun z => by
        rw [z, hus] at e
        cases e
      have lk : ∀ b xs, (H b = none ∧ b ≠ l) → H2 b = some (.lst xs) → (H b = none ∧ b ≠ l) ∧ upd H2 l (.lst (us ++ [v'])) b = some (.lst xs) := fun b xs hb e => ⟨hb, upd_o e hb.2⟩
      have ha3 := tk _ _ ha'
      have P3 : Paired (TrX m (upd H2 l (.lst (us ++ [v']))) fun b => H b = none ∧ b ≠ l) (ts ++ [t']) (us ++ [v']) := paired_snoc (Paired.mapP P fun _ _ z => TrX.re tk lk _ _ _ z) (TrX.re tk lk _ _ _ Rt')
      have Rt3 : TrX m (upd H2 l (.lst (us ++ [v']))) (fun b => H b = none ∧ b ≠ l) t' v' := TrX.re tk lk _ _ _ Rt'
      show tSeq _ _ _ _ (upd H2 l (.lst (us ++ [v'])))
      clear tk lk P Rt' ha' hus
      generalize upd H2 l (.lst (us ++ [v'])) = H3 at s3 g3 ha3 P3 Rt3 ⊢
      have hw3 := s3 _ _ hw
      walk_at "go"
      refine e_ixT (SqT.of ha3) (at_of (j := 1) rfl rfl) ?_
      walk_at "go"
      refine e_ixT (SqT.of ha3) (at_of (j := 1) rfl rfl) ?_
      walk_at "go"
      refine e_slL (SqL.of hw3) fun p2 hp2 => ?_
      rw [cut_one _ (by rw [List.length_map]; exact hj'), ← List.map_drop, ← List.map_take]
      have s4 : Same H3 (upd H3 p2 (.lst (((W.drop j').take 1).map V.str))) := same1 hp2
      have g4 : upd H3 p2 (.lst (((W.drop j').take 1).map V.str)) p2 = some (.lst (((W.drop j').take 1).map V.str)) := upd_same
      generalize upd H3 p2 (.lst (((W.drop j').take 1).map V.str)) = H4 at s4 g4 ⊢
      walk_at "go"
      intro p3 hp3
      have s5 : Same H4 (upd H4 p3 (.lst [V.str "", V.str "|", V.str "&", V.str "+"])) := same1 hp3
      walk_at "go"
      refine e_ixL (ys := [V.str "", V.str "|", V.str "&", V.str "+"]) (v := .str k.wd) (SqL.of upd_same) (by cases k <;> rfl) ?_
      walk_at "go"
      intro p4 hp4
      have s6 : Same (upd H4 p3 (.lst [V.str "", V.str "|", V.str "&", V.str "+"])) (upd (upd H4 p3 (.lst [V.str "", V.str "|", V.str "&", V.str "+"])) p4 (.lst [V.str k.wd])) := same1 hp4
      refine e_neY ((W.drop j').take 1) [k.wd] (by decide) (dp_strs (SqL.of (s6 _ _ (s5 _ _ g4)))) (dp_strs (ys := [k.wd]) (SqL.of upd_same)) ?_
      have s36 := s4.trans (s5.trans s6)
      generalize upd (upd H4 p3 (.lst [V.str "", V.str "|", V.str "&", V.str "+"])) p4 (.lst [V.str k.wd]) = H5 at s36 ⊢
      have s05 := s3.trans s36
      have g5 := s36 _ _ g3
      have ha5 := s36 _ _ ha3
      have P5 : Paired (TrX m H5 fun b => H b = none ∧ b ≠ l) (ts ++ [t']) (us ++ [v']) := Paired.mapP P3 fun _ _ z => TrX.re (fun b xs e => s36 _ _ e) (fun b xs hb e => ⟨hb, s36 _ _ e⟩) _ _ _ z
      have Rt5 : TrX m H5 (fun b => H b = none ∧ b ≠ l) t' v' := TrX.re (fun b xs e => s36 _ _ e) (fun b xs hb e => ⟨hb, s36 _ _ e⟩) _ _ _ Rt3
      clear P3 Rt3 s4 s5 s6 g4
      have lsn : (us ++ [v']).length = ts.length + 1 := by rw [List.length_append, lus]; rfl
      walk_at "go"
      refine ifn (fun h => ?_) (fun h => ?_)
      · have h : ¬ (W.drop j').headD "" = k.wd := fun z => h ((hd_eq k_nil).mpr z)
        have hch2 : chainF p k.wd (f + 1) (ts ++ [t']) (W.drop j') = some (ts ++ [t'], W.drop j') := if_neg h
        rw [hch2] at hch
        rw [← hch] at ech
        walk_at "go"
        refine e_lenL (SqL.of g5) ?_
        rw [lsn]
        walk_at "go"
        refine ifd (fun h1 => ?_) (fun h1 => ?_)
        · have l0 : ts = [] := List.eq_nil_of_length_eq_zero (by omega)
          rw [l0] at ech
          walk_at "go"
          exact k1 t' (W.drop j') (lvF_one ech) a' v' j' H5 s05 ha5 hj' rfl ((TrX.re (fun _ _ e => e) (fun b us hb e => ⟨hb.1, e⟩) _ _ _ Rt5).succ)
        · walk_at "go"
          refine e_lenL (SqL.of g5) ?_
          rw [lsn]
          walk_at "go"
          refine ifd (fun h8 => ?_) (fun h8 => ?_)
          · walk_at "go"
            refine k0 (lvF_none (ech.trans (if_pos ?_))) H5 s05
            rw [List.length_append]
            simp only [List.length_singleton]
            omega
          · have ec : chainedF p k.wd (W.drop i) = some (ts ++ [t'], W.drop j') := ech.trans (if_neg (by
              rw [List.length_append]
              simp only [List.length_singleton]
              omega))
            have lm := lvF_many ec (by rw [List.length_append]; simp only [List.length_singleton]; omega)
            walk_at "go"
            intro p6 hp6
            have s7 : Same H5 (upd H5 p6 (.lst [V.str "", V.str "most", V.str "least", V.str "sum"])) := same1 hp6
            walk_at "go"
            refine e_ixL (ys := [V.str "", V.str "most", V.str "least", V.str "sum"]) (v := .str k.word) (SqL.of upd_same) (by cases k <;> rfl) ?_
            generalize upd H5 p6 (.lst [V.str "", V.str "most", V.str "least", V.str "sum"]) = H6 at s7 ⊢
            walk_at "go"
            intro p7 hp7
            have s8 : Same H6 (upd H6 p7 (.tup [.str k.word, .ref l])) := same1 hp7
            have g8 : upd H6 p7 (.tup [.str k.word, .ref l]) p7 = some (.tup [.str k.word, .ref l]) := upd_same
            show tCons _ _ _ (upd H6 p7 (.tup [.str k.word, .ref l])) _
            generalize upd H6 p7 (.tup [.str k.word, .ref l]) = H7 at s8 g8 ⊢
            have s57 := s7.trans s8
            walk_at "go"
            refine e_ixT (SqT.of (s57 _ _ ha5)) (at_of (j := 1) rfl rfl) ?_
            walk_at "go"
            intro p8 hp8
            have s9 : Same H7 (upd H7 p8 (.tup [.ref p7, .int (j' : Int)])) := same1 hp8
            have s59 := s57.trans s9
            exact k1 _ _ lm p8 (.ref p7) j' _ (s05.trans s59) upd_same hj' rfl ⟨p7, l, us ++ [v'], rfl, s9 _ _ g8, s59 _ _ g5, lH, Paired.mapP P5 fun _ _ z => TrX.re (fun b xs e => s59 _ _ e) (fun b xs hb e => ⟨hb.1, s59 _ _ e⟩) _ _ _ z⟩
      · have h : (W.drop j').headD "" = k.wd := (hd_eq k_nil).mp h
        have hne : W.drop j' ≠ [] := fun z => by rw [z] at h; exact k_nil h.symm
        have hpos : 0 < (W.drop j').length := List.length_pos_iff.mpr hne
        have htl : (W.drop j').tail = W.drop (j' + 1) := tail_drop
        have hlt : (W.drop (j' + 1)).length + 1 = (W.drop j').length := by
          rw [List.length_drop, List.length_drop] at *
          omega
        have jl : j' < W.length := by
          rw [List.length_drop] at hpos
          omega
        obtain ⟨f, rfl⟩ : ∃ f', f = f' + 1 := ⟨f - 1, by omega⟩
        have hch2 : chainF p k.wd (f + 1 + 1) (ts ++ [t']) (W.drop j') = (match p (W.drop (j' + 1)) with
          | none => none
          | some (t, r) => chainF p k.wd (f + 1) ((ts ++ [t']) ++ [t]) r) := by rw [← htl]; exact if_pos h
        rw [hch2] at hch
        walk_at "go"
        refine e_ixT (SqT.of ha5) (at_of (j := 1) rfl rfl) ?_
        walk_at "go"
        refine ⟨wl, W, j' + 1, dp, rfl, s05 _ _ hw, hdp, jl, lW, lw, fun e0 H6 s6 => ?_, fun t2 r2 ep2 a2 v2 j2 H6 s6 ha2 hj2 hr2 Rt2 => ?_⟩
        · rw [e0] at hch
          walk_at "go"
          refine ⟨f, Nat.lt_succ_self _, .non, ts ++ [t'], us ++ [v'], rfl, s05.trans s6, s6 _ _ g5, Paired.mapP P5 fun _ _ z => TrX.re (fun b xs e => s6 _ _ e) (fun b xs hb e => ⟨hb, s6 _ _ e⟩) _ _ _ z, ?_, .inl ⟨rfl, hch.symm⟩⟩
          rw [List.length_append]
          simp only [List.length_singleton]
          omega
        · rw [ep2] at hch
          have hsh := hp _ _ _ ep2
          walk_at "go"
          refine ⟨f, Nat.lt_succ_self _, .ref a2, ts ++ [t'], us ++ [v'], rfl, s05.trans s6, s6 _ _ g5, Paired.mapP P5 fun _ _ z => TrX.re (fun b xs e => s6 _ _ e) (fun b xs hb e => ⟨hb, s6 _ _ e⟩) _ _ _ z, ?_, .inr ⟨t2, a2, v2, j2, rfl, ha2, hj2, TrX.re (fun b xs e => e) (fun b xs hb e => ⟨⟨same_fresh s05 hb, fun z => ?_⟩, e⟩) _ _ _ Rt2, ?_, ?_, ?_⟩⟩
          · rw [List.length_append]
            simp only [List.length_singleton]
            omega
          · rw [hr2]; exact hch
          · rw [hr2]; omega
          · rw [hr2, List.length_append]
            simp only [List.length_singleton]
            omega
          · rw [z, g5] at hb
            cases hb
/-! ### _law_written on what the law's own reader made -/
theorem pure__law_writtenX {K : PySem.W.Frag} {α : Type} {R : TRel α} {C : α → Prop} {w : α → Int → Str} {M : Nat} (g : Good R) (hM : M ≤ 100000) (hw : ∀ t f, C t → (w t f).length ≤ M) {vs : List V} {H : Hp} {Q : VK} {E : XK} {W : WX}
    (h : sp_written (NdR R) (NdOkX C) (wrNd w) vs H Q E) : t__law_written K W (sp_written R C w) { nx := fun _ H' => Q .non H', rt := Q } (start n__law_written vs) H := by
  obtain ⟨v, f, t, A, rfl, r, ok, k⟩ := h
  have hmg := mega
  show t__law_written K W _ _ [some v, some (.int f), none, none, none, none] H
  unfold t__law_written
  cases t with
  | num n =>
    obtain ⟨a, rfl, ha⟩ := r
    obtain ⟨n0, n1⟩ := ok
    walk_at "go"
    refine e_ixT (SqT.of ha) (at_of (j := 0) rfl rfl) ?_
    walk_at "go"
    refine ifd (fun _ => ?_) (fun h => absurd rfl h)
    walk_at "go"
    refine e_ixT (SqT.of ha) (at_of (j := 1) rfl rfl) ?_
    walk_at "go"
    refine e_strI ?_ (k _ (Same.refl _))
    have : n.natAbs < 2 ^ 10 := by omega
    by_cases z : n.natAbs = 0
    · rw [z]; decide
    · have := (Nat.log2_lt z).mpr this
      omega
  | nm x =>
    obtain ⟨a, rfl, ha⟩ := r
    walk_at "go"
    refine e_ixT (SqT.of ha) (at_of (j := 0) rfl rfl) ?_
    walk_at "go"
    refine ifd (fun h => absurd h (by decide)) (fun _ => ?_)
    walk_at "go"
    refine e_ixT (SqT.of ha) (at_of (j := 0) rfl rfl) ?_
    walk_at "go"
    refine ifd (fun _ => ?_) (fun h => absurd rfl h)
    walk_at "go"
    exact e_ixT (SqT.of ha) (at_of (j := 1) rfl rfl) (k _ (Same.refl _))
  | gate x b t =>
    obtain ⟨a, u, rfl, ha, ru⟩ := r
    obtain ⟨hx, b0, b1, ct⟩ := ok
    walk_at "go"
    refine e_ixT (SqT.of ha) (at_of (j := 0) rfl rfl) ?_
    walk_at "go"
    refine ifd (fun h => absurd h (by decide)) (fun _ => ?_)
    walk_at "go"
    refine e_ixT (SqT.of ha) (at_of (j := 0) rfl rfl) ?_
    walk_at "go"
    refine ifd (fun h => absurd h (by decide)) (fun _ => ?_)
    walk_at "go"
    refine e_ixT (SqT.of ha) (at_of (j := 0) rfl rfl) ?_
    walk_at "go"
    refine ifd (fun _ => ?_) (fun h => absurd rfl h)
    walk_at "go"
    have lx : x.length ≤ 6 := name_len hx
    have lb := small_str b (by omega) b1
    have l1 : ("[" : Str).length = 1 := rfl
    have l2 : (" " : Str).length = 1 := rfl
    have l3 : ("] " : Str).length = 2 := rfl
    have lw := hw t 4 ct
    refine e_ixT (SqT.of ha) (at_of (j := 1) rfl rfl) ?_
    refine e_addS (by omega) ?_
    walk_at "go"
    refine e_addS (by rw [len_app]; omega) ?_
    walk_at "go"
    refine e_ixT (SqT.of ha) (at_of (j := 2) rfl rfl) ?_
    walk_at "go"
    refine e_strI ?_ ?_
    · have : b.natAbs < 2 ^ 10 := by omega
      have := (Nat.log2_lt (by omega)).mpr this
      omega
    refine e_addS (by simp only [len_app]; omega) ?_
    walk_at "go"
    refine e_addS (by simp only [len_app]; omega) ?_
    walk_at "go"
    refine e_ixT (SqT.of ha) (at_of (j := 3) rfl rfl) ?_
    walk_at "go"
    refine ⟨u, 4, t, A, rfl, ru, ct, fun H' s => ?_⟩
    refine e_addS (by simp only [len_app]; omega) ?_
    exact k _ s
  | ch kd ts =>
    obtain ⟨a, l, us, rfl, ha, hl, hA, P⟩ := r
    obtain ⟨t2, t3, ct⟩ := ok
    have nw : ∀ z : Str, z = "number" ∨ z = "name" ∨ z = "gate" → ¬ kd.word = z := by
      rintro z (rfl | rfl | rfl) <;> cases kd <;> decide
    walk_at "go"
    refine e_ixT (SqT.of ha) (at_of (j := 0) rfl rfl) ?_
    walk_at "go"
    refine ifd (fun h => absurd h (nw _ (.inl rfl))) (fun _ => ?_)
    walk_at "go"
    refine e_ixT (SqT.of ha) (at_of (j := 0) rfl rfl) ?_
    walk_at "go"
    refine ifd (fun h => absurd h (nw _ (.inr (.inl rfl)))) (fun _ => ?_)
    walk_at "go"
    refine e_ixT (SqT.of ha) (at_of (j := 0) rfl rfl) ?_
    walk_at "go"
    refine ifd (fun h => absurd h (nw _ (.inr (.inr rfl)))) (fun _ => ?_)
    walk_at "go"
    intro d1 hd1
    refine ⟨upd_same, ?_⟩
    have s1 : Same H (upd (upd H d1 (.dK [])) d1 (dS (putAll [] [("most", V.int 1), ("least", V.int 2), ("sum", V.int 3)]))) := same_mut (same1 hd1) hd1
    walk_at "go"
    refine e_ixT (SqT.of (s1 _ _ ha)) (at_of (j := 0) rfl rfl) ?_
    refine k_dg (.of upd_same) (rank_get kd) ?_
    show tSeq _ _ _ _ (upd (upd H d1 (.dK [])) d1 (dS (putAll [] [("most", V.int 1), ("least", V.int 2), ("sum", V.int 3)])))
    generalize upd (upd H d1 (.dK [])) d1 (dS (putAll [] [("most", V.int 1), ("least", V.int 2), ("sum", V.int 3)])) = H1 at s1 ⊢
    walk_at "go"
    intro d2 hd2
    refine ⟨upd_same, ?_⟩
    have s2 : Same H1 (upd (upd H1 d2 (.dK [])) d2 (dS (putAll [] [("most", V.str " | "), ("least", V.str " & "), ("sum", V.str " + ")]))) := same_mut (same1 hd2) hd2
    walk_at "go"
    refine e_ixT (SqT.of (s2 _ _ (s1 _ _ ha))) (at_of (j := 0) rfl rfl) ?_
    refine k_dg (.of upd_same) (sign_get kd) ?_
    show tSeq _ _ _ _ (upd (upd H1 d2 (.dK [])) d2 (dS (putAll [] [("most", V.str " | "), ("least", V.str " & "), ("sum", V.str " + ")])))
    have s12 := s1.trans s2
    generalize upd (upd H1 d2 (.dK [])) d2 (dS (putAll [] [("most", V.str " | "), ("least", V.str " & "), ("sum", V.str " + ")])) = H2 at s12 ⊢
    clear s1 s2
    cases P with
    | nil => simp at t2
    | @cons t0 u0 ts us r0 P =>
      have lsg : kd.sign.length = 3 := by cases kd <;> rfl
      walk_at "go"
      refine e_ixT (SqT.of (s12 _ _ ha)) (at_of (j := 1) rfl rfl) ?_
      walk_at "go"
      refine e_ixL (SqL.of (s12 _ _ hl)) (at_of (j := 0) rfl rfl) ?_
      walk_at "go"
      refine ⟨u0, kd.rank + 1, t0, A, rfl, g.same s12 r0, ct _ List.mem_cons_self, fun H3 s3 => ?_⟩
      walk_at "go"
      refine e_ixT (SqT.of (s3 _ _ (s12 _ _ ha))) (at_of (j := 1) rfl rfl) ?_
      walk_at "go"
      refine e_slL (SqL.of (s3 _ _ (s12 _ _ hl))) fun c hc => ?_
      rw [show cutV (u0 :: us) (some 1) none = us from cut_from (u0 :: us) 1]
      have s4 := (s12.trans s3).trans (same1 (o := .lst us) hc)
      have hcc : upd H3 c (.lst us) c = some (.lst us) := upd_same
      generalize upd H3 c (.lst us) = H4 at s4 hcc ⊢
      simp only [List.length_cons] at t2 t3
      refine k_forL (fun i σ H' => ∃ v5, σ = [some (.ref a), some (.int f), some (.int kd.rank), some (.str kd.sign), some (.str ((ts.take i).foldl (fun o u => o ++ kd.sign ++ w u (kd.rank + 1)) (w t0 (kd.rank + 1)))), v5] ∧ Same H4 H' ∧ ((ts.take i).foldl (fun o u => o ++ kd.sign ++ w u (kd.rank + 1)) (w t0 (kd.rank + 1))).length ≤ M + i * (3 + M))
        (SqL.of hcc) ⟨none, rfl, Same.refl _, by simpa using hw t0 _ (ct _ List.mem_cons_self)⟩ (fun i σ H' _ ⟨_, _, s, _⟩ => SqL.of (s _ _ hcc)) ?_ ?_
      · rintro i x σ H5 hi ⟨v5, rfl, s5, lo⟩
        obtain ⟨t', ht', r'⟩ := paired_at P hi
        have hil := List.getElem?_eq_some_iff.mp ht'
        have htm : t' ∈ ts := List.mem_of_getElem? ht'
        have et : ts.take (i + 1) = ts.take i ++ [t'] := by rw [List.take_succ_eq_append_getElem hil.1, hil.2]
        have lw := hw t' (kd.rank + 1) (ct _ (List.mem_cons_of_mem _ htm))
        have hil1 := hil.1
        have i2 : i * (3 + M) ≤ 7 * (3 + M) := Nat.mul_le_mul_right _ (by omega)
        walk_at "go"
        refine e_addS (by omega) ?_
        walk_at "go"
        refine ⟨x, kd.rank + 1, t', A, rfl, g.same (s4.trans s5) r', ct _ (List.mem_cons_of_mem _ htm), fun H6 s6 => ?_⟩
        refine e_addS (by rw [len_app]; omega) ?_
        walk_at "go"
        refine ⟨some x, ?_, s5.trans s6, ?_⟩
        · rw [et, List.foldl_append]
          rfl
        · rw [et, List.foldl_append, Nat.succ_mul]
          show ((_ ++ kd.sign) ++ w t' (kd.rank + 1)).length ≤ _
          rw [len_app, len_app]
          omega
      · rintro σ H5 ⟨v5, rfl, s5, lo⟩
        have lu : us.length = ts.length := (Paired.length P).symm
        rw [lu] at lo ⊢
        rw [List.take_of_length_le (Nat.le_refl _)] at lo
        rw [List.take_of_length_le (Nat.le_refl _)]
        have i2 : ts.length * (3 + M) ≤ 7 * (3 + M) := Nat.mul_le_mul_right _ (by omega)
        walk_at "go"
        have l1 : ("(" : Str).length = 1 := rfl
        have l2 : (")" : Str).length = 1 := rfl
        have kk := k _ (s4.trans s5)
        refine ifd (fun hlt => ?_) (fun hge => ?_)
        · walk_at "go"
          refine e_addS (by omega) ?_
          walk_at "go"
          refine e_addS (by rw [len_app]; omega) ?_
          have e : wrNd w (.ch kd (t0 :: ts)) f = "(" ++ wrOut w kd (t0 :: ts) ++ ")" := if_pos hlt
          rw [e] at kk
          exact kk
        · walk_at "go"
          have e : wrNd w (.ch kd (t0 :: ts)) f = wrOut w kd (t0 :: ts) := if_neg hge
          rw [e] at kk
          exact kk
theorem writX_in {K : PySem.W.Frag} {n : Nat} {vs : List V} {H : Hp} {Q : VK} {E : XK} {W : WX} (h : sp_written (TrX (n + 1)) (PtT (n + 1)) (wrX (n + 1)) vs H Q E) : t__law_written K W (sp_written (TrX n) (PtT n) (wrX n)) { nx := fun _ H' => Q .non H', rt := Q } (start n__law_written vs) H := by
  obtain ⟨v, f, ⟨d⟩, A, rfl, r, ok, k⟩ := h
  exact pure__law_writtenX (M := 40000) (R := TrX n) (C := PtT n) (w := wrX n) (E := E) (TrX.good n) (by omega) (fun t f c => by
    have := len_wrX n t f c.1
    have := c.2
    omega) ⟨v, f, d, A, rfl, r, ok.nd, k⟩
theorem emb_nd {α : Type} {C : List Str → α → Prop} {ys : List Str} {f : α → Pt} {m : Nat} (hy : ∀ x ∈ ys, nameB x = true) (hf : ∀ t, C ys t → PtOk m (f t)) {t : Nd α} (h : NdOk C ys t) : PtOk (m + 1) (embNd f t) := by
  cases t with
  | num n => exact h
  | nm x => exact hy x h
  | gate x b t => exact ⟨hy x h.1, h.2.1, h.2.2.1, hf t h.2.2.2⟩
  | ch k ts =>
    refine ⟨by rw [List.length_map]; exact h.1, by rw [List.length_map]; have := h.2.1; omega, fun u hu => ?_⟩
    obtain ⟨t, ht, rfl⟩ := List.mem_map.mp hu
    exact hf t (h.2.2 t ht)
theorem emb_ok {ys : List Str} (hy : ∀ x ∈ ys, nameB x = true) : ∀ (n : Nat) (t : TrD n), TreeOk n ys t → PtOk (n + 1) (emb n t)
  | 0, _, h => emb_nd (C := fun _ _ => False) hy (fun e => e.elim) h
  | n + 1, _, h => emb_nd hy (emb_ok hy n) h
theorem embNd_tr {α : Type} {R : TRel α} {f : α → Pt} {n : Nat} (hf : ∀ H A t v, R H A t v → TrX n H A (f t) v) {H : Hp} {A : Addr → Prop} {t : Nd α} {v : V} (h : NdR R H A t v) : TrX (n + 1) H A (embNd f t) v := by
  cases t with
  | num n => exact h
  | nm x => exact h
  | gate x b t =>
    obtain ⟨a, u, e, h, q⟩ := h
    exact ⟨a, u, e, h, hf _ _ _ _ q⟩
  | ch k ts =>
    obtain ⟨a, l, us, e, h, hl, ha, q⟩ := h
    refine ⟨a, l, us, e, h, hl, ha, ?_⟩
    clear h hl
    induction q with
    | nil => exact .nil
    | cons r _ ih => exact .cons (hf _ _ _ _ r) ih
theorem emb_tr : ∀ (n : Nat) {H : Hp} {A : Addr → Prop} {t : TrD n} {v : V}, TreeR n H A t v → TrX (n + 1) H A (emb n t) v
  | 0, _, _, _, _, h => embNd_tr (R := noR) (fun _ _ e => e.elim) h
  | n + 1, _, _, _, _, h => embNd_tr (fun _ _ _ _ z => emb_tr n z) h
theorem sum_le {α : Type} (nd : α → Nat) (B : Nat) : ∀ ts : List α, (∀ t ∈ ts, nd t ≤ B) → (ts.map nd).sum ≤ ts.length * B
  | [], _ => by simp
  | t :: ts, h => by
    have := sum_le nd B ts fun u hu => h u (List.mem_cons_of_mem _ hu)
    have := h t List.mem_cons_self
    rw [List.map_cons, List.sum_cons, List.length_cons, Nat.succ_mul]
    omega
def ndB : Nat → Nat
  | 0 => 1
  | n + 1 => 1 + 3 * ndB n
theorem emb_nodes {ys : List Str} : ∀ (n : Nat) (t : TrD n), TreeOk n ys t → nodesX (n + 1) (emb n t) ≤ ndB n
  | 0, t, h => by
    cases t with
    | num _ => exact Nat.le_refl _
    | nm _ => exact Nat.le_refl _
    | gate _ _ t => exact t.elim
    | ch k ts =>
      have : 2 ≤ ts.length := h.1
      cases ts with
      | nil => simp at this
      | cons e _ => exact e.elim
  | n + 1, t, h => by
    have b : 1 ≤ ndB n := by cases n <;> unfold ndB <;> omega
    have h : NdOk (TreeOk n) ys t := h
    show _ ≤ 1 + 3 * ndB n
    cases t with
    | num _ => show 1 ≤ _; omega
    | nm _ => show 1 ≤ _; omega
    | gate x b t =>
      have := emb_nodes n t h.2.2.2
      show 1 + nodesX (n + 1) (emb n t) ≤ _
      omega
    | ch k ts =>
      show 1 + ((ts.map (emb n)).map (nodesX (n + 1))).sum ≤ _
      have := sum_le (nodesX (n + 1)) (ndB n) (ts.map (emb n)) fun u hu => by
        obtain ⟨t, ht, rfl⟩ := List.mem_map.mp hu
        exact emb_nodes n t (h.2.2 t ht)
      rw [List.length_map] at this
      have q : ts.length * ndB n ≤ 3 * ndB n := Nat.mul_le_mul_right _ h.2.1
      omega
/-- the law's tree, to be written -/
theorem emb_T {ys : List Str} (hy : ∀ x ∈ ys, nameB x = true) {n : Nat} (hn : n ≤ 3) {t : TrD n} (h : TreeOk n ys t) : PtT 12 (emb n t) := by
  have o := emb_ok hy n t h
  have l := emb_nodes n t h
  have o12 := o.mono (show n + 1 ≤ 12 by omega)
  refine ⟨o12, ?_⟩
  rw [nodes_mono o (by omega)]
  have : ndB n ≤ 40 := by
    match n, hn with
    | 0, _ => decide
    | 1, _ => decide
    | 2, _ => decide
    | 3, _ => decide
  omega
/-! ### try with clauses that bind no name -/
def tTryM (K : PySem.W.Frag) (l : List (Value × (Addr → Value → Option Addr → TS))) (tb : WX → TS) (W : WX) : TS := fun D σ H => tb (wMany K W D l) D σ H
theorem st_tryM {K : PySem.W.Frag} {l : List (Value × (Addr → Value → Option Addr → TS))} {tb : WX → TS} {W : WX} {D : Ends} {σ : St} {H : Hp} (h : tb (wMany K W D l) D σ H) : tTryM K l tb W D σ H := h
/-- a clause that takes what is raised; one that does not -/
theorem w_yes {K : PySem.W.Frag} {W : WX} {D : Ends} {c cls : Value} {ts : Addr → Value → Option Addr → TS} {r : List (Value × (Addr → Value → Option Addr → TS))} {d : Option Addr} {σ : St} {H : Hp} (e : PySem.W.exmOne K cls c = some true) (h : ∀ a, H a = none → ts a cls d D σ H) : wMany K W D ((c, ts) :: r) cls d σ H :=
  ⟨true, e, (fun _ => h), (fun z => nomatch z)⟩
theorem w_no {K : PySem.W.Frag} {W : WX} {D : Ends} {c cls : Value} {ts : Addr → Value → Option Addr → TS} {r : List (Value × (Addr → Value → Option Addr → TS))} {d : Option Addr} {σ : St} {H : Hp} (e : PySem.W.exmOne K cls c = some false) (h : wMany K W D r cls d σ H) : wMany K W D ((c, ts) :: r) cls d σ H :=
  ⟨false, e, (fun z => nomatch z), fun _ => h⟩
theorem st_par {i j : Nat} {ta : TA} {D : Ends} {σ : St} {H : Hp} (h : ta σ H fun vs H1 => ∃ v w, vs = [v, w] ∧ D.nx ((σ.set i (some v)).set j (some w)) H1) : tPar i j ta D σ H := h
local macro_rules | `(tactic| walk_at "g1") => `(tactic| apply_rules (transparency := .reducible) (maxDepth := 1000000) -symm -exfalso only [st_tryM, st_par])
/-! ### _law_parted: a text's words, or None -/
/-- what stands at an end of a list -/
theorem at_last {ys : List V} {x : V} : atI (ys ++ [x]) (-1) = some x := by
  unfold atI ixN
  rw [List.length_append, List.length_singleton, if_neg (by omega), if_pos (by omega), show ((-1 : Int) + ((ys.length + 1 : Nat) : Int)).toNat = ys.length by omega]
  show (ys ++ [x])[ys.length]? = some x
  rw [List.getElem?_append_right (Nat.le_refl _), Nat.sub_self]
  rfl
theorem ix_last {ys : List V} {x : V} : ixN (ys ++ [x]).length (-1) = some ys.length := by
  unfold ixN
  rw [List.length_append, List.length_singleton, if_neg (by omega), if_pos (by omega), show ((-1 : Int) + ((ys.length + 1 : Nat) : Int)).toNat = ys.length by omega]
theorem set_last {ys : List V} {x y : V} : (ys ++ [x]).set ys.length y = ys ++ [y] := by
  rw [List.set_append_right _ _ (Nat.le_refl _), Nat.sub_self]
  rfl
/-- which kind a sign is of -/
def kindC (c : Nat) : Str := if c ∈ LT then "a" else if c ∈ FG then "0" else ⟨#[c]⟩
def partL : List Nat → List Str → Str → Option (List Str)
  | [], acc, _ => some acc
  | c :: r, acc, k => if c ∈ LT ∨ c ∈ FG ∨ c ∈ SG ∨ c = 32 then
      (if (kindC c = "a" ∨ kindC c = "0") ∧ kindC c = k then partL r (acc.dropLast ++ [acc.getLastD "" ++ ⟨#[c]⟩]) (kindC c) else if kindC c ≠ " " then partL r (acc ++ [⟨#[c]⟩]) (kindC c) else partL r acc (kindC c)) else none
theorem kind_lt {c : Nat} (h : c ∈ LT) : kindC c = "a" := if_pos h
theorem kind_fg {c : Nat} (h : c ∈ FG) : kindC c = "0" := by
  unfold kindC
  rw [if_neg (fg_not c h).1, if_pos h]
theorem kind_sg {c : Nat} (h : c ∈ SG) : kindC c = ⟨#[c]⟩ ∧ kindC c ≠ "a" ∧ kindC c ≠ "0" ∧ kindC c ≠ " " := by
  have k : ∀ c ∈ SG, kindC c = ⟨#[c]⟩ ∧ kindC c ≠ "a" ∧ kindC c ≠ "0" ∧ kindC c ≠ " " := by decide +kernel
  exact k c h
theorem kind_sp : kindC 32 = " " := by decide +kernel
theorem str_app (a : List Nat) (c : Nat) : ((⟨a.toArray⟩ : Str) ++ ⟨#[c]⟩) = ⟨(a ++ [c]).toArray⟩ := by
  refine str_eq ?_
  show (a.toArray ++ #[c]).toList = _
  simp
/-- along a run -/
theorem part_run {kd : Str} (hk : kd = "a" ∨ kd = "0") {r : List Nat} {acc : List Str} : ∀ (x w : List Nat), (∀ c ∈ x, kindC c = kd ∧ (c ∈ LT ∨ c ∈ FG)) → partL (x ++ r) (acc ++ [⟨w.toArray⟩]) kd = partL r (acc ++ [⟨(w ++ x).toArray⟩]) kd
  | [], w, _ => by rw [List.nil_append, List.append_nil]
  | c :: x, w, h => by
    obtain ⟨hc, hm⟩ := h c List.mem_cons_self
    show (if c ∈ LT ∨ c ∈ FG ∨ c ∈ SG ∨ c = 32 then _ else none) = _
    rw [if_pos (by rcases hm with z | z <;> simp [z]), if_pos (by rw [hc]; exact ⟨hk, rfl⟩), hc, List.dropLast_concat, List.getLastD_concat, str_app]
    rw [show w ++ c :: x = (w ++ [c]) ++ x by simp]
    exact part_run hk x (w ++ [c]) fun d hd => h d (List.mem_cons_of_mem _ hd)
theorem part_new {kd : Str} (hk : kd = "a" ∨ kd = "0") {r : List Nat} {acc : List Str} {k : Str} {x : List Nat} (hx : x ≠ []) (h : ∀ c ∈ x, kindC c = kd ∧ (c ∈ LT ∨ c ∈ FG)) (hn : k ≠ kd) : partL (x ++ r) acc k = partL r (acc ++ [⟨x.toArray⟩]) kd := by
  cases x with
  | nil => exact absurd rfl hx
  | cons c x =>
    obtain ⟨hc, hm⟩ := h c List.mem_cons_self
    have ns : kd ≠ " " := by rcases hk with z | z <;> rw [z] <;> decide
    show (if c ∈ LT ∨ c ∈ FG ∨ c ∈ SG ∨ c = 32 then _ else none) = _
    rw [if_pos (by rcases hm with z | z <;> simp [z]), if_neg (by rw [hc]; exact fun z => hn z.2.symm), if_pos (by rw [hc]; exact ns), hc]
    exact part_run (acc := acc) hk x [c] fun d hd => h d (List.mem_cons_of_mem _ hd)
theorem part_tok {l : List Nat} {ws : List Str} {ok : Bool} (h : TokE l ws ok) : ∀ (acc : List Str) (k : Str), (∀ c, l.head? = some c → (c ∈ LT → k ≠ "a") ∧ (c ∈ FG → k ≠ "0")) → partL l acc k = if ok = true then some (acc ++ ws) else none := by
  induction h with
  | nil =>
    intro acc k _
    rw [if_pos rfl, List.append_nil]
    rfl
  | bad h1 h2 h3 h4 =>
    intro acc k _
    rw [if_neg (by decide)]
    exact if_neg (by rintro (z | z | z | z) <;> contradiction)
  | @sp r ws ok _ ih =>
    intro acc k _
    have e : partL (32 :: r) acc k = partL r acc " " := by
      show (if 32 ∈ LT ∨ 32 ∈ FG ∨ 32 ∈ SG ∨ 32 = 32 then _ else none) = _
      rw [if_pos (.inr (.inr (.inr rfl))), kind_sp, if_neg (fun z => z.1.elim (by decide) (by decide)), if_neg (by decide)]
    rw [e]
    exact ih acc " " fun c _ => ⟨fun _ => by decide, fun _ => by decide⟩
  | @sg c r ws ok hc _ ih =>
    intro acc k _
    obtain ⟨k1, k2, k3, k4⟩ := kind_sg hc
    have e : partL (c :: r) acc k = partL r (acc ++ [⟨#[c]⟩]) (kindC c) := by
      show (if c ∈ LT ∨ c ∈ FG ∨ c ∈ SG ∨ c = 32 then _ else none) = _
      rw [if_pos (.inr (.inr (.inl hc))), if_neg (fun z => z.1.elim k2 k3), if_pos k4]
    rw [e, ih _ _ fun c _ => ⟨fun _ => k2, fun _ => k3⟩, List.append_assoc]
    rfl
  | @lt x r ws ok hx hl hr _ ih =>
    intro acc k hk
    cases x with
    | nil => exact absurd rfl hx
    | cons c x =>
      have hn := (hk c rfl).1 (hl c List.mem_cons_self)
      rw [part_new (.inl rfl) (by simp) (fun d hd => ⟨kind_lt (hl d hd), .inl (hl d hd)⟩) hn]
      rw [ih _ _ fun d hd => ⟨fun z => absurd z (hr d hd), fun _ => by decide⟩, List.append_assoc]
      rfl
  | @fg x r ws ok hx hl hr _ ih =>
    intro acc k hk
    cases x with
    | nil => exact absurd rfl hx
    | cons c x =>
      have hn := (hk c rfl).2 (hl c List.mem_cons_self)
      rw [part_new (.inr rfl) (by simp) (fun d hd => ⟨kind_fg (hl d hd), .inr (hl d hd)⟩) hn]
      rw [ih _ _ fun d hd => ⟨fun _ => by decide, fun z => absurd z (hr d hd)⟩, List.append_assoc]
      rfl
def sp_parted (_ : PySem.W.Frag) : Sp := fun vs H Q _ => ∃ (z : Str) (ws : List Str) (ok : Bool), vs = [.str z] ∧ z.length ≤ 100000 ∧ TokE z.cps.toList ws ok ∧ (ok = false → ∀ H', Same H H' → Q .non H') ∧ (ok = true → ∀ l H', Same H H' → H' l = some (.lst (ws.map V.str)) → Q (.ref l) H')
theorem ln__law_parted {K : PySem.W.Frag} {vs : List V} {H : Hp} {Q : VK} {E : XK} (h : sp_parted K vs H Q E) : vs.length = 1 := by
  obtain ⟨_, _, _, rfl, _⟩ := h
  rfl
abbrev n__law_parted : List Str := ["_law_text", "_law_out", "_law_kind", "_law_sign", "_law_now"]
def t__law_parted (K : PySem.W.Frag) (W : WX) : TS :=
  tSeq (tPar 1 2 (tCons (tLst tNil) (tCons (tC (.str "")) tNil)))
  (tSeq (tFor (iStr (tVar 0)) (gName 3) (tSeq (tAsg (tIf (tTest (tOp rInS (tVar 3) (tC (.str "abcdefghijklmnopqrstuvwxyz")))) (tC (.str "a")) (tIf (tTest (tOp rInS (tVar 3) (tC (.str "0123456789")))) (tC (.str "0")) (tVar 3))) (gName 4))
  (tSeq (tIfS (tTest (tOp (rIn K true) (tVar 4) (tTup (tCons (tC (.str "a")) (tCons (tC (.str "0")) (tCons (tC (.str " ")) (tCons (tC (.str "+")) (tCons (tC (.str "&")) (tCons (tC (.str "|")) (tCons (tC (.str "(")) (tCons (tC (.str ")")) (tCons (tC (.str "[")) (tCons (tC (.str "]")) tNil))))))))))))) (tRet (tC .non)) tNext)
  (tSeq (tIfS (tAnd (tTest (tOp (rIn K false) (tVar 4) (tTup (tCons (tC (.str "a")) (tCons (tC (.str "0")) tNil))))) (tTest (tOp rEq (tVar 4) (tVar 2)))) (tAsg (tOp rAddS (tOp (rIxL K) (tVar 1) (tUn rNeg (tC (.int 1)))) (tVar 3)) (gSub (tVar 1) (tUn rNeg (tC (.int 1))) rSetL)) (tIfS (tTest (tOp rNe (tVar 4) (tC (.str " ")))) (tDrop (tBM K "list" rAppend (tVar 1) (tCons (tVar 3) tNil))) tNext))
  (tAsg (tVar 4) (gName 2))))))
  (tRet (tVar 1)))
theorem e_ninU {K : PySem.W.Frag} {H : Hp} {Q : VK} {p : Addr} {x : Str} {ys : List Str} (h : SqT K H p (ys.map V.str)) (q : Q (.bl (!decide (x ∈ ys))) H) : rIn K true (.str x) (.ref p) H Q := ⟨p, _, rfl, .inr h, rfl, flat_strs ys, by
  rw [inV_strs]
  exact q⟩
theorem e_inU {K : PySem.W.Frag} {H : Hp} {Q : VK} {p : Addr} {x : Str} {ys : List Str} (h : SqT K H p (ys.map V.str)) (q : Q (.bl (decide (x ∈ ys))) H) : rIn K false (.str x) (.ref p) H Q := ⟨p, _, rfl, .inr h, rfl, flat_strs ys, by
  rw [inV_strs]
  exact q⟩
def AK : List Str := ["a", "0"]
def KS : List Str := ["a", "0", " ", "+", "&", "|", "(", ")", "[", "]"]
theorem kind_in (c : Nat) : kindC c ∈ KS ↔ (c ∈ LT ∨ c ∈ FG ∨ c ∈ SG ∨ c = 32) := by
  have e : KS = [97, 48, 32, 43, 38, 124, 40, 41, 91, 93].map fun c => (⟨#[c]⟩ : Str) := by decide +kernel
  have k : ∀ c ∈ [97, 48, 32, 43, 38, 124, 40, 41, 91, 93], (c ∈ LT ∨ c ∈ FG ∨ c ∈ SG ∨ c = 32) := by decide +kernel
  have k2 : ∀ c ∈ SG, kindC c ∈ KS := by decide +kernel
  constructor
  · intro h
    by_cases h1 : c ∈ LT
    · exact .inl h1
    · by_cases h2 : c ∈ FG
      · exact .inr (.inl h2)
      · have q : kindC c = ⟨#[c]⟩ := by
          unfold kindC
          rw [if_neg h1, if_neg h2]
        rw [q, e] at h
        obtain ⟨d, hd, ed⟩ := List.mem_map.mp h
        have ed : d = c := by
          have := congrArg (fun s : Str => s.cps.toList) ed
          exact (List.cons.inj this).1
        exact ed ▸ k d hd
  · rintro (h | h | h | rfl)
    · rw [kind_lt h]; decide
    · rw [kind_fg h]; decide
    · exact k2 c h
    · rw [kind_sp]; decide
theorem kind_te {σ : St} {H1 : Hp} {G : VK} {c : Nat} {a0 a1 a2 a4 : Option V} (h3 : σ = [a0, a1, a2, some (.str ⟨#[c]⟩), a4]) (g : G (.str (kindC c)) H1) : (if decide (c ∈ LT) = true then tC (.str "a") σ H1 G else tIf (tTest (tOp rInS (tVar 3) (tC (.str "0123456789")))) (tC (.str "0")) (tVar 3) σ H1 G) := by
  subst h3
  have eFG : ("0123456789" : Str).cps.toList = FG := rfl
  refine ifd (fun h1 => ?_) (fun h1 => ?_)
  · rw [kind_lt h1] at g
    exact g
  · walk_at "go"
    rw [eFG]
    refine ifd (fun h2 => ?_) (fun h2 => ?_)
    · walk_at "go"
      rw [kind_fg h2] at g
      exact g
    · walk_at "go"
      unfold kindC at g
      rw [if_neg h1, if_neg h2] at g
      exact g
def t_pels (K : PySem.W.Frag) : TS := tIfS (tTest (tOp rNe (tVar 4) (tC (.str " ")))) (tDrop (tBM K "list" rAppend (tVar 1) (tCons (tVar 3) tNil))) tNext
theorem pure_pels {K : PySem.W.Frag} {D : Ends} {H : Hp} {l : Addr} {a0 a2 : Option V} {x3 : V} {kd : Str} {xs : List V} (hl : H l = some (.lst xs)) (sm : xs.length < sizeLine) (h1 : kd = " " → D.nx [a0, some (.ref l), a2, some x3, some (.str kd)] H) (h2 : kd ≠ " " → D.nx [a0, some (.ref l), a2, some x3, some (.str kd)] (upd H l (.lst (xs ++ [x3])))) : t_pels K D [a0, some (.ref l), a2, some x3, some (.str kd)] H := by
  unfold t_pels
  walk_at "go"
  refine ifn (fun h => ?_) (fun h => ?_)
  · walk_at "go"
    refine e_tyl hl ?_
    walk_at "go"
    refine e_app hl sm ?_
    walk_at "go"
    exact h2 h
  · walk_at "go"
    exact h1 h
theorem pure__law_parted {K : PySem.W.Frag} {vs : List V} {H : Hp} {Q : VK} {E : XK} {W : WX} (h : sp_parted K vs H Q E) : t__law_parted K W { nx := fun _ H' => Q .non H', rt := Q } (start n__law_parted vs) H := by
  obtain ⟨z, ws, ok, rfl, hz, hT, k0, k1⟩ := h
  have hm := mega
  show t__law_parted K W _ [some (.str z), none, none, none, none] H
  unfold t__law_parted
  have eLT : ("abcdefghijklmnopqrstuvwxyz" : Str).cps.toList = LT := rfl
  have eFG : ("0123456789" : Str).cps.toList = FG := rfl
  have pt := part_tok hT [] "" fun c _ => ⟨fun _ => by decide, fun _ => by decide⟩
  rw [List.nil_append] at pt
  walk_at "go"
  intro D hD
  walk_at "go"
  refine ⟨_, _, rfl, ?_⟩
  have s1 : Same H (upd H D (.lst [])) := same1 hD
  walk_at "go"
  refine k_forS (z := z) (fun i σ H' => ∃ (acc : List Str) (kd : Str) (x3 x4 : Option V), σ = [some (.str z), some (.ref D), some (.str kd), x3, x4] ∧ Same H H' ∧ H' D = some (.lst (acc.map V.str)) ∧ acc.length ≤ i ∧ i ≤ z.length ∧ (∀ w ∈ acc, w.length ≤ i) ∧ (kd = "a" ∨ kd = "0" → acc ≠ []) ∧ partL (z.cps.toList.drop i) acc kd = partL z.cps.toList [] "")
    ⟨[], "", none, none, rfl, s1, upd_same, Nat.zero_le _, Nat.zero_le _, by simp, by rintro (h | h) <;> exact absurd h (by decide), rfl⟩ ?_ ?_
  · rintro i c σ H1 hc ⟨acc, kd, x3, x4, rfl, s2, hac, la, li, lw, hne, hp⟩
    have hil := List.getElem?_eq_some_iff.mp hc
    have il : i < z.length := by
      have := hil.1
      rw [len_z] at this
      exact this
    rw [List.drop_eq_getElem_cons hil.1, hil.2] at hp
    have hp : (if c ∈ LT ∨ c ∈ FG ∨ c ∈ SG ∨ c = 32 then
      (if (kindC c = "a" ∨ kindC c = "0") ∧ kindC c = kd then partL (z.cps.toList.drop (i + 1)) (acc.dropLast ++ [acc.getLastD "" ++ ⟨#[c]⟩]) (kindC c) else if kindC c ≠ " " then partL (z.cps.toList.drop (i + 1)) (acc ++ [⟨#[c]⟩]) (kindC c) else partL (z.cps.toList.drop (i + 1)) acc (kindC c)) else none) = partL z.cps.toList [] "" := hp
    walk_at "go"
    rw [eLT]
    refine kind_te rfl ?_
    walk_at "go"
    intro q hq
    have s3 : Same H1 (upd H1 q (.tup (KS.map V.str))) := same1 hq
    refine e_ninU (ys := KS) (SqT.of upd_same) ?_
    walk_at "go"
    refine ifn (fun h => ?_) (fun h => ?_)
    · walk_at "go"
      rw [if_neg fun z => h ((kind_in c).mpr z), pt] at hp
      cases ok with
      | true => cases hp
      | false => exact k0 rfl _ (s2.trans s3)
    rw [if_pos ((kind_in c).mp h)] at hp
    have hac2 := s3 _ _ hac
    have s23 := s2.trans s3
    show tSeq _ _ _ _ (upd H1 q (.tup (KS.map V.str)))
    generalize upd H1 q (.tup (KS.map V.str)) = H2 at hac2 s23 ⊢
    clear hac s3 s2
    walk_at "go"
    intro q2 hq2
    have s4 : Same H2 (upd H2 q2 (.tup [V.str "a", V.str "0"])) := same1 hq2
    refine e_inU (ys := AK) (SqT.of upd_same) ?_
    have hac3 := s4 _ _ hac2
    have s24 := s23.trans s4
    generalize upd H2 q2 (.tup [V.str "a", V.str "0"]) = H3 at hac3 s24 ⊢
    have lac : (acc.map V.str).length = acc.length := List.length_map _
    have els : ¬ ((kindC c = "a" ∨ kindC c = "0") ∧ kindC c = kd) → t_pels K ⟨fun σ' H' => tAsg (tVar 4) (gName 2) ⟨fun σ H' => ∃ (acc : List Str) (kd : Str) (x3 x4 : Option V), σ = [some (.str z), some (.ref D), some (.str kd), x3, x4] ∧ Same H H' ∧ H' D = some (.lst (acc.map V.str)) ∧ acc.length ≤ i + 1 ∧ i + 1 ≤ z.length ∧ (∀ w ∈ acc, w.length ≤ i + 1) ∧ (kd = "a" ∨ kd = "0" → acc ≠ []) ∧ partL (z.cps.toList.drop (i + 1)) acc kd = partL z.cps.toList [] "", Q, tRet (tVar 1) { nx := fun x H' => Q V.non H', rt := Q }, fun σ H' => ∃ (acc : List Str) (kd : Str) (x3 x4 : Option V), σ = [some (.str z), some (.ref D), some (.str kd), x3, x4] ∧ Same H H' ∧ H' D = some (.lst (acc.map V.str)) ∧ acc.length ≤ i + 1 ∧ i + 1 ≤ z.length ∧ (∀ w ∈ acc, w.length ≤ i + 1) ∧ (kd = "a" ∨ kd = "0" → acc ≠ []) ∧ partL (z.cps.toList.drop (i + 1)) acc kd = partL z.cps.toList [] ""⟩ σ' H', Q, tRet (tVar 1) { nx := fun x H' => Q V.non H', rt := Q }, fun σ H' => ∃ (acc : List Str) (kd : Str) (x3 x4 : Option V), σ = [some (.str z), some (.ref D), some (.str kd), x3, x4] ∧ Same H H' ∧ H' D = some (.lst (acc.map V.str)) ∧ acc.length ≤ i + 1 ∧ i + 1 ≤ z.length ∧ (∀ w ∈ acc, w.length ≤ i + 1) ∧ (kd = "a" ∨ kd = "0" → acc ≠ []) ∧ partL (z.cps.toList.drop (i + 1)) acc kd = partL z.cps.toList [] ""⟩ [some (.str z), some (.ref D), some (.str kd), some (.str ⟨#[c]⟩), some (.str (kindC c))] H3 := fun hn => by
      rw [if_neg hn] at hp
      refine pure_pels hac3 (by omega) (fun hs => ?_) (fun hs => ?_)
      · rw [if_neg (by simpa using hs)] at hp
        walk_at "go"
        refine ⟨acc, kindC c, _, _, rfl, s24, hac3, by omega, by omega, fun w hw => Nat.le_succ_of_le (lw w hw), fun hk => ?_, hp⟩
        rcases hk with z | z <;> (rw [hs] at z; exact absurd z (by decide))
      · rw [if_pos hs] at hp
        walk_at "go"
        refine ⟨acc ++ [⟨#[c]⟩], kindC c, _, _, rfl, same_mut s24 hD, by rw [upd_same, List.map_append]; rfl, ?_, by omega, fun w hw => ?_, fun _ => by simp, hp⟩
        · rw [List.length_append]
          exact Nat.succ_le_succ la
        · rcases List.mem_append.mp hw with z | z
          · exact Nat.le_succ_of_le (lw w z)
          · rw [List.mem_singleton.mp z]
            show 1 ≤ i + 1
            omega
    walk_at "go"
    refine ifd (fun h1 => ?_) (fun h1 => ?_)
    · walk_at "go"
      refine ifd (fun h2 => ?_) (fun h2 => ?_)
      · have hk : kindC c = "a" ∨ kindC c = "0" := by simpa [AK] using h1
        rw [if_pos ⟨hk, h2⟩] at hp
        have ne := hne (by rw [← h2]; exact hk)
        obtain ⟨ac, w, rfl⟩ : ∃ ac w, acc = ac ++ [w] := ⟨acc.dropLast, acc.getLast ne, (List.dropLast_concat_getLast ne).symm⟩
        rw [List.dropLast_concat, List.getLastD_concat] at hp
        have em : (ac ++ [w]).map V.str = ac.map V.str ++ [V.str w] := by rw [List.map_append]; rfl
        rw [em] at hac3
        have hwl := lw w (by simp)
        have l1 : (⟨#[c]⟩ : Str).length = 1 := rfl
        walk_at "go"
        refine ⟨1, rfl, ?_⟩
        refine e_ixL (SqL.of hac3) at_last ?_
        walk_at "go"
        refine e_addS (by omega) ?_
        walk_at "go"
        refine ⟨1, rfl, ?_⟩
        refine k_setL hac3 ix_last ?_
        rw [set_last]
        walk_at "go"
        refine ⟨ac ++ [w ++ ⟨#[c]⟩], kindC c, _, _, rfl, same_mut s24 hD, by rw [upd_same, List.map_append]; rfl, ?_, by omega, fun u hu => ?_, fun _ => by simp, hp⟩
        · rw [List.length_append] at la ⊢
          exact Nat.le_succ_of_le la
        · rcases List.mem_append.mp hu with z | z
          · exact Nat.le_succ_of_le (lw u (List.mem_append_left _ z))
          · rw [List.mem_singleton.mp z, len_app]
            omega
      · exact els fun z => h2 z.2
    · exact els fun z => h1 (by simpa [AK] using z.1)
  · rintro σ H1 ⟨acc, kd, x3, x4, rfl, s2, hac, la, li, lw, hne, hp⟩
    rw [List.drop_eq_nil_of_le (by rw [len_z]; exact Nat.le_refl _)] at hp
    have hp : some acc = partL z.cps.toList [] "" := hp
    rw [pt] at hp
    walk_at "go"
    cases ok with
    | true =>
      have e : acc = ws := Option.some.inj hp
      rw [e] at hac
      exact k1 rfl D H1 s2 hac
    | false => cases hp
/-! ### _law_bent: some text, not much longer -/
theorem len_cut (z : Str) (a b : Option Int) : (cutS z a b).length ≤ z.length := by
  unfold cutS
  show ((List.take _ (List.drop _ z.cps.toList)).toArray).size ≤ z.length
  rw [List.size_toArray, List.length_take, List.length_drop, len_z]
  omega
def sp_bent (_ : PySem.W.Frag) : Sp := fun vs H Q _ => ∃ (p : Addr) (z : Str), vs = [.ref p, .str z] ∧ DiceR H p ∧ z.length ≤ 100000 ∧ ∀ (z' : Str) H', SameB [p] H H' → DiceR H' p → z'.length ≤ 2 * z.length + 1 → Q (.str z') H'
theorem ln__law_bent {K : PySem.W.Frag} {vs : List V} {H : Hp} {Q : VK} {E : XK} (h : sp_bent K vs H Q E) : vs.length = 2 := by
  obtain ⟨_, _, rfl, _⟩ := h
  rfl
abbrev n__law_bent : List Str := ["_law_dice_here", "_law_text", "_law_signs", "_law_at", "_law_sign", "_law_some"]
def t__law_bent (K : PySem.W.Frag) (W : WX) : TS :=
  tSeq (tAsg (tC (.str "abcxyz0123789+&|()[] 	
ABZ!#$'*,-./:;<=>?@^_{}~")) (gName 2))
  (tSeq (tAsg (tOp (rIxL K) (tLst (tCons (tCW (sp_roll K) W (tCons (tVar 0) (tCons (tOp rAddI (tCB rLenT (tCons (tVar 1) tNil)) (tC (.int 1))) tNil))) (tCons (tCB rLenT (tCons (tVar 1) tNil)) tNil))) (tOp rDivI (tCW (sp_roll K) W (tCons (tVar 0) (tCons (tC (.int 6)) tNil))) (tC (.int 5)))) (gName 3))
  (tSeq (tAsg (tOp rIxS (tVar 2) (tCW (sp_roll K) W (tCons (tVar 0) (tCons (tOp (rIxL K) (tLst (tCons (tC (.int 22)) (tCons (tCB rLenT (tCons (tVar 2) tNil)) tNil))) (tCW (sp_roll K) W (tCons (tVar 0) (tCons (tC (.int 2)) tNil)))) tNil)))) (gName 4))
  (tSeq (tAsg (tLst (tCons (tOp rAddS (tOp rAddS (tSl rSlS (tVar 1) tNoPart (tPart (tVar 3))) (tVar 4)) (tSl rSlS (tVar 1) (tPart (tVar 3)) tNoPart)) (tCons (tOp rAddS (tSl rSlS (tVar 1) tNoPart (tPart (tVar 3))) (tSl rSlS (tVar 1) (tPart (tOp rAddI (tVar 3) (tC (.int 1)))) tNoPart)) (tCons (tOp rAddS (tOp rAddS (tSl rSlS (tVar 1) tNoPart (tPart (tVar 3))) (tVar 4)) (tSl rSlS (tVar 1) (tPart (tOp rAddI (tVar 3) (tC (.int 1)))) tNoPart)) tNil)))) (gName 5))
  (tSeq (tAsg (tOp rCat (tVar 5) (tLst (tCons (tOp rAddS (tSl rSlS (tVar 1) tNoPart (tPart (tOp rAddI (tVar 3) (tC (.int 1))))) (tSl rSlS (tVar 1) (tPart (tVar 3)) tNoPart)) (tCons (tOp rAddS (tOp rAddS (tSl rSlS (tVar 1) tNoPart (tPart (tVar 3))) (tC (.str " "))) (tSl rSlS (tVar 1) (tPart (tVar 3)) tNoPart)) tNil)))) (gName 5))
  (tRet (tOp (rIxL K) (tVar 5) (tCW (sp_roll K) W (tCons (tVar 0) (tCons (tC (.int 5)) tNil)))))))))
theorem DiceR.same {H H' : Hp} {p : Addr} (s : Same H H') (h : DiceR H p) : DiceR H' p := by
  obtain ⟨da, db, e, f⟩ := h
  exact ⟨da, db, s _ _ e, f⟩
theorem DiceR.ne {H : Hp} {p l : Addr} (h : DiceR H p) (hl : H l = none) : l ≠ p := by
  obtain ⟨da, db, e, f⟩ := h
  exact (ne_of_none e hl).symm
theorem e_slS {z : Str} {lo hi : Option Int} {H : Hp} {Q : VK} (h : z.length ≤ sizeLine) (q : Q (.str (cutS z lo hi)) H) : rSlS (.str z) lo hi H Q := ⟨z, rfl, h, q⟩
theorem at_ofN {xs : List Nat} {i : Int} {c : Nat} (h : 0 ≤ i) (e : xs[i.toNat]? = some c) : atI xs i = some c := by
  unfold atI ixN
  have := (List.getElem?_eq_some_iff.mp e).1
  rw [if_pos h, if_pos (by omega)]
  exact e
theorem pure__law_bent {K : PySem.W.Frag} {vs : List V} {H : Hp} {Q : VK} {E : XK} {W : WX} (h : sp_bent K vs H Q E) : t__law_bent K W { nx := fun _ H' => Q .non H', rt := Q } (start n__law_bent vs) H := by
  obtain ⟨p, z, rfl, D, hz, kk⟩ := h
  have hm := mega
  show t__law_bent K W _ [some (.ref p), some (.str z), none, none, none, none] H
  unfold t__law_bent
  walk_at "go"
  refine e_lenT (by omega) ?_
  walk_at "go"
  refine ⟨p, (z.length : Int) + 1, rfl, D, by omega, by omega, fun r1 H1 r10 r11 s1 D1 => ?_⟩
  walk_at "go"
  refine e_lenT (by omega) ?_
  walk_at "go"
  intro l1 hl1
  have D2 := D1.same (same1 (o := .lst [.int r1, .int (z.length : Int)]) hl1)
  have s2 := s1.same (same1 (o := .lst [.int r1, .int (z.length : Int)]) hl1)
  have g2 : upd H1 l1 (.lst [.int r1, .int (z.length : Int)]) l1 = some (.lst [.int r1, .int (z.length : Int)]) := upd_same
  have n2 := D1.ne hl1
  show tOp _ _ _ _ (upd H1 l1 (.lst [.int r1, .int (z.length : Int)])) _
  generalize upd H1 l1 (.lst [.int r1, .int (z.length : Int)]) = H2 at D2 s2 g2 ⊢
  walk_at "go"
  refine ⟨p, 6, rfl, D2, by decide, by decide, fun r2 H3 r20 r21 s3 D3 => ?_⟩
  have g3 := s3 _ _ (by simpa using n2) g2
  walk_at "go"
  refine e_div (divw _ (by decide) (by decide)) ?_
  obtain ⟨at_, ea⟩ : ∃ a : Int, atI [V.int r1, .int (z.length : Int)] (r2 / 5) = some (.int a) := by
    rcases (show r2 / 5 = 0 ∨ r2 / 5 = 1 by omega) with e | e <;> rw [e]
    · exact ⟨r1, at_of (j := 0) rfl rfl⟩
    · exact ⟨z.length, at_of (j := 1) rfl rfl⟩
  refine e_ixL (SqL.of g3) ea ?_
  have s03 := s2.trans s3
  clear g3 g2 D2 n2 s2 s3 s1 D1 D ea
  walk_at "go"
  have lsg : ("abcxyz0123789+&|()[] \t\nABZ!#$'*,-./:;<=>?@^_{}~" : Str).length = 47 := by decide +kernel
  refine e_lenT (by rw [lsg]; omega) ?_
  rw [lsg]
  walk_at "go"
  intro l2 hl2
  have D4 := D3.same (same1 (o := .lst [.int 22, .int ((47 : Nat) : Int)]) hl2)
  have s4 := s03.same (same1 (o := .lst [.int 22, .int ((47 : Nat) : Int)]) hl2)
  have g4 : upd H3 l2 (.lst [.int 22, .int ((47 : Nat) : Int)]) l2 = some (.lst [.int 22, .int ((47 : Nat) : Int)]) := upd_same
  have n4 := D3.ne hl2
  show tCW _ _ _ _ (upd H3 l2 (.lst [.int 22, .int ((47 : Nat) : Int)])) _
  generalize upd H3 l2 (.lst [.int 22, .int ((47 : Nat) : Int)]) = H4 at D4 s4 g4 ⊢
  walk_at "go"
  refine ⟨p, 2, rfl, D4, by decide, by decide, fun r3 H5 r30 r31 s5 D5 => ?_⟩
  have g5 := s5 _ _ (by simpa using n4) g4
  obtain ⟨mm, em, m0, m1⟩ : ∃ a : Int, atI [V.int 22, .int ((47 : Nat) : Int)] r3 = some (.int a) ∧ 0 < a ∧ a ≤ 47 := by
    rcases (show r3 = 0 ∨ r3 = 1 by omega) with e | e <;> rw [e]
    · exact ⟨22, at_of (j := 0) rfl rfl, by decide, by decide⟩
    · exact ⟨47, at_of (j := 1) rfl rfl, by decide, by decide⟩
  refine e_ixL (SqL.of g5) em ?_
  have s05 := s4.trans s5
  clear g5 g4 D4 n4 s4 s5 s03 D3 em
  walk_at "go"
  refine ⟨p, mm, rfl, D5, m0, by omega, fun r4 H6 r40 r41 s6 D6 => ?_⟩
  have s06 := s05.trans s6
  have lsz : ("abcxyz0123789+&|()[] \t\nABZ!#$'*,-./:;<=>?@^_{}~" : Str).cps.toList.length = 47 := by decide +kernel
  refine e_ixS (c := ("abcxyz0123789+&|()[] \t\nABZ!#$'*,-./:;<=>?@^_{}~" : Str).cps.toList[r4.toNat]'(by rw [lsz]; omega)) (by rw [lsg]; omega) (at_ofN (by omega) (List.getElem?_eq_getElem _)) ?_
  generalize ("abcxyz0123789+&|()[] \t\nABZ!#$'*,-./:;<=>?@^_{}~" : Str).cps.toList[r4.toNat]'(by rw [lsz]; omega) = c
  clear s05 s6 D5
  walk_at "go"
  have lc : ∀ a b, (cutS z a b).length ≤ z.length := len_cut z
  have l1 : (⟨#[c]⟩ : Str).length = 1 := rfl
  have lb : (" " : Str).length = 1 := rfl
  refine e_slS (by omega) ?_
  walk_at "go"
  refine e_addS (by rw [l1]; have := lc none (some at_); omega) ?_
  walk_at "go"
  refine e_slS (by omega) ?_
  refine e_addS (by rw [len_app, l1]; have := lc none (some at_); have := lc (some at_) none; omega) ?_
  walk_at "go"
  refine e_slS (by omega) ?_
  walk_at "go"
  refine e_slS (by omega) ?_
  refine e_addS (by have := lc none (some at_); have := lc (some (at_ + 1)) none; omega) ?_
  walk_at "go"
  refine e_slS (by omega) ?_
  walk_at "go"
  refine e_addS (by rw [l1]; have := lc none (some at_); omega) ?_
  walk_at "go"
  refine e_slS (by omega) ?_
  refine e_addS (by rw [len_app, l1]; have := lc none (some at_); have := lc (some (at_ + 1)) none; omega) ?_
  have b1 : (cutS z none (some at_) ++ ⟨#[c]⟩ ++ cutS z (some at_) none).length ≤ 2 * z.length + 1 := by rw [len_app, len_app, l1]; have := lc none (some at_); have := lc (some at_) none; omega
  have b2 : (cutS z none (some at_) ++ cutS z (some (at_ + 1)) none).length ≤ 2 * z.length + 1 := by rw [len_app]; have := lc none (some at_); have := lc (some (at_ + 1)) none; omega
  have b3 : (cutS z none (some at_) ++ ⟨#[c]⟩ ++ cutS z (some (at_ + 1)) none).length ≤ 2 * z.length + 1 := by rw [len_app, len_app, l1]; have := lc none (some at_); have := lc (some (at_ + 1)) none; omega
  generalize cutS z none (some at_) ++ ⟨#[c]⟩ ++ cutS z (some at_) none = w1 at b1 ⊢
  generalize cutS z none (some at_) ++ cutS z (some (at_ + 1)) none = w2 at b2 ⊢
  generalize cutS z none (some at_) ++ ⟨#[c]⟩ ++ cutS z (some (at_ + 1)) none = w3 at b3 ⊢
  walk_at "go"
  intro l3 hl3
  have D7 := D6.same (same1 (o := .lst [.str w1, .str w2, .str w3]) hl3)
  have s7 := s06.same (same1 (o := .lst [.str w1, .str w2, .str w3]) hl3)
  have g7 : upd H6 l3 (.lst [.str w1, .str w2, .str w3]) l3 = some (.lst [.str w1, .str w2, .str w3]) := upd_same
  have n7 := D6.ne hl3
  show tSeq _ _ _ _ (upd H6 l3 (.lst [.str w1, .str w2, .str w3]))
  generalize upd H6 l3 (.lst [.str w1, .str w2, .str w3]) = H7 at D7 s7 g7 ⊢
  walk_at "go"
  refine e_slS (by omega) ?_
  walk_at "go"
  refine e_slS (by omega) ?_
  refine e_addS (by have := lc none (some (at_ + 1)); have := lc (some at_) none; omega) ?_
  walk_at "go"
  refine e_slS (by omega) ?_
  walk_at "go"
  refine e_addS (by rw [lb]; have := lc none (some at_); omega) ?_
  walk_at "go"
  refine e_slS (by omega) ?_
  refine e_addS (by rw [len_app, lb]; have := lc none (some at_); have := lc (some at_) none; omega) ?_
  have b4 : (cutS z none (some (at_ + 1)) ++ cutS z (some at_) none).length ≤ 2 * z.length + 1 := by rw [len_app]; have := lc none (some (at_ + 1)); have := lc (some at_) none; omega
  have b5 : (cutS z none (some at_) ++ " " ++ cutS z (some at_) none).length ≤ 2 * z.length + 1 := by rw [len_app, len_app, lb]; have := lc none (some at_); have := lc (some at_) none; omega
  generalize cutS z none (some (at_ + 1)) ++ cutS z (some at_) none = w4 at b4 ⊢
  generalize cutS z none (some at_) ++ " " ++ cutS z (some at_) none = w5 at b5 ⊢
  walk_at "go"
  intro l4 hl4
  have D8 := D7.same (same1 (o := .lst [.str w4, .str w5]) hl4)
  have s8 := s7.same (same1 (o := .lst [.str w4, .str w5]) hl4)
  refine e_cat ((same1 hl4) _ _ g7) upd_same (by show 3 + 2 ≤ _; omega) fun l5 hl5 => ?_
  have D9 := D8.same (same1 (o := .lst [.str w1, .str w2, .str w3, .str w4, .str w5]) hl5)
  have s9 := s8.same (same1 (o := .lst [.str w1, .str w2, .str w3, .str w4, .str w5]) hl5)
  have g9 : upd (upd H7 l4 (.lst [.str w4, .str w5])) l5 (.lst [.str w1, .str w2, .str w3, .str w4, .str w5]) l5 = some (.lst [.str w1, .str w2, .str w3, .str w4, .str w5]) := upd_same
  have n9 := D8.ne hl5
  show tRet _ _ _ (upd (upd H7 l4 (.lst [.str w4, .str w5])) l5 (.lst [.str w1, .str w2, .str w3, .str w4, .str w5]))
  generalize upd (upd H7 l4 (.lst [.str w4, .str w5])) l5 (.lst [.str w1, .str w2, .str w3, .str w4, .str w5]) = H9 at D9 s9 g9 ⊢
  walk_at "go"
  refine ⟨p, 5, rfl, D9, by decide, by decide, fun r5 HA r50 r51 sA DA => ?_⟩
  have gA := sA _ _ (by simpa using n9) g9
  rcases (show r5 = 0 ∨ r5 = 1 ∨ r5 = 2 ∨ r5 = 3 ∨ r5 = 4 by omega) with rfl | rfl | rfl | rfl | rfl
  · exact e_ixL (SqL.of gA) (at_of (j := 0) rfl rfl) (kk _ _ (s9.trans sA) DA b1)
  · exact e_ixL (SqL.of gA) (at_of (j := 1) rfl rfl) (kk _ _ (s9.trans sA) DA b2)
  · exact e_ixL (SqL.of gA) (at_of (j := 2) rfl rfl) (kk _ _ (s9.trans sA) DA b3)
  · exact e_ixL (SqL.of gA) (at_of (j := 3) rfl rfl) (kk _ _ (s9.trans sA) DA b4)
  · exact e_ixL (SqL.of gA) (at_of (j := 4) rfl rfl) (kk _ _ (s9.trans sA) DA b5)
/-! ### _law_refused -/
def sp_refusedT : Sp := fun vs H Q _ => ∃ (z : Str) (ws : List Str) (ok : Bool), vs = [.str z] ∧ z.length ≤ 100000 ∧ TokE z.cps.toList ws ok ∧ (400 < z.length ∨ ok = false ∨ 40 < ws.length ∨ parseF ws = none) ∧ ∀ H', Same H H' → Q (.bl true) H'
theorem ln_refusedT (vs : List V) (H : Hp) (Q : VK) (E : XK) (h : sp_refusedT vs H Q E) : vs.length = 1 := by
  obtain ⟨_, _, _, rfl, _⟩ := h
  rfl
abbrev n__law_refused : List Str := ["_law_text", "e", "_law_beside"]
def t__law_refused (K : PySem.W.Frag) (W : WX) (S_read : Sp) : TS :=
  tSeq (tTryAs K (.ref (ga K "NoRecipe")) 1 (fun W => tDrop (tCW S_read W (tCons (tVar 0) tNil))) (fun a_ cls_ d_ => tSeq (tAsg (tOrV (tCB (rIsiE K a_ cls_ d_) (tCons (tVar 1) (tCons (tC (.ref (ga K "NoName"))) tNil))) (tOrV (tCB (rIsiE K a_ cls_ d_) (tCons (tVar 1) (tCons (tC (.ref (ga K "NoNumber"))) tNil))) (tCB (rIsiE K a_ cls_ d_) (tCons (tVar 1) (tCons (tC (.ref (ga K "Full"))) tNil))))) (gName 2))
  (tSeq (tAsg (tOrV (tVar 2) (tOrV (tCB (rIsiE K a_ cls_ d_) (tCons (tVar 1) (tCons (tC (.ref (ga K "NoPoint"))) tNil))) (tCB (rIsiE K a_ cls_ d_) (tCons (tVar 1) (tCons (tC (.ref (ga K "NoRow"))) tNil))))) (gName 2))
  (tRet (tAndV (tCB (rIsiE K a_ cls_ d_) (tCons (tVar 1) (tCons (tC (.ref (ga K "HallError"))) tNil))) (tAndV (tCB (rIsiE K a_ cls_ d_) (tCons (tVar 1) (tCons (tC (.ty "ValueError")) tNil))) (tNotV (tVar 2))))))) W)
  (tRet (tC (.bl false)))
/-- what an exception of the hall's is -/
structure ReK (K : PySem.W.Frag) : Prop where
  em : PySem.W.exmOne K (.ref (ga K "NoRecipe")) (.ref (ga K "NoRecipe")) = some true
  xi : ExI K (ga K "NoRecipe")
  k1 : PySem.W.kitOne K (.ref (ga K "NoRecipe")) (.ref (ga K "NoName")) = some false
  k2 : PySem.W.kitOne K (.ref (ga K "NoRecipe")) (.ref (ga K "NoNumber")) = some false
  k3 : PySem.W.kitOne K (.ref (ga K "NoRecipe")) (.ref (ga K "Full")) = some false
  k4 : PySem.W.kitOne K (.ref (ga K "NoRecipe")) (.ref (ga K "NoPoint")) = some false
  k5 : PySem.W.kitOne K (.ref (ga K "NoRecipe")) (.ref (ga K "NoRow")) = some false
  k6 : PySem.W.kitOne K (.ref (ga K "NoRecipe")) (.ref (ga K "HallError")) = some true
  k7 : PySem.W.kitOne K (.ref (ga K "NoRecipe")) (.type "ValueError") = some true
theorem pure__law_refusedT {K : PySem.W.Frag} (R : ReK K) {vs : List V} {H : Hp} {Q : VK} {E : XK} {W : WX} (h : sp_refusedT vs H Q E) : t__law_refused K W (sp_readX K) { nx := fun _ H' => Q .non H', rt := Q } (start n__law_refused vs) H := by
  obtain ⟨z, ws, ok, rfl, hz, hT, hb, kk⟩ := h
  show t__law_refused K W _ _ [some (.str z), none, none] H
  unfold t__law_refused
  walk_at "go"
  refine ⟨z, ws, ok, rfl, hz, hT, fun t l1 l2 l3 l4 => ?_, fun _ H' s => ?_⟩
  · exfalso
    rcases hb with q | q | q | q
    · omega
    · rw [q] at l2; cases l2
    · omega
    · rw [q] at l4; cases l4
  refine ⟨true, R.em, fun _ a ha => ?_, fun z => nomatch z⟩
  show tSeq _ _ _ [some (.str z), some (.ref a), none] H'
  walk_at "go"
  refine ⟨_, _, _, false, rfl, .own _, rfl, rfl, R.xi, R.k1, ?_⟩
  walk_at "go"
  refine iteF ?_
  walk_at "go"
  refine ⟨_, _, _, false, rfl, .own _, rfl, rfl, R.xi, R.k2, ?_⟩
  walk_at "go"
  refine iteF ?_
  walk_at "go"
  refine ⟨_, _, _, false, rfl, .own _, rfl, rfl, R.xi, R.k3, ?_⟩
  walk_at "go"
  refine iteF ?_
  walk_at "go"
  refine ⟨_, _, _, false, rfl, .own _, rfl, rfl, R.xi, R.k4, ?_⟩
  walk_at "go"
  refine iteF ?_
  walk_at "go"
  refine ⟨_, _, _, false, rfl, .own _, rfl, rfl, R.xi, R.k5, ?_⟩
  walk_at "go"
  refine ⟨_, _, _, true, rfl, .own _, rfl, rfl, R.xi, R.k6, ?_⟩
  walk_at "go"
  refine iteT ?_
  walk_at "go"
  refine ⟨_, _, _, true, rfl, .ty _, rfl, rfl, R.xi, R.k7, ?_⟩
  walk_at "go"
  refine iteT ?_
  walk_at "go"
  exact kk _ s
/-! ### what is read, written and read again (whatever the recipe) -/
def wdX : Nat → Pt → Int → List Str
  | 0, _ => fun _ => []
  | m + 1, .mk d => wdNd (wdX m) d
def rkP : Pt → Int
  | .mk d => rkNd d
/-- F's, in brackets where it binds less than f -/
def FB (F : Nat → Pt → Prop) (n : Nat) (f : Int) (t : Pt) : Prop := (rkP t < f → ∃ n', n = n' + 1 ∧ F n' t) ∧ (¬ rkP t < f → F n t)
def FitX : Nat → Nat → Pt → Prop
  | 0, _, _ => False
  | m + 1, n, .mk d => match d with
    | .num c => 0 ≤ c ∧ c ≤ 30
    | .nm x => nameB x = true
    | .gate x b t => nameB x = true ∧ 1 ≤ b ∧ b ≤ 30 ∧ ∃ n', n = n' + 1 ∧ FB (FitX m) n' 4 t
    | .ch k ts => 2 ≤ ts.length ∧ ts.length ≤ 8 ∧ ∀ t ∈ ts, FB (FitX m) n (k.rank + 1) t
theorem FB.imp {F G : Nat → Pt → Prop} {n m : Nat} {f : Int} {t : Pt} (h : FB F n f t) (h1 : ∀ n', n = n' + 1 → F n' t → ∃ m', m = m' + 1 ∧ G m' t) (h2 : F n t → G m t) : FB G m f t :=
  ⟨fun q => by
    obtain ⟨n', e, w⟩ := h.1 q
    exact h1 n' e w, fun q => h2 (h.2 q)⟩
theorem FitX.up : ∀ {m n : Nat} {t : Pt}, FitX m n t → FitX (m + 1) n t ∧ FitX m (n + 1) t
  | 0, _, _, h => h.elim
  | m + 1, n, .mk (.num c), h => ⟨h, h⟩
  | m + 1, n, .mk (.nm x), h => ⟨h, h⟩
  | m + 1, n, .mk (.gate x b t), h => by
    obtain ⟨h1, h2, h3, n', e, h4⟩ := h
    exact ⟨⟨h1, h2, h3, n', e, h4.imp (fun k ek w => ⟨k, ek, (FitX.up w).1⟩) fun w => (FitX.up w).1⟩, ⟨h1, h2, h3, n, rfl, h4.imp (fun k ek w => ⟨n', e, by rw [ek]; exact (FitX.up w).2⟩) fun w => by rw [e]; exact (FitX.up w).2⟩⟩
  | m + 1, n, .mk (.ch k ts), h => by
    obtain ⟨h1, h2, h3⟩ := h
    exact ⟨⟨h1, h2, fun t ht => (h3 t ht).imp (fun j ej w => ⟨j, ej, (FitX.up w).1⟩) fun w => (FitX.up w).1⟩, ⟨h1, h2, fun t ht => (h3 t ht).imp (fun j ej w => ⟨n, rfl, by rw [ej]; exact (FitX.up w).2⟩) fun w => (FitX.up w).2⟩⟩
theorem FitX.mono {m m' n : Nat} {t : Pt} (h : FitX m n t) (l : m ≤ m') : FitX m' n t := by
  induction l with
  | refl => exact h
  | step _ ih => exact ih.up.1
theorem FB.mono {m m' n : Nat} {f : Int} {t : Pt} (h : FB (FitX m) n f t) (l : m ≤ m') : FB (FitX m') n f t := h.imp (fun k e w => ⟨k, e, w.mono l⟩) fun w => w.mono l
theorem FB.fit {m n : Nat} {f : Int} {t : Pt} (h : FB (FitX m) n f t) : FitX m n t := by
  by_cases q : rkP t < f
  · obtain ⟨n', rfl, w⟩ := h.1 q
    exact w.up.2
  · exact h.2 q
theorem FitX.ok : ∀ {m n : Nat} {t : Pt}, FitX m n t → PtOk m t
  | 0, _, _, h => h.elim
  | m + 1, n, .mk (.num c), h => h
  | m + 1, n, .mk (.nm x), h => h
  | m + 1, n, .mk (.gate x b t), h => by
    obtain ⟨h1, h2, h3, n', e, h4⟩ := h
    exact ⟨h1, h2, h3, FitX.ok h4.fit⟩
  | m + 1, n, .mk (.ch k ts), h => ⟨h.1, h.2.1, fun t ht => FitX.ok (h.2.2 t ht).fit⟩
theorem kd_rank1 (k : Kd) : 1 ≤ k.rank ∧ k.rank < 4 := by cases k <;> decide
theorem rk_one (t : Pt) : 1 ≤ rkP t := by
  obtain ⟨d⟩ := t
  cases d with
  | num _ => show (1 : Int) ≤ 4; decide
  | nm _ => show (1 : Int) ≤ 4; decide
  | gate _ _ _ => show (1 : Int) ≤ 4; decide
  | ch k _ => exact (kd_rank1 k).1
/-! words of a recipe -/
theorem wdNd_congr {α : Type} {C : α → Prop} {w w' : α → Int → List Str} (h : ∀ t f, C t → w t f = w' t f) {d : Nd α} (hd : NdOkX C d) (f : Int) : wdNd w d f = wdNd w' d f := by
  cases d with
  | num n => rfl
  | nm x => rfl
  | gate x b t =>
    show ("[" : Str) :: x :: numS b :: ("]" : Str) :: w t 4 = ("[" : Str) :: x :: numS b :: ("]" : Str) :: w' t 4
    rw [h t 4 hd.2.2.2]
  | ch k ts =>
    have e : wdOut w k ts = wdOut w' k ts := by
      cases ts with
      | nil => rfl
      | cons t ts =>
        have hc := hd.2.2
        show w t (k.rank + 1) ++ ts.flatMap (fun u => k.wd :: w u (k.rank + 1)) = w' t (k.rank + 1) ++ ts.flatMap fun u => k.wd :: w' u (k.rank + 1)
        rw [h t _ (hc t List.mem_cons_self)]
        congr 1
        clear hd
        have hc : ∀ u ∈ ts, C u := fun u hu => hc u (List.mem_cons_of_mem _ hu)
        have key : ∀ us : List α, (∀ u ∈ us, C u) → (us.flatMap fun u => k.wd :: w u (k.rank + 1)) = us.flatMap fun u => k.wd :: w' u (k.rank + 1) := by
          intro us
          induction us with
          | nil => intro _; rfl
          | cons u us ih =>
            intro hc
            rw [List.flatMap_cons, List.flatMap_cons, ih (fun v hv => hc v (List.mem_cons_of_mem _ hv)), h u _ (hc u List.mem_cons_self)]
        exact key ts hc
    show (if k.rank < f then ("(" : Str) :: wdOut w k ts ++ [(")" : Str)] else wdOut w k ts) = if k.rank < f then ("(" : Str) :: wdOut w' k ts ++ [(")" : Str)] else wdOut w' k ts
    rw [e]
theorem wdX_succ : ∀ {m : Nat} {t : Pt}, PtOk m t → ∀ f, wdX (m + 1) t f = wdX m t f
  | 0, _, h, _ => h.elim
  | m + 1, .mk d, h, f => wdNd_congr (C := PtOk m) (fun t f ht => wdX_succ ht f) h f
theorem wdX_mono {m n : Nat} {t : Pt} (h : PtOk m t) (l : m ≤ n) (f : Int) : wdX n t f = wdX m t f := by
  induction l with
  | refl => rfl
  | step l ih => rw [wdX_succ (h.mono l), ih]
/-- words with brackets, or without -/
theorem wdX_f {m : Nat} {t : Pt} (f : Int) : (rkP t < f → 0 < m → wdX m t f = ("(" : Str) :: wdX m t 1 ++ [(")" : Str)] ∨ (∃ d, t = .mk d ∧ ∀ k ts, d ≠ .ch k ts)) ∧ (¬ rkP t < f → wdX m t f = wdX m t 1) := by
  cases m with
  | zero => exact ⟨fun _ h => absurd h (by omega), fun _ => rfl⟩
  | succ m =>
    obtain ⟨d⟩ := t
    cases d with
    | num n => exact ⟨fun _ _ => .inr ⟨_, rfl, fun _ _ e => nomatch e⟩, fun _ => rfl⟩
    | nm n => exact ⟨fun _ _ => .inr ⟨_, rfl, fun _ _ e => nomatch e⟩, fun _ => rfl⟩
    | gate x b t => exact ⟨fun _ _ => .inr ⟨_, rfl, fun _ _ e => nomatch e⟩, fun _ => rfl⟩
    | ch k ts =>
      have e1 : wdX (m + 1) (.mk (.ch k ts)) 1 = wdOut (wdX m) k ts := if_neg (by have := (kd_rank1 k).1; omega)
      rw [e1]
      exact ⟨fun q _ => .inl (if_pos q), fun q => if_neg q⟩
theorem wdX_le {m : Nat} {t : Pt} (f g : Int) (l : f ≤ g) : (wdX m t f).length ≤ (wdX m t g).length := by
  cases m with
  | zero => exact Nat.le_refl _
  | succ m =>
    obtain ⟨d⟩ := t
    cases d with
    | num n => exact Nat.le_refl _
    | nm n => exact Nat.le_refl _
    | gate x b t => exact Nat.le_refl _
    | ch k ts =>
      show (if k.rank < f then ("(" : Str) :: wdOut (wdX m) k ts ++ [(")" : Str)] else wdOut (wdX m) k ts).length ≤ (if k.rank < g then ("(" : Str) :: wdOut (wdX m) k ts ++ [(")" : Str)] else wdOut (wdX m) k ts).length
      by_cases q : k.rank < f
      · rw [if_pos q, if_pos (by omega)]
        exact Nat.le_refl _
      · rw [if_neg q]
        split
        · simp only [List.cons_append, List.length_cons, List.length_append, List.length_nil]
          omega
        · exact Nat.le_refl _
theorem wdX_le2 {m : Nat} {t : Pt} (f : Int) : (wdX m t f).length ≤ (wdX m t 1).length + 2 := by
  cases m with
  | zero => exact Nat.zero_le _
  | succ m =>
    obtain ⟨d⟩ := t
    cases d with
    | num n => show 1 ≤ 1 + 2; decide
    | nm n => show 1 ≤ 1 + 2; decide
    | gate x b t => exact Nat.le_add_right _ _
    | ch k ts =>
      have e1 : wdX (m + 1) (.mk (.ch k ts)) 1 = wdOut (wdX m) k ts := if_neg (by have := (kd_rank1 k).1; omega)
      rw [e1]
      show (if k.rank < f then ("(" : Str) :: wdOut (wdX m) k ts ++ [(")" : Str)] else wdOut (wdX m) k ts).length ≤ _
      split
      · simp
      · exact Nat.le_add_right _ _
/-! reading what is written -/
def RdsX (p : PRd) (f : Int) (n : Nat) : Prop := ∀ (m : Nat) (t : Pt) (rest : List Str), FB (FitX m) n f t → (∀ w, rest.head? = some w → ¬ stopF f w) → p (wdX m t f ++ rest) = some (t, rest)
theorem chainF_runX {p : PRd} {k : Kd} {n m : Nat} (hp : RdsX p (k.rank + 1) n) : ∀ (us : List Pt) (g : Nat) (acc : List Pt) (rest : List Str), (∀ u ∈ us, FB (FitX m) n (k.rank + 1) u) → us.length < g → (∀ w, rest.head? = some w → ¬ stopF k.rank w) →
    chainF p k.wd g acc ((us.flatMap fun u => k.wd :: wdX m u (k.rank + 1)) ++ rest) = some (acc ++ us, rest)
  | [], g, acc, rest, _, hg, hr => by
    cases g with
    | zero => simp at hg
    | succ g =>
      have e : ¬ (rest.headD "" = k.wd) := by
        cases rest with
        | nil => cases k <;> decide
        | cons w r => exact fun z => hr w rfl ⟨k, Int.le_refl _, z⟩
      show chainF p k.wd (g + 1) acc rest = _
      rw [chainF, if_neg e]
      simp
  | u :: us, g, acc, rest, hC, hg, hr => by
    cases g with
    | zero => simp at hg
    | succ g =>
      have e0 : ((u :: us).flatMap fun u => k.wd :: wdX m u (k.rank + 1)) ++ rest = k.wd :: (wdX m u (k.rank + 1) ++ ((us.flatMap fun u => k.wd :: wdX m u (k.rank + 1)) ++ rest)) := by simp
      have st : ∀ w, ((us.flatMap fun u => k.wd :: wdX m u (k.rank + 1)) ++ rest).head? = some w → ¬ stopF (k.rank + 1) w := fun w hw => by
        cases us with
        | nil => exact fun z => hr w hw ((stop_iff k w).mp (.inl z))
        | cons u us =>
          have : w = k.wd := by simpa using hw.symm
          rw [this]
          exact own_nt k
      rw [e0, chainF, if_pos (show (k.wd :: _).headD "" = k.wd from rfl), List.tail_cons, hp m u _ (hC u List.mem_cons_self) st]
      show chainF p k.wd g (acc ++ [u]) _ = _
      rw [chainF_runX hp us g (acc ++ [u]) rest (fun v hv => hC v (List.mem_cons_of_mem _ hv)) (by simp at hg; omega) hr]
      simp
theorem chained_runX {p : PRd} {k : Kd} {n m : Nat} (hp : RdsX p (k.rank + 1) n) {u : Pt} {us : List Pt} {rest : List Str} (hC : ∀ v ∈ u :: us, FB (FitX m) n (k.rank + 1) v) (h3 : (u :: us).length ≤ 8) (hr : ∀ w, rest.head? = some w → ¬ stopF k.rank w) :
    chainedF p k.wd (wdX m u (k.rank + 1) ++ ((us.flatMap fun u => k.wd :: wdX m u (k.rank + 1)) ++ rest)) = some (u :: us, rest) := by
  have st : ∀ w, ((us.flatMap fun u => k.wd :: wdX m u (k.rank + 1)) ++ rest).head? = some w → ¬ stopF (k.rank + 1) w := fun w hw => by
    cases us with
    | nil => exact fun z => hr w hw ((stop_iff k w).mp (.inl z))
    | cons u us =>
      have : w = k.wd := by simpa using hw.symm
      rw [this]
      exact own_nt k
  have e1 := hp m u _ (hC u List.mem_cons_self) st
  have e2 := chainF_runX hp us (((us.flatMap fun u => k.wd :: wdX m u (k.rank + 1)) ++ rest).length + 1) [u] rest (fun v hv => hC v (List.mem_cons_of_mem _ hv)) (by
    have : us.length ≤ (us.flatMap fun u => k.wd :: wdX m u (k.rank + 1)).length := by
      clear h3 hC st e1
      induction us with
      | nil => simp
      | cons a l ih => simp only [List.flatMap_cons, List.length_append, List.length_cons] at *; omega
    rw [List.length_append]
    omega) hr
  simp only [chainedF, e1, e2]
  rw [if_neg (by simp at h3 ⊢; omega)]
  rfl
theorem rk_ch {t : Pt} {k : Kd} (h : rkP t = k.rank) : ∃ ts, t = .mk (.ch k ts) := by
  obtain ⟨d⟩ := t
  have r4 := (kd_rank1 k).2
  cases d with
  | num _ => exact absurd (show (4 : Int) = k.rank from h) (by omega)
  | nm _ => exact absurd (show (4 : Int) = k.rank from h) (by omega)
  | gate _ _ _ => exact absurd (show (4 : Int) = k.rank from h) (by omega)
  | ch j ts =>
    have h : j.rank = k.rank := h
    have : j = k := by cases j <;> cases k <;> first | rfl | cases h
    rw [this]
    exact ⟨ts, rfl⟩
theorem wdX_near {m : Nat} {t : Pt} {f : Int} (h : rkP t ≠ f) : wdX m t f = wdX m t (f + 1) := by
  cases m with
  | zero => rfl
  | succ m =>
    obtain ⟨d⟩ := t
    cases d with
    | num n => rfl
    | nm n => rfl
    | gate x b t => rfl
    | ch k ts =>
      have h : k.rank ≠ f := h
      have e : (k.rank < f) ↔ (k.rank < f + 1) := by omega
      show (if k.rank < f then ("(" : Str) :: wdOut (wdX m) k ts ++ [(")" : Str)] else wdOut (wdX m) k ts) = (if k.rank < f + 1 then ("(" : Str) :: wdOut (wdX m) k ts ++ [(")" : Str)] else wdOut (wdX m) k ts)
      simp only [e]
theorem lv_runX {p : PRd} {k : Kd} {n : Nat} (hp : RdsX p (k.rank + 1) n) : RdsX (lvF k p) k.rank n := by
  intro m t rest hF hr
  by_cases q : rkP t = k.rank
  · obtain ⟨ts, rfl⟩ := rk_ch q
    have hF := hF.2 (by rw [q]; omega)
    cases m with
    | zero => exact hF.elim
    | succ m =>
      obtain ⟨h2, h8, hC⟩ := hF
      cases ts with
      | nil => simp at h2
      | cons u us =>
        have ew : wdX (m + 1) (.mk (.ch k (u :: us))) k.rank = wdX m u (k.rank + 1) ++ us.flatMap fun u => k.wd :: wdX m u (k.rank + 1) := if_neg (Int.lt_irrefl _)
        rw [ew, List.append_assoc, lvF_many (chained_runX hp hC h8 hr) (by omega)]
  · have e : (rkP t < k.rank) ↔ (rkP t < k.rank + 1) := by omega
    rw [wdX_near q]
    have := chained_runX hp (u := t) (us := []) (rest := rest) (m := m) (fun v hv => by
      rw [List.mem_singleton.mp hv]
      exact ⟨fun z => hF.1 (e.mpr z), fun z => hF.2 fun y => z (e.mp y)⟩) (by simp) hr
    exact lvF_one this
theorem whole_runX {p : PRd} {n : Nat} (hp : RdsX p 4 n) : RdsX (wholeF p) 1 n := lv_runX (k := .most) (lv_runX (k := .least) (lv_runX (k := .sum) hp))
theorem single_runX (n : Nat) (ih : ∀ n', n = n' + 1 → RdsX (singleF n') 4 n') : RdsX (singleF n) 4 n := by
  rintro m t rest hF hr
  cases m with
  | zero => exact hF.fit.elim
  | succ m =>
    obtain ⟨d⟩ := t
    cases d with
    | num c =>
      obtain ⟨h0, h1⟩ := hF.2 (by show ¬ (4 : Int) < 4; omega)
      obtain ⟨a, b, d, e⟩ := num_ofI h0 h1
      rw [singleF_eq]
      show (if numS c = "(" then _ else if numS c = "[" then _ else leafF (numS c) rest) = _
      rw [if_neg b, if_neg d]
      simp only [leafF, e, a]
      rfl
    | nm x =>
      have hx : nameB x = true := hF.2 (by show ¬ (4 : Int) < 4; omega)
      obtain ⟨b, d⟩ := name_not hx
      rw [singleF_eq]
      show (if x = "(" then _ else if x = "[" then _ else leafF x rest) = _
      rw [if_neg b, if_neg d]
      simp only [leafF, hx]
      rfl
    | gate x b t =>
      obtain ⟨hx, b0, b1, n', rfl, okt⟩ := hF.2 (by show ¬ (4 : Int) < 4; omega)
      obtain ⟨nb, _⟩ := num_ofI (c := b) (by omega) b1
      have hi := ih n' rfl m t rest okt hr
      rw [singleF_eq]
      show gatedF (some (singleF n')) (x :: numS b :: ("]" : Str) :: (wdX m t 4 ++ rest)) = _
      simp only [gatedF, List.headD_cons, List.tail_cons, hx, nb, if_true]
      rw [if_neg (by omega), hi]
    | ch k ts =>
      obtain ⟨n', rfl, hw⟩ := hF.1 (kd_rank1 k).2
      have ew : wdX (m + 1) (.mk (.ch k ts)) 4 = ("(" : Str) :: wdX (m + 1) (.mk (.ch k ts)) 1 ++ [(")" : Str)] := by
        have e1 : wdX (m + 1) (.mk (.ch k ts)) 1 = wdOut (wdX m) k ts := if_neg (by have := (kd_rank1 k).1; omega)
        rw [e1]
        exact if_pos (kd_rank1 k).2
      have hi := whole_runX (ih n' rfl) (m + 1) (.mk (.ch k ts)) ((")" : Str) :: rest) ⟨fun z => absurd (show k.rank < 1 from z) (by have := (kd_rank1 k).1; omega), fun _ => hw⟩ (fun w hw => by cases hw; exact stop_br)
      rw [ew, singleF_eq]
      have e0 : (("(" : Str) :: wdX (m + 1) (.mk (.ch k ts)) 1 ++ [(")" : Str)]) ++ rest = ("(" : Str) :: (wdX (m + 1) (.mk (.ch k ts)) 1 ++ (")" : Str) :: rest) := by simp
      rw [e0]
      show bracketF (some (wholeF (singleF n'))) (wdX (m + 1) (.mk (.ch k ts)) 1 ++ (")" : Str) :: rest) = _
      simp only [bracketF, hi]
      rfl
theorem singleN_runX : ∀ n, RdsX (singleF n) 4 n
  | 0 => single_runX 0 fun _ h => nomatch h
  | n + 1 => single_runX (n + 1) fun n' h => by
    cases h
    exact singleN_runX n
/-! what is read fits -/
def GvP (p : PRd) (f : Int) (n m : Nat) : Prop := ∀ ws t r, p ws = some (t, r) → FB (FitX m) n f t ∧ (wdX m t f).length + r.length ≤ ws.length
theorem chainF_gv {p : PRd} {sg : Str} {f : Int} {n m : Nat} (hs : sg ≠ "") (hp : GvP p f n m) : ∀ (g : Nat) (acc : List Pt) (ws : List Str) (ts : List Pt) (r : List Str), chainF p sg g acc ws = some (ts, r) → ∃ us, ts = acc ++ us ∧ (∀ u ∈ us, FB (FitX m) n f u) ∧ (us.flatMap fun u => sg :: wdX m u f).length + r.length ≤ ws.length
  | 0, _, _, _, _, h => by cases h
  | g + 1, acc, ws, ts, r, h => by
    rw [chainF] at h
    by_cases q : ws.headD "" = sg
    · rw [if_pos q] at h
      cases e : p ws.tail with
      | none => rw [e] at h; cases h
      | some x =>
        obtain ⟨t, r1⟩ := x
        rw [e] at h
        obtain ⟨h1, h2⟩ := hp _ _ _ e
        obtain ⟨us, rfl, h3, h4⟩ := chainF_gv hs hp g _ _ _ _ h
        have := tail_len hs q
        refine ⟨t :: us, by simp, fun u hu => ?_, ?_⟩
        · rcases List.mem_cons.mp hu with z | z
          · rw [z]; exact h1
          · exact h3 u z
        · rw [List.flatMap_cons, List.length_append, List.length_cons]
          omega
    · rw [if_neg q] at h
      cases h
      exact ⟨[], by simp, by simp, by simp⟩
theorem lvF_gv {p : PRd} {k : Kd} {n m : Nat} (hp : GvP p (k.rank + 1) n m) : GvP (lvF k p) k.rank n (m + 1) := fun ws t r h => by
  cases e : chainedF p k.wd ws with
  | none => rw [lvF_none e] at h; cases h
  | some x =>
    obtain ⟨ts, r1⟩ := x
    have e' := e
    cases e1 : p ws with
    | none => simp only [chainedF, e1] at e'; cases e'
    | some x =>
      obtain ⟨t0, r0⟩ := x
      cases e2 : chainF p k.wd (r0.length + 1) [t0] r0 with
      | none => simp only [chainedF, e1, e2] at e'; cases e'
      | some y =>
        obtain ⟨ts2, r2⟩ := y
        simp only [chainedF, e1, e2] at e'
        obtain ⟨h1, h2⟩ := hp _ _ _ e1
        obtain ⟨us, rfl, h3, h4⟩ := chainF_gv (kd_wd_ne k) hp _ _ _ _ _ e2
        by_cases q8 : 8 < ([t0] ++ us).length
        · rw [if_pos q8] at e'; cases e'
        rw [if_neg q8] at e'
        cases e'
        cases us with
        | nil =>
          rw [show [t0] ++ [] = [t0] from rfl] at e
          rw [lvF_one e] at h
          cases h
          have len : (wdX (m + 1) t k.rank).length ≤ (wdX m t (k.rank + 1)).length := by
            rw [wdX_succ h1.fit.ok]
            exact wdX_le _ _ (by omega)
          refine ⟨⟨fun z => ?_, fun z => ?_⟩, by simp at h4; omega⟩
          · obtain ⟨n', e, w⟩ := h1.1 (by omega)
            exact ⟨n', e, w.up.1⟩
          · exact h1.fit.up.1
        | cons u us =>
          rw [lvF_many e (by simp)] at h
          cases h
          have fitX : FitX (m + 1) n (.mk (.ch k ([t0] ++ u :: us))) := ⟨by simp, by omega, fun v hv => by
            rcases List.mem_cons.mp (show v ∈ t0 :: u :: us from hv) with z | z
            · rw [z]; exact h1
            · exact h3 v z⟩
          refine ⟨⟨fun z => absurd (show k.rank < k.rank from z) (Int.lt_irrefl _), fun _ => fitX⟩, ?_⟩
          have ew : wdX (m + 1) (.mk (.ch k ([t0] ++ u :: us))) k.rank = wdX m t0 (k.rank + 1) ++ (u :: us).flatMap fun u => k.wd :: wdX m u (k.rank + 1) := if_neg (Int.lt_irrefl _)
          rw [ew, List.length_append]
          omega
theorem wholeF_gv {p : PRd} {n m : Nat} (hp : GvP p 4 n m) : GvP (wholeF p) 1 n (m + 3) := lvF_gv (k := .most) (lvF_gv (k := .least) (lvF_gv (k := .sum) hp))
theorem numOf_ne {z : Str} {c : Int} (h : numOf z = some c) : z ≠ "" := fun e => by
  rw [e, (by decide : numOf "" = none)] at h
  cases h
theorem singleF_gv : ∀ n, GvP (singleF n) 4 n (4 * n + 1) := by
  have key : ∀ n, (∀ q, subF n = some q → ∃ n', n = n' + 1 ∧ q = singleF n' ∧ GvP q 4 n' (4 * n' + 1)) → GvP (singleF n) 4 n (4 * n + 1) := fun n hs ws t r h => by
    rw [singleF_eq] at h
    by_cases q1 : ws.headD "" = "("
    · rw [if_pos q1] at h
      have tl := tail_len (by decide) q1
      unfold bracketF at h
      cases e : subF n with
      | none => rw [e] at h; cases h
      | some p =>
        obtain ⟨n', rfl, _, hp⟩ := hs p e
        rw [e] at h
        simp only [Option.map_some] at h
        cases e2 : wholeF p ws.tail with
        | none => rw [e2] at h; cases h
        | some x =>
          obtain ⟨t1, r1⟩ := x
          rw [e2] at h
          simp only at h
          by_cases q : r1.headD "" = ")"
          · rw [if_pos q] at h
            cases h
            have tl2 := tail_len (by decide) q
            obtain ⟨h1, h2⟩ := wholeF_gv hp _ _ _ e2
            have w := h1.2 (by have := rk_one t; omega)
            have wm : FitX (4 * (n' + 1) + 1) n' t := w.mono (by omega)
            refine ⟨⟨fun _ => ⟨n', rfl, wm⟩, fun _ => wm.up.2⟩, ?_⟩
            have l2 : (wdX (4 * (n' + 1) + 1) t 4).length ≤ (wdX (4 * (n' + 1) + 1) t 1).length + 2 := wdX_le2 4
            rw [wdX_mono (m := 4 * n' + 1 + 3) (n := 4 * (n' + 1) + 1) w.ok (by omega) 1] at l2
            omega
          · rw [if_neg q] at h; cases h
    · rw [if_neg q1] at h
      by_cases q2 : ws.headD "" = "["
      · rw [if_pos q2] at h
        have tl := tail_len (by decide) q2
        cases e : subF n with
        | none => rw [e, gated_non] at h; cases h
        | some p =>
          obtain ⟨n', rfl, _, hp⟩ := hs p e
          rw [e] at h
          obtain ⟨b, t1, r1, g1, g2, g3, g4, g5, g6⟩ := gated_inv h
          cases g6
          obtain ⟨h1, h2⟩ := hp _ _ _ g5
          have rb := numOf_rng g2
          have t1l := tail_len (fun z => by rw [z] at g1; exact absurd g1 (by decide)) (rfl : ws.tail.headD "" = _)
          have t2l := tail_len (numOf_ne g2) rfl
          have t3l := tail_len (by decide) g4
          refine ⟨⟨fun z => absurd (show (4 : Int) < 4 from z) (by omega), fun _ => ⟨g1, by omega, by omega, n', rfl, h1.mono (by omega)⟩⟩, ?_⟩
          show (wdX (4 * (n' + 1)) t1 4).length + 1 + 1 + 1 + 1 + _ ≤ _
          rw [wdX_mono (m := 4 * n' + 1) (n := 4 * (n' + 1)) h1.fit.ok (by omega) 4]
          omega
      · rw [if_neg q2] at h
        unfold leafF at h
        by_cases q : nameB (ws.headD "") = true
        · rw [if_pos q] at h
          cases h
          have tl := tail_len (fun z => by rw [z] at q; exact absurd q (by decide)) (rfl : ws.headD "" = _)
          exact ⟨⟨fun z => absurd (show (4 : Int) < 4 from z) (by omega), fun _ => q⟩, by show 1 + _ ≤ _; omega⟩
        · rw [if_neg q] at h
          cases e : numOf (ws.headD "") with
          | none => rw [e] at h; cases h
          | some c =>
            rw [e] at h
            cases h
            have tl := tail_len (numOf_ne e) (rfl : ws.headD "" = _)
            exact ⟨⟨fun z => absurd (show (4 : Int) < 4 from z) (by omega), fun _ => numOf_rng e⟩, by show 1 + _ ≤ _; omega⟩
  intro n
  induction n with
  | zero => exact key 0 fun q h => nomatch h
  | succ n ih =>
    refine key (n + 1) fun q h => ?_
    cases h
    exact ⟨n, rfl, rfl, ih⟩
theorem parse_gv {ws : List Str} {t : Pt} (h : parseF ws = some t) : FitX 12 2 t ∧ (wdX 12 t 1).length ≤ ws.length := by
  unfold parseF at h
  cases e : wholeF (singleF 2) ws with
  | none => rw [e] at h; cases h
  | some x =>
    obtain ⟨t1, r1⟩ := x
    rw [e] at h
    simp only at h
    by_cases q : r1.headD "" = ""
    · rw [if_pos q] at h
      cases h
      obtain ⟨h1, h2⟩ := wholeF_gv (singleF_gv 2) _ _ _ e
      have h2 : (wdX 12 t 1).length + r1.length ≤ ws.length := h2
      exact ⟨h1.2 (by have := rk_one t; omega), by omega⟩
    · rw [if_neg q] at h; cases h
theorem parse_back {t : Pt} (h : FitX 12 2 t) : parseF (wdX 12 t 1) = some t := by
  have := whole_runX (singleN_runX 2) 12 t [] ⟨fun z => absurd z (by have := rk_one t; omega), fun _ => h⟩ fun _ hw => nomatch hw
  rw [List.append_nil] at this
  simp only [parseF, this]
  rfl
/-! its text -/
theorem tok_NdX {α : Type} {C : α → Prop} {w : α → Int → Str} {d : α → Int → List Str} (h : ∀ t f, C t → TokT (w t f) (d t f)) : ∀ (t : Nd α) (f : Int), NdOkX C t → TokT (wrNd w t f) (wdNd d t f)
  | .num n, f, ⟨h0, h1⟩ => tok_num h0 h1
  | .nm x, f, hx => tok_name hx
  | .gate x b t, f, ⟨hx, b0, b1, ct⟩ => by
    intro r ws hT hr
    show Toks (("[" ++ x ++ " " ++ numS b ++ "] " ++ w t 4 : Str).cps.toList ++ r) _
    simp only [cps_app, List.append_assoc]
    have t1 := h t 4 ct r ws hT hr
    have t2 := tok_sg (c := 93) (by decide +kernel) (.sp t1)
    have t3 := tok_num (by omega) b1 _ _ t2.1 t2.2
    have t4 := tok_name hx _ _ (.sp t3) cut_sp
    exact (tok_sg (c := 91) (by decide +kernel) t4).1
  | .ch k [], f, ⟨h2, _, _⟩ => by simp at h2
  | .ch k (t :: ts), f, ⟨_, _, ct⟩ => by
    have ho : TokT (wrOut w k (t :: ts)) (wdOut d k (t :: ts)) := tok_out k ts _ _ (fun u hu => h u _ (ct u (List.mem_cons_of_mem _ hu))) (h t _ (ct t List.mem_cons_self))
    by_cases hk : k.rank < f
    · rw [show wrNd w (.ch k (t :: ts)) f = "(" ++ wrOut w k (t :: ts) ++ ")" from if_pos hk, show wdNd d (.ch k (t :: ts)) f = ("(" : Str) :: wdOut d k (t :: ts) ++ [(")" : Str)] from if_pos hk]
      intro r ws hT hr
      simp only [cps_app, List.append_assoc]
      have t1 := tok_sg (c := 41) (by decide +kernel) hT
      have t2 := ho _ _ t1.1 t1.2
      have t3 := (tok_sg (c := 40) (by decide +kernel) t2).1
      exact t3
    · rw [show wrNd w (.ch k (t :: ts)) f = wrOut w k (t :: ts) from if_neg hk, show wdNd d (.ch k (t :: ts)) f = wdOut d k (t :: ts) from if_neg hk]
      exact ho
theorem tok_X : ∀ (m : Nat) (t : Pt) (f : Int), PtOk m t → TokT (wrX m t f) (wdX m t f)
  | 0, _, _, h => h.elim
  | m + 1, .mk d, f, h => tok_NdX (fun t f ht => tok_X m t f ht) d f h
theorem len_wd : ∀ (m : Nat) (t : Pt) (f : Int), PtOk m t → (wrX m t f).length ≤ 6 * (wdX m t f).length
  | 0, _, _, h => h.elim
  | m + 1, .mk d, f, h => by
    show (wrNd (wrX m) d f).length ≤ 6 * (wdNd (wdX m) d f).length
    have h : NdOkX (PtOk m) d := h
    cases d with
    | num n =>
      have := small_str n h.1 h.2
      show (numS n).length ≤ 6 * 1
      have : (numS n).length ≤ 2 := this
      omega
    | nm x => exact name_len h
    | gate x b t =>
      obtain ⟨hx, b0, b1, ct⟩ := h
      have lx := name_len hx
      have lb : (numS b).length ≤ 2 := small_str b (by omega) b1
      have ih := len_wd m t 4 ct
      show ("[" ++ x ++ " " ++ numS b ++ "] " ++ wrX m t 4).length ≤ 6 * ((wdX m t 4).length + 1 + 1 + 1 + 1)
      have l1 : ("[" : Str).length = 1 := rfl
      have l2 : (" " : Str).length = 1 := rfl
      have l3 : ("] " : Str).length = 2 := rfl
      simp only [len_app]
      omega
    | ch k ts =>
      obtain ⟨h2, _, ct⟩ := h
      have lo : (wrOut (wrX m) k ts).length ≤ 6 * (wdOut (wdX m) k ts).length := by
        cases ts with
        | nil => simp at h2
        | cons t ts =>
          have l0 := len_wd m t (k.rank + 1) (ct t List.mem_cons_self)
          have ct : ∀ u ∈ ts, PtOk m u := fun u hu => ct u (List.mem_cons_of_mem _ hu)
          have key : ∀ (us : List Pt) (o : Str) (N : Nat), (∀ u ∈ us, PtOk m u) → o.length ≤ 6 * N → (us.foldl (fun o u => o ++ k.sign ++ wrX m u (k.rank + 1)) o).length ≤ 6 * (N + (us.flatMap fun u => k.wd :: wdX m u (k.rank + 1)).length) := by
            intro us
            induction us with
            | nil => intro o N _ h; simpa using h
            | cons u us ih =>
              intro o N hu ho
              have lu := len_wd m u (k.rank + 1) (hu u List.mem_cons_self)
              have lsg : k.sign.length = 3 := by cases k <;> rfl
              have := ih (o ++ k.sign ++ wrX m u (k.rank + 1)) (N + 1 + (wdX m u (k.rank + 1)).length) (fun v hv => hu v (List.mem_cons_of_mem _ hv)) (by simp only [len_app]; omega)
              rw [List.foldl_cons, List.flatMap_cons, List.length_append, List.length_cons]
              omega
          have := key ts _ _ ct l0
          show _ ≤ 6 * (wdX m t (k.rank + 1) ++ ts.flatMap fun u => k.wd :: wdX m u (k.rank + 1)).length
          rw [List.length_append]
          exact this
      show (if k.rank < f then "(" ++ wrOut (wrX m) k ts ++ ")" else wrOut (wrX m) k ts).length ≤ 6 * (if k.rank < f then ("(" : Str) :: wdOut (wdX m) k ts ++ [(")" : Str)] else wdOut (wdX m) k ts).length
      split
      · have l1 : ("(" : Str).length = 1 := rfl
        have l2 : (")" : Str).length = 1 := rfl
        simp only [len_app, List.length_cons, List.length_append, List.length_nil]
        omega
      · exact lo
theorem wdX_01 {m : Nat} {t : Pt} : wdX m t 0 = wdX m t 1 := by
  have := (wdX_f (m := m) (t := t) 0).2 (by have := rk_one t; omega)
  exact this
/-- what a text tells, told, is told so again -/
theorem tells_again {z text : Str} (h : Tells z text) : Tells text text := by
  obtain ⟨_, ws, T, hT, lw, hp, rfl⟩ := h
  obtain ⟨f1, f2⟩ := parse_gv hp
  have tk := toks_of (tok_X 12 T 0 f1.ok)
  have ln := len_wd 12 T 0 f1.ok
  rw [wdX_01] at tk ln
  exact ⟨by omega, _, T, tk.toE, by omega, parse_back f1, rfl⟩
/-! words are not empty -/
theorem TokE.ne {l : List Nat} {ws : List Str} {ok : Bool} (h : TokE l ws ok) : (∀ w ∈ ws, w ≠ "" ∧ w.length ≤ l.length) ∧ ws.length ≤ l.length := by
  have mk0 : ∀ x : List Nat, x ≠ [] → (⟨x.toArray⟩ : Str) ≠ "" := fun x hx e => hx (by
    have : x.toArray = #[] := congrArg PySem.Str.cps e
    simpa using this)
  have big : ∀ (x r : List Nat) (ws : List Str), x ≠ [] → (∀ w ∈ ws, w ≠ "" ∧ w.length ≤ r.length) ∧ ws.length ≤ r.length → (∀ w ∈ (⟨x.toArray⟩ : Str) :: ws, w ≠ "" ∧ w.length ≤ (x ++ r).length) ∧ ((⟨x.toArray⟩ : Str) :: ws).length ≤ (x ++ r).length := fun x r ws hx ⟨h1, h2⟩ => by
    have := List.length_pos_iff.mpr hx
    refine ⟨fun w hw => ?_, by rw [List.length_cons, List.length_append]; omega⟩
    rcases List.mem_cons.mp hw with z | z
    · rw [z, mk_len x, List.length_append]
      exact ⟨mk0 x hx, by omega⟩
    · have := h1 w z
      rw [List.length_append]
      exact ⟨this.1, by omega⟩
  induction h with
  | nil => exact ⟨fun w hw => (nomatch hw), Nat.le_refl _⟩
  | bad _ _ _ _ => exact ⟨fun w hw => (nomatch hw), Nat.zero_le _⟩
  | sp _ ih => exact ⟨fun w hw => ⟨(ih.1 w hw).1, by have := (ih.1 w hw).2; rw [List.length_cons]; omega⟩, by rw [List.length_cons]; omega⟩
  | @sg c r ws ok hc _ ih => exact big [c] r ws (by simp) ih
  | @lt x r ws ok hx _ _ _ ih => exact big x r ws hx ih
  | @fg x r ws ok hx _ _ _ ih => exact big x r ws hx ih
/-! ### laws k36 and k04: what both use -/
abbrev sp_treeF4 : Sp := fun vs H Q E => ∃ i : Fin 4, sp_treeG (TreeR i.1) (TreeOk i.1) i.1 vs H Q E
abbrev sp_wrX12 : Sp := sp_written (TrX 12) (PtT 12) (wrX 12)
abbrev sp_lch : Sp := sp_lr (wholeF (singleF 2)) 2 12 [.int 1]
theorem parse_none {ws : List Str} (h : wholeF (singleF 2) ws = none) : parseF ws = none := by
  unfold parseF
  rw [h]
theorem parse_some {ws r : List Str} {t : Pt} (h : wholeF (singleF 2) ws = some (t, r)) (hr : ∀ w ∈ r, w ≠ "") : parseF ws = if r = [] then some t else none := by
  unfold parseF
  rw [h]
  cases r with
  | nil => rfl
  | cons a r =>
    have : ¬ ((a :: r).headD "" = "") := hr a List.mem_cons_self
    simp only
    rw [if_neg this, if_neg (by simp)]
theorem ndB_40 : ∀ n : Nat, n ≤ 3 → ndB n ≤ 40
  | 0, _ => by decide
  | 1, _ => by decide
  | 2, _ => by decide
  | 3, _ => by decide
theorem emb_len {ys : List Str} (hy : ∀ x ∈ ys, nameB x = true) {n : Nat} (hn : n ≤ 3) {t : TrD n} (h : TreeOk n ys t) : (wrX 12 (emb n t) 0).length ≤ 1600 := by
  have b := ndB_40 n hn
  have o := emb_ok hy n t h
  have l := emb_nodes n t h
  have q := len_wrX 12 (emb n t) 0 (o.mono (show n + 1 ≤ 12 by omega))
  rw [nodes_mono o (by omega)] at q
  omega
/-! ### law k04: words, their text, its words -/
def GdW (w : Str) : Prop := (w.cps.toList ≠ [] ∧ ∀ c ∈ w.cps.toList, c ∈ LT) ∨ (w.cps.toList ≠ [] ∧ ∀ c ∈ w.cps.toList, c ∈ FG) ∨ ∃ c, c ∈ SG ∧ w.cps.toList = [c]
def BdW (w : Str) : Prop := ∃ c, ¬ c ∈ LT ∧ ¬ c ∈ FG ∧ ¬ c ∈ SG ∧ c ≠ 32 ∧ w.cps.toList = [c]
def LWd (w : Str) : Prop := (GdW w ∨ BdW w) ∧ w.length ≤ 7
theorem tok_blanks : ∀ b : Nat, TokE (List.replicate b 32) [] true
  | 0 => .nil
  | b + 1 => .sp (tok_blanks b)
theorem tok_word {w : Str} (h : LWd w) {R : List Nat} {ws : List Str} {ok : Bool} (hR : ∀ c, R.head? = some c → c = 32) (hT : TokE R ws ok) : ∃ ws' ok', TokE (w.cps.toList ++ R) ws' ok' ∧ (ok' = true → GdW w ∧ ok = true ∧ ws' = w :: ws) ∧ (ok' = false → BdW w ∨ ok = false) := by
  have e : (⟨w.cps.toList.toArray⟩ : Str) = w := by cases w; simp
  obtain ⟨h, _⟩ := h
  rcases h with (⟨h1, h2⟩ | ⟨h1, h2⟩ | ⟨c, h1, h2⟩) | ⟨c, b1, b2, b3, b4, h2⟩
  · have := TokE.lt h1 h2 (fun c hc => by rw [hR c hc]; decide) hT
    rw [e] at this
    exact ⟨_, _, this, fun z => ⟨.inl ⟨h1, h2⟩, z, rfl⟩, .inr⟩
  · have := TokE.fg h1 h2 (fun c hc => by rw [hR c hc]; decide) hT
    rw [e] at this
    exact ⟨_, _, this, fun z => ⟨.inr (.inl ⟨h1, h2⟩), z, rfl⟩, .inr⟩
  · have := TokE.sg h1 hT
    rw [h2]
    have e2 : (⟨#[c]⟩ : Str) = w := by rw [← e, h2]
    rw [e2] at this
    exact ⟨_, _, this, fun z => ⟨.inr (.inr ⟨c, h1, h2⟩), z, rfl⟩, .inr⟩
  · rw [h2]
    exact ⟨_, _, .bad b1 b2 b3 b4, fun z => (by cases z), fun _ => .inl ⟨c, b1, b2, b3, b4, h2⟩⟩
theorem tok_join (b : Nat) : ∀ ws : List Str, (∀ w ∈ ws, LWd w) → ∃ ws' ok, TokE (TL.joinL [32] (ws.map TL.tl) ++ List.replicate b 32) ws' ok ∧ (ok = true → ws' = ws) ∧ (ok = false → ∃ w ∈ ws, BdW w)
  | [], _ => ⟨_, _, tok_blanks b, fun _ => rfl, fun z => (by cases z)⟩
  | [w], h => by
    obtain ⟨ws', ok, t, h1, h2⟩ := tok_word (h w List.mem_cons_self) (R := List.replicate b 32) (fun c hc => by
      cases b with
      | zero => cases hc
      | succ b => cases hc; rfl) (tok_blanks b)
    refine ⟨ws', ok, t, fun z => (h1 z).2.2, fun z => ⟨w, List.mem_cons_self, ?_⟩⟩
    rcases h2 z with q | q
    · exact q
    · cases q
  | w :: u :: r, h => by
    obtain ⟨ws1, ok1, t1, a1, a2⟩ := tok_join b (u :: r) fun v hv => h v (List.mem_cons_of_mem _ hv)
    obtain ⟨ws', ok, t, h1, h2⟩ := tok_word (h w List.mem_cons_self) (R := 32 :: (TL.joinL [32] ((u :: r).map TL.tl) ++ List.replicate b 32)) (fun c hc => by cases hc; rfl) (.sp t1)
    refine ⟨ws', ok, ?_, fun z => ?_, fun z => ?_⟩
    · have e : TL.joinL [32] ((w :: u :: r).map TL.tl) ++ List.replicate b 32 = w.cps.toList ++ (32 :: (TL.joinL [32] ((u :: r).map TL.tl) ++ List.replicate b 32)) := by
        show (w.cps.toList ++ ([32] ++ TL.joinL [32] ((u :: r).map TL.tl))) ++ _ = _
        simp
      rw [e]
      exact t
    · obtain ⟨_, q1, q2⟩ := h1 z
      rw [q2, a1 q1]
    · rcases h2 z with q | q
      · exact ⟨w, List.mem_cons_self, q⟩
      · obtain ⟨v, hv, q⟩ := a2 q
        exact ⟨v, List.mem_cons_of_mem _ hv, q⟩
theorem join_len : ∀ ws : List Str, (∀ w ∈ ws, LWd w) → (TL.joinL [32] (ws.map TL.tl)).length ≤ 8 * ws.length
  | [], _ => Nat.zero_le _
  | [w], h => by
    have := (h w List.mem_cons_self).2
    show (w.cps.toList).length ≤ _
    have e : w.cps.toList.length = w.length := Array.length_toList
    rw [e]
    simp only [List.length_cons, List.length_nil]
    omega
  | w :: u :: r, h => by
    have l := (h w List.mem_cons_self).2
    have ih := join_len (u :: r) fun v hv => h v (List.mem_cons_of_mem _ hv)
    show (w.cps.toList ++ ([32] ++ TL.joinL [32] ((u :: r).map TL.tl))).length ≤ _
    have e : w.cps.toList.length = w.length := Array.length_toList
    simp only [List.length_append, List.length_cons, List.length_nil] at ih ⊢
    omega
/-! what is read off is good -/
def EatG (p : PRd) : Prop := ∀ ws t r, p ws = some (t, r) → ∃ pre, ws = pre ++ r ∧ ∀ w ∈ pre, ¬ BdW w
theorem bd_sign {w : Str} {c : Nat} (e : w.cps.toList = [c]) (h : c ∈ LT ∨ c ∈ FG ∨ c ∈ SG ∨ c = 32) : ¬ BdW w := by
  rintro ⟨d, d1, d2, d3, d4, q⟩
  rw [e] at q
  cases q
  rcases h with h | h | h | h
  · exact d1 h
  · exact d2 h
  · exact d3 h
  · exact d4 h
theorem bd_name {w : Str} (h : nameB w = true) : ¬ BdW w := by
  rintro ⟨d, d1, d2, d3, d4, q⟩
  unfold nameB at h
  rw [Bool.and_eq_true, Bool.and_eq_true] at h
  have := List.all_eq_true.mp h.2.2 d (by rw [q]; exact List.mem_cons_self)
  exact d1 (of_decide_eq_true this)
theorem bd_num {w : Str} {c : Int} (h : numOf w = some c) : ¬ BdW w := by
  rintro ⟨d, d1, d2, d3, d4, q⟩
  unfold numOf at h
  rw [q] at h
  simp only at h
  rw [if_neg d2] at h
  cases h
theorem bd_kd (k : Kd) : ¬ BdW k.wd := by
  cases k
  · exact bd_sign (c := 43) rfl (by decide)
  · exact bd_sign (c := 38) rfl (by decide)
  · exact bd_sign (c := 124) rfl (by decide)
theorem cons_head {ws : List Str} (h : ws.headD "" ≠ "") : ws = ws.headD "" :: ws.tail := by
  cases ws with
  | nil => exact absurd rfl h
  | cons a r => rfl
theorem eat_cons {ws r : List Str} {w : Str} (hw : ws.headD "" = w) (hne : w ≠ "") (hb : ¬ BdW w) (h : ∃ pre, ws.tail = pre ++ r ∧ ∀ w ∈ pre, ¬ BdW w) : ∃ pre, ws = pre ++ r ∧ ∀ w ∈ pre, ¬ BdW w := by
  obtain ⟨pre, e, g⟩ := h
  refine ⟨w :: pre, ?_, fun v hv => ?_⟩
  · have := cons_head (ws := ws) (by rw [hw]; exact hne)
    rw [hw, e] at this
    exact this
  · rcases List.mem_cons.mp hv with z | z
    · rw [z]; exact hb
    · exact g v z
theorem eat_app {ws m r : List Str} (h : ∃ pre, ws = pre ++ m ∧ ∀ w ∈ pre, ¬ BdW w) (h2 : ∃ pre, m = pre ++ r ∧ ∀ w ∈ pre, ¬ BdW w) : ∃ pre, ws = pre ++ r ∧ ∀ w ∈ pre, ¬ BdW w := by
  obtain ⟨p1, e1, g1⟩ := h
  obtain ⟨p2, e2, g2⟩ := h2
  refine ⟨p1 ++ p2, by rw [e1, e2, List.append_assoc], fun v hv => ?_⟩
  rcases List.mem_append.mp hv with z | z
  · exact g1 v z
  · exact g2 v z
theorem chainF_eat {p : PRd} {k : Kd} (hp : EatG p) : ∀ (g : Nat) (acc : List Pt) (ws : List Str) (ts : List Pt) (r : List Str), chainF p k.wd g acc ws = some (ts, r) → ∃ pre, ws = pre ++ r ∧ ∀ w ∈ pre, ¬ BdW w
  | 0, _, _, _, _, h => by cases h
  | g + 1, acc, ws, ts, r, h => by
    rw [chainF] at h
    by_cases q : ws.headD "" = k.wd
    · rw [if_pos q] at h
      cases e : p ws.tail with
      | none => rw [e] at h; cases h
      | some x =>
        obtain ⟨t, r1⟩ := x
        rw [e] at h
        exact eat_cons q (kd_wd_ne k) (bd_kd k) (eat_app (hp _ _ _ e) (chainF_eat hp g _ _ _ _ h))
    · rw [if_neg q] at h
      cases h
      exact ⟨[], rfl, fun w hw => nomatch hw⟩
theorem lvF_eat {p : PRd} {k : Kd} (hp : EatG p) : EatG (lvF k p) := fun ws t r h => by
  cases e : chainedF p k.wd ws with
  | none => rw [lvF_none e] at h; cases h
  | some x =>
    obtain ⟨ts, r1⟩ := x
    have e' := e
    have key : ∃ pre, ws = pre ++ r1 ∧ ∀ w ∈ pre, ¬ BdW w := by
      cases e1 : p ws with
      | none => simp only [chainedF, e1] at e'; cases e'
      | some x =>
        obtain ⟨t0, r0⟩ := x
        cases e2 : chainF p k.wd (r0.length + 1) [t0] r0 with
        | none => simp only [chainedF, e1, e2] at e'; cases e'
        | some y =>
          obtain ⟨ts2, r2⟩ := y
          simp only [chainedF, e1, e2] at e'
          by_cases q8 : 8 < ts2.length
          · rw [if_pos q8] at e'; cases e'
          rw [if_neg q8] at e'
          cases e'
          exact eat_app (hp _ _ _ e1) (chainF_eat hp _ _ _ _ _ e2)
    by_cases q : ts.length = 1
    · match ts, q with
      | [t1], _ =>
        rw [lvF_one e] at h
        cases h
        exact key
    · rw [lvF_many e q] at h
      cases h
      exact key
theorem wholeF_eat {p : PRd} (hp : EatG p) : EatG (wholeF p) := lvF_eat (lvF_eat (lvF_eat hp))
theorem singleF_eat : ∀ n, EatG (singleF n) := by
  have key : ∀ n, (∀ q, subF n = some q → EatG q) → EatG (singleF n) := fun n hs ws t r h => by
    rw [singleF_eq] at h
    by_cases q1 : ws.headD "" = "("
    · rw [if_pos q1] at h
      refine eat_cons q1 (by decide) (bd_sign (c := 40) rfl (by decide)) ?_
      unfold bracketF at h
      cases e : subF n with
      | none => rw [e] at h; cases h
      | some p =>
        rw [e] at h
        simp only [Option.map_some] at h
        cases e2 : wholeF p ws.tail with
        | none => rw [e2] at h; cases h
        | some x =>
          obtain ⟨t1, r1⟩ := x
          rw [e2] at h
          simp only at h
          by_cases q : r1.headD "" = ")"
          · rw [if_pos q] at h
            cases h
            exact eat_app (wholeF_eat (hs p e) _ _ _ e2) (eat_cons q (by decide) (bd_sign (c := 41) rfl (by decide)) ⟨[], rfl, fun w hw => nomatch hw⟩)
          · rw [if_neg q] at h; cases h
    · rw [if_neg q1] at h
      by_cases q2 : ws.headD "" = "["
      · rw [if_pos q2] at h
        refine eat_cons q2 (by decide) (bd_sign (c := 91) rfl (by decide)) ?_
        cases e : subF n with
        | none => rw [e, gated_non] at h; cases h
        | some p =>
          rw [e] at h
          obtain ⟨b, t1, r1, g1, g2, g3, g4, g5, g6⟩ := gated_inv h
          cases g6
          exact eat_cons rfl (fun z => by rw [z] at g1; exact absurd g1 (by decide)) (bd_name g1) (eat_cons rfl (numOf_ne g2) (bd_num g2) (eat_cons g4 (by decide) (bd_sign (c := 93) rfl (by decide)) (hs p e _ _ _ g5)))
      · rw [if_neg q2] at h
        unfold leafF at h
        by_cases q : nameB (ws.headD "") = true
        · rw [if_pos q] at h
          cases h
          exact eat_cons rfl (fun z => by rw [z] at q; exact absurd q (by decide)) (bd_name q) ⟨[], rfl, fun w hw => nomatch hw⟩
        · rw [if_neg q] at h
          cases e : numOf (ws.headD "") with
          | none => rw [e] at h; cases h
          | some c =>
            rw [e] at h
            cases h
            exact eat_cons rfl (numOf_ne e) (bd_num e) ⟨[], rfl, fun w hw => nomatch hw⟩
  intro n
  induction n with
  | zero => exact key 0 fun q h => nomatch h
  | succ n ih =>
    refine key (n + 1) fun q h => ?_
    cases h
    exact ih
/-! a text taken apart at blanks and brackets -/
abbrev BR : List Nat := [40, 41, 91, 93]
def pwF : List Nat → List Nat → List (List Nat)
  | left, [] => [left]
  | left, c :: r => if c ∈ BR then left :: [c] :: pwF [] r else pwF (left ++ [c]) r
def lwF : List Nat → List Nat → List (List Nat)
  | left, [] => [left]
  | left, c :: r => if c = 32 then left :: lwF [] r else if c ∈ BR then left :: [c] :: lwF [] r else lwF (left ++ [c]) r
theorem lwF_no : ∀ (l left : List Nat), ¬ 32 ∈ l → lwF left l = pwF left l
  | [], _, _ => rfl
  | c :: r, left, h => by
    have hc : c ≠ 32 := fun e => h (by rw [e]; exact List.mem_cons_self)
    have hr : ¬ 32 ∈ r := fun e => h (List.mem_cons_of_mem _ e)
    rw [lwF, pwF, if_neg hc]
    split
    · rw [lwF_no r [] hr]
    · exact lwF_no r _ hr
theorem lwF_app (R : List Nat) : ∀ (l left : List Nat), ¬ 32 ∈ l → lwF left (l ++ 32 :: R) = pwF left l ++ lwF [] R
  | [], left, _ => by
    show lwF left (32 :: R) = _
    rw [lwF, if_pos rfl]
    rfl
  | c :: r, left, h => by
    have hc : c ≠ 32 := fun e => h (by rw [e]; exact List.mem_cons_self)
    have hr : ¬ 32 ∈ r := fun e => h (List.mem_cons_of_mem _ e)
    show lwF left (c :: (r ++ 32 :: R)) = _
    rw [lwF, pwF, if_neg hc]
    split
    · rw [lwF_app R r [] hr]
      rfl
    · exact lwF_app R r _ hr
theorem pre_32 (c : Nat) (r : List Nat) : TL.pre [32] (c :: r) = decide (c = 32) := by
  by_cases h : c = 32
  · rw [h, decide_eq_true rfl]
    exact TL.pre_self [32] r
  · rw [decide_eq_false h]
    exact TL.pre_of_head _ _ fun z => h z
theorem spl_lw : ∀ (l acc : List Nat), ¬ 32 ∈ acc → (TL.spl [32] 0 acc l).flatMap (pwF []) = lwF [] (acc ++ l)
  | [], acc, h => by
    rw [TL.spl_nil, List.append_nil, lwF_no acc [] h]
    simp
  | c :: r, acc, h => by
    by_cases hc : c = 32
    · rw [TL.spl_hit (by rw [pre_32, decide_eq_true hc]), hc, lwF_app r acc [] h]
      show pwF [] acc ++ (TL.spl [32] 0 [] r).flatMap (pwF []) = _
      rw [spl_lw r [] (by simp)]
      rfl
    · rw [TL.spl_miss (by rw [pre_32, decide_eq_false hc]), spl_lw r (acc ++ [c]) (by
        intro z
        rcases List.mem_append.mp z with q | q
        · exact h q
        · exact hc (List.mem_singleton.mp q).symm), List.append_assoc]
      rfl
theorem split_lw (z : Str) : ((Txt.split z " ").map TL.tl).flatMap (pwF []) = lwF [] z.cps.toList := by
  have e : TL.tl (" " : Str) = [32] := rfl
  have := TL.split_spl z " " (by rw [e]; simp) (TL.kind_ok (by decide +kernel))
  rw [this, e, spl_lw _ [] (by simp)]
  rfl
abbrev neL (x : List Nat) : Bool := decide (x ≠ [])
theorem lwF_len : ∀ (l left : List Nat), ((lwF left l).filter neL).length ≤ l.length + if left = [] then 0 else 1
  | [], left => by
    show ([left].filter neL).length ≤ _
    by_cases h : left = []
    · rw [h]; decide
    · rw [if_neg h]
      have := List.length_filter_le neL [left]
      simpa using this
  | c :: r, left => by
    have i0 := lwF_len r []
    have i1 := lwF_len r (left ++ [c])
    rw [if_pos rfl] at i0
    rw [if_neg (by simp)] at i1
    have hl : ∀ t : List (List Nat), ((left :: t).filter neL).length ≤ (t.filter neL).length + if left = [] then 0 else 1 := fun t => by
      by_cases h : left = []
      · rw [h, if_pos rfl]
        exact Nat.le_refl _
      · rw [List.filter_cons, if_pos (decide_eq_true h), if_neg h]
        exact Nat.le_refl _
    rw [lwF, List.length_cons]
    split
    · have := hl (lwF [] r)
      omega
    · split
      · have := hl ([c] :: lwF [] r)
        have e2 : (([c] :: lwF [] r).filter neL).length = ((lwF [] r).filter neL).length + 1 := by
          rw [List.filter_cons, if_pos (by simp)]
          rfl
        rw [e2] at this
        omega
      · omega
/-- a text that falls into words where a blank, a bracket or nothing is behind -/
def CutB (r : List Nat) : Prop := ∀ c, r.head? = some c → c = 32 ∨ c ∈ BR
def GL (x : List Nat) : Prop := GdW ⟨x.toArray⟩ ∧ x.length ≤ 7
def LwT (w : Str) : Prop := ∀ r, CutB r → (∀ x ∈ (lwF [] r).filter neL, GL x) → ∀ x ∈ (lwF [] (w.cps.toList ++ r)).filter neL, GL x
theorem lw_blank {r : List Nat} (h : ∀ x ∈ (lwF [] r).filter neL, GL x) : ∀ x ∈ (lwF [] (32 :: r)).filter neL, GL x := h
theorem lw_br {c : Nat} {r : List Nat} (hc : c ∈ BR) (h : ∀ x ∈ (lwF [] r).filter neL, GL x) : ∀ x ∈ (lwF [] (c :: r)).filter neL, GL x := by
  have e : lwF [] (c :: r) = [] :: [c] :: lwF [] r := by
    rw [lwF, if_neg (by rintro rfl; exact absurd hc (by decide)), if_pos hc]
  rw [e]
  intro x hx
  rw [List.filter_cons, if_neg (by simp), List.filter_cons, if_pos (by simp)] at hx
  rcases List.mem_cons.mp hx with z | z
  · rw [z]
    have : ∀ c ∈ BR, c ∈ SG := by decide
    exact ⟨.inr (.inr ⟨c, this c hc, rfl⟩), by simp⟩
  · exact h x z
theorem lw_tok {x r : List Nat} (hx : x ≠ []) (hg : GL x) (hn : ∀ c ∈ x, c ≠ 32 ∧ ¬ c ∈ BR) (hr : CutB r) (h : ∀ x ∈ (lwF [] r).filter neL, GL x) : ∀ y ∈ (lwF [] (x ++ r)).filter neL, GL y := by
  have run : ∀ (x left : List Nat), (∀ c ∈ x, c ≠ 32 ∧ ¬ c ∈ BR) → lwF left (x ++ r) = lwF (left ++ x) r := by
    intro x
    induction x with
    | nil => intro left _; simp
    | cons c x ih =>
      intro left hn
      show lwF left (c :: (x ++ r)) = _
      obtain ⟨n1, n2⟩ := hn c List.mem_cons_self
      rw [lwF, if_neg n1, if_neg n2, ih _ fun d hd => hn d (List.mem_cons_of_mem _ hd), List.append_assoc]
      rfl
  rw [run x [] hn, List.nil_append]
  have key : ∀ t, (∀ y ∈ t.filter neL, GL y) → ∀ y ∈ (x :: t).filter neL, GL y := fun t ht y hy => by
    rw [List.filter_cons, if_pos (decide_eq_true hx)] at hy
    rcases List.mem_cons.mp hy with z | z
    · rw [z]; exact hg
    · exact ht y z
  cases r with
  | nil => exact key [] (fun y hy => nomatch hy)
  | cons c r =>
    rcases hr c rfl with q | q
    · rw [lwF, if_pos q]
      rw [lwF, if_pos q] at h
      exact key _ h
    · have q0 : c ≠ 32 := by rintro rfl; exact absurd q (by decide)
      rw [lwF, if_neg q0, if_pos q]
      rw [lwF, if_neg q0, if_pos q] at h
      exact key _ h
theorem cutB_c {c : Nat} {r : List Nat} (h : c = 32 ∨ c ∈ BR) : CutB (c :: r) := fun d hd => by
  cases hd
  exact h
theorem lw_name {x : Str} (h : nameB x = true) : LwT x := by
  intro r hr hh
  have hl := name_len h
  unfold nameB at h
  rw [Bool.and_eq_true, Bool.and_eq_true] at h
  obtain ⟨h1, h2, h3⟩ := h
  have e : x = ⟨x.cps.toList.toArray⟩ := by cases x; simp
  have ne : x.cps.toList ≠ [] := fun q => of_decide_eq_true h1 (by rw [e, q]; rfl)
  have al : ∀ c ∈ x.cps.toList, c ∈ LT := fun c hc => of_decide_eq_true (List.all_eq_true.mp h3 c hc)
  refine lw_tok ne ⟨by rw [← e]; exact .inl ⟨ne, al⟩, by rw [Array.length_toList]; exact Nat.le_trans hl (by decide)⟩ (fun c hc => ?_) hr hh
  have : ∀ c ∈ LT, c ≠ 32 ∧ ¬ c ∈ BR := by decide
  exact this c (al c hc)
theorem lw_num {n : Int} (h0 : 0 ≤ n) (h1 : n ≤ 30) : LwT (numS n) := by
  intro r hr hh
  have hl : (numS n).length ≤ 2 := small_str n h0 h1
  obtain ⟨m, rfl⟩ : ∃ m : Nat, n = m := ⟨n.toNat, by omega⟩
  obtain ⟨f1, f2, f3, f4, f5, f6⟩ := num_facts m (by omega)
  generalize numS (m : Int) = x at f1 f2 f3 f4 f5 f6 hl
  have e : x = ⟨x.cps.toList.toArray⟩ := by cases x; simp
  have ne : x.cps.toList ≠ [] := fun q => f1 (by rw [e, q]; rfl)
  refine lw_tok ne ⟨by rw [← e]; exact .inr (.inl ⟨ne, f3⟩), by rw [Array.length_toList]; exact Nat.le_trans hl (by decide)⟩ (fun c hc => ?_) hr hh
  have : ∀ c ∈ FG, c ≠ 32 ∧ ¬ c ∈ BR := by decide
  exact this c (f3 c hc)
theorem lw_sign (k : Kd) {r : List Nat} (h : ∀ x ∈ (lwF [] r).filter neL, GL x) : ∀ x ∈ (lwF [] (k.sign.cps.toList ++ r)).filter neL, GL x := by
  have key : ∀ c : Nat, c ∈ SG → ¬ c ∈ BR → c ≠ 32 → ∀ x ∈ (lwF [] (32 :: c :: 32 :: r)).filter neL, GL x := fun c h1 h2 h3 =>
    lw_blank (lw_tok (x := [c]) (by simp) ⟨.inr (.inr ⟨c, h1, rfl⟩), by simp⟩ (fun d hd => by rw [List.mem_singleton.mp hd]; exact ⟨h3, h2⟩) (cutB_c (.inl rfl)) (lw_blank h))
  cases k
  · exact key 43 (by decide) (by decide) (by decide)
  · exact key 38 (by decide) (by decide) (by decide)
  · exact key 124 (by decide) (by decide) (by decide)
theorem sign_cut (k : Kd) (r : List Nat) : CutB (k.sign.cps.toList ++ r) := by
  cases k <;> exact cutB_c (.inl rfl)
theorem lw_out {α : Type} {w : α → Int → Str} (k : Kd) : ∀ (ts : List α) (o : Str), (∀ t ∈ ts, LwT (w t (k.rank + 1))) → LwT o → LwT (ts.foldl (fun o u => o ++ k.sign ++ w u (k.rank + 1)) o)
  | [], o, _, ho => ho
  | t :: ts, o, h, ho => by
    rw [List.foldl_cons]
    refine lw_out k ts _ (fun u hu => h u (List.mem_cons_of_mem _ hu)) ?_
    intro r hr hT
    rw [cps_app, cps_app, List.append_assoc, List.append_assoc]
    exact ho _ (sign_cut k _) (lw_sign k (h t List.mem_cons_self r hr hT))
theorem lw_NdX {α : Type} {C : α → Prop} {w : α → Int → Str} (h : ∀ t f, C t → LwT (w t f)) : ∀ (t : Nd α) (f : Int), NdOkX C t → LwT (wrNd w t f)
  | .num n, f, ⟨h0, h1⟩ => lw_num h0 h1
  | .nm x, f, hx => lw_name hx
  | .gate x b t, f, ⟨hx, b0, b1, ct⟩ => by
    intro r hr hT
    show ∀ y ∈ (lwF [] (("[" ++ x ++ " " ++ numS b ++ "] " ++ w t 4 : Str).cps.toList ++ r)).filter neL, GL y
    simp only [cps_app, List.append_assoc]
    have t1 := h t 4 ct r hr hT
    have t2 := lw_br (c := 93) (by decide) (lw_blank t1)
    have t3 := lw_num (n := b) (by omega) b1 _ (cutB_c (.inr (by decide))) t2
    have t4 := lw_name hx _ (cutB_c (.inl rfl)) (lw_blank t3)
    exact lw_br (c := 91) (by decide) t4
  | .ch k [], f, ⟨h2, _, _⟩ => by simp at h2
  | .ch k (t :: ts), f, ⟨_, _, ct⟩ => by
    have ho : LwT (wrOut w k (t :: ts)) := lw_out k ts _ (fun u hu => h u _ (ct u (List.mem_cons_of_mem _ hu))) (h t _ (ct t List.mem_cons_self))
    by_cases hk : k.rank < f
    · rw [show wrNd w (.ch k (t :: ts)) f = "(" ++ wrOut w k (t :: ts) ++ ")" from if_pos hk]
      intro r hr hT
      simp only [cps_app, List.append_assoc]
      have t1 := lw_br (c := 41) (by decide) hT
      have t2 := ho _ (cutB_c (.inr (by decide))) t1
      exact lw_br (c := 40) (by decide) t2
    · rw [show wrNd w (.ch k (t :: ts)) f = wrOut w k (t :: ts) from if_neg hk]
      exact ho
theorem lw_X : ∀ (m : Nat) (t : Pt) (f : Int), PtOk m t → LwT (wrX m t f)
  | 0, _, _, h => h.elim
  | m + 1, .mk d, f, h => lw_NdX (fun t f ht => lw_X m t f ht) d f h
theorem lw_all {m : Nat} {t : Pt} {f : Int} (h : PtOk m t) : ∀ x ∈ (lwF [] (wrX m t f).cps.toList).filter neL, GL x := by
  have := lw_X m t f h [] (fun c hc => nomatch hc) (fun x hx => by
    have e : (lwF [] []).filter neL = [] := by decide
    rw [e] at hx
    exact nomatch hx)
  rw [List.append_nil] at this
  exact this
/-! ### new objects, told without their places -/
theorem with_new {H : Hp} {p : Addr} {o : HO} {G : Hp → Prop} (h : H p = none) (k : ∀ H', Same H H' → H' p = some o → G H') : G (upd H p o) := k _ (same1 h) upd_same
theorem e_slN {K : PySem.W.Frag} {H : Hp} {Q : VK} {a : Addr} {xs : List V} {lo hi : Option Int} (h : SqL K H a xs) (q : ∀ p H', Same H H' → H p = none → H' p = some (.lst (cutV xs lo hi)) → Q (.ref p) H') : rSlL K (.ref a) lo hi H Q := e_slL h fun p hp => q p _ (same1 hp) hp upd_same
theorem e_catN {H : Hp} {Q : VK} {xs zs : List V} {l p : Addr} (h : H l = some (.lst xs)) (h2 : H p = some (.lst zs)) (c : xs.length + zs.length ≤ sizeLine) (q : ∀ r H', Same H H' → H r = none → H' r = some (.lst (xs ++ zs)) → Q (.ref r) H') : rCat (.ref l) (.ref p) H Q := e_cat h h2 c fun r hr => q r _ (same1 hr) hr upd_same
theorem e_repN {H : Hp} {Q : VK} {xs : List V} {l : Addr} {k : Int} (h : H l = some (.lst xs)) (h0 : 0 ≤ k) (h1 : k ≤ 1000) (c : xs.length * k.toNat ≤ sizeLine) (q : ∀ r H', Same H H' → H r = none → H' r = some (.lst (List.replicate k.toNat xs).flatten) → Q (.ref r) H') : rRep (.ref l) (.int k) H Q := ⟨l, k, xs, rfl, rfl, h, by omega, by omega, c, fun r hr => q r _ (same1 hr) hr upd_same⟩
/-! ### law k04: the walks -/
def toS (x : List Nat) : Str := ⟨x.toArray⟩
theorem mul_sp (n : Int) : (PySem.Txt.mul " " n).cps.toList = List.replicate n.toNat 32 := mul_one_list 32 n
theorem spl_le : ∀ (l acc : List Nat), ∀ x ∈ TL.spl [32] 0 acc l, x.length ≤ acc.length + l.length
  | [], acc, x, hx => by
    rw [TL.spl_nil] at hx
    rw [List.mem_singleton.mp hx]
    exact Nat.le_add_right _ _
  | c :: r, acc, x, hx => by
    by_cases hc : c = 32
    · rw [TL.spl_hit (by rw [pre_32, decide_eq_true hc])] at hx
      rcases List.mem_cons.mp hx with z | z
      · rw [z]; omega
      · have := spl_le r [] x z
        simp only [List.length_cons, List.length_nil] at *
        omega
    · rw [TL.spl_miss (by rw [pre_32, decide_eq_false hc])] at hx
      have := spl_le r _ x hx
      simp only [List.length_append, List.length_cons, List.length_nil] at *
      omega
theorem split_le {z p : Str} (h : p ∈ Txt.split z " ") : p.length ≤ z.length := by
  have e : TL.tl (" " : Str) = [32] := rfl
  have := TL.split_spl z " " (by rw [e]; simp) (TL.kind_ok (by decide +kernel))
  have hm : TL.tl p ∈ (Txt.split z " ").map TL.tl := List.mem_map.mpr ⟨p, h, rfl⟩
  rw [this, e] at hm
  have := spl_le _ _ _ hm
  have e1 : (TL.tl p).length = p.length := Array.length_toList
  have e2 : (TL.tl z).length = z.length := Array.length_toList
  rw [e1, e2] at this
  simpa using this
theorem sift_S (l : List (List Nat)) : (l.map toS).filter (fun s : Str => decide (s ≠ ("" : Str))) = (l.filter neL).map toS := by
  induction l with
  | nil => rfl
  | cons x l ih =>
    have e : decide (toS x ≠ ("" : Str)) = neL x := by
      cases x with
      | nil => exact (by decide : decide (toS [] ≠ ("" : Str)) = neL [])
      | cons a x =>
        have : toS (a :: x) ≠ ("" : Str) := fun z => by
          have : (toS (a :: x)).length = ("" : Str).length := congrArg PySem.Str.length z
          have e2 : (toS (a :: x)).length = (a :: x).length := mk_len _
          rw [e2] at this
          cases this
        rw [decide_eq_true this]
        exact (decide_eq_true (by simp)).symm
    rw [List.map_cons, List.filter_cons, List.filter_cons, e, ih]
    split <;> rfl
def sp_lwords (_ : PySem.W.Frag) : Sp := fun vs H Q _ => ∃ z : Str, vs = [.str z] ∧ z.length ≤ 400 ∧ ∀ l H', Same H H' → H l = none → H' l = some (.lst ((((lwF [] z.cps.toList).filter neL).map toS).map V.str)) → Q (.ref l) H'
theorem ln__law_words {K : PySem.W.Frag} {vs : List V} {H : Hp} {Q : VK} {E : XK} (h : sp_lwords K vs H Q E) : vs.length = 1 := by
  obtain ⟨_, rfl, _⟩ := h
  rfl
abbrev n__law_words : List Str := ["_law_text", "_law_out", "_law_one", "_law_left", "_law_sign"]
def t__law_words (K : PySem.W.Frag) (W : WX) : TS :=
  tSeq (tAsg (tLst tNil) (gName 1))
  (tSeq (tFor (iList K (tTM rSplitT (tVar 0) (tC (.str " ")))) (gName 2) (tSeq (tAsg (tC (.str "")) (gName 3))
  (tSeq (tFor (iStr (tVar 2)) (gName 4) (tIfS (tTest (tOp rInS (tVar 4) (tC (.str "()[]")))) (tSeq (tDrop (tBM K "list" rAppend (tVar 1) (tCons (tVar 3) tNil)))
  (tSeq (tDrop (tBM K "list" rAppend (tVar 1) (tCons (tVar 4) tNil)))
  (tAsg (tC (.str "")) (gName 3)))) (tAsg (tOp rAddS (tVar 3) (tVar 4)) (gName 3))))
  (tDrop (tBM K "list" rAppend (tVar 1) (tCons (tVar 3) tNil))))))
  (tRet (tLc (iList K (tVar 1)) (gName 2) (tTest (tOp rNe (tVar 2) (tC (.str "")))) (tVar 2) [2])))
theorem pwF_len : ∀ (l left : List Nat), (pwF left l).length ≤ 2 * l.length + 1
  | [], _ => Nat.le_refl _
  | c :: r, left => by
    have i0 := pwF_len r []
    have i1 := pwF_len r (left ++ [c])
    rw [pwF, List.length_cons]
    split
    · simp only [List.length_cons]; omega
    · omega
theorem lwF_len2 : ∀ (l left : List Nat), (lwF left l).length ≤ 2 * l.length + 1
  | [], _ => Nat.le_refl _
  | c :: r, left => by
    have i0 := lwF_len2 r []
    have i1 := lwF_len2 r (left ++ [c])
    rw [lwF, List.length_cons]
    split
    · simp only [List.length_cons]; omega
    · split
      · simp only [List.length_cons]; omega
      · omega
theorem pre_flat {α β : Type} (f : α → List β) (xs : List α) (i : Nat) : ((xs.take i).flatMap f).length ≤ (xs.flatMap f).length := by
  have e : xs.flatMap f = (xs.take i).flatMap f ++ (xs.drop i).flatMap f := by rw [← List.flatMap_append, List.take_append_drop]
  rw [e, List.length_append]
  omega
theorem pure__law_words {K : PySem.W.Frag} {vs : List V} {H : Hp} {Q : VK} {E : XK} {W : WX} (h : sp_lwords K vs H Q E) : t__law_words K W { nx := fun _ H' => Q .non H', rt := Q } (start n__law_words vs) H := by
  obtain ⟨z, rfl, lz, kk⟩ := h
  have hm := mega
  have spl := split_lw z
  have lF := lwF_len2 z.cps.toList []
  have e0 : z.cps.toList.length = z.length := Array.length_toList
  show t__law_words K W _ [some (.str z), none, none, none, none] H
  unfold t__law_words
  walk_at "go"
  intro l hl
  have s1 : Same H (upd H l (.lst [])) := same1 hl
  walk_at "go"
  refine e_tm ?_
  walk_at "go"
  refine ⟨⟨_, rfl⟩, ?_⟩
  walk_at "go"
  refine e_split (by decide) (by omega) fun q hq => ?_
  have s2 := s1.trans (same1 (o := .lst ((Txt.split z " ").map V.str)) hq)
  have hql : q ≠ l := fun e => by rw [e, upd_same] at hq; cases hq
  have g1 : upd (upd H l (.lst [])) q (.lst ((Txt.split z " ").map V.str)) l = some (.lst []) := by rw [upd_ne (fun e => hql e.symm), upd_same]
  have g2 : upd (upd H l (.lst [])) q (.lst ((Txt.split z " ").map V.str)) q = some (.lst ((Txt.split z " ").map V.str)) := upd_same
  show kIL K _ (upd (upd H l (.lst [])) q (.lst ((Txt.split z " ").map V.str))) _
  generalize upd (upd H l (.lst [])) q (.lst ((Txt.split z " ").map V.str)) = H1 at s2 g1 g2 ⊢
  generalize hPs : Txt.split z " " = ps at g2 spl ⊢
  have PL : ∀ i, ((ps.take i).flatMap fun p => pwF [] (TL.tl p)).length ≤ 2 * z.length + 1 := fun i => by
    have := pre_flat (fun p => pwF [] (TL.tl p)) ps i
    rw [List.flatMap_map] at spl
    rw [spl] at this
    omega
  refine k_forL (xs := ps.map V.str) (fun i σ H' => (∃ o2 o3 o4, σ = [some (.str z), some (.ref l), o2, o3, o4]) ∧ Same H H' ∧ H' q = some (.lst (ps.map V.str)) ∧ H' l = some (.lst (((ps.take i).flatMap fun p => pwF [] (TL.tl p)).map fun x => V.str (toS x)))) (SqL.of g2) ⟨⟨_, _, _, rfl⟩, s2, g2, g1⟩ (fun i σ H' _ p => SqL.of p.2.2.1) ?_ ?_
  · rintro i x σ H2 hx ⟨⟨o2, o3, o4, rfl⟩, s3, q3, l3⟩
    rw [List.getElem?_map] at hx
    obtain ⟨p, hp, rfl⟩ : ∃ p, ps[i]? = some p ∧ x = V.str p := by
      cases e : ps[i]? with
      | none => rw [e] at hx; cases hx
      | some p => rw [e] at hx; exact ⟨p, rfl, (Option.some.inj hx).symm⟩
    have hil := List.getElem?_eq_some_iff.mp hp
    have et : (ps.take (i + 1)).flatMap (fun p => pwF [] (TL.tl p)) = (ps.take i).flatMap (fun p => pwF [] (TL.tl p)) ++ pwF [] (TL.tl p) := by
      rw [List.take_succ_eq_append_getElem hil.1, hil.2, List.flatMap_append]
      simp
    have PLi := PL (i + 1)
    rw [et] at PLi
    rw [et]
    generalize (ps.take i).flatMap (fun p => pwF [] (TL.tl p)) = done at l3 PLi ⊢
    walk_at "go"
    refine k_forS (z := p) (fun j σ H' => ∃ (left : List Nat) (o4 : Option V) (out : List (List Nat)), σ = [some (.str z), some (.ref l), some (.str p), some (.str (toS left)), o4] ∧ Same H H' ∧ H' q = some (.lst (ps.map V.str)) ∧ H' l = some (.lst (out.map fun x => V.str (toS x))) ∧ j ≤ p.length ∧ left.length ≤ j ∧ out ++ pwF left (p.cps.toList.drop j) = done ++ pwF [] (TL.tl p)) ⟨[], _, done, rfl, s3, q3, l3, Nat.zero_le _, Nat.zero_le _, rfl⟩ ?_ ?_
    · rintro j c σ H3 hc ⟨left, o4, out, rfl, s4, q4, l4, lj, ll, hO⟩
      have hjl := List.getElem?_eq_some_iff.mp hc
      have jl : j < p.length := by
        have := hjl.1
        rw [len_z] at this
        exact this
      rw [List.drop_eq_getElem_cons hjl.1, hjl.2, pwF] at hO
      have hol := congrArg List.length hO
      rw [List.length_append] at hol
      walk_at "go"
      have eBR : ("()[]" : Str).cps.toList = BR := rfl
      rw [eBR]
      refine ifd (fun hb => ?_) (fun hb => ?_)
      · rw [if_pos hb] at hO hol
        walk_at "go"
        refine e_tyl l4 ?_
        walk_at "go"
        refine e_app l4 (by rw [List.length_map]; simp only [List.length_cons] at hol; omega) ?_
        have l5 : upd H3 l (.lst ((out.map fun x => V.str (toS x)) ++ [V.str (toS left)])) l = some (.lst ((out.map fun x => V.str (toS x)) ++ [V.str (toS left)])) := upd_same
        walk_at "go"
        refine e_tyl l5 ?_
        walk_at "go"
        refine e_app l5 (by rw [List.length_append, List.length_map]; simp only [List.length_cons, List.length_nil] at hol ⊢; omega) ?_
        walk_at "go"
        refine ⟨[], _, out ++ [left, [c]], rfl, same_mut (same_mut s4 hl) hl, ?_, ?_, jl, Nat.zero_le _, ?_⟩
        · rw [upd_ne hql, upd_ne hql, q4]
        · rw [upd_same, List.map_append, List.append_assoc]
          rfl
        · rw [← hO]
          simp
      · rw [if_neg hb] at hO
        walk_at "go"
        have l1 : (⟨#[c]⟩ : Str).length = 1 := rfl
        have lt : (toS left).length = left.length := mk_len left
        have lp : p.length ≤ z.length := split_le (by rw [hPs]; exact List.mem_of_getElem? hp)
        refine e_addS (by rw [lt, l1]; omega) ?_
        walk_at "go"
        refine ⟨left ++ [c], some (.str ⟨#[c]⟩), out, ?_, s4, q4, l4, jl, by rw [List.length_append]; exact Nat.succ_le_succ ll, hO⟩
        rw [show toS (left ++ [c]) = toS left ++ ⟨#[c]⟩ from (str_app left c).symm]
        rfl
    · rintro σ H3 ⟨left, o4, out, rfl, s4, q4, l4, lj, ll, hO⟩
      rw [List.drop_of_length_le (by rw [len_z]; exact Nat.le_refl _)] at hO
      have hO : out ++ [left] = done ++ pwF [] (TL.tl p) := hO
      have hol := congrArg List.length hO
      rw [List.length_append] at hol
      walk_at "go"
      refine e_tyl l4 ?_
      walk_at "go"
      refine e_app l4 (by rw [List.length_map]; simp only [List.length_cons, List.length_nil] at hol; omega) ?_
      walk_at "go"
      refine ⟨⟨_, _, _, rfl⟩, same_mut s4 hl, by rw [upd_ne hql, q4], ?_⟩
      rw [upd_same, ← hO, List.map_append]
      rfl
  · rintro σ H2 ⟨⟨o2, o3, o4, rfl⟩, s3, q3, l3⟩
    rw [List.length_map, List.take_of_length_le (Nat.le_refl _)] at l3
    rw [List.flatMap_map] at spl
    rw [spl] at l3
    have l3 : H2 l = some (.lst (((lwF [] z.cps.toList).map toS).map V.str)) := by rw [l3, List.map_map]; rfl
    walk_at "go"
    refine k_lcS (fun s : Str => decide (s ≠ ("" : Str))) (SqL.of l3) (by rw [List.length_map]; omega) (fun v => rfl) (fun v => rfl) (fun y H' R _ _ r => ?_) fun D H' hD s4 hd => ?_
    · walk_at "go"
      by_cases q0 : y = ""
      · rw [decide_eq_false (by simpa using q0)] at r
        rw [decide_eq_true q0]
        exact r
      · rw [decide_eq_true (by simpa using q0)] at r
        rw [decide_eq_false q0]
        exact r
    · refine kk D H' (s3.trans s4) (fresh_of s3 hD) ?_
      rw [hd, sift_S]
/-! ### law k04: words drawn -/
def AllW (ws : List Str) : Prop := ∀ w ∈ ws, LWd w
theorem AllW.app {a b : List Str} (h : AllW a) (g : AllW b) : AllW (a ++ b) := fun w hw => (List.mem_append.mp hw).elim (h w) (g w)
theorem lwd_lit {w : Str} (h : (w.cps.toList ≠ [] ∧ ∀ c ∈ w.cps.toList, c ∈ LT) ∨ (w.cps.toList ≠ [] ∧ ∀ c ∈ w.cps.toList, c ∈ FG) ∨ (w.cps.toList.length = 1 ∧ ∀ c ∈ w.cps.toList, c ≠ 32)) (l : w.length ≤ 7) : LWd w := by
  refine ⟨?_, l⟩
  rcases h with h | h | ⟨h1, h2⟩
  · exact .inl (.inl h)
  · exact .inl (.inr (.inl h))
  · match e : w.cps.toList, h1 with
    | [c], _ =>
      rw [e] at h2
      by_cases q1 : c ∈ LT
      · exact .inl (.inl ⟨by rw [e]; simp, fun d hd => by rw [e] at hd; rw [List.mem_singleton.mp hd]; exact q1⟩)
      by_cases q2 : c ∈ FG
      · exact .inl (.inr (.inl ⟨by rw [e]; simp, fun d hd => by rw [e] at hd; rw [List.mem_singleton.mp hd]; exact q2⟩))
      by_cases q3 : c ∈ SG
      · exact .inl (.inr (.inr ⟨c, q3, e⟩))
      · exact .inr ⟨c, q1, q2, q3, h2 c List.mem_cons_self, e⟩
theorem lwd_name {w : Str} (h : nameB w = true) : LWd w := by
  have hl := name_len h
  unfold nameB at h
  rw [Bool.and_eq_true, Bool.and_eq_true] at h
  obtain ⟨h1, h2, h3⟩ := h
  have e : w = ⟨w.cps.toList.toArray⟩ := by cases w; simp
  exact lwd_lit (.inl ⟨fun q => of_decide_eq_true h1 (by rw [e, q]; rfl), fun c hc => of_decide_eq_true (List.all_eq_true.mp h3 c hc)⟩) (by omega)
def ODD : List Str := ["+", "&", "|", "(", ")", "[", "]", "a", "bc", "abcdef", "abcdefg", "0", "3", "30", "31", "07", "00", "100", "A", "\t", ".", "-", "12", "x"]
theorem odd_ok : AllW ODD := by
  have k : ∀ w ∈ ODD, ((w.cps.toList ≠ [] ∧ ∀ c ∈ w.cps.toList, c ∈ LT) ∨ (w.cps.toList ≠ [] ∧ ∀ c ∈ w.cps.toList, c ∈ FG) ∨ (w.cps.toList.length = 1 ∧ ∀ c ∈ w.cps.toList, c ≠ 32)) ∧ w.length ≤ 7 := by decide +kernel
  exact fun w hw => lwd_lit (k w hw).1 (k w hw).2
def sp_odd (_ : PySem.W.Frag) : Sp := fun vs H Q _ => ∃ p : Addr, vs = [.ref p] ∧ DiceR H p ∧ ∀ (w : Str) H', LWd w → SameB [p] H H' → DiceR H' p → Q (.str w) H'
theorem ln__law_odd {K : PySem.W.Frag} {vs : List V} {H : Hp} {Q : VK} {E : XK} (h : sp_odd K vs H Q E) : vs.length = 1 := by
  obtain ⟨_, rfl, _⟩ := h
  rfl
abbrev n__law_odd : List Str := ["_law_dice_here", "_law_more"]
def t__law_odd (K : PySem.W.Frag) (W : WX) : TS :=
  tSeq (tAsg (tLst (tCons (tC (.str "+")) (tCons (tC (.str "&")) (tCons (tC (.str "|")) (tCons (tC (.str "(")) (tCons (tC (.str ")")) (tCons (tC (.str "[")) (tCons (tC (.str "]")) (tCons (tC (.str "a")) (tCons (tC (.str "bc")) (tCons (tC (.str "abcdef")) (tCons (tC (.str "abcdefg")) (tCons (tC (.str "0")) (tCons (tC (.str "3")) (tCons (tC (.str "30")) (tCons (tC (.str "31")) (tCons (tC (.str "07")) (tCons (tC (.str "00")) (tCons (tC (.str "100")) tNil))))))))))))))))))) (gName 1))
  (tSeq (tAsg (tOp rCat (tVar 1) (tLst (tCons (tC (.str "A")) (tCons (tC (.str "	")) (tCons (tC (.str ".")) (tCons (tC (.str "-")) (tCons (tC (.str "12")) (tCons (tC (.str "x")) tNil)))))))) (gName 1))
  (tRet (tOp (rIxL K) (tVar 1) (tCW (sp_roll K) W (tCons (tVar 0) (tCons (tCB (rLenL K) (tCons (tVar 1) tNil)) tNil))))))
theorem pure__law_odd {K : PySem.W.Frag} {vs : List V} {H : Hp} {Q : VK} {E : XK} {W : WX} (h : sp_odd K vs H Q E) : t__law_odd K W { nx := fun _ H' => Q .non H', rt := Q } (start n__law_odd vs) H := by
  obtain ⟨p, rfl, hD, kk⟩ := h
  have hm := mega
  show t__law_odd K W _ [some (.ref p), none] H
  unfold t__law_odd
  walk_at "go"
  intro l1 hl1
  refine with_new (G := fun h => tSeq _ _ _ _ h) hl1 fun H1 s1 g1 => ?_
  walk_at "go"
  intro l2 hl2
  refine with_new (G := fun h => rCat _ _ h _) hl2 fun H2 s2 g2 => ?_
  refine e_catN (s2 _ _ g1) g2 (by show 18 + 6 ≤ _; omega) fun l3 H3 s3 n3 g3 => ?_
  have s03 := (s1.trans s2).trans s3
  have g3 : H3 l3 = some (.lst (ODD.map V.str)) := g3
  have D3 := hD.same s03
  walk_at "go"
  refine e_lenL (SqL.of g3) ?_
  walk_at "go"
  refine ⟨p, 24, rfl, D3, by decide, by decide, fun n H4 n0 n4 s4 D4 => ?_⟩
  have g4 := s4 _ _ (by simpa using (hD.same (s1.trans s2)).ne n3) g3
  obtain ⟨n, rfl⟩ : ∃ m : Nat, n = m := ⟨n.toNat, by omega⟩
  have nl : n < ODD.length := by show n < 24; omega
  refine e_ixL (SqL.of g4) (at_of (v := V.str ODD[n]) rfl (by rw [List.getElem?_map, List.getElem?_eq_getElem nl]; rfl)) ?_
  exact kk _ _ (odd_ok _ (List.getElem_mem nl)) (fun b o hb e => s4 b o hb (s03 b o e)) D4
theorem cut_toW (xs : List V) (n : Nat) : cutV xs none (some (n : Int)) = xs.take n := by
  unfold cutV
  have e1 : HT.sIx xs.length 0 none = 0 := rfl
  have e2 : HT.sIx xs.length xs.length (some (n : Int)) = min n xs.length := by
    show (if (n : Int) < 0 then ((n : Int) + (xs.length : Int)).toNat else min (n : Int).toNat xs.length) = _
    rw [if_neg (by omega)]
    omega
  rw [e1, e2, List.drop_zero, Nat.sub_zero]
  by_cases q : n ≤ xs.length
  · rw [Nat.min_eq_left q]
  · rw [Nat.min_eq_right (by omega), List.take_of_length_le (Nat.le_refl _), List.take_of_length_le (by omega)]
theorem AllW.take {ws : List Str} (h : AllW ws) (n : Nat) : AllW (ws.take n) := fun w hw => h w (List.mem_of_mem_take hw)
theorem AllW.drop {ws : List Str} (h : AllW ws) (n : Nat) : AllW (ws.drop n) := fun w hw => h w (List.mem_of_mem_drop hw)
theorem AllW.one {w : Str} (h : LWd w) : AllW [w] := fun v hv => by
  rw [List.mem_singleton.mp hv]
  exact h
def sp_changed (_ : PySem.W.Frag) : Sp := fun vs H Q _ => ∃ (p l : Addr) (ws : List Str), vs = [.ref p, .ref l] ∧ DiceR H p ∧ H l = some (.lst (ws.map V.str)) ∧ AllW ws ∧ ws.length ≤ 1000 ∧ ∀ l' ws' H', SameB [p] H H' → DiceR H' p → H' l' = some (.lst (ws'.map V.str)) → AllW ws' → ws'.length ≤ ws.length + 3 → Q (.ref l') H'
theorem ln__law_changed {K : PySem.W.Frag} {vs : List V} {H : Hp} {Q : VK} {E : XK} (h : sp_changed K vs H Q E) : vs.length = 2 := by
  obtain ⟨_, _, _, rfl, _⟩ := h
  rfl
abbrev n__law_changed : List Str := ["_law_dice_here", "_law_words_here", "_law_turn", "_law_at", "_law_way"]
def t__law_changed (K : PySem.W.Frag) (W : WX) : TS :=
  tSeq (tFor (iRng1 (tCons (tCW (sp_roll K) W (tCons (tVar 0) (tCons (tC (.int 4)) tNil))) tNil)) (gName 2) (tSeq (tAsg (tCW (sp_roll K) W (tCons (tVar 0) (tCons (tOp rAddI (tCB (rLenL K) (tCons (tVar 1) tNil)) (tC (.int 1))) tNil))) (gName 3))
  (tSeq (tAsg (tCW (sp_roll K) W (tCons (tVar 0) (tCons (tC (.int 3)) tNil))) (gName 4))
  (tIfS (tTest (tOp rEq (tVar 4) (tC (.int 0)))) (tAsg (tOp rCat (tOp rCat (tSl (rSlL K) (tVar 1) tNoPart (tPart (tVar 3))) (tLst (tCons (tCW (sp_odd K) W (tCons (tVar 0) tNil)) tNil))) (tSl (rSlL K) (tVar 1) (tPart (tVar 3)) tNoPart)) (gName 1)) (tIfS (tTest (tOp rEq (tVar 4) (tC (.int 1)))) (tAsg (tOp rCat (tSl (rSlL K) (tVar 1) tNoPart (tPart (tVar 3))) (tSl (rSlL K) (tVar 1) (tPart (tOp rAddI (tVar 3) (tC (.int 1)))) tNoPart)) (gName 1)) (tAsg (tOp rCat (tOp rCat (tSl (rSlL K) (tVar 1) tNoPart (tPart (tVar 3))) (tLst (tCons (tCW (sp_odd K) W (tCons (tVar 0) tNil)) tNil))) (tSl (rSlL K) (tVar 1) (tPart (tOp rAddI (tVar 3) (tC (.int 1)))) tNoPart)) (gName 1)))))))
  (tRet (tVar 1))
theorem DiceR.nl {H : Hp} {p l : Addr} {ws : List Str} (h : DiceR H p) (e : H l = some (.lst (ws.map V.str))) : ¬ l ∈ [p] := by
  intro z
  have z := List.mem_singleton.mp z
  rw [z] at e
  obtain ⟨a, b, d, _⟩ := h
  rw [d] at e
  cases ws with
  | nil => cases e
  | cons w ws => cases e
theorem pure__law_changed {K : PySem.W.Frag} {vs : List V} {H : Hp} {Q : VK} {E : XK} {W : WX} (h : sp_changed K vs H Q E) : t__law_changed K W { nx := fun _ H' => Q .non H', rt := Q } (start n__law_changed vs) H := by
  obtain ⟨p, l, ws, rfl, hD, hl, al, lw, kk⟩ := h
  have hm := mega
  show t__law_changed K W _ [some (.ref p), some (.ref l), none, none, none] H
  unfold t__law_changed
  walk_at "go"
  refine ⟨p, 4, rfl, hD, by decide, by decide, fun n H1 n0 n4 s1 D1 => ?_⟩
  obtain ⟨n, rfl⟩ : ∃ m : Nat, n = m := ⟨n.toNat, by omega⟩
  refine k_forR (n := (n : Int)) (fun i σ H' => ∃ (l' : Addr) (ws' : List Str) (o2 o3 o4 : Option V), σ = [some (.ref p), some (.ref l'), o2, o3, o4] ∧ SameB [p] H H' ∧ DiceR H' p ∧ H' l' = some (.lst (ws'.map V.str)) ∧ AllW ws' ∧ ws'.length ≤ ws.length + i) (by omega) (by omega) ⟨l, ws, _, _, _, rfl, s1, D1, s1 _ _ (hD.nl hl) hl, al, Nat.le_refl _⟩ ?_ ?_
  · rintro i σ H2 hi ⟨l', ws', o2, o3, o4, rfl, s2, D2, hl', al', lw'⟩
    walk_at "go"
    refine e_lenL (SqL.of hl') ?_
    rw [List.length_map]
    walk_at "go"
    refine ⟨p, _, rfl, D2, by omega, by omega, fun at_ H3 a0 a1 s3 D3 => ?_⟩
    have h3 := s3 _ _ (D2.nl hl') hl'
    obtain ⟨j, rfl⟩ : ∃ m : Nat, at_ = m := ⟨at_.toNat, by omega⟩
    walk_at "go"
    refine ⟨p, 3, rfl, D3, by decide, by decide, fun way H4 w0 w1 s4 D4 => ?_⟩
    have h4 := s4 _ _ (D3.nl h3) h3
    have s24 := (s2.trans s3).trans s4
    have lt : (ws'.take j).length ≤ j := by rw [List.length_take]; omega
    walk_at "go"
    refine ifd (fun q => ?_) (fun q => ?_)
    · walk_at "go"
      refine e_slN (SqL.of h4) fun a1 H5 s5 n5 g5 => ?_
      rw [cut_toW, ← List.map_take] at g5
      have D5 := D4.same s5
      have h5 := s5 _ _ h4
      walk_at "go"
      refine ⟨p, rfl, D5, fun w H6 hw s6 D6 => ?_⟩
      have g6 := s6 _ _ (D5.nl g5) g5
      have h6 := s6 _ _ (D5.nl h5) h5
      walk_at "go"
      intro l2 hl2
      refine with_new (G := fun h => rCat _ _ h _) hl2 fun H7 s7 g7 => ?_
      refine e_catN (s7 _ _ g6) g7 (by simp only [List.length_map, List.length_cons, List.length_nil]; omega) fun l3 H8 s8 n8 g8 => ?_
      have g8 : H8 l3 = some (.lst ((ws'.take j ++ [w]).map V.str)) := by rw [g8, List.map_append]; rfl
      have h8 := s8 _ _ (s7 _ _ h6)
      walk_at "go"
      refine e_slN (SqL.of h8) fun a2 H9 s9 n9 g9 => ?_
      rw [cut_from, ← List.map_drop] at g9
      refine e_catN (s9 _ _ g8) g9 (by simp only [List.length_map, List.length_append, List.length_cons, List.length_nil, List.length_drop]; omega) fun l4 HA sA nA gA => ?_
      have gA : HA l4 = some (.lst ((ws'.take j ++ [w] ++ ws'.drop j).map V.str)) := by rw [gA, List.map_append (l₂ := ws'.drop j)]
      have s6A := ((s7.trans s8).trans s9).trans sA
      walk_at "go"
      refine ⟨l4, _, _, _, _, rfl, ((s24.same s5).trans s6).same s6A, D6.same s6A, gA, ((al'.take j).app (.one hw)).app (al'.drop j), ?_⟩
      simp only [List.length_append, List.length_cons, List.length_nil, List.length_drop, List.length_take]
      omega
    walk_at "go"
    refine ifd (fun q => ?_) (fun q => ?_)
    · walk_at "go"
      refine e_slN (SqL.of h4) fun a1 H5 s5 n5 g5 => ?_
      rw [cut_toW, ← List.map_take] at g5
      have h5 := s5 _ _ h4
      walk_at "go"
      refine e_slN (SqL.of h5) fun a2 H6 s6 n6 g6 => ?_
      rw [show ((j : Int) + 1) = ((j + 1 : Nat) : Int) from rfl, cut_from, ← List.map_drop] at g6
      refine e_catN (s6 _ _ g5) g6 (by simp only [List.length_map, List.length_drop]; omega) fun l4 HA sA nA gA => ?_
      have gA : HA l4 = some (.lst ((ws'.take j ++ ws'.drop (j + 1)).map V.str)) := by rw [gA, List.map_append (l₂ := ws'.drop (j + 1))]
      have s4A := (s5.trans s6).trans sA
      walk_at "go"
      refine ⟨l4, _, _, _, _, rfl, s24.same s4A, D4.same s4A, gA, (al'.take j).app (al'.drop (j + 1)), ?_⟩
      simp only [List.length_append, List.length_drop, List.length_take]
      omega
    · walk_at "go"
      refine e_slN (SqL.of h4) fun a1 H5 s5 n5 g5 => ?_
      rw [cut_toW, ← List.map_take] at g5
      have D5 := D4.same s5
      have h5 := s5 _ _ h4
      walk_at "go"
      refine ⟨p, rfl, D5, fun w H6 hw s6 D6 => ?_⟩
      have g6 := s6 _ _ (D5.nl g5) g5
      have h6 := s6 _ _ (D5.nl h5) h5
      walk_at "go"
      intro l2 hl2
      refine with_new (G := fun h => rCat _ _ h _) hl2 fun H7 s7 g7 => ?_
      refine e_catN (s7 _ _ g6) g7 (by simp only [List.length_map, List.length_cons, List.length_nil]; omega) fun l3 H8 s8 n8 g8 => ?_
      have g8 : H8 l3 = some (.lst ((ws'.take j ++ [w]).map V.str)) := by rw [g8, List.map_append]; rfl
      have h8 := s8 _ _ (s7 _ _ h6)
      walk_at "go"
      refine e_slN (SqL.of h8) fun a2 H9 s9 n9 g9 => ?_
      rw [show ((j : Int) + 1) = ((j + 1 : Nat) : Int) from rfl, cut_from, ← List.map_drop] at g9
      refine e_catN (s9 _ _ g8) g9 (by simp only [List.length_map, List.length_append, List.length_cons, List.length_nil, List.length_drop]; omega) fun l4 HA sA nA gA => ?_
      have gA : HA l4 = some (.lst ((ws'.take j ++ [w] ++ ws'.drop (j + 1)).map V.str)) := by rw [gA, List.map_append (l₂ := ws'.drop (j + 1))]
      have s6A := ((s7.trans s8).trans s9).trans sA
      walk_at "go"
      refine ⟨l4, _, _, _, _, rfl, ((s24.same s5).trans s6).same s6A, D6.same s6A, gA, ((al'.take j).app (.one hw)).app (al'.drop (j + 1)), ?_⟩
      simp only [List.length_append, List.length_cons, List.length_nil, List.length_drop, List.length_take]
      omega
  · rintro σ H2 ⟨l', ws', o2, o3, o4, rfl, s2, D2, hl', al', lw'⟩
    walk_at "go"
    exact kk _ _ _ s2 D2 hl' al' (by have : ((n : Int)).toNat = n := rfl; omega)

theorem wr_12 {ys : List Str} (hy : ∀ x ∈ ys, nameB x = true) : ∀ {n : Nat} (_ : 1 ≤ n) (_ : n ≤ 2) {t : TrD n}, TreeOk n ys t → (wr n t 0).length ≤ 156
  | 1, _, _, _, h => Nat.le_trans (wr_1 (fun x hx => name_len (hy x hx)) h 0) (by decide)
  | 2, _, _, _, h => wr_2 (fun x hx => name_len (hy x hx)) h 0
def sp_drawn (_ : PySem.W.Frag) : Sp := fun vs H Q _ => ∃ (p r : Addr) (ys : List Str), vs = [.ref p, .ref r] ∧ DiceR H p ∧ H r = some (.lst (ys.map V.str)) ∧ 0 < ys.length ∧ ys.length ≤ 1000 ∧ (∀ x ∈ ys, nameB x = true) ∧ ∀ l ws H', SameB [p] H H' → H' l = some (.lst (ws.map V.str)) → AllW ws → ws.length ≤ 1000 → Q (.ref l) H'
theorem ln__law_drawn {K : PySem.W.Frag} (vs : List V) (H : Hp) (Q : VK) (E : XK) (h : sp_drawn K vs H Q E) : vs.length = 2 := by
  obtain ⟨_, _, _, rfl, _⟩ := h
  rfl
abbrev n__law_drawn : List Str := ["_law_dice_here", "_law_names_here", "_law_way", "_law_sign", "_law_words_here", "_law_k", "_law_turn"]
def t__law_drawn (K : PySem.W.Frag) (W : WX) (S__law_tree : Sp) (S__law_written : Sp) : TS :=
  tSeq (tAsg (tCW (sp_roll K) W (tCons (tVar 0) (tCons (tC (.int 8)) tNil))) (gName 2))
  (tSeq (tIfS (tTest (tOp rEq (tVar 2) (tC (.int 0)))) (tSeq (tAsg (tOp (rIxL K) (tLst (tCons (tC (.str "+")) (tCons (tC (.str "&")) (tCons (tC (.str "|")) tNil)))) (tCW (sp_roll K) W (tCons (tVar 0) (tCons (tC (.int 3)) tNil)))) (gName 3))
  (tSeq (tAsg (tLst (tCons (tOp (rIxL K) (tVar 1) (tC (.int 0))) tNil)) (gName 4))
  (tSeq (tFor (iRng1 (tCons (tOp rAddI (tC (.int 5)) (tCW (sp_roll K) W (tCons (tVar 0) (tCons (tC (.int 5)) tNil)))) tNil)) (gName 5) (tAsg (tOp rCat (tVar 4) (tLst (tCons (tVar 3) (tCons (tOp (rIxL K) (tVar 1) (tOp rModI (tVar 5) (tCB (rLenL K) (tCons (tVar 1) tNil)))) tNil)))) (gName 4)))
  (tRet (tVar 4))))) tNext)
  (tSeq (tIfS (tTest (tOp rEq (tVar 2) (tC (.int 1)))) (tSeq (tAsg (tLst (tCons (tOp (rIxL K) (tVar 1) (tC (.int 0))) tNil)) (gName 4))
  (tSeq (tFor (iRng1 (tCons (tOp rAddI (tC (.int 18)) (tCW (sp_roll K) W (tCons (tVar 0) (tCons (tC (.int 4)) tNil)))) tNil)) (gName 5) (tAsg (tOp rCat (tVar 4) (tLst (tCons (tOp (rIxL K) (tLst (tCons (tC (.str "+")) (tCons (tC (.str "&")) (tCons (tC (.str "|")) tNil)))) (tOp rModI (tOp rDivI (tVar 5) (tC (.int 3))) (tC (.int 3)))) (tCons (tOp (rIxL K) (tVar 1) (tOp rModI (tVar 5) (tCB (rLenL K) (tCons (tVar 1) tNil)))) tNil)))) (gName 4)))
  (tRet (tOp rCat (tVar 4) (tOp rRep (tLst (tCons (tC (.str ")")) tNil)) (tCW (sp_roll K) W (tCons (tVar 0) (tCons (tC (.int 2)) tNil)))))))) tNext)
  (tSeq (tIfS (tTest (tOp rEq (tVar 2) (tC (.int 2)))) (tSeq (tAsg (tLst (tCons (tOp (rIxL K) (tVar 1) (tC (.int 0))) tNil)) (gName 4))
  (tSeq (tFor (iRng1 (tCons (tOp rAddI (tC (.int 1)) (tCW (sp_roll K) W (tCons (tVar 0) (tCons (tC (.int 4)) tNil)))) tNil)) (gName 6) (tIfS (tTest (tOp rEq (tCW (sp_roll K) W (tCons (tVar 0) (tCons (tC (.int 2)) tNil))) (tC (.int 0)))) (tAsg (tOp rCat (tOp rCat (tLst (tCons (tC (.str "(")) tNil)) (tVar 4)) (tLst (tCons (tC (.str ")")) tNil))) (gName 4)) (tAsg (tOp rCat (tLst (tCons (tC (.str "[")) (tCons (tOp (rIxL K) (tVar 1) (tC (.int 0))) (tCons (tOp (rIxL K) (tLst (tCons (tC (.str "2")) (tCons (tC (.str "0")) (tCons (tC (.str "30")) (tCons (tC (.str "31")) tNil))))) (tCW (sp_roll K) W (tCons (tVar 0) (tCons (tC (.int 4)) tNil)))) (tCons (tC (.str "]")) tNil))))) (tVar 4)) (gName 4))))
  (tRet (tVar 4)))) tNext)
  (tRet (tCW (sp_changed K) W (tCons (tVar 0) (tCons (tCW (sp_lwords K) W (tCons (tCW S__law_written W (tCons (tCW S__law_tree W (tCons (tVar 0) (tCons (tVar 1) (tCons (tOp rAddI (tC (.int 1)) (tOp rModI (tVar 2) (tC (.int 2)))) tNil)))) (tCons (tC (.int 0)) tNil))) tNil)) tNil)))))))
theorem gl_wd {ws : List (List Nat)} (h : ∀ x ∈ ws, GL x) : AllW (ws.map toS) := fun w hw => by
  obtain ⟨x, hx, rfl⟩ := List.mem_map.mp hw
  obtain ⟨g, l⟩ := h x hx
  exact ⟨.inl g, by rw [show (toS x).length = x.length from mk_len x]; exact l⟩
def SG3 : List Str := ["+", "&", "|"]
theorem sg3_ok : AllW SG3 := by
  have k : ∀ w ∈ SG3, (w.cps.toList.length = 1 ∧ ∀ c ∈ w.cps.toList, c ≠ 32) ∧ w.length ≤ 7 := by decide +kernel
  exact fun w hw => lwd_lit (.inr (.inr (k w hw).1)) (k w hw).2
def BD4 : List Str := ["2", "0", "30", "31"]
theorem bd4_ok : AllW BD4 := by
  have k : ∀ w ∈ BD4, (w.cps.toList ≠ [] ∧ ∀ c ∈ w.cps.toList, c ∈ FG) ∧ w.length ≤ 7 := by decide +kernel
  exact fun w hw => lwd_lit (.inr (.inl (k w hw).1)) (k w hw).2
theorem lwd_c {w : Str} (h : w.cps.toList.length = 1 ∧ ∀ c ∈ w.cps.toList, c ≠ 32) : LWd w := lwd_lit (.inr (.inr h)) (by
  have : w.cps.toList.length = w.length := Array.length_toList
  omega)
theorem at_mem {xs : List Str} {n : Nat} (h : n < xs.length) : atI (xs.map V.str) (n : Int) = some (V.str xs[n]) := at_of rfl (by rw [List.getElem?_map, List.getElem?_eq_getElem h]; rfl)
/-- what holds of the words on their way -/
def WdS (p r : Addr) (ys : List Str) (H : Hp) (a2 a3 : Option V) (N : Nat) (σ : St) (H' : Hp) : Prop := ∃ (l' : Addr) (ws : List Str) (o5 o6 : Option V), σ = [some (.ref p), some (.ref r), a2, a3, some (.ref l'), o5, o6] ∧ SameB [p] H H' ∧ DiceR H' p ∧ H' r = some (.lst (ys.map V.str)) ∧ H' l' = some (.lst (ws.map V.str)) ∧ AllW ws ∧ ws.length ≤ N
theorem pure__law_drawn {K : PySem.W.Frag} {vs : List V} {H : Hp} {Q : VK} {E : XK} {W : WX} (h : sp_drawn K vs H Q E) : t__law_drawn K W sp_treeF4 sp_wrX12 { nx := fun _ H' => Q .non H', rt := Q } (start n__law_drawn vs) H := by
  obtain ⟨p, r, ys, rfl, hD, hr, y0, y9, hy, kk⟩ := h
  have hm := mega
  have ny : ∀ k : Nat, ∃ x, ys[k % ys.length]? = some x ∧ nameB x = true := fun k => by
    have hk := Nat.mod_lt k y0
    exact ⟨ys[k % ys.length], List.getElem?_eq_getElem hk, hy _ (List.getElem_mem hk)⟩
  obtain ⟨x0, e0, b0⟩ := ny 0
  rw [Nat.zero_mod] at e0
  have w0 := lwd_name b0
  show t__law_drawn K W _ _ _ [some (.ref p), some (.ref r), none, none, none, none, none] H
  unfold t__law_drawn
  walk_at "go"
  refine ⟨p, 8, rfl, hD, by decide, by decide, fun way H1 v0 v8 s1 D1 => ?_⟩
  have r1 := s1 _ _ (hD.nl hr) hr
  walk_at "go"
  have mk : ∀ {Ha : Hp} {l : Addr} {xs : List Str} {Hb : Hp}, DiceR Ha p → Ha l = some (.lst (xs.map V.str)) → SameB [p] Ha Hb → Hb l = some (.lst (xs.map V.str)) := fun D e s => s _ _ (D.nl e) e
  refine ifd (fun q => ?_) (fun q => ?_)
  · walk_at "go"
    intro l2 hl2
    refine with_new (G := fun h => tCW _ _ _ _ h _) hl2 fun H2 s2 g2 => ?_
    have g2 : H2 l2 = some (.lst (SG3.map V.str)) := g2
    have D2 := D1.same s2
    walk_at "go"
    refine ⟨p, 3, rfl, D2, by decide, by decide, fun n H3 n0 n3 s3 D3 => ?_⟩
    have g3 := mk D2 g2 s3
    have r3 := mk D2 (s2 _ _ r1) s3
    obtain ⟨n, rfl⟩ : ∃ m : Nat, n = m := ⟨n.toNat, by omega⟩
    have nl : n < SG3.length := by show n < 3; omega
    refine e_ixL (SqL.of g3) (at_mem nl) ?_
    have wsg := sg3_ok _ (List.getElem_mem nl)
    generalize SG3[n] = sg at wsg ⊢
    walk_at "go"
    refine e_ixL (SqL.of r3) (at_of (v := V.str x0) (j := 0) rfl (by rw [List.getElem?_map, e0]; rfl)) ?_
    walk_at "go"
    intro l4 hl4
    refine with_new (G := fun h => tSeq _ _ _ _ h) hl4 fun H4 s4 g4 => ?_
    have D4 := D3.same s4
    have r4 := s4 _ _ r3
    have s04 := ((s1.same s2).trans s3).same s4
    walk_at "go"
    refine ⟨p, 5, rfl, D4, by decide, by decide, fun m H5 m0 m5 s5 D5 => ?_⟩
    obtain ⟨m, rfl⟩ : ∃ k : Nat, m = k := ⟨m.toNat, by omega⟩
    walk_at "go"
    refine k_forR (n := 5 + (m : Int)) (fun i => WdS p r ys H (some (.int way)) (some (.str sg)) (1 + 2 * i)) (by omega) (by omega) ⟨l4, [x0], _, _, rfl, s04.trans s5, D5, mk D4 r4 s5, mk D4 g4 s5, .one w0, Nat.le_refl _⟩ ?_ ?_
    · rintro i σ H6 hi ⟨l6, ws, o5, o6, rfl, s6, D6, r6, g6, aw, lw⟩
      obtain ⟨x, ex, bx⟩ := ny i
      walk_at "go"
      refine e_lenL (SqL.of r6) ?_
      rw [List.length_map]
      refine e_mod (by omega) ?_
      rw [show (i : Int) % (ys.length : Int) = ((i % ys.length : Nat) : Int) from rfl]
      refine e_ixL (SqL.of r6) (at_of (v := V.str x) rfl (by rw [List.getElem?_map, ex]; rfl)) ?_
      walk_at "go"
      intro l7 hl7
      refine with_new (G := fun h => rCat _ _ h _) hl7 fun H7 s7 g7 => ?_
      refine e_catN (s7 _ _ g6) g7 (by simp only [List.length_map, List.length_cons, List.length_nil]; omega) fun l8 H8 s8 n8 g8 => ?_
      walk_at "go"
      refine ⟨l8, ws ++ [sg, x], _, _, rfl, (s6.same s7).same s8, (D6.same s7).same s8, s8 _ _ (s7 _ _ r6), by rw [g8, List.map_append]; rfl, aw.app ((AllW.one wsg).app (.one (lwd_name bx))), ?_⟩
      rw [List.length_append]
      show ws.length + 2 ≤ _
      omega
    · rintro σ H6 ⟨l6, ws, o5, o6, rfl, s6, D6, r6, g6, aw, lw⟩
      walk_at "go"
      exact kk _ _ _ s6 g6 aw (by omega)
  walk_at "go"
  refine ifd (fun q => ?_) (fun q => ?_)
  · walk_at "go"
    refine e_ixL (SqL.of r1) (at_of (v := V.str x0) (j := 0) rfl (by rw [List.getElem?_map, e0]; rfl)) ?_
    walk_at "go"
    intro l4 hl4
    refine with_new (G := fun h => tSeq _ _ _ _ h) hl4 fun H4 s4 g4 => ?_
    have D4 := D1.same s4
    have r4 := s4 _ _ r1
    have s04 := s1.same s4
    walk_at "go"
    refine ⟨p, 4, rfl, D4, by decide, by decide, fun m H5 m0 m5 s5 D5 => ?_⟩
    obtain ⟨m, rfl⟩ : ∃ k : Nat, m = k := ⟨m.toNat, by omega⟩
    walk_at "go"
    refine k_forR (n := 18 + (m : Int)) (fun i => WdS p r ys H (some (.int way)) none (1 + 2 * i)) (by omega) (by omega) ⟨l4, [x0], _, _, rfl, s04.trans s5, D5, mk D4 r4 s5, mk D4 g4 s5, .one w0, Nat.le_refl _⟩ ?_ ?_
    · rintro i σ H6 hi ⟨l6, ws, o5, o6, rfl, s6, D6, r6, g6, aw, lw⟩
      obtain ⟨x, ex, bx⟩ := ny i
      walk_at "go"
      intro l7 hl7
      refine with_new (G := fun h => tOp _ _ _ _ h _) hl7 fun H7 s7 g7 => ?_
      have g7 : H7 l7 = some (.lst (SG3.map V.str)) := g7
      walk_at "go"
      refine e_div (divw _ (by decide) (by decide)) ?_
      walk_at "go"
      refine e_mod (by decide) ?_
      rw [show (i : Int) / 3 % 3 = ((i / 3 % 3 : Nat) : Int) from rfl]
      have nl : i / 3 % 3 < SG3.length := Nat.mod_lt _ (by decide)
      refine e_ixL (SqL.of g7) (at_mem nl) ?_
      have wsg := sg3_ok _ (List.getElem_mem nl)
      generalize SG3[i / 3 % 3] = sg at wsg ⊢
      walk_at "go"
      refine e_lenL (SqL.of (s7 _ _ r6)) ?_
      rw [List.length_map]
      refine e_mod (by omega) ?_
      rw [show (i : Int) % (ys.length : Int) = ((i % ys.length : Nat) : Int) from rfl]
      refine e_ixL (SqL.of (s7 _ _ r6)) (at_of (v := V.str x) rfl (by rw [List.getElem?_map, ex]; rfl)) ?_
      walk_at "go"
      intro l8 hl8
      refine with_new (G := fun h => rCat _ _ h _) hl8 fun H8 s8 g8 => ?_
      refine e_catN (s8 _ _ (s7 _ _ g6)) g8 (by simp only [List.length_map, List.length_cons, List.length_nil]; omega) fun l9 H9 s9 n9 g9 => ?_
      have s69 := (s7.trans s8).trans s9
      walk_at "go"
      refine ⟨l9, ws ++ [sg, x], _, _, rfl, s6.same s69, D6.same s69, s69 _ _ r6, by rw [g9, List.map_append]; rfl, aw.app ((AllW.one wsg).app (.one (lwd_name bx))), ?_⟩
      rw [List.length_append]
      show ws.length + 2 ≤ _
      omega
    · rintro σ H6 ⟨l6, ws, o5, o6, rfl, s6, D6, r6, g6, aw, lw⟩
      walk_at "go"
      intro l7 hl7
      refine with_new (G := fun h => tCW _ _ _ _ h _) hl7 fun H7 s7 g7 => ?_
      have g7 : H7 l7 = some (.lst (([")"] : List Str).map V.str)) := g7
      have D7 := D6.same s7
      walk_at "go"
      refine ⟨p, 2, rfl, D7, by decide, by decide, fun k H8 k0 k2 s8 D8 => ?_⟩
      have g8 := mk D7 g7 s8
      have gw8 := mk D7 (s7 _ _ g6) s8
      have s08 := (s6.same s7).trans s8
      refine e_repN g8 k0 (by omega) (by show 1 * k.toNat ≤ _; omega) fun l9 H9 s9 n9 g9 => ?_
      have e9 : (List.replicate k.toNat (([")"] : List Str).map V.str)).flatten = (List.replicate k.toNat (")" : Str)).map V.str := by
        rcases (show k = 0 ∨ k = 1 by omega) with rfl | rfl <;> rfl
      rw [e9] at g9
      refine e_catN (s9 _ _ gw8) g9 (by simp only [List.length_map, List.length_replicate]; omega) fun lA HA sA nA gA => ?_
      rw [← List.map_append] at gA
      walk_at "go"
      refine kk _ _ _ ((s08.same s9).same sA) gA (aw.app fun w hw => ?_) ?_
      · rw [(List.mem_replicate.mp hw).2]
        exact lwd_c (by decide +kernel)
      · rw [List.length_append, List.length_replicate]
        omega
  walk_at "go"
  refine ifd (fun q => ?_) (fun q => ?_)
  · walk_at "go"
    refine e_ixL (SqL.of r1) (at_of (v := V.str x0) (j := 0) rfl (by rw [List.getElem?_map, e0]; rfl)) ?_
    walk_at "go"
    intro l4 hl4
    refine with_new (G := fun h => tSeq _ _ _ _ h) hl4 fun H4 s4 g4 => ?_
    have D4 := D1.same s4
    have r4 := s4 _ _ r1
    have s04 := s1.same s4
    walk_at "go"
    refine ⟨p, 4, rfl, D4, by decide, by decide, fun m H5 m0 m5 s5 D5 => ?_⟩
    obtain ⟨m, rfl⟩ : ∃ k : Nat, m = k := ⟨m.toNat, by omega⟩
    walk_at "go"
    refine k_forR (n := 1 + (m : Int)) (fun i => WdS p r ys H (some (.int way)) none (1 + 4 * i)) (by omega) (by omega) ⟨l4, [x0], _, _, rfl, s04.trans s5, D5, mk D4 r4 s5, mk D4 g4 s5, .one w0, Nat.le_refl _⟩ ?_ ?_
    · rintro i σ H6 hi ⟨l6, ws, o5, o6, rfl, s6, D6, r6, g6, aw, lw⟩
      walk_at "go"
      refine ⟨p, 2, rfl, D6, by decide, by decide, fun k H7 k0 k2 s7 D7 => ?_⟩
      have r7 := mk D6 r6 s7
      have g7 := mk D6 g6 s7
      have s07 := s6.trans s7
      walk_at "go"
      refine ifd (fun q => ?_) (fun q => ?_)
      · walk_at "go"
        intro l8 hl8
        refine with_new (G := fun h => tVar _ _ h _) hl8 fun H8 s8 g8 => ?_
        walk_at "go"
        refine e_catN g8 (s8 _ _ g7) (by simp only [List.length_map, List.length_cons, List.length_nil]; omega) fun l9 H9 s9 n9 g9 => ?_
        have g9 : H9 l9 = some (.lst (((("(" : Str) :: []) ++ ws).map V.str)) := by rw [g9]; rfl
        walk_at "go"
        intro lA hlA
        refine with_new (G := fun h => rCat _ _ h _) hlA fun HA sA gA => ?_
        refine e_catN (sA _ _ g9) gA (by simp only [List.length_map, List.length_cons, List.length_nil, List.length_append]; omega) fun lB HB sB nB gB => ?_
        have s7B := ((s8.trans s9).trans sA).trans sB
        walk_at "go"
        refine ⟨lB, (("(" : Str) :: []) ++ ws ++ [(")" : Str)], _, _, rfl, s07.same s7B, D7.same s7B, s7B _ _ r7, by rw [gB, List.map_append (l₂ := [(")" : Str)])]; rfl, ((AllW.one (w := "(") (lwd_c (by decide +kernel))).app aw).app (AllW.one (w := ")") (lwd_c (by decide +kernel))), ?_⟩
        simp only [List.length_append, List.length_cons, List.length_nil]
        omega
      · walk_at "go"
        refine e_ixL (SqL.of r7) (at_of (v := V.str x0) (j := 0) rfl (by rw [List.getElem?_map, e0]; rfl)) ?_
        walk_at "go"
        intro l8 hl8
        refine with_new (G := fun h => tCW _ _ _ _ h _) hl8 fun H8 s8 g8 => ?_
        have g8 : H8 l8 = some (.lst (BD4.map V.str)) := g8
        have D8 := D7.same s8
        walk_at "go"
        refine ⟨p, 4, rfl, D8, by decide, by decide, fun n H9 n0 n4 s9 D9 => ?_⟩
        obtain ⟨n, rfl⟩ : ∃ k : Nat, n = k := ⟨n.toNat, by omega⟩
        have nl : n < BD4.length := by show n < 4; omega
        refine e_ixL (SqL.of (mk D8 g8 s9)) (at_mem nl) ?_
        have wb := bd4_ok _ (List.getElem_mem nl)
        generalize BD4[n] = bd at wb ⊢
        have r9 := mk D8 (s8 _ _ r7) s9
        have g9 := mk D8 (s8 _ _ g7) s9
        have s09 := (s07.same s8).trans s9
        walk_at "go"
        intro lA hlA
        refine with_new (G := fun h => tVar _ _ h _) hlA fun HA sA gA => ?_
        walk_at "go"
        refine e_catN gA (sA _ _ g9) (by simp only [List.length_map, List.length_cons, List.length_nil]; omega) fun lB HB sB nB gB => ?_
        have s9B := sA.trans sB
        walk_at "go"
        refine ⟨lB, [("[" : Str), x0, bd, ("]" : Str)] ++ ws, _, _, rfl, s09.same s9B, D9.same s9B, s9B _ _ r9, by rw [gB]; rfl, (((AllW.one (w := "[") (lwd_c (by decide +kernel))).app (.one w0)).app ((AllW.one wb).app (AllW.one (w := "]") (lwd_c (by decide +kernel))))).app aw, ?_⟩
        simp only [List.length_append, List.length_cons, List.length_nil]
        omega
    · rintro σ H6 ⟨l6, ws, o5, o6, rfl, s6, D6, r6, g6, aw, lw⟩
      walk_at "go"
      exact kk _ _ _ s6 g6 aw (by omega)
  walk_at "go"
  refine e_mod (by decide) ?_
  walk_at "go"
  have v0 : 0 ≤ way % 2 := Int.emod_nonneg _ (by decide)
  have v2 : way % 2 < 2 := Int.emod_lt_of_pos _ (by decide)
  obtain ⟨fi, efi⟩ : ∃ m : Fin 4, 1 + way % 2 = (m.1 : Int) := ⟨⟨(1 + way % 2).toNat, by omega⟩, by show _ = (((1 + way % 2).toNat : Nat) : Int); omega⟩
  rw [efi]
  refine ⟨fi, p, r, ys, rfl, D1, r1, y0, y9, fun v t H2 s2 D2 hR hC => ?_⟩
  walk_at "go"
  have ct : PtT 12 (emb fi.1 t) := emb_T hy (by omega) hC
  refine ⟨v, 0, emb fi.1 t, _, rfl, (emb_tr fi.1 hR).mono (by omega), ct, fun H3 s3 => ?_⟩
  have lz : (wrX 12 (emb fi.1 t) 0).length ≤ 156 := by
    rw [wrX_emb fi.1 12 t 0 (by omega)]
    exact wr_12 hy (by omega) (by omega) hC
  have la := lw_all (f := 0) ct.1
  generalize wrX 12 (emb fi.1 t) 0 = z at lz la ⊢
  have s03 := (s1.trans s2).same s3
  have D3 := D2.same s3
  walk_at "go"
  refine ⟨z, rfl, by omega, fun l H4 s4 n4 g4 => ?_⟩
  have lw := lwF_len z.cps.toList []
  rw [if_pos rfl] at lw
  have ez : z.cps.toList.length = z.length := Array.length_toList
  walk_at "go"
  refine ⟨p, l, _, rfl, D3.same s4, g4, gl_wd la, by rw [List.length_map]; omega, fun l' ws' H5 s5 D5 g5 a5 l5 => ?_⟩
  rw [List.length_map] at l5
  exact kk _ _ _ ((s03.same s4).trans s5) g5 a5 (by omega)
/-! ### law k04 -/
abbrev n_law : List Str := ["_law_script", "_law_names_here", "_law_words_here", "_law_text", "_law_found", "_law_good"]
def t_law (K : PySem.W.Frag) (W : WX) (S__law_drawn : Sp) (S__law_written : Sp) (S_read : Sp) (S_shown : Sp) (S__law_chain : Sp) (S__law_refused : Sp) : TS :=
  tSeq (tAsg (tCW sp__law_names W (tCons (tCW (sp_cell_at K) W (tCons (tVar 0) (tCons (tC (.int 0)) tNil))) (tCons (tOp rAddI (tC (.int 1)) (tOp rModI (tCW (sp_cell_at K) W (tCons (tVar 0) (tCons (tC (.int 1)) tNil))) (tC (.int 3)))) tNil))) (gName 1))
  (tSeq (tAsg (tCW S__law_drawn W (tCons (tCW (sp_dice K) W (tCons (tCW (sp_cell_at K) W (tCons (tVar 0) (tCons (tC (.int 2)) tNil))) tNil)) (tCons (tVar 1) tNil))) (gName 2))
  (tSeq (tAsg (tTM (rJoinT K) (tC (.str " ")) (tVar 2)) (gName 3))
  (tSeq (tIfS (tTest (tOp rEq (tOp rModI (tCW (sp_cell_at K) W (tCons (tVar 0) (tCons (tC (.int 3)) tNil))) (tC (.int 6))) (tC (.int 1)))) (tAsg (tOp rAddS (tVar 3) (tOp rMulS (tC (.str " ")) (tCB rMax2 (tCons (tC (.int 0)) (tCons (tOp rSubI (tOp rAddI (tC (.int 398)) (tOp rModI (tCW (sp_cell_at K) W (tCons (tVar 0) (tCons (tC (.int 4)) tNil))) (tC (.int 4)))) (tCB rLenT (tCons (tVar 3) tNil))) tNil))))) (gName 3)) tNext)
  (tSeq (tAsg (tCW S__law_chain W (tCons (tVar 2) (tCons (tC (.int 0)) (tCons (tC (.int 0)) (tCons (tC (.int 1)) tNil))))) (gName 4))
  (tSeq (tAsg (tAndV (tOp rLtI (tCB (rLenL K) (tCons (tVar 2) tNil)) (tC (.int 41))) (tOp rLtI (tCB rLenT (tCons (tVar 3) tNil)) (tC (.int 401)))) (gName 5))
  (tSeq (tIfS (tOr (tTest (tOp rIsN (tVar 4) (tC .non))) (tOr (tTest (tOp rNe (tOp (rIxT K) (tVar 4) (tC (.int 1))) (tCB (rLenL K) (tCons (tVar 2) tNil)))) (tNot (tB (tVar 5))))) (tRet (tCW S__law_refused W (tCons (tVar 3) tNil))) tNext)
  (tRet (tOp rEq (tCW S_shown W (tCons (tCW S_read W (tCons (tVar 3) tNil)) tNil)) (tCW S__law_written W (tCons (tOp (rIxT K) (tVar 4) (tC (.int 0))) (tCons (tC (.int 0)) tNil)))))))))))
theorem dr_nil {ws r : List Str} (h : ws = r) : ∃ pre, ws = pre ++ r ∧ ∀ w ∈ pre, ¬ BdW w := ⟨[], h, fun w hw => nomatch hw⟩
/-- read or refused -/
theorem bad_or {z : Str} {ws ws' : List Str} {ok : Bool} (h1 : ok = true → ws' = ws) (h2 : ok = false → ∃ w ∈ ws, BdW w) (hne : ∀ w ∈ ws, w ≠ "") (h : wholeF (singleF 2) ws = none ∨ (∃ t r, wholeF (singleF 2) ws = some (t, r) ∧ r ≠ []) ∨ 40 < ws.length ∨ 400 < z.length) : 400 < z.length ∨ ok = false ∨ 40 < ws'.length ∨ parseF ws' = none := by
  cases ok with
  | false => exact .inr (.inl rfl)
  | true =>
    rw [h1 rfl]
    rcases h with h | ⟨t, r, h, hr⟩ | h | h
    · exact .inr (.inr (.inr (parse_none h)))
    · refine .inr (.inr (.inr ?_))
      obtain ⟨pre, e, _⟩ := wholeF_eat (singleF_eat 2) _ _ _ h
      rw [parse_some h fun w hw => hne w (by rw [e]; exact List.mem_append_right _ hw), if_neg hr]
    · exact .inr (.inr (.inl h))
    · exact .inl h
theorem good_or {ws ws' : List Str} {ok : Bool} {t : Pt} (h1 : ok = true → ws' = ws) (h2 : ok = false → ∃ w ∈ ws, BdW w) (h : wholeF (singleF 2) ws = some (t, [])) : ok = true ∧ ws' = ws ∧ parseF ws = some t := by
  obtain ⟨pre, e, g⟩ := wholeF_eat (singleF_eat 2) _ _ _ h
  rw [List.append_nil] at e
  have ho : ok = true := by
    cases ok with
    | true => rfl
    | false =>
      obtain ⟨w, hw, b⟩ := h2 rfl
      exact absurd b (g w (by rw [← e]; exact hw))
  refine ⟨ho, h1 ho, ?_⟩
  have := parse_some h (fun w hw => absurd hw (by simp))
  rw [if_pos rfl] at this
  exact this
theorem lwd_ne {w : Str} (h : LWd w) : w ≠ "" := by
  have key : w.cps.toList ≠ [] := by
    obtain ⟨h, _⟩ := h
    rcases h with (⟨h1, _⟩ | ⟨h1, _⟩ | ⟨c, _, e⟩) | ⟨c, _, _, _, _, e⟩
    · exact h1
    · exact h1
    · rw [e]; simp
    · rw [e]; simp
  rintro rfl
  exact key rfl
theorem sum_len (ws : List Str) (h : AllW ws) : (ws.map (·.length)).sum ≤ 7 * ws.length := by
  induction ws with
  | nil => exact Nat.zero_le _
  | cons w ws ih =>
    have := ih fun v hv => h v (List.mem_cons_of_mem _ hv)
    have := (h w List.mem_cons_self).2
    rw [List.map_cons, List.sum_cons, List.length_cons]
    omega
theorem pure_law {K : PySem.W.Frag} {vs : List V} {H : Hp} {Q : VK} {E : XK} {W : WX} (h : sp_law K vs H Q E) : t_law K W (sp_drawn K) sp_wrX12 (sp_readX K) (sp_shownX K) sp_lch sp_refusedT { nx := fun _ H' => Q .non H', rt := Q } (start n_law vs) H := by
  obtain ⟨a, ns, rfl, hS, hn, k⟩ := h
  have hmg := mega
  show t_law K W _ _ _ _ _ _ _ [some (.ref a), none, none, none, none, none] H
  unfold t_law
  walk_at "go"
  refine ⟨a, ns, 0, rfl, hS, by decide, ?_⟩
  walk_at "go"
  refine ⟨a, ns, 1, rfl, hS, by decide, ?_⟩
  walk_at "go"
  refine e_mod (by decide) ?_
  walk_at "go"
  have hc0 : 0 ≤ cellAt ns 1 % 3 := Int.emod_nonneg _ (by decide)
  have hc9 : cellAt ns 1 % 3 < 3 := Int.emod_lt_of_pos _ (by decide)
  have hm : (((1 + cellAt ns 1 % 3).toNat : Nat) : Int) = 1 + cellAt ns 1 % 3 := by omega
  refine ⟨cellAt ns 0, (1 + cellAt ns 1 % 3).toNat, by rw [hm], by omega, fun r H1 s1 r0 h1 => ?_⟩
  have hy0 : 0 < (lawNames (cellAt ns 0) (1 + cellAt ns 1 % 3).toNat).length := by unfold lawNames; rw [List.length_map, List.length_range]; omega
  have hy9 : (lawNames (cellAt ns 0) (1 + cellAt ns 1 % 3).toNat).length ≤ 9 := by unfold lawNames; rw [List.length_map, List.length_range]; omega
  have hy : ∀ x ∈ lawNames (cellAt ns 0) (1 + cellAt ns 1 % 3).toNat, nameB x = true := fun x hx => lawNames_name hx
  generalize lawNames (cellAt ns 0) (1 + cellAt ns 1 % 3).toNat = ys at h1 hy0 hy9 hy
  walk_at "go"
  refine ⟨a, ns, 2, rfl, s1.seq hS, by decide, ?_⟩
  walk_at "go"
  refine ⟨_, rfl, fun p H2 s2 p0 hD => ?_⟩
  walk_at "go"
  refine ⟨p, r, ys, rfl, hD, s2 _ _ h1, hy0, by omega, hy, fun l ws H3 s3 g3 aw lw => ?_⟩
  have s13 : Same H1 H3 := s3.from s2 (by simpa using p0)
  have s03 := s1.trans s13
  walk_at "go"
  refine e_tm ?_
  walk_at "go"
  refine ⟨⟨_, rfl⟩, ?_⟩
  walk_at "go"
  have sl := sum_len ws aw
  refine e_joinL (SqL.of g3) (by have : (" " : Str).length = 1 := rfl; rw [this]; omega) ?_
  have ej : (Txt.join " " ws).cps.toList = TL.joinL [32] (ws.map TL.tl) := by
    rw [TL.join_eq]
    exact TL.tl_join " " ws
  have lj : (Txt.join " " ws).length ≤ 8000 := by
    have := join_len ws aw
    rw [← ej] at this
    have e : (Txt.join " " ws).cps.toList.length = (Txt.join " " ws).length := Array.length_toList
    omega
  generalize Txt.join " " ws = z0 at ej lj ⊢
  refine st_ifK (fun σ H' => ∃ (z : Str) (b : Nat), σ = [some (.ref a), some (.ref r), some (.ref l), some (.str z), none, none] ∧ H' = H3 ∧ z.cps.toList = TL.joinL [32] (ws.map TL.tl) ++ List.replicate b 32 ∧ z.length ≤ 9000) (fun σ H' hJ => ?_) fun N hN => ?_
  rotate_left
  · walk_at "go"
    refine ⟨a, ns, 3, rfl, s03.seq hS, by decide, ?_⟩
    walk_at "go"
    refine e_mod (by decide) ?_
    walk_at "go"
    refine ifd (fun _ => ?_) (fun _ => ?_)
    · walk_at "go"
      refine ⟨a, ns, 4, rfl, s03.seq hS, by decide, ?_⟩
      walk_at "go"
      refine e_mod (by decide) ?_
      have c0 : 0 ≤ cellAt ns 4 % 4 := Int.emod_nonneg _ (by decide)
      have c4 : cellAt ns 4 % 4 < 4 := Int.emod_lt_of_pos _ (by decide)
      walk_at "go"
      refine e_lenT (by omega) ?_
      walk_at "go"
      refine ⟨_, _, rfl, ?_⟩
      obtain ⟨b, eb, hb⟩ : ∃ b : Nat, (if 398 + cellAt ns 4 % 4 - (z0.length : Int) > 0 then 398 + cellAt ns 4 % 4 - (z0.length : Int) else 0) = (b : Int) ∧ b ≤ 401 := by
        by_cases q : 398 + cellAt ns 4 % 4 - (z0.length : Int) > 0
        · exact ⟨(398 + cellAt ns 4 % 4 - (z0.length : Int)).toNat, by rw [if_pos q]; omega, by omega⟩
        · exact ⟨0, by rw [if_neg q]; rfl, by omega⟩
      rw [eb]
      refine e_mulS (by omega) (by omega) (by decide) ?_
      have em := mul_sp (b : Int)
      have lm : (PySem.Txt.mul " " (b : Int)).length = b := by
        have e : (PySem.Txt.mul " " (b : Int)).cps.toList.length = (PySem.Txt.mul " " (b : Int)).length := Array.length_toList
        rw [em, List.length_replicate] at e
        rw [← e]
        rfl
      refine e_addS (by rw [lm]; omega) ?_
      walk_at "go"
      exact hN _ _ ⟨_, b, rfl, rfl, by rw [cps_app, ej, em]; rfl, by rw [len_app, lm]; omega⟩
    · walk_at "go"
      exact hN _ _ ⟨z0, 0, rfl, rfl, by rw [ej]; simp, by omega⟩
  obtain ⟨z, b, rfl, rfl, ez, lz⟩ := hJ
  obtain ⟨ws', ok, hT, o1, o2⟩ := tok_join b ws aw
  rw [← ez] at hT
  have hne : ∀ w ∈ ws, w ≠ "" := fun w hw => lwd_ne (aw w hw)
  walk_at "go"
  refine ⟨l, ws, 0, 0, rfl, g3, rfl, Nat.zero_le _, by omega, fun w hw => by have := (aw w hw).2; omega, fun en H4 s4 => ?_, fun T rs et a' v' j H4 s4 ha' hj hr hT' => ?_⟩
  · rw [List.drop_zero] at en
    have bad := bad_or (z := z) o1 o2 hne (.inl en)
    have fin : sp_refusedT [.str z] H4 (fun x H' => Q x H') (fun _ _ _ => False) := ⟨z, ws', ok, rfl, by omega, hT, bad, fun H' _ => k _⟩
    walk_at "go"
    refine e_lenL (SqL.of (s4 _ _ g3)) ?_
    rw [List.length_map]
    walk_at "go"
    refine ifd (fun q => ?_) (fun q => ?_)
    · walk_at "go"
      refine e_lenT (by omega) ?_
      walk_at "go"
      refine ifd (fun _ => ?_) (fun h => absurd rfl h)
      walk_at "go"
      refine iteT ?_
      walk_at "go"
      exact ⟨z, ws', ok, rfl, by omega, hT, bad, fun H' _ => k _⟩
    · walk_at "go"
      refine ifd (fun _ => ?_) (fun h => absurd rfl h)
      walk_at "go"
      refine iteT ?_
      walk_at "go"
      exact ⟨z, ws', ok, rfl, by omega, hT, bad, fun H' _ => k _⟩
  · rw [List.drop_zero] at et
    have g4 := s4 _ _ g3
    have erj : rs = [] ↔ j = ws.length := by
      rw [← hr, List.drop_eq_nil_iff]
      omega
    walk_at "go"
    refine e_lenL (SqL.of g4) ?_
    rw [List.length_map]
    walk_at "go"
    refine ifd (fun q => ?_) (fun q => ?_)
    · walk_at "go"
      refine e_lenT (by omega) ?_
      walk_at "go"
      refine ifd (fun h => absurd h (by simp)) (fun _ => ?_)
      walk_at "go"
      refine e_ixT (SqT.of ha') (at_of (j := 1) rfl rfl) ?_
      walk_at "go"
      refine e_lenL (SqL.of g4) ?_
      rw [List.length_map]
      walk_at "go"
      refine ifn (fun q1 => ?_) (fun q1 => ?_)
      · walk_at "go"
        refine iteT ?_
        walk_at "go"
        exact ⟨z, ws', ok, rfl, by omega, hT, bad_or o1 o2 hne (.inr (.inl ⟨T, rs, et, fun e => q1 (by rw [erj.mp e])⟩)), fun H' _ => k _⟩
      have q1 : rs = [] := erj.mpr (by omega)
      rw [q1] at et
      walk_at "go"
      refine ifn (fun q2 => ?_) (fun q2 => ?_)
      · walk_at "go"
        exact ⟨z, ws', ok, rfl, by omega, hT, bad_or o1 o2 hne (.inr (.inr (.inr (by omega)))), fun H' _ => k _⟩
      · obtain ⟨g1, g2, g5⟩ := good_or o1 o2 et
        have tl : Tells z (wrX 12 T 0) := ⟨by omega, ws', T, by rw [← g1]; exact hT, by rw [g2]; omega, by rw [g2]; exact g5, rfl⟩
        obtain ⟨f1, f2⟩ := parse_gv g5
        have hTT : PtT 12 T := ⟨f1.ok, by have := (parse_ok g5).2; omega⟩
        walk_at "go"
        refine read_tells tl fun v1 H5 T1 s5 hX hP hw => ?_
        walk_at "go"
        refine ⟨v1, T1, _, rfl, hX, hP, fun H6 s6 => ?_⟩
        rw [hw]
        walk_at "go"
        refine e_ixT (SqT.of (s6 _ _ (s5 _ _ ha'))) (at_of (j := 0) rfl rfl) ?_
        walk_at "go"
        refine ⟨v', 0, T, _, rfl, (TrX.good 12).same (s5.trans s6) hT', hTT, fun H7 s7 => ?_⟩
        walk_at "go"
        have := k H7
        rw [← decide_eq_true (show wrX 12 T 0 = wrX 12 T 0 from rfl)] at this
        exact this
    · have bad := bad_or (z := z) o1 o2 hne (.inr (.inr (.inl (by omega))))
      walk_at "go"
      refine ifd (fun h => absurd h (by simp)) (fun _ => ?_)
      walk_at "go"
      refine e_ixT (SqT.of ha') (at_of (j := 1) rfl rfl) ?_
      walk_at "go"
      refine e_lenL (SqL.of g4) ?_
      rw [List.length_map]
      walk_at "go"
      refine ifn (fun q1 => ?_) (fun q1 => ?_)
      · walk_at "go"
        refine iteT ?_
        walk_at "go"
        exact ⟨z, ws', ok, rfl, by omega, hT, bad, fun H' _ => k _⟩
      · walk_at "go"
        refine iteT ?_
        walk_at "go"
        exact ⟨z, ws', ok, rfl, by omega, hT, bad, fun H' _ => k _⟩
theorem noats_nil {K : PySem.W.Frag} {C : Addr} : ∀ f ∈ ([] : List Str), NoAttr K C f := by simp
theorem noats_cons {K : PySem.W.Frag} {C : Addr} {f : Str} {ns : List Str} (h : NoAttr K C f) (r : ∀ g ∈ ns, NoAttr K C g) : ∀ g ∈ f :: ns, NoAttr K C g := fun g hg => by
  rcases List.mem_cons.mp hg with q | q
  · rw [q]
    exact h
  · exact r g q
theorem pos_of {f : Str} {i : Nat} {ns : List Str} (h : posOf ns f = some i) : posOf ns f = some i := h
theorem p_Reader_words : posOf ns_Reader "words" = some 0 := by decide +kernel
theorem p_Reader_at : posOf ns_Reader "at" = some 1 := by decide +kernel
theorem p_Reader_deep : posOf ns_Reader "deep" = some 2 := by decide +kernel
theorem p_Name_name : posOf ns_Name "name" = some 1 := by decide +kernel
theorem p_Gate_name : posOf ns_Gate "name" = some 1 := by decide +kernel
theorem p_Gate_bound : posOf ns_Gate "bound" = some 2 := by decide +kernel
theorem p_Gate_inner : posOf ns_Gate "inner" = some 3 := by decide +kernel
theorem p_Chain_rank : posOf ns_Chain "rank" = some 0 := by decide +kernel
theorem p_Chain_sign : posOf ns_Chain "sign" = some 1 := by decide +kernel
theorem p_Chain_pieces : posOf ns_Chain "pieces" = some 2 := by decide +kernel
theorem p_Number_number : posOf ns_Number "number" = some 1 := by decide +kernel
def top (i : Nat) : Stmt := PySem.Challenge.pw_anewhall_k04_read_or_refused.main.body.getD i (.Pass ⟨0, 0, 0, 0⟩)
def inClass (s : Stmt) (j : Nat) : Stmt := match s with
  | .ClassDef (body := b) .. => b.getD j (.Pass ⟨0, 0, 0, 0⟩)
  | _ => .Pass ⟨0, 0, 0, 0⟩
open He (ga ma)
/-- what the walk asks of the text -/
structure Tx (K : PySem.W.Frag) (mg : Str → Option Value) : Prop where
  d_law : Def K "law" "law" (top 52) (ga K "law")
  g_law : mg "law" = some (.ref (ga K "law"))
  d_is_name : Def K "is_name" "is_name" (top 13) (ga K "is_name")
  f_len : mg "len" = none
  k_LONGEST : ∃ t, mg "LONGEST" = some (.int 6 t)
  k_LETTERS : ∃ t, mg "LETTERS" = some (.str "abcdefghijklmnopqrstuvwxyz" t)
  d_end_of : Def K "end_of" "end_of" (top 31) (ga K "end_of")
  d_words_of : Def K "words_of" "words_of" (top 32) (ga K "words_of")
  k_MOST_SIGNS : ∃ t, mg "MOST_SIGNS" = some (.int 400 t)
  x_NoRecipe : ExC K (ga K "NoRecipe")
  g_NoRecipe : mg "NoRecipe" = some (.ref (ga K "NoRecipe"))
  g_end_of : mg "end_of" = some (.ref (ga K "end_of"))
  k_FIGURES : ∃ t, mg "FIGURES" = some (.str "0123456789" t)
  k_SIGNS : ∃ t, mg "SIGNS" = some (.str "+&|()[]" t)
  k_MOST_WORDS : ∃ t, mg "MOST_WORDS" = some (.int 40 t)
  d_number_of : Def K "number_of" "number_of" (top 33) (ga K "number_of")
  f_int : mg "int" = none
  k_MOST : ∃ t, mg "MOST" = some (.int 30 t)
  d_Piece___init__ : Def K "__init__" "Piece.__init__" (inClass (top 14) 0) (ma K (ga K "Piece") "__init__")
  d_Chain___init__ : Def K "__init__" "Chain.__init__" (inClass (top 17) 0) (ma K (ga K "Chain") "__init__")
  cr_Piece : ClX.CRead K (ga K "Piece") (.type "type")
  cv_Piece___init__ : ClX.CVal K (ga K "Piece") (.type "type") "__init__" (.ref (ma K (ga K "Piece") "__init__")) (.ref (ma K (ga K "Piece") "__init__"))
  g_Piece : mg "Piece" = some (.ref (ga K "Piece"))
  d_Number___init__ : Def K "__init__" "Number.__init__" (inClass (top 15) 0) (ma K (ga K "Number") "__init__")
  c_Number : IsC K (ga K "Number") ["rank", "number"]
  d_Name___init__ : Def K "__init__" "Name.__init__" (inClass (top 16) 0) (ma K (ga K "Name") "__init__")
  c_Name : IsC K (ga K "Name") ["rank", "name"]
  d_Gate___init__ : Def K "__init__" "Gate.__init__" (inClass (top 21) 0) (ma K (ga K "Gate") "__init__")
  c_Gate : IsC K (ga K "Gate") ["rank", "name", "bound", "inner"]
  d_Sum___init__ : Def K "__init__" "Sum.__init__" (inClass (top 18) 0) (ma K (ga K "Sum") "__init__")
  cr_Chain : ClX.CRead K (ga K "Chain") (.type "type")
  cv_Chain___init__ : ClX.CVal K (ga K "Chain") (.type "type") "__init__" (.ref (ma K (ga K "Chain") "__init__")) (.ref (ma K (ga K "Chain") "__init__"))
  g_Chain : mg "Chain" = some (.ref (ga K "Chain"))
  d_Least___init__ : Def K "__init__" "Least.__init__" (inClass (top 19) 0) (ma K (ga K "Least") "__init__")
  d_Most___init__ : Def K "__init__" "Most.__init__" (inClass (top 20) 0) (ma K (ga K "Most") "__init__")
  d_Reader___init__ : Def K "__init__" "Reader.__init__" (inClass (top 34) 0) (ma K (ga K "Reader") "__init__")
  c_Reader : IsC K (ga K "Reader") ["words", "at", "deep"]
  d_Reader_here : Def K "here" "Reader.here" (inClass (top 34) 1) (ma K (ga K "Reader") "here")
  d_Reader_step : Def K "step" "Reader.step" (inClass (top 34) 2) (ma K (ga K "Reader") "step")
  m_Reader_here : Meth K (ga K "Reader") "here" (ma K (ga K "Reader") "here")
  d_Reader_must : Def K "must" "Reader.must" (inClass (top 34) 3) (ma K (ga K "Reader") "must")
  m_Reader_step : Meth K (ga K "Reader") "step" (ma K (ga K "Reader") "step")
  d_Reader_deeper : Def K "deeper" "Reader.deeper" (inClass (top 34) 9) (ma K (ga K "Reader") "deeper")
  k_DEEPEST : ∃ t, mg "DEEPEST" = some (.int 2 t)
  d_Reader_inner_of : Def K "inner_of" "Reader.inner_of" (inClass (top 34) 5) (ma K (ga K "Reader") "inner_of")
  m_Reader_lesser : Meth K (ga K "Reader") "lesser" (ma K (ga K "Reader") "lesser")
  m_Reader_summed : Meth K (ga K "Reader") "summed" (ma K (ga K "Reader") "summed")
  m_Reader_single : Meth K (ga K "Reader") "single" (ma K (ga K "Reader") "single")
  d_Reader_chained : Def K "chained" "Reader.chained" (inClass (top 34) 4) (ma K (ga K "Reader") "chained")
  m_Reader_inner_of : Meth K (ga K "Reader") "inner_of" (ma K (ga K "Reader") "inner_of")
  k_MOST_PIECES : ∃ t, mg "MOST_PIECES" = some (.int 8 t)
  d_Reader_whole : Def K "whole" "Reader.whole" (inClass (top 34) 6) (ma K (ga K "Reader") "whole")
  m_Reader_chained : Meth K (ga K "Reader") "chained" (ma K (ga K "Reader") "chained")
  mk_Most : Mk K (ga K "Most") (ma K (ga K "Most") "__init__")
  g_Most : mg "Most" = some (.ref (ga K "Most"))
  d_Reader_lesser : Def K "lesser" "Reader.lesser" (inClass (top 34) 7) (ma K (ga K "Reader") "lesser")
  mk_Least : Mk K (ga K "Least") (ma K (ga K "Least") "__init__")
  g_Least : mg "Least" = some (.ref (ga K "Least"))
  d_Reader_summed : Def K "summed" "Reader.summed" (inClass (top 34) 8) (ma K (ga K "Reader") "summed")
  mk_Sum : Mk K (ga K "Sum") (ma K (ga K "Sum") "__init__")
  g_Sum : mg "Sum" = some (.ref (ga K "Sum"))
  d_Reader_single : Def K "single" "Reader.single" (inClass (top 34) 10) (ma K (ga K "Reader") "single")
  m_Reader_deeper : Meth K (ga K "Reader") "deeper" (ma K (ga K "Reader") "deeper")
  m_Reader_whole : Meth K (ga K "Reader") "whole" (ma K (ga K "Reader") "whole")
  m_Reader_must : Meth K (ga K "Reader") "must" (ma K (ga K "Reader") "must")
  m_Reader_gated : Meth K (ga K "Reader") "gated" (ma K (ga K "Reader") "gated")
  g_is_name : mg "is_name" = some (.ref (ga K "is_name"))
  mk_Name : Mk K (ga K "Name") (ma K (ga K "Name") "__init__")
  g_Name : mg "Name" = some (.ref (ga K "Name"))
  mk_Number : Mk K (ga K "Number") (ma K (ga K "Number") "__init__")
  g_Number : mg "Number" = some (.ref (ga K "Number"))
  g_number_of : mg "number_of" = some (.ref (ga K "number_of"))
  d_Reader_gated : Def K "gated" "Reader.gated" (inClass (top 34) 11) (ma K (ga K "Reader") "gated")
  mk_Gate : Mk K (ga K "Gate") (ma K (ga K "Gate") "__init__")
  g_Gate : mg "Gate" = some (.ref (ga K "Gate"))
  d_read : Def K "read" "read" (top 35) (ga K "read")
  mk_Reader : Mk K (ga K "Reader") (ma K (ga K "Reader") "__init__")
  g_Reader : mg "Reader" = some (.ref (ga K "Reader"))
  g_words_of : mg "words_of" = some (.ref (ga K "words_of"))
  f_str : mg "str" = none
  g_bracketed : mg "bracketed" = some (.ref (ga K "bracketed"))
  d_bracketed : Def K "bracketed" "bracketed" (top 22) (ga K "bracketed")
  fv_rank : ∀ c ∈ six, Cls K (ga K c) ∧ NoAttr K (ga K c) "rank"
  d_shown : Def K "shown" "shown" (top 23) (ga K "shown")
  d__law_cell_at : Def K "_law_cell_at" "_law_cell_at" (top 37) (ga K "_law_cell_at")
  d__law_dice : Def K "_law_dice" "_law_dice" (top 38) (ga K "_law_dice")
  d__law_roll : Def K "_law_roll" "_law_roll" (top 39) (ga K "_law_roll")
  d__law_names : Def K "_law_names" "_law_names" (top 40) (ga K "_law_names")
  f_range : mg "range" = none
  d__law_tree : Def K "_law_tree" "_law_tree" (top 41) (ga K "_law_tree")
  g__law_roll : mg "_law_roll" = some (.ref (ga K "_law_roll"))
  g__law_tree : mg "_law_tree" = some (.ref (ga K "_law_tree"))
  d__law_written : Def K "_law_written" "_law_written" (top 42) (ga K "_law_written")
  g__law_written : mg "_law_written" = some (.ref (ga K "_law_written"))
  d__law_is_name : Def K "_law_is_name" "_law_is_name" (top 47) (ga K "_law_is_name")
  d__law_number : Def K "_law_number" "_law_number" (top 48) (ga K "_law_number")
  d__law_single : Def K "_law_single" "_law_single" (top 49) (ga K "_law_single")
  g__law_chain : mg "_law_chain" = some (.ref (ga K "_law_chain"))
  g__law_single : mg "_law_single" = some (.ref (ga K "_law_single"))
  g__law_number : mg "_law_number" = some (.ref (ga K "_law_number"))
  g__law_is_name : mg "_law_is_name" = some (.ref (ga K "_law_is_name"))
  d__law_chain : Def K "_law_chain" "_law_chain" (top 50) (ga K "_law_chain")
  d__law_refused : Def K "_law_refused" "_law_refused" (top 51) (ga K "_law_refused")
  g_read : mg "read" = some (.ref (ga K "read"))
  f_isinstance : mg "isinstance" = none
  g_NoName : mg "NoName" = some (.ref (ga K "NoName"))
  g_NoNumber : mg "NoNumber" = some (.ref (ga K "NoNumber"))
  g_Full : mg "Full" = some (.ref (ga K "Full"))
  g_NoPoint : mg "NoPoint" = some (.ref (ga K "NoPoint"))
  g_NoRow : mg "NoRow" = some (.ref (ga K "NoRow"))
  g_HallError : mg "HallError" = some (.ref (ga K "HallError"))
  f_ValueError : mg "ValueError" = none
  d__law_words : Def K "_law_words" "_law_words" (top 43) (ga K "_law_words")
  d__law_odd : Def K "_law_odd" "_law_odd" (top 44) (ga K "_law_odd")
  d__law_changed : Def K "_law_changed" "_law_changed" (top 45) (ga K "_law_changed")
  g__law_odd : mg "_law_odd" = some (.ref (ga K "_law_odd"))
  d__law_drawn : Def K "_law_drawn" "_law_drawn" (top 46) (ga K "_law_drawn")
  g__law_changed : mg "_law_changed" = some (.ref (ga K "_law_changed"))
  g__law_words : mg "_law_words" = some (.ref (ga K "_law_words"))
  g__law_names : mg "_law_names" = some (.ref (ga K "_law_names"))
  g__law_cell_at : mg "_law_cell_at" = some (.ref (ga K "_law_cell_at"))
  g__law_drawn : mg "_law_drawn" = some (.ref (ga K "_law_drawn"))
  g__law_dice : mg "_law_dice" = some (.ref (ga K "_law_dice"))
  f_max : mg "max" = none
  g__law_refused : mg "_law_refused" = some (.ref (ga K "_law_refused"))
  g_shown : mg "shown" = some (.ref (ga K "shown"))
  c_Least : IsC K (ga K "Least") ["rank", "sign", "pieces"]
  c_Most : IsC K (ga K "Most") ["rank", "sign", "pieces"]
  c_Sum : IsC K (ga K "Sum") ["rank", "sign", "pieces"]
  d_Gate_spoken : Def K "spoken" "Gate.spoken" (inClass (top 21) 2) (ma K (ga K "Gate") "spoken")
  d_Least_spoken : Def K "spoken" "Chain.spoken" (inClass (top 17) 1) (ma K (ga K "Least") "spoken")
  d_Most_spoken : Def K "spoken" "Chain.spoken" (inClass (top 17) 1) (ma K (ga K "Most") "spoken")
  d_Name_spoken : Def K "spoken" "Name.spoken" (inClass (top 16) 2) (ma K (ga K "Name") "spoken")
  d_Number_spoken : Def K "spoken" "Number.spoken" (inClass (top 15) 2) (ma K (ga K "Number") "spoken")
  d_Sum_spoken : Def K "spoken" "Chain.spoken" (inClass (top 17) 1) (ma K (ga K "Sum") "spoken")
  em_NoRecipe_NoRecipe : PySem.W.exmOne K (.ref (ga K "NoRecipe")) (.ref (ga K "NoRecipe")) = some true
  ki_NoRecipe_Full_false : PySem.W.kitOne K (.ref (ga K "NoRecipe")) (.ref (ga K "Full")) = some false
  ki_NoRecipe_HallError_true : PySem.W.kitOne K (.ref (ga K "NoRecipe")) (.ref (ga K "HallError")) = some true
  ki_NoRecipe_NoName_false : PySem.W.kitOne K (.ref (ga K "NoRecipe")) (.ref (ga K "NoName")) = some false
  ki_NoRecipe_NoNumber_false : PySem.W.kitOne K (.ref (ga K "NoRecipe")) (.ref (ga K "NoNumber")) = some false
  ki_NoRecipe_NoPoint_false : PySem.W.kitOne K (.ref (ga K "NoRecipe")) (.ref (ga K "NoPoint")) = some false
  ki_NoRecipe_NoRow_false : PySem.W.kitOne K (.ref (ga K "NoRecipe")) (.ref (ga K "NoRow")) = some false
  kv_NoRecipe_ValueError_true : PySem.W.kitOne K (.ref (ga K "NoRecipe")) (.type "ValueError") = some true
  m_Gate_spoken : Meth K (ga K "Gate") "spoken" (ma K (ga K "Gate") "spoken")
  m_Least_spoken : Meth K (ga K "Least") "spoken" (ma K (ga K "Least") "spoken")
  m_Most_spoken : Meth K (ga K "Most") "spoken" (ma K (ga K "Most") "spoken")
  m_Name_spoken : Meth K (ga K "Name") "spoken" (ma K (ga K "Name") "spoken")
  m_Number_spoken : Meth K (ga K "Number") "spoken" (ma K (ga K "Number") "spoken")
  m_Sum_spoken : Meth K (ga K "Sum") "spoken" (ma K (ga K "Sum") "spoken")
  xi_NoRecipe : ExI K (ga K "NoRecipe")
abbrev s_is_name : Stmt := top 13
theorem sc_is_name : FnScope n_is_name ["word"] (defScope s_is_name) := ⟨rfl, rfl, rfl, by decide +kernel, rfl, by decide +kernel, by decide +kernel⟩
theorem ok_is_name {P : Program} {w : World} {K : PySem.W.Frag} {mg : Str → Option Value} {base : Heap} (T : Tx K mg) : Ok P w K mg base 1 (ga K "is_name") ["word"] sp_is_name := by
  refine ok0 T.d_is_name sc_is_name (fun _ _ _ _ _ _ us hl => match us, hl with | [_], _ => rfl) (fun vs H Q E h => ln_is_name h) (fun cdv A outer s H vs Q E hr h => ⟨t_is_name K (fun _ _ _ _ => False), ?_, pure_is_name h⟩)
  have hu := hu_of hr
  have tk := L2.takes0 (X := (cxOf (L2.CX P w) P w K mg base n_is_name "is_name" (defScope s_is_name) (ga K "is_name") cdv A outer s H E).nox)
  exact pss_cons (ps_if (PW.pt (pw_or (pt_cmpR op_eq (pv 0) pe_str (nomark _)) (pw_or1 (pt_cmpR op_gt (pe_callB call_lenT (by rfl) T.f_len (by decide +kernel) (pa_cons (pv 0) pa_nil)) (an_cint T.k_LONGEST) (nomark _))))) (pss_one (ps_ret pe_bl)) pss_nil)
      (pss_cons (ps_for PassesOwn.never rfl (pi_str (pv 0)) (pg_name (i := 1) sc_is_name.nd rfl (Or.inl rfl)) (pss_one (ps_if (pt_cmpR op_notInS (pv 1) (an_cstr T.k_LETTERS) (by rfl)) (pss_one (ps_ret pe_bl)) pss_nil)))
      (pss_one (ps_ret pe_bl)))
abbrev s_end_of : Stmt := top 31
theorem sc_end_of : FnScope n_end_of ["text", "at", "signs"] (defScope s_end_of) := ⟨rfl, rfl, rfl, by decide +kernel, rfl, by decide +kernel, by decide +kernel⟩
theorem ok_end_of {P : Program} {w : World} {K : PySem.W.Frag} {mg : Str → Option Value} {base : Heap} (T : Tx K mg) : Ok P w K mg base 1 (ga K "end_of") ["text", "at", "signs"] sp_end_of := by
  refine ok0 T.d_end_of sc_end_of (fun _ _ _ _ _ _ us hl => match us, hl with | [_, _, _], _ => rfl) (fun vs H Q E h => ln_end_of h) (fun cdv A outer s H vs Q E hr h => ⟨t_end_of K (fun _ _ _ _ => False), ?_, pure_end_of h⟩)
  have hu := hu_of hr
  have tk := L2.takes0 (X := (cxOf (L2.CX P w) P w K mg base n_end_of "end_of" (defScope s_end_of) (ga K "end_of") cdv A outer s H E).nox)
  exact pss_cons (ps_set (i := 3) sc_end_of.nd rfl (Or.inl rfl) (pv 1))
      (pss_cons (ps_while PassesOwn.never (PW.pt (pw_and (pt_cmpR op_lt (pv 3) (pe_callB call_lenT (by rfl) T.f_len (by decide +kernel) (pa_cons (pv 0) pa_nil)) (nomark _)) (pw_and1 (pt_cmpR op_inS (pe_ix ix_str (pv 0) (pv 3) (fun _ _ => rfl)) (pv 2) (by rfl))))) (pss_one (ps_set (i := 3) sc_end_of.nd rfl (Or.inl rfl) (pe_op op_add (pv 3) pe_int))))
      (pss_one (ps_ret (pv 3))))
abbrev s_words_ofX : Stmt := top 32
theorem sc_words_ofX : FnScope n_words_ofX ["text"] (defScope s_words_ofX) := ⟨rfl, rfl, rfl, by decide +kernel, rfl, by decide +kernel, by decide +kernel⟩
theorem ok_words_ofX {P : Program} {w : World} {K : PySem.W.Frag} {mg : Str → Option Value} {base : Heap} (T : Tx K mg) (F_end_of : Ok P w K mg base 1 (ga K "end_of") ["text", "at", "signs"] sp_end_of) : Ok P w K mg base 2 (ga K "words_of") ["text"] (sp_words_ofX K) := by
  refine okX T.d_words_of sc_words_ofX (fun _ _ _ _ _ _ us hl => match us, hl with | [_], _ => rfl) (fun vs H Q E h => ln_words_ofX h) (fun cdv A outer s H vs Q E hr h => ⟨t_words_ofX K (WofE E), ?_, pure_words_ofX h⟩)
  have hu := hu_of hr
  have tk := tkE (P := P) (w := w) (K := K) (mg := mg) (base := base) (N := n_words_ofX) (qual := "words_of") (scope := defScope s_words_ofX) (f := (ga K "words_of")) (cdv := cdv) (A := A) (outer := outer) (s := s) (H := H) (E := E)
  exact pss_cons (ps_if (pt_cmpR op_gt (pe_callB call_lenT (by rfl) T.f_len (by decide +kernel) (pa_cons (pv 0) pa_nil)) (an_cint T.k_MOST_SIGNS) (nomark _)) (pss_one (ps_rz T.x_NoRecipe tk T.g_NoRecipe)) pss_nil)
      (pss_cons (ps_set (i := 1) sc_words_ofX.nd rfl (Or.inl rfl) (pe_lst pa_nil))
      (pss_cons (ps_set (i := 2) sc_words_ofX.nd rfl (Or.inl rfl) pe_int)
      (pss_cons (ps_while (passes_of rfl) (pt_cmpR op_lt (pv 2) (pe_callB call_lenT (by rfl) T.f_len (by decide +kernel) (pa_cons (pv 0) pa_nil)) (nomark _)) (pss_cons (ps_set (i := 3) sc_words_ofX.nd rfl (Or.inl rfl) (pe_op op_add (pv 2) pe_int))
      (pss_cons (ps_if (pt_cmpR op_inS (pe_ix ix_str (pv 0) (pv 2) (fun _ _ => rfl)) (an_cstr T.k_LETTERS) (by rfl)) (pss_one (ps_set (i := 3) sc_words_ofX.nd rfl (Or.inl rfl) (an_call F_end_of (hr.mono (by decide)) tk T.g_end_of (pa_cons (pv 0) (pa_cons (pv 2) (pa_cons (an_cstr T.k_LETTERS) pa_nil)))))) (pss_one (ps_if (pt_cmpR op_inS (pe_ix ix_str (pv 0) (pv 2) (fun _ _ => rfl)) (an_cstr T.k_FIGURES) (by rfl)) (pss_one (ps_set (i := 3) sc_words_ofX.nd rfl (Or.inl rfl) (an_call F_end_of (hr.mono (by decide)) tk T.g_end_of (pa_cons (pv 0) (pa_cons (pv 2) (pa_cons (an_cstr T.k_FIGURES) pa_nil)))))) (pss_one (ps_if (PW.pt (pw_and (pt_cmpR op_notInS (pe_ix ix_str (pv 0) (pv 2) (fun _ _ => rfl)) (an_cstr T.k_SIGNS) (by rfl)) (pw_and1 (pt_cmpR op_ne (pe_ix ix_str (pv 0) (pv 2) (fun _ _ => rfl)) pe_str (nomark _))))) (pss_one (ps_rz T.x_NoRecipe tk T.g_NoRecipe)) pss_nil)))))
      (pss_cons (ps_if (pt_cmpR op_ne (pe_ix ix_str (pv 0) (pv 2) (fun _ _ => rfl)) pe_str (nomark _)) (pss_one (ps_expr (pe_bm PySem.F.plainAttrs_list PySem.F.slot_list_append PySem.F.type_list_append mt_append (pv 1) (pa_cons (pe_slice sl_str (pv 0) (po_some (pv 2)) (po_some (pv 3))) pa_nil)))) pss_nil)
      (pss_one (ps_set (i := 2) sc_words_ofX.nd rfl (Or.inl rfl) (pv 3)))))))
      (pss_cons (ps_if (pt_cmpR op_gt (pe_callB call_lenL (by rfl) T.f_len (by decide +kernel) (pa_cons (pv 1) pa_nil)) (an_cint T.k_MOST_WORDS) (nomark _)) (pss_one (ps_rz T.x_NoRecipe tk T.g_NoRecipe)) pss_nil)
      (pss_one (ps_ret (pv 1)))))))
abbrev s_number_ofX : Stmt := top 33
theorem sc_number_ofX : FnScope n_number_ofX ["word"] (defScope s_number_ofX) := ⟨rfl, rfl, rfl, by decide +kernel, rfl, by decide +kernel, by decide +kernel⟩
theorem ok_number_ofX {P : Program} {w : World} {K : PySem.W.Frag} {mg : Str → Option Value} {base : Heap} (T : Tx K mg) : Ok P w K mg base 1 (ga K "number_of") ["word"] (sp_number_ofX K) := by
  refine okX T.d_number_of sc_number_ofX (fun _ _ _ _ _ _ us hl => match us, hl with | [_], _ => rfl) (fun vs H Q E h => ln_number_ofX h) (fun cdv A outer s H vs Q E hr h => ⟨t_number_ofX K (WofE E), ?_, pure_number_ofX h⟩)
  have hu := hu_of hr
  have tk := tkE (P := P) (w := w) (K := K) (mg := mg) (base := base) (N := n_number_ofX) (qual := "number_of") (scope := defScope s_number_ofX) (f := (ga K "number_of")) (cdv := cdv) (A := A) (outer := outer) (s := s) (H := H) (E := E)
  exact pss_cons (ps_if (PW.pt (pw_or (pt_cmpR op_eq (pv 0) pe_str (nomark _)) (pw_or1 (pt_cmpR op_gt (pe_callB call_lenT (by rfl) T.f_len (by decide +kernel) (pa_cons (pv 0) pa_nil)) pe_int (nomark _))))) (pss_one (ps_rz T.x_NoRecipe tk T.g_NoRecipe)) pss_nil)
      (pss_cons (ps_for (passes_of rfl) rfl (pi_str (pv 0)) (pg_name (i := 1) sc_number_ofX.nd rfl (Or.inl rfl)) (pss_one (ps_if (pt_cmpR op_notInS (pv 1) (an_cstr T.k_FIGURES) (by rfl)) (pss_one (ps_rz T.x_NoRecipe tk T.g_NoRecipe)) pss_nil)))
      (pss_cons (ps_if (PW.pt (pw_or (PW.pt (pw_and (pt_cmpR op_eq (pe_ix ix_str (pv 0) pe_int (fun _ _ => rfl)) pe_str (nomark _)) (pw_and1 (pt_cmpR op_gt (pe_callB call_lenT (by rfl) T.f_len (by decide +kernel) (pa_cons (pv 0) pa_nil)) pe_int (nomark _))))) (pw_or1 (pt_cmpR op_gt (pe_callTy call_int_str (by rfl) T.f_int (by decide +kernel) (pa_cons (pv 0) pa_nil)) (an_cint T.k_MOST) (nomark _))))) (pss_one (ps_rz T.x_NoRecipe tk T.g_NoRecipe)) pss_nil)
      (pss_one (ps_ret (pe_callTy call_int_str (by rfl) T.f_int (by decide +kernel) (pa_cons (pv 0) pa_nil))))))
abbrev s_Piece___init__ : Stmt := inClass (top 14) 0
theorem sc_Piece___init__ : FnScope n_Piece___init__ ["self", "rank"] (defScope s_Piece___init__) := ⟨rfl, rfl, rfl, by decide +kernel, rfl, by decide +kernel, by decide +kernel⟩
theorem ok_Piece___init__ {P : Program} {w : World} {K : PySem.W.Frag} {mg : Str → Option Value} {base : Heap} (T : Tx K mg) : Ok P w K mg base 1 (ma K (ga K "Piece") "__init__") ["self", "rank"] (sp_Piece_init K) := by
  refine ok0 T.d_Piece___init__ sc_Piece___init__ (fun _ _ _ _ _ _ us hl => match us, hl with | [_, _], _ => rfl) (fun vs H Q E h => ln_Piece___init__ h) (fun cdv A outer s H vs Q E hr h => ?_)
  obtain ⟨C, tC, h⟩ := h
  refine ⟨t_Piece___init__ K (fun _ _ _ _ => False) C, ?_, pure_Piece___init__ h⟩
  have hu := hu_of hr
  have tk := L2.takes0 (X := (cxOf (L2.CX P w) P w K mg base n_Piece___init__ "Piece.__init__" (defScope s_Piece___init__) (ma K (ga K "Piece") "__init__") cdv A outer s H E).nox)
  exact pss_one (an_snew tC (by decide) (by rfl) (pv 0) (pv 1))
abbrev s_Chain___init__ : Stmt := inClass (top 17) 0
theorem sc_Chain___init__ : FnScope n_Chain___init__ ["self", "rank", "sign", "pieces"] (defScope s_Chain___init__) := ⟨rfl, rfl, rfl, by decide +kernel, rfl, by decide +kernel, by decide +kernel⟩
theorem ok_Chain___init__ {P : Program} {w : World} {K : PySem.W.Frag} {mg : Str → Option Value} {base : Heap} (T : Tx K mg) (F_Piece___init__ : Ok P w K mg base 1 (ma K (ga K "Piece") "__init__") ["self", "rank"] (sp_Piece_init K)) : Ok P w K mg base 2 (ma K (ga K "Chain") "__init__") ["self", "rank", "sign", "pieces"] (sp_Chain_init K) := by
  refine ok0 T.d_Chain___init__ sc_Chain___init__ (fun _ _ _ _ _ _ us hl => match us, hl with | [_, _, _, _], _ => rfl) (fun vs H Q E h => ln_Chain___init__ h) (fun cdv A outer s H vs Q E hr h => ?_)
  obtain ⟨C, tC, h⟩ := h
  refine ⟨t_Chain___init__ K (fun _ _ _ _ => False) C, ?_, pure_Chain___init__ h⟩
  have hu := hu_of hr
  have tk := L2.takes0 (X := (cxOf (L2.CX P w) P w K mg base n_Chain___init__ "Chain.__init__" (defScope s_Chain___init__) (ma K (ga K "Chain") "__init__") cdv A outer s H E).nox)
  exact pss_cons (ps_expr (an_cfun T.cr_Piece T.cv_Piece___init__ F_Piece___init__ (hr.mono (by decide)) (an_gcls T.g_Piece) (pa_cons (pv 0) (pa_cons (pv 1) pa_nil))))
      (pss_cons (an_snew tC (by decide) (by rfl) (pv 0) (pv 2))
      (pss_one (an_snew tC (by decide) (by rfl) (pv 0) (pv 3))))
abbrev s_Number___init__ : Stmt := inClass (top 15) 0
theorem sc_Number___init__ : FnScope n_Number___init__ ["self", "number"] (defScope s_Number___init__) := ⟨rfl, rfl, rfl, by decide +kernel, rfl, by decide +kernel, by decide +kernel⟩
theorem ok_Number___init__ {P : Program} {w : World} {K : PySem.W.Frag} {mg : Str → Option Value} {base : Heap} (T : Tx K mg) (F_Piece___init__ : Ok P w K mg base 1 (ma K (ga K "Piece") "__init__") ["self", "rank"] (sp_Piece_init K)) : Ok P w K mg base 2 (ma K (ga K "Number") "__init__") ["self", "number"] (sp_Number_init K) := by
  refine ok0 T.d_Number___init__ sc_Number___init__ (fun _ _ _ _ _ _ us hl => match us, hl with | [_, _], _ => rfl) (fun vs H Q E h => ln_Number___init__ h) (fun cdv A outer s H vs Q E hr h => ⟨t_Number___init__ K (fun _ _ _ _ => False), ?_, pure_Number___init__ h⟩)
  have hu := hu_of hr
  have tk := L2.takes0 (X := (cxOf (L2.CX P w) P w K mg base n_Number___init__ "Number.__init__" (defScope s_Number___init__) (ma K (ga K "Number") "__init__") cdv A outer s H E).nox)
  exact pss_cons (ps_expr (an_cfun T.cr_Piece T.cv_Piece___init__ F_Piece___init__ (hr.mono (by decide)) (an_gcls T.g_Piece) (pa_cons (pv 0) (pa_cons pe_int pa_nil))))
      (pss_one (an_snew T.c_Number (by decide) (by rfl) (pv 0) (pv 1)))
abbrev s_Name___init__ : Stmt := inClass (top 16) 0
theorem sc_Name___init__ : FnScope n_Name___init__ ["self", "name"] (defScope s_Name___init__) := ⟨rfl, rfl, rfl, by decide +kernel, rfl, by decide +kernel, by decide +kernel⟩
theorem ok_Name___init__ {P : Program} {w : World} {K : PySem.W.Frag} {mg : Str → Option Value} {base : Heap} (T : Tx K mg) (F_Piece___init__ : Ok P w K mg base 1 (ma K (ga K "Piece") "__init__") ["self", "rank"] (sp_Piece_init K)) : Ok P w K mg base 2 (ma K (ga K "Name") "__init__") ["self", "name"] (sp_Name_init K) := by
  refine ok0 T.d_Name___init__ sc_Name___init__ (fun _ _ _ _ _ _ us hl => match us, hl with | [_, _], _ => rfl) (fun vs H Q E h => ln_Name___init__ h) (fun cdv A outer s H vs Q E hr h => ⟨t_Name___init__ K (fun _ _ _ _ => False), ?_, pure_Name___init__ h⟩)
  have hu := hu_of hr
  have tk := L2.takes0 (X := (cxOf (L2.CX P w) P w K mg base n_Name___init__ "Name.__init__" (defScope s_Name___init__) (ma K (ga K "Name") "__init__") cdv A outer s H E).nox)
  exact pss_cons (ps_expr (an_cfun T.cr_Piece T.cv_Piece___init__ F_Piece___init__ (hr.mono (by decide)) (an_gcls T.g_Piece) (pa_cons (pv 0) (pa_cons pe_int pa_nil))))
      (pss_one (an_snew T.c_Name (by decide) (by rfl) (pv 0) (pv 1)))
abbrev s_Gate___init__ : Stmt := inClass (top 21) 0
theorem sc_Gate___init__ : FnScope n_Gate___init__ ["self", "name", "bound", "inner"] (defScope s_Gate___init__) := ⟨rfl, rfl, rfl, by decide +kernel, rfl, by decide +kernel, by decide +kernel⟩
theorem ok_Gate___init__ {P : Program} {w : World} {K : PySem.W.Frag} {mg : Str → Option Value} {base : Heap} (T : Tx K mg) (F_Piece___init__ : Ok P w K mg base 1 (ma K (ga K "Piece") "__init__") ["self", "rank"] (sp_Piece_init K)) : Ok P w K mg base 2 (ma K (ga K "Gate") "__init__") ["self", "name", "bound", "inner"] (sp_Gate_init K) := by
  refine ok0 T.d_Gate___init__ sc_Gate___init__ (fun _ _ _ _ _ _ us hl => match us, hl with | [_, _, _, _], _ => rfl) (fun vs H Q E h => ln_Gate___init__ h) (fun cdv A outer s H vs Q E hr h => ⟨t_Gate___init__ K (fun _ _ _ _ => False), ?_, pure_Gate___init__ h⟩)
  have hu := hu_of hr
  have tk := L2.takes0 (X := (cxOf (L2.CX P w) P w K mg base n_Gate___init__ "Gate.__init__" (defScope s_Gate___init__) (ma K (ga K "Gate") "__init__") cdv A outer s H E).nox)
  exact pss_cons (ps_expr (an_cfun T.cr_Piece T.cv_Piece___init__ F_Piece___init__ (hr.mono (by decide)) (an_gcls T.g_Piece) (pa_cons (pv 0) (pa_cons pe_int pa_nil))))
      (pss_cons (an_snew T.c_Gate (by decide) (by rfl) (pv 0) (pv 1))
      (pss_cons (an_snew T.c_Gate (by decide) (by rfl) (pv 0) (pv 2))
      (pss_one (an_snew T.c_Gate (by decide) (by rfl) (pv 0) (pv 3)))))
abbrev s_Sum___init__ : Stmt := inClass (top 18) 0
theorem sc_Sum___init__ : FnScope n_Sum___init__ ["self", "pieces"] (defScope s_Sum___init__) := ⟨rfl, rfl, rfl, by decide +kernel, rfl, by decide +kernel, by decide +kernel⟩
theorem ok_Sum___init__ {P : Program} {w : World} {K : PySem.W.Frag} {mg : Str → Option Value} {base : Heap} (T : Tx K mg) (F_Chain___init__ : Ok P w K mg base 2 (ma K (ga K "Chain") "__init__") ["self", "rank", "sign", "pieces"] (sp_Chain_init K)) : Ok P w K mg base 3 (ma K (ga K "Sum") "__init__") ["self", "pieces"] (sp_Sum_init K) := by
  refine ok0 T.d_Sum___init__ sc_Sum___init__ (fun _ _ _ _ _ _ us hl => match us, hl with | [_, _], _ => rfl) (fun vs H Q E h => ln_Sum___init__ h) (fun cdv A outer s H vs Q E hr h => ⟨t_Sum___init__ K (fun _ _ _ _ => False), ?_, pure_Sum___init__ h⟩)
  have hu := hu_of hr
  have tk := L2.takes0 (X := (cxOf (L2.CX P w) P w K mg base n_Sum___init__ "Sum.__init__" (defScope s_Sum___init__) (ma K (ga K "Sum") "__init__") cdv A outer s H E).nox)
  exact pss_one (ps_expr (an_cfun T.cr_Chain T.cv_Chain___init__ F_Chain___init__ (hr.mono (by decide)) (an_gcls T.g_Chain) (pa_cons (pv 0) (pa_cons pe_int (pa_cons pe_str (pa_cons (pv 1) pa_nil))))))
abbrev s_Least___init__ : Stmt := inClass (top 19) 0
theorem sc_Least___init__ : FnScope n_Least___init__ ["self", "pieces"] (defScope s_Least___init__) := ⟨rfl, rfl, rfl, by decide +kernel, rfl, by decide +kernel, by decide +kernel⟩
theorem ok_Least___init__ {P : Program} {w : World} {K : PySem.W.Frag} {mg : Str → Option Value} {base : Heap} (T : Tx K mg) (F_Chain___init__ : Ok P w K mg base 2 (ma K (ga K "Chain") "__init__") ["self", "rank", "sign", "pieces"] (sp_Chain_init K)) : Ok P w K mg base 3 (ma K (ga K "Least") "__init__") ["self", "pieces"] (sp_Least_init K) := by
  refine ok0 T.d_Least___init__ sc_Least___init__ (fun _ _ _ _ _ _ us hl => match us, hl with | [_, _], _ => rfl) (fun vs H Q E h => ln_Least___init__ h) (fun cdv A outer s H vs Q E hr h => ⟨t_Least___init__ K (fun _ _ _ _ => False), ?_, pure_Least___init__ h⟩)
  have hu := hu_of hr
  have tk := L2.takes0 (X := (cxOf (L2.CX P w) P w K mg base n_Least___init__ "Least.__init__" (defScope s_Least___init__) (ma K (ga K "Least") "__init__") cdv A outer s H E).nox)
  exact pss_one (ps_expr (an_cfun T.cr_Chain T.cv_Chain___init__ F_Chain___init__ (hr.mono (by decide)) (an_gcls T.g_Chain) (pa_cons (pv 0) (pa_cons pe_int (pa_cons pe_str (pa_cons (pv 1) pa_nil))))))
abbrev s_Most___init__ : Stmt := inClass (top 20) 0
theorem sc_Most___init__ : FnScope n_Most___init__ ["self", "pieces"] (defScope s_Most___init__) := ⟨rfl, rfl, rfl, by decide +kernel, rfl, by decide +kernel, by decide +kernel⟩
theorem ok_Most___init__ {P : Program} {w : World} {K : PySem.W.Frag} {mg : Str → Option Value} {base : Heap} (T : Tx K mg) (F_Chain___init__ : Ok P w K mg base 2 (ma K (ga K "Chain") "__init__") ["self", "rank", "sign", "pieces"] (sp_Chain_init K)) : Ok P w K mg base 3 (ma K (ga K "Most") "__init__") ["self", "pieces"] (sp_Most_init K) := by
  refine ok0 T.d_Most___init__ sc_Most___init__ (fun _ _ _ _ _ _ us hl => match us, hl with | [_, _], _ => rfl) (fun vs H Q E h => ln_Most___init__ h) (fun cdv A outer s H vs Q E hr h => ⟨t_Most___init__ K (fun _ _ _ _ => False), ?_, pure_Most___init__ h⟩)
  have hu := hu_of hr
  have tk := L2.takes0 (X := (cxOf (L2.CX P w) P w K mg base n_Most___init__ "Most.__init__" (defScope s_Most___init__) (ma K (ga K "Most") "__init__") cdv A outer s H E).nox)
  exact pss_one (ps_expr (an_cfun T.cr_Chain T.cv_Chain___init__ F_Chain___init__ (hr.mono (by decide)) (an_gcls T.g_Chain) (pa_cons (pv 0) (pa_cons pe_int (pa_cons pe_str (pa_cons (pv 1) pa_nil))))))
abbrev s_Reader___init__ : Stmt := inClass (top 34) 0
theorem sc_Reader___init__ : FnScope n_Reader___init__ ["self", "words"] (defScope s_Reader___init__) := ⟨rfl, rfl, rfl, by decide +kernel, rfl, by decide +kernel, by decide +kernel⟩
theorem ok_Reader___init__ {P : Program} {w : World} {K : PySem.W.Frag} {mg : Str → Option Value} {base : Heap} (T : Tx K mg) : Ok P w K mg base 1 (ma K (ga K "Reader") "__init__") ["self", "words"] (sp_Reader_init K) := by
  refine ok0 T.d_Reader___init__ sc_Reader___init__ (fun _ _ _ _ _ _ us hl => match us, hl with | [_, _], _ => rfl) (fun vs H Q E h => ln_Reader___init__ h) (fun cdv A outer s H vs Q E hr h => ⟨t_Reader___init__ K (fun _ _ _ _ => False), ?_, pure_Reader___init__ h⟩)
  have hu := hu_of hr
  have tk := L2.takes0 (X := (cxOf (L2.CX P w) P w K mg base n_Reader___init__ "Reader.__init__" (defScope s_Reader___init__) (ma K (ga K "Reader") "__init__") cdv A outer s H E).nox)
  exact pss_cons (an_snew T.c_Reader (by decide) (by rfl) (pv 0) (pv 1))
      (pss_cons (an_snew T.c_Reader (by decide) (by rfl) (pv 0) pe_int)
      (pss_one (an_snew T.c_Reader (by decide) (by rfl) (pv 0) pe_int)))
abbrev s_Reader_here : Stmt := inClass (top 34) 1
theorem sc_Reader_here : FnScope n_Reader_here ["self"] (defScope s_Reader_here) := ⟨rfl, rfl, rfl, by decide +kernel, rfl, by decide +kernel, by decide +kernel⟩
theorem ok_Reader_here {P : Program} {w : World} {K : PySem.W.Frag} {mg : Str → Option Value} {base : Heap} (T : Tx K mg) : Ok P w K mg base 1 (ma K (ga K "Reader") "here") ["self"] (sp_here K) := by
  refine ok0 T.d_Reader_here sc_Reader_here (fun _ _ _ _ _ _ us hl => match us, hl with | [_], _ => rfl) (fun vs H Q E h => ln_Reader_here h) (fun cdv A outer s H vs Q E hr h => ⟨t_Reader_here K (fun _ _ _ _ => False), ?_, pure_Reader_here h⟩)
  have hu := hu_of hr
  have tk := L2.takes0 (X := (cxOf (L2.CX P w) P w K mg base n_Reader_here "Reader.here" (defScope s_Reader_here) (ma K (ga K "Reader") "here") cdv A outer s H E).nox)
  exact pss_cons (ps_if (pt_cmpR op_lt (an_fld T.c_Reader p_Reader_at (pv 0)) (pe_callB call_lenL (by rfl) T.f_len (by decide +kernel) (pa_cons (an_fld T.c_Reader p_Reader_words (pv 0)) pa_nil)) (nomark _)) (pss_one (ps_ret (pe_ix ix_list (an_fld T.c_Reader p_Reader_words (pv 0)) (an_fld T.c_Reader p_Reader_at (pv 0)) (fun _ _ => rfl)))) pss_nil)
      (pss_one (ps_ret pe_str))
abbrev s_Reader_step : Stmt := inClass (top 34) 2
theorem sc_Reader_step : FnScope n_Reader_step ["self"] (defScope s_Reader_step) := ⟨rfl, rfl, rfl, by decide +kernel, rfl, by decide +kernel, by decide +kernel⟩
theorem ok_Reader_step {P : Program} {w : World} {K : PySem.W.Frag} {mg : Str → Option Value} {base : Heap} (T : Tx K mg) (F_Reader_here : Ok P w K mg base 1 (ma K (ga K "Reader") "here") ["self"] (sp_here K)) : Ok P w K mg base 2 (ma K (ga K "Reader") "step") ["self"] (sp_step K) := by
  refine ok0 T.d_Reader_step sc_Reader_step (fun _ _ _ _ _ _ us hl => match us, hl with | [_], _ => rfl) (fun vs H Q E h => ln_Reader_step h) (fun cdv A outer s H vs Q E hr h => ⟨t_Reader_step K (fun _ _ _ _ => False), ?_, pure_Reader_step h⟩)
  have hu := hu_of hr
  have tk := L2.takes0 (X := (cxOf (L2.CX P w) P w K mg base n_Reader_step "Reader.step" (defScope s_Reader_step) (ma K (ga K "Reader") "step") cdv A outer s H E).nox)
  exact pss_cons (ps_set (i := 1) sc_Reader_step.nd rfl (Or.inl rfl) (an_meth0 T.c_Reader T.m_Reader_here F_Reader_here (hr.mono (by decide)) (pv 0)))
      (pss_cons (an_sfld T.c_Reader p_Reader_at (pv 0) (pe_op op_add (an_fld T.c_Reader p_Reader_at (pv 0)) pe_int))
      (pss_one (ps_ret (pv 1))))
abbrev s_Reader_mustX : Stmt := inClass (top 34) 3
theorem sc_Reader_mustX : FnScope n_Reader_mustX ["self", "word"] (defScope s_Reader_mustX) := ⟨rfl, rfl, rfl, by decide +kernel, rfl, by decide +kernel, by decide +kernel⟩
theorem ok_Reader_mustX {P : Program} {w : World} {K : PySem.W.Frag} {mg : Str → Option Value} {base : Heap} (T : Tx K mg) (F_Reader_step : Ok P w K mg base 2 (ma K (ga K "Reader") "step") ["self"] (sp_step K)) : Ok P w K mg base 3 (ma K (ga K "Reader") "must") ["self", "word"] (sp_Reader_mustX K) := by
  refine okX T.d_Reader_must sc_Reader_mustX (fun _ _ _ _ _ _ us hl => match us, hl with | [_, _], _ => rfl) (fun vs H Q E h => ln_Reader_mustX h) (fun cdv A outer s H vs Q E hr h => ⟨t_Reader_mustX K (WofE E), ?_, pure_Reader_mustX h⟩)
  have hu := hu_of hr
  have tk := tkE (P := P) (w := w) (K := K) (mg := mg) (base := base) (N := n_Reader_mustX) (qual := "Reader.must") (scope := defScope s_Reader_mustX) (f := (ma K (ga K "Reader") "must")) (cdv := cdv) (A := A) (outer := outer) (s := s) (H := H) (E := E)
  exact pss_one (ps_if (pt_cmpR op_ne (an_methW0 T.c_Reader T.m_Reader_step F_Reader_step (hr.mono (by decide)) tk (pv 0) ) (pv 1) (nomark _)) (pss_one (ps_rz T.x_NoRecipe tk T.g_NoRecipe)) pss_nil)
abbrev s_Reader_deeperX : Stmt := inClass (top 34) 9
theorem sc_Reader_deeperX : FnScope n_Reader_deeperX ["self"] (defScope s_Reader_deeperX) := ⟨rfl, rfl, rfl, by decide +kernel, rfl, by decide +kernel, by decide +kernel⟩
theorem ok_Reader_deeperX {P : Program} {w : World} {K : PySem.W.Frag} {mg : Str → Option Value} {base : Heap} (T : Tx K mg) : Ok P w K mg base 1 (ma K (ga K "Reader") "deeper") ["self"] (sp_Reader_deeperX K) := by
  refine okX T.d_Reader_deeper sc_Reader_deeperX (fun _ _ _ _ _ _ us hl => match us, hl with | [_], _ => rfl) (fun vs H Q E h => ln_Reader_deeperX h) (fun cdv A outer s H vs Q E hr h => ⟨t_Reader_deeperX K (WofE E), ?_, pure_Reader_deeperX h⟩)
  have hu := hu_of hr
  have tk := tkE (P := P) (w := w) (K := K) (mg := mg) (base := base) (N := n_Reader_deeperX) (qual := "Reader.deeper") (scope := defScope s_Reader_deeperX) (f := (ma K (ga K "Reader") "deeper")) (cdv := cdv) (A := A) (outer := outer) (s := s) (H := H) (E := E)
  exact pss_cons (an_sfld T.c_Reader p_Reader_deep (pv 0) (pe_op op_add (an_fld T.c_Reader p_Reader_deep (pv 0)) pe_int))
      (pss_one (ps_if (pt_cmpR op_gt (an_fld T.c_Reader p_Reader_deep (pv 0)) (an_cint T.k_DEEPEST) (nomark _)) (pss_one (ps_rz T.x_NoRecipe tk T.g_NoRecipe)) pss_nil))
abbrev s_Reader_inner_ofX : Stmt := inClass (top 34) 5
theorem sc_Reader_inner_ofX : FnScope n_Reader_inner_ofX ["self", "sign"] (defScope s_Reader_inner_ofX) := ⟨rfl, rfl, rfl, by decide +kernel, rfl, by decide +kernel, by decide +kernel⟩
theorem okr_Reader_inner_ofX {P : Program} {w : World} {K : PySem.W.Frag} {mg : Str → Option Value} {base : Heap} {k : Nat} {sp : Sp} {S_Reader_lesser S_Reader_summed S_Reader_single : Sp} (T : Tx K mg) (hk : 1 ≤ k) (F_Reader_lesser : Ok P w K mg base k (ma K (ga K "Reader") "lesser") ["self"] S_Reader_lesser) (F_Reader_summed : Ok P w K mg base k (ma K (ga K "Reader") "summed") ["self"] S_Reader_summed) (F_Reader_single : Ok P w K mg base k (ma K (ga K "Reader") "single") ["self"] S_Reader_single) (ln : ∀ vs H Q E, sp vs H Q E → vs.length = 2)
    (pure : ∀ vs H Q E, sp vs H Q E → t_Reader_inner_ofX K (WofE E) S_Reader_lesser S_Reader_summed S_Reader_single { nx := fun _ H' => Q .non H', rt := Q } (start n_Reader_inner_ofX vs) H) : Ok P w K mg base (k + 1) (ma K (ga K "Reader") "inner_of") ["self", "sign"] sp := by
  refine okX T.d_Reader_inner_of sc_Reader_inner_ofX (fun _ _ _ _ _ _ us hl => match us, hl with | [_, _], _ => rfl) ln (fun cdv A outer s H vs Q E hr h => ⟨t_Reader_inner_ofX K (WofE E) S_Reader_lesser S_Reader_summed S_Reader_single, ?_, pure vs H Q E h⟩)
  have hu := hu_of hr
  have tk := tkE (P := P) (w := w) (K := K) (mg := mg) (base := base) (N := n_Reader_inner_ofX) (qual := "Reader.inner_of") (scope := defScope s_Reader_inner_ofX) (f := (ma K (ga K "Reader") "inner_of")) (cdv := cdv) (A := A) (outer := outer) (s := s) (H := H) (E := E)
  exact pss_cons (ps_if (pt_cmpR op_eq (pv 1) pe_str (nomark _)) (pss_one (ps_ret (an_methW0 T.c_Reader T.m_Reader_lesser F_Reader_lesser (hr.mono (by omega)) tk (pv 0) ))) pss_nil)
      (pss_cons (ps_if (pt_cmpR op_eq (pv 1) pe_str (nomark _)) (pss_one (ps_ret (an_methW0 T.c_Reader T.m_Reader_summed F_Reader_summed (hr.mono (by omega)) tk (pv 0) ))) pss_nil)
      (pss_one (ps_ret (an_methW0 T.c_Reader T.m_Reader_single F_Reader_single (hr.mono (by omega)) tk (pv 0) ))))
abbrev s_Reader_chainedX : Stmt := inClass (top 34) 4
theorem sc_Reader_chainedX : FnScope n_Reader_chainedX ["self", "sign"] (defScope s_Reader_chainedX) := ⟨rfl, rfl, rfl, by decide +kernel, rfl, by decide +kernel, by decide +kernel⟩
theorem okr_Reader_chainedX {P : Program} {w : World} {K : PySem.W.Frag} {mg : Str → Option Value} {base : Heap} {k : Nat} {sp : Sp} {S_Reader_inner_of : Sp} (T : Tx K mg) (hk : 1 ≤ k) (F_Reader_inner_of : Ok P w K mg base k (ma K (ga K "Reader") "inner_of") ["self", "sign"] S_Reader_inner_of) (F_Reader_here : Ok P w K mg base 1 (ma K (ga K "Reader") "here") ["self"] (sp_here K)) (ln : ∀ vs H Q E, sp vs H Q E → vs.length = 2)
    (pure : ∀ vs H Q E, sp vs H Q E → t_Reader_chainedX K (WofE E) S_Reader_inner_of { nx := fun _ H' => Q .non H', rt := Q } (start n_Reader_chainedX vs) H) : Ok P w K mg base (k + 1) (ma K (ga K "Reader") "chained") ["self", "sign"] sp := by
  refine okX T.d_Reader_chained sc_Reader_chainedX (fun _ _ _ _ _ _ us hl => match us, hl with | [_, _], _ => rfl) ln (fun cdv A outer s H vs Q E hr h => ⟨t_Reader_chainedX K (WofE E) S_Reader_inner_of, ?_, pure vs H Q E h⟩)
  have hu := hu_of hr
  have tk := tkE (P := P) (w := w) (K := K) (mg := mg) (base := base) (N := n_Reader_chainedX) (qual := "Reader.chained") (scope := defScope s_Reader_chainedX) (f := (ma K (ga K "Reader") "chained")) (cdv := cdv) (A := A) (outer := outer) (s := s) (H := H) (E := E)
  exact pss_cons (ps_set (i := 2) sc_Reader_chainedX.nd rfl (Or.inl rfl) (pe_lst (pa_cons (an_methW T.c_Reader T.m_Reader_inner_of F_Reader_inner_of (hr.mono (by omega)) tk (pv 0) (pa_cons (pv 1) pa_nil)) pa_nil)))
      (pss_cons (ps_while (passes_of rfl) (pt_cmpR op_eq (an_methW0 T.c_Reader T.m_Reader_here F_Reader_here (hr.mono (by omega)) tk (pv 0) ) (pv 1) (nomark _)) (pss_cons (an_sfld T.c_Reader p_Reader_at (pv 0) (pe_op op_add (an_fld T.c_Reader p_Reader_at (pv 0)) pe_int))
      (pss_one (ps_expr (pe_bm PySem.F.plainAttrs_list PySem.F.slot_list_append PySem.F.type_list_append mt_append (pv 2) (pa_cons (an_methW T.c_Reader T.m_Reader_inner_of F_Reader_inner_of (hr.mono (by omega)) tk (pv 0) (pa_cons (pv 1) pa_nil)) pa_nil))))))
      (pss_cons (ps_if (pt_cmpR op_gt (pe_callB call_lenL (by rfl) T.f_len (by decide +kernel) (pa_cons (pv 2) pa_nil)) (an_cint T.k_MOST_PIECES) (nomark _)) (pss_one (ps_rz T.x_NoRecipe tk T.g_NoRecipe)) pss_nil)
      (pss_one (ps_ret (pv 2)))))
abbrev n_Reader_wholeX : List Str := ["self", "found"]
def t_Reader_wholeX (K : PySem.W.Frag) (W : WX) (S_Reader_chained : Sp) : TS :=
  tSeq (tAsg (tMW (ga K "Reader") "chained" S_Reader_chained W (tVar 0) (tCons (tC (.str "|")) tNil)) (gName 1))
  (tSeq (tIfS (tTest (tOp rEq (tCB (rLenL K) (tCons (tVar 1) tNil)) (tC (.int 1)))) (tRet (tOp (rIxL K) (tVar 1) (tC (.int 0)))) tNext)
  (tRet (tMK (ga K "Most") (sp_Most_init K) (tCons (tVar 1) tNil))))
abbrev s_Reader_wholeX : Stmt := inClass (top 34) 6
theorem sc_Reader_wholeX : FnScope n_Reader_wholeX ["self"] (defScope s_Reader_wholeX) := ⟨rfl, rfl, rfl, by decide +kernel, rfl, by decide +kernel, by decide +kernel⟩
theorem okr_Reader_wholeX {P : Program} {w : World} {K : PySem.W.Frag} {mg : Str → Option Value} {base : Heap} {k : Nat} {sp : Sp} {S_Reader_chained : Sp} (T : Tx K mg) (hk : 4 ≤ k) (F_Reader_chained : Ok P w K mg base k (ma K (ga K "Reader") "chained") ["self", "sign"] S_Reader_chained) (F_Most___init__ : Ok P w K mg base 3 (ma K (ga K "Most") "__init__") ["self", "pieces"] (sp_Most_init K)) (ln : ∀ vs H Q E, sp vs H Q E → vs.length = 1)
    (pure : ∀ vs H Q E, sp vs H Q E → t_Reader_wholeX K (WofE E) S_Reader_chained { nx := fun _ H' => Q .non H', rt := Q } (start n_Reader_wholeX vs) H) : Ok P w K mg base (k + 1) (ma K (ga K "Reader") "whole") ["self"] sp := by
  refine okX T.d_Reader_whole sc_Reader_wholeX (fun _ _ _ _ _ _ us hl => match us, hl with | [_], _ => rfl) ln (fun cdv A outer s H vs Q E hr h => ⟨t_Reader_wholeX K (WofE E) S_Reader_chained, ?_, pure vs H Q E h⟩)
  have hu := hu_of hr
  have tk := tkE (P := P) (w := w) (K := K) (mg := mg) (base := base) (N := n_Reader_wholeX) (qual := "Reader.whole") (scope := defScope s_Reader_wholeX) (f := (ma K (ga K "Reader") "whole")) (cdv := cdv) (A := A) (outer := outer) (s := s) (H := H) (E := E)
  exact pss_cons (ps_set (i := 1) sc_Reader_wholeX.nd rfl (Or.inl rfl) (an_methW T.c_Reader T.m_Reader_chained F_Reader_chained (hr.mono (by omega)) tk (pv 0) (pa_cons pe_str pa_nil)))
      (pss_cons (ps_if (pt_cmpR op_eq (pe_callB call_lenL (by rfl) T.f_len (by decide +kernel) (pa_cons (pv 1) pa_nil)) pe_int (nomark _)) (pss_one (ps_ret (pe_ix ix_list (pv 1) pe_int (fun _ _ => rfl)))) pss_nil)
      (pss_one (ps_ret (an_make T.mk_Most F_Most___init__ (hr.mono (by omega)) T.g_Most (pa_cons (pv 1) pa_nil)))))
abbrev n_Reader_lesserX : List Str := ["self", "found"]
def t_Reader_lesserX (K : PySem.W.Frag) (W : WX) (S_Reader_chained : Sp) : TS :=
  tSeq (tAsg (tMW (ga K "Reader") "chained" S_Reader_chained W (tVar 0) (tCons (tC (.str "&")) tNil)) (gName 1))
  (tSeq (tIfS (tTest (tOp rEq (tCB (rLenL K) (tCons (tVar 1) tNil)) (tC (.int 1)))) (tRet (tOp (rIxL K) (tVar 1) (tC (.int 0)))) tNext)
  (tRet (tMK (ga K "Least") (sp_Least_init K) (tCons (tVar 1) tNil))))
abbrev s_Reader_lesserX : Stmt := inClass (top 34) 7
theorem sc_Reader_lesserX : FnScope n_Reader_lesserX ["self"] (defScope s_Reader_lesserX) := ⟨rfl, rfl, rfl, by decide +kernel, rfl, by decide +kernel, by decide +kernel⟩
theorem okr_Reader_lesserX {P : Program} {w : World} {K : PySem.W.Frag} {mg : Str → Option Value} {base : Heap} {k : Nat} {sp : Sp} {S_Reader_chained : Sp} (T : Tx K mg) (hk : 4 ≤ k) (F_Reader_chained : Ok P w K mg base k (ma K (ga K "Reader") "chained") ["self", "sign"] S_Reader_chained) (F_Least___init__ : Ok P w K mg base 3 (ma K (ga K "Least") "__init__") ["self", "pieces"] (sp_Least_init K)) (ln : ∀ vs H Q E, sp vs H Q E → vs.length = 1)
    (pure : ∀ vs H Q E, sp vs H Q E → t_Reader_lesserX K (WofE E) S_Reader_chained { nx := fun _ H' => Q .non H', rt := Q } (start n_Reader_lesserX vs) H) : Ok P w K mg base (k + 1) (ma K (ga K "Reader") "lesser") ["self"] sp := by
  refine okX T.d_Reader_lesser sc_Reader_lesserX (fun _ _ _ _ _ _ us hl => match us, hl with | [_], _ => rfl) ln (fun cdv A outer s H vs Q E hr h => ⟨t_Reader_lesserX K (WofE E) S_Reader_chained, ?_, pure vs H Q E h⟩)
  have hu := hu_of hr
  have tk := tkE (P := P) (w := w) (K := K) (mg := mg) (base := base) (N := n_Reader_lesserX) (qual := "Reader.lesser") (scope := defScope s_Reader_lesserX) (f := (ma K (ga K "Reader") "lesser")) (cdv := cdv) (A := A) (outer := outer) (s := s) (H := H) (E := E)
  exact pss_cons (ps_set (i := 1) sc_Reader_lesserX.nd rfl (Or.inl rfl) (an_methW T.c_Reader T.m_Reader_chained F_Reader_chained (hr.mono (by omega)) tk (pv 0) (pa_cons pe_str pa_nil)))
      (pss_cons (ps_if (pt_cmpR op_eq (pe_callB call_lenL (by rfl) T.f_len (by decide +kernel) (pa_cons (pv 1) pa_nil)) pe_int (nomark _)) (pss_one (ps_ret (pe_ix ix_list (pv 1) pe_int (fun _ _ => rfl)))) pss_nil)
      (pss_one (ps_ret (an_make T.mk_Least F_Least___init__ (hr.mono (by omega)) T.g_Least (pa_cons (pv 1) pa_nil)))))
abbrev n_Reader_summedX : List Str := ["self", "found"]
def t_Reader_summedX (K : PySem.W.Frag) (W : WX) (S_Reader_chained : Sp) : TS :=
  tSeq (tAsg (tMW (ga K "Reader") "chained" S_Reader_chained W (tVar 0) (tCons (tC (.str "+")) tNil)) (gName 1))
  (tSeq (tIfS (tTest (tOp rEq (tCB (rLenL K) (tCons (tVar 1) tNil)) (tC (.int 1)))) (tRet (tOp (rIxL K) (tVar 1) (tC (.int 0)))) tNext)
  (tRet (tMK (ga K "Sum") (sp_Sum_init K) (tCons (tVar 1) tNil))))
abbrev s_Reader_summedX : Stmt := inClass (top 34) 8
theorem sc_Reader_summedX : FnScope n_Reader_summedX ["self"] (defScope s_Reader_summedX) := ⟨rfl, rfl, rfl, by decide +kernel, rfl, by decide +kernel, by decide +kernel⟩
theorem okr_Reader_summedX {P : Program} {w : World} {K : PySem.W.Frag} {mg : Str → Option Value} {base : Heap} {k : Nat} {sp : Sp} {S_Reader_chained : Sp} (T : Tx K mg) (hk : 4 ≤ k) (F_Reader_chained : Ok P w K mg base k (ma K (ga K "Reader") "chained") ["self", "sign"] S_Reader_chained) (F_Sum___init__ : Ok P w K mg base 3 (ma K (ga K "Sum") "__init__") ["self", "pieces"] (sp_Sum_init K)) (ln : ∀ vs H Q E, sp vs H Q E → vs.length = 1)
    (pure : ∀ vs H Q E, sp vs H Q E → t_Reader_summedX K (WofE E) S_Reader_chained { nx := fun _ H' => Q .non H', rt := Q } (start n_Reader_summedX vs) H) : Ok P w K mg base (k + 1) (ma K (ga K "Reader") "summed") ["self"] sp := by
  refine okX T.d_Reader_summed sc_Reader_summedX (fun _ _ _ _ _ _ us hl => match us, hl with | [_], _ => rfl) ln (fun cdv A outer s H vs Q E hr h => ⟨t_Reader_summedX K (WofE E) S_Reader_chained, ?_, pure vs H Q E h⟩)
  have hu := hu_of hr
  have tk := tkE (P := P) (w := w) (K := K) (mg := mg) (base := base) (N := n_Reader_summedX) (qual := "Reader.summed") (scope := defScope s_Reader_summedX) (f := (ma K (ga K "Reader") "summed")) (cdv := cdv) (A := A) (outer := outer) (s := s) (H := H) (E := E)
  exact pss_cons (ps_set (i := 1) sc_Reader_summedX.nd rfl (Or.inl rfl) (an_methW T.c_Reader T.m_Reader_chained F_Reader_chained (hr.mono (by omega)) tk (pv 0) (pa_cons pe_str pa_nil)))
      (pss_cons (ps_if (pt_cmpR op_eq (pe_callB call_lenL (by rfl) T.f_len (by decide +kernel) (pa_cons (pv 1) pa_nil)) pe_int (nomark _)) (pss_one (ps_ret (pe_ix ix_list (pv 1) pe_int (fun _ _ => rfl)))) pss_nil)
      (pss_one (ps_ret (an_make T.mk_Sum F_Sum___init__ (hr.mono (by omega)) T.g_Sum (pa_cons (pv 1) pa_nil)))))
abbrev s_Reader_singleX : Stmt := inClass (top 34) 10
theorem sc_Reader_singleX : FnScope n_Reader_singleX ["self"] (defScope s_Reader_singleX) := ⟨rfl, rfl, rfl, by decide +kernel, rfl, by decide +kernel, by decide +kernel⟩
theorem okr_Reader_singleX {P : Program} {w : World} {K : PySem.W.Frag} {mg : Str → Option Value} {base : Heap} {k : Nat} {sp : Sp} {S_Reader_whole S_Reader_gated : Sp} (T : Tx K mg) (hk : 4 ≤ k) (F_Reader_step : Ok P w K mg base 2 (ma K (ga K "Reader") "step") ["self"] (sp_step K)) (F_Reader_deeper : Ok P w K mg base 1 (ma K (ga K "Reader") "deeper") ["self"] (sp_Reader_deeperX K)) (F_Reader_whole : Ok P w K mg base k (ma K (ga K "Reader") "whole") ["self"] S_Reader_whole) (F_Reader_must : Ok P w K mg base 3 (ma K (ga K "Reader") "must") ["self", "word"] (sp_Reader_mustX K)) (F_Reader_gated : Ok P w K mg base k (ma K (ga K "Reader") "gated") ["self"] S_Reader_gated) (F_is_name : Ok P w K mg base 1 (ga K "is_name") ["word"] sp_is_name) (F_Name___init__ : Ok P w K mg base 2 (ma K (ga K "Name") "__init__") ["self", "name"] (sp_Name_init K)) (F_Number___init__ : Ok P w K mg base 2 (ma K (ga K "Number") "__init__") ["self", "number"] (sp_Number_init K)) (F_number_of : Ok P w K mg base 1 (ga K "number_of") ["word"] (sp_number_ofX K)) (ln : ∀ vs H Q E, sp vs H Q E → vs.length = 1)
    (pure : ∀ vs H Q E, sp vs H Q E → t_Reader_singleX K (WofE E) S_Reader_whole S_Reader_gated { nx := fun _ H' => Q .non H', rt := Q } (start n_Reader_singleX vs) H) : Ok P w K mg base (k + 1) (ma K (ga K "Reader") "single") ["self"] sp := by
  refine okX T.d_Reader_single sc_Reader_singleX (fun _ _ _ _ _ _ us hl => match us, hl with | [_], _ => rfl) ln (fun cdv A outer s H vs Q E hr h => ⟨t_Reader_singleX K (WofE E) S_Reader_whole S_Reader_gated, ?_, pure vs H Q E h⟩)
  have hu := hu_of hr
  have tk := tkE (P := P) (w := w) (K := K) (mg := mg) (base := base) (N := n_Reader_singleX) (qual := "Reader.single") (scope := defScope s_Reader_singleX) (f := (ma K (ga K "Reader") "single")) (cdv := cdv) (A := A) (outer := outer) (s := s) (H := H) (E := E)
  exact pss_cons (ps_set (i := 1) sc_Reader_singleX.nd rfl (Or.inl rfl) (an_methW0 T.c_Reader T.m_Reader_step F_Reader_step (hr.mono (by omega)) tk (pv 0) ))
      (pss_cons (ps_if (pt_cmpR op_eq (pv 1) pe_str (nomark _)) (pss_cons (ps_expr (an_methW0 T.c_Reader T.m_Reader_deeper F_Reader_deeper (hr.mono (by omega)) tk (pv 0) ))
      (pss_cons (ps_set (i := 2) sc_Reader_singleX.nd rfl (Or.inl rfl) (an_methW0 T.c_Reader T.m_Reader_whole F_Reader_whole (hr.mono (by omega)) tk (pv 0) ))
      (pss_cons (ps_expr (an_methW T.c_Reader T.m_Reader_must F_Reader_must (hr.mono (by omega)) tk (pv 0) (pa_cons pe_str pa_nil)))
      (pss_cons (an_sfld T.c_Reader p_Reader_deep (pv 0) (pe_op op_sub (an_fld T.c_Reader p_Reader_deep (pv 0)) pe_int))
      (pss_one (ps_ret (pv 2))))))) pss_nil)
      (pss_cons (ps_if (pt_cmpR op_eq (pv 1) pe_str (nomark _)) (pss_one (ps_ret (an_methW0 T.c_Reader T.m_Reader_gated F_Reader_gated (hr.mono (by omega)) tk (pv 0) ))) pss_nil)
      (pss_cons (ps_if (pt_val (an_call F_is_name (hr.mono (by omega)) tk T.g_is_name (pa_cons (pv 1) pa_nil))) (pss_one (ps_ret (an_make T.mk_Name F_Name___init__ (hr.mono (by omega)) T.g_Name (pa_cons (pv 1) pa_nil)))) pss_nil)
      (pss_one (ps_ret (an_make T.mk_Number F_Number___init__ (hr.mono (by omega)) T.g_Number (pa_cons (an_call F_number_of (hr.mono (by omega)) tk T.g_number_of (pa_cons (pv 1) pa_nil)) pa_nil)))))))
abbrev s_Reader_gatedX : Stmt := inClass (top 34) 11
theorem sc_Reader_gatedX : FnScope n_Reader_gatedX ["self"] (defScope s_Reader_gatedX) := ⟨rfl, rfl, rfl, by decide +kernel, rfl, by decide +kernel, by decide +kernel⟩
theorem okr_Reader_gatedX {P : Program} {w : World} {K : PySem.W.Frag} {mg : Str → Option Value} {base : Heap} {k : Nat} {sp : Sp} {S_Reader_single : Sp} (T : Tx K mg) (hk : 4 ≤ k) (F_Reader_step : Ok P w K mg base 2 (ma K (ga K "Reader") "step") ["self"] (sp_step K)) (F_is_name : Ok P w K mg base 1 (ga K "is_name") ["word"] sp_is_name) (F_number_of : Ok P w K mg base 1 (ga K "number_of") ["word"] (sp_number_ofX K)) (F_Reader_must : Ok P w K mg base 3 (ma K (ga K "Reader") "must") ["self", "word"] (sp_Reader_mustX K)) (F_Reader_deeper : Ok P w K mg base 1 (ma K (ga K "Reader") "deeper") ["self"] (sp_Reader_deeperX K)) (F_Gate___init__ : Ok P w K mg base 2 (ma K (ga K "Gate") "__init__") ["self", "name", "bound", "inner"] (sp_Gate_init K)) (F_Reader_single : Ok P w K mg base k (ma K (ga K "Reader") "single") ["self"] S_Reader_single) (ln : ∀ vs H Q E, sp vs H Q E → vs.length = 1)
    (pure : ∀ vs H Q E, sp vs H Q E → t_Reader_gatedX K (WofE E) S_Reader_single { nx := fun _ H' => Q .non H', rt := Q } (start n_Reader_gatedX vs) H) : Ok P w K mg base (k + 1) (ma K (ga K "Reader") "gated") ["self"] sp := by
  refine okX T.d_Reader_gated sc_Reader_gatedX (fun _ _ _ _ _ _ us hl => match us, hl with | [_], _ => rfl) ln (fun cdv A outer s H vs Q E hr h => ⟨t_Reader_gatedX K (WofE E) S_Reader_single, ?_, pure vs H Q E h⟩)
  have hu := hu_of hr
  have tk := tkE (P := P) (w := w) (K := K) (mg := mg) (base := base) (N := n_Reader_gatedX) (qual := "Reader.gated") (scope := defScope s_Reader_gatedX) (f := (ma K (ga K "Reader") "gated")) (cdv := cdv) (A := A) (outer := outer) (s := s) (H := H) (E := E)
  exact pss_cons (ps_set (i := 1) sc_Reader_gatedX.nd rfl (Or.inl rfl) (an_methW0 T.c_Reader T.m_Reader_step F_Reader_step (hr.mono (by omega)) tk (pv 0) ))
      (pss_cons (ps_if (pt_not (pt_val (an_call F_is_name (hr.mono (by omega)) tk T.g_is_name (pa_cons (pv 1) pa_nil)))) (pss_one (ps_rz T.x_NoRecipe tk T.g_NoRecipe)) pss_nil)
      (pss_cons (ps_set (i := 2) sc_Reader_gatedX.nd rfl (Or.inl rfl) (an_call F_number_of (hr.mono (by omega)) tk T.g_number_of (pa_cons (an_methW0 T.c_Reader T.m_Reader_step F_Reader_step (hr.mono (by omega)) tk (pv 0) ) pa_nil)))
      (pss_cons (ps_if (pt_cmpR op_eq (pv 2) pe_int (nomark _)) (pss_one (ps_rz T.x_NoRecipe tk T.g_NoRecipe)) pss_nil)
      (pss_cons (ps_expr (an_methW T.c_Reader T.m_Reader_must F_Reader_must (hr.mono (by omega)) tk (pv 0) (pa_cons pe_str pa_nil)))
      (pss_cons (ps_expr (an_methW0 T.c_Reader T.m_Reader_deeper F_Reader_deeper (hr.mono (by omega)) tk (pv 0) ))
      (pss_cons (ps_set (i := 3) sc_Reader_gatedX.nd rfl (Or.inl rfl) (an_make T.mk_Gate F_Gate___init__ (hr.mono (by omega)) T.g_Gate (pa_cons (pv 1) (pa_cons (pv 2) (pa_cons (an_methW0 T.c_Reader T.m_Reader_single F_Reader_single (hr.mono (by omega)) tk (pv 0) ) pa_nil)))))
      (pss_cons (an_sfld T.c_Reader p_Reader_deep (pv 0) (pe_op op_sub (an_fld T.c_Reader p_Reader_deep (pv 0)) pe_int))
      (pss_one (ps_ret (pv 3))))))))))
abbrev s_readX : Stmt := top 35
theorem sc_readX : FnScope n_readX ["text"] (defScope s_readX) := ⟨rfl, rfl, rfl, by decide +kernel, rfl, by decide +kernel, by decide +kernel⟩
theorem okr_readX {P : Program} {w : World} {K : PySem.W.Frag} {mg : Str → Option Value} {base : Heap} {k : Nat} {sp : Sp} {S_Reader_whole : Sp} (T : Tx K mg) (hk : 3 ≤ k) (F_Reader___init__ : Ok P w K mg base 1 (ma K (ga K "Reader") "__init__") ["self", "words"] (sp_Reader_init K)) (F_words_of : Ok P w K mg base 2 (ga K "words_of") ["text"] (sp_words_ofX K)) (F_Reader_whole : Ok P w K mg base k (ma K (ga K "Reader") "whole") ["self"] S_Reader_whole) (F_Reader_here : Ok P w K mg base 1 (ma K (ga K "Reader") "here") ["self"] (sp_here K)) (ln : ∀ vs H Q E, sp vs H Q E → vs.length = 1)
    (pure : ∀ vs H Q E, sp vs H Q E → t_readX K (WofE E) S_Reader_whole { nx := fun _ H' => Q .non H', rt := Q } (start n_readX vs) H) : Ok P w K mg base (k + 1) (ga K "read") ["text"] sp := by
  refine okX T.d_read sc_readX (fun _ _ _ _ _ _ us hl => match us, hl with | [_], _ => rfl) ln (fun cdv A outer s H vs Q E hr h => ⟨t_readX K (WofE E) S_Reader_whole, ?_, pure vs H Q E h⟩)
  have hu := hu_of hr
  have tk := tkE (P := P) (w := w) (K := K) (mg := mg) (base := base) (N := n_readX) (qual := "read") (scope := defScope s_readX) (f := (ga K "read")) (cdv := cdv) (A := A) (outer := outer) (s := s) (H := H) (E := E)
  exact pss_cons (ps_set (i := 1) sc_readX.nd rfl (Or.inl rfl) (an_make T.mk_Reader F_Reader___init__ (hr.mono (by omega)) T.g_Reader (pa_cons (an_call F_words_of (hr.mono (by omega)) tk T.g_words_of (pa_cons (pv 0) pa_nil)) pa_nil)))
      (pss_cons (ps_set (i := 2) sc_readX.nd rfl (Or.inl rfl) (an_methW0 T.c_Reader T.m_Reader_whole F_Reader_whole (hr.mono (by omega)) tk (pv 1) ))
      (pss_cons (ps_if (pt_cmpR op_ne (an_methW0 T.c_Reader T.m_Reader_here F_Reader_here (hr.mono (by omega)) tk (pv 1) ) pe_str (nomark _)) (pss_one (ps_rz T.x_NoRecipe tk T.g_NoRecipe)) pss_nil)
      (pss_one (ps_ret (pv 2)))))
abbrev s_Number_spoken : Stmt := inClass (top 15) 2
theorem sc_Number_spoken : FnScope n_Number_spoken ["self"] (defScope s_Number_spoken) := ⟨rfl, rfl, rfl, by decide +kernel, rfl, by decide +kernel, by decide +kernel⟩
theorem okr_Number_spoken {P : Program} {w : World} {K : PySem.W.Frag} {mg : Str → Option Value} {base : Heap} {k : Nat} {sp : Sp} (T : Tx K mg) (hk : 1 ≤ k) {fa_ : Addr} (d_ : Def K "spoken" "Number.spoken" s_Number_spoken fa_) (ln : ∀ vs H Q E, sp vs H Q E → vs.length = 1)
    (pure : ∀ vs H Q E, sp vs H Q E → t_Number_spoken K (fun _ _ _ _ => False) { nx := fun _ H' => Q .non H', rt := Q } (start n_Number_spoken vs) H) : Ok P w K mg base (k + 1) fa_ ["self"] sp := by
  refine ok0 d_ sc_Number_spoken (fun _ _ _ _ _ _ us hl => match us, hl with | [_], _ => rfl) ln (fun cdv A outer s H vs Q E hr h => ⟨t_Number_spoken K (fun _ _ _ _ => False), ?_, pure vs H Q E h⟩)
  have hu := hu_of hr
  have tk := L2.takes0 (X := (cxOf (L2.CX P w) P w K mg base n_Number_spoken "Number.spoken" (defScope s_Number_spoken) fa_ cdv A outer s H E).nox)
  exact pss_one (ps_ret (pe_callTy call_strI (by rfl) T.f_str (by decide +kernel) (pa_cons (an_fld T.c_Number p_Number_number (pv 0)) pa_nil)))
abbrev s_Name_spoken : Stmt := inClass (top 16) 2
theorem sc_Name_spoken : FnScope n_Name_spoken ["self"] (defScope s_Name_spoken) := ⟨rfl, rfl, rfl, by decide +kernel, rfl, by decide +kernel, by decide +kernel⟩
theorem okr_Name_spoken {P : Program} {w : World} {K : PySem.W.Frag} {mg : Str → Option Value} {base : Heap} {k : Nat} {sp : Sp} (T : Tx K mg) (hk : 1 ≤ k) {fa_ : Addr} (d_ : Def K "spoken" "Name.spoken" s_Name_spoken fa_) (ln : ∀ vs H Q E, sp vs H Q E → vs.length = 1)
    (pure : ∀ vs H Q E, sp vs H Q E → t_Name_spoken K (fun _ _ _ _ => False) { nx := fun _ H' => Q .non H', rt := Q } (start n_Name_spoken vs) H) : Ok P w K mg base (k + 1) fa_ ["self"] sp := by
  refine ok0 d_ sc_Name_spoken (fun _ _ _ _ _ _ us hl => match us, hl with | [_], _ => rfl) ln (fun cdv A outer s H vs Q E hr h => ⟨t_Name_spoken K (fun _ _ _ _ => False), ?_, pure vs H Q E h⟩)
  have hu := hu_of hr
  have tk := L2.takes0 (X := (cxOf (L2.CX P w) P w K mg base n_Name_spoken "Name.spoken" (defScope s_Name_spoken) fa_ cdv A outer s H E).nox)
  exact pss_one (ps_ret (an_fld T.c_Name p_Name_name (pv 0)))
abbrev s_Chain_spoken : Stmt := inClass (top 17) 1
theorem sc_Chain_spoken : FnScope n_Chain_spoken ["self"] (defScope s_Chain_spoken) := ⟨rfl, rfl, rfl, by decide +kernel, rfl, by decide +kernel, by decide +kernel⟩
theorem okr_Chain_spoken {P : Program} {w : World} {K : PySem.W.Frag} {mg : Str → Option Value} {base : Heap} {k : Nat} {sp : Sp} {S_bracketed : Sp} {C : Addr} (T : Tx K mg) (hk : 1 ≤ k) (F_bracketed : Ok P w K mg base k (ga K "bracketed") ["piece", "least"] S_bracketed) (tC : IsC K C ns_Chain) {fa_ : Addr} (d_ : Def K "spoken" "Chain.spoken" s_Chain_spoken fa_) (ln : ∀ vs H Q E, sp vs H Q E → vs.length = 1)
    (pure : ∀ vs H Q E, sp vs H Q E → t_Chain_spoken K (fun _ _ _ _ => False) S_bracketed C { nx := fun _ H' => Q .non H', rt := Q } (start n_Chain_spoken vs) H) : Ok P w K mg base (k + 1) fa_ ["self"] sp := by
  refine ok0 d_ sc_Chain_spoken (fun _ _ _ _ _ _ us hl => match us, hl with | [_], _ => rfl) ln (fun cdv A outer s H vs Q E hr h => ⟨t_Chain_spoken K (fun _ _ _ _ => False) S_bracketed C, ?_, pure vs H Q E h⟩)
  have hu := hu_of hr
  have tk := L2.takes0 (X := (cxOf (L2.CX P w) P w K mg base n_Chain_spoken "Chain.spoken" (defScope s_Chain_spoken) fa_ cdv A outer s H E).nox)
  exact pss_cons (ps_setLc (i := 1) (own := [("piece", 4)]) (tt := tYes) rfl sc_Chain_spoken.nd rfl rfl (sw_true rfl rfl rfl (by decide +kernel)) (pi_list (an_fld tC p_Chain_pieces (pv 0))) (blkOk_by (own := [("piece", 4)]) (N := n_Chain_spoken) (sc := defScope s_Chain_spoken) (by decide +kernel)) (fun _ _ _ _ _ => (pg_name (i := 4) sc_Chain_spoken.nd rfl (Or.inl rfl))) (fun _ _ _ _ _ => pts_nil) (fun _ _ _ _ _ => (an_call F_bracketed (hr.mono (by omega)) L2.takes0 T.g_bracketed (pa_cons (pv 4) (pa_cons (pe_op op_add (an_fld tC p_Chain_rank (pv 0)) pe_int) pa_nil)))))
      (pss_cons (ps_set (i := 2) sc_Chain_spoken.nd rfl (Or.inl rfl) (pe_ix ix_list (pv 1) pe_int (fun _ _ => rfl)))
      (pss_cons (ps_for PassesOwn.never rfl (pi_list (pe_slice sl_list (pv 1) (po_some pe_int) po_none)) (pg_name (i := 3) sc_Chain_spoken.nd rfl (Or.inl rfl)) (pss_one (ps_set (i := 2) sc_Chain_spoken.nd rfl (Or.inl rfl) (pe_op op_addS (pe_op op_addS (pe_op op_addS (pe_op op_addS (pv 2) pe_str) (an_fld tC p_Chain_sign (pv 0))) pe_str) (pv 3)))))
      (pss_one (ps_ret (pv 2)))))
abbrev s_Gate_spoken : Stmt := inClass (top 21) 2
theorem sc_Gate_spoken : FnScope n_Gate_spoken ["self"] (defScope s_Gate_spoken) := ⟨rfl, rfl, rfl, by decide +kernel, rfl, by decide +kernel, by decide +kernel⟩
theorem okr_Gate_spoken {P : Program} {w : World} {K : PySem.W.Frag} {mg : Str → Option Value} {base : Heap} {k : Nat} {sp : Sp} {S_bracketed : Sp} (T : Tx K mg) (hk : 1 ≤ k) (F_bracketed : Ok P w K mg base k (ga K "bracketed") ["piece", "least"] S_bracketed) {fa_ : Addr} (d_ : Def K "spoken" "Gate.spoken" s_Gate_spoken fa_) (ln : ∀ vs H Q E, sp vs H Q E → vs.length = 1)
    (pure : ∀ vs H Q E, sp vs H Q E → t_Gate_spoken K (fun _ _ _ _ => False) S_bracketed { nx := fun _ H' => Q .non H', rt := Q } (start n_Gate_spoken vs) H) : Ok P w K mg base (k + 1) fa_ ["self"] sp := by
  refine ok0 d_ sc_Gate_spoken (fun _ _ _ _ _ _ us hl => match us, hl with | [_], _ => rfl) ln (fun cdv A outer s H vs Q E hr h => ⟨t_Gate_spoken K (fun _ _ _ _ => False) S_bracketed, ?_, pure vs H Q E h⟩)
  have hu := hu_of hr
  have tk := L2.takes0 (X := (cxOf (L2.CX P w) P w K mg base n_Gate_spoken "Gate.spoken" (defScope s_Gate_spoken) fa_ cdv A outer s H E).nox)
  exact pss_one (ps_ret (pe_op op_addS (pe_op op_addS (pe_op op_addS (pe_op op_addS (pe_op op_addS pe_str (an_fld T.c_Gate p_Gate_name (pv 0))) pe_str) (pe_callTy call_strI (by rfl) T.f_str (by decide +kernel) (pa_cons (an_fld T.c_Gate p_Gate_bound (pv 0)) pa_nil))) pe_str) (an_call F_bracketed (hr.mono (by omega)) L2.takes0 T.g_bracketed (pa_cons (an_fld T.c_Gate p_Gate_inner (pv 0)) (pa_cons pe_int pa_nil)))))
abbrev s_bracketed : Stmt := top 22
theorem sc_bracketed : FnScope n_bracketed ["piece", "least"] (defScope s_bracketed) := ⟨rfl, rfl, rfl, by decide +kernel, rfl, by decide +kernel, by decide +kernel⟩
theorem okr_bracketed {P : Program} {w : World} {K : PySem.W.Frag} {mg : Str → Option Value} {base : Heap} {k : Nat} {sp : Sp} {VM_spoken : Addr → Addr → Sp → Prop} (T : Tx K mg) (hk : 1 ≤ k) (hv_spoken : ∀ C f sp, VM_spoken C f sp → Cls K C ∧ Meth K C "spoken" f ∧ ∃ ps, Ok P w K mg base k f ps sp) (ln : ∀ vs H Q E, sp vs H Q E → vs.length = 2)
    (pure : ∀ vs H Q E, sp vs H Q E → t_bracketed K (fun _ _ _ _ => False) VM_spoken { nx := fun _ H' => Q .non H', rt := Q } (start n_bracketed vs) H) : Ok P w K mg base (k + 1) (ga K "bracketed") ["piece", "least"] sp := by
  refine ok0 T.d_bracketed sc_bracketed (fun _ _ _ _ _ _ us hl => match us, hl with | [_, _], _ => rfl) ln (fun cdv A outer s H vs Q E hr h => ⟨t_bracketed K (fun _ _ _ _ => False) VM_spoken, ?_, pure vs H Q E h⟩)
  have hu := hu_of hr
  have tk := L2.takes0 (X := (cxOf (L2.CX P w) P w K mg base n_bracketed "bracketed" (defScope s_bracketed) (ga K "bracketed") cdv A outer s H E).nox)
  exact pss_cons (ps_if (pt_cmpR op_lt (an_fldv T.fv_rank (pv 0)) (pv 1) (nomark _)) (pss_one (ps_ret (pe_op op_addS (pe_op op_addS pe_str (an_vm0 hv_spoken (hr.mono (by omega)) (pv 0))) pe_str))) pss_nil)
      (pss_one (ps_ret (an_vm0 hv_spoken (hr.mono (by omega)) (pv 0))))
abbrev s_shown : Stmt := top 23
theorem sc_shown : FnScope n_shown ["recipe"] (defScope s_shown) := ⟨rfl, rfl, rfl, by decide +kernel, rfl, by decide +kernel, by decide +kernel⟩
theorem okr_shown {P : Program} {w : World} {K : PySem.W.Frag} {mg : Str → Option Value} {base : Heap} {k : Nat} {sp : Sp} {VM_spoken : Addr → Addr → Sp → Prop} (T : Tx K mg) (hk : 1 ≤ k) (hv_spoken : ∀ C f sp, VM_spoken C f sp → Cls K C ∧ Meth K C "spoken" f ∧ ∃ ps, Ok P w K mg base k f ps sp) (ln : ∀ vs H Q E, sp vs H Q E → vs.length = 1)
    (pure : ∀ vs H Q E, sp vs H Q E → t_shown K (fun _ _ _ _ => False) VM_spoken { nx := fun _ H' => Q .non H', rt := Q } (start n_shown vs) H) : Ok P w K mg base (k + 1) (ga K "shown") ["recipe"] sp := by
  refine ok0 T.d_shown sc_shown (fun _ _ _ _ _ _ us hl => match us, hl with | [_], _ => rfl) ln (fun cdv A outer s H vs Q E hr h => ⟨t_shown K (fun _ _ _ _ => False) VM_spoken, ?_, pure vs H Q E h⟩)
  have hu := hu_of hr
  have tk := L2.takes0 (X := (cxOf (L2.CX P w) P w K mg base n_shown "shown" (defScope s_shown) (ga K "shown") cdv A outer s H E).nox)
  exact pss_one (ps_ret (an_vm0 hv_spoken (hr.mono (by omega)) (pv 0)))
abbrev s__law_cell_at : Stmt := top 37
theorem sc__law_cell_at : FnScope n__law_cell_at ["_law_script", "_law_k"] (defScope s__law_cell_at) := ⟨rfl, rfl, rfl, by decide +kernel, rfl, by decide +kernel, by decide +kernel⟩
theorem ok__law_cell_at {P : Program} {w : World} {K : PySem.W.Frag} {mg : Str → Option Value} {base : Heap} (T : Tx K mg) : Ok P w K mg base 1 (ga K "_law_cell_at") ["_law_script", "_law_k"] (sp_cell_at K) := by
  refine ok0 T.d__law_cell_at sc__law_cell_at (fun _ _ _ _ _ _ us hl => match us, hl with | [_, _], _ => rfl) (fun vs H Q E h => ln__law_cell_at h) (fun cdv A outer s H vs Q E hr h => ⟨t__law_cell_at K (fun _ _ _ _ => False), ?_, pure__law_cell_at h⟩)
  have hu := hu_of hr
  have tk := L2.takes0 (X := (cxOf (L2.CX P w) P w K mg base n__law_cell_at "_law_cell_at" (defScope s__law_cell_at) (ga K "_law_cell_at") cdv A outer s H E).nox)
  exact pss_cons (ps_if (pt_cmpR op_lt (pv 1) (pe_callB call_lenL (by rfl) T.f_len (by decide +kernel) (pa_cons (pv 0) pa_nil)) (nomark _)) (pss_one (ps_ret (pe_ix ix_list (pv 0) (pv 1) (fun _ _ => rfl)))) pss_nil)
      (pss_one (ps_ret pe_int))
abbrev s__law_dice : Stmt := top 38
theorem sc__law_dice : FnScope n__law_dice ["_law_cell"] (defScope s__law_dice) := ⟨rfl, rfl, rfl, by decide +kernel, rfl, by decide +kernel, by decide +kernel⟩
theorem ok__law_dice {P : Program} {w : World} {K : PySem.W.Frag} {mg : Str → Option Value} {base : Heap} (T : Tx K mg) : Ok P w K mg base 1 (ga K "_law_dice") ["_law_cell"] (sp_dice K) := by
  refine ok0 T.d__law_dice sc__law_dice (fun _ _ _ _ _ _ us hl => match us, hl with | [_], _ => rfl) (fun vs H Q E h => ln__law_dice h) (fun cdv A outer s H vs Q E hr h => ⟨t__law_dice K (fun _ _ _ _ => False), ?_, pure__law_dice h⟩)
  have hu := hu_of hr
  have tk := L2.takes0 (X := (cxOf (L2.CX P w) P w K mg base n__law_dice "_law_dice" (defScope s__law_dice) (ga K "_law_dice") cdv A outer s H E).nox)
  exact pss_one (ps_ret (pe_lst (pa_cons (pe_op op_mod (pv 0) pe_int) (pa_cons (pe_op op_mulX (pe_op op_fdivW (pv 0) pe_int) (pe_callTy call_intB (by rfl) T.f_int (by decide +kernel) (pa_cons (pe_cmpR op_ge (pv 0) (pe_op op_pow pe_int pe_int) (nomark _)) pa_nil))) pa_nil))))
abbrev s__law_roll : Stmt := top 39
theorem sc__law_roll : FnScope n__law_roll ["_law_dice_here", "_law_most"] (defScope s__law_roll) := ⟨rfl, rfl, rfl, by decide +kernel, rfl, by decide +kernel, by decide +kernel⟩
theorem ok__law_roll {P : Program} {w : World} {K : PySem.W.Frag} {mg : Str → Option Value} {base : Heap} (T : Tx K mg) : Ok P w K mg base 1 (ga K "_law_roll") ["_law_dice_here", "_law_most"] (sp_roll K) := by
  refine ok0 T.d__law_roll sc__law_roll (fun _ _ _ _ _ _ us hl => match us, hl with | [_, _], _ => rfl) (fun vs H Q E h => ln__law_roll h) (fun cdv A outer s H vs Q E hr h => ⟨t__law_roll K (fun _ _ _ _ => False), ?_, pure__law_roll h⟩)
  have hu := hu_of hr
  have tk := L2.takes0 (X := (cxOf (L2.CX P w) P w K mg base n__law_roll "_law_roll" (defScope s__law_roll) (ga K "_law_roll") cdv A outer s H E).nox)
  exact pss_cons (ps_if (pt_cmpR op_gt (pe_ix ix_list (pv 0) pe_int (fun _ _ => rfl)) pe_int (nomark _)) (pss_cons (ps_set (i := 2) sc__law_roll.nd rfl (Or.inl rfl) (pe_op op_mod (pe_ix ix_list (pv 0) pe_int (fun _ _ => rfl)) (pv 1)))
      (pss_cons (ps_asg (pe_op op_fdivW (pe_ix ix_list (pv 0) pe_int (fun _ _ => rfl)) (pv 1)) (pg_sub (pv 0) pe_int set_list))
      (pss_one (ps_ret (pv 2))))) pss_nil)
      (pss_cons (ps_asg (pe_op op_mod (pe_op op_add (pe_op op_mulX (pe_ix ix_list (pv 0) pe_int (fun _ _ => rfl)) pe_int) pe_int) pe_int) (pg_sub (pv 0) pe_int set_list))
      (pss_one (ps_ret (pe_op op_mod (pe_op op_fdivW (pe_ix ix_list (pv 0) pe_int (fun _ _ => rfl)) pe_int) (pv 1)))))
abbrev s__law_names : Stmt := top 40
theorem sc__law_names : FnScope n__law_names ["_law_cell", "_law_many"] (defScope s__law_names) := ⟨rfl, rfl, rfl, by decide +kernel, rfl, by decide +kernel, by decide +kernel⟩
theorem ok__law_names {P : Program} {w : World} {K : PySem.W.Frag} {mg : Str → Option Value} {base : Heap} (T : Tx K mg) : Ok P w K mg base 1 (ga K "_law_names") ["_law_cell", "_law_many"] sp__law_names := by
  refine ok0 T.d__law_names sc__law_names (fun _ _ _ _ _ _ us hl => match us, hl with | [_, _], _ => rfl) (fun vs H Q E h => ln__law_names h) (fun cdv A outer s H vs Q E hr h => ⟨t__law_names K (fun _ _ _ _ => False), ?_, pure__law_names h⟩)
  have hu := hu_of hr
  have tk := L2.takes0 (X := (cxOf (L2.CX P w) P w K mg base n__law_names "_law_names" (defScope s__law_names) (ga K "_law_names") cdv A outer s H E).nox)
  exact pss_cons (ps_set (i := 2) sc__law_names.nd rfl (Or.inl rfl) pe_str)
      (pss_cons (ps_set (i := 3) sc__law_names.nd rfl (Or.inl rfl) (pe_op op_add pe_int (pe_op op_mod (pv 0) pe_int)))
      (pss_cons (ps_set (i := 4) sc__law_names.nd rfl (Or.inl rfl) (pe_op op_mod (pe_op op_fdivW (pv 0) pe_int) (pv 3)))
      (pss_cons (ps_set (i := 5) sc__law_names.nd rfl (Or.inl rfl) (pe_lst pa_nil))
      (pss_cons (ps_for PassesOwn.never rfl (pi_range1 (by rfl) T.f_range (pa_cons (pv 1) pa_nil)) (pg_name (i := 6) sc__law_names.nd rfl (Or.inl rfl)) (pss_cons (ps_set (i := 7) sc__law_names.nd rfl (Or.inl rfl) pe_str)
      (pss_cons (ps_for PassesOwn.never rfl (pi_range1 (by rfl) T.f_range (pa_cons (pv 3) pa_nil)) (pg_name (i := 8) sc__law_names.nd rfl (Or.inl rfl)) (pss_cons (ps_set (i := 9) sc__law_names.nd rfl (Or.inl rfl) (pe_op op_add (pe_op op_mod (pe_op op_fdivW (pv 0) pe_int) pe_int) (pe_op op_mulX pe_int (pv 8))))
      (pss_cons (ps_if (pt_cmpR op_eq (pv 8) (pv 4) (nomark _)) (pss_one (ps_set (i := 9) sc__law_names.nd rfl (Or.inl rfl) (pe_op op_add (pv 9) (pv 6)))) pss_nil)
      (pss_one (ps_set (i := 7) sc__law_names.nd rfl (Or.inl rfl) (pe_op op_addS (pv 7) (pe_ix ix_str (pv 2) (pe_op op_mod (pv 9) pe_int) (fun _ _ => rfl))))))))
      (pss_one (ps_expr (pe_bm PySem.F.plainAttrs_list PySem.F.slot_list_append PySem.F.type_list_append mt_append (pv 5) (pa_cons (pv 7) pa_nil)))))))
      (pss_one (ps_ret (pv 5)))))))
abbrev s__law_tree : Stmt := top 41
theorem sc__law_tree : FnScope n__law_tree ["_law_dice_here", "_law_names_here", "_law_deep"] (defScope s__law_tree) := ⟨rfl, rfl, rfl, by decide +kernel, rfl, by decide +kernel, by decide +kernel⟩
theorem okr__law_tree {P : Program} {w : World} {K : PySem.W.Frag} {mg : Str → Option Value} {base : Heap} {k : Nat} {sp : Sp} {S__law_tree : Sp} (T : Tx K mg) (hk : 1 ≤ k) (F__law_roll : Ok P w K mg base 1 (ga K "_law_roll") ["_law_dice_here", "_law_most"] (sp_roll K)) (F__law_tree : Ok P w K mg base k (ga K "_law_tree") ["_law_dice_here", "_law_names_here", "_law_deep"] S__law_tree) (ln : ∀ vs H Q E, sp vs H Q E → vs.length = 3)
    (pure : ∀ vs H Q E, sp vs H Q E → t__law_tree K (fun _ _ _ _ => False) S__law_tree { nx := fun _ H' => Q .non H', rt := Q } (start n__law_tree vs) H) : Ok P w K mg base (k + 1) (ga K "_law_tree") ["_law_dice_here", "_law_names_here", "_law_deep"] sp := by
  refine ok0 T.d__law_tree sc__law_tree (fun _ _ _ _ _ _ us hl => match us, hl with | [_, _, _], _ => rfl) ln (fun cdv A outer s H vs Q E hr h => ⟨t__law_tree K (fun _ _ _ _ => False) S__law_tree, ?_, pure vs H Q E h⟩)
  have hu := hu_of hr
  have tk := L2.takes0 (X := (cxOf (L2.CX P w) P w K mg base n__law_tree "_law_tree" (defScope s__law_tree) (ga K "_law_tree") cdv A outer s H E).nox)
  exact pss_cons (ps_set (i := 3) sc__law_tree.nd rfl (Or.inl rfl) (an_call F__law_roll (hr.mono (by omega)) L2.takes0 T.g__law_roll (pa_cons (pv 0) (pa_cons pe_int pa_nil))))
      (pss_cons (ps_if (PW.pt (pw_or (pt_cmpR op_eq (pv 2) pe_int (nomark _)) (pw_or1 (pt_cmpR op_lt (pv 3) pe_int (nomark _))))) (pss_cons (ps_if (pt_cmpR op_eq (an_call F__law_roll (hr.mono (by omega)) L2.takes0 T.g__law_roll (pa_cons (pv 0) (pa_cons pe_int pa_nil))) pe_int (nomark _)) (pss_one (ps_ret (pe_tup (pa_cons pe_str (pa_cons (an_call F__law_roll (hr.mono (by omega)) L2.takes0 T.g__law_roll (pa_cons (pv 0) (pa_cons pe_int pa_nil))) pa_nil))))) pss_nil)
      (pss_one (ps_ret (pe_tup (pa_cons pe_str (pa_cons (pe_ix ix_list (pv 1) (an_call F__law_roll (hr.mono (by omega)) L2.takes0 T.g__law_roll (pa_cons (pv 0) (pa_cons (pe_callB call_lenL (by rfl) T.f_len (by decide +kernel) (pa_cons (pv 1) pa_nil)) pa_nil))) (fun _ _ => rfl)) pa_nil)))))) pss_nil)
      (pss_cons (ps_if (pt_cmpR op_lt (pv 3) pe_int (nomark _)) (pss_cons (ps_set (i := 4) sc__law_tree.nd rfl (Or.inl rfl) (pe_ix ix_list (pv 1) (an_call F__law_roll (hr.mono (by omega)) L2.takes0 T.g__law_roll (pa_cons (pv 0) (pa_cons (pe_callB call_lenL (by rfl) T.f_len (by decide +kernel) (pa_cons (pv 1) pa_nil)) pa_nil))) (fun _ _ => rfl)))
      (pss_one (ps_ret (pe_tup (pa_cons pe_str (pa_cons (pv 4) (pa_cons (pe_op op_add pe_int (an_call F__law_roll (hr.mono (by omega)) L2.takes0 T.g__law_roll (pa_cons (pv 0) (pa_cons pe_int pa_nil)))) (pa_cons (an_call F__law_tree (hr.mono (by omega)) L2.takes0 T.g__law_tree (pa_cons (pv 0) (pa_cons (pv 1) (pa_cons (pe_op op_sub (pv 2) pe_int) pa_nil)))) pa_nil)))))))) pss_nil)
      (pss_cons (ps_set (i := 5) sc__law_tree.nd rfl (Or.inl rfl) (pe_ix ix_list (pe_lst (pa_cons pe_str (pa_cons pe_str (pa_cons pe_str pa_nil)))) (an_call F__law_roll (hr.mono (by omega)) L2.takes0 T.g__law_roll (pa_cons (pv 0) (pa_cons pe_int pa_nil))) (fun _ _ => rfl)))
      (pss_cons (ps_set (i := 6) sc__law_tree.nd rfl (Or.inl rfl) (pe_op op_add pe_int (an_call F__law_roll (hr.mono (by omega)) L2.takes0 T.g__law_roll (pa_cons (pv 0) (pa_cons pe_int pa_nil)))))
      (pss_one (ps_ret (pe_tup (pa_cons (pv 5) (pa_cons (pe_lc (own := [("_law_k", 7)]) (tt := tYes) rfl sc__law_tree.nd (pi_range1 (by rfl) T.f_range (pa_cons (pv 6) pa_nil)) (blkOk_by (own := [("_law_k", 7)]) (N := n__law_tree) (sc := defScope s__law_tree) (by decide +kernel)) (fun _ _ _ _ _ => (pg_name (i := 7) sc__law_tree.nd rfl (Or.inl rfl))) (fun _ _ _ _ _ => pts_nil) (fun _ _ _ _ _ => (an_call F__law_tree (hr.mono (by omega)) L2.takes0 T.g__law_tree (pa_cons (pv 0) (pa_cons (pv 1) (pa_cons (pe_op op_sub (pv 2) pe_int) pa_nil)))))) pa_nil)))))))))
abbrev s__law_written : Stmt := top 42
theorem sc__law_written : FnScope n__law_written ["_law_tree_here", "_law_firm"] (defScope s__law_written) := ⟨rfl, rfl, rfl, by decide +kernel, rfl, by decide +kernel, by decide +kernel⟩
theorem okr__law_written {P : Program} {w : World} {K : PySem.W.Frag} {mg : Str → Option Value} {base : Heap} {k : Nat} {sp : Sp} {S__law_written : Sp} (T : Tx K mg) (hk : 1 ≤ k) (F__law_written : Ok P w K mg base k (ga K "_law_written") ["_law_tree_here", "_law_firm"] S__law_written) (ln : ∀ vs H Q E, sp vs H Q E → vs.length = 2)
    (pure : ∀ vs H Q E, sp vs H Q E → t__law_written K (fun _ _ _ _ => False) S__law_written { nx := fun _ H' => Q .non H', rt := Q } (start n__law_written vs) H) : Ok P w K mg base (k + 1) (ga K "_law_written") ["_law_tree_here", "_law_firm"] sp := by
  refine ok0 T.d__law_written sc__law_written (fun _ _ _ _ _ _ us hl => match us, hl with | [_, _], _ => rfl) ln (fun cdv A outer s H vs Q E hr h => ⟨t__law_written K (fun _ _ _ _ => False) S__law_written, ?_, pure vs H Q E h⟩)
  have hu := hu_of hr
  have tk := L2.takes0 (X := (cxOf (L2.CX P w) P w K mg base n__law_written "_law_written" (defScope s__law_written) (ga K "_law_written") cdv A outer s H E).nox)
  exact pss_cons (ps_if (pt_cmpR op_eq (pe_ix ix_tup (pv 0) pe_int (fun _ _ => rfl)) pe_str (nomark _)) (pss_one (ps_ret (pe_callTy call_strI (by rfl) T.f_str (by decide +kernel) (pa_cons (pe_ix ix_tup (pv 0) pe_int (fun _ _ => rfl)) pa_nil)))) pss_nil)
      (pss_cons (ps_if (pt_cmpR op_eq (pe_ix ix_tup (pv 0) pe_int (fun _ _ => rfl)) pe_str (nomark _)) (pss_one (ps_ret (pe_ix ix_tup (pv 0) pe_int (fun _ _ => rfl)))) pss_nil)
      (pss_cons (ps_if (pt_cmpR op_eq (pe_ix ix_tup (pv 0) pe_int (fun _ _ => rfl)) pe_str (nomark _)) (pss_one (ps_ret (pe_op op_addS (pe_op op_addS (pe_op op_addS (pe_op op_addS (pe_op op_addS pe_str (pe_ix ix_tup (pv 0) pe_int (fun _ _ => rfl))) pe_str) (pe_callTy call_strI (by rfl) T.f_str (by decide +kernel) (pa_cons (pe_ix ix_tup (pv 0) pe_int (fun _ _ => rfl)) pa_nil))) pe_str) (an_call F__law_written (hr.mono (by omega)) L2.takes0 T.g__law_written (pa_cons (pe_ix ix_tup (pv 0) pe_int (fun _ _ => rfl)) (pa_cons pe_int pa_nil)))))) pss_nil)
      (pss_cons (ps_set (i := 2) sc__law_written.nd rfl (Or.inl rfl) (an_dget hu (an_dct (.cons pe_int (.cons pe_int (.cons pe_int (.nil)))) rfl rfl (by simp) (by exact Nat.le_of_ble_eq_true rfl) (by exact Nat.le_of_ble_eq_true rfl)) (pe_ix ix_tup (pv 0) pe_int (fun _ _ => rfl))))
      (pss_cons (ps_set (i := 3) sc__law_written.nd rfl (Or.inl rfl) (an_dget hu (an_dct (.cons pe_str (.cons pe_str (.cons pe_str (.nil)))) rfl rfl (by simp) (by exact Nat.le_of_ble_eq_true rfl) (by exact Nat.le_of_ble_eq_true rfl)) (pe_ix ix_tup (pv 0) pe_int (fun _ _ => rfl))))
      (pss_cons (ps_set (i := 4) sc__law_written.nd rfl (Or.inl rfl) (an_call F__law_written (hr.mono (by omega)) L2.takes0 T.g__law_written (pa_cons (pe_ix ix_list (pe_ix ix_tup (pv 0) pe_int (fun _ _ => rfl)) pe_int (fun _ _ => rfl)) (pa_cons (pe_op op_add (pv 2) pe_int) pa_nil))))
      (pss_cons (ps_for PassesOwn.never rfl (pi_list (pe_slice sl_list (pe_ix ix_tup (pv 0) pe_int (fun _ _ => rfl)) (po_some pe_int) po_none)) (pg_name (i := 5) sc__law_written.nd rfl (Or.inl rfl)) (pss_one (ps_set (i := 4) sc__law_written.nd rfl (Or.inl rfl) (pe_op op_addS (pe_op op_addS (pv 4) (pv 3)) (an_call F__law_written (hr.mono (by omega)) L2.takes0 T.g__law_written (pa_cons (pv 5) (pa_cons (pe_op op_add (pv 2) pe_int) pa_nil)))))))
      (pss_cons (ps_if (pt_cmpR op_lt (pv 2) (pv 1) (nomark _)) (pss_one (ps_ret (pe_op op_addS (pe_op op_addS pe_str (pv 4)) pe_str))) pss_nil)
      (pss_one (ps_ret (pv 4))))))))))
abbrev s__law_is_name : Stmt := top 47
theorem sc__law_is_name : FnScope n__law_is_name ["_law_word"] (defScope s__law_is_name) := ⟨rfl, rfl, rfl, by decide +kernel, rfl, by decide +kernel, by decide +kernel⟩
theorem ok__law_is_name {P : Program} {w : World} {K : PySem.W.Frag} {mg : Str → Option Value} {base : Heap} (T : Tx K mg) : Ok P w K mg base 1 (ga K "_law_is_name") ["_law_word"] sp_lisn := by
  refine ok0 T.d__law_is_name sc__law_is_name (fun _ _ _ _ _ _ us hl => match us, hl with | [_], _ => rfl) (fun vs H Q E h => ln__law_is_name h) (fun cdv A outer s H vs Q E hr h => ⟨t__law_is_name K (fun _ _ _ _ => False), ?_, pure__law_is_name h⟩)
  have hu := hu_of hr
  have tk := L2.takes0 (X := (cxOf (L2.CX P w) P w K mg base n__law_is_name "_law_is_name" (defScope s__law_is_name) (ga K "_law_is_name") cdv A outer s H E).nox)
  exact pss_cons (ps_set (i := 1) sc__law_is_name.nd rfl (Or.inr rfl) pe_str)
      (pss_one (ps_ret (pe_and (pe_chain op_lt op_lt pe_int (pe_callB call_lenT (by rfl) T.f_len (by decide +kernel) (pa_cons (pv 0) pa_nil)) pe_int) (pe_one (pe_cmpR op_eq (pe_callB call_lenL (by rfl) T.f_len (by decide +kernel) (pa_cons (pe_lc (own := [("_law_sign", 2)]) (tt := (tTest (tOp rInS (tVar 2) (tVar 1)))) rfl sc__law_is_name.nd (pi_str (pv 0)) (blkOk_by (own := [("_law_sign", 2)]) (N := n__law_is_name) (sc := defScope s__law_is_name) (by decide +kernel)) (fun _ _ _ _ _ => (pg_name (i := 2) sc__law_is_name.nd rfl (Or.inl rfl))) (fun _ _ _ _ _ => pts_one (pt_cmpR op_inS (pv 2) (pv 1) (by rfl))) (fun _ _ _ _ _ => (pv 2))) pa_nil)) (pe_callB call_lenT (by rfl) T.f_len (by decide +kernel) (pa_cons (pv 0) pa_nil)) (nomark _))))))
abbrev s__law_number : Stmt := top 48
theorem sc__law_number : FnScope n__law_number ["_law_word"] (defScope s__law_number) := ⟨rfl, rfl, rfl, by decide +kernel, rfl, by decide +kernel, by decide +kernel⟩
theorem ok__law_number {P : Program} {w : World} {K : PySem.W.Frag} {mg : Str → Option Value} {base : Heap} (T : Tx K mg) : Ok P w K mg base 1 (ga K "_law_number") ["_law_word"] sp_lnum := by
  refine ok0 T.d__law_number sc__law_number (fun _ _ _ _ _ _ us hl => match us, hl with | [_], _ => rfl) (fun vs H Q E h => ln__law_number h) (fun cdv A outer s H vs Q E hr h => ⟨t__law_number K (fun _ _ _ _ => False), ?_, pure__law_number h⟩)
  have hu := hu_of hr
  have tk := L2.takes0 (X := (cxOf (L2.CX P w) P w K mg base n__law_number "_law_number" (defScope s__law_number) (ga K "_law_number") cdv A outer s H E).nox)
  exact pss_cons (ps_for PassesOwn.never rfl (pi_range1 (by rfl) T.f_range (pa_cons pe_int pa_nil)) (pg_name (i := 1) sc__law_number.nd rfl (Or.inl rfl)) (pss_one (ps_if (pt_cmpR op_eq (pv 0) (pe_callTy call_strI (by rfl) T.f_str (by decide +kernel) (pa_cons (pv 1) pa_nil)) (nomark _)) (pss_one (ps_ret (pv 1))) pss_nil)))
      (pss_one (ps_ret (pe_un un_neg pe_int)))
abbrev n__law_singleB : List Str := ["_law_words_here", "_law_at", "_law_deep", "_law_word", "_law_found", "_law_inner", "_law_bound"]
abbrev s__law_single : Stmt := top 49
theorem sc__law_single : FnScope n__law_singleB ["_law_words_here", "_law_at", "_law_deep"] (defScope s__law_single) := ⟨rfl, rfl, rfl, by decide +kernel, rfl, by decide +kernel, by decide +kernel⟩
theorem okr__law_single {P : Program} {w : World} {K : PySem.W.Frag} {mg : Str → Option Value} {base : Heap} {k : Nat} {sp : Sp} {S__law_chain S__law_single : Sp} (T : Tx K mg) (hk : 2 ≤ k) (F__law_chain : Ok P w K mg base k (ga K "_law_chain") ["_law_words_here", "_law_at", "_law_deep", "_law_rank"] S__law_chain) (F__law_single : Ok P w K mg base k (ga K "_law_single") ["_law_words_here", "_law_at", "_law_deep"] S__law_single) (F__law_number : Ok P w K mg base 1 (ga K "_law_number") ["_law_word"] sp_lnum) (F__law_is_name : Ok P w K mg base 1 (ga K "_law_is_name") ["_law_word"] sp_lisn) (ln : ∀ vs H Q E, sp vs H Q E → vs.length = 3)
    (pure : ∀ vs H Q E, sp vs H Q E → t__law_single K (fun _ _ _ _ => False) S__law_chain S__law_single { nx := fun _ H' => Q .non H', rt := Q } (start n__law_singleB vs) H) : Ok P w K mg base (k + 1) (ga K "_law_single") ["_law_words_here", "_law_at", "_law_deep"] sp := by
  refine ok0 T.d__law_single sc__law_single (fun _ _ _ _ _ _ us hl => match us, hl with | [_, _, _], _ => rfl) ln (fun cdv A outer s H vs Q E hr h => ⟨t__law_single K (fun _ _ _ _ => False) S__law_chain S__law_single, ?_, pure vs H Q E h⟩)
  have hu := hu_of hr
  have tk := L2.takes0 (X := (cxOf (L2.CX P w) P w K mg base n__law_singleB "_law_single" (defScope s__law_single) (ga K "_law_single") cdv A outer s H E).nox)
  exact pss_cons (ps_set (i := 3) sc__law_single.nd rfl (Or.inl rfl) (an_joinT pe_str (pe_slice sl_list (pv 0) (po_some (pv 1)) (po_some (pe_op op_add (pv 1) pe_int)))))
      (pss_cons (ps_if (PW.pt (pw_and (pt_cmpR op_eq (pv 3) pe_str (nomark _)) (pw_and1 (pt_cmpR op_lt (pv 2) pe_int (nomark _))))) (pss_cons (ps_set (i := 4) sc__law_single.nd rfl (Or.inl rfl) (an_call F__law_chain (hr.mono (by omega)) L2.takes0 T.g__law_chain (pa_cons (pv 0) (pa_cons (pe_op op_add (pv 1) pe_int) (pa_cons (pe_op op_add (pv 2) pe_int) (pa_cons pe_int pa_nil))))))
      (pss_cons (ps_if (PW.pt (pw_or (pt_cmpR op_isN1 (pv 4) pe_non (nomark _)) (pw_or1 (pt_cmpR (op_neY hr.units) (pe_slice sl_list (pv 0) (po_some (pe_ix ix_tup (pv 4) pe_int (fun _ _ => rfl))) (po_some (pe_op op_add (pe_ix ix_tup (pv 4) pe_int (fun _ _ => rfl)) pe_int))) (pe_lst (pa_cons pe_str pa_nil)) (nomark _))))) (pss_one (ps_ret pe_non)) pss_nil)
      (pss_one (ps_ret (pe_tup (pa_cons (pe_ix ix_tup (pv 4) pe_int (fun _ _ => rfl)) (pa_cons (pe_op op_add (pe_ix ix_tup (pv 4) pe_int (fun _ _ => rfl)) pe_int) pa_nil))))))) pss_nil)
      (pss_cons (ps_if (PW.pt (pw_and (pt_cmpR op_eq (pv 3) pe_str (nomark _)) (pw_and (pt_cmpR op_lt (pv 2) pe_int (nomark _)) (pw_and (pt_cmpR op_gt (pe_callB call_lenL (by rfl) T.f_len (by decide +kernel) (pa_cons (pv 0) pa_nil)) (pe_op op_add (pv 1) pe_int) (nomark _)) (pw_and1 (pt_cmpR op_eq (pe_ix ix_list (pv 0) (pe_op op_add (pv 1) pe_int) (fun _ _ => rfl)) pe_str (nomark _))))))) (pss_cons (ps_set (i := 5) sc__law_single.nd rfl (Or.inl rfl) (an_call F__law_single (hr.mono (by omega)) L2.takes0 T.g__law_single (pa_cons (pv 0) (pa_cons (pe_op op_add (pv 1) pe_int) (pa_cons (pe_op op_add (pv 2) pe_int) pa_nil)))))
      (pss_cons (ps_set (i := 6) sc__law_single.nd rfl (Or.inl rfl) (an_call F__law_number (hr.mono (by omega)) L2.takes0 T.g__law_number (pa_cons (pe_ix ix_list (pv 0) (pe_op op_add (pv 1) pe_int) (fun _ _ => rfl)) pa_nil)))
      (pss_cons (ps_if (PW.pt (pw_or (pt_cmpR op_isN1 (pv 5) pe_non (nomark _)) (pw_or (pt_cmpR op_lt (pv 6) pe_int (nomark _)) (pw_or1 (pt_not (pt_val (an_call F__law_is_name (hr.mono (by omega)) L2.takes0 T.g__law_is_name (pa_cons (pe_ix ix_list (pv 0) (pe_op op_add (pv 1) pe_int) (fun _ _ => rfl)) pa_nil)))))))) (pss_one (ps_ret pe_non)) pss_nil)
      (pss_one (ps_ret (pe_tup (pa_cons (pe_tup (pa_cons pe_str (pa_cons (pe_ix ix_list (pv 0) (pe_op op_add (pv 1) pe_int) (fun _ _ => rfl)) (pa_cons (pv 6) (pa_cons (pe_ix ix_tup (pv 5) pe_int (fun _ _ => rfl)) pa_nil))))) (pa_cons (pe_ix ix_tup (pv 5) pe_int (fun _ _ => rfl)) pa_nil)))))))) pss_nil)
      (pss_cons (ps_if (pt_val (an_call F__law_is_name (hr.mono (by omega)) L2.takes0 T.g__law_is_name (pa_cons (pv 3) pa_nil))) (pss_one (ps_ret (pe_tup (pa_cons (pe_tup (pa_cons pe_str (pa_cons (pv 3) pa_nil))) (pa_cons (pe_op op_add (pv 1) pe_int) pa_nil))))) pss_nil)
      (pss_cons (ps_if (pt_cmpR op_ge (an_call F__law_number (hr.mono (by omega)) L2.takes0 T.g__law_number (pa_cons (pv 3) pa_nil)) pe_int (nomark _)) (pss_one (ps_ret (pe_tup (pa_cons (pe_tup (pa_cons pe_str (pa_cons (an_call F__law_number (hr.mono (by omega)) L2.takes0 T.g__law_number (pa_cons (pv 3) pa_nil)) pa_nil))) (pa_cons (pe_op op_add (pv 1) pe_int) pa_nil))))) pss_nil)
      (pss_one (ps_ret pe_non))))))
abbrev n__law_chainB : List Str := ["_law_words_here", "_law_at", "_law_deep", "_law_rank", "_law_found", "_law_pieces"]
abbrev s__law_chain : Stmt := top 50
theorem sc__law_chain : FnScope n__law_chainB ["_law_words_here", "_law_at", "_law_deep", "_law_rank"] (defScope s__law_chain) := ⟨rfl, rfl, rfl, by decide +kernel, rfl, by decide +kernel, by decide +kernel⟩
theorem okr__law_chain {P : Program} {w : World} {K : PySem.W.Frag} {mg : Str → Option Value} {base : Heap} {k : Nat} {sp : Sp} {S__law_chain S__law_single : Sp} (T : Tx K mg) (hk : 2 ≤ k) (F__law_single : Ok P w K mg base k (ga K "_law_single") ["_law_words_here", "_law_at", "_law_deep"] S__law_single) (F__law_chain : Ok P w K mg base k (ga K "_law_chain") ["_law_words_here", "_law_at", "_law_deep", "_law_rank"] S__law_chain) (ln : ∀ vs H Q E, sp vs H Q E → vs.length = 4)
    (pure : ∀ vs H Q E, sp vs H Q E → t__law_chain K (fun _ _ _ _ => False) S__law_chain S__law_single { nx := fun _ H' => Q .non H', rt := Q } (start n__law_chainB vs) H) : Ok P w K mg base (k + 1) (ga K "_law_chain") ["_law_words_here", "_law_at", "_law_deep", "_law_rank"] sp := by
  refine ok0 T.d__law_chain sc__law_chain (fun _ _ _ _ _ _ us hl => match us, hl with | [_, _, _, _], _ => rfl) ln (fun cdv A outer s H vs Q E hr h => ⟨t__law_chain K (fun _ _ _ _ => False) S__law_chain S__law_single, ?_, pure vs H Q E h⟩)
  have hu := hu_of hr
  have tk := L2.takes0 (X := (cxOf (L2.CX P w) P w K mg base n__law_chainB "_law_chain" (defScope s__law_chain) (ga K "_law_chain") cdv A outer s H E).nox)
  exact pss_cons (ps_if (pt_cmpR op_eq (pv 3) pe_int (nomark _)) (pss_one (ps_ret (an_call F__law_single (hr.mono (by omega)) L2.takes0 T.g__law_single (pa_cons (pv 0) (pa_cons (pv 1) (pa_cons (pv 2) pa_nil)))))) pss_nil)
      (pss_cons (ps_set (i := 4) sc__law_chain.nd rfl (Or.inl rfl) (an_call F__law_chain (hr.mono (by omega)) L2.takes0 T.g__law_chain (pa_cons (pv 0) (pa_cons (pv 1) (pa_cons (pv 2) (pa_cons (pe_op op_add (pv 3) pe_int) pa_nil))))))
      (pss_cons (ps_set (i := 5) sc__law_chain.nd rfl (Or.inl rfl) (pe_lst pa_nil))
      (pss_cons (ps_while PassesOwn.never (pt_cmpR op_notN1 (pv 4) pe_non (nomark _)) (pss_cons (ps_expr (pe_bm PySem.F.plainAttrs_list PySem.F.slot_list_append PySem.F.type_list_append mt_append (pv 5) (pa_cons (pe_ix ix_tup (pv 4) pe_int (fun _ _ => rfl)) pa_nil)))
      (pss_cons (ps_if (pt_cmpR (op_neY hr.units) (pe_slice sl_list (pv 0) (po_some (pe_ix ix_tup (pv 4) pe_int (fun _ _ => rfl))) (po_some (pe_op op_add (pe_ix ix_tup (pv 4) pe_int (fun _ _ => rfl)) pe_int))) (pe_lst (pa_cons (pe_ix ix_list (pe_lst (pa_cons pe_str (pa_cons pe_str (pa_cons pe_str (pa_cons pe_str pa_nil))))) (pv 3) (fun _ _ => rfl)) pa_nil)) (nomark _)) (pss_cons (ps_if (pt_cmpR op_eq (pe_callB call_lenL (by rfl) T.f_len (by decide +kernel) (pa_cons (pv 5) pa_nil)) pe_int (nomark _)) (pss_one (ps_ret (pv 4))) pss_nil)
      (pss_cons (ps_if (pt_cmpR op_gt (pe_callB call_lenL (by rfl) T.f_len (by decide +kernel) (pa_cons (pv 5) pa_nil)) pe_int (nomark _)) (pss_one (ps_ret pe_non)) pss_nil)
      (pss_one (ps_ret (pe_tup (pa_cons (pe_tup (pa_cons (pe_ix ix_list (pe_lst (pa_cons pe_str (pa_cons pe_str (pa_cons pe_str (pa_cons pe_str pa_nil))))) (pv 3) (fun _ _ => rfl)) (pa_cons (pv 5) pa_nil))) (pa_cons (pe_ix ix_tup (pv 4) pe_int (fun _ _ => rfl)) pa_nil))))))) pss_nil)
      (pss_one (ps_set (i := 4) sc__law_chain.nd rfl (Or.inl rfl) (an_call F__law_chain (hr.mono (by omega)) L2.takes0 T.g__law_chain (pa_cons (pv 0) (pa_cons (pe_op op_add (pe_ix ix_tup (pv 4) pe_int (fun _ _ => rfl)) pe_int) (pa_cons (pv 2) (pa_cons (pe_op op_add (pv 3) pe_int) pa_nil))))))))))
      (pss_one (ps_ret pe_non)))))
abbrev s__law_refused : Stmt := top 51
theorem sc__law_refused : FnScope n__law_refused ["_law_text"] (defScope s__law_refused) := ⟨rfl, rfl, rfl, by decide +kernel, rfl, by decide +kernel, by decide +kernel⟩
theorem okr__law_refused {P : Program} {w : World} {K : PySem.W.Frag} {mg : Str → Option Value} {base : Heap} {k : Nat} {sp : Sp} {S_read : Sp} (T : Tx K mg) (hk : 2 ≤ k) (F_read : Ok P w K mg base k (ga K "read") ["text"] S_read) (ln : ∀ vs H Q E, sp vs H Q E → vs.length = 1)
    (pure : ∀ vs H Q E, sp vs H Q E → t__law_refused K (fun _ _ _ _ => False) S_read { nx := fun _ H' => Q .non H', rt := Q } (start n__law_refused vs) H) : Ok P w K mg base (k + 1) (ga K "_law_refused") ["_law_text"] sp := by
  refine ok0 T.d__law_refused sc__law_refused (fun _ _ _ _ _ _ us hl => match us, hl with | [_], _ => rfl) ln (fun cdv A outer s H vs Q E hr h => ⟨t__law_refused K (fun _ _ _ _ => False) S_read, ?_, pure vs H Q E h⟩)
  have hu := hu_of hr
  have tk := L2.takes0 (X := (cxOf (L2.CX P w) P w K mg base n__law_refused "_law_refused" (defScope s__law_refused) (ga K "_law_refused") cdv A outer s H E).nox)
  exact pss_cons (ps_try_as rfl rfl sc__law_refused.nd rfl rfl ⟨by rfl, by decide, .inl T.g_NoRecipe⟩ tk (fun W pn xe tk hpo_ => pss_one (ps_expr (an_call F_read (hr.mono (by omega)) tk T.g_read (pa_cons (pv 0) pa_nil)))) (fun a_ oe_ cls_ d_ pn hz_ hf_ => pss_cons (ps_set (i := 2) sc__law_refused.nd rfl (Or.inl rfl) (pe_or (pe_callB (call_isiE hz_ hf_) (by rfl) T.f_isinstance (by decide +kernel) (pa_cons (pv 1) (pa_cons (pe_glob (by rfl) T.g_NoName rfl) pa_nil))) (pe_or (pe_callB (call_isiE hz_ hf_) (by rfl) T.f_isinstance (by decide +kernel) (pa_cons (pv 1) (pa_cons (pe_glob (by rfl) T.g_NoNumber rfl) pa_nil))) (pe_one (pe_callB (call_isiE hz_ hf_) (by rfl) T.f_isinstance (by decide +kernel) (pa_cons (pv 1) (pa_cons (pe_glob (by rfl) T.g_Full rfl) pa_nil)))))))
      (pss_cons (ps_set (i := 2) sc__law_refused.nd rfl (Or.inl rfl) (pe_or (pv 2) (pe_or (pe_callB (call_isiE hz_ hf_) (by rfl) T.f_isinstance (by decide +kernel) (pa_cons (pv 1) (pa_cons (pe_glob (by rfl) T.g_NoPoint rfl) pa_nil))) (pe_one (pe_callB (call_isiE hz_ hf_) (by rfl) T.f_isinstance (by decide +kernel) (pa_cons (pv 1) (pa_cons (pe_glob (by rfl) T.g_NoRow rfl) pa_nil)))))))
      (pss_one (ps_ret (pe_and (pe_callB (call_isiE hz_ hf_) (by rfl) T.f_isinstance (by decide +kernel) (pa_cons (pv 1) (pa_cons (pe_glob (by rfl) T.g_HallError rfl) pa_nil))) (pe_and (pe_callB (call_isiE hz_ hf_) (by rfl) T.f_isinstance (by decide +kernel) (pa_cons (pv 1) (pa_cons (pe_bltn (by rfl) T.f_ValueError (by decide +kernel) rfl) pa_nil))) (pe_one (pe_not (pv 2))))))))))
      (pss_one (ps_ret pe_bl))
abbrev s__law_words : Stmt := top 43
theorem sc__law_words : FnScope n__law_words ["_law_text"] (defScope s__law_words) := ⟨rfl, rfl, rfl, by decide +kernel, rfl, by decide +kernel, by decide +kernel⟩
theorem ok__law_words {P : Program} {w : World} {K : PySem.W.Frag} {mg : Str → Option Value} {base : Heap} (T : Tx K mg) : Ok P w K mg base 1 (ga K "_law_words") ["_law_text"] (sp_lwords K) := by
  refine ok0 T.d__law_words sc__law_words (fun _ _ _ _ _ _ us hl => match us, hl with | [_], _ => rfl) (fun vs H Q E h => ln__law_words h) (fun cdv A outer s H vs Q E hr h => ⟨t__law_words K (fun _ _ _ _ => False), ?_, pure__law_words h⟩)
  have hu := hu_of hr
  have tk := L2.takes0 (X := (cxOf (L2.CX P w) P w K mg base n__law_words "_law_words" (defScope s__law_words) (ga K "_law_words") cdv A outer s H E).nox)
  exact pss_cons (ps_set (i := 1) sc__law_words.nd rfl (Or.inl rfl) (pe_lst pa_nil))
      (pss_cons (ps_for PassesOwn.never rfl (pi_list (an_splitT (pv 0) pe_str)) (pg_name (i := 2) sc__law_words.nd rfl (Or.inl rfl)) (pss_cons (ps_set (i := 3) sc__law_words.nd rfl (Or.inl rfl) pe_str)
      (pss_cons (ps_for PassesOwn.never rfl (pi_str (pv 2)) (pg_name (i := 4) sc__law_words.nd rfl (Or.inl rfl)) (pss_one (ps_if (pt_cmpR op_inS (pv 4) pe_str (by rfl)) (pss_cons (ps_expr (pe_bm PySem.F.plainAttrs_list PySem.F.slot_list_append PySem.F.type_list_append mt_append (pv 1) (pa_cons (pv 3) pa_nil)))
      (pss_cons (ps_expr (pe_bm PySem.F.plainAttrs_list PySem.F.slot_list_append PySem.F.type_list_append mt_append (pv 1) (pa_cons (pv 4) pa_nil)))
      (pss_one (ps_set (i := 3) sc__law_words.nd rfl (Or.inl rfl) pe_str)))) (pss_one (ps_set (i := 3) sc__law_words.nd rfl (Or.inl rfl) (pe_op op_addS (pv 3) (pv 4)))))))
      (pss_one (ps_expr (pe_bm PySem.F.plainAttrs_list PySem.F.slot_list_append PySem.F.type_list_append mt_append (pv 1) (pa_cons (pv 3) pa_nil)))))))
      (pss_one (ps_ret (pe_lc (own := [("_law_one", 2)]) (tt := (tTest (tOp rNe (tVar 2) (tC (.str ""))))) rfl sc__law_words.nd (pi_list (pv 1)) (blkOk_by (own := [("_law_one", 2)]) (N := n__law_words) (sc := defScope s__law_words) (by decide +kernel)) (fun _ _ _ _ _ => (pg_name (i := 2) sc__law_words.nd rfl (Or.inl rfl))) (fun _ _ _ _ _ => pts_one (pt_cmpR op_ne (pv 2) pe_str (nomark _))) (fun _ _ _ _ _ => (pv 2))))))
abbrev s__law_odd : Stmt := top 44
theorem sc__law_odd : FnScope n__law_odd ["_law_dice_here"] (defScope s__law_odd) := ⟨rfl, rfl, rfl, by decide +kernel, rfl, by decide +kernel, by decide +kernel⟩
theorem ok__law_odd {P : Program} {w : World} {K : PySem.W.Frag} {mg : Str → Option Value} {base : Heap} (T : Tx K mg) (F__law_roll : Ok P w K mg base 1 (ga K "_law_roll") ["_law_dice_here", "_law_most"] (sp_roll K)) : Ok P w K mg base 2 (ga K "_law_odd") ["_law_dice_here"] (sp_odd K) := by
  refine ok0 T.d__law_odd sc__law_odd (fun _ _ _ _ _ _ us hl => match us, hl with | [_], _ => rfl) (fun vs H Q E h => ln__law_odd h) (fun cdv A outer s H vs Q E hr h => ⟨t__law_odd K (fun _ _ _ _ => False), ?_, pure__law_odd h⟩)
  have hu := hu_of hr
  have tk := L2.takes0 (X := (cxOf (L2.CX P w) P w K mg base n__law_odd "_law_odd" (defScope s__law_odd) (ga K "_law_odd") cdv A outer s H E).nox)
  exact pss_cons (ps_set (i := 1) sc__law_odd.nd rfl (Or.inl rfl) (pe_lst (pa_cons pe_str (pa_cons pe_str (pa_cons pe_str (pa_cons pe_str (pa_cons pe_str (pa_cons pe_str (pa_cons pe_str (pa_cons pe_str (pa_cons pe_str (pa_cons pe_str (pa_cons pe_str (pa_cons pe_str (pa_cons pe_str (pa_cons pe_str (pa_cons pe_str (pa_cons pe_str (pa_cons pe_str (pa_cons pe_str pa_nil))))))))))))))))))))
      (pss_cons (ps_set (i := 1) sc__law_odd.nd rfl (Or.inl rfl) (pe_op op_cat (pv 1) (pe_lst (pa_cons pe_str (pa_cons pe_str (pa_cons pe_str (pa_cons pe_str (pa_cons pe_str (pa_cons pe_str pa_nil)))))))))
      (pss_one (ps_ret (pe_ix ix_list (pv 1) (an_call F__law_roll (hr.mono (by decide)) L2.takes0 T.g__law_roll (pa_cons (pv 0) (pa_cons (pe_callB call_lenL (by rfl) T.f_len (by decide +kernel) (pa_cons (pv 1) pa_nil)) pa_nil))) (fun _ _ => rfl)))))
abbrev s__law_changed : Stmt := top 45
theorem sc__law_changed : FnScope n__law_changed ["_law_dice_here", "_law_words_here"] (defScope s__law_changed) := ⟨rfl, rfl, rfl, by decide +kernel, rfl, by decide +kernel, by decide +kernel⟩
theorem ok__law_changed {P : Program} {w : World} {K : PySem.W.Frag} {mg : Str → Option Value} {base : Heap} (T : Tx K mg) (F__law_roll : Ok P w K mg base 1 (ga K "_law_roll") ["_law_dice_here", "_law_most"] (sp_roll K)) (F__law_odd : Ok P w K mg base 2 (ga K "_law_odd") ["_law_dice_here"] (sp_odd K)) : Ok P w K mg base 3 (ga K "_law_changed") ["_law_dice_here", "_law_words_here"] (sp_changed K) := by
  refine ok0 T.d__law_changed sc__law_changed (fun _ _ _ _ _ _ us hl => match us, hl with | [_, _], _ => rfl) (fun vs H Q E h => ln__law_changed h) (fun cdv A outer s H vs Q E hr h => ⟨t__law_changed K (fun _ _ _ _ => False), ?_, pure__law_changed h⟩)
  have hu := hu_of hr
  have tk := L2.takes0 (X := (cxOf (L2.CX P w) P w K mg base n__law_changed "_law_changed" (defScope s__law_changed) (ga K "_law_changed") cdv A outer s H E).nox)
  exact pss_cons (ps_for PassesOwn.never rfl (pi_range1 (by rfl) T.f_range (pa_cons (an_call F__law_roll (hr.mono (by decide)) L2.takes0 T.g__law_roll (pa_cons (pv 0) (pa_cons pe_int pa_nil))) pa_nil)) (pg_name (i := 2) sc__law_changed.nd rfl (Or.inl rfl)) (pss_cons (ps_set (i := 3) sc__law_changed.nd rfl (Or.inl rfl) (an_call F__law_roll (hr.mono (by decide)) L2.takes0 T.g__law_roll (pa_cons (pv 0) (pa_cons (pe_op op_add (pe_callB call_lenL (by rfl) T.f_len (by decide +kernel) (pa_cons (pv 1) pa_nil)) pe_int) pa_nil))))
      (pss_cons (ps_set (i := 4) sc__law_changed.nd rfl (Or.inl rfl) (an_call F__law_roll (hr.mono (by decide)) L2.takes0 T.g__law_roll (pa_cons (pv 0) (pa_cons pe_int pa_nil))))
      (pss_one (ps_if (pt_cmpR op_eq (pv 4) pe_int (nomark _)) (pss_one (ps_set (i := 1) sc__law_changed.nd rfl (Or.inl rfl) (pe_op op_cat (pe_op op_cat (pe_slice sl_list (pv 1) po_none (po_some (pv 3))) (pe_lst (pa_cons (an_call F__law_odd (hr.mono (by decide)) L2.takes0 T.g__law_odd (pa_cons (pv 0) pa_nil)) pa_nil))) (pe_slice sl_list (pv 1) (po_some (pv 3)) po_none)))) (pss_one (ps_if (pt_cmpR op_eq (pv 4) pe_int (nomark _)) (pss_one (ps_set (i := 1) sc__law_changed.nd rfl (Or.inl rfl) (pe_op op_cat (pe_slice sl_list (pv 1) po_none (po_some (pv 3))) (pe_slice sl_list (pv 1) (po_some (pe_op op_add (pv 3) pe_int)) po_none)))) (pss_one (ps_set (i := 1) sc__law_changed.nd rfl (Or.inl rfl) (pe_op op_cat (pe_op op_cat (pe_slice sl_list (pv 1) po_none (po_some (pv 3))) (pe_lst (pa_cons (an_call F__law_odd (hr.mono (by decide)) L2.takes0 T.g__law_odd (pa_cons (pv 0) pa_nil)) pa_nil))) (pe_slice sl_list (pv 1) (po_some (pe_op op_add (pv 3) pe_int)) po_none)))))))))))
      (pss_one (ps_ret (pv 1)))
abbrev s__law_drawn : Stmt := top 46
theorem sc__law_drawn : FnScope n__law_drawn ["_law_dice_here", "_law_names_here"] (defScope s__law_drawn) := ⟨rfl, rfl, rfl, by decide +kernel, rfl, by decide +kernel, by decide +kernel⟩
theorem okr__law_drawn {P : Program} {w : World} {K : PySem.W.Frag} {mg : Str → Option Value} {base : Heap} {k : Nat} {sp : Sp} {S__law_tree S__law_written : Sp} (T : Tx K mg) (hk : 40 ≤ k) (F__law_roll : Ok P w K mg base 1 (ga K "_law_roll") ["_law_dice_here", "_law_most"] (sp_roll K)) (F__law_tree : Ok P w K mg base k (ga K "_law_tree") ["_law_dice_here", "_law_names_here", "_law_deep"] S__law_tree) (F__law_written : Ok P w K mg base k (ga K "_law_written") ["_law_tree_here", "_law_firm"] S__law_written) (F__law_words : Ok P w K mg base 1 (ga K "_law_words") ["_law_text"] (sp_lwords K)) (F__law_changed : Ok P w K mg base 3 (ga K "_law_changed") ["_law_dice_here", "_law_words_here"] (sp_changed K)) (ln : ∀ vs H Q E, sp vs H Q E → vs.length = 2)
    (pure : ∀ vs H Q E, sp vs H Q E → t__law_drawn K (fun _ _ _ _ => False) S__law_tree S__law_written { nx := fun _ H' => Q .non H', rt := Q } (start n__law_drawn vs) H) : Ok P w K mg base (k + 1) (ga K "_law_drawn") ["_law_dice_here", "_law_names_here"] sp := by
  refine ok0 T.d__law_drawn sc__law_drawn (fun _ _ _ _ _ _ us hl => match us, hl with | [_, _], _ => rfl) ln (fun cdv A outer s H vs Q E hr h => ⟨t__law_drawn K (fun _ _ _ _ => False) S__law_tree S__law_written, ?_, pure vs H Q E h⟩)
  have hu := hu_of hr
  have tk := L2.takes0 (X := (cxOf (L2.CX P w) P w K mg base n__law_drawn "_law_drawn" (defScope s__law_drawn) (ga K "_law_drawn") cdv A outer s H E).nox)
  exact pss_cons (ps_set (i := 2) sc__law_drawn.nd rfl (Or.inl rfl) (an_call F__law_roll (hr.mono (by omega)) L2.takes0 T.g__law_roll (pa_cons (pv 0) (pa_cons pe_int pa_nil))))
      (pss_cons (ps_if (pt_cmpR op_eq (pv 2) pe_int (nomark _)) (pss_cons (ps_set (i := 3) sc__law_drawn.nd rfl (Or.inl rfl) (pe_ix ix_list (pe_lst (pa_cons pe_str (pa_cons pe_str (pa_cons pe_str pa_nil)))) (an_call F__law_roll (hr.mono (by omega)) L2.takes0 T.g__law_roll (pa_cons (pv 0) (pa_cons pe_int pa_nil))) (fun _ _ => rfl)))
      (pss_cons (ps_set (i := 4) sc__law_drawn.nd rfl (Or.inl rfl) (pe_lst (pa_cons (pe_ix ix_list (pv 1) pe_int (fun _ _ => rfl)) pa_nil)))
      (pss_cons (ps_for PassesOwn.never rfl (pi_range1 (by rfl) T.f_range (pa_cons (pe_op op_add pe_int (an_call F__law_roll (hr.mono (by omega)) L2.takes0 T.g__law_roll (pa_cons (pv 0) (pa_cons pe_int pa_nil)))) pa_nil)) (pg_name (i := 5) sc__law_drawn.nd rfl (Or.inl rfl)) (pss_one (ps_set (i := 4) sc__law_drawn.nd rfl (Or.inl rfl) (pe_op op_cat (pv 4) (pe_lst (pa_cons (pv 3) (pa_cons (pe_ix ix_list (pv 1) (pe_op op_mod (pv 5) (pe_callB call_lenL (by rfl) T.f_len (by decide +kernel) (pa_cons (pv 1) pa_nil))) (fun _ _ => rfl)) pa_nil)))))))
      (pss_one (ps_ret (pv 4)))))) pss_nil)
      (pss_cons (ps_if (pt_cmpR op_eq (pv 2) pe_int (nomark _)) (pss_cons (ps_set (i := 4) sc__law_drawn.nd rfl (Or.inl rfl) (pe_lst (pa_cons (pe_ix ix_list (pv 1) pe_int (fun _ _ => rfl)) pa_nil)))
      (pss_cons (ps_for PassesOwn.never rfl (pi_range1 (by rfl) T.f_range (pa_cons (pe_op op_add pe_int (an_call F__law_roll (hr.mono (by omega)) L2.takes0 T.g__law_roll (pa_cons (pv 0) (pa_cons pe_int pa_nil)))) pa_nil)) (pg_name (i := 5) sc__law_drawn.nd rfl (Or.inl rfl)) (pss_one (ps_set (i := 4) sc__law_drawn.nd rfl (Or.inl rfl) (pe_op op_cat (pv 4) (pe_lst (pa_cons (pe_ix ix_list (pe_lst (pa_cons pe_str (pa_cons pe_str (pa_cons pe_str pa_nil)))) (pe_op op_mod (pe_op op_fdivW (pv 5) pe_int) pe_int) (fun _ _ => rfl)) (pa_cons (pe_ix ix_list (pv 1) (pe_op op_mod (pv 5) (pe_callB call_lenL (by rfl) T.f_len (by decide +kernel) (pa_cons (pv 1) pa_nil))) (fun _ _ => rfl)) pa_nil)))))))
      (pss_one (ps_ret (pe_op op_cat (pv 4) (pe_op op_rep (pe_lst (pa_cons pe_str pa_nil)) (an_call F__law_roll (hr.mono (by omega)) L2.takes0 T.g__law_roll (pa_cons (pv 0) (pa_cons pe_int pa_nil))))))))) pss_nil)
      (pss_cons (ps_if (pt_cmpR op_eq (pv 2) pe_int (nomark _)) (pss_cons (ps_set (i := 4) sc__law_drawn.nd rfl (Or.inl rfl) (pe_lst (pa_cons (pe_ix ix_list (pv 1) pe_int (fun _ _ => rfl)) pa_nil)))
      (pss_cons (ps_for PassesOwn.never rfl (pi_range1 (by rfl) T.f_range (pa_cons (pe_op op_add pe_int (an_call F__law_roll (hr.mono (by omega)) L2.takes0 T.g__law_roll (pa_cons (pv 0) (pa_cons pe_int pa_nil)))) pa_nil)) (pg_name (i := 6) sc__law_drawn.nd rfl (Or.inl rfl)) (pss_one (ps_if (pt_cmpR op_eq (an_call F__law_roll (hr.mono (by omega)) L2.takes0 T.g__law_roll (pa_cons (pv 0) (pa_cons pe_int pa_nil))) pe_int (nomark _)) (pss_one (ps_set (i := 4) sc__law_drawn.nd rfl (Or.inl rfl) (pe_op op_cat (pe_op op_cat (pe_lst (pa_cons pe_str pa_nil)) (pv 4)) (pe_lst (pa_cons pe_str pa_nil))))) (pss_one (ps_set (i := 4) sc__law_drawn.nd rfl (Or.inl rfl) (pe_op op_cat (pe_lst (pa_cons pe_str (pa_cons (pe_ix ix_list (pv 1) pe_int (fun _ _ => rfl)) (pa_cons (pe_ix ix_list (pe_lst (pa_cons pe_str (pa_cons pe_str (pa_cons pe_str (pa_cons pe_str pa_nil))))) (an_call F__law_roll (hr.mono (by omega)) L2.takes0 T.g__law_roll (pa_cons (pv 0) (pa_cons pe_int pa_nil))) (fun _ _ => rfl)) (pa_cons pe_str pa_nil))))) (pv 4)))))))
      (pss_one (ps_ret (pv 4))))) pss_nil)
      (pss_one (ps_ret (an_call F__law_changed (hr.mono (by omega)) L2.takes0 T.g__law_changed (pa_cons (pv 0) (pa_cons (an_call F__law_words (hr.mono (by omega)) L2.takes0 T.g__law_words (pa_cons (an_call F__law_written (hr.mono (by omega)) L2.takes0 T.g__law_written (pa_cons (an_call F__law_tree (hr.mono (by omega)) L2.takes0 T.g__law_tree (pa_cons (pv 0) (pa_cons (pv 1) (pa_cons (pe_op op_add pe_int (pe_op op_mod (pv 2) pe_int)) pa_nil)))) (pa_cons pe_int pa_nil))) pa_nil)) pa_nil))))))))
abbrev s_law : Stmt := top 52
theorem sc_law : FnScope n_law ["_law_script"] (defScope s_law) := ⟨rfl, rfl, rfl, by decide +kernel, rfl, by decide +kernel, by decide +kernel⟩
theorem okr_law {P : Program} {w : World} {K : PySem.W.Frag} {mg : Str → Option Value} {base : Heap} {k : Nat} {sp : Sp} {S__law_drawn S__law_written S_read S_shown S__law_chain S__law_refused : Sp} (T : Tx K mg) (hk : 60 ≤ k) (F__law_cell_at : Ok P w K mg base 1 (ga K "_law_cell_at") ["_law_script", "_law_k"] (sp_cell_at K)) (F__law_names : Ok P w K mg base 1 (ga K "_law_names") ["_law_cell", "_law_many"] sp__law_names) (F__law_dice : Ok P w K mg base 1 (ga K "_law_dice") ["_law_cell"] (sp_dice K)) (F__law_drawn : Ok P w K mg base k (ga K "_law_drawn") ["_law_dice_here", "_law_names_here"] S__law_drawn) (F__law_chain : Ok P w K mg base k (ga K "_law_chain") ["_law_words_here", "_law_at", "_law_deep", "_law_rank"] S__law_chain) (F__law_refused : Ok P w K mg base k (ga K "_law_refused") ["_law_text"] S__law_refused) (F_read : Ok P w K mg base k (ga K "read") ["text"] S_read) (F_shown : Ok P w K mg base k (ga K "shown") ["recipe"] S_shown) (F__law_written : Ok P w K mg base k (ga K "_law_written") ["_law_tree_here", "_law_firm"] S__law_written) (ln : ∀ vs H Q E, sp vs H Q E → vs.length = 1)
    (pure : ∀ vs H Q E, sp vs H Q E → t_law K (fun _ _ _ _ => False) S__law_drawn S__law_written S_read S_shown S__law_chain S__law_refused { nx := fun _ H' => Q .non H', rt := Q } (start n_law vs) H) : Ok P w K mg base (k + 1) (ga K "law") ["_law_script"] sp := by
  refine ok0 T.d_law sc_law (fun _ _ _ _ _ _ us hl => match us, hl with | [_], _ => rfl) ln (fun cdv A outer s H vs Q E hr h => ⟨t_law K (fun _ _ _ _ => False) S__law_drawn S__law_written S_read S_shown S__law_chain S__law_refused, ?_, pure vs H Q E h⟩)
  have hu := hu_of hr
  have tk := L2.takes0 (X := (cxOf (L2.CX P w) P w K mg base n_law "law" (defScope s_law) (ga K "law") cdv A outer s H E).nox)
  exact pss_cons (ps_set (i := 1) sc_law.nd rfl (Or.inl rfl) (an_call F__law_names (hr.mono (by omega)) L2.takes0 T.g__law_names (pa_cons (an_call F__law_cell_at (hr.mono (by omega)) L2.takes0 T.g__law_cell_at (pa_cons (pv 0) (pa_cons pe_int pa_nil))) (pa_cons (pe_op op_add pe_int (pe_op op_mod (an_call F__law_cell_at (hr.mono (by omega)) L2.takes0 T.g__law_cell_at (pa_cons (pv 0) (pa_cons pe_int pa_nil))) pe_int)) pa_nil))))
      (pss_cons (ps_set (i := 2) sc_law.nd rfl (Or.inl rfl) (an_call F__law_drawn (hr.mono (by omega)) L2.takes0 T.g__law_drawn (pa_cons (an_call F__law_dice (hr.mono (by omega)) L2.takes0 T.g__law_dice (pa_cons (an_call F__law_cell_at (hr.mono (by omega)) L2.takes0 T.g__law_cell_at (pa_cons (pv 0) (pa_cons pe_int pa_nil))) pa_nil)) (pa_cons (pv 1) pa_nil))))
      (pss_cons (ps_set (i := 3) sc_law.nd rfl (Or.inl rfl) (an_joinT pe_str (pv 2)))
      (pss_cons (ps_if (pt_cmpR op_eq (pe_op op_mod (an_call F__law_cell_at (hr.mono (by omega)) L2.takes0 T.g__law_cell_at (pa_cons (pv 0) (pa_cons pe_int pa_nil))) pe_int) pe_int (nomark _)) (pss_one (ps_set (i := 3) sc_law.nd rfl (Or.inl rfl) (pe_op op_addS (pv 3) (pe_op op_mulS pe_str (pe_callB (call_max2N rfl) (by rfl) T.f_max (by decide +kernel) (pa_cons pe_int (pa_cons (pe_op op_sub (pe_op op_add pe_int (pe_op op_mod (an_call F__law_cell_at (hr.mono (by omega)) L2.takes0 T.g__law_cell_at (pa_cons (pv 0) (pa_cons pe_int pa_nil))) pe_int)) (pe_callB call_lenT (by rfl) T.f_len (by decide +kernel) (pa_cons (pv 3) pa_nil))) pa_nil))))))) pss_nil)
      (pss_cons (ps_set (i := 4) sc_law.nd rfl (Or.inl rfl) (an_call F__law_chain (hr.mono (by omega)) L2.takes0 T.g__law_chain (pa_cons (pv 2) (pa_cons pe_int (pa_cons pe_int (pa_cons pe_int pa_nil))))))
      (pss_cons (ps_set (i := 5) sc_law.nd rfl (Or.inl rfl) (pe_and (pe_cmpR op_lt (pe_callB call_lenL (by rfl) T.f_len (by decide +kernel) (pa_cons (pv 2) pa_nil)) pe_int (nomark _)) (pe_one (pe_cmpR op_lt (pe_callB call_lenT (by rfl) T.f_len (by decide +kernel) (pa_cons (pv 3) pa_nil)) pe_int (nomark _)))))
      (pss_cons (ps_if (PW.pt (pw_or (pt_cmpR op_isN1 (pv 4) pe_non (nomark _)) (pw_or (pt_cmpR op_ne (pe_ix ix_tup (pv 4) pe_int (fun _ _ => rfl)) (pe_callB call_lenL (by rfl) T.f_len (by decide +kernel) (pa_cons (pv 2) pa_nil)) (nomark _)) (pw_or1 (pt_not (pt_val (pv 5))))))) (pss_one (ps_ret (an_call F__law_refused (hr.mono (by omega)) L2.takes0 T.g__law_refused (pa_cons (pv 3) pa_nil)))) pss_nil)
      (pss_one (ps_ret (pe_cmpR op_eq (an_call F_shown (hr.mono (by omega)) L2.takes0 T.g_shown (pa_cons (an_call F_read (hr.mono (by omega)) L2.takes0 T.g_read (pa_cons (pv 3) pa_nil)) pa_nil)) (an_call F__law_written (hr.mono (by omega)) L2.takes0 T.g__law_written (pa_cons (pe_ix ix_tup (pv 4) pe_int (fun _ _ => rfl)) (pa_cons pe_int pa_nil))) (nomark _))))))))))

/-! ### the reader with its refusals: the promises, by levels -/
section
variable {P : Program} {w : World} {K : PySem.W.Frag} {mg : Str → Option Value} {base : Heap}
theorem whole_okX (T : Tx K mg) {n m k : Nat} (hk : 4 ≤ k) {p : PRd} (hp : Shr p) (F4 : Ok P w K mg base k (ma K (ga K "Reader") "single") ["self"] (sp_px K p n m [])) : Ok P w K mg base (k + 9) (ma K (ga K "Reader") "whole") ["self"] (sp_px K (wholeF p) n (m + 3) []) := by
  have nvL : Ok P w K mg base k (ma K (ga K "Reader") "lesser") ["self"] spNev := (ok_nev (k := 0) T.d_Reader_lesser sc_Reader_lesserX (fun _ _ _ _ _ _ us hl => match us, hl with | [_], _ => rfl)).mono (by omega)
  have nvS : Ok P w K mg base k (ma K (ga K "Reader") "summed") ["self"] spNev := (ok_nev (k := 0) T.d_Reader_summed sc_Reader_summedX (fun _ _ _ _ _ _ us hl => match us, hl with | [_], _ => rfl)).mono (by omega)
  have Fh : Ok P w K mg base 1 (ma K (ga K "Reader") "here") ["self"] (sp_here K) := ok_Reader_here T
  have FP := ok_Piece___init__ (P := P) (w := w) (base := base) T
  have FC := ok_Chain___init__ T FP
  have h3 := hp
  have h2 := lvF_shr h3 .sum
  have h1 := lvF_shr h2 .least
  have I3 : Ok P w K mg base (k + 1) (ma K (ga K "Reader") "inner_of") ["self", "sign"] (sp_px K p n m [.str Kd.sum.wd]) := okr_Reader_inner_ofX T (by omega) nvL nvS F4 ln_px fun vs H Q E h => pure_Reader_inner_ofX (k := .sum) (fun e => nomatch e) (fun e => nomatch e) (fun _ => rfl) h
  have C3 : Ok P w K mg base (k + 2) (ma K (ga K "Reader") "chained") ["self", "sign"] (sp_cx K p Kd.sum.wd n m) := okr_Reader_chainedX T (by omega) I3 Fh ln_cx fun vs H Q E h => pure_Reader_chainedX h3 (by decide) h
  have L3 : Ok P w K mg base (k + 3) (ma K (ga K "Reader") "summed") ["self"] (sp_px K (lvF .sum p) n (m + 1) []) := okr_Reader_summedX T (by omega) C3 (ok_Sum___init__ T FC) ln_px fun vs H Q E h => pure_lvX (k := .sum) T.c_Sum h
  have I2 : Ok P w K mg base (k + 4) (ma K (ga K "Reader") "inner_of") ["self", "sign"] (sp_px K (lvF .sum p) n (m + 1) [.str Kd.least.wd]) := okr_Reader_inner_ofX T (by omega) (nvL.mono (by omega)) L3 (F4.mono (by omega)) ln_px fun vs H Q E h => pure_Reader_inner_ofX (k := .least) (fun e => nomatch e) (fun _ => rfl) (fun e => nomatch e) h
  have C2 : Ok P w K mg base (k + 5) (ma K (ga K "Reader") "chained") ["self", "sign"] (sp_cx K (lvF .sum p) Kd.least.wd n (m + 1)) := okr_Reader_chainedX T (by omega) I2 Fh ln_cx fun vs H Q E h => pure_Reader_chainedX h2 (by decide) h
  have L2 : Ok P w K mg base (k + 6) (ma K (ga K "Reader") "lesser") ["self"] (sp_px K (lvF .least (lvF .sum p)) n (m + 2) []) := okr_Reader_lesserX T (by omega) C2 (ok_Least___init__ T FC) ln_px fun vs H Q E h => pure_lvX (k := .least) T.c_Least h
  have I1 : Ok P w K mg base (k + 7) (ma K (ga K "Reader") "inner_of") ["self", "sign"] (sp_px K (lvF .least (lvF .sum p)) n (m + 2) [.str Kd.most.wd]) := okr_Reader_inner_ofX T (by omega) L2 (nvS.mono (by omega)) (F4.mono (by omega)) ln_px fun vs H Q E h => pure_Reader_inner_ofX (k := .most) (fun _ => rfl) (fun e => nomatch e) (fun e => nomatch e) h
  have C1 : Ok P w K mg base (k + 8) (ma K (ga K "Reader") "chained") ["self", "sign"] (sp_cx K (lvF .least (lvF .sum p)) Kd.most.wd n (m + 2)) := okr_Reader_chainedX T (by omega) I1 Fh ln_cx fun vs H Q E h => pure_Reader_chainedX h1 (by decide) h
  exact okr_Reader_wholeX T (by omega) C1 (ok_Most___init__ T FC) ln_px fun vs H Q E h => pure_lvX (k := .most) T.c_Most h
theorem single_okX (T : Tx K mg) : ∀ n : Nat, Ok P w K mg base (7 + 10 * n) (ma K (ga K "Reader") "single") ["self"] (sp_px K (singleF n) n (4 * n + 1) [])
  | 0 => by
    have FP := ok_Piece___init__ (P := P) (w := w) (base := base) T
    have Fst := ok_Reader_step (P := P) (w := w) (base := base) T (ok_Reader_here T)
    have Fmu := ok_Reader_mustX T Fst
    have nvs : Ok P w K mg base 4 (ma K (ga K "Reader") "single") ["self"] spNev := (ok_nev (k := 0) T.d_Reader_single sc_Reader_singleX (fun _ _ _ _ _ _ us hl => match us, hl with | [_], _ => rfl)).mono (by omega)
    have nvw : Ok P w K mg base 6 (ma K (ga K "Reader") "whole") ["self"] spNev := (ok_nev (k := 0) T.d_Reader_whole sc_Reader_wholeX (fun _ _ _ _ _ _ us hl => match us, hl with | [_], _ => rfl)).mono (by omega)
    have Fg : Ok P w K mg base 5 (ma K (ga K "Reader") "gated") ["self"] (sp_px K (gatedF (subF 0)) 0 (4 * 0 + 1) []) := okr_Reader_gatedX T (by omega) Fst (ok_is_name T) (ok_number_ofX T) Fmu (ok_Reader_deeperX T) (ok_Gate___init__ T FP) nvs ln_px fun vs H Q E h => pure_Reader_gatedX (n := 0) (fun n' e => by cases e) (T.c_Gate.sub (by decide)) h
    exact okr_Reader_singleX (k := 6) T (by omega) Fst (ok_Reader_deeperX T) nvw Fmu (Fg.mono (by omega)) (ok_is_name T) (ok_Name___init__ T FP) (ok_Number___init__ T FP) (ok_number_ofX T) ln_px fun vs H Q E h => pure_Reader_singleX (n := 0) (fun n' e => by cases e) (T.c_Name.sub (by decide)) (T.c_Number.sub (by decide)) h
  | n + 1 => by
    have ih := single_okX T n
    have FP := ok_Piece___init__ (P := P) (w := w) (base := base) T
    have Fst := ok_Reader_step (P := P) (w := w) (base := base) T (ok_Reader_here T)
    have Fmu := ok_Reader_mustX T Fst
    have Fg : Ok P w K mg base (7 + 10 * n + 1) (ma K (ga K "Reader") "gated") ["self"] (sp_px K (gatedF (subF (n + 1))) (n + 1) (4 * (n + 1) + 1) []) := okr_Reader_gatedX T (by omega) Fst (ok_is_name T) (ok_number_ofX T) Fmu (ok_Reader_deeperX T) (ok_Gate___init__ T FP) ih ln_px fun vs H Q E h => pure_Reader_gatedX (fun n' e => by cases e; rfl) (T.c_Gate.sub (by decide)) h
    have Fw := whole_okX T (by omega) (singleF_shr n) ih
    have := okr_Reader_singleX (k := 7 + 10 * n + 9) T (by omega) Fst (ok_Reader_deeperX T) Fw Fmu (Fg.mono (by omega)) (ok_is_name T) (ok_Name___init__ T FP) (ok_Number___init__ T FP) (ok_number_ofX T) ln_px fun vs H Q E h => pure_Reader_singleX (n := n + 1) (fun n' e => by cases e; rfl) (T.c_Name.sub (by decide)) (T.c_Number.sub (by decide)) h
    exact this.mono (by omega)
theorem read_okX (T : Tx K mg) : Ok P w K mg base 40 (ga K "read") ["text"] (sp_readX K) := by
  have Fw := whole_okX T (by omega) (singleF_shr 2) (single_okX (P := P) (w := w) (base := base) T 2)
  exact (okr_readX T (by omega) (ok_Reader___init__ T) (ok_words_ofX T (ok_end_of T)) Fw (ok_Reader_here T) ln_readX fun vs H Q E h => pure_readX h).mono (by omega)
end
/-! ### the law's trees: the promises by storeys -/
section
variable {P : Program} {w : World} {K : PySem.W.Frag} {mg : Str → Option Value} {base : Heap}
theorem tree_nev (T : Tx K mg) {k : Nat} (hk : 1 ≤ k) : Ok P w K mg base k (ga K "_law_tree") ["_law_dice_here", "_law_names_here", "_law_deep"] spNev := (ok_nev (k := 0) T.d__law_tree sc__law_tree (fun _ _ _ _ _ _ us hl => match us, hl with | [_, _, _], _ => rfl)).mono hk
theorem tree_ok (T : Tx K mg) : ∀ n : Nat, Ok P w K mg base (n + 2) (ga K "_law_tree") ["_law_dice_here", "_law_names_here", "_law_deep"] (sp_treeG (TreeR n) (TreeOk n) n)
  | 0 => okr__law_tree (k := 1) T (by omega) (ok__law_roll T) (tree_nev T (by omega)) ln__law_treeG fun vs H Q E h => pure__law_tree (R := noR) (C := fun _ _ => False) (d := 0) noR.good (.inl rfl) h
  | n + 1 => okr__law_tree (k := n + 2) T (by omega) (ok__law_roll T) (tree_ok T n) ln__law_treeG fun vs H Q E h => pure__law_tree (R := TreeR n) (C := TreeOk n) (d := n + 1) (TreeR.good n) (.inr rfl) h
theorem written_nev (T : Tx K mg) {k : Nat} (hk : 1 ≤ k) : Ok P w K mg base k (ga K "_law_written") ["_law_tree_here", "_law_firm"] spNev := (ok_nev (k := 0) T.d__law_written sc__law_written (fun _ _ _ _ _ _ us hl => match us, hl with | [_, _], _ => rfl)).mono hk
theorem written_ok0 (T : Tx K mg) {ys : List Str} (hy : ∀ x ∈ ys, x.length ≤ 6) : Ok P w K mg base 2 (ga K "_law_written") ["_law_tree_here", "_law_firm"] (sp_written (TreeR 0) (TreeOk 0 ys) (wr 0)) :=
  okr__law_written (k := 1) T (by omega) ((written_nev T (by omega)).imp fun vs H Q E h => by
    obtain ⟨_, _, t, _⟩ := h
    exact t.elim) ln_written fun vs H Q E h => pure__law_written (M := 0) (R := noR) (C := fun _ _ => False) (w := fun e _ => e.elim) noR.good (by omega) (fun t => t.elim) hy h
theorem written_ok1 (T : Tx K mg) {ys : List Str} (hy : ∀ x ∈ ys, x.length ≤ 6) : Ok P w K mg base 3 (ga K "_law_written") ["_law_tree_here", "_law_firm"] (sp_written (TreeR 1) (TreeOk 1 ys) (wr 1)) :=
  okr__law_written (k := 2) T (by omega) (written_ok0 T hy) ln_written fun vs H Q E h => pure__law_written (M := 12) (R := TreeR 0) (C := TreeOk 0) (w := wr 0) (TreeR.good 0) (by omega) (fun t f c => wr_0 hy c f) hy h
theorem written_ok2 (T : Tx K mg) {ys : List Str} (hy : ∀ x ∈ ys, x.length ≤ 6) : Ok P w K mg base 4 (ga K "_law_written") ["_law_tree_here", "_law_firm"] (sp_written (TreeR 2) (TreeOk 2 ys) (wr 2)) :=
  okr__law_written (k := 3) T (by omega) (written_ok1 T hy) ln_written fun vs H Q E h => pure__law_written (M := 48) (R := TreeR 1) (C := TreeOk 1) (w := wr 1) (TreeR.good 1) (by omega) (fun t f c => wr_1 hy c f) hy h
end
/-! ### the promises of spoken, shown -/
section
variable {P : Program} {w : World} {K : PySem.W.Frag} {mg : Str → Option Value} {base : Heap}
theorem brk_ok (T : Tx K mg) {n k : Nat} (hk : 1 ≤ k) (hv : ∀ Cc f sp, VMs K "spoken" (PcX K n) (PtT n) clsX (spt_s (wrX n)) Cc f sp → Cls K Cc ∧ Meth K Cc "spoken" f ∧ ∃ ps, Ok P w K mg base k f ps sp) :
    Ok P w K mg base (k + 1) (ga K "bracketed") ["piece", "least"] (sp_brk (PcX K n) (PtT n) (wrX n)) :=
  okr_bracketed T hk hv ln_brk fun vs H Q E h => match n, h with
    | 0, h => by
      obtain ⟨_, _, _, _, _, hR, _⟩ := h
      exact hR.elim
    | n + 1, h => pure_bracketed (PcX.obj (by decide +kernel) (n + 1)) (PcX.rank (n + 1)) (Brk.x n) (fun t f hC => hC.len f) h
theorem spk_in {n : Nat} {c : Str} {vs : List V} {H : Hp} {Q : VK} {E : XK} (h : spv (PcX K (n + 1)) (PtT (n + 1)) clsX (spt_s (wrX (n + 1))) c vs H Q E) : spv (PcNd K (PcX K n)) (NdOkX (PtT n)) Nd.cls (spt_s (wrNd (wrX n))) c vs H Q E := by
  obtain ⟨v, us, ⟨d⟩, A, rfl, hR, hC, hc, hs⟩ := h
  exact ⟨v, us, d, A, rfl, hR, hC.nd, hc, hs⟩
theorem spkX (T : Tx K mg) : ∀ n : Nat, ∀ Cc f sp, VMs K "spoken" (PcX K n) (PtT n) clsX (spt_s (wrX n)) Cc f sp → Cls K Cc ∧ Meth K Cc "spoken" f ∧ ∃ ps, Ok P w K mg base (2 * n + 1) f ps sp
  | 0 => by
    rintro Cc f sp ⟨c, hc, rfl, rfl, rfl⟩
    have nev : ∀ {st : Stmt} {qual : Str} {fa_ : Addr} {N : List Str}, Def K "spoken" qual st fa_ → FnScope N ["self"] (defScope st) → (∀ (kV doc pm : Value) (an : Option Addr) (cdv ct : Value) (us : List Value), us.length = 1 → bindArgs (PySem.W.fnOf "spoken" qual (defArgs st) (defBody st) (defScope st) .none kV doc pm an cdv ct) ⟨us, []⟩ = pure ((["self"] : List Str).zip us)) →
        ∃ ps, Ok P w K mg base (2 * 0 + 1) fa_ ps (spv (PcX K 0) (PtT 0) clsX (spt_s (wrX 0)) c) := fun d S hb => ⟨_, (ok_nev (k := 0) d S hb).imp fun vs H Q E h => by
      obtain ⟨_, _, _, _, _, hR, _⟩ := h
      exact hR.elim⟩
    simp only [List.mem_cons, List.not_mem_nil, or_false] at hc
    rcases hc with rfl | rfl | rfl | rfl | rfl | rfl
    · exact ⟨T.c_Number.cl, T.m_Number_spoken, nev T.d_Number_spoken sc_Number_spoken (fun _ _ _ _ _ _ us hl => match us, hl with | [_], _ => rfl)⟩
    · exact ⟨T.c_Name.cl, T.m_Name_spoken, nev T.d_Name_spoken sc_Name_spoken (fun _ _ _ _ _ _ us hl => match us, hl with | [_], _ => rfl)⟩
    · exact ⟨T.c_Gate.cl, T.m_Gate_spoken, nev T.d_Gate_spoken sc_Gate_spoken (fun _ _ _ _ _ _ us hl => match us, hl with | [_], _ => rfl)⟩
    · exact ⟨T.c_Sum.cl, T.m_Sum_spoken, nev T.d_Sum_spoken sc_Chain_spoken (fun _ _ _ _ _ _ us hl => match us, hl with | [_], _ => rfl)⟩
    · exact ⟨T.c_Least.cl, T.m_Least_spoken, nev T.d_Least_spoken sc_Chain_spoken (fun _ _ _ _ _ _ us hl => match us, hl with | [_], _ => rfl)⟩
    · exact ⟨T.c_Most.cl, T.m_Most_spoken, nev T.d_Most_spoken sc_Chain_spoken (fun _ _ _ _ _ _ us hl => match us, hl with | [_], _ => rfl)⟩
  | n + 1 => by
    rintro Cc f sp ⟨c, hc, rfl, rfl, rfl⟩
    have hb := brk_ok T (n := n) (by omega) (spkX T n)
    have hl : ∀ t f, PtT n t → (wrX n t f).length ≤ 1000000 := fun t f hC => hC.len f
    have e : 2 * (n + 1) + 1 = (2 * n + 1 + 1) + 1 := by omega
    rw [e]
    have chain : ∀ (j : Kd) (st : IsC K (ga K j.cls) ns_Chain) {fa_ : Addr}, Def K "spoken" "Chain.spoken" s_Chain_spoken fa_ → ∃ ps, Ok P w K mg base (2 * n + 1 + 1 + 1) fa_ ps (spv (PcX K (n + 1)) (PtT (n + 1)) clsX (spt_s (wrX (n + 1))) j.cls) := fun j st fa_ d => ⟨_, okr_Chain_spoken T (by omega) hb st d ln_spk fun vs H Q E h => pure_Chain_spoken (PcX.good n) hl (spk_in h)⟩
    simp only [List.mem_cons, List.not_mem_nil, or_false] at hc
    rcases hc with rfl | rfl | rfl | rfl | rfl | rfl
    · exact ⟨T.c_Number.cl, T.m_Number_spoken, _, okr_Number_spoken T (by omega) T.d_Number_spoken ln_spk fun vs H Q E h => pure_Number_spoken (spk_in h)⟩
    · exact ⟨T.c_Name.cl, T.m_Name_spoken, _, okr_Name_spoken T (by omega) T.d_Name_spoken ln_spk fun vs H Q E h => pure_Name_spoken (spk_in h)⟩
    · exact ⟨T.c_Gate.cl, T.m_Gate_spoken, _, okr_Gate_spoken T (by omega) hb T.d_Gate_spoken ln_spk fun vs H Q E h => pure_Gate_spoken hl (spk_in h)⟩
    · exact ⟨T.c_Sum.cl, T.m_Sum_spoken, chain .sum T.c_Sum T.d_Sum_spoken⟩
    · exact ⟨T.c_Least.cl, T.m_Least_spoken, chain .least T.c_Least T.d_Least_spoken⟩
    · exact ⟨T.c_Most.cl, T.m_Most_spoken, chain .most T.c_Most T.d_Most_spoken⟩
theorem shown_ok (T : Tx K mg) : Ok P w K mg base 30 (ga K "shown") ["recipe"] (sp_shown (PcX K 12) (PtT 12) (wrX 12)) :=
  (okr_shown T (by omega) (spkX T 12) ln_shown fun vs H Q E h => pure_shown (PcX.obj (by decide +kernel) 12) h).mono (by omega)
end
abbrev lwN : Str := "_law_words_here"
/-! ### the law's own reader: the promises -/
section
variable {P : Program} {w : World} {K : PySem.W.Frag} {mg : Str → Option Value} {base : Heap}
theorem lchain_nev (T : Tx K mg) {k : Nat} (hk : 1 ≤ k) : Ok P w K mg base k (ga K "_law_chain") [lwN, "_law_at", "_law_deep", "_law_rank"] spNev := (ok_nev (k := 0) T.d__law_chain sc__law_chain (fun _ _ _ _ _ _ us hl => match us, hl with | [_, _, _, _], _ => rfl)).mono hk
theorem lsingle_nev (T : Tx K mg) {k : Nat} (hk : 1 ≤ k) : Ok P w K mg base k (ga K "_law_single") [lwN, "_law_at", "_law_deep"] spNev := (ok_nev (k := 0) T.d__law_single sc__law_single (fun _ _ _ _ _ _ us hl => match us, hl with | [_, _, _], _ => rfl)).mono hk
theorem lchain_ok (T : Tx K mg) {n m k : Nat} (hk : 2 ≤ k) {p : PRd} (hp : Shr p) (F : Ok P w K mg base k (ga K "_law_single") [lwN, "_law_at", "_law_deep"] (sp_lr p n m [])) : Ok P w K mg base (k + 4) (ga K "_law_chain") [lwN, "_law_at", "_law_deep", "_law_rank"] (sp_lr (wholeF p) n (m + 3) [.int 1]) := by
  have N : ∀ j, 1 ≤ j → Ok P w K mg base j (ga K "_law_single") [lwN, "_law_at", "_law_deep"] spNev := fun j hj => lsingle_nev T hj
  have C4 : Ok P w K mg base (k + 1) (ga K "_law_chain") [lwN, "_law_at", "_law_deep", "_law_rank"] (sp_lr p n m [.int 4]) := okr__law_chain T hk F (lchain_nev T (by omega)) ln_lr fun vs H Q E h => pure__law_chain4 h
  have C3 : Ok P w K mg base (k + 2) (ga K "_law_chain") [lwN, "_law_at", "_law_deep", "_law_rank"] (sp_lr (lvF .sum p) n (m + 1) [.int 3]) := okr__law_chain T (by omega) (N _ (by omega)) C4 ln_lr fun vs H Q E h => pure__law_chain .sum hp h
  have C2 : Ok P w K mg base (k + 3) (ga K "_law_chain") [lwN, "_law_at", "_law_deep", "_law_rank"] (sp_lr (lvF .least (lvF .sum p)) n (m + 2) [.int 2]) := okr__law_chain T (by omega) (N _ (by omega)) C3 ln_lr fun vs H Q E h => pure__law_chain .least (lvF_shr hp _) h
  exact okr__law_chain T (by omega) (N _ (by omega)) C2 ln_lr fun vs H Q E h => pure__law_chain .most (lvF_shr (lvF_shr hp _) _) h
theorem lsingle_ok (T : Tx K mg) : ∀ n : Nat, Ok P w K mg base (3 + 5 * n) (ga K "_law_single") [lwN, "_law_at", "_law_deep"] (sp_lr (singleF n) n (4 * n + 1) [])
  | 0 => okr__law_single T (k := 2) (by omega) (lchain_nev T (by omega)) (lsingle_nev T (by omega)) (ok__law_number T) (ok__law_is_name T) ln_lr fun vs H Q E h => pure__law_single (n := 0) (fun n' e => by cases e) (fun n' e => by cases e) h
  | n + 1 => by
    have ih := lsingle_ok T n
    have := okr__law_single T (k := 3 + 5 * n + 4) (by omega) (lchain_ok T (by omega) (singleF_shr n) ih) (ih.mono (by omega)) (ok__law_number T) (ok__law_is_name T) ln_lr fun vs H Q E h => pure__law_single (n := n + 1) (fun n' e => by cases e; rfl) (fun n' e => by cases e; rfl) h
    exact this.mono (by omega)
theorem lread_ok (T : Tx K mg) : Ok P w K mg base 20 (ga K "_law_chain") [lwN, "_law_at", "_law_deep", "_law_rank"] sp_lch := (lchain_ok T (by omega) (singleF_shr 2) (lsingle_ok (P := P) (w := w) (base := base) T 2)).mono (by omega)
theorem writX_ok (T : Tx K mg) : ∀ n : Nat, Ok P w K mg base (n + 1) (ga K "_law_written") ["_law_tree_here", "_law_firm"] (sp_written (TrX n) (PtT n) (wrX n))
  | 0 => (written_nev T (by omega)).imp fun vs H Q E h => by
    obtain ⟨_, _, _, _, _, t, _⟩ := h
    exact t.elim
  | n + 1 => okr__law_written (k := n + 1) T (by omega) (writX_ok T n) ln_written fun vs H Q E h => writX_in h
theorem reK (T : Tx K mg) : ReK K where
  em := T.em_NoRecipe_NoRecipe
  xi := T.xi_NoRecipe
  k1 := T.ki_NoRecipe_NoName_false
  k2 := T.ki_NoRecipe_NoNumber_false
  k3 := T.ki_NoRecipe_Full_false
  k4 := T.ki_NoRecipe_NoPoint_false
  k5 := T.ki_NoRecipe_NoRow_false
  k6 := T.ki_NoRecipe_HallError_true
  k7 := T.kv_NoRecipe_ValueError_true
end
theorem law_ok {P : Program} {w : World} {K : PySem.W.Frag} {mg : Str → Option Value} {base : Heap} (T : Tx K mg) : Ok P w K mg base 90 (ga K "law") ["_law_script"] (sp_law K) := by
  have Ft : Ok P w K mg base 50 (ga K "_law_tree") ["_law_dice_here", "_law_names_here", "_law_deep"] sp_treeF4 := Ok.ex (ι := Fin 4) ⟨0, by decide⟩ fun i => (tree_ok (P := P) (w := w) (base := base) T i.1).mono (by omega)
  have Fw : Ok P w K mg base 50 (ga K "_law_written") ["_law_tree_here", "_law_firm"] sp_wrX12 := (writX_ok T 12).mono (by omega)
  have Fr : Ok P w K mg base 60 (ga K "read") ["text"] (sp_readX K) := (read_okX T).mono (by omega)
  have Fs : Ok P w K mg base 60 (ga K "shown") ["recipe"] (sp_shownX K) := (shown_ok T).mono (by omega)
  have Fc : Ok P w K mg base 60 (ga K "_law_chain") [lwN, "_law_at", "_law_deep", "_law_rank"] sp_lch := (lread_ok T).mono (by omega)
  have Ff := okr__law_refused (P := P) (w := w) (base := base) T (k := 45) (by omega) ((read_okX T).mono (by omega)) ln_refusedT fun vs H Q E h => pure__law_refusedT (reK T) h
  have Fo := ok__law_odd (P := P) (w := w) (base := base) T (ok__law_roll T)
  have Fd := okr__law_drawn T (k := 50) (by omega) (ok__law_roll T) Ft Fw (ok__law_words T) (ok__law_changed T (ok__law_roll T) Fo) ln__law_drawn fun vs H Q E h => pure__law_drawn h
  exact (okr_law T (by omega) (ok__law_cell_at T) (ok__law_names T) (ok__law_dice T) (Fd.mono (by omega)) Fc (Ff.mono (by omega)) Fr Fs (Fw.mono (by omega)) ln_law fun vs H Q E h => pure_law h).mono (by omega)
open He (ga ma)
def fn : List He.DefD := [⟨("law", none), "law", "law", defArgs (top 52), defBody (top 52), defScope (top 52), [], []⟩, ⟨("is_name", none), "is_name", "is_name", defArgs (top 13), defBody (top 13), defScope (top 13), [], []⟩, ⟨("end_of", none), "end_of", "end_of", defArgs (top 31), defBody (top 31), defScope (top 31), [], []⟩, ⟨("words_of", none), "words_of", "words_of", defArgs (top 32), defBody (top 32), defScope (top 32), [], []⟩, ⟨("number_of", none), "number_of", "number_of", defArgs (top 33), defBody (top 33), defScope (top 33), [], []⟩, ⟨("Piece", some "__init__"), "__init__", "Piece.__init__", defArgs (inClass (top 14) 0), defBody (inClass (top 14) 0), defScope (inClass (top 14) 0), [], []⟩, ⟨("Chain", some "__init__"), "__init__", "Chain.__init__", defArgs (inClass (top 17) 0), defBody (inClass (top 17) 0), defScope (inClass (top 17) 0), [], []⟩, ⟨("Number", some "__init__"), "__init__", "Number.__init__", defArgs (inClass (top 15) 0), defBody (inClass (top 15) 0), defScope (inClass (top 15) 0), [], []⟩, ⟨("Name", some "__init__"), "__init__", "Name.__init__", defArgs (inClass (top 16) 0), defBody (inClass (top 16) 0), defScope (inClass (top 16) 0), [], []⟩, ⟨("Gate", some "__init__"), "__init__", "Gate.__init__", defArgs (inClass (top 21) 0), defBody (inClass (top 21) 0), defScope (inClass (top 21) 0), [], []⟩, ⟨("Sum", some "__init__"), "__init__", "Sum.__init__", defArgs (inClass (top 18) 0), defBody (inClass (top 18) 0), defScope (inClass (top 18) 0), [], []⟩, ⟨("Least", some "__init__"), "__init__", "Least.__init__", defArgs (inClass (top 19) 0), defBody (inClass (top 19) 0), defScope (inClass (top 19) 0), [], []⟩, ⟨("Most", some "__init__"), "__init__", "Most.__init__", defArgs (inClass (top 20) 0), defBody (inClass (top 20) 0), defScope (inClass (top 20) 0), [], []⟩, ⟨("Reader", some "__init__"), "__init__", "Reader.__init__", defArgs (inClass (top 34) 0), defBody (inClass (top 34) 0), defScope (inClass (top 34) 0), [], []⟩, ⟨("Reader", some "here"), "here", "Reader.here", defArgs (inClass (top 34) 1), defBody (inClass (top 34) 1), defScope (inClass (top 34) 1), [], []⟩, ⟨("Reader", some "step"), "step", "Reader.step", defArgs (inClass (top 34) 2), defBody (inClass (top 34) 2), defScope (inClass (top 34) 2), [], []⟩, ⟨("Reader", some "must"), "must", "Reader.must", defArgs (inClass (top 34) 3), defBody (inClass (top 34) 3), defScope (inClass (top 34) 3), [], []⟩, ⟨("Reader", some "deeper"), "deeper", "Reader.deeper", defArgs (inClass (top 34) 9), defBody (inClass (top 34) 9), defScope (inClass (top 34) 9), [], []⟩, ⟨("Reader", some "inner_of"), "inner_of", "Reader.inner_of", defArgs (inClass (top 34) 5), defBody (inClass (top 34) 5), defScope (inClass (top 34) 5), [], []⟩, ⟨("Reader", some "chained"), "chained", "Reader.chained", defArgs (inClass (top 34) 4), defBody (inClass (top 34) 4), defScope (inClass (top 34) 4), [], []⟩, ⟨("Reader", some "whole"), "whole", "Reader.whole", defArgs (inClass (top 34) 6), defBody (inClass (top 34) 6), defScope (inClass (top 34) 6), [], []⟩, ⟨("Reader", some "lesser"), "lesser", "Reader.lesser", defArgs (inClass (top 34) 7), defBody (inClass (top 34) 7), defScope (inClass (top 34) 7), [], []⟩, ⟨("Reader", some "summed"), "summed", "Reader.summed", defArgs (inClass (top 34) 8), defBody (inClass (top 34) 8), defScope (inClass (top 34) 8), [], []⟩, ⟨("Reader", some "single"), "single", "Reader.single", defArgs (inClass (top 34) 10), defBody (inClass (top 34) 10), defScope (inClass (top 34) 10), [], []⟩, ⟨("Reader", some "gated"), "gated", "Reader.gated", defArgs (inClass (top 34) 11), defBody (inClass (top 34) 11), defScope (inClass (top 34) 11), [], []⟩, ⟨("read", none), "read", "read", defArgs (top 35), defBody (top 35), defScope (top 35), [], []⟩, ⟨("bracketed", none), "bracketed", "bracketed", defArgs (top 22), defBody (top 22), defScope (top 22), [], []⟩, ⟨("shown", none), "shown", "shown", defArgs (top 23), defBody (top 23), defScope (top 23), [], []⟩, ⟨("_law_cell_at", none), "_law_cell_at", "_law_cell_at", defArgs (top 37), defBody (top 37), defScope (top 37), [], []⟩, ⟨("_law_dice", none), "_law_dice", "_law_dice", defArgs (top 38), defBody (top 38), defScope (top 38), [], []⟩, ⟨("_law_roll", none), "_law_roll", "_law_roll", defArgs (top 39), defBody (top 39), defScope (top 39), [], []⟩, ⟨("_law_names", none), "_law_names", "_law_names", defArgs (top 40), defBody (top 40), defScope (top 40), [], []⟩, ⟨("_law_tree", none), "_law_tree", "_law_tree", defArgs (top 41), defBody (top 41), defScope (top 41), [], []⟩, ⟨("_law_written", none), "_law_written", "_law_written", defArgs (top 42), defBody (top 42), defScope (top 42), [], []⟩, ⟨("_law_is_name", none), "_law_is_name", "_law_is_name", defArgs (top 47), defBody (top 47), defScope (top 47), [], []⟩, ⟨("_law_number", none), "_law_number", "_law_number", defArgs (top 48), defBody (top 48), defScope (top 48), [], []⟩, ⟨("_law_single", none), "_law_single", "_law_single", defArgs (top 49), defBody (top 49), defScope (top 49), [], []⟩, ⟨("_law_chain", none), "_law_chain", "_law_chain", defArgs (top 50), defBody (top 50), defScope (top 50), [], []⟩, ⟨("_law_refused", none), "_law_refused", "_law_refused", defArgs (top 51), defBody (top 51), defScope (top 51), [], []⟩, ⟨("_law_words", none), "_law_words", "_law_words", defArgs (top 43), defBody (top 43), defScope (top 43), [], []⟩, ⟨("_law_odd", none), "_law_odd", "_law_odd", defArgs (top 44), defBody (top 44), defScope (top 44), [], []⟩, ⟨("_law_changed", none), "_law_changed", "_law_changed", defArgs (top 45), defBody (top 45), defScope (top 45), [], []⟩, ⟨("_law_drawn", none), "_law_drawn", "_law_drawn", defArgs (top 46), defBody (top 46), defScope (top 46), [], []⟩, ⟨("Gate", some "spoken"), "spoken", "Gate.spoken", defArgs (inClass (top 21) 2), defBody (inClass (top 21) 2), defScope (inClass (top 21) 2), [], []⟩, ⟨("Least", some "spoken"), "spoken", "Chain.spoken", defArgs (inClass (top 17) 1), defBody (inClass (top 17) 1), defScope (inClass (top 17) 1), [], []⟩, ⟨("Most", some "spoken"), "spoken", "Chain.spoken", defArgs (inClass (top 17) 1), defBody (inClass (top 17) 1), defScope (inClass (top 17) 1), [], []⟩, ⟨("Name", some "spoken"), "spoken", "Name.spoken", defArgs (inClass (top 16) 2), defBody (inClass (top 16) 2), defScope (inClass (top 16) 2), [], []⟩, ⟨("Number", some "spoken"), "spoken", "Number.spoken", defArgs (inClass (top 15) 2), defBody (inClass (top 15) 2), defScope (inClass (top 15) 2), [], []⟩, ⟨("Sum", some "spoken"), "spoken", "Chain.spoken", defArgs (inClass (top 17) 1), defBody (inClass (top 17) 1), defScope (inClass (top 17) 1), [], []⟩]
def fa : List He.Fa := [.glo "law", .free "len", .int "LONGEST" 6, .str "LETTERS" "abcdefghijklmnopqrstuvwxyz", .int "MOST_SIGNS" 400, .exc "NoRecipe", .glo "NoRecipe", .glo "end_of", .str "FIGURES" "0123456789", .str "SIGNS" "+&|()[]", .int "MOST_WORDS" 40, .free "int", .int "MOST" 30, .glo "Piece", .noat "Number" "number", .noat "Number" "rank", .cls "Number", .noat "Name" "name", .noat "Name" "rank", .cls "Name", .noat "Gate" "inner", .noat "Gate" "bound", .noat "Gate" "name", .noat "Gate" "rank", .cls "Gate", .glo "Chain", .noat "Reader" "deep", .noat "Reader" "at", .noat "Reader" "words", .cls "Reader", .meth "Reader" "here", .meth "Reader" "step", .int "DEEPEST" 2, .meth "Reader" "lesser", .meth "Reader" "summed", .meth "Reader" "single", .meth "Reader" "inner_of", .int "MOST_PIECES" 8, .meth "Reader" "chained", .mkr "Most", .glo "Most", .mkr "Least", .glo "Least", .mkr "Sum", .glo "Sum", .meth "Reader" "deeper", .meth "Reader" "whole", .meth "Reader" "must", .meth "Reader" "gated", .glo "is_name", .mkr "Name", .glo "Name", .mkr "Number", .glo "Number", .glo "number_of", .mkr "Gate", .glo "Gate", .mkr "Reader", .glo "Reader", .glo "words_of", .free "str", .glo "bracketed", .cls "Sum", .noat "Sum" "rank", .cls "Least", .noat "Least" "rank", .cls "Most", .noat "Most" "rank", .free "range", .glo "_law_roll", .glo "_law_tree", .glo "_law_written", .glo "_law_chain", .glo "_law_single", .glo "_law_number", .glo "_law_is_name", .glo "read", .free "isinstance", .glo "NoName", .glo "NoNumber", .glo "Full", .glo "NoPoint", .glo "NoRow", .glo "HallError", .free "ValueError", .glo "_law_odd", .glo "_law_changed", .glo "_law_words", .glo "_law_names", .glo "_law_cell_at", .glo "_law_drawn", .glo "_law_dice", .free "max", .glo "_law_refused", .glo "shown", .noat "Least" "pieces", .noat "Least" "sign", .noat "Most" "pieces", .noat "Most" "sign", .noat "Sum" "pieces", .noat "Sum" "sign", .exm "NoRecipe" "NoRecipe" true, .meth "Gate" "spoken", .meth "Least" "spoken", .meth "Most" "spoken", .meth "Name" "spoken", .meth "Number" "spoken", .meth "Sum" "spoken"]
abbrev rowO : PySem.W.OpenRow := PySem.W.OpenLaw.row PySem.Challenge.rw_anewhall_k04_read_or_refused
abbrev tf : List He.Defn := []
def exs : List (PySem.W.Frag → Bool) := [fun K => crB K (ga K "Piece"), fun K => cvB K (ga K "Piece") (ma K (ga K "Piece") "__init__") "__init__", fun K => crB K (ga K "Chain"), fun K => cvB K (ga K "Chain") (ma K (ga K "Chain") "__init__") "__init__", fun K => decide (PySem.W.kitOne K (.ref (ga K "NoRecipe")) (.ref (ga K "Full")) = some false), fun K => decide (PySem.W.kitOne K (.ref (ga K "NoRecipe")) (.ref (ga K "HallError")) = some true), fun K => decide (PySem.W.kitOne K (.ref (ga K "NoRecipe")) (.ref (ga K "NoName")) = some false), fun K => decide (PySem.W.kitOne K (.ref (ga K "NoRecipe")) (.ref (ga K "NoNumber")) = some false), fun K => decide (PySem.W.kitOne K (.ref (ga K "NoRecipe")) (.ref (ga K "NoPoint")) = some false), fun K => decide (PySem.W.kitOne K (.ref (ga K "NoRecipe")) (.ref (ga K "NoRow")) = some false), fun K => decide (PySem.W.kitOne K (.ref (ga K "NoRecipe")) (.type "ValueError") = some true), fun K => xiB K (ga K "NoRecipe")]
def exB (K : PySem.W.Frag) : Bool := exs.all fun b => b K
theorem ex_at {w : World} {h : Heap} {K : PySem.W.Frag} (c : He.SaysX fa fn [] tf exB w h K) (i : Nat) {b : PySem.W.Frag → Bool} (e : exs[i]? = some b := by rfl) : b K = true := List.all_eq_true.mp c.more b (List.mem_of_getElem? e)
abbrev hk : PySem.W.Hook := hookC 5 fa fn tf exB
def obT (s : PySem.W.SharedT) : He.AlX := seenC 5 fa fn tf exB (HandSHeadRun.getT s)
theorem obT_eq (s : PySem.W.SharedT) : obT s = hk.obs s.abs := seenC_eq (HandSHeadRun.getT_eq s)
theorem head_run (w : World) : HandSHeadRun.RunEq rowO (PySem.W.view rowO.prog [52]) hk obT 20000 [("_wall" : PySem.Str), ("HallError" : PySem.Str), ("NoName" : PySem.Str), ("NoNumber" : PySem.Str), ("NoRecipe" : PySem.Str), ("Full" : PySem.Str), ("NoPoint" : PySem.Str), ("NoRow" : PySem.Str), ("MOST" : PySem.Str), ("LETTERS" : PySem.Str), ("LONGEST" : PySem.Str), ("is_name" : PySem.Str), ("Piece" : PySem.Str), ("Number" : PySem.Str), ("Name" : PySem.Str), ("Chain" : PySem.Str), ("Sum" : PySem.Str), ("Least" : PySem.Str), ("Most" : PySem.Str), ("Gate" : PySem.Str), ("bracketed" : PySem.Str), ("shown" : PySem.Str), ("FIGURES" : PySem.Str), ("SIGNS" : PySem.Str), ("MOST_SIGNS" : PySem.Str), ("MOST_WORDS" : PySem.Str), ("MOST_PIECES" : PySem.Str), ("DEEPEST" : PySem.Str), ("end_of" : PySem.Str), ("words_of" : PySem.Str), ("number_of" : PySem.Str), ("Reader" : PySem.Str), ("read" : PySem.Str), ("_law_cell_at" : PySem.Str), ("_law_dice" : PySem.Str), ("_law_roll" : PySem.Str), ("_law_names" : PySem.Str), ("_law_tree" : PySem.Str), ("_law_written" : PySem.Str), ("_law_words" : PySem.Str), ("_law_odd" : PySem.Str), ("_law_changed" : PySem.Str), ("_law_drawn" : PySem.Str), ("_law_is_name" : PySem.Str), ("_law_number" : PySem.Str), ("_law_single" : PySem.Str), ("_law_chain" : PySem.Str), ("_law_refused" : PySem.Str)] w := by
  intro os
  kernel_rfl
theorem tx {K : PySem.W.Frag} {h : Heap} {mg : Str → Option Value} (X : K.In h) (G : h.Ns mainGlobals mg) {w : World} (c : He.SaysX fa fn [] tf exB w h K) : Tx K mg where
  d_law := c.t.d.def_ 0 (d := He.DefD.mk ("law", none) "law" "law" (defArgs (top 52)) (defBody (top 52)) (defScope (top 52)) [] []) rfl
  g_law := He.glo_ok X G (c.t.d.fact 0 (f := .glo "law") rfl)
  d_is_name := c.t.d.def_ 1 (d := He.DefD.mk ("is_name", none) "is_name" "is_name" (defArgs (top 13)) (defBody (top 13)) (defScope (top 13)) [] []) rfl
  f_len := He.free_ok X G (c.t.d.fact 1 (f := .free "len") rfl)
  k_LONGEST := He.int_ok X G (c.t.d.fact 2 (f := .int "LONGEST" 6) rfl)
  k_LETTERS := He.str_ok X G (c.t.d.fact 3 (f := .str "LETTERS" "abcdefghijklmnopqrstuvwxyz") rfl)
  d_end_of := c.t.d.def_ 2 (d := He.DefD.mk ("end_of", none) "end_of" "end_of" (defArgs (top 31)) (defBody (top 31)) (defScope (top 31)) [] []) rfl
  d_words_of := c.t.d.def_ 3 (d := He.DefD.mk ("words_of", none) "words_of" "words_of" (defArgs (top 32)) (defBody (top 32)) (defScope (top 32)) [] []) rfl
  k_MOST_SIGNS := He.int_ok X G (c.t.d.fact 4 (f := .int "MOST_SIGNS" 400) rfl)
  x_NoRecipe := exC_ok (c.t.d.fact 5 (f := .exc "NoRecipe") rfl)
  g_NoRecipe := He.glo_ok X G (c.t.d.fact 6 (f := .glo "NoRecipe") rfl)
  g_end_of := He.glo_ok X G (c.t.d.fact 7 (f := .glo "end_of") rfl)
  k_FIGURES := He.str_ok X G (c.t.d.fact 8 (f := .str "FIGURES" "0123456789") rfl)
  k_SIGNS := He.str_ok X G (c.t.d.fact 9 (f := .str "SIGNS" "+&|()[]") rfl)
  k_MOST_WORDS := He.int_ok X G (c.t.d.fact 10 (f := .int "MOST_WORDS" 40) rfl)
  d_number_of := c.t.d.def_ 4 (d := He.DefD.mk ("number_of", none) "number_of" "number_of" (defArgs (top 33)) (defBody (top 33)) (defScope (top 33)) [] []) rfl
  f_int := He.free_ok X G (c.t.d.fact 11 (f := .free "int") rfl)
  k_MOST := He.int_ok X G (c.t.d.fact 12 (f := .int "MOST" 30) rfl)
  d_Piece___init__ := c.t.d.def_ 5 (d := He.DefD.mk ("Piece", some "__init__") "__init__" "Piece.__init__" (defArgs (inClass (top 14) 0)) (defBody (inClass (top 14) 0)) (defScope (inClass (top 14) 0)) [] []) rfl
  d_Chain___init__ := c.t.d.def_ 6 (d := He.DefD.mk ("Chain", some "__init__") "__init__" "Chain.__init__" (defArgs (inClass (top 17) 0)) (defBody (inClass (top 17) 0)) (defScope (inClass (top 17) 0)) [] []) rfl
  cr_Piece := crB_ok (ex_at c 0)
  cv_Piece___init__ := cvB_ok (ex_at c 1)
  g_Piece := He.glo_ok X G (c.t.d.fact 13 (f := .glo "Piece") rfl)
  d_Number___init__ := c.t.d.def_ 7 (d := He.DefD.mk ("Number", some "__init__") "__init__" "Number.__init__" (defArgs (inClass (top 15) 0)) (defBody (inClass (top 15) 0)) (defScope (inClass (top 15) 0)) [] []) rfl
  c_Number := ⟨He.cls_ok (c.t.d.fact 16 (f := .cls "Number") rfl), noats_cons (He.noat_ok (c.t.d.fact 15 (f := .noat "Number" "rank") rfl)) (noats_cons (He.noat_ok (c.t.d.fact 14 (f := .noat "Number" "number") rfl)) (noats_nil))⟩
  d_Name___init__ := c.t.d.def_ 8 (d := He.DefD.mk ("Name", some "__init__") "__init__" "Name.__init__" (defArgs (inClass (top 16) 0)) (defBody (inClass (top 16) 0)) (defScope (inClass (top 16) 0)) [] []) rfl
  c_Name := ⟨He.cls_ok (c.t.d.fact 19 (f := .cls "Name") rfl), noats_cons (He.noat_ok (c.t.d.fact 18 (f := .noat "Name" "rank") rfl)) (noats_cons (He.noat_ok (c.t.d.fact 17 (f := .noat "Name" "name") rfl)) (noats_nil))⟩
  d_Gate___init__ := c.t.d.def_ 9 (d := He.DefD.mk ("Gate", some "__init__") "__init__" "Gate.__init__" (defArgs (inClass (top 21) 0)) (defBody (inClass (top 21) 0)) (defScope (inClass (top 21) 0)) [] []) rfl
  c_Gate := ⟨He.cls_ok (c.t.d.fact 24 (f := .cls "Gate") rfl), noats_cons (He.noat_ok (c.t.d.fact 23 (f := .noat "Gate" "rank") rfl)) (noats_cons (He.noat_ok (c.t.d.fact 22 (f := .noat "Gate" "name") rfl)) (noats_cons (He.noat_ok (c.t.d.fact 21 (f := .noat "Gate" "bound") rfl)) (noats_cons (He.noat_ok (c.t.d.fact 20 (f := .noat "Gate" "inner") rfl)) (noats_nil))))⟩
  d_Sum___init__ := c.t.d.def_ 10 (d := He.DefD.mk ("Sum", some "__init__") "__init__" "Sum.__init__" (defArgs (inClass (top 18) 0)) (defBody (inClass (top 18) 0)) (defScope (inClass (top 18) 0)) [] []) rfl
  cr_Chain := crB_ok (ex_at c 2)
  cv_Chain___init__ := cvB_ok (ex_at c 3)
  g_Chain := He.glo_ok X G (c.t.d.fact 25 (f := .glo "Chain") rfl)
  d_Least___init__ := c.t.d.def_ 11 (d := He.DefD.mk ("Least", some "__init__") "__init__" "Least.__init__" (defArgs (inClass (top 19) 0)) (defBody (inClass (top 19) 0)) (defScope (inClass (top 19) 0)) [] []) rfl
  d_Most___init__ := c.t.d.def_ 12 (d := He.DefD.mk ("Most", some "__init__") "__init__" "Most.__init__" (defArgs (inClass (top 20) 0)) (defBody (inClass (top 20) 0)) (defScope (inClass (top 20) 0)) [] []) rfl
  d_Reader___init__ := c.t.d.def_ 13 (d := He.DefD.mk ("Reader", some "__init__") "__init__" "Reader.__init__" (defArgs (inClass (top 34) 0)) (defBody (inClass (top 34) 0)) (defScope (inClass (top 34) 0)) [] []) rfl
  c_Reader := ⟨He.cls_ok (c.t.d.fact 29 (f := .cls "Reader") rfl), noats_cons (He.noat_ok (c.t.d.fact 28 (f := .noat "Reader" "words") rfl)) (noats_cons (He.noat_ok (c.t.d.fact 27 (f := .noat "Reader" "at") rfl)) (noats_cons (He.noat_ok (c.t.d.fact 26 (f := .noat "Reader" "deep") rfl)) (noats_nil)))⟩
  d_Reader_here := c.t.d.def_ 14 (d := He.DefD.mk ("Reader", some "here") "here" "Reader.here" (defArgs (inClass (top 34) 1)) (defBody (inClass (top 34) 1)) (defScope (inClass (top 34) 1)) [] []) rfl
  d_Reader_step := c.t.d.def_ 15 (d := He.DefD.mk ("Reader", some "step") "step" "Reader.step" (defArgs (inClass (top 34) 2)) (defBody (inClass (top 34) 2)) (defScope (inClass (top 34) 2)) [] []) rfl
  m_Reader_here := He.meth_ok (c.t.d.fact 30 (f := .meth "Reader" "here") rfl)
  d_Reader_must := c.t.d.def_ 16 (d := He.DefD.mk ("Reader", some "must") "must" "Reader.must" (defArgs (inClass (top 34) 3)) (defBody (inClass (top 34) 3)) (defScope (inClass (top 34) 3)) [] []) rfl
  m_Reader_step := He.meth_ok (c.t.d.fact 31 (f := .meth "Reader" "step") rfl)
  d_Reader_deeper := c.t.d.def_ 17 (d := He.DefD.mk ("Reader", some "deeper") "deeper" "Reader.deeper" (defArgs (inClass (top 34) 9)) (defBody (inClass (top 34) 9)) (defScope (inClass (top 34) 9)) [] []) rfl
  k_DEEPEST := He.int_ok X G (c.t.d.fact 32 (f := .int "DEEPEST" 2) rfl)
  d_Reader_inner_of := c.t.d.def_ 18 (d := He.DefD.mk ("Reader", some "inner_of") "inner_of" "Reader.inner_of" (defArgs (inClass (top 34) 5)) (defBody (inClass (top 34) 5)) (defScope (inClass (top 34) 5)) [] []) rfl
  m_Reader_lesser := He.meth_ok (c.t.d.fact 33 (f := .meth "Reader" "lesser") rfl)
  m_Reader_summed := He.meth_ok (c.t.d.fact 34 (f := .meth "Reader" "summed") rfl)
  m_Reader_single := He.meth_ok (c.t.d.fact 35 (f := .meth "Reader" "single") rfl)
  d_Reader_chained := c.t.d.def_ 19 (d := He.DefD.mk ("Reader", some "chained") "chained" "Reader.chained" (defArgs (inClass (top 34) 4)) (defBody (inClass (top 34) 4)) (defScope (inClass (top 34) 4)) [] []) rfl
  m_Reader_inner_of := He.meth_ok (c.t.d.fact 36 (f := .meth "Reader" "inner_of") rfl)
  k_MOST_PIECES := He.int_ok X G (c.t.d.fact 37 (f := .int "MOST_PIECES" 8) rfl)
  d_Reader_whole := c.t.d.def_ 20 (d := He.DefD.mk ("Reader", some "whole") "whole" "Reader.whole" (defArgs (inClass (top 34) 6)) (defBody (inClass (top 34) 6)) (defScope (inClass (top 34) 6)) [] []) rfl
  m_Reader_chained := He.meth_ok (c.t.d.fact 38 (f := .meth "Reader" "chained") rfl)
  mk_Most := He.mkr_ok (c.t.d.fact 39 (f := .mkr "Most") rfl)
  g_Most := He.glo_ok X G (c.t.d.fact 40 (f := .glo "Most") rfl)
  d_Reader_lesser := c.t.d.def_ 21 (d := He.DefD.mk ("Reader", some "lesser") "lesser" "Reader.lesser" (defArgs (inClass (top 34) 7)) (defBody (inClass (top 34) 7)) (defScope (inClass (top 34) 7)) [] []) rfl
  mk_Least := He.mkr_ok (c.t.d.fact 41 (f := .mkr "Least") rfl)
  g_Least := He.glo_ok X G (c.t.d.fact 42 (f := .glo "Least") rfl)
  d_Reader_summed := c.t.d.def_ 22 (d := He.DefD.mk ("Reader", some "summed") "summed" "Reader.summed" (defArgs (inClass (top 34) 8)) (defBody (inClass (top 34) 8)) (defScope (inClass (top 34) 8)) [] []) rfl
  mk_Sum := He.mkr_ok (c.t.d.fact 43 (f := .mkr "Sum") rfl)
  g_Sum := He.glo_ok X G (c.t.d.fact 44 (f := .glo "Sum") rfl)
  d_Reader_single := c.t.d.def_ 23 (d := He.DefD.mk ("Reader", some "single") "single" "Reader.single" (defArgs (inClass (top 34) 10)) (defBody (inClass (top 34) 10)) (defScope (inClass (top 34) 10)) [] []) rfl
  m_Reader_deeper := He.meth_ok (c.t.d.fact 45 (f := .meth "Reader" "deeper") rfl)
  m_Reader_whole := He.meth_ok (c.t.d.fact 46 (f := .meth "Reader" "whole") rfl)
  m_Reader_must := He.meth_ok (c.t.d.fact 47 (f := .meth "Reader" "must") rfl)
  m_Reader_gated := He.meth_ok (c.t.d.fact 48 (f := .meth "Reader" "gated") rfl)
  g_is_name := He.glo_ok X G (c.t.d.fact 49 (f := .glo "is_name") rfl)
  mk_Name := He.mkr_ok (c.t.d.fact 50 (f := .mkr "Name") rfl)
  g_Name := He.glo_ok X G (c.t.d.fact 51 (f := .glo "Name") rfl)
  mk_Number := He.mkr_ok (c.t.d.fact 52 (f := .mkr "Number") rfl)
  g_Number := He.glo_ok X G (c.t.d.fact 53 (f := .glo "Number") rfl)
  g_number_of := He.glo_ok X G (c.t.d.fact 54 (f := .glo "number_of") rfl)
  d_Reader_gated := c.t.d.def_ 24 (d := He.DefD.mk ("Reader", some "gated") "gated" "Reader.gated" (defArgs (inClass (top 34) 11)) (defBody (inClass (top 34) 11)) (defScope (inClass (top 34) 11)) [] []) rfl
  mk_Gate := He.mkr_ok (c.t.d.fact 55 (f := .mkr "Gate") rfl)
  g_Gate := He.glo_ok X G (c.t.d.fact 56 (f := .glo "Gate") rfl)
  d_read := c.t.d.def_ 25 (d := He.DefD.mk ("read", none) "read" "read" (defArgs (top 35)) (defBody (top 35)) (defScope (top 35)) [] []) rfl
  mk_Reader := He.mkr_ok (c.t.d.fact 57 (f := .mkr "Reader") rfl)
  g_Reader := He.glo_ok X G (c.t.d.fact 58 (f := .glo "Reader") rfl)
  g_words_of := He.glo_ok X G (c.t.d.fact 59 (f := .glo "words_of") rfl)
  f_str := He.free_ok X G (c.t.d.fact 60 (f := .free "str") rfl)
  g_bracketed := He.glo_ok X G (c.t.d.fact 61 (f := .glo "bracketed") rfl)
  d_bracketed := c.t.d.def_ 26 (d := He.DefD.mk ("bracketed", none) "bracketed" "bracketed" (defArgs (top 22)) (defBody (top 22)) (defScope (top 22)) [] []) rfl
  fv_rank := six_all ⟨He.cls_ok (c.t.d.fact 16 (f := .cls "Number") rfl), He.noat_ok (c.t.d.fact 15 (f := .noat "Number" "rank") rfl)⟩ ⟨He.cls_ok (c.t.d.fact 19 (f := .cls "Name") rfl), He.noat_ok (c.t.d.fact 18 (f := .noat "Name" "rank") rfl)⟩ ⟨He.cls_ok (c.t.d.fact 24 (f := .cls "Gate") rfl), He.noat_ok (c.t.d.fact 23 (f := .noat "Gate" "rank") rfl)⟩ ⟨He.cls_ok (c.t.d.fact 62 (f := .cls "Sum") rfl), He.noat_ok (c.t.d.fact 63 (f := .noat "Sum" "rank") rfl)⟩ ⟨He.cls_ok (c.t.d.fact 64 (f := .cls "Least") rfl), He.noat_ok (c.t.d.fact 65 (f := .noat "Least" "rank") rfl)⟩ ⟨He.cls_ok (c.t.d.fact 66 (f := .cls "Most") rfl), He.noat_ok (c.t.d.fact 67 (f := .noat "Most" "rank") rfl)⟩
  d_shown := c.t.d.def_ 27 (d := He.DefD.mk ("shown", none) "shown" "shown" (defArgs (top 23)) (defBody (top 23)) (defScope (top 23)) [] []) rfl
  d__law_cell_at := c.t.d.def_ 28 (d := He.DefD.mk ("_law_cell_at", none) "_law_cell_at" "_law_cell_at" (defArgs (top 37)) (defBody (top 37)) (defScope (top 37)) [] []) rfl
  d__law_dice := c.t.d.def_ 29 (d := He.DefD.mk ("_law_dice", none) "_law_dice" "_law_dice" (defArgs (top 38)) (defBody (top 38)) (defScope (top 38)) [] []) rfl
  d__law_roll := c.t.d.def_ 30 (d := He.DefD.mk ("_law_roll", none) "_law_roll" "_law_roll" (defArgs (top 39)) (defBody (top 39)) (defScope (top 39)) [] []) rfl
  d__law_names := c.t.d.def_ 31 (d := He.DefD.mk ("_law_names", none) "_law_names" "_law_names" (defArgs (top 40)) (defBody (top 40)) (defScope (top 40)) [] []) rfl
  f_range := He.free_ok X G (c.t.d.fact 68 (f := .free "range") rfl)
  d__law_tree := c.t.d.def_ 32 (d := He.DefD.mk ("_law_tree", none) "_law_tree" "_law_tree" (defArgs (top 41)) (defBody (top 41)) (defScope (top 41)) [] []) rfl
  g__law_roll := He.glo_ok X G (c.t.d.fact 69 (f := .glo "_law_roll") rfl)
  g__law_tree := He.glo_ok X G (c.t.d.fact 70 (f := .glo "_law_tree") rfl)
  d__law_written := c.t.d.def_ 33 (d := He.DefD.mk ("_law_written", none) "_law_written" "_law_written" (defArgs (top 42)) (defBody (top 42)) (defScope (top 42)) [] []) rfl
  g__law_written := He.glo_ok X G (c.t.d.fact 71 (f := .glo "_law_written") rfl)
  d__law_is_name := c.t.d.def_ 34 (d := He.DefD.mk ("_law_is_name", none) "_law_is_name" "_law_is_name" (defArgs (top 47)) (defBody (top 47)) (defScope (top 47)) [] []) rfl
  d__law_number := c.t.d.def_ 35 (d := He.DefD.mk ("_law_number", none) "_law_number" "_law_number" (defArgs (top 48)) (defBody (top 48)) (defScope (top 48)) [] []) rfl
  d__law_single := c.t.d.def_ 36 (d := He.DefD.mk ("_law_single", none) "_law_single" "_law_single" (defArgs (top 49)) (defBody (top 49)) (defScope (top 49)) [] []) rfl
  g__law_chain := He.glo_ok X G (c.t.d.fact 72 (f := .glo "_law_chain") rfl)
  g__law_single := He.glo_ok X G (c.t.d.fact 73 (f := .glo "_law_single") rfl)
  g__law_number := He.glo_ok X G (c.t.d.fact 74 (f := .glo "_law_number") rfl)
  g__law_is_name := He.glo_ok X G (c.t.d.fact 75 (f := .glo "_law_is_name") rfl)
  d__law_chain := c.t.d.def_ 37 (d := He.DefD.mk ("_law_chain", none) "_law_chain" "_law_chain" (defArgs (top 50)) (defBody (top 50)) (defScope (top 50)) [] []) rfl
  d__law_refused := c.t.d.def_ 38 (d := He.DefD.mk ("_law_refused", none) "_law_refused" "_law_refused" (defArgs (top 51)) (defBody (top 51)) (defScope (top 51)) [] []) rfl
  g_read := He.glo_ok X G (c.t.d.fact 76 (f := .glo "read") rfl)
  f_isinstance := He.free_ok X G (c.t.d.fact 77 (f := .free "isinstance") rfl)
  g_NoName := He.glo_ok X G (c.t.d.fact 78 (f := .glo "NoName") rfl)
  g_NoNumber := He.glo_ok X G (c.t.d.fact 79 (f := .glo "NoNumber") rfl)
  g_Full := He.glo_ok X G (c.t.d.fact 80 (f := .glo "Full") rfl)
  g_NoPoint := He.glo_ok X G (c.t.d.fact 81 (f := .glo "NoPoint") rfl)
  g_NoRow := He.glo_ok X G (c.t.d.fact 82 (f := .glo "NoRow") rfl)
  g_HallError := He.glo_ok X G (c.t.d.fact 83 (f := .glo "HallError") rfl)
  f_ValueError := He.free_ok X G (c.t.d.fact 84 (f := .free "ValueError") rfl)
  d__law_words := c.t.d.def_ 39 (d := He.DefD.mk ("_law_words", none) "_law_words" "_law_words" (defArgs (top 43)) (defBody (top 43)) (defScope (top 43)) [] []) rfl
  d__law_odd := c.t.d.def_ 40 (d := He.DefD.mk ("_law_odd", none) "_law_odd" "_law_odd" (defArgs (top 44)) (defBody (top 44)) (defScope (top 44)) [] []) rfl
  d__law_changed := c.t.d.def_ 41 (d := He.DefD.mk ("_law_changed", none) "_law_changed" "_law_changed" (defArgs (top 45)) (defBody (top 45)) (defScope (top 45)) [] []) rfl
  g__law_odd := He.glo_ok X G (c.t.d.fact 85 (f := .glo "_law_odd") rfl)
  d__law_drawn := c.t.d.def_ 42 (d := He.DefD.mk ("_law_drawn", none) "_law_drawn" "_law_drawn" (defArgs (top 46)) (defBody (top 46)) (defScope (top 46)) [] []) rfl
  g__law_changed := He.glo_ok X G (c.t.d.fact 86 (f := .glo "_law_changed") rfl)
  g__law_words := He.glo_ok X G (c.t.d.fact 87 (f := .glo "_law_words") rfl)
  g__law_names := He.glo_ok X G (c.t.d.fact 88 (f := .glo "_law_names") rfl)
  g__law_cell_at := He.glo_ok X G (c.t.d.fact 89 (f := .glo "_law_cell_at") rfl)
  g__law_drawn := He.glo_ok X G (c.t.d.fact 90 (f := .glo "_law_drawn") rfl)
  g__law_dice := He.glo_ok X G (c.t.d.fact 91 (f := .glo "_law_dice") rfl)
  f_max := He.free_ok X G (c.t.d.fact 92 (f := .free "max") rfl)
  g__law_refused := He.glo_ok X G (c.t.d.fact 93 (f := .glo "_law_refused") rfl)
  g_shown := He.glo_ok X G (c.t.d.fact 94 (f := .glo "shown") rfl)
  c_Least := ⟨He.cls_ok (c.t.d.fact 64 (f := .cls "Least") rfl), noats_cons (He.noat_ok (c.t.d.fact 65 (f := .noat "Least" "rank") rfl)) (noats_cons (He.noat_ok (c.t.d.fact 96 (f := .noat "Least" "sign") rfl)) (noats_cons (He.noat_ok (c.t.d.fact 95 (f := .noat "Least" "pieces") rfl)) (noats_nil)))⟩
  c_Most := ⟨He.cls_ok (c.t.d.fact 66 (f := .cls "Most") rfl), noats_cons (He.noat_ok (c.t.d.fact 67 (f := .noat "Most" "rank") rfl)) (noats_cons (He.noat_ok (c.t.d.fact 98 (f := .noat "Most" "sign") rfl)) (noats_cons (He.noat_ok (c.t.d.fact 97 (f := .noat "Most" "pieces") rfl)) (noats_nil)))⟩
  c_Sum := ⟨He.cls_ok (c.t.d.fact 62 (f := .cls "Sum") rfl), noats_cons (He.noat_ok (c.t.d.fact 63 (f := .noat "Sum" "rank") rfl)) (noats_cons (He.noat_ok (c.t.d.fact 100 (f := .noat "Sum" "sign") rfl)) (noats_cons (He.noat_ok (c.t.d.fact 99 (f := .noat "Sum" "pieces") rfl)) (noats_nil)))⟩
  d_Gate_spoken := c.t.d.def_ 43 (d := He.DefD.mk ("Gate", some "spoken") "spoken" "Gate.spoken" (defArgs (inClass (top 21) 2)) (defBody (inClass (top 21) 2)) (defScope (inClass (top 21) 2)) [] []) rfl
  d_Least_spoken := c.t.d.def_ 44 (d := He.DefD.mk ("Least", some "spoken") "spoken" "Chain.spoken" (defArgs (inClass (top 17) 1)) (defBody (inClass (top 17) 1)) (defScope (inClass (top 17) 1)) [] []) rfl
  d_Most_spoken := c.t.d.def_ 45 (d := He.DefD.mk ("Most", some "spoken") "spoken" "Chain.spoken" (defArgs (inClass (top 17) 1)) (defBody (inClass (top 17) 1)) (defScope (inClass (top 17) 1)) [] []) rfl
  d_Name_spoken := c.t.d.def_ 46 (d := He.DefD.mk ("Name", some "spoken") "spoken" "Name.spoken" (defArgs (inClass (top 16) 2)) (defBody (inClass (top 16) 2)) (defScope (inClass (top 16) 2)) [] []) rfl
  d_Number_spoken := c.t.d.def_ 47 (d := He.DefD.mk ("Number", some "spoken") "spoken" "Number.spoken" (defArgs (inClass (top 15) 2)) (defBody (inClass (top 15) 2)) (defScope (inClass (top 15) 2)) [] []) rfl
  d_Sum_spoken := c.t.d.def_ 48 (d := He.DefD.mk ("Sum", some "spoken") "spoken" "Chain.spoken" (defArgs (inClass (top 17) 1)) (defBody (inClass (top 17) 1)) (defScope (inClass (top 17) 1)) [] []) rfl
  em_NoRecipe_NoRecipe := He.exm_ok (c.t.d.fact 101 (f := .exm "NoRecipe" "NoRecipe" true) rfl)
  ki_NoRecipe_Full_false := of_decide_eq_true (ex_at c 4)
  ki_NoRecipe_HallError_true := of_decide_eq_true (ex_at c 5)
  ki_NoRecipe_NoName_false := of_decide_eq_true (ex_at c 6)
  ki_NoRecipe_NoNumber_false := of_decide_eq_true (ex_at c 7)
  ki_NoRecipe_NoPoint_false := of_decide_eq_true (ex_at c 8)
  ki_NoRecipe_NoRow_false := of_decide_eq_true (ex_at c 9)
  kv_NoRecipe_ValueError_true := of_decide_eq_true (ex_at c 10)
  m_Gate_spoken := He.meth_ok (c.t.d.fact 102 (f := .meth "Gate" "spoken") rfl)
  m_Least_spoken := He.meth_ok (c.t.d.fact 103 (f := .meth "Least" "spoken") rfl)
  m_Most_spoken := He.meth_ok (c.t.d.fact 104 (f := .meth "Most" "spoken") rfl)
  m_Name_spoken := He.meth_ok (c.t.d.fact 105 (f := .meth "Name" "spoken") rfl)
  m_Number_spoken := He.meth_ok (c.t.d.fact 106 (f := .meth "Number" "spoken") rfl)
  m_Sum_spoken := He.meth_ok (c.t.d.fact 107 (f := .meth "Sum" "spoken") rfl)
  xi_NoRecipe := xiB_ok (ex_at c 11)
theorem law_at {P : Program} {w : World} {K : PySem.W.Frag} {mg : Str → Option Value} (T : Tx K mg) : ∃ fd : FuncData, (∀ base : Heap, FnOk P w K mg base (L2.CX P w) 90 (ga K "law") fd ["_law_script"] (sp_law K)) ∧ ∀ (s : Shared) (u : Value), BindsTo s fd ⟨[u], []⟩ [("_law_script", u)] :=
  ok_law_at T.d_law (fun _ _ _ _ _ _ us hl => match us, hl with | [_], _ => rfl) rfl fun base => law_ok T
end L2.An
open PySem PySem.W PySem.Calls PyProof.Rows
theorem PySem.Challenge.cw_anewhall_k04_read_or_refused_holds : PySem.Challenge.rw_anewhall_k04_read_or_refused.Holds := by
  w_on; o_law
  refine HandSHeadRun.head_any (r := OpenLaw.row PySem.Challenge.rw_anewhall_k04_read_or_refused) (q := view (OpenLaw.row PySem.Challenge.rw_anewhall_k04_read_or_refused).prog [52]) (H := L2.An.hk) (ob := L2.An.obT) (M := 20000) (loose := [("_wall" : PySem.Str), ("HallError" : PySem.Str), ("NoName" : PySem.Str), ("NoNumber" : PySem.Str), ("NoRecipe" : PySem.Str), ("Full" : PySem.Str), ("NoPoint" : PySem.Str), ("NoRow" : PySem.Str), ("MOST" : PySem.Str), ("LETTERS" : PySem.Str), ("LONGEST" : PySem.Str), ("is_name" : PySem.Str), ("Piece" : PySem.Str), ("Number" : PySem.Str), ("Name" : PySem.Str), ("Chain" : PySem.Str), ("Sum" : PySem.Str), ("Least" : PySem.Str), ("Most" : PySem.Str), ("Gate" : PySem.Str), ("bracketed" : PySem.Str), ("shown" : PySem.Str), ("FIGURES" : PySem.Str), ("SIGNS" : PySem.Str), ("MOST_SIGNS" : PySem.Str), ("MOST_WORDS" : PySem.Str), ("MOST_PIECES" : PySem.Str), ("DEEPEST" : PySem.Str), ("end_of" : PySem.Str), ("words_of" : PySem.Str), ("number_of" : PySem.Str), ("Reader" : PySem.Str), ("read" : PySem.Str), ("_law_cell_at" : PySem.Str), ("_law_dice" : PySem.Str), ("_law_roll" : PySem.Str), ("_law_names" : PySem.Str), ("_law_tree" : PySem.Str), ("_law_written" : PySem.Str), ("_law_words" : PySem.Str), ("_law_odd" : PySem.Str), ("_law_changed" : PySem.Str), ("_law_drawn" : PySem.Str), ("_law_is_name" : PySem.Str), ("_law_number" : PySem.Str), ("_law_single" : PySem.Str), ("_law_chain" : PySem.Str), ("_law_refused" : PySem.Str)]) (d := HandSHeadRun.topDef (OpenLaw.row PySem.Challenge.rw_anewhall_k04_read_or_refused).prog 52) (kwd := []) L2.An.obT_eq
    (by kernel_rfl) (fun s => by kernel_rfl) L2.An.head_run (by kernel_rfl) (by kernel_rfl) (by kernel_rfl) (by rfl) (by first | assumption | decide +kernel) (by decide +kernel) ⟨rfl, rfl, rfl, rfl, rfl, by decide +kernel⟩ ?hw ?hc
  case hw => w_witness2
  case hc =>
    refine LamX.walk_ofTsE (l := PySem.Challenge.rw_anewhall_k04_read_or_refused) (n := 63) (k := 90) (x := "_law_script") (CX := fun w => L2.CX (PySem.Challenge.rw_anewhall_k04_read_or_refused).prog w) rfl (by decide) (by kernel_rfl) ⟨rfl, by decide, by decide⟩ ?F (fun w H s e s' z => L2.An.cx_never z)
    intro w mg fa h Y G hmg0
    obtain ⟨K, KX, c⟩ := Y
    have hmg : mg ("law" : PySem.Str) = some (.ref fa) := by
      have e : (HandSHeadRun.topDef (OpenLaw.row PySem.Challenge.rw_anewhall_k04_read_or_refused).prog 52).name = ("law" : PySem.Str) := by kernel_rfl
      rw [← e]
      exact hmg0
    have T := L2.An.tx KX G c
    have e := hmg.symm.trans T.g_law
    cases e
    obtain ⟨fd, hF, hb⟩ := L2.An.law_at (P := (PySem.Challenge.rw_anewhall_k04_read_or_refused).prog) (w := w) T
    refine ⟨K, KX, fd, [], L2.An.sp_law K, ?_, ?_, ?_, hb, fun H a ns hl _ _ hS => L2.An.sp_law_of hS hl, fun base _ _ _ => hF base⟩ <;> exact fun _ h => nomatch h
