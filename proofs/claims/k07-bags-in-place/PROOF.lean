import PyProof.Rows.All
import Wide.All
import OpenK.AllK
import Wide.FinOn
import HandS.ForMost
import HandS.Codes
import HandS.Wide
import HandS.Flow
import HandS.IsInst
import HandS.OwnEq
import HandS.ForExc
import HandS.Star
import HandS.ClsMeth
import HandS.More
import HandS.Defaults
import HandS.Style
import PyProof.ReprRoads
import PyProof.Rows.ListMulR
import KE.KOpsOwn
import KE.KExcSuper
import HandS.ExcInit
import HandS.ExcField
import HandS.ExcIs
import HandS.ExcValue
import HandS.ExcOwn
import KE.KExcIs
import HandS.Comp
import HandS.Iter
import PyProof.InstNe
import KE.KCallOwn
import HandS.FStr
import HandS.TupAny
import HandS.Deep
import HandS.Lambda
import HandS.RaiseMore
import PyProof.StrLawsRepr
import HandS.Property
import HandS.DeepEq
import PyProof.EnumMake
import HandS.IterNext
import HandS.IterVal
import KE.KOwnIter
import PyProof.RulesMatch
import PyProof.CompFree
import PyProof.Draws
import PyProof.Rows.SortShellAny
import PySem.Challenge.RW_twoheads_k07_bags_in_place
set_option Elab.async false
set_option linter.all false
set_option maxRecDepth 100000
set_option maxHeartbeats 4000000
set_option autoImplicit false
/-! The toolkit of these proofs: frames, readings step by step, the pen. -/
namespace Tw
open PySem PySem.Spec PyProof.Rows L2

/-! ### frames -/
/-- the pen: a list of a list and two ints -/
def isPen : HO → Bool
  | .lst [.ref _, .int _, .int _] => true
  | _ => false
/-- all but pens is kept -/
def SP (H H' : Hp) : Prop := (∀ b o, H b = some o → isPen o = false → H' b = some o) ∧ ∀ b L a r, H b = some (.lst [.ref L, .int a, .int r]) → ∃ a' r', H' b = some (.lst [.ref L, .int a', .int r'])
theorem SP.refl (H : Hp) : SP H H := ⟨fun _ _ h _ => h, fun _ _ a r h => ⟨a, r, h⟩⟩
theorem SP.trans {H H1 H2 : Hp} (a : SP H H1) (b : SP H1 H2) : SP H H2 := ⟨fun c o h n => b.1 c o (a.1 c o h n) n, fun c L x r h => by
  obtain ⟨x1, r1, h1⟩ := a.2 c L x r h
  exact b.2 c L x1 r1 h1⟩
theorem _root_.L2.Same.sp {H H' : Hp} (s : Same H H') : SP H H' := ⟨fun b o h _ => s b o h, fun b L a r h => ⟨a, r, s _ _ h⟩⟩
theorem SP.new {H : Hp} {D : Addr} {o : HO} (hD : H D = none) : SP H (upd H D o) := Same.sp fun y u h => by rw [upd_ne (ne_of_none h hD)]; exact h
theorem SP.tr {H H' : Hp} {b : Addr} {o : HO} (s : SP H H') (h : H b = some o) (n : isPen o = false) : H' b = some o := s.1 b o h n
theorem Same.tr {H H' : Hp} {b : Addr} {o : HO} (s : Same H H') (h : H b = some o) : H' b = some o := s b o h
theorem Same.new {H : Hp} {p : Addr} {o : HO} (h : H p = none) : Same H (upd H p o) := fun b u e => by
  rw [upd_ne (ne_of_none e h)]
  exact e
theorem isPen_ints (ns : List Int) : isPen (.lst (ns.map V.int)) = false := by
  cases ns with
  | nil => rfl
  | cons a r => rfl
theorem isPen_len {xs : List V} (h : xs.length ≠ 3) : isPen (.lst xs) = false := by
  unfold isPen
  split
  · rename_i e; cases e; exact absurd rfl h
  · rfl

/-! ### new objects -/
theorem al {H : Hp} {o : HO} {Q : VK} (h : ∀ p H', Same H H' → H' p = some o → H p = none → Q (.ref p) H') : ∀ p, H p = none → Q (.ref p) (upd H p o) :=
  fun p hp => h p _ (Same.new hp) upd_same hp

/-! ### readings, one step a lemma -/
section
variable {K : PySem.W.Frag} {σ : L2.St} {H : Hp} {D : Ends} {t u : TS} {ta tb te tc : TE} {c d : TT} {tA : TA} {Q : VK} {QB : Bool → Hp → Prop} {QL : List V → Hp → Prop} {QS : L2.St → Hp → Prop} {v x y : V} {i : Nat} {r : R2} {g : TG}
theorem u_seq (h : t { D with nx := u D } σ H) : tSeq t u D σ H := h
theorem u_cut (Mid : L2.St → Hp → Prop) (h : t { D with nx := Mid } σ H) (k : ∀ σ' H', Mid σ' H' → u D σ' H') : C8.tCut t u D σ H := ⟨Mid, h, k⟩
theorem u_next (h : D.nx σ H) : tNext D σ H := h
theorem u_drop (h : te σ H fun _ H1 => D.nx σ H1) : tDrop te D σ H := h
theorem u_ret (h : te σ H D.rt) : tRet te D σ H := h
theorem u_retN (h : D.rt .non H) : tRetN D σ H := h
theorem u_brk (h : D.bk σ H) : tBreak D σ H := h
theorem u_cont (h : D.ct σ H) : tCont D σ H := h
theorem u_if (h : c σ H fun b H1 => if b = true then t D σ H1 else u D σ H1) : tIfS c t u D σ H := h
theorem u_asg (h : te σ H fun x H1 => g x σ H1 D.nx) : tAsg te g D σ H := h
theorem u_gname (h : QS (σ.set i (some v)) H) : gName i v σ H QS := h
theorem u_var (e : σ[i]? = some (some v)) (h : Q v H) : tVar i σ H Q := ⟨v, e, h⟩
theorem u_c (h : Q v H) : tC v σ H Q := h
theorem u_op (h : ta σ H fun x H1 => tb σ H1 fun y H2 => r x y H2 Q) : tOp r ta tb σ H Q := h
def kUn (f : V → Hp → VK → Prop) (Q : VK) : VK := fun x H => f x H Q
theorem u_un {f : V → Hp → VK → Prop} (h : ta σ H fun x H1 => f x H1 Q) : tUn f ta σ H Q := h
theorem u_nil (h : QL [] H) : tNil σ H QL := h
theorem u_cons (h : ta σ H fun x H1 => tA σ H1 fun xs H2 => QL (x :: xs) H2) : tCons ta tA σ H QL := h
theorem u_cb {f : List V → Hp → VK → Prop} (h : tA σ H fun vs H1 => f vs H1 Q) : tCB f tA σ H Q := h
def kBl (QB : Bool → Hp → Prop) : VK := fun x H' => ∃ k, x = .bl k ∧ QB k H'
theorem k_bl {b : Bool} (h : QB b H) : kBl QB (.bl b) H := ⟨b, rfl, h⟩
theorem u_test (h : te σ H (kBl QB)) : tTest te σ H QB := h
theorem u_B (h : te σ H (kBl QB)) : tB te σ H QB := h
theorem u_not (h : c σ H fun b H1 => QB (!b) H1) : tNot c σ H QB := h
theorem u_and (h : c σ H fun b H1 => if b = true then d σ H1 QB else QB false H1) : tAnd c d σ H QB := h
theorem u_or (h : c σ H fun b H1 => if b = true then QB true H1 else d σ H1 QB) : tOr c d σ H QB := h
theorem u_andV (h : ta σ H (kBl fun c H1 => if c = true then tb σ H1 Q else Q (.bl false) H1)) : tAndV ta tb σ H Q := h
theorem u_orV (h : ta σ H (kBl fun c H1 => if c = true then Q (.bl true) H1 else tb σ H1 Q)) : tOrV ta tb σ H Q := h
theorem u_notV (h : ta σ H (kBl fun c H1 => Q (.bl (!c)) H1)) : tNotV ta σ H Q := h
theorem u_ifE (h : c σ H fun b H1 => if b = true then ta σ H1 Q else tb σ H1 Q) : tIf c ta tb σ H Q := h
theorem u_chain {r r' : R2} (h : ta σ H fun x H1 => tb σ H1 fun y H2 => r x y H2 (kBl fun k H3 => if k = true then tc σ H3 fun w' H4 => r' y w' H4 Q else Q (.bl false) H3)) : tChain r r' ta tb tc σ H Q := h
def kFld (K : PySem.W.Frag) (f : Str) (Q : VK) : VK := fun x H1 => ∃ a C dx fs v, x = .ref a ∧ H1 a = some (.ins C dx fs) ∧ Cls K C ∧ NoAttr K C f ∧ fs.lookup f = some v ∧ Q v H1
theorem u_fld {f : Str} (h : ta σ H (kFld K f Q)) : tFld K ta f σ H Q := h
theorem k_fld {f : Str} {a C dx : Addr} {fs : List (Str × V)} (ho : H a = some (.ins C dx fs)) (hc : Cls K C) (hn : NoAttr K C f) (hl : fs.lookup f = some v) (h : Q v H) : kFld K f Q (.ref a) H := ⟨a, C, dx, fs, v, rfl, ho, hc, hn, hl, h⟩
theorem u_tup (h : tA σ H fun xs H1 => xs.length ≤ sizeLine ∧ ∀ p, H1 p = none → Q (.ref p) (upd H1 p (.tup xs))) : tTup tA σ H Q := h
theorem u_lst (h : tA σ H fun xs H1 => xs.length ≤ sizeLine ∧ ∀ p, H1 p = none → Q (.ref p) (upd H1 p (.lst xs))) : tLst tA σ H Q := h
theorem u_call {sp : Sp} {dvs : List V} {E : XK} (h : tA σ H fun vs H1 => sp (vs ++ dvs) H1 Q E) : tCall sp dvs E tA σ H Q := h
def kMeth (C : Addr) (m : Str) (go : V → Hp → Prop) : VK := fun x H1 => ∃ a dx fs, x = .ref a ∧ H1 a = some (.ins C dx fs) ∧ fs.lookup m = none ∧ go x H1
theorem u_meth {C : Addr} {m : Str} {sp : Sp} {dvs : List V} {E : XK} (h : ta σ H (kMeth C m fun x H1 => tA σ H1 fun vs H2 => sp (x :: (vs ++ dvs)) H2 Q E)) : tMeth C m sp dvs E ta tA σ H Q := h
theorem k_meth {C a dx : Addr} {m : Str} {fs : List (Str × V)} {go : V → Hp → Prop} (ho : H a = some (.ins C dx fs)) (hl : fs.lookup m = none) (h : go (.ref a) H) : kMeth C m go (.ref a) H := ⟨a, dx, fs, rfl, ho, hl, h⟩
theorem u_make {C : Addr} {sp : Sp} {dvs : List V} {E : XK} (h : tA σ H fun vs H1 => ∀ x dx, H1 x = none → H1 dx = none → dx ≠ x → sp (.ref x :: (vs ++ dvs)) (upd (upd H1 dx (.own x)) x (.ins C dx [])) (fun v H2 => v = .non ∧ Q (.ref x) H2) E) : tMake C sp dvs E tA σ H Q := h
theorem u_par {j : Nat} {a b : V} (h : tA σ H fun vs H1 => ∃ v w, vs = [v, w] ∧ D.nx ((σ.set i (some v)).set j (some w)) H1) : tPar i j tA D σ H := h
def kIdx (K : PySem.W.Frag) (f : V → Hp → VK → Prop) (Q : VK) : VK := fun x H => f x H Q
/-! by values -/
theorem r_I0 {f : Int → Int → V} {i j : Int} (h : Q (f i j) H) : rI0 f (.int i) (.int j) H Q := ⟨i, j, rfl, rfl, h⟩
theorem r_I {C : Int → Int → Prop} {f : Int → Int → V} {i j : Int} (hc : C i j) (h : Q (f i j) H) : rI C f (.int i) (.int j) H Q := ⟨i, j, rfl, rfl, hc, h⟩
theorem r_U {f : Int → V} {i : Int} (h : Q (f i) H) : rU f (.int i) H Q := ⟨i, rfl, h⟩
theorem r_eqI {i j : Int} (h : Q (.bl (decide (i = j))) H) : rEq (.int i) (.int j) H Q := ⟨rfl, by
  have e : decide (V.int i = V.int j) = decide (i = j) := decide_eq_decide.mpr ⟨fun q => by injection q, fun q => by rw [q]⟩
  rw [e]; exact h⟩
theorem r_neI {i j : Int} (h : Q (.bl (!decide (i = j))) H) : rNe (.int i) (.int j) H Q := ⟨rfl, by
  have e : decide (V.int i = V.int j) = decide (i = j) := decide_eq_decide.mpr ⟨fun q => by injection q, fun q => by rw [q]⟩
  rw [e]; exact h⟩
theorem r_eqB {i j : Bool} (h : Q (.bl (decide (i = j))) H) : rEq (.bl i) (.bl j) H Q := ⟨rfl, by
  have e : decide (V.bl i = V.bl j) = decide (i = j) := decide_eq_decide.mpr ⟨fun q => by injection q, fun q => by rw [q]⟩
  rw [e]; exact h⟩
theorem r_neB {i j : Bool} (h : Q (.bl (!decide (i = j))) H) : rNe (.bl i) (.bl j) H Q := ⟨rfl, by
  have e : decide (V.bl i = V.bl j) = decide (i = j) := decide_eq_decide.mpr ⟨fun q => by injection q, fun q => by rw [q]⟩
  rw [e]; exact h⟩
theorem r_eqS {i j : Str} (h : Q (.bl (decide (i = j))) H) : rEq (.str i) (.str j) H Q := ⟨rfl, by
  have e : decide (V.str i = V.str j) = decide (i = j) := decide_eq_decide.mpr ⟨fun q => by injection q, fun q => by rw [q]⟩
  rw [e]; exact h⟩
theorem r_neS {i j : Str} (h : Q (.bl (!decide (i = j))) H) : rNe (.str i) (.str j) H Q := ⟨rfl, by
  have e : decide (V.str i = V.str j) = decide (i = j) := decide_eq_decide.mpr ⟨fun q => by injection q, fun q => by rw [q]⟩
  rw [e]; exact h⟩
theorem r_ixL {p : Addr} {xs : List V} {i : Int} (h0 : SqL K H p xs) (h1 : atI xs i = some v) (h : Q v H) : rIxL K (.ref p) (.int i) H Q := ⟨p, xs, i, v, rfl, rfl, h0, h1, h⟩
theorem r_ixT {p : Addr} {xs : List V} {i : Int} (h0 : SqT K H p xs) (h1 : atI xs i = some v) (h : Q v H) : rIxT K (.ref p) (.int i) H Q := ⟨p, xs, i, v, rfl, rfl, h0, h1, h⟩
theorem r_setL {p : Addr} {xs : List V} {k : Int} {j : Nat} {QH : Hp → Prop} (h0 : H p = some (.lst xs)) (h1 : ixN xs.length k = some j) (h : QH (upd H p (.lst (xs.set j v)))) : rSetL (.ref p) (.int k) v H QH := ⟨p, xs, k, j, rfl, rfl, h0, h1, h⟩
theorem u_gsub {to ti : TE} {ts : TSet} (h : to σ H fun o H1 => ti σ H1 fun i H2 => ts o i v H2 fun H3 => QS σ H3) : gSub to ti ts v σ H QS := h
/-! ways -/
theorem w_T {A B : Prop} (h : A) : if true = true then A else B := by rw [if_pos rfl]; exact h
theorem w_F {A B : Prop} (h : B) : if false = true then A else B := by rw [if_neg Bool.false_ne_true]; exact h
theorem w_nT {A B : Prop} (h : B) : if (!true) = true then A else B := by rw [Bool.not_true, if_neg Bool.false_ne_true]; exact h
theorem w_nF {A B : Prop} (h : A) : if (!false) = true then A else B := by rw [Bool.not_false, if_pos rfl]; exact h
theorem w_dec {p A B : Prop} [Decidable p] (h1 : p → A) (h2 : ¬ p → B) : if decide p = true then A else B := by
  by_cases h : p
  · rw [if_pos (decide_eq_true h)]; exact h1 h
  · rw [if_neg (by rw [decide_eq_false h]; exact Bool.false_ne_true)]; exact h2 h
theorem w_ndec {p A B : Prop} [Decidable p] (h1 : ¬ p → A) (h2 : p → B) : if (!decide p) = true then A else B := by
  by_cases h : p
  · rw [decide_eq_true h]; exact w_F (h2 h)
  · rw [decide_eq_false h]; exact w_T (h1 h)
theorem w_bool {b : Bool} {A B : Prop} (h1 : b = true → A) (h2 : b = false → B) : if b = true then A else B := by
  cases b with
  | true => exact w_T (h1 rfl)
  | false => exact w_F (h2 rfl)
theorem w_nbool {b : Bool} {A B : Prop} (h1 : b = false → A) (h2 : b = true → B) : if (!b) = true then A else B := by
  cases b with
  | true => exact w_F (h2 rfl)
  | false => exact w_T (h1 rfl)
end

/-! ### the pen -/
def PenAt (H : Hp) (p : Addr) (n : Nat) : Prop := ∃ (L : Addr) (a r : Int) (ns : List Int), H p = some (.lst [.ref L, .int a, .int r]) ∧ H L = some (.lst (ns.map V.int)) ∧ 0 ≤ a ∧ a ≤ n ∧ ns.length ≤ 63
theorem PenAt.same {H H' : Hp} {p : Addr} {n : Nat} (s : Same H H') (h : PenAt H p n) : PenAt H' p n := by
  obtain ⟨L, a, r, ns, h1, h2, h3⟩ := h
  exact ⟨L, a, r, ns, s _ _ h1, s _ _ h2, h3⟩
theorem PenAt.mono {H : Hp} {p : Addr} {n m : Nat} (h : PenAt H p n) (e : n ≤ m) : PenAt H p m := by
  obtain ⟨L, a, r, ns, h1, h2, h3, h4, h5⟩ := h
  exact ⟨L, a, r, ns, h1, h2, h3, by omega, h5⟩
/-- _law_draw(pen, many): a number from 0 on below many -/
def spDraw : Sp := fun vs H Q _ => ∃ (p : Addr) (n : Nat) (many : Int), vs = [.ref p, .int many] ∧ PenAt H p n ∧ 1 ≤ many ∧ many ≤ 1000000000000 ∧ n ≤ 1000000 ∧
  ∀ (k : Int) (H' : Hp), 0 ≤ k → k < many → SP H H' → PenAt H' p (n + 1) → Q (.int k) H'
/-- _law_pen(script) -/
def spPen (K : PySem.W.Frag) : Sp := fun vs H Q _ => ∃ (a : Addr) (ns : List Int), vs = [.ref a] ∧ SqL K H a (ns.map V.int) ∧ ns.length ≤ 63 ∧
  ∀ (p : Addr) (H' : Hp), Same H H' → PenAt H' p 0 → Q (.ref p) H'
/-- _law_pick(pen, some), some a list -/
def spPick (K : PySem.W.Frag) : Sp := fun vs H Q _ => ∃ (p a : Addr) (n : Nat) (xs : List V), vs = [.ref p, .ref a] ∧ PenAt H p n ∧ H a = some (.lst xs) ∧ isPen (.lst xs) = false ∧ 1 ≤ xs.length ∧ xs.length ≤ 1000000 ∧ n ≤ 1000000 ∧
  ∀ (k : Nat) (v : V) (H' : Hp), k < xs.length → xs[k]? = some v → SP H H' → PenAt H' p (n + 1) → Q v H'
theorem use_draw {H : Hp} {p : Addr} {many : Int} {Q : VK} {E : XK} (n : Nat) (h1 : PenAt H p n) (h2 : 1 ≤ many) (h3 : many ≤ 1000000000000) (h4 : n ≤ 1000000)
    (k : ∀ (k : Int) (H' : Hp), 0 ≤ k → k < many → SP H H' → PenAt H' p (n + 1) → Q (.int k) H') : spDraw [.ref p, .int many] H Q E := ⟨p, n, many, rfl, h1, h2, h3, h4, k⟩

/-! ### room for calls, nothing being shown -/
structure Rm (k : Nat) (A : Around) : Prop where
  room : Room k A
  gd : A.guards = some []
theorem Rm.mono {j k : Nat} {A : Around} (r : Rm k A) (h : j ≤ k) : Rm j A := ⟨r.room.mono h, r.gd⟩
theorem Rm.deeper {k : Nat} {A : Around} (r : Rm (k + 1) A) (env : Env) : Rm k (A.deeper env) := ⟨r.room.deeper env, r.gd⟩
theorem Rm.in1 {k : Nat} {A : Around} (r : Rm (k + 1) A) : Rm k A.in1 := ⟨r.room.in1, r.gd⟩
theorem Rm.make {k : Nat} {A : Around} (r : Rm (k + 1) A) (C : Addr) (us : List Value) (kw : List (Str × Value)) : Rm k (A.under (.builtin "type.__call__" ⟨.ref C :: us, kw⟩)) :=
  ⟨r.room.make C us kw, by
    have e := r.gd
    simpa [Around.under, Code.guards, Code.isGuard, guardIds, pushGuards] using e⟩
theorem Rm.u {k : Nat} {A : Around} (r : Rm k A) : A.units + 64 < cLine := r.room.units

/-- a def keeps its promise, where nothing is being shown -/
structure FnG (P : Program) (w : World) (K : PySem.W.Frag) (mg : Str → Option Value) (base : Heap) (k : Nat) (f : Addr) (fd : FuncData) (ps : List Str) (sp : Sp) : Prop where
  len : ∀ vs H Q E, sp vs H Q E → vs.length = ps.length
  run : ∀ (A : Around) (out : List Env) (s : Shared) (H : Hp) (args : Args) (us : List Value) (vs : List V) (Q : VK) (E : XK), Rm k A → Env0 P w K mg base A out s H →
    BindsTo s fd args (ps.zip us) → Vals vs us → sp vs H Q E → codeAny (model P w) A (.call (.ref f) args) (CR (L2.CX P w) out P w H s Q E) s
section
variable {P : Program} {w : World} {K : PySem.W.Frag} {mg : Str → Option Value} {base : Heap} {k : Nat} {f : Addr} {fd : FuncData} {ps N : List Str} {sp : Sp}
theorem FnG.imp {sp' : Sp} (F : FnG P w K mg base k f fd ps sp) (h : ∀ vs H Q E, sp' vs H Q E → sp vs H Q E) : FnG P w K mg base k f fd ps sp' :=
  ⟨fun vs H Q E q => F.len _ _ _ _ (h vs H Q E q), fun A out s H args us vs Q E hr e hb hv q => F.run A out s H args us vs Q E hr e hb hv (h vs H Q E q)⟩
/-- from the body -/
theorem fnG {name qual : Str} {pr : Arguments} {body : List Stmt} {sc : Scope} {dV kV doc pm cdv ct oc : Value} {an od : Option Addr} {osl : Array (Option Value)}
    (lk : K.lookup f = some ⟨oc, od, .func (PySem.W.fnOf name qual pr body sc dV kV doc pm an cdv ct), osl⟩) (hcd : PySem.W.codeIn K cdv qual = true) (S : FnScope N ps sc) (len : ∀ vs H Q E, sp vs H Q E → vs.length = ps.length)
    (hb : ∀ (A : Around) (out : List Env) (s : Shared) (H : Hp) (vs : List V) (Q : VK) (E : XK), Rm k (A.deeper (envOfC qual sc s.heap.objs.size f cdv)) → sp vs H Q E →
      ∃ t, PSs (cxOf (L2.CX P w) P w K mg base N qual sc f cdv A out s H E) body t ∧ t { nx := fun _ H' => Q .non H', rt := Q } (start N vs) H) :
    FnG P w K mg base (k + 1) f (PySem.W.fnOf name qual pr body sc dV kV doc pm an cdv ct) ps sp := by
  constructor
  · exact len
  intro A out s H args us vs Q E rm ev bd rel want
  have inK : K.In s.heap := ev.mod.kin.keeps fun b o q => (ev.bs b o q).1
  have nolim := ev.mod.nolimit.keeps fun b o q => (ev.bs b o q).1
  have kinds : ∀ z ∈ ps.zip us, sc.names.lookup z.1 = some .local ∨ (sc.names.lookup z.1 = some .cell ∧ ((cellsFrom (s.heap.objs.size + 1) sc.names []).lookup z.1).isSome = true) := by
    rintro ⟨n, v⟩ hz
    exact (S.par n (List.of_mem_zip hz).1).imp id fun q => ⟨q, PySem.W.cellsFrom_some _ _ _ (.inl q)⟩
  refine codeAny_call_function rm.room.depth (inK _ _ lk) rfl S.co S.gen rfl (PySem.W.codeRec_of inK hcd) (bd _ _ _ _ ?_)
  refine wpAny_newFunctionEnv_cells S.kind kinds ?_
  rintro env rfl s1 ic
  refine ⟨nolim.keeps ic.toInCall.keep, codeAny_func ?_⟩
  obtain ⟨t, der, rd⟩ := hb A out s H vs Q E (rm.deeper _) want
  have J := inv_start (CX := L2.CX P w) (P := P) (w := w) (K := K) (mg := mg) (base := base) (qual := qual) (f := f) (cd := cdv) (E := E) S rm.room.hd ev (len _ _ _ _ want) rel ic
  refine wpAny_mono (der.run [] s1 (start N vs) H _ J rd) ?_ fun _ _ z => z
  intro fl s' z
  cases fl with
  | ret u =>
    obtain ⟨v, _, H', I', r', q'⟩ := z
    exact ⟨v, H', I'.os, I'.bare, I'.base, I'.hok, r', q'⟩
  | next =>
    obtain ⟨_, H', I', q'⟩ := z
    exact ⟨.non, H', I'.os, I'.bare, I'.base, I'.hok, rfl, q'⟩
  | brk => exact z.elim fun _ z => z.elim fun _ z => z.2.elim
  | cont => exact z.elim fun _ z => z.elim fun _ z => z.2.elim
/-- .. of a def that lets nothing out -/
theorem fnG0 {x qual : Str} {st : Stmt} (F : C8.Fun K x qual st f fd) (S : FnScope N ps (C8.fnScope st)) (len : ∀ vs H Q E, sp vs H Q E → vs.length = ps.length)
    (hb : ∀ (cdv : Value) (A : Around) (out : List Env) (s : Shared) (H : Hp) (vs : List V) (Q : VK) (E : XK), Rm k (A.deeper (envOfC qual (C8.fnScope st) s.heap.objs.size f cdv)) → sp vs H Q E →
      ∃ t, PSs (cxOf (L2.CX P w) P w K mg base N qual (C8.fnScope st) f cdv A out s H E).nox (C8.fnBody st) t ∧ t { nx := fun _ H' => Q .non H', rt := Q } (start N vs) H) : FnG P w K mg base (k + 1) f fd ps sp := by
  obtain ⟨oc, od, dV, kV, doc, pm, an, cdv, ct, osl, rfl, lk, hcd⟩ := F.ex
  refine fnG lk hcd S len fun A out s H vs Q E rm want => ?_
  obtain ⟨t, der, rd⟩ := hb cdv A out s H vs Q E rm want
  exact ⟨t, der.nox, rd⟩
/-- .. of a def that may raise -/
theorem fnGX {x qual : Str} {st : Stmt} (F : C8.Fun K x qual st f fd) (S : FnScope N ps (C8.fnScope st)) (len : ∀ vs H Q E, sp vs H Q E → vs.length = ps.length)
    (hb : ∀ (cdv : Value) (A : Around) (out : List Env) (s : Shared) (H : Hp) (vs : List V) (Q : VK) (E : XK), Rm k (A.deeper (envOfC qual (C8.fnScope st) s.heap.objs.size f cdv)) → sp vs H Q E →
      ∃ t, PSs (cxOf (L2.CX P w) P w K mg base N qual (C8.fnScope st) f cdv A out s H E) (C8.fnBody st) t ∧ t { nx := fun _ H' => Q .non H', rt := Q } (start N vs) H) : FnG P w K mg base (k + 1) f fd ps sp := by
  obtain ⟨oc, od, dV, kV, doc, pm, an, cdv, ct, osl, rfl, lk, hcd⟩ := F.ex
  exact fnG lk hcd S len fun A out s H vs Q E rm want => hb cdv A out s H vs Q E rm want
end

/-! ### calls -/
section
variable {X : Cx} {k j : Nat} {f C : Addr} {fd : FuncData} {ps : List Str} {sp : Sp} {dvs : List V} {ds : List Value} {E : XK} {x m : Str} {p pos apos : Pos} {e o : Expr} {es : List Expr} {ta : TE} {t : TA}
/-- what a callee lets out is taken, at these pins and slots -/
def PassAt (X : Cx) (pins : List (Addr × Obj)) (σ : L2.St) (E : XK) : Prop := ∀ (H : Hp) (s : Shared) (e : Value) (s' : Shared), Inv X pins σ H s → L2.CX X.prog X.w X.stack H s E e s' → X.xe e s'
theorem goG {pins : List (Addr × Obj)} {σ : L2.St} {H : Hp} {s : Shared} {Q : VK} {us : List Value} {vs : List V} (F : FnG X.prog X.w X.K X.mg X.base k f fd ps sp) {A : Around} (hr : Rm k A) (fr : A.frames = X.A.frames) (hb : Binds X.K fd ps ds) (hd : Vals dvs ds) (hx : PassAt X pins σ E)
    (I : Inv X pins σ H s) (r : Vals vs us) (h : sp (vs ++ dvs) H Q E) : wpAny (model X.prog X.w) A (call (.ref f) us) (EP X pins σ Q) X.xe s := by
  have r2 : Vals (vs ++ dvs) (us ++ ds) := r.append hd
  have ev : Env0 X.prog X.w X.K X.mg X.base A X.stack s H := { I.env0 with frames := fr.trans I.env0.frames }
  have hl : (us ++ ds).length = ps.length := r2.length.symm.trans (F.len _ _ _ _ h)
  refine wpAny_call (codeAny_mono (F.run A X.stack s H ⟨us, []⟩ (us ++ ds) (vs ++ dvs) Q E hr ev (hb s us I.kIn hl) r2 h) ?_)
  intro res s' z
  match res, z with
  | .error e, z => exact hx H s e s' I z
  | .ok (.ret u), z => exact I.after z
  | .ok .next, z => exact False.elim z
  | .ok .brk, z => exact False.elim z
  | .ok .cont, z => exact False.elim z
theorem runG {pins : List (Addr × Obj)} {σ : L2.St} {H : Hp} {s : Shared} {Q : VK} {us : List Value} {vs : List V} (F : FnG X.prog X.w X.K X.mg X.base k f fd ps sp) (hr : Rm k X.A) (hb : Binds X.K fd ps ds) (hd : Vals dvs ds) (hx : PassAt X pins σ E)
    (I : Inv X pins σ H s) (r : Vals vs us) (h : sp (vs ++ dvs) H Q E) : wpAny (model X.prog X.w) X.A (call (.ref f) us) (EP X pins σ Q) X.xe s := goG F hr rfl hb hd hx I r h
theorem makeG {pins : List (Addr × Obj)} {σ : L2.St} {H : Hp} {s : Shared} {Q : VK} {us : List Value} {vs : List V} (M : Mk X.K C f) (F : FnG X.prog X.w X.K X.mg X.base k f fd ps sp) (hr : Rm (k + 1) X.A) (hb : Binds X.K fd ps ds) (hd : Vals dvs ds)
    (hx : PassAt X pins σ E) (I : Inv X pins σ H s) (r : Vals vs us)
    (h : ∀ x dx, H x = none → H dx = none → dx ≠ x → sp (.ref x :: (vs ++ dvs)) (upd (upd H dx (.own x)) x (.ins C dx [])) (fun v H2 => v = .non ∧ Q (.ref x) H2) E) :
    wpAny (model X.prog X.w) X.A (call (.ref C) us) (EP X pins σ Q) X.xe s := by
  have n := s.heap.objs.size
  have want := h (s.heap.objs.size + 1) s.heap.objs.size (I.hok.fresh (Nat.le_succ _)) (I.hok.fresh (Nat.le_refl _)) (Nat.ne_of_lt (Nat.lt_succ_self _))
  have I2 := Inv.made (C := C) I
  have rel : Vals (V.ref (s.heap.objs.size + 1) :: (vs ++ dvs)) (Value.ref (s.heap.objs.size + 1) :: (us ++ ds)) := Paired.cons rfl (r.append hd)
  have hl : (Value.ref (s.heap.objs.size + 1) :: us ++ ds).length = ps.length := by
    have e := rel.length.symm
    rw [F.len _ _ _ _ want] at e
    exact e
  refine wpAny_call (make_map (f := f) I.kIn M.makes M.init (beq_iff_eq.mp M.fn) (codeAny_mono (F.run _ X.stack _ _ ⟨Value.ref (s.heap.objs.size + 1) :: us, []⟩ (Value.ref (s.heap.objs.size + 1) :: (us ++ ds)) _ _ E (hr.make C us [])
    (I2.env0.make C us []) (hb _ (Value.ref (s.heap.objs.size + 1) :: us) I2.kIn hl) rel want) ?_))
  intro res s' z
  match res, z with
  | .error e, z => exact hx _ _ e s' I2 z
  | .ok (.ret u), z =>
    obtain ⟨v, H', I3, rv, ev, q3⟩ := I2.after z
    subst ev
    exact ⟨rv, V.ref (s.heap.objs.size + 1), H', I3, rfl, q3⟩
  | .ok .next, z => exact False.elim z
  | .ok .brk, z => exact False.elim z
  | .ok .cont, z => exact False.elim z
end

/-- a def that may be called by its name -/
structure Cal (P : Program) (w : World) (K : PySem.W.Frag) (mg : Str → Option Value) (base : Heap) (k : Nat) (x : Str) (sp : Sp) (dvs : List V) : Prop where
  ex : ∃ (f : Addr) (fd : FuncData) (ps : List Str) (ds : List Value), FnG P w K mg base k f fd ps sp ∧ mg x = some (.ref f) ∧ PySem.W.keepIn K (.ref f) = true ∧ Binds K fd ps ds ∧ Vals dvs ds
/-- a method of the class at C -/
structure Met (P : Program) (w : World) (K : PySem.W.Frag) (mg : Str → Option Value) (base : Heap) (k : Nat) (C : Addr) (m : Str) (sp : Sp) (dvs : List V) : Prop where
  ex : ∃ (f : Addr) (fd : FuncData) (ps : List Str) (ds : List Value), Cls K C ∧ Meth K C m f ∧ FnG P w K mg base k f fd ps sp ∧ Binds K fd ps ds ∧ Vals dvs ds
/-- a class that may be made by its name; sp: its __init__ -/
structure Mak (P : Program) (w : World) (K : PySem.W.Frag) (mg : Str → Option Value) (base : Heap) (k : Nat) (x : Str) (C : Addr) (sp : Sp) (dvs : List V) : Prop where
  ex : ∃ (f : Addr) (fd : FuncData) (ps : List Str) (ds : List Value), Mk K C f ∧ FnG P w K mg base k f fd ps sp ∧ mg x = some (.ref C) ∧ Binds K fd ps ds ∧ Vals dvs ds
/-- what the top has written of a def; of a method -/
structure DefAt (K : PySem.W.Frag) (mg : Str → Option Value) (x : Str) (st : Stmt) (ps : List Str) (dvs : List V) : Prop where
  ex : ∃ (f : Addr) (fd : FuncData) (ds : List Value), C8.Fun K x x st f fd ∧ mg x = some (.ref f) ∧ PySem.W.keepIn K (.ref f) = true ∧ Binds K fd ps ds ∧ Vals dvs ds
structure MetAt (K : PySem.W.Frag) (C : Addr) (m qual : Str) (st : Stmt) (ps : List Str) (dvs : List V) : Prop where
  ex : ∃ (f : Addr) (fd : FuncData) (ds : List Value), Cls K C ∧ Meth K C m f ∧ C8.Fun K m qual st f fd ∧ Binds K fd ps ds ∧ Vals dvs ds
structure MakAt (K : PySem.W.Frag) (mg : Str → Option Value) (x : Str) (C : Addr) (qual : Str) (st : Stmt) (ps : List Str) (dvs : List V) : Prop where
  ex : ∃ (f : Addr) (fd : FuncData) (ds : List Value), Mk K C f ∧ C8.Fun K "__init__" qual st f fd ∧ mg x = some (.ref C) ∧ Binds K fd ps ds ∧ Vals dvs ds
section
variable {P : Program} {w : World} {K : PySem.W.Frag} {mg : Str → Option Value} {base : Heap} {k : Nat} {C : Addr} {x m qual : Str} {st : Stmt} {ps N : List Str} {dvs : List V} {sp : Sp}
theorem cal0 (D : DefAt K mg x st ps dvs) (S : FnScope N ps (C8.fnScope st)) (len : ∀ vs H Q E, sp vs H Q E → vs.length = ps.length)
    (hb : ∀ (f : Addr) (cdv : Value) (A : Around) (out : List Env) (s : Shared) (H : Hp) (vs : List V) (Q : VK) (E : XK), Rm k (A.deeper (envOfC x (C8.fnScope st) s.heap.objs.size f cdv)) → sp vs H Q E →
      ∃ t, PSs (cxOf (L2.CX P w) P w K mg base N x (C8.fnScope st) f cdv A out s H E).nox (C8.fnBody st) t ∧ t { nx := fun _ H' => Q .non H', rt := Q } (start N vs) H) : Cal P w K mg base (k + 1) x sp dvs := by
  obtain ⟨f, fd, ds, F, g, kp, b, v⟩ := D.ex
  exact ⟨f, fd, ps, ds, fnG0 F S len (hb f), g, kp, b, v⟩
theorem calX (D : DefAt K mg x st ps dvs) (S : FnScope N ps (C8.fnScope st)) (len : ∀ vs H Q E, sp vs H Q E → vs.length = ps.length)
    (hb : ∀ (f : Addr) (cdv : Value) (A : Around) (out : List Env) (s : Shared) (H : Hp) (vs : List V) (Q : VK) (E : XK), Rm k (A.deeper (envOfC x (C8.fnScope st) s.heap.objs.size f cdv)) → sp vs H Q E →
      ∃ t, PSs (cxOf (L2.CX P w) P w K mg base N x (C8.fnScope st) f cdv A out s H E) (C8.fnBody st) t ∧ t { nx := fun _ H' => Q .non H', rt := Q } (start N vs) H) : Cal P w K mg base (k + 1) x sp dvs := by
  obtain ⟨f, fd, ds, F, g, kp, b, v⟩ := D.ex
  exact ⟨f, fd, ps, ds, fnGX F S len (hb f), g, kp, b, v⟩
theorem met0 (D : MetAt K C m qual st ps dvs) (S : FnScope N ps (C8.fnScope st)) (len : ∀ vs H Q E, sp vs H Q E → vs.length = ps.length)
    (hb : ∀ (f : Addr) (cdv : Value) (A : Around) (out : List Env) (s : Shared) (H : Hp) (vs : List V) (Q : VK) (E : XK), Rm k (A.deeper (envOfC qual (C8.fnScope st) s.heap.objs.size f cdv)) → sp vs H Q E →
      ∃ t, PSs (cxOf (L2.CX P w) P w K mg base N qual (C8.fnScope st) f cdv A out s H E).nox (C8.fnBody st) t ∧ t { nx := fun _ H' => Q .non H', rt := Q } (start N vs) H) : Met P w K mg base (k + 1) C m sp dvs := by
  obtain ⟨f, fd, ds, c, me, F, b, v⟩ := D.ex
  exact ⟨f, fd, ps, ds, c, me, fnG0 F S len (hb f), b, v⟩
theorem metX (D : MetAt K C m qual st ps dvs) (S : FnScope N ps (C8.fnScope st)) (len : ∀ vs H Q E, sp vs H Q E → vs.length = ps.length)
    (hb : ∀ (f : Addr) (cdv : Value) (A : Around) (out : List Env) (s : Shared) (H : Hp) (vs : List V) (Q : VK) (E : XK), Rm k (A.deeper (envOfC qual (C8.fnScope st) s.heap.objs.size f cdv)) → sp vs H Q E →
      ∃ t, PSs (cxOf (L2.CX P w) P w K mg base N qual (C8.fnScope st) f cdv A out s H E) (C8.fnBody st) t ∧ t { nx := fun _ H' => Q .non H', rt := Q } (start N vs) H) : Met P w K mg base (k + 1) C m sp dvs := by
  obtain ⟨f, fd, ds, c, me, F, b, v⟩ := D.ex
  exact ⟨f, fd, ps, ds, c, me, fnGX F S len (hb f), b, v⟩
theorem mak0 (D : MakAt K mg x C qual st ps dvs) (S : FnScope N ps (C8.fnScope st)) (len : ∀ vs H Q E, sp vs H Q E → vs.length = ps.length)
    (hb : ∀ (f : Addr) (cdv : Value) (A : Around) (out : List Env) (s : Shared) (H : Hp) (vs : List V) (Q : VK) (E : XK), Rm k (A.deeper (envOfC qual (C8.fnScope st) s.heap.objs.size f cdv)) → sp vs H Q E →
      ∃ t, PSs (cxOf (L2.CX P w) P w K mg base N qual (C8.fnScope st) f cdv A out s H E).nox (C8.fnBody st) t ∧ t { nx := fun _ H' => Q .non H', rt := Q } (start N vs) H) : Mak P w K mg base (k + 1) x C sp dvs := by
  obtain ⟨f, fd, ds, M, F, g, b, v⟩ := D.ex
  exact ⟨f, fd, ps, ds, M, fnG0 F S len (hb f), g, b, v⟩
theorem makX (D : MakAt K mg x C qual st ps dvs) (S : FnScope N ps (C8.fnScope st)) (len : ∀ vs H Q E, sp vs H Q E → vs.length = ps.length)
    (hb : ∀ (f : Addr) (cdv : Value) (A : Around) (out : List Env) (s : Shared) (H : Hp) (vs : List V) (Q : VK) (E : XK), Rm k (A.deeper (envOfC qual (C8.fnScope st) s.heap.objs.size f cdv)) → sp vs H Q E →
      ∃ t, PSs (cxOf (L2.CX P w) P w K mg base N qual (C8.fnScope st) f cdv A out s H E) (C8.fnBody st) t ∧ t { nx := fun _ H' => Q .non H', rt := Q } (start N vs) H) : Mak P w K mg base (k + 1) x C sp dvs := by
  obtain ⟨f, fd, ds, M, F, g, b, v⟩ := D.ex
  exact ⟨f, fd, ps, ds, M, fnGX F S len (hb f), g, b, v⟩
end
section
variable {X : Cx} {k j : Nat} {C : Addr} {x m : Str} {sp : Sp} {dvs : List V} {p pos apos : Pos} {e o : Expr} {es : List Expr} {ta : TE} {t : TA}
theorem pe_c (c : Cal X.prog X.w X.K X.mg X.base k x sp dvs) (hr : Rm j X.A) (hk : k ≤ j) (hg : Gl X x) (ha : PA X (e :: es) t) (hdb : (x == ("__debug__" : Str)) = false := by decide)
    (he : starEach (e :: es) X.env = (false, eval e X.env) :: starEach es X.env := by rfl) (hpl : (backTo pos (starEach es X.env)).any (·.1) = false := by rfl) : PE X (.Call (.Name x p) (e :: es) [] pos) (tCall sp dvs E0 t) := by
  obtain ⟨f, fd, ps, ds, F, hm, kp, b, d⟩ := c.ex
  constructor
  intro pins s σ H Q I h
  refine wpAny_Call_Name_kw (ld_glob I hg hm ?_ hdb)
  refine PySem.W.callWith_K (h₀ := X.base) I.ok.mod.kin kp (thn (ha.run pos pins s σ H _ I h) ?_) he hpl
  rintro us s1 ⟨vs, H1, I1, r, q⟩
  exact ⟨I1.kIn, runG F (hr.mono hk) b d (passL _ _) I1 r q⟩
theorem pe_c0 (c : Cal X.prog X.w X.K X.mg X.base k x sp dvs) (hr : Rm j X.A) (hk : k ≤ j) (hg : Gl X x) (hdb : (x == ("__debug__" : Str)) = false := by decide) : PE X (.Call (.Name x p) [] [] pos) (tCall sp dvs E0 tNil) := by
  obtain ⟨f, fd, ps, ds, F, hm, kp, b, d⟩ := c.ex
  constructor
  intro pins s σ H Q I h
  exact wpAny_Call_Name_kw (ld_glob I hg hm (PySem.W.callWith_K0 I.kIn kp (runG (us := []) (vs := []) F (hr.mono hk) b d (passL _ _) I .nil h)) hdb)
theorem pe_mk (c : Mak X.prog X.w X.K X.mg X.base k x C sp dvs) (hr : Rm j X.A) (hk : k + 1 ≤ j) (hg : Gl X x) (ha : PA X (e :: es) t) (hdb : (x == ("__debug__" : Str)) = false := by decide)
    (he : starEach (e :: es) X.env = (false, eval e X.env) :: starEach es X.env := by rfl) (hpl : (backTo pos (starEach es X.env)).any (·.1) = false := by rfl) : PE X (.Call (.Name x p) (e :: es) [] pos) (tMake C sp dvs E0 t) := by
  obtain ⟨f, fd, ps, ds, M, F, hm, b, d⟩ := c.ex
  constructor
  intro pins s σ H Q I h
  refine wpAny_Call_Name_kw (ld_glob I hg hm ?_ hdb)
  refine PySem.W.callWith_K (h₀ := X.base) I.ok.mod.kin M.kp (thn (ha.run pos pins s σ H _ I h) ?_) he hpl
  rintro us s1 ⟨vs, H1, I1, r, q⟩
  exact ⟨I1.kIn, makeG M F (hr.mono hk) b d (passL _ _) I1 r q⟩
theorem pe_mk0 (c : Mak X.prog X.w X.K X.mg X.base k x C sp dvs) (hr : Rm j X.A) (hk : k + 1 ≤ j) (hg : Gl X x) (hdb : (x == ("__debug__" : Str)) = false := by decide) : PE X (.Call (.Name x p) [] [] pos) (tMake C sp dvs E0 tNil) := by
  obtain ⟨f, fd, ps, ds, M, F, hm, b, d⟩ := c.ex
  constructor
  intro pins s σ H Q I h
  exact wpAny_Call_Name_kw (ld_glob I hg hm (PySem.W.callWith_K0 I.kIn M.kp (makeG (us := []) (vs := []) M F (hr.mono hk) b d (passL _ _) I .nil h)) hdb)
theorem pe_mt {pl : Sem Bool} (c : Met X.prog X.w X.K X.mg X.base k C m sp dvs) (hr : Rm j X.A) (hk : k ≤ j) (he : PE X o ta) (ha : PA X (e :: es) t)
    (hst : starEach (e :: es) X.env = (false, eval e X.env) :: starEach es X.env := by rfl) (hpl : (backTo pos (starEach es X.env)).any (·.1) = false := by rfl)
    (ht : eval (.Call (.Attribute o m apos) (e :: es) [] pos) X.env = (do
      let ov ← eval o X.env
      standAt apos.atName
      let (g, first) ← holding [ov] (getMethod ov m pl)
      callWith pos g first (backTo pos (starEach (e :: es) X.env)) (backToKw pos (keywordEach [] X.env))) := by rfl) : PE X (.Call (.Attribute o m apos) (e :: es) [] pos) (tMeth C m sp dvs E0 ta t) := by
  obtain ⟨f, fd, ps, ds, hc, hm, F, b, d⟩ := c.ex
  constructor
  intro pins s σ H Q I h
  refine PySem.W.methodCall_KW (pl := pl) (thn (he.run pins s σ H _ I h) ?_) ht
  rintro u s1 ⟨x, H1, I1, rx, a, dx, fs, rfl, ea, l, q⟩
  cases rx
  refine getmeth_ok I1 ea hc hm l ?_
  refine PySem.W.callWith_K (first := [.ref a]) (h₀ := X.base) I.ok.mod.kin hm.kp (thn (ha.run pos pins s1 σ H1 _ I1 q) ?_) hst hpl
  rintro us s2 ⟨vs, H2, I2, r, q2⟩
  exact ⟨I2.kIn, runG (us := .ref a :: us) (vs := .ref a :: vs) F (hr.mono hk) b d (passL _ _) I2 (Paired.cons rfl r) q2⟩
theorem pe_mt0 {pl : Sem Bool} (c : Met X.prog X.w X.K X.mg X.base k C m sp dvs) (hr : Rm j X.A) (hk : k ≤ j) (he : PE X o ta)
    (ht : eval (.Call (.Attribute o m apos) [] [] pos) X.env = (do
      let ov ← eval o X.env
      standAt apos.atName
      let (g, first) ← holding [ov] (getMethod ov m pl)
      callWith pos g first (backTo pos (starEach [] X.env)) (backToKw pos (keywordEach [] X.env))) := by rfl) : PE X (.Call (.Attribute o m apos) [] [] pos) (tMeth C m sp dvs E0 ta tNil) := by
  obtain ⟨f, fd, ps, ds, hc, hm, F, b, d⟩ := c.ex
  constructor
  intro pins s σ H Q I h
  refine PySem.W.methodCall_KW (pl := pl) (thn (he.run pins s σ H _ I h) ?_) ht
  rintro u s1 ⟨x, H1, I1, rx, a, dx, fs, rfl, ea, l, q⟩
  cases rx
  refine getmeth_ok I1 ea hc hm l ?_
  exact PySem.W.callWith_K0 (first := [.ref a]) I1.kIn hm.kp (runG (us := [.ref a]) (vs := [.ref a]) F (hr.mono hk) b d (passL _ _) I1 (Paired.cons rfl .nil) q)
end

/-! ### operators by the text's own methods -/
section
variable {X : Cx} {k j : Nat} {C : Addr} {m : Str} {sp : Sp}
theorem cmpBack_of {pins : List (Addr × Obj)} {σ : L2.St} {Q : VK} {u : Value} {s : Shared} (h : EP X pins σ Q u s) : PySem.W.CmpBack (EP X pins σ Q) u s := by
  obtain ⟨v, H', I, r, q⟩ := id h
  cases v <;> first | (cases r; exact h) | (obtain ⟨_, rfl⟩ := r; exact h)
/-- two instances of the class at C -/
def rOwn2 (C : Addr) (sp : Sp) : R2 := fun x y H Q => ∃ a b dx fs dy gs, x = .ref a ∧ y = .ref b ∧ H a = some (.ins C dx fs) ∧ H b = some (.ins C dy gs) ∧ sp [.ref a, .ref b] H Q E0
theorem op_own2 {op : Operator} (c : Met X.prog X.w X.K X.mg X.base k C m sp []) (hsf : PySem.W.selfFirst X.K C = true) (hr : Rm j X.A) (hk : k ≤ j) (hm : PySem.dunder op.info.2 = m := by rfl) : OpR X (binaryOp op) (rOwn2 C sp) := by
  intro pins s σ H x y v u Q I rx ry h
  obtain ⟨a, b, dx, fs, dy, gs, rfl, rfl, ha, hb, want⟩ := h
  cases rx; cases ry
  obtain ⟨f, fd, ps, ds, hc, me, F, bd, dv⟩ := c.ex
  obtain ⟨mA, J, _⟩ := ins_get I.hok ha
  obtain ⟨mB, J', _⟩ := ins_get I.hok hb
  obtain ⟨od, J, _⟩ := J.look
  obtain ⟨od', J', _⟩ := J'.look
  obtain ⟨mm, hF⟩ := I.fr
  subst hm
  refine PySem.W.binop_K hF I.ok.mod.kin J J'.type hsf me.at_ me.fn ?_
  refine wpAny_mono (runG (us := [.ref a, .ref b]) (vs := [.ref a, .ref b]) F (hr.mono hk) bd dv (passL _ _) I (.cons rfl (.cons rfl .nil)) ?_) (fun _ _ z => cmpBack_of z) fun _ _ z => z
  simpa using want
/-- what an int (and any such built-in) has of an operator -/
structure OpT (K : PySem.W.Frag) (C : Addr) (T : String) (op : Operator) : Prop where
  r : ∃ rc : Option Value, PySem.W.findIn K (.ref C) (dunderR op.info.2) = some rc ∧ (rc = none ∨ ∃ g : Addr, rc = some (.ref g))
  f : ∃ fo : Option Value, PySem.W.findIn K (.type T) (PySem.dunder op.info.2) = some fo
  g : ∃ ro : Option Value, PySem.W.findIn K (.type T) (dunderR op.info.2) = some ro
  s : PySem.W.subIn K (.type T) (.ref C) = some false
/-- an instance and an int -/
def rOwnI (C : Addr) (sp : Sp) : R2 := fun x y H Q => ∃ a dx fs i, x = .ref a ∧ y = .int i ∧ H a = some (.ins C dx fs) ∧ sp [.ref a, .int i] H Q E0
theorem op_ownI {op : Operator} (c : Met X.prog X.w X.K X.mg X.base k C m sp []) (hsf : PySem.W.selfFirst X.K C = true) (ht : OpT X.K C "int" op) (hr : Rm j X.A) (hk : k ≤ j) (hm : PySem.dunder op.info.2 = m := by rfl) : OpR X (binaryOp op) (rOwnI C sp) := by
  intro pins s σ H x y v u Q I rx ry h
  obtain ⟨a, dx, fs, i, rfl, rfl, ha, want⟩ := h
  cases rx; obtain ⟨tk, rfl⟩ := ry
  obtain ⟨f, fd, ps, ds, hc, me, F, bd, dv⟩ := c.ex
  obtain ⟨mA, J, _⟩ := ins_get I.hok ha
  obtain ⟨od, J, _⟩ := J.look
  obtain ⟨mm, hF⟩ := I.fr
  obtain ⟨⟨rc, h1, h2⟩, ⟨fo, h3⟩, ⟨ro, h4⟩, h5⟩ := ht
  subst hm
  refine PySem.W.ksp_binT (T := "int") hF I.ok.mod.kin J rfl hsf me.at_ me.fn h1 h2 h3 h4 h5 ?_
  refine wpAny_mono (runG (us := [.ref a, .int i tk]) (vs := [.ref a, .int i]) F (hr.mono hk) bd dv (passL _ _) I (.cons rfl (.cons ⟨tk, rfl⟩ .nil)) ?_) (fun _ _ z => cmpBack_of z) fun _ _ z => z
  simpa using want
/-- - of an instance -/
def rOwn1 (C : Addr) (sp : Sp) : V → Hp → VK → Prop := fun x H Q => ∃ a dx fs, x = .ref a ∧ H a = some (.ins C dx fs) ∧ sp [.ref a] H Q E0
theorem un_own (c : Met X.prog X.w X.K X.mg X.base k C "__neg__" sp []) (hr : Rm j X.A) (hk : k ≤ j) : UnR X (unaryOp .USub) (rOwn1 C sp) := by
  intro pins s σ H x v Q I rx h
  obtain ⟨a, dx, fs, rfl, ha, want⟩ := h
  cases rx
  obtain ⟨f, fd, ps, ds, hc, me, F, bd, dv⟩ := c.ex
  obtain ⟨mA, J, _⟩ := ins_get I.hok ha
  obtain ⟨od, J, _⟩ := J.look
  obtain ⟨mm, hF⟩ := I.fr
  refine PySem.W.ksp_neg hF I.ok.mod.kin J me.at_ me.fn ?_
  exact runG (us := [.ref a]) (vs := [.ref a]) F (hr.mono hk) bd dv (passL _ _) I (.cons rfl .nil) (by simpa using want)
end

/-! ### repr of data -/
section
variable {X : Cx} {j : Nat}
def rRepr (K : PySem.W.Frag) : List V → Hp → VK → Prop := fun xs H Q => ∃ (x : V) (d : PyData), xs = [x] ∧ Dp K H x d ∧ d.showable = true ∧ d.depth ≤ 60 ∧ d.shown.length ≤ sizeLine ∧ Q (.str d.shown) H
mutual
theorem noDict {K : PySem.W.Frag} {H : Hp} : ∀ {d : PyData} {x : V}, Dp K H x d → d.hasDict = false
  | _, _, .non => rfl
  | _, _, .bl _ => rfl
  | _, _, .int _ => rfl
  | _, _, .str _ => rfl
  | _, _, .lst _ h => by simpa [PyData.hasDict] using noDicts h
  | _, _, .tup _ h => by simpa [PyData.hasDict] using noDicts h
theorem noDicts {K : PySem.W.Frag} {H : Hp} : ∀ {ds : List PyData} {xs : List V}, DpAll K H xs ds → PyData.hasDictAll ds = false
  | _, _, .nil => rfl
  | _, _, .cons h r => by simp [PyData.hasDictAll, noDict h, noDicts r]
end
theorem call_repr (hr : Rm j X.A) : CallR X (.builtin "repr") (rRepr X.K) := by
  intro pins s σ H xs us Q I r h
  obtain ⟨x, d, rfl, hd, hs, hdp, hz, q⟩ := h
  obtain ⟨u, rfl, ru⟩ := vals1 r
  have un := hr.room.units
  cases hd with
  | non =>
    cases ru
    exact P.repr_of_none ⟨.str _, H, I.tok _, ⟨_, rfl⟩, q⟩
  | bl b =>
    cases ru
    refine P.repr_of_bool ⟨.str _, H, I.tok _, ⟨_, rfl⟩, ?_⟩
    simpa [PyData.shown] using q
  | int i =>
    obtain ⟨t, rfl⟩ := ru
    refine P.repr_of_int (by simpa [PyData.showable] using hs) ⟨.str _, H, I.tok _, ⟨_, rfl⟩, ?_⟩
    simpa [PyData.shown] using q
  | str x =>
    obtain ⟨t, rfl⟩ := ru
    refine P.repr_of_str ⟨.str _, H, I.tok _, ⟨_, rfl⟩, ?_⟩ (by simpa [PyData.shown] using hz)
    simpa [PyData.shown] using q
  | lst hsq ha =>
    have nd := noDict (.lst hsq ha)
    obtain ⟨as, rd⟩ := Dp.reads I _ _ _ (.lst hsq ha) ru
    cases ru
    refine repr_of_reads' rd hs (fun z => by rw [nd] at z; cases z) hr.gd (by omega) (fun _ _ z => z) (fun h' u tk k => ?_) hz
    exact ⟨.str _, H, I.kept k, ⟨_, rfl⟩, q⟩
  | tup hsq ha =>
    have nd := noDict (.tup hsq ha)
    obtain ⟨as, rd⟩ := Dp.reads I _ _ _ (.tup hsq ha) ru
    cases ru
    refine repr_of_reads' rd hs (fun z => by rw [nd] at z; cases z) hr.gd (by omega) (fun _ _ z => z) (fun h' u tk k => ?_) hz
    exact ⟨.str _, H, I.kept k, ⟨_, rfl⟩, q⟩
end

/-! ### built-in functions, by named readings -/
section
variable {X : Cx}
def rInt : List V → Hp → VK → Prop := fun xs H Q => (∃ i, xs = [.int i] ∧ Q (.int i) H) ∨ ∃ k, xs = [.bl k] ∧ Q (.int (if k then 1 else 0)) H
theorem c_int : CallR X (.type "int") rInt := call_int1
def rAbs : List V → Hp → VK → Prop := fun xs H Q => ∃ i, xs = [.int i] ∧ Q (.int (if i < 0 then -i else i)) H
theorem c_abs : CallR X (.builtin "abs") rAbs := call_abs
def rLenQ (K : PySem.W.Frag) : List V → Hp → VK → Prop := fun xs H Q => ∃ p ys, xs = [.ref p] ∧ (SqL K H p ys ∨ SqT K H p ys) ∧ Q (.int ys.length) H
theorem c_len : CallR X (.builtin "len") (rLenQ X.K) := call_len_seq
def rLenT : List V → Hp → VK → Prop := fun xs H Q => ∃ z, xs = [.str z] ∧ z.length ≤ sizeLine ∧ Q (.int z.length) H
theorem c_lenS : CallR X (.builtin "len") rLenT := call_len_str
def rListOf (K : PySem.W.Frag) : List V → Hp → VK → Prop := fun xs H Q => ∃ p ys, xs = [.ref p] ∧ (SqL K H p ys ∨ SqT K H p ys) ∧ ∀ l, H l = none → Q (.ref l) (upd H l (.lst ys))
theorem c_list : CallR X (.type "list") (rListOf X.K) := call_list_of
variable {K : PySem.W.Frag} {σ : L2.St} {H : Hp} {Q : VK}
theorem r_int {i : Int} (h : Q (.int i) H) : rInt [.int i] H Q := .inl ⟨i, rfl, h⟩
theorem r_intB {b : Bool} (h : Q (.int (if b then 1 else 0)) H) : rInt [.bl b] H Q := .inr ⟨b, rfl, h⟩
theorem r_abs {i : Int} (h : Q (.int (if i < 0 then -i else i)) H) : rAbs [.int i] H Q := ⟨i, rfl, h⟩
theorem r_lenL {p : Addr} {ys : List V} (h0 : H p = some (.lst ys)) (h : Q (.int ys.length) H) : rLenQ K [.ref p] H Q := ⟨p, ys, rfl, .inl (SqL.of h0), h⟩
theorem r_lenT {p : Addr} {ys : List V} (h0 : H p = some (.tup ys)) (h : Q (.int ys.length) H) : rLenQ K [.ref p] H Q := ⟨p, ys, rfl, .inr (SqT.of h0), h⟩
theorem r_lenSq {p : Addr} {ys : List V} (h0 : SqL K H p ys) (h : Q (.int ys.length) H) : rLenQ K [.ref p] H Q := ⟨p, ys, rfl, .inl h0, h⟩
theorem r_lenS {z : Str} (h0 : z.length ≤ sizeLine) (h : Q (.int z.length) H) : rLenT [.str z] H Q := ⟨z, rfl, h0, h⟩
theorem r_listL {p : Addr} {ys : List V} (h0 : SqL K H p ys) (h : ∀ l H', Same H H' → H' l = some (.lst ys) → H l = none → Q (.ref l) H') : rListOf K [.ref p] H Q := ⟨p, ys, rfl, .inl h0, al h⟩
theorem r_ixL' {p : Addr} {xs : List V} {i : Int} {v : V} (h0 : H p = some (.lst xs)) (h1 : atI xs i = some v) (h : Q v H) : rIxL K (.ref p) (.int i) H Q := r_ixL (SqL.of h0) h1 h
theorem r_ixT' {p : Addr} {xs : List V} {i : Int} {v : V} (h0 : H p = some (.tup xs)) (h1 : atI xs i = some v) (h : Q v H) : rIxT K (.ref p) (.int i) H Q := r_ixT (SqT.of h0) h1 h
theorem u_tup' {tA : TA} (h : tA σ H fun xs H1 => xs.length ≤ sizeLine ∧ ∀ p H', Same H1 H' → H' p = some (.tup xs) → H1 p = none → Q (.ref p) H') : ∀ (hm : ∀ (R R' : List V → Hp → Prop), (∀ xs H1, R xs H1 → R' xs H1) → tA σ H R → tA σ H R'), tTup tA σ H Q :=
  fun hm => hm _ _ (fun xs H1 z => ⟨z.1, al z.2⟩) h
def kLst (Q : VK) : List V → Hp → Prop := fun xs H1 => xs.length ≤ sizeLine ∧ ∀ p, H1 p = none → Q (.ref p) (upd H1 p (.lst xs))
def kTup (Q : VK) : List V → Hp → Prop := fun xs H1 => xs.length ≤ sizeLine ∧ ∀ p, H1 p = none → Q (.ref p) (upd H1 p (.tup xs))
theorem u_lstK {tA : TA} (h : tA σ H (kLst Q)) : tLst tA σ H Q := h
theorem u_tupK {tA : TA} (h : tA σ H (kTup Q)) : tTup tA σ H Q := h
theorem k_lst {xs : List V} (h0 : xs.length ≤ 1000) (h : ∀ p H', Same H H' → H' p = some (.lst xs) → H p = none → Q (.ref p) H') : kLst Q xs H := ⟨Nat.le_trans h0 (by decide), al h⟩
theorem k_tup {xs : List V} (h0 : xs.length ≤ 1000) (h : ∀ p H', Same H H' → H' p = some (.tup xs) → H p = none → Q (.ref p) H') : kTup Q xs H := ⟨Nat.le_trans h0 (by decide), al h⟩
def kPar (D : Ends) (σ : L2.St) (i j : Nat) : List V → Hp → Prop := fun vs H1 => ∃ v w, vs = [v, w] ∧ D.nx ((σ.set i (some v)).set j (some w)) H1
theorem u_parK {D : Ends} {tA : TA} {i j : Nat} (h : tA σ H (kPar D σ i j)) : tPar i j tA D σ H := h
theorem k_par {D : Ends} {i j : Nat} {v w : V} (h : D.nx ((σ.set i (some v)).set j (some w)) H) : kPar D σ i j [v, w] H := ⟨v, w, rfl, h⟩
end
/-- K of a body's context -/
theorem cxK (CX : CXT) (P : Program) (w : World) (K : PySem.W.Frag) (mg : Str → Option Value) (base : Heap) (N : List Str) (q : Str) (sc : Scope) (f : Addr) (cd : Value) (A : Around) (out : List Env) (s : Shared) (H : Hp) (E : XK) :
    (cxOf CX P w K mg base N q sc f cd A out s H E).nox.K = K := rfl
theorem cxK' (CX : CXT) (P : Program) (w : World) (K : PySem.W.Frag) (mg : Str → Option Value) (base : Heap) (N : List Str) (q : Str) (sc : Scope) (f : Addr) (cd : Value) (A : Around) (out : List Env) (s : Shared) (H : Hp) (E : XK) :
    (cxOf CX P w K mg base N q sc f cd A out s H E).K = K := rfl

/-! ### ints with conditions -/
section
variable {H : Hp} {Q : VK}
theorem r_mod {i j : Int} (h0 : 0 < j) (h : 0 ≤ i % j → i % j < j → Q (.int (i % j)) H) : rI (fun _ j => 0 < j) (fun i j => .int (i % j)) (.int i) (.int j) H Q :=
  ⟨i, j, rfl, rfl, h0, h (Int.emod_nonneg i (by omega)) (Int.emod_lt_of_pos i h0)⟩
theorem r_mul {i j : Int} (h0 : (-18446744073709551616 < i ∧ i < 18446744073709551616) ∨ (-18446744073709551616 < j ∧ j < 18446744073709551616)) (h : Q (.int (i * j)) H) : rI CMul (fun i j => .int (i * j)) (.int i) (.int j) H Q :=
  ⟨i, j, rfl, rfl, h0.imp (fun z => ⟨by omega, by omega⟩) (fun z => ⟨by omega, by omega⟩), h⟩
theorem r_div {i j : Int} (h0 : 0 < j) (h1 : j < 18446744073709551616) (h : Q (.int (i / j)) H) : rI CDivW (fun i j => .int (i / j)) (.int i) (.int j) H Q :=
  ⟨i, j, rfl, rfl, wide_div (b := 64) h0 (by omega) (by decide) (by decide), h⟩
theorem r_pow {i j z : Int} (h0 : 0 ≤ j) (h1 : j ≤ 1000000) (h2 : -18446744073709551616 < i ∧ i < 18446744073709551616) (hz : i ^ j.toNat = z) (h : Q (.int z) H) : rI CPow (fun i j => .int (i ^ j.toNat)) (.int i) (.int j) H Q :=
  ⟨i, j, rfl, rfl, ⟨h0, h1, by omega⟩, by dsimp only; rw [hz]; exact h⟩
theorem SP.pen {p L : Addr} {a r a' r' : Int} (hp : H p = some (.lst [.ref L, .int a, .int r])) : SP H (upd H p (.lst [.ref L, .int a', .int r'])) := by
  refine ⟨fun b u e n => ?_, fun b M x y e => ?_⟩
  · have : b ≠ p := fun q => by
      rw [q, hp] at e
      cases e
      cases n
    rw [upd_ne this]
    exact e
  · by_cases q : b = p
    · rw [q, hp] at e
      cases e
      exact ⟨a', r', by rw [q]; exact upd_same⟩
    · exact ⟨x, y, by rw [upd_ne q]; exact e⟩
theorem penL {p L : Addr} {a r a' r' : Int} {ns : List Int} (hp : H p = some (.lst [.ref L, .int a, .int r])) (hL : H L = some (.lst (ns.map V.int))) : upd H p (.lst [.ref L, .int a', .int r']) L = some (.lst (ns.map V.int)) :=
  (SP.pen hp).tr hL (isPen_ints ns)
/-- a new list beside the pen, later written -/
theorem PenAt.upd {H2 H4 : Hp} {p D : Addr} {n m : Nat} {o : HO} (hD : H2 D = none) (h2 : PenAt H2 p n) (s : SP H2 H4) (h4 : PenAt H4 p m) : PenAt (upd H4 D o) p m := by
  obtain ⟨L0, a0, r0, ns0, e0, l0, _⟩ := h2
  obtain ⟨L, a, r, ns, e1, l1, h⟩ := h4
  obtain ⟨a1, r1, e2⟩ := s.2 p L0 a0 r0 e0
  rw [e1] at e2
  cases e2
  exact ⟨_, _, _, ns, by rw [upd_ne (ne_of_none e0 hD)]; exact e1, by rw [upd_ne (ne_of_none l0 hD)]; exact l1, h⟩
end

/-! ### lists of ints as data -/
theorem canLay_ints : ∀ ns : List Int, PyData.canLayAll0 (ns.map PyData.int) = true
  | [] => rfl
  | a :: r => by simp [PyData.canLayAll0, PyData.canLay0, canLay_ints r]
theorem depth_ints : ∀ ns : List Int, PyData.depthAll (ns.map PyData.int) = 0
  | [] => rfl
  | a :: r => by simp [PyData.depthAll, PyData.depth, depth_ints r]
theorem shaped_ints (ns : List Int) : SeqAt.shaped (.list (ns.map PyData.int)) = true := by
  simp [SeqAt.shaped, PyData.canLay0, PyData.depth, canLay_ints, depth_ints]
theorem dp_ints {K : PySem.W.Frag} {H : Hp} : ∀ ns : List Int, DpAll K H (ns.map V.int) (ns.map PyData.int)
  | [] => .nil
  | a :: r => .cons (.int a) (dp_ints r)
theorem r_ne0 {K : PySem.W.Frag} {H : Hp} {Q : VK} {a b : Addr} {ns : List Int} (h1 : H a = some (.lst (ns.map V.int))) (h2 : H b = some (.lst [])) (h : Q (.bl (!decide (ns = []))) H) : rNeD K (.ref a) (.ref b) H Q := by
  refine ⟨.list (ns.map .int), .list [], .lst (SqL.of h1) (dp_ints ns), .lst (SqL.of h2) .nil, shaped_ints ns, rfl, ?_⟩
  cases ns with
  | nil => simpa [PyData.eqv, PyData.eqvAll] using h
  | cons a r => simpa [PyData.eqv, PyData.eqvAll] using h

/-! ### bounds of the draws -/
theorem mulB {x y X Y : Int} (h0 : 0 ≤ x) (h1 : x ≤ X) (h2 : 0 ≤ y) (h3 : y ≤ Y) : 0 ≤ x * y ∧ x * y ≤ X * Y :=
  ⟨Int.mul_nonneg h0 h2, Int.mul_le_mul h1 h3 h2 (Int.le_trans h0 h1)⟩
theorem drawB {m b c a d : Int} (hm0 : 0 ≤ m) (hm : m < 4294967296) (hb0 : 0 ≤ b) (hb : b ≤ 100000000) (ha0 : 0 ≤ a) (ha : a ≤ 1000001) (hc0 : 0 ≤ c) (hc : c ≤ 1000000) (hd0 : 0 ≤ d) (hd : d ≤ 1000000) :
    -18446744073709551616 < m * b + c * a * a + d ∧ m * b + c * a * a + d < 18446744073709551616 := by
  obtain ⟨h1, h2⟩ := mulB hm0 (Int.le_of_lt hm) hb0 hb
  obtain ⟨h3, h4⟩ := mulB hc0 hc ha0 ha
  obtain ⟨h5, h6⟩ := mulB h3 h4 ha0 ha
  omega
theorem atI_ints {ns : List Int} {a : Int} (h0 : 0 ≤ a) (h1 : a < (ns.length : Int)) : ∃ c, atI (ns.map V.int) a = some (.int c) := by
  have hj : a.toNat < ns.length := by omega
  refine ⟨ns[a.toNat], ?_⟩
  have e : a = ((a.toNat : Nat) : Int) := by omega
  have z := atI_nat (xs := ns.map V.int) (j := a.toNat) (v := .int ns[a.toNat]) (by rw [List.getElem?_map, List.getElem?_eq_getElem hj]; rfl)
  rw [← e] at z
  exact z

/-! ### instances compared and called; static methods -/
section
variable {X : Cx} {k j : Nat} {C p g : Addr} {m x : Str} {sp : Sp} {mc : Value}
theorem op_ownEq (c : Met X.prog X.w X.K X.mg X.base k C "__eq__" sp []) (hr : Rm j X.A) (hk : k ≤ j) : OpR X (compareOp .Eq) (rOwn2 C sp) := by
  intro pins s σ H x y v u Q I rx ry h
  obtain ⟨a, b, dx, fs, dy, gs, rfl, rfl, ha, hb, want⟩ := h
  cases rx; cases ry
  obtain ⟨f, fd, ps, ds, hc, me, F, bd, dv⟩ := c.ex
  obtain ⟨mA, J, _⟩ := ins_get I.hok ha
  obtain ⟨mB, J', _⟩ := ins_get I.hok hb
  obtain ⟨od, J, _⟩ := J.look
  obtain ⟨od', J', _⟩ := J'.look
  obtain ⟨mm, hF⟩ := I.fr
  show wpAny (model X.prog X.w) X.A (richCompare .Eq (.ref a) (.ref b)) (EP X pins σ Q) X.xe s
  refine PySem.W.cmp_K (op := .Eq) (tb := .ref C) hr.room.units0 hF I.ok.mod.kin J J'.type (by simp [PySem.W.notFirst]) me.at_ me.fn ?_
  refine wpAny_mono (runG (us := [.ref a, .ref b]) (vs := [.ref a, .ref b]) F (hr.mono hk) bd dv (passL _ _) I (.cons rfl (.cons rfl .nil)) ?_) (fun _ _ z => cmpBack_of z) fun _ _ z => z
  simpa using want
/-- f(e, ..), f an instance of the class at C -/
def tOwnC (C : Addr) (sp : Sp) (tf : TE) (t : TA) : TE := fun σ H Q => tf σ H fun y H1 => ∃ a, y = .ref a ∧ t σ H1 fun vs H2 => (∃ dx fs, H2 a = some (.ins C dx fs)) ∧ sp (.ref a :: vs) H2 Q E0
theorem goOwn {pins : List (Addr × Obj)} {σ : L2.St} {H : Hp} {s : Shared} {Q : VK} {a : Addr} {us : List Value} {vs : List V} (c : Met X.prog X.w X.K X.mg X.base k C "__call__" sp []) (fi : ∀ f, PySem.W.findIn X.K (.ref C) "__call__" = some (some (.ref f)) → PySem.W.fnIn X.K f = true)
    (hr : Rm j X.A) (hk : k ≤ j) (I : Inv X pins σ H s) (hi : ∃ dx fs, H a = some (.ins C dx fs)) (r : Vals vs us) (h : sp (.ref a :: vs) H Q E0) : wpAny (model X.prog X.w) X.A (call (.ref a) us) (EP X pins σ Q) X.xe s := by
  obtain ⟨f, fd, ps, ds, hc, me, F, bd, dv⟩ := c.ex
  obtain ⟨dx, fs, ha⟩ := hi
  obtain ⟨mA, J, _⟩ := ins_get I.hok ha
  obtain ⟨od, J, _⟩ := J.look
  have r2 : Vals (.ref a :: vs) (.ref a :: us) := Paired.cons rfl r
  have dn : ds = [] := by cases dv; rfl
  subst dn
  have hl : (Value.ref a :: us ++ []).length = ps.length := by
    rw [List.append_nil]
    exact r2.length.symm.trans (F.len _ _ _ _ h)
  have b2 := bd s (.ref a :: us) I.kIn hl
  rw [List.append_nil] at b2
  refine wpAny_call (PySem.W.kco_code I.kIn J rfl me.at_ me.fn (fi f me.at_) (codeAny_mono (F.run X.A X.stack s H ⟨.ref a :: us, []⟩ (.ref a :: us) (.ref a :: vs) Q E0 (hr.mono hk) I.env0 b2 r2 h) ?_))
  intro res s' z
  match res, z with
  | .error e, z => exact passL pins σ H s e s' I z
  | .ok (.ret u), z => exact I.after z
  | .ok .next, z => exact False.elim z
  | .ok .brk, z => exact False.elim z
  | .ok .cont, z => exact False.elim z
variable {e fe o : Expr} {es : List Expr} {tf ta : TE} {t : TA} {pp pos apos : Pos}
theorem pe_ownN (c : Met X.prog X.w X.K X.mg X.base k C "__call__" sp []) (fi : ∀ f, PySem.W.findIn X.K (.ref C) "__call__" = some (some (.ref f)) → PySem.W.fnIn X.K f = true) (hr : Rm j X.A) (hk : k ≤ j) (hf : PE X (.Name x pp) tf) (ha : PA X (e :: es) t)
    (he : starEach (e :: es) X.env = (false, eval e X.env) :: starEach es X.env := by rfl) (hpl : (backTo pos (starEach es X.env)).any (·.1) = false := by rfl) : PE X (.Call (.Name x pp) (e :: es) [] pos) (tOwnC C sp tf t) := by
  constructor
  intro pins s σ H Q I h
  refine wpAny_Call_Name_kw (thn (hf.run pins s σ H _ I h) ?_)
  rintro u s1 ⟨y, H1, I1, ry, a, rfl, q⟩
  cases ry
  refine StX.callO_with (thn (ha.run pos pins s1 σ H1 _ I1 q) ?_) he hpl
  rintro us s2 ⟨vs, H2, I2, r, hi, q2⟩
  obtain ⟨dx, fs, hh⟩ := id hi
  obtain ⟨mA, J, _⟩ := ins_get I2.hok hh
  obtain ⟨od, J, _⟩ := J.look
  exact ⟨⟨C, _, _, J, rfl⟩, goOwn c fi hr hk I2 hi r q2⟩
theorem pe_ownE (c : Met X.prog X.w X.K X.mg X.base k C "__call__" sp []) (fi : ∀ f, PySem.W.findIn X.K (.ref C) "__call__" = some (some (.ref f)) → PySem.W.fnIn X.K f = true) (hr : Rm j X.A) (hk : k ≤ j) (hf : PE X fe tf) (ha : PA X (e :: es) t)
    (ht : eval (.Call fe (e :: es) [] pos) X.env = (do callWith pos (← eval fe X.env) [] (backTo pos (starEach (e :: es) X.env)) (backToKw pos (keywordEach [] X.env))) := by rfl)
    (he : starEach (e :: es) X.env = (false, eval e X.env) :: starEach es X.env := by rfl) (hpl : (backTo pos (starEach es X.env)).any (·.1) = false := by rfl) : PE X (.Call fe (e :: es) [] pos) (tOwnC C sp tf t) := by
  constructor
  intro pins s σ H Q I h
  refine Call_ (thn (hf.run pins s σ H _ I h) ?_) ht
  rintro u s1 ⟨y, H1, I1, ry, a, rfl, q⟩
  cases ry
  refine StX.callO_with (thn (ha.run pos pins s1 σ H1 _ I1 q) ?_) he hpl
  rintro us s2 ⟨vs, H2, I2, r, hi, q2⟩
  obtain ⟨dx, fs, hh⟩ := id hi
  obtain ⟨mA, J, _⟩ := ins_get I2.hok hh
  obtain ⟨od, J, _⟩ := J.look
  exact ⟨⟨C, _, _, J, rfl⟩, goOwn c fi hr hk I2 hi r q2⟩
/-- C.m, a static method: its record at p, its def at g -/
structure SMet (K : PySem.W.Frag) (C : Addr) (mc : Value) (m : Str) (p g : Addr) : Prop where
  rd : PySem.W.readsIn K C mc = true
  ga : PySem.W.specialIn K (.ref C) "__getattribute__" = some (some (.builtin "type.__getattribute__"))
  at_ : PySem.W.findCls K (.ref C) mc m = some (.get (.builtin "staticmethod.__get__") (.ref p) .none (.ref C))
  rc : ∃ rest, PySem.W.recIn K p "staticmethod" = some (.ref g :: rest)
  kp : PySem.W.keepIn K (.ref g) = true
/-- a static method's promise -/
structure Sta (P : Program) (w : World) (K : PySem.W.Frag) (mg : Str → Option Value) (base : Heap) (k : Nat) (C : Addr) (m : Str) (sp : Sp) (dvs : List V) : Prop where
  ex : ∃ (mc : Value) (p g : Addr) (fd : FuncData) (ps : List Str) (ds : List Value), SMet K C mc m p g ∧ FnG P w K mg base k g fd ps sp ∧ Binds K fd ps ds ∧ Vals dvs ds
structure StaAt (K : PySem.W.Frag) (C : Addr) (m qual : Str) (st : Stmt) (ps : List Str) (dvs : List V) : Prop where
  ex : ∃ (mc : Value) (p g : Addr) (fd : FuncData) (ds : List Value), SMet K C mc m p g ∧ C8.Fun K m qual st g fd ∧ Binds K fd ps ds ∧ Vals dvs ds
def tSMeth (C : Addr) (sp : Sp) (dvs : List V) (E : XK) (ta : TE) (t : TA) : TE := fun σ H Q => ta σ H fun x H1 => x = .ref C ∧ t σ H1 fun vs H2 => sp (vs ++ dvs) H2 Q E
theorem pe_smE {dvs : List V} {E : XK} {pl : Sem Bool} (c : Sta X.prog X.w X.K X.mg X.base k C m sp dvs) (hr : Rm j X.A) (hk : k ≤ j) (hx : Passes (L2.CX X.prog X.w) X E) (ho : PE X o ta) (ha : PA X (e :: es) t)
    (hst : starEach (e :: es) X.env = (false, eval e X.env) :: starEach es X.env := by rfl) (hpl : (backTo pos (starEach es X.env)).any (·.1) = false := by rfl)
    (ht : eval (.Call (.Attribute o m apos) (e :: es) [] pos) X.env = (do
      let ov ← eval o X.env
      standAt apos.atName
      let (g, first) ← holding [ov] (getMethod ov m pl)
      callWith pos g first (backTo pos (starEach (e :: es) X.env)) (backToKw pos (keywordEach [] X.env))) := by rfl) : PE X (.Call (.Attribute o m apos) (e :: es) [] pos) (tSMeth C sp dvs E ta t) := by
  obtain ⟨mc, p, g, fd, ps, ds, S, F, bd, dv⟩ := c.ex
  constructor
  intro pins s σ H Q I h
  refine PySem.W.methodCall_KW (pl := pl) (thn (ho.run pins s σ H _ I h) ?_) ht
  rintro u s1 ⟨x, H1, I1, rx, rfl, q⟩
  cases rx
  obtain ⟨rest, hp⟩ := S.rc
  refine PySem.W.method_cls I1.kIn S.ga (PySem.W.cls_bind I1.kIn S.rd S.at_ (wpAny_call (PySem.W.sm_get (s := { s1 with toks := s1.toks + 1 }) I1.kIn hp (PySem.W.handed_on rfl ?_))))
  refine PySem.W.callWith_K (first := []) (h₀ := X.base) I.ok.mod.kin S.kp (thn (ha.run pos pins _ σ H1 _ (I1.tok _) q) ?_) hst hpl
  rintro us s2 ⟨vs, H2, I2, r, q2⟩
  exact ⟨I2.kIn, runG F (hr.mono hk) bd dv (hx _ _) I2 r q2⟩
theorem pe_sm {dvs : List V} {pl : Sem Bool} (c : Sta X.prog X.w X.K X.mg X.base k C m sp dvs) (hr : Rm j X.A) (hk : k ≤ j) (ho : PE X o ta) (ha : PA X (e :: es) t)
    (hst : starEach (e :: es) X.env = (false, eval e X.env) :: starEach es X.env := by rfl) (hpl : (backTo pos (starEach es X.env)).any (·.1) = false := by rfl)
    (ht : eval (.Call (.Attribute o m apos) (e :: es) [] pos) X.env = (do
      let ov ← eval o X.env
      standAt apos.atName
      let (g, first) ← holding [ov] (getMethod ov m pl)
      callWith pos g first (backTo pos (starEach (e :: es) X.env)) (backToKw pos (keywordEach [] X.env))) := by rfl) : PE X (.Call (.Attribute o m apos) (e :: es) [] pos) (tSMeth C sp dvs E0 ta t) :=
  pe_smE (pl := pl) c hr hk passL ho ha hst hpl ht
end
section
variable {P : Program} {w : World} {K : PySem.W.Frag} {mg : Str → Option Value} {base : Heap} {k : Nat} {C : Addr} {x m qual : Str} {st : Stmt} {ps N : List Str} {dvs : List V} {sp : Sp}
theorem sta0 (D : StaAt K C m qual st ps dvs) (S : FnScope N ps (C8.fnScope st)) (len : ∀ vs H Q E, sp vs H Q E → vs.length = ps.length)
    (hb : ∀ (f : Addr) (cdv : Value) (A : Around) (out : List Env) (s : Shared) (H : Hp) (vs : List V) (Q : VK) (E : XK), Rm k (A.deeper (envOfC qual (C8.fnScope st) s.heap.objs.size f cdv)) → sp vs H Q E →
      ∃ t, PSs (cxOf (L2.CX P w) P w K mg base N qual (C8.fnScope st) f cdv A out s H E).nox (C8.fnBody st) t ∧ t { nx := fun _ H' => Q .non H', rt := Q } (start N vs) H) : Sta P w K mg base (k + 1) C m sp dvs := by
  obtain ⟨mc, p, g, fd, ds, c, F, b, v⟩ := D.ex
  exact ⟨mc, p, g, fd, ps, ds, c, fnG0 F S len (hb g), b, v⟩
theorem staX (D : StaAt K C m qual st ps dvs) (S : FnScope N ps (C8.fnScope st)) (len : ∀ vs H Q E, sp vs H Q E → vs.length = ps.length)
    (hb : ∀ (f : Addr) (cdv : Value) (A : Around) (out : List Env) (s : Shared) (H : Hp) (vs : List V) (Q : VK) (E : XK), Rm k (A.deeper (envOfC qual (C8.fnScope st) s.heap.objs.size f cdv)) → sp vs H Q E →
      ∃ t, PSs (cxOf (L2.CX P w) P w K mg base N qual (C8.fnScope st) f cdv A out s H E) (C8.fnBody st) t ∧ t { nx := fun _ H' => Q .non H', rt := Q } (start N vs) H) : Sta P w K mg base (k + 1) C m sp dvs := by
  obtain ⟨mc, p, g, fd, ds, c, F, b, v⟩ := D.ex
  exact ⟨mc, p, g, fd, ps, ds, c, fnGX F S len (hb g), b, v⟩
end
/-! ### isinstance, by named readings -/
section
variable {K : PySem.W.Frag} {H : Hp} {Q : VK}
theorem r_isiS {z : Str} {c : V} {u : Value} {b : Bool} (hc : ClsV c u) (h0 : PySem.W.kitOne K (.type "str") u = some b) (h : Q (.bl b) H) : rIsi K [.str z, c] H Q := ⟨_, _, _, _, _, rfl, hc, .base (.str z), h0, h⟩
theorem kit_same (K : PySem.W.Frag) (t : Value) : PySem.W.kitOne K t t = some true := by unfold PySem.W.kitOne; rw [if_pos (beq_self_eq_true t)]
end

/-! ### an int times an instance -/
section
open PySem.W
theorem intmul_obj (a : Int) (t : Tok) (x C dx : Addr) :
    Meets (Builtin.«int.__mul__» ⟨[.int a t, .ref x], []⟩) (fun _ R s => s.heap.get? x = some (PySem.W.instObj C dx) ∧ R (.ok (.ret Value.notImplemented)) s) :=
  .of_wp fun prog w A R s h => by
    obtain ⟨hp, g, d, tk, os⟩ := s
    obtain ⟨hl, h⟩ := h
    unfold PySem.W.instObj at hl
    wp_walk
    exact ⟨_, rfl, h⟩
section
variable {prog : Program} {w : World} {A : Around} {E : Value → Shared → Prop} {s : Shared} {K : Frag} {x C dx L f g : Addr} {h₀ : Heap} {m : Str → Option Value} {od : Option Obj}
theorem intmul_call {i : Int} {t : Tok} {Q : Value → Shared → Prop} (I : s.heap.get? x = some (instObj C dx)) (h : Q .notImplemented s) : wpAny (model prog w) A (call (.builtin "int.__mul__") [.int i t, .ref x]) Q E s :=
  call_meets F.slot_int_mul (typeIs_int s i t) F.entry_int_mul (F.args_int_mul_2 _ _) (intmul_obj i t x C dx) ⟨I, h⟩
theorem intmul_try {i : Int} {t : Tok} {Q : Option Value → Shared → Prop} (I : s.heap.get? x = some (instObj C dx)) (h : Q none s) : wpAny (model prog w) A (tryMethod (.int i t) (PySem.dunder "mul") (.ref x)) Q E s := by
  exact @wpAny_tryMethod_declines (model prog w) A E s (.int i t) (.ref x) "int" (PySem.dunder "mul") "int.__mul__" Q (typeIs_int s i t) F.slot_int_mul (intmul_call I (And.intro rfl h))
theorem rmul1_K {i : Int} {t : Tok} {Q : Value → Shared → Prop} (X : K.In s.heap) (I : InstAt s.heap x (instObj C dx) C od) (hc : selfFirst K C = true)
    (hs : findIn K (.ref C) "__mul__" = some (some (.ref f))) (hr : findIn K (.ref C) "__rmul__" = some (some (.ref g))) (hg : isFn K (.ref g) = true) (hsub : subIn K (.ref C) (.type "int") = some false)
    (h : wpAny (model prog w) A (call (.ref g) [.ref x, .int i t]) (PySem.W.CmpBack Q) E s) : wpAny (model prog w) A (binaryOp1 "mul" (.int i t) (.ref x)) (fun r s' => ∃ v, r = some v ∧ Q v s') E s := by
  obtain ⟨cd, rest, hcd, hm⟩ := ksp_first hc
  have one := ksp_try X I hr hg h
  have L1 : Looks (model prog w) s.heap (typeOf (.ref x)) (.ref C) := I.type
  have L3 : Looks (model prog w) s.heap (fillsNumberSlot (.ref C) "mul") true := fills_K (nm := "mul") X hcd hm hs
  have L5 : Looks (model prog w) s.heap (isSubtype (.ref C) (.type "int")) false := looks_subIn X hsub
  have hne : (Value.type "int" == Value.ref C) = false := Bool.eq_false_iff.mpr fun q => by cases beq_iff_eq.mp q
  simp only [binaryOp1]
  refine wpAny_bind (wpAny_typeOf (typeIs_int s i t) (wpAny_bind (L1.here (wpAny_bind (wpAny_of_eq F.fills_int_mul ?_)))))
  simp only [hne, Bool.false_eq_true, if_false]
  refine wpAny_bind (L3.here ?_)
  simp only [Bool.and_self, if_true]
  refine wpAny_bind (L5.here ?_)
  have hpy : numberSlotInPython (.type "int") "mul" = pure false := rfl
  simp only [Bool.false_eq_true, if_false, pure_bind, Bool.not_false, Bool.and_self, if_true, hpy]
  refine wpAny_bind (intmul_try I.at_ ?_)
  show wpAny _ _ (tryMethod (.ref x) (dunderR "mul") (.int i t) >>= _) _ _ _
  refine wpAny_bind (wpAny_mono (Q := fun r s' => ∃ v, r = some v ∧ Q v s') one (fun r s' hr' => ?_) fun _ _ e => e)
  obtain ⟨v, rfl, hq⟩ := hr'
  exact wpAny_bind (wpAny_rule (wpAny_pure ⟨v, rfl, hq⟩))
theorem rmul_K {i : Int} {t : Tok} {Q : Value → Shared → Prop} (X : K.In s.heap) (I : InstAt s.heap x (instObj C dx) C od) (hc : selfFirst K C = true)
    (hs : findIn K (.ref C) "__mul__" = some (some (.ref f))) (hr : findIn K (.ref C) "__rmul__" = some (some (.ref g))) (hg : isFn K (.ref g) = true) (hsub : subIn K (.ref C) (.type "int") = some false)
    (h : wpAny (model prog w) A (call (.ref g) [.ref x, .int i t]) (PySem.W.CmpBack Q) E s) : wpAny (model prog w) A (binaryOp .Mult (.int i t) (.ref x)) Q E s := by
  have z := rmul1_K X I hc hs hr hg hsub h
  unfold binaryOp
  refine wpAny_holding (wpAny_bind (wpAny_mono (Q := fun r s' => ∃ v, r = some v ∧ Q v s') z (fun r s' hr' => ?_) fun _ _ e => e))
  obtain ⟨v, rfl, hq⟩ := hr'
  exact wpAny_pure hq
end
section
variable {X : Cx} {k j : Nat} {C : Addr} {sp : Sp}
/-- an int times an instance -/
def rOwnR (C : Addr) (sp : Sp) : R2 := fun x y H Q => ∃ a dx fs i, x = .int i ∧ y = .ref a ∧ H a = some (.ins C dx fs) ∧ sp [.ref a, .int i] H Q E0
theorem op_ownR (c : Met X.prog X.w X.K X.mg X.base k C "__rmul__" sp []) (hsf : selfFirst X.K C = true) (hs : ∃ f : Addr, findIn X.K (.ref C) "__mul__" = some (some (.ref f))) (hsub : subIn X.K (.ref C) (.type "int") = some false) (hr : Rm j X.A) (hk : k ≤ j) : OpR X (binaryOp .Mult) (rOwnR C sp) := by
  intro pins s σ H x y v u Q I rx ry h
  obtain ⟨a, dx, fs, i, rfl, rfl, ha, want⟩ := h
  cases ry; obtain ⟨tk, rfl⟩ := rx
  obtain ⟨f, fd, ps, ds, hc, me, F, bd, dv⟩ := c.ex
  obtain ⟨f0, hs⟩ := hs
  obtain ⟨mA, J, _⟩ := ins_get I.hok ha
  obtain ⟨od, J, _⟩ := J.look
  refine rmul_K I.kIn J hsf hs me.at_ me.fn hsub ?_
  refine wpAny_mono (runG (us := [.ref a, .int i tk]) (vs := [.ref a, .int i]) F (hr.mono hk) bd dv (passL _ _) I (.cons rfl (.cons ⟨tk, rfl⟩ .nil)) ?_) (fun _ _ z => cmpBack_of z) fun _ _ z => z
  simpa using want
end
end

theorem r_isB {a b : Bool} {H : Hp} {Q : VK} (h : Q (.bl (decide (a = b))) H) : rIsB (.bl a) (.bl b) H Q := ⟨a, b, rfl, rfl, h⟩
theorem r_notB {a b : Bool} {H : Hp} {Q : VK} (h : Q (.bl (!decide (a = b))) H) : rNotB (.bl a) (.bl b) H Q := ⟨a, b, rfl, rfl, h⟩
section
variable {K : PySem.W.Frag} {H : Hp} {Q : VK}
/-- repr of a bool, of a list of two bools -/
theorem r_reprB {b : Bool} (h : Q (.str (PyData.shown (.bool b))) H) : rRepr K [.bl b] H Q := ⟨_, .bool b, rfl, .bl b, rfl, by simp [PyData.depth], by cases b <;> decide, h⟩
theorem r_reprBB {p : Addr} {a b : Bool} (h0 : H p = some (.lst [.bl a, .bl b])) (h : Q (.str (PyData.shown (.list [.bool a, .bool b]))) H) : rRepr K [.ref p] H Q :=
  ⟨_, .list [.bool a, .bool b], rfl, .lst (SqL.of h0) (.cons (.bl a) (.cons (.bl b) .nil)), rfl, by simp [PyData.depth, PyData.depthAll], by cases a <;> cases b <;> decide +kernel, h⟩
theorem shown_bool_ne {a b : Bool} (h : a = b) : decide (PyData.shown (.bool a) = PyData.shown (.bool b)) = true := by rw [h]; simp
end

/-! ### loops and stores, by named readings -/
section
variable {K : PySem.W.Frag} {σ : L2.St} {H : Hp} {D : Ends} {tb : TS} {g : TG} {tA : TA} {ta tv tl : TE} {Q : VK} {v : V}
def kRng (g : TG) (tb : TS) (D : Ends) (σ : L2.St) : List V → Hp → Prop := fun vs H1 => ∃ j : Int, vs = [.int j] ∧ -(2 ^ 62) ≤ j ∧ j < 2 ^ 62 ∧ ∃ W : Nat → Nat → L2.St → Hp → Prop, (∃ m, W 0 m σ H1) ∧ ∀ i m σ H, W i m σ H →
  ((Itr 0 j.toNat).stop i H ∧ D.nx σ H) ∨ ((Itr 0 j.toNat).go i H ∧ ∃ N : L2.St → Hp → Prop, (∀ σ' H', N σ' H' → ∃ m', m' < m ∧ W (i + 1) m' σ' H') ∧ ∀ x H', (Itr 0 j.toNat).yld i H x H' → g x σ H' fun σ2 H2 => tb { D with nx := N, ct := N, bk := D.nx } σ2 H2)
theorem u_forR (h : tA σ H (kRng g tb D σ)) : tFor (iRng1 tA) g tb D σ H := h
theorem k_rng {j : Int} (n : Nat) (hn : j = n) (hz : n ≤ 1000000) (Pv : Nat → L2.St → Hp → Prop) (h0 : Pv 0 σ H) (hs : ∀ i σ H, i < n → Pv i σ H → g (.int (i : Int)) σ H fun σ2 H2 => tb { D with nx := Pv (i + 1), ct := Pv (i + 1), bk := D.nx } σ2 H2) (hd : ∀ σ H, Pv n σ H → D.nx σ H) :
    kRng g tb D σ [.int j] H := by
  subst hn
  refine ⟨n, rfl, by omega, by omega, ?_⟩
  rw [Int.toNat_natCast]
  refine for_range (lo := 0) (n := n) Pv h0 (fun i σ H hi hp => ?_) hd
  have e : (0 : Int) + i = i := by omega
  rw [e]
  exact hs i σ H hi hp
def kForL (K : PySem.W.Frag) (g : TG) (tb : TS) (D : Ends) (σ : L2.St) : VK := fun x H1 => ∃ a, x = .ref a ∧ (∃ xs, SqL K H1 a xs) ∧ ∃ W : Nat → Nat → L2.St → Hp → Prop, (∃ m, W 0 m σ H1) ∧ ∀ i m σ H, W i m σ H →
  ((Itl K a).stop i H ∧ D.nx σ H) ∨ ((Itl K a).go i H ∧ ∃ N : L2.St → Hp → Prop, (∀ σ' H', N σ' H' → ∃ m', m' < m ∧ W (i + 1) m' σ' H') ∧ ∀ x H', (Itl K a).yld i H x H' → g x σ H' fun σ2 H2 => tb { D with nx := N, ct := N, bk := D.nx } σ2 H2)
theorem u_forL (h : tl σ H (kForL K g tb D σ)) : tFor (iList K tl) g tb D σ H := h
theorem k_forL {a : Addr} {xs : List V} (hx : SqL K H a xs) (Pv : Nat → L2.St → Hp → Prop) (h0 : Pv 0 σ H) (hl : ∀ i σ H, i ≤ xs.length → Pv i σ H → SqL K H a xs)
    (hs : ∀ i x σ H, xs[i]? = some x → Pv i σ H → g x σ H fun σ2 H2 => tb { D with nx := Pv (i + 1), ct := Pv (i + 1), bk := D.nx } σ2 H2) (hd : ∀ σ H, Pv xs.length σ H → D.nx σ H) : kForL K g tb D σ (.ref a) H :=
  ⟨a, rfl, ⟨xs, hx⟩, for_list Pv h0 hl hs hd⟩
def kForT (K : PySem.W.Frag) (g : TG) (tb : TS) (D : Ends) (σ : L2.St) : VK := fun x H1 => ∃ a, x = .ref a ∧ (∃ xs, SqT K H1 a xs) ∧ ∃ W : Nat → Nat → L2.St → Hp → Prop, (∃ m, W 0 m σ H1) ∧ ∀ i m σ H, W i m σ H →
  ((Itt K a).stop i H ∧ D.nx σ H) ∨ ((Itt K a).go i H ∧ ∃ N : L2.St → Hp → Prop, (∀ σ' H', N σ' H' → ∃ m', m' < m ∧ W (i + 1) m' σ' H') ∧ ∀ x H', (Itt K a).yld i H x H' → g x σ H' fun σ2 H2 => tb { D with nx := N, ct := N, bk := D.nx } σ2 H2)
theorem u_forT (h : tl σ H (kForT K g tb D σ)) : tFor (iTup K tl) g tb D σ H := h
theorem k_forT {a : Addr} {xs : List V} (hx : SqT K H a xs) (Pv : Nat → L2.St → Hp → Prop) (h0 : Pv 0 σ H) (hl : ∀ i σ H, i ≤ xs.length → Pv i σ H → SqT K H a xs)
    (hs : ∀ i x σ H, xs[i]? = some x → Pv i σ H → g x σ H fun σ2 H2 => tb { D with nx := Pv (i + 1), ct := Pv (i + 1), bk := D.nx } σ2 H2) (hd : ∀ σ H, Pv xs.length σ H → D.nx σ H) : kForT K g tb D σ (.ref a) H :=
  ⟨a, rfl, ⟨xs, hx⟩, for_tup Pv h0 hl hs hd⟩
def kSet (K : PySem.W.Frag) (f : Str) (y : V) (D : Ends) (σ : L2.St) : VK := fun x H2 => ∃ a C dx fs, x = .ref a ∧ H2 a = some (.ins C dx fs) ∧ Cls K C ∧ NoAttr K C f ∧ fs.length < 1000 ∧ D.nx σ (upd H2 a (.ins C dx (putF f y fs)))
theorem u_sfld {f : Str} (h : tv σ H fun y H1 => ta σ H1 (kSet K f y D σ)) : sFld K ta tv f D σ H := h
theorem k_set {f : Str} {y : V} {a C dx : Addr} {fs : List (Str × V)} (ho : H a = some (.ins C dx fs)) (hc : Cls K C) (hn : NoAttr K C f) (hl : fs.length < 1000) (h : D.nx σ (upd H a (.ins C dx (putF f y fs)))) : kSet K f y D σ (.ref a) H :=
  ⟨a, C, dx, fs, rfl, ho, hc, hn, hl, h⟩
theorem put_len {f : Str} {w : V} {fs : List (Str × V)} {n : Nat} (h : fs.length ≤ n) : (putF f w fs).length ≤ n + 1 := Nat.le_trans (length_putF f w fs) (Nat.succ_le_succ h)
theorem r_own2 {C a b dx dy : Addr} {fs gs : List (Str × V)} {sp : Sp} (ha : H a = some (.ins C dx fs)) (hb : H b = some (.ins C dy gs)) (h : sp [.ref a, .ref b] H Q E0) : rOwn2 C sp (.ref a) (.ref b) H Q := ⟨a, b, dx, fs, dy, gs, rfl, rfl, ha, hb, h⟩
theorem r_ownI {C a dx : Addr} {fs : List (Str × V)} {i : Int} {sp : Sp} (ha : H a = some (.ins C dx fs)) (h : sp [.ref a, .int i] H Q E0) : rOwnI C sp (.ref a) (.int i) H Q := ⟨a, dx, fs, i, rfl, rfl, ha, h⟩
theorem r_ownR {C a dx : Addr} {fs : List (Str × V)} {i : Int} {sp : Sp} (ha : H a = some (.ins C dx fs)) (h : sp [.ref a, .int i] H Q E0) : rOwnR C sp (.int i) (.ref a) H Q := ⟨a, dx, fs, i, rfl, rfl, ha, h⟩
theorem r_own1 {C a dx : Addr} {fs : List (Str × V)} {sp : Sp} (ha : H a = some (.ins C dx fs)) (h : sp [.ref a] H Q E0) : rOwn1 C sp (.ref a) H Q := ⟨a, dx, fs, rfl, ha, h⟩
def kOwnC (C : Addr) (sp : Sp) (t : TA) (σ : L2.St) (Q : VK) : VK := fun y H1 => ∃ a, y = .ref a ∧ t σ H1 fun vs H2 => (∃ dx fs, H2 a = some (.ins C dx fs)) ∧ sp (.ref a :: vs) H2 Q E0
theorem u_ownC {C : Addr} {sp : Sp} (h : tl σ H (kOwnC C sp tA σ Q)) : tOwnC C sp tl tA σ H Q := h
def kOwnC2 (C a : Addr) (sp : Sp) (Q : VK) : List V → Hp → Prop := fun vs H2 => (∃ dx fs, H2 a = some (.ins C dx fs)) ∧ sp (.ref a :: vs) H2 Q E0
theorem k_ownC {C a : Addr} {sp : Sp} (h : tA σ H (kOwnC2 C a sp Q)) : kOwnC C sp tA σ Q (.ref a) H := ⟨a, rfl, h⟩
theorem k_ownC2 {C a dx : Addr} {sp : Sp} {vs : List V} {fs : List (Str × V)} (ha : H a = some (.ins C dx fs)) (h : sp (.ref a :: vs) H Q E0) : kOwnC2 C a sp Q vs H := ⟨⟨dx, fs, ha⟩, h⟩
def kSM (C : Addr) (sp : Sp) (dvs : List V) (E : XK) (t : TA) (σ : L2.St) (Q : VK) : VK := fun x H1 => x = .ref C ∧ t σ H1 fun vs H2 => sp (vs ++ dvs) H2 Q E
theorem u_sm {C : Addr} {sp : Sp} {dvs : List V} {E : XK} (h : tl σ H (kSM C sp dvs E tA σ Q)) : tSMeth C sp dvs E tl tA σ H Q := h
theorem k_sm {C : Addr} {sp : Sp} {dvs : List V} {E : XK} (h : tA σ H fun vs H2 => sp (vs ++ dvs) H2 Q E) : kSM C sp dvs E tA σ Q (.ref C) H := ⟨rfl, h⟩
theorem u_gtup {n : Nat} {t : TGs} {a : Addr} {xs : List V} {QS : L2.St → Hp → Prop} (h0 : SqT K H a xs) (h1 : xs.length = n) (h : t xs σ H QS) : gTup K n t (.ref a) σ H QS := ⟨a, xs, rfl, h0, h1, h⟩
theorem u_gcons {t : TG} {u : TGs} {r : List V} {QS : L2.St → Hp → Prop} (h : t v σ H fun σ' H' => u r σ' H' QS) : gCons t u (v :: r) σ H QS := ⟨v, r, rfl, h⟩
theorem u_gnil {QS : L2.St → Hp → Prop} (h : QS σ H) : gNil [] σ H QS := ⟨rfl, h⟩
end
theorem atI_all {xs : List V} {k : Int} {P : V → Prop} (h : ∀ x ∈ xs, P x) (h0 : 0 ≤ k) (h1 : k < (xs.length : Int)) : ∃ v, atI xs k = some v ∧ P v := by
  have hj : k.toNat < xs.length := by omega
  refine ⟨xs[k.toNat], ?_, h _ (List.getElem_mem hj)⟩
  have e : k = ((k.toNat : Nat) : Int) := by omega
  have z := atI_nat (xs := xs) (j := k.toNat) (v := xs[k.toNat]) (List.getElem?_eq_getElem hj)
  rw [← e] at z
  exact z

section
variable {K : PySem.W.Frag} {σ : L2.St} {H : Hp} {tA : TA} {ta te : TE} {Q : VK} {v : V}
theorem u_call0 {sp : Sp} {E : XK} (h : tA σ H fun vs H1 => sp vs H1 Q E) : tCall sp [] E tA σ H Q := by
  show tA σ H fun vs H1 => sp (vs ++ []) H1 Q E
  simp only [List.append_nil]
  exact h
theorem u_meth0 {C : Addr} {m : Str} {sp : Sp} {E : XK} (h : ta σ H (kMeth C m fun x H1 => tA σ H1 fun vs H2 => sp (x :: vs) H2 Q E)) : tMeth C m sp [] E ta tA σ H Q := by
  refine u_meth ?_
  simp only [List.append_nil]
  exact h
/-- what a new instance's __init__ is asked -/
def kMk (C : Addr) (sp : Sp) (Q : VK) (E : XK) : List V → Hp → Prop := fun vs H1 => ∀ x dx, H1 x = none → H1 dx = none → dx ≠ x → sp (.ref x :: vs) (upd (upd H1 dx (.own x)) x (.ins C dx [])) (fun v H2 => v = .non ∧ Q (.ref x) H2) E
theorem u_make0 {C : Addr} {sp : Sp} {E : XK} (h : tA σ H (kMk C sp Q E)) : tMake C sp [] E tA σ H Q := by
  refine u_make ?_
  simp only [List.append_nil]
  exact h
theorem k_sm0 {C : Addr} {sp : Sp} {E : XK} (h : tA σ H fun vs H2 => sp vs H2 Q E) : kSM C sp [] E tA σ Q (.ref C) H := by
  refine k_sm ?_
  simp only [List.append_nil]
  exact h
theorem u_sl {r : V → Option Int → Option Int → Hp → VK → Prop} {tl th : TO} (h : te σ H fun x H1 => tl σ H1 fun l H2 => th σ H2 fun u H3 => r x l u H3 Q) : tSl r te tl th σ H Q := h
theorem u_nopart {QO : Option Int → Hp → Prop} (h : QO none H) : tNoPart σ H QO := h
def kPart (QO : Option Int → Hp → Prop) : VK := fun x H1 => ∃ i, x = .int i ∧ QO (some i) H1
theorem u_part {QO : Option Int → Hp → Prop} (h : te σ H (kPart QO)) : tPart te σ H QO := h
theorem k_part {QO : Option Int → Hp → Prop} {i : Int} (h : QO (some i) H) : kPart QO (.int i) H := ⟨i, rfl, h⟩
theorem r_slL {a : Addr} {xs : List V} {lo hi : Option Int} (h0 : SqL K H a xs) (h : ∀ p H', Same H H' → H' p = some (.lst (cutV xs lo hi)) → H p = none → Q (.ref p) H') : rSlL K (.ref a) lo hi H Q := ⟨a, xs, rfl, h0, al h⟩
end

theorem cutV_to {xs : List V} {k : Nat} : cutV xs none (some (k : Int)) = xs.take k := by
  unfold cutV
  have h : ¬ ((k : Int) < 0) := by omega
  simp only [HT.sIx, h, if_false, List.drop_zero, Nat.sub_zero, Int.toNat_natCast]
  rw [List.take_eq_take_iff]
  omega
end Tw

namespace Tw
open PySem PySem.Spec PyProof.Rows L2
/-! ### the law's call, where nothing is being shown -/
section
variable {P : Program} {w : World} {K : PySem.W.Frag} {mg mb : Str → Option Value} {k : Nat} {fa a : Addr} {fd : FuncData} {x : Str} {sp : Sp} {s : Shared} {vs : List Value} {ns : List Int}
/-- what the call of the law must end with -/
def Done (s : Shared) (r : Result) (s' : Shared) : Prop := r = .ok (.ret (.bool true)) ∧ OldK s.heap s'.heap ∧ s'.os = s.os ∧ AllBare s'.gens
theorem lawG_from {H : Hp} {ob : Obj} (hK : K.In s.heap) (hm : s.heap.Ns mainGlobals mg) (hb : s.heap.Ns builtinsNs mb) (hbb : ∀ x : Str, x ≠ "__name__" → mb x = bootBuiltins x) (lim : s.heap.NoLimit) (gs : s.gens = #[])
    (hob : s.heap.get? a = some ob) (hseq : ∃ its n, ob.data = .seq its n) (ok : HOk P w H s.heap) (only : ∀ b u, H b = some u → b = a ∧ K.lookup a = none ∧ ∃ y, u = .frz ob y) (rm : Rm k callerA)
    (F : ∀ base : Heap, FnG P w K mg base k fa fd [x] sp) (bd : ∀ (s : Shared) (u : Value), BindsTo s fd ⟨[u], []⟩ [(x, u)]) (want : sp [.ref a] H (fun v _ => v = .bl true) fun _ _ _ => False) :
    codeAny (model P w) callerA (.call (.ref fa) ⟨[.ref a], []⟩) (Done s) s := by
  have plainAt : ∀ (b : Addr) (o : Obj), s.heap.get? b = some o → (∃ es n, o.data = .dict es n) → H b = none := by
    rintro b o g ⟨es, n, d⟩
    rcases q : H b with _ | u
    · rfl
    · obtain ⟨rfl, -, -⟩ := only b u q
      obtain ⟨its, j, d2⟩ := hseq
      rw [hob] at g
      injection g with g
      subst g
      rw [d2] at d
      cases d
  have stays : ∀ (b : Addr) (m : Str → Option Value), s.heap.Ns b m → (hidT s.heap H).Ns b m := by
    rintro b m ⟨o, es, n, g, d, r⟩
    exact ⟨o, es, n, hidT_get g (plainAt b o g ⟨es, n, d⟩), d, r⟩
  have inB : K.In (hidT s.heap H) := by
    intro b o g
    refine hidT_get (hK b o g) ?_
    rcases q : H b with _ | u
    · rfl
    · obtain ⟨rfl, z, -⟩ := only b u q
      rw [z] at g
      cases g
  have md : Mod K mg (hidT s.heap H) := by
    obtain ⟨mc, l1, l2⟩ := lim
    exact { kin := inB, glob := stays _ _ hm, blt := ⟨mb, stays _ _ hb, hbb⟩, nolimit := ⟨mc, stays _ _ l1, l2⟩ }
  have ev : Env0 P w K mg (hidT s.heap H) callerA [] s H :=
    { frames := rfl, mod := md, bs := fun _ _ g => of_hidT g, bsz := Nat.le_of_eq (hidT_size _ _), funs := trivial, frf := fun _ z => (nomatch z), hok := ok, bare := .of_eq gs }
  have go := (F (hidT s.heap H)).run callerA [] s H ⟨[.ref a], []⟩ [.ref a] [.ref a] _ _ rm ev (bd s (.ref a)) (Paired.cons rfl .nil) want
  refine codeAny_mono go ?_
  rintro (e | (_ | _ | _ | u)) s' h
  · obtain ⟨_, _, _, _, _, _, _, _, _, _, _, _, no⟩ := h
    exact no.elim
  · exact h.elim
  · exact h.elim
  · exact h.elim
  · obtain ⟨v, H', eo, eb, un, ok', rel, rfl⟩ := h
    have eu : u = Value.bool true := rel
    refine ⟨by rw [eu], OldK.of_keep ?_, eo, eb⟩
    intro b o g
    rcases q : H b with _ | y
    · exact un.keep b o g q (fun z => nomatch z) (fun z => nomatch z)
    · obtain ⟨rfl, -, y, rfl⟩ := only b y q
      rw [hob] at g
      injection g with g
      subst g
      exact (ok' b _ (un.frzs b _ _ q)).1
theorem lawG {n : Nat} {l : PySem.W.OpenLaw} {q : Program} {loose : List Str} {XP : (Str → Option Value) → Heap → Prop} {YP : World → Heap → Prop} {d : DefRec} {K : Params → PySem.W.Frag} {k : Nat} {sp : PySem.W.Frag → Sp}
    (hn : l.most = some n) (small : n ≤ sizeLine) (nodef : d.params.defaults = []) (rm : Rm k callerA) (hY : ∀ (w : World) (h : Heap), YP w h → (K w.params).In h)
    (F : ∀ (w : World) (mg : Str → Option Value) (fa : Addr) (h : Heap), (K w.params).In h → h.Ns mainGlobals mg → mg d.name = some (.ref fa) →
      ∃ fd : FuncData, (∀ (s : Shared) (u : Value), BindsTo s fd ⟨[u], []⟩ [(x, u)]) ∧ ∀ base : Heap, FnG l.prog w (K w.params) mg base k fa fd [x] (sp (K w.params)))
    (want : ∀ (K : PySem.W.Frag) (H : Hp) (a : Addr) (ns : List Int), ns.length ≤ n → SqL K H a (ns.map V.int) → sp K [.ref a] H (fun v _ => v = .bl true) fun _ _ _ => False) :
    PySem.W.WalkO q loose XP YP l.row.toRowW d [] (fun f vs => PySem.call f vs) := by
  refine Att.attach_call hn nodef ?_
  intro w s₀ s mg mb fa o pm cd doc a vs ns G Y ho hd hcd hmg hobj hints hlen hg
  have inK := hY w _ Y
  obtain ⟨fd, bd, hF⟩ := F w mg fa _ inK G.T.g hmg
  have rel := vals_ints hints
  have len : vs.length = ns.length := hints.length
  rcases lk : (K w.params).lookup a with _ | o1
  · let H : Hp := fun b => if b = a then some (.frz { cls := .type "list", data := .seq vs.toArray } (.lst (ns.map V.int))) else none
    have at_a : H a = some (.frz { cls := .type "list", data := .seq vs.toArray } (.lst (ns.map V.int))) := if_pos rfl
    have only : ∀ b u, H b = some u → b = a ∧ u = .frz { cls := .type "list", data := .seq vs.toArray } (.lst (ns.map V.int)) := by
      intro b u z
      by_cases e : b = a
      · subst e
        rw [at_a] at z
        injection z with z
        exact ⟨rfl, z.symm⟩
      · have z2 : H b = none := if_neg e
        rw [z2] at z
        cases z
    refine lawG_from (H := H) inK G.T.g G.T.b G.T.builtins G.T.nolimit hg hobj ⟨_, _, rfl⟩ ?_ ?_ rm hF bd (want _ _ _ _ hlen (.inl (.inr ⟨_, at_a⟩)))
    · intro b u z
      obtain ⟨rfl, rfl⟩ := only b u z
      exact ⟨hobj, by rw [List.length_map]; omega, vs, _, rel, hobj⟩
    · intro b u z
      obtain ⟨rfl, rfl⟩ := only b u z
      exact ⟨rfl, lk, _, rfl⟩
  · have g := inK a o1 lk
    rw [hobj] at g
    injection g with g
    subst g
    refine lawG_from (H := fun _ => none) inK G.T.g G.T.b G.T.builtins G.T.nolimit hg hobj ⟨_, _, rfl⟩ ?_ ?_ rm hF bd (want _ _ _ _ hlen (.inr ⟨_, vs.toArray, _, lk, rfl, rfl, rfl, ?_, ?_⟩))
    · intro b u z
      cases z
    · intro b u z
      cases z
    · rw [List.size_toArray]
      omega
    · rw [List.toList_toArray]
      exact rel
theorem rm_caller {k : Nat} (h1 : callerA.depth + 3 * k + 5 < recursionLimit) (h2 : callerA.units + 16 * k + 200 < cLine) : Rm k callerA := ⟨⟨rfl, h1, h2⟩, rfl⟩
end
end Tw

namespace Tw
open PySem PySem.Spec PyProof.Rows L2
/-! ### an own error class over ValueError whose __init__ says super().__init__(text), then stores its arguments -/
structure SupAt (prog : Program) (K : PySem.W.Frag) (C : Addr) (st : Stmt) (qual : Str) (fI cc cda : Addr) : Prop where
  oex : OexC K C
  sup0 : PySem.W.nsIn K mainGlobals "super" = some none
  init : PySem.W.findIn K (.ref C) "__init__" = some (some (.ref fI))
  fn : ∃ (od an : Option Addr) (osl : Array (Option Value)) (kV doc pm ct : Value), K.lookup fI = some ⟨.type "function", od, .func (PySem.W.ksFn "__init__" qual (C8.fnArgs st) (C8.fnBody st) (C8.fnScope st) .none kV doc pm an (.ref cda) ct cc), osl⟩
  cd : PySem.W.codeIn K (.ref cda) qual = true
  code : ∃ (ccl : Value) (cdd : Option Addr) (vs : Array Value) (ccs : Array (Option Value)) (file : Str) (tf : Tok), K.lookup cda = some ⟨ccl, cdd, .fields vs, ccs⟩ ∧ vs[2]? = some (.str file tf) ∧ ((prog.main.file : Str) == file) = true
  cell : ∃ (cl : Value) (cld : Option Addr) (csl : Array (Option Value)), K.lookup cc = some ⟨cl, cld, .cell (some (.ref C)), csl⟩
  top : (prog.main.scope.names.lookup ("super" : Str)).isSome = false
  sup : PySem.W.ks_superIn K C C "__init__" = some (some (.builtin "ValueError.__init__"))
  isV : PySem.W.subIn K (.ref C) (.type "ValueError") = some true
  me : PySem.W.mroIn K C (.ref C) = some true
  opq : PySem.W.nsIn K cStatics "thirdparty.any" = some none
section
open PySem.W
variable {prog : Program} {w : World} {K : PySem.W.Frag} {mg mb : Str → Option Value} {C fI cc cda x t0 L : Addr} {st : Stmt} {qual : Str} {A : Around} {E : Value → Shared → Prop} {h : Heap} {g : Array GenState} {d : Drawn} {t : Nat} {os : OsState} {m : Str → Option Value} {body : List Stmt}
theorem sup_first {pl : Sem Bool} {z : Str} {kk : Nat} {p0 p1 p2 p3 p4 p5 : Pos} {ar : Arg} {Q : Flow → Shared → Prop} (S : SupAt prog K C st qual fI cc cda) (hK : K.In h) (hm : h.Ns mainGlobals mg) (hb : h.Ns builtinsNs mb) (hbb : ∀ x : Str, x ≠ "__name__" → mb x = bootBuiltins x)
    (hx : h.get? x = some (HandSPX.excO C t0)) (hL : h.Ns L m) (hself : m ar.arg = some (.ref x)) (hp : ((C8.fnArgs st).posonlyargs ++ (C8.fnArgs st).args).head? = some ar)
    (ks : (C8.fnScope st).names.lookup ("super" : Str) = some .globalImplicit) (kc : (C8.fnScope st).names.lookup ("__class__" : Str) = some .free) (ka : (C8.fnScope st).names.lookup ar.arg = some .local) (kk0 : (C8.fnScope st).kind = .function)
    (hi : interactive (ksEnv qual (C8.fnScope st) L fI (.ref cda) cc) = false)
    (he : eval (.Call (.Attribute (.Call (.Name "super" p0) [] [] p1) "__init__" p2) [.Constant (.str z) kk p3] [] p4) (ksEnv qual (C8.fnScope st) L fI (.ref cda) cc) = (do
      let ov ← attributeBase (.Call (.Name "super" p0) [] [] p1) "__init__" (ksEnv qual (C8.fnScope st) L fI (.ref cda) cc) (eval (.Call (.Name "super" p0) [] [] p1) (ksEnv qual (C8.fnScope st) L fI (.ref cda) cc))
      standAt p2.atName
      let (f, first) ← holding [ov] (getMethod ov "__init__" pl)
      callWith p4 f first (backTo p4 (starEach [.Constant (.str z) kk p3] (ksEnv qual (C8.fnScope st) L fI (.ref cda) cc))) []))
    (hq : ∀ (h' : Heap) (t1 : Addr) (tk : Nat), (∀ b o, b ≠ x → h.get? b = some o → h'.get? b = some o) → h'.get? x = some (HandSPX.excO C t1) → Q .next ⟨h', g, d, tk, os⟩) :
    PySem.wpAt (model prog w) A (.func body (ksEnv qual (C8.fnScope st) L fI (.ref cda) cc)) (exec (.Expr (.Call (.Attribute (.Call (.Name "super" p0) [] [] p1) "__init__" p2) [.Constant (.str z) kk p3] [] p4) p5) (ksEnv qual (C8.fnScope st) L fI (.ref cda) cc)) Q E ⟨h, g, d, t, os⟩ := by
  obtain ⟨od, an, osl, kV, doc, pm, ct, lf⟩ := S.fn
  obtain ⟨ccl, cdd, vs, ccs, file, tf, lc, hvs, hfile⟩ := S.code
  obtain ⟨cl, cld, csl, lcell⟩ := S.cell
  obtain ⟨nm, q, N, bs, bm, sn, sub, ab, col, dd, k0, k1, k2, k3, k5, hC, hbm⟩ := S.oex.cls
  have hcl : PySem.W.clsIn K C = some { name := nm, bases := bs, mro := .ref C :: bm, ns := N, qualname := q, hasDict := true, slotNames := sn, subclasses := sub, abstract := ab, collection := col, hasDel := false } := by
    unfold PySem.W.clsIn
    rw [hC] <;> rfl
  have hC2 := hK _ _ hC
  refine ks_wpAt_Expr_any (ks_wpAt_MethodCall (pl := pl) ?_ he) hi
  refine ks_wpAt_super_base (env := ksEnv qual (C8.fnScope st) L fI (.ref cda) cc) ks kc (by decide +kernel) rfl (hK _ _ lf) rfl hp rfl (hK _ _ lc) rfl hvs hfile S.top ?_
  refine ks_loadName_global kk0 ks (Calls.loadGlobal_builtin (env := ksEnv qual (C8.fnScope st) L fI (.ref cda) cc) hm (mg_none_of hK hm S.sup0) hb ((hbb _ (by decide +kernel)).trans (show bootBuiltins "super" = some (.type "super") by boot_by_name)) ⟨rfl, ?_⟩)
  refine wpAny_loadName_free kk0 kc rfl ⟨_, hK _ _ lcell, rfl⟩ ?_
  refine wpAny_loadName_local kk0 ka hL hself ?_
  refine ks_wpAny_isType_cls hC2 rfl ⟨rfl, ?_⟩
  refine ks_wpAny_call_super hC2 rfl hx rfl (fun c e => by cases e) (looks_mroIn hK S.me) (fun h1 so keep1 => ?_)
  have K1 : K.In h1 := hK.keeps keep1
  have x1 := keep1 _ _ hx
  have I1 : InstAt h1 x (HandSPX.excO C t0) C none := ⟨x1, rfl, rfl, trivial⟩
  have sup := S.sup
  unfold ks_superIn at sup
  rw [hcl] at sup
  refine kxs_getMethod kxs_ValueError so (looks_opaque K1 S.opq) (l₀ := .ref C :: bm) ((looks_clsIn K1 hcl).andThen .now) rfl K1 sup (I1.type.andThen (looks_subIn K1 S.isV)) (ks_ne K1 I1 hcl) (by decide +kernel) ?_
  have mw : (h1.push (kxs_mw "ValueError.__init__" x)).get? h1.objs.size = some (kxs_mw "ValueError.__init__" x) := Heap.get?_push_at rfl rfl
  have x2 : (h1.push (kxs_mw "ValueError.__init__" x)).get? x = some (HandSPX.excO C t0) := Heap.get?_push_of_some _ x1
  refine kxs_callWith (i := "ValueError.__init__") (x := x) rfl ?_
  refine Calls.evalArgs_plain ?_
  refine spliced_more (env := ksEnv qual (C8.fnScope st) L fI (.ref cda) cc) (e := .Constant (.str z) kk p3) (rest := []) (pos := p4) ?_
  refine wpAny_Constant_str ?_
  refine spliced_none ?_
  refine ⟨mw, ?_⟩
  have C2 : (h1.push (kxs_mw "ValueError.__init__" x)).get? C = _ := Heap.get?_push_of_some _ (K1 _ _ hC)
  refine wpAny_call (codeAny_of_tree ?_)
  show wpAny _ A.in1 (callAny (.ref h1.objs.size) _) _ _ _
  unfold callAny
  refine wpAny_bind (wpAny_load mw ?_)
  dsimp only
  refine KFB.if_so (by decide) ?_
  refine wpAny_bind (check_bound_init F.excBase_ValueError.toExcCallFacts C2 x2 rfl ?_)
  refine wpAny_bind (wpAny_pure (wpAny_pure ?_))
  refine ⟨plainId_quiet F.excBase_ValueError.init.plain _, codeAny_builtin F.excBase_ValueError.initEntry ?_⟩
  refine exc_init_tree (cls := .ref C) (t0 := t0) (dv := none) (c2 := .none) (c3 := .none) (b4 := .bool false) x2 (by show 1 ≤ sizeLine; decide) fun h3 keep3 hx3 _ => ?_
  exact hq h3 _ _ (fun b o nb hbo => keep3 b o nb (Heap.get?_push_of_some _ (keep1 b o hbo))) hx3
theorem ns_ne {v : Array Value} {o : Obj} (hL : h.Ns L m) (hx : h.get? x = some o) (hd : o.data = .fields v) : L ≠ x := by
  rintro rfl
  obtain ⟨o2, es, ep, h1, h2, _⟩ := hL
  rw [hx] at h1
  injection h1 with h1
  subst h1
  rw [hd] at h2
  cases h2
theorem ns_keep {h' : Heap} (hL : h.Ns L m) (k : ∀ b o, b ≠ x → h.get? b = some o → h'.get? b = some o) (ne : L ≠ x) : h'.Ns L m := by
  obtain ⟨o2, es, ep, h1, h2, h3⟩ := hL
  exact ⟨o2, es, ep, k _ _ ne h1, h2, h3⟩
theorem kin_keep {h' : Heap} (hK : K.In h) (k : ∀ b o, b ≠ x → h.get? b = some o → h'.get? b = some o) (no : K.lookup x = none) : K.In h' := by
  intro b o e
  refine k b o ?_ (hK b o e)
  rintro rfl
  rw [no] at e
  cases e
/-- self.f = y, the first -/
theorem st_first {t1 : Addr} {f self y : Str} {v : Value} {pa pb pc pd : Pos} {Q : Flow → Shared → Prop} {sc : Scope} (T : OexC K C) (hK : K.In h) (hx : h.get? x = some (HandSPX.excO C t1)) (hL : h.Ns L m) (hself : m self = some (.ref x)) (hv : m y = some v)
    (kk0 : sc.kind = .function) (ka : sc.names.lookup self = some .local) (ky : sc.names.lookup y = some .local) (hno : PySem.W.findIn K (.ref C) f = some none) (d1 : (self == ("__debug__" : Str)) = false) (d2 : (y == ("__debug__" : Str)) = false)
    (hs : swapsWith (.Name y pc) (some (.Attribute (.Name self pa) f pb)) pd.line (ksEnv qual sc L fI (.ref cda) cc) = pure false)
    (hq : ∀ (h' : Heap) (tk : Nat) (dx : Addr), (∀ b o, b ≠ x → h.get? b = some o → h'.get? b = some o) → h.objs.size ≤ dx → dx ≠ x → h'.get? x = some { cls := .ref C, dict := some dx, data := .fields #[.ref t1, .none, .none, .none, .bool false, .none] } →
      h'.Ns1 dx (fun z => if z = f then some v else none) → Q .next ⟨h', g, d, tk, os⟩) :
    PySem.wpAt (model prog w) A (.func body (ksEnv qual sc L fI (.ref cda) cc)) (exec (.Assign [.Attribute (.Name self pa) f pb] (.Name y pc) pd) (ksEnv qual sc L fI (.ref cda) cc)) Q E ⟨h, g, d, t, os⟩ := by
  obtain ⟨nm, q, N, bs, bm, sn, sub, ab, col, dd, k0, k1, k2, k3, k5, hC, hbm⟩ := T.cls
  have hcl : PySem.W.clsIn K C = some { name := nm, bases := bs, mro := .ref C :: bm, ns := N, qualname := q, hasDict := true, slotNames := sn, subclasses := sub, abstract := ab, collection := col, hasDel := false } := by
    unfold PySem.W.clsIn
    rw [hC] <;> rfl
  refine ks_wpAt_Assign_Attr (wpAt_of_wpAny ?_) hs
  refine wpAny_Name (wpAny_loadName_local kk0 ky hL hv ?_) d2
  refine wpAny_Name (wpAny_loadName_local kk0 ka hL hself ?_) d1
  refine PySem.W.set_plain hK (ox := HandSPX.excO C t1) (od := none) ⟨hx, rfl, rfl, trivial⟩ T.sa ?_
  refine HandSPX.exc_osa hK hx hcl (show HandSPX.refsVE (.ref C :: bm) = true from hbm) rfl hno ?_
  intro h' tk' dx k dn dne hx' hn
  exact hq h' tk' dx k dn dne hx' hn
/-- self.f = y, a further one -/
theorem st_next {t1 dx : Addr} {f self y : Str} {v : Value} {pa pb pc pd : Pos} {m0 : Str → Option Value} {nl : List Str} {Q : Flow → Shared → Prop} {sc : Scope} (T : OexC K C) (hK : K.In h)
    (hx : h.get? x = some { cls := .ref C, dict := some dx, data := .fields #[.ref t1, .none, .none, .none, .bool false, .none] }) (hns : h.Ns1 dx m0) (hw : Within m0 nl) (hz : nl.length ≤ 1000) (hL : h.Ns L m) (hself : m self = some (.ref x)) (hv : m y = some v)
    (kk0 : sc.kind = .function) (ka : sc.names.lookup self = some .local) (ky : sc.names.lookup y = some .local) (hno : PySem.W.findIn K (.ref C) f = some none) (d1 : (self == ("__debug__" : Str)) = false) (d2 : (y == ("__debug__" : Str)) = false)
    (hs : swapsWith (.Name y pc) (some (.Attribute (.Name self pa) f pb)) pd.line (ksEnv qual sc L fI (.ref cda) cc) = pure false)
    (hq : ∀ (h' : Heap) (tk : Nat), (∀ b o, b ≠ dx → h.get? b = some o → h'.get? b = some o) → h'.Ns1 dx (fun z => if z = f then some v else m0 z) → Q .next ⟨h', g, d, tk, os⟩) :
    PySem.wpAt (model prog w) A (.func body (ksEnv qual sc L fI (.ref cda) cc)) (exec (.Assign [.Attribute (.Name self pa) f pb] (.Name y pc) pd) (ksEnv qual sc L fI (.ref cda) cc)) Q E ⟨h, g, d, t, os⟩ := by
  obtain ⟨nm, q, N, bs, bm, sn, sub, ab, col, dd, k0, k1, k2, k3, k5, hC, hbm⟩ := T.cls
  have hcl : PySem.W.clsIn K C = some { name := nm, bases := bs, mro := .ref C :: bm, ns := N, qualname := q, hasDict := true, slotNames := sn, subclasses := sub, abstract := ab, collection := col, hasDel := false } := by
    unfold PySem.W.clsIn
    rw [hC] <;> rfl
  obtain ⟨oD, _, _, hoD, _, _⟩ := hns.count hw
  refine ks_wpAt_Assign_Attr (wpAt_of_wpAny ?_) hs
  refine wpAny_Name (wpAny_loadName_local kk0 ky hL hv ?_) d2
  refine wpAny_Name (wpAny_loadName_local kk0 ka hL hself ?_) d1
  refine PySem.W.set_plain hK (ox := { cls := .ref C, dict := some dx, data := .fields #[.ref t1, .none, .none, .none, .bool false, .none] }) (od := some oD) ⟨hx, rfl, rfl, hoD⟩ T.sa ?_
  refine OEX.osa_old hK hx hns hw hz hcl (show HandSPX.refsVE (.ref C :: bm) = true from hbm) rfl hno ?_
  intro h' tk' k hn
  exact hq h' tk' k hn
/-- the statement super().__init__(z) -/
abbrev supSt (z : Str) (kk : Nat) (p0 p1 p2 p3 p4 p5 : Pos) : Stmt := .Expr (.Call (.Attribute (.Call (.Name "super" p0) [] [] p1) "__init__" p2) [.Constant (.str z) kk p3] [] p4) p5
/-- the statement self.f = y -/
abbrev selfSt (self f y : Str) (pa pb pc pd : Pos) : Stmt := .Assign [.Attribute (.Name self pa) f pb] (.Name y pc) pd
/-- what the text of such an __init__ says, at every frame -/
structure SupTx (st : Stmt) (qual : Str) (ar : Arg) (fI cda cc : Addr) (z : Str) (kk : Nat) (p0 p1 p2 p3 p4 : Pos) : Prop where
  hp : ((C8.fnArgs st).posonlyargs ++ (C8.fnArgs st).args).head? = some ar
  ks : (C8.fnScope st).names.lookup ("super" : Str) = some .globalImplicit
  kc : (C8.fnScope st).names.lookup ("__class__" : Str) = some .free
  ka : (C8.fnScope st).names.lookup ar.arg = some .local
  kd : (ar.arg == ("__debug__" : Str)) = false
  k0 : (C8.fnScope st).kind = .function
  co : (C8.fnScope st).isCoroutine = false
  gen : (C8.fnScope st).isGenerator = false
  nocell : ∀ x ∈ (C8.fnScope st).names, x.2 ≠ .cell
  hi : ∀ L, interactive (ksEnv qual (C8.fnScope st) L fI (.ref cda) cc) = false
  he : ∀ L : Addr, ∃ pl : Sem Bool, eval (.Call (.Attribute (.Call (.Name "super" p0) [] [] p1) "__init__" p2) [.Constant (.str z) kk p3] [] p4) (ksEnv qual (C8.fnScope st) L fI (.ref cda) cc) = (do
      let ov ← attributeBase (.Call (.Name "super" p0) [] [] p1) "__init__" (ksEnv qual (C8.fnScope st) L fI (.ref cda) cc) (eval (.Call (.Name "super" p0) [] [] p1) (ksEnv qual (C8.fnScope st) L fI (.ref cda) cc))
      standAt p2.atName
      let (f, first) ← holding [ov] (getMethod ov "__init__" pl)
      callWith p4 f first (backTo p4 (starEach [.Constant (.str z) kk p3] (ksEnv qual (C8.fnScope st) L fI (.ref cda) cc))) [])
  hs : ∀ (L : Addr) (f self y : Str) (pa pb pc pd : Pos), swapsWith (.Name y pc) (some (.Attribute (.Name self pa) f pb)) pd.line (ksEnv qual (C8.fnScope st) L fI (.ref cda) cc) = pure false
/-- the made error: its dict's map -/
def Made (C : Addr) (h : Heap) (x : Addr) (m0 : Str → Option Value) (h' : Heap) : Prop :=
  (∀ b o, b ≠ x → h.get? b = some o → h'.get? b = some o) ∧ ∃ t1 dx : Addr, h.get? dx = none ∧ dx ≠ x ∧ h'.get? x = some { cls := .ref C, dict := some dx, data := .fields #[.ref t1, .none, .none, .none, .bool false, .none] } ∧ h'.Ns1 dx m0
theorem get_above {b : Addr} (hb : h.objs.size ≤ b) : h.get? b = none := by
  cases q : h.get? b with
  | none => rfl
  | some o => exact absurd (Heap.lt_size q) (Nat.not_lt.mpr hb)
theorem init1 {R : Result → Shared → Prop} {ar : Arg} {f y z : Str} {kk : Nat} {p0 p1 p2 p3 p4 p5 pa pb pc pd : Pos} {u : Value} (S : SupAt prog K C st qual fI cc cda) (X : SupTx st qual ar fI cda cc z kk p0 p1 p2 p3 p4) (hbody : C8.fnBody st = [supSt z kk p0 p1 p2 p3 p4 p5, selfSt ar.arg f y pa pb pc pd])
    (hbind : ∀ (kV doc pm : Value) (an : Option Addr) (ct u1 u2 : Value), bindArgs (ksFn "__init__" qual (C8.fnArgs st) (C8.fnBody st) (C8.fnScope st) .none kV doc pm an (.ref cda) ct cc) ⟨[u1, u2], []⟩ = pure [(ar.arg, u1), (y, u2)])
    (ky : (C8.fnScope st).names.lookup y = some .local) (yd : (y == ("__debug__" : Str)) = false) (yne : y ≠ ar.arg) (hno : PySem.W.findIn K (.ref C) f = some none)
    (hroom : A.depth < recursionLimit) (lim : h.NoLimit) (hK : K.In h) (hm : h.Ns mainGlobals mg) (hb : h.Ns builtinsNs mb) (hbb : ∀ x : Str, x ≠ "__name__" → mb x = bootBuiltins x) (hx : h.get? x = some (HandSPX.excO C t0)) (xK : K.lookup x = none)
    (hq : ∀ h' tk, Made C h x (fun z => if z = f then some u else none) h' → R (.ok (.ret .none)) ⟨h', g, d, tk, os⟩) :
    codeAny (model prog w) A (.call (.ref fI) ⟨[.ref x, u], []⟩) R ⟨h, g, d, t, os⟩ := by
  obtain ⟨od, an, osl, kV, doc, pm, ct, lf⟩ := S.fn
  obtain ⟨pl, he⟩ := X.he h.objs.size
  refine ks_codeAny_call_defAt (fd := ksFn "__init__" qual (C8.fnArgs st) (C8.fnBody st) (C8.fnScope st) .none kV doc pm an (.ref cda) ct cc) (body := C8.fnBody st) (binds := [(ar.arg, .ref x), (y, u)]) hroom (hK _ _ lf) rfl lim (codeRec_of hK S.cd) rfl (.of_eq (hbind kV doc pm an ct (.ref x) u)) X.nocell ?_ ?_ X.co X.gen X.k0
  · intro p hp
    simp only [List.mem_cons, List.not_mem_nil, or_false] at hp
    rcases hp with rfl | rfl
    · exact X.ka
    · exact ky
  · intro h0 nsL keep0
    have K0 : K.In h0 := hK.keeps keep0
    have x0 := keep0 _ _ hx
    have nL : h.get? h.objs.size = none := get_above (Nat.le_refl _)
    have mself : (fun q => List.lookup q (List.reverse [(ar.arg, Value.ref x), (y, u)])) ar.arg = some (.ref x) := by
      show List.lookup ar.arg [(y, u), (ar.arg, Value.ref x)] = _
      rw [List.lookup_cons, show (ar.arg == y) = false from beq_eq_false_iff_ne.mpr (Ne.symm yne), List.lookup_cons, beq_self_eq_true]
    have my : (fun q => List.lookup q (List.reverse [(ar.arg, Value.ref x), (y, u)])) y = some u := by
      show List.lookup y [(y, u), (ar.arg, Value.ref x)] = _
      rw [List.lookup_cons, beq_self_eq_true]
    show PySem.wpAt (model prog w) _ (.func (C8.fnBody st) (ksEnv qual (C8.fnScope st) h.objs.size fI (.ref cda) cc)) (execs (C8.fnBody st) (ksEnv qual (C8.fnScope st) h.objs.size fI (.ref cda) cc)) _ _ _
    have eb : execs (C8.fnBody st) (ksEnv qual (C8.fnScope st) h.objs.size fI (.ref cda) cc) = execs [supSt z kk p0 p1 p2 p3 p4 p5, selfSt ar.arg f y pa pb pc pd] (ksEnv qual (C8.fnScope st) h.objs.size fI (.ref cda) cc) := by rw [hbody]
    rw [eb]
    have nex := ns_ne nsL x0 rfl
    refine ks_wpAt_execs_cons (sup_first S K0 (hm.keeps keep0) (hb.keeps keep0) hbb x0 nsL mself X.hp X.ks X.kc X.ka X.k0 (X.hi _) he ?_)
    intro h1 t1 tk1 k1 x1
    have ns1 := ns_keep nsL k1 nex
    refine ks_wpAt_execs_cons (st_first S.oex (kin_keep K0 k1 xK) x1 ns1 mself my X.k0 X.ka ky hno X.kd yd (X.hs _ _ _ _ _ _ _ _) ?_)
    intro h2 tk2 dx k2 dn dne x2 ns2
    refine wpAt_of_wpAny (wpAny_execs_nil ?_)
    have up : ∀ b o, b ≠ x → h.get? b = some o → h2.get? b = some o := fun b o nb e => k2 b o nb (k1 b o nb (keep0 b o e))
    refine hq h2 tk2 ⟨up, t1, dx, ?_, dne, x2, ns2⟩
    cases q : h.get? dx with
    | none => rfl
    | some o => exact absurd (Heap.lt_size (k1 dx o dne (keep0 dx o q))) (Nat.not_lt.mpr dn)
theorem init2 {R : Result → Shared → Prop} {ar : Arg} {f y f2 y2 z : Str} {kk : Nat} {p0 p1 p2 p3 p4 p5 pa pb pc pd qa qb qc qd : Pos} {u u2 : Value} (S : SupAt prog K C st qual fI cc cda) (X : SupTx st qual ar fI cda cc z kk p0 p1 p2 p3 p4)
    (hbody : C8.fnBody st = [supSt z kk p0 p1 p2 p3 p4 p5, selfSt ar.arg f y pa pb pc pd, selfSt ar.arg f2 y2 qa qb qc qd])
    (hbind : ∀ (kV doc pm : Value) (an : Option Addr) (ct u1 u2 u3 : Value), bindArgs (ksFn "__init__" qual (C8.fnArgs st) (C8.fnBody st) (C8.fnScope st) .none kV doc pm an (.ref cda) ct cc) ⟨[u1, u2, u3], []⟩ = pure [(ar.arg, u1), (y, u2), (y2, u3)])
    (ky : (C8.fnScope st).names.lookup y = some .local) (ky2 : (C8.fnScope st).names.lookup y2 = some .local) (yd : (y == ("__debug__" : Str)) = false) (yd2 : (y2 == ("__debug__" : Str)) = false) (yne : y ≠ ar.arg) (yne2 : y2 ≠ ar.arg) (yy : y ≠ y2)
    (hno : PySem.W.findIn K (.ref C) f = some none) (hno2 : PySem.W.findIn K (.ref C) f2 = some none)
    (hroom : A.depth < recursionLimit) (lim : h.NoLimit) (hK : K.In h) (hm : h.Ns mainGlobals mg) (hb : h.Ns builtinsNs mb) (hbb : ∀ x : Str, x ≠ "__name__" → mb x = bootBuiltins x) (hx : h.get? x = some (HandSPX.excO C t0)) (xK : K.lookup x = none)
    (hq : ∀ h' tk, Made C h x (fun z => if z = f2 then some u2 else if z = f then some u else none) h' → R (.ok (.ret .none)) ⟨h', g, d, tk, os⟩) :
    codeAny (model prog w) A (.call (.ref fI) ⟨[.ref x, u, u2], []⟩) R ⟨h, g, d, t, os⟩ := by
  obtain ⟨od, an, osl, kV, doc, pm, ct, lf⟩ := S.fn
  obtain ⟨pl, he⟩ := X.he h.objs.size
  refine ks_codeAny_call_defAt (fd := ksFn "__init__" qual (C8.fnArgs st) (C8.fnBody st) (C8.fnScope st) .none kV doc pm an (.ref cda) ct cc) (body := C8.fnBody st) (binds := [(ar.arg, .ref x), (y, u), (y2, u2)]) hroom (hK _ _ lf) rfl lim (codeRec_of hK S.cd) rfl (.of_eq (hbind kV doc pm an ct (.ref x) u u2)) X.nocell ?_ ?_ X.co X.gen X.k0
  · intro p hp
    simp only [List.mem_cons, List.not_mem_nil, or_false] at hp
    rcases hp with rfl | rfl | rfl
    · exact X.ka
    · exact ky
    · exact ky2
  · intro h0 nsL keep0
    have K0 : K.In h0 := hK.keeps keep0
    have x0 := keep0 _ _ hx
    have mself : (fun q => List.lookup q (List.reverse [(ar.arg, Value.ref x), (y, u), (y2, u2)])) ar.arg = some (.ref x) := by
      show List.lookup ar.arg [(y2, u2), (y, u), (ar.arg, Value.ref x)] = _
      rw [List.lookup_cons, show (ar.arg == y2) = false from beq_eq_false_iff_ne.mpr (Ne.symm yne2), List.lookup_cons, show (ar.arg == y) = false from beq_eq_false_iff_ne.mpr (Ne.symm yne), List.lookup_cons, beq_self_eq_true]
    have my : (fun q => List.lookup q (List.reverse [(ar.arg, Value.ref x), (y, u), (y2, u2)])) y = some u := by
      show List.lookup y [(y2, u2), (y, u), (ar.arg, Value.ref x)] = _
      rw [List.lookup_cons, show (y == y2) = false from beq_eq_false_iff_ne.mpr yy, List.lookup_cons, beq_self_eq_true]
    have my2 : (fun q => List.lookup q (List.reverse [(ar.arg, Value.ref x), (y, u), (y2, u2)])) y2 = some u2 := by
      show List.lookup y2 [(y2, u2), (y, u), (ar.arg, Value.ref x)] = _
      rw [List.lookup_cons, beq_self_eq_true]
    show PySem.wpAt (model prog w) _ (.func (C8.fnBody st) (ksEnv qual (C8.fnScope st) h.objs.size fI (.ref cda) cc)) (execs (C8.fnBody st) (ksEnv qual (C8.fnScope st) h.objs.size fI (.ref cda) cc)) _ _ _
    have eb : execs (C8.fnBody st) (ksEnv qual (C8.fnScope st) h.objs.size fI (.ref cda) cc) = execs [supSt z kk p0 p1 p2 p3 p4 p5, selfSt ar.arg f y pa pb pc pd, selfSt ar.arg f2 y2 qa qb qc qd] (ksEnv qual (C8.fnScope st) h.objs.size fI (.ref cda) cc) := by rw [hbody]
    rw [eb]
    have nex := ns_ne nsL x0 rfl
    refine ks_wpAt_execs_cons (sup_first S K0 (hm.keeps keep0) (hb.keeps keep0) hbb x0 nsL mself X.hp X.ks X.kc X.ka X.k0 (X.hi _) he ?_)
    intro h1 t1 tk1 k1 x1
    have ns1 := ns_keep nsL k1 nex
    have K1 := kin_keep K0 k1 xK
    refine ks_wpAt_execs_cons (st_first S.oex K1 x1 ns1 mself my X.k0 X.ka ky hno X.kd yd (X.hs _ _ _ _ _ _ _ _) ?_)
    intro h2 tk2 dx k2 dn dne x2 ns2
    have none1 : h1.get? dx = none := get_above dn
    have K2 := kin_keep K1 k2 xK
    have nd : h.objs.size ≠ dx := by
      rintro rfl
      obtain ⟨o, es, ep, e, _⟩ := ns1
      rw [none1] at e
      cases e
    refine ks_wpAt_execs_cons (st_next S.oex K2 x2 ns2 (Within.cons f u Within.nil) (by show 1 ≤ 1000; decide) (ns_keep ns1 k2 nex) mself my2 X.k0 X.ka ky2 hno2 X.kd yd2 (X.hs _ _ _ _ _ _ _ _) ?_)
    intro h3 tk3 k3 ns3
    refine wpAt_of_wpAny (wpAny_execs_nil ?_)
    have nodx : ∀ b o, h.get? b = some o → b ≠ x → b ≠ dx := by
      rintro b o e nb rfl
      have e1 := k1 b o nb (keep0 b o e)
      rw [none1] at e1
      cases e1
    have up : ∀ b o, b ≠ x → h.get? b = some o → h3.get? b = some o := fun b o nb e => k3 b o (nodx b o e nb) (k2 b o nb (k1 b o nb (keep0 b o e)))
    refine hq h3 tk3 ⟨up, t1, dx, ?_, dne, k3 _ _ (Ne.symm dne) x2, ns3⟩
    cases q : h.get? dx with
    | none => rfl
    | some o => exact absurd rfl (nodx dx o q dne)
/-- the call of such a class: a new error a, its fields in the dict at dx -/
def XCall (P : Program) (K : PySem.W.Frag) (C : Addr) (fs : List Str) : Prop := ∀ (w : World) (mg mb : Str → Option Value) (A : Around) (R : Result → Shared → Prop) (h : Heap) (g : Array GenState) (d : Drawn) (t : Nat) (os : OsState) (us : List Value),
  us.length = fs.length → Room 1 A → h.NoLimit → K.In h → h.Ns mainGlobals mg → h.Ns builtinsNs mb → (∀ x : Str, x ≠ "__name__" → mb x = bootBuiltins x) →
  (∀ (h' : Heap) (tk : Nat) (a dx t1 : Addr), (∀ b o, h.get? b = some o → h'.get? b = some o) → h.get? a = none → h.get? dx = none → dx ≠ a → h'.get? a = some { cls := .ref C, dict := some dx, data := .fields #[.ref t1, .none, .none, .none, .bool false, .none] } →
    h'.Ns1 dx (fun z => List.lookup z (fs.zip us)) → R (.ok (.ret (.ref a))) ⟨h', g, d, tk, os⟩) →
  codeAny (model P w) A (.call (.ref C) ⟨us, []⟩) R ⟨h, g, d, t, os⟩
theorem made_up {R : Result → Shared → Prop} {us : List Value} {m0 : Str → Option Value} {h' : Heap} {tk : Nat} (hM : Made C ((h.push (kdv_tup us)).push (HandSPX.excO C h.objs.size)) (h.objs.size + 1) m0 h')
    (hR : ∀ (a dx t1 : Addr), (∀ b o, h.get? b = some o → h'.get? b = some o) → h.get? a = none → h.get? dx = none → dx ≠ a → h'.get? a = some { cls := .ref C, dict := some dx, data := .fields #[.ref t1, .none, .none, .none, .bool false, .none] } → h'.Ns1 dx m0 → R (.ok (.ret (.ref a))) ⟨h', g, d, tk, os⟩) :
    R (.ok (.ret (.ref (h.objs.size + 1)))) ⟨h', g, d, tk, os⟩ := by
  obtain ⟨k, t1, dx, n1, n2, e1, e2⟩ := hM
  have up : ∀ b o, h.get? b = some o → ((h.push (kdv_tup us)).push (HandSPX.excO C h.objs.size)).get? b = some o := fun b o e => Heap.get?_push_of_some _ (Heap.get?_push_of_some _ e)
  refine hR _ dx t1 (fun b o e => k b o ?_ (up b o e)) (get_above (Nat.le_succ _)) ?_ n2 e1 e2
  · rintro rfl
    exact absurd (Heap.lt_size e) (Nat.not_lt.mpr (Nat.le_succ _))
  · cases q : h.get? dx with
    | none => rfl
    | some o =>
      have z := up dx o q
      rw [n1] at z
      cases z
theorem xcall1 {ar : Arg} {f y z : Str} {kk : Nat} {p0 p1 p2 p3 p4 p5 pa pb pc pd : Pos} (S : SupAt prog K C st qual fI cc cda) (X : SupTx st qual ar fI cda cc z kk p0 p1 p2 p3 p4) (hbody : C8.fnBody st = [supSt z kk p0 p1 p2 p3 p4 p5, selfSt ar.arg f y pa pb pc pd])
    (hbind : ∀ (kV doc pm : Value) (an : Option Addr) (ct u1 u2 : Value), bindArgs (ksFn "__init__" qual (C8.fnArgs st) (C8.fnBody st) (C8.fnScope st) .none kV doc pm an (.ref cda) ct cc) ⟨[u1, u2], []⟩ = pure [(ar.arg, u1), (y, u2)])
    (ky : (C8.fnScope st).names.lookup y = some .local) (yd : (y == ("__debug__" : Str)) = false) (yne : y ≠ ar.arg) (hno : PySem.W.findIn K (.ref C) f = some none) : XCall prog K C [f] := by
  intro w mg mb A R h g d t os us hl rm lim hK hm hb hbb hR
  match us, hl with
  | [u], _ =>
    obtain ⟨nm, q, N, bs, bm, sn, sub, ab, col, dd, k0, k1, k2, k3, k5, hC, hbm⟩ := S.oex.cls
    obtain ⟨od, an, osl, kV, doc, pm, ct, lf⟩ := S.fn
    have up : ∀ b o, h.get? b = some o → ((h.push (kdv_tup [u])).push (HandSPX.excO C h.objs.size)).get? b = some o := fun b o e => Heap.get?_push_of_some _ (Heap.get?_push_of_some _ e)
    have hget : ((h.push (kdv_tup [u])).push (HandSPX.excO C h.objs.size)).get? (h.objs.size + 1) = some (HandSPX.excO C h.objs.size) := by heap_get
    have xK : K.lookup (h.objs.size + 1) = none := by
      cases q : K.lookup (h.objs.size + 1) with
      | none => rfl
      | some o => exact absurd (Heap.lt_size (hK _ _ q)) (Nat.not_lt.mpr (Nat.le_succ _))
    refine HandSPX.call_own F.excBase_ValueError (fun Y => HandSPX.refsVE_contains Y bm hbm) (hK _ _ hC) (looks_findIn hK S.init) (fun self => exc_bind (hK _ _ lf) rfl self) (by show 1 ≤ sizeLine; decide) ?_
    refine init1 S X hbody hbind ky yd yne hno (rm.make C [u] []).depth (lim.keeps up) (hK.keeps up) (hm.keeps up) (hb.keeps up) hbb hget xK ?_
    intro h' tk hM
    refine ⟨rfl, made_up hM fun a dx t1 r1 r2 r3 r4 r5 r6 => hR h' tk a dx t1 r1 r2 r3 r4 r5 ?_⟩
    have em : (fun z => List.lookup z (List.zip [f] [u])) = fun z => if z = f then some u else none := by
      funext z
      show List.lookup z [(f, u)] = _
      rw [List.lookup_cons]
      by_cases e : z = f
      · rw [if_pos e, show (z == f) = true from beq_iff_eq.mpr e]
      · rw [if_neg e, show (z == f) = false from beq_eq_false_iff_ne.mpr e]
        rfl
    rw [em]
    exact r6
theorem xcall2 {ar : Arg} {f y f2 y2 z : Str} {kk : Nat} {p0 p1 p2 p3 p4 p5 pa pb pc pd qa qb qc qd : Pos} (S : SupAt prog K C st qual fI cc cda) (X : SupTx st qual ar fI cda cc z kk p0 p1 p2 p3 p4)
    (hbody : C8.fnBody st = [supSt z kk p0 p1 p2 p3 p4 p5, selfSt ar.arg f y pa pb pc pd, selfSt ar.arg f2 y2 qa qb qc qd])
    (hbind : ∀ (kV doc pm : Value) (an : Option Addr) (ct u1 u2 u3 : Value), bindArgs (ksFn "__init__" qual (C8.fnArgs st) (C8.fnBody st) (C8.fnScope st) .none kV doc pm an (.ref cda) ct cc) ⟨[u1, u2, u3], []⟩ = pure [(ar.arg, u1), (y, u2), (y2, u3)])
    (ky : (C8.fnScope st).names.lookup y = some .local) (ky2 : (C8.fnScope st).names.lookup y2 = some .local) (yd : (y == ("__debug__" : Str)) = false) (yd2 : (y2 == ("__debug__" : Str)) = false) (yne : y ≠ ar.arg) (yne2 : y2 ≠ ar.arg) (yy : y ≠ y2) (ff : f ≠ f2)
    (hno : PySem.W.findIn K (.ref C) f = some none) (hno2 : PySem.W.findIn K (.ref C) f2 = some none) : XCall prog K C [f, f2] := by
  intro w mg mb A R h g d t os us hl rm lim hK hm hb hbb hR
  match us, hl with
  | [u, u2], _ =>
    obtain ⟨nm, q, N, bs, bm, sn, sub, ab, col, dd, k0, k1, k2, k3, k5, hC, hbm⟩ := S.oex.cls
    obtain ⟨od, an, osl, kV, doc, pm, ct, lf⟩ := S.fn
    have up : ∀ b o, h.get? b = some o → ((h.push (kdv_tup [u, u2])).push (HandSPX.excO C h.objs.size)).get? b = some o := fun b o e => Heap.get?_push_of_some _ (Heap.get?_push_of_some _ e)
    have hget : ((h.push (kdv_tup [u, u2])).push (HandSPX.excO C h.objs.size)).get? (h.objs.size + 1) = some (HandSPX.excO C h.objs.size) := by heap_get
    have xK : K.lookup (h.objs.size + 1) = none := by
      cases q : K.lookup (h.objs.size + 1) with
      | none => rfl
      | some o => exact absurd (Heap.lt_size (hK _ _ q)) (Nat.not_lt.mpr (Nat.le_succ _))
    refine HandSPX.call_own F.excBase_ValueError (fun Y => HandSPX.refsVE_contains Y bm hbm) (hK _ _ hC) (looks_findIn hK S.init) (fun self => exc_bind (hK _ _ lf) rfl self) (by show 2 ≤ sizeLine; decide) ?_
    refine init2 S X hbody hbind ky ky2 yd yd2 yne yne2 yy hno hno2 (rm.make C [u, u2] []).depth (lim.keeps up) (hK.keeps up) (hm.keeps up) (hb.keeps up) hbb hget xK ?_
    intro h' tk hM
    refine ⟨rfl, made_up hM fun a dx t1 r1 r2 r3 r4 r5 r6 => hR h' tk a dx t1 r1 r2 r3 r4 r5 ?_⟩
    have em : (fun z => List.lookup z (List.zip [f, f2] [u, u2])) = fun z => if z = f2 then some u2 else if z = f then some u else none := by
      funext z
      show List.lookup z [(f, u), (f2, u2)] = _
      rw [List.lookup_cons]
      by_cases e : z = f
      · have e2 : z ≠ f2 := by rw [e]; exact ff
        rw [if_neg e2, if_pos e, show (z == f) = true from beq_iff_eq.mpr e]
      · rw [show (z == f) = false from beq_eq_false_iff_ne.mpr e, List.lookup_cons]
        by_cases e2 : z = f2
        · rw [if_pos e2, show (z == f2) = true from beq_iff_eq.mpr e2]
        · rw [if_neg e2, if_neg e, show (z == f2) = false from beq_eq_false_iff_ne.mpr e2]
          rfl
    rw [em]
    exact r6
end
theorem relO_zip : ∀ {fs : List Str} {vs : List V} {us : List Value}, Vals vs us → ∀ f : Str, RelO (List.lookup f (fs.zip vs)) (List.lookup f (fs.zip us))
  | [], _, _, _, f => by rw [List.zip_nil_left, List.zip_nil_left]; exact True.intro
  | _ :: _, _, _, .nil, f => by rw [List.zip_nil_right, List.zip_nil_right]; exact True.intro
  | g :: fs, _, _, .cons r rr, f => by
    rw [List.zip_cons_cons, List.zip_cons_cons, List.lookup_cons, List.lookup_cons]
    cases f == g with
    | true => exact r
    | false => exact relO_zip rr f
/-- an error of the class at C, its dict at d; whether it was raised is not said -/
def exV (C a d : Addr) : HO := .ext fun h => ∃ (oe : Obj) (vs : Array Value), h.get? a = some oe ∧ Zc (.ref C) (some d) oe ∧ oe.data = .fields vs
theorem exV_ok {P : Program} {w : World} {H : Hp} {h : Heap} {C a d : Addr} {oe : Obj} {vs : Array Value} (e : h.get? a = some oe) (z : Zc (.ref C) (some d) oe) (hd : oe.data = .fields vs) : ObjOk P w H h a (exV C a d) :=
  ⟨⟨oe, vs, e, z, hd⟩, ⟨oe, e⟩, fun h1 h2 ⟨oe, vs, e, z, hd⟩ k => ⟨oe, vs, k oe e, z, hd⟩⟩
theorem exV_at {P : Program} {w : World} {H : Hp} {h : Heap} {C a d : Addr} (ok : HOk P w H h) (e : H a = some (exV C a d)) : ∃ (oe : Obj) (vs : Array Value), h.get? a = some oe ∧ Zc (.ref C) (some d) oe ∧ oe.data = .fields vs := by
  obtain ⟨x, _, _⟩ := ok a _ e
  exact x
section
variable {X : Cx} {pins : List (Addr × Obj)} {σ : L2.St} {H : Hp} {s : Shared} {C : Addr} {fs : List Str} {vs : List V} {us : List Value}
theorem xnew {Q : Value → Shared → Prop} {E : Value → Shared → Prop} (hX : XCall X.prog X.K C fs) (rm : Room 1 X.A) (I : Inv X pins σ H s) (r : Vals vs us) (hl : vs.length = fs.length)
    (hq : ∀ (a dx t1 : Addr) (G : Heap) (s' : Shared), Inv X pins σ (upd H dx (.xd (fs.zip vs))) { s' with heap := G } → (∀ b o, G.get? b = some o → s'.heap.get? b = some o) → G.get? a = none → H a = none → H dx = none → dx ≠ a →
      s'.heap.get? a = some { cls := .ref C, dict := some dx, data := .fields #[.ref t1, .none, .none, .none, .bool false, .none] } → AllBare s'.gens → Q (.ref a) s') : wpAny (model X.prog X.w) X.A (call (.ref C) us) Q E s := by
  obtain ⟨hp, g, d, t, os⟩ := s
  obtain ⟨mb, hb, hbb⟩ := I.mod.blt
  refine wpAny_call (hX X.w X.mg mb X.A _ hp g d t os us (by rw [← hl]; exact (Paired.length r).symm) rm I.nolimit I.kIn (I.mod.glob.keeps I.bk) (hb.keeps I.bk) hbb ?_)
  intro h' tk a dx t1 k na nd ne ha hn
  obtain ⟨G, g1, g2⟩ := restrict h' fun b => decide (b ≠ a)
  have gk : ∀ b, b ≠ a → G.get? b = h'.get? b := fun b hb => g1 b (decide_eq_true hb)
  have ga : G.get? a = none := g2 a (by simp)
  have Ha : H a = none := I.hok.gone na
  have Hd : H dx = none := I.hok.gone nd
  have kG : ∀ b o, hp.get? b = some o → G.get? b = some o := fun b o e => by
    have nb : b ≠ a := by
      rintro rfl
      rw [na] at e
      cases e
    rw [gk b nb]
    exact k b o e
  have J : Inv X pins σ (upd H dx (.xd (fs.zip vs))) ⟨G, g, d, tk, os⟩ := by
    refine Inv.laidN (t' := tk) (h' := G) I kG nd Hd ?_
    obtain ⟨o, es, ep, e1, r1⟩ := hn
    exact ⟨_, ⟨o, es, ep, by rw [gk dx ne]; exact e1, r1⟩, relO_zip r⟩
  refine hq a dx t1 G ⟨h', g, d, tk, os⟩ J (fun b o e => ?_) ga Ha Hd ne ha I.bare
  have nb : b ≠ a := by
    rintro rfl
    rw [ga] at e
    cases e
  rw [← gk b nb]
  exact e
/-- C(e, ..) that is raised -/
def tXr (C : Addr) (fs : List Str) (ta : TA) : L2.St → Hp → XK → Prop := fun σ H Q => ta σ H fun vs H1 => vs.length = fs.length ∧ ∀ dx, H1 dx = none → Q (.ref C) (some dx) (upd H1 dx (.xd (fs.zip vs)))
/-- C(e, ..) as a value -/
def tXv (C : Addr) (fs : List Str) (ta : TA) : TE := fun σ H Q => ta σ H fun vs H1 => vs.length = fs.length ∧ ∀ a dx, H1 a = none → H1 dx = none → dx ≠ a → Q (.ref a) (upd (upd H1 dx (.xd (fs.zip vs))) a (exV C a dx))
variable {x : Str} {e : Expr} {es : List Expr} {ta : TA} {p pos : Pos}
theorem pmk_x {k : Nat} (hX : XCall X.prog X.K C fs) (T : OexC X.K C) (hr : Rm (k + 1) X.A) (hg : Gl X x) (hm : X.mg x = some (.ref C)) (ha : PA X (e :: es) ta)
    (hdb : (x == ("__debug__" : Str)) = false := by decide) (he : starEach (e :: es) X.env = (false, eval e X.env) :: starEach es X.env := by rfl) (hpl : (backTo pos (starEach es X.env)).any (·.1) = false := by rfl) :
    PMk X (.Call (.Name x p) (e :: es) [] pos) (tXr C fs ta) := by
  intro pins s σ H Q I h
  refine wpAny_Call_Name_kw (ld_glob I hg hm ?_ hdb)
  refine PySem.W.callWith_K (h₀ := X.base) I.ok.mod.kin T.kC (thn (ha.run pos pins s σ H _ I h) ?_) he hpl
  rintro us s1 ⟨vs, H1, I1, r1, hl, q1⟩
  refine ⟨I1.kIn, ?_⟩
  refine xnew hX (hr.room.mono (by omega)) I1 r1 hl ?_
  intro a dx t1 G s' J kG ga Ha Hd ne hget ag
  exact ⟨a, _, _, { s' with heap := G }, _, .ref C, some dx, rfl, J, kG, ga, hget, ⟨rfl, rfl⟩, rfl, rfl, by rw [upd_ne (Ne.symm ne)]; exact Ha, rfl, ag, raises_own T.exC T.tyC, q1 dx Hd⟩
theorem pe_x {k : Nat} (hX : XCall X.prog X.K C fs) (T : OexC X.K C) (hr : Rm (k + 1) X.A) (hg : Gl X x) (hm : X.mg x = some (.ref C)) (ha : PA X (e :: es) ta)
    (hdb : (x == ("__debug__" : Str)) = false := by decide) (he : starEach (e :: es) X.env = (false, eval e X.env) :: starEach es X.env := by rfl) (hpl : (backTo pos (starEach es X.env)).any (·.1) = false := by rfl) :
    PE X (.Call (.Name x p) (e :: es) [] pos) (tXv C fs ta) := by
  constructor
  intro pins s σ H Q I h
  refine wpAny_Call_Name_kw (ld_glob I hg hm ?_ hdb)
  refine PySem.W.callWith_K (h₀ := X.base) I.ok.mod.kin T.kC (thn (ha.run pos pins s σ H _ I h) ?_) he hpl
  rintro us s1 ⟨vs, H1, I1, r1, hl, q1⟩
  refine ⟨I1.kIn, ?_⟩
  refine xnew hX (hr.room.mono (by omega)) I1 r1 hl ?_
  intro a dx t1 G s' J kG ga Ha Hd ne hget ag
  refine ⟨.ref a, _, ?_, rfl, q1 a dx Ha Hd ne⟩
  exact Inv.laidN (s := { s' with heap := G }) (t' := s'.toks) (h' := s'.heap) J kG ga (by rw [upd_ne (Ne.symm ne)]; exact Ha) (exV_ok hget ⟨rfl, rfl⟩ rfl)
/-- e.f, e an error -/
def tXg (C : Addr) (f : Str) (te : TE) : TE := fun σ H Q => te σ H fun x H1 => ∃ (a d : Addr) (fs : List (Str × V)) (v : V), x = .ref a ∧ H1 a = some (exV C a d) ∧ H1 d = some (.xd fs) ∧ fs.lookup f = some v ∧ Q v H1
theorem pe_xg {f : Str} {te : TE} (T : XfC X.K C) (hno : PySem.W.findIn X.K (.ref C) f = some none) (he : PE X e te) (hb : attributeBase e f X.env (eval e X.env) = eval e X.env := by rfl) : PE X (.Attribute e f pos) (tXg C f te) := by
  constructor
  intro pins s σ H Q I h
  refine attr_of hb (thn (he.run pins s σ H _ I h) ?_)
  rintro u s1 ⟨x, H1, I1, rx, a, d, fs, v, rfl, ea, ed, l, q⟩
  obtain rfl : u = Value.ref a := rx
  obtain ⟨oe, vs, hget, hz, hd⟩ := exV_at I1.hok ea
  obtain ⟨mA, hns, hr⟩ := (show ObjOk X.prog X.w H1 s1.heap d (.xd fs) from I1.hok d _ ed)
  obtain ⟨od, ho, hl⟩ := lookIn_ns hns
  obtain ⟨u, hu, ru⟩ := RelO.some_of (v := v) (o := mA f) (by rw [← l]; exact hr f)
  have J : PySem.W.InstAt s1.heap a oe C (some od) := ⟨hget, hz.1, by unfold PySem.W.notCls; rw [hd] <;> rfl, by rw [hz.2]; exact ho⟩
  exact HandSPX.exc_get I1.kIn J T.ga T.gg T.exC (PySem.W.findObj_own T.hdC hno rfl (by rw [hl, hu])) (handed_of ru) ⟨v, H1, I1.tok _, ru, q⟩
/-- isinstance, also of errors -/
def TyE (K : PySem.W.Frag) (H : Hp) (x : V) (t : Value) : Prop := TyX K H x t ∨ ∃ (a d D : Addr) (fs : List (Str × V)), x = .ref a ∧ t = .ref D ∧ ExcC K D ∧ H a = some (exV D a d) ∧ H d = some (.xd fs)
def rIsX (K : PySem.W.Frag) : List V → Hp → VK → Prop := fun xs H Q => ∃ (x c : V) (t u : Value) (b : Bool), xs = [x, c] ∧ ClsV c u ∧ TyE K H x t ∧ PySem.W.kitOne K t u = some b ∧ Q (.bl b) H
theorem call_isX : CallR X (.builtin "isinstance") (rIsX X.K) := by
  intro pins s σ H xs us Q I r h
  obtain ⟨x, c, t, u, b, rfl, hc, ty, e, q⟩ := h
  rcases ty with ty | ⟨a, d, D, fs, rfl, rfl, T, ea, ed⟩
  · exact call_isi pins s σ H _ us Q I r ⟨x, c, t, u, b, rfl, hc, ty, e, q⟩
  · obtain ⟨u1, u2, rfl, r1, r2⟩ := vals2 r
    have e2 := hc.eq r2
    subst e2
    obtain rfl : u1 = Value.ref a := r1
    obtain ⟨oe, vs, hget, hz, hd⟩ := exV_at I.hok ea
    obtain ⟨mA, hns, hr⟩ := (show ObjOk X.prog X.w H s.heap d (.xd fs) from I.hok d _ ed)
    obtain ⟨od, ho, hl⟩ := lookIn_ns hns
    have J : PySem.W.InstAt s.heap a oe D (some od) := ⟨hget, hz.1, by unfold PySem.W.notCls; rw [hd] <;> rfl, by rw [hz.2]; exact ho⟩
    obtain ⟨cd, hcd, _⟩ := PySem.W.any_some T.hd
    exact PySem.W.kia_one (PySem.W.kitx_exc (by rw [hcd]; rfl) T.hg T.hk T.hs T.ha T.hn T.ht T.hm) I.kIn J e (fun z => nomatch z) fun tk => ⟨.bl b, H, I.tok tk, rfl, q⟩
end
/-! ### try: body, except x as n: v = n, the error kept under v -/
section
variable {X : Cx} {pins : List (Addr × Obj)} {σ : L2.St} {H : Hp} {s : Shared}
/-- an object that came up since the entry is tracked from now on -/
theorem Inv.track {C a d : Addr} {oe : Obj} {vs : Array Value} (I : Inv X pins σ H s) (he : s.heap.get? a = some oe) (hz : Zc (.ref C) (some d) oe) (hd : oe.data = .fields vs) (na : H a = none) (n0 : X.s_0.heap.get? a = none) (nL : a ≠ X.env.locals)
    (np : ∀ p ∈ X.pn ++ pins, p.1 ≠ a) : Inv X pins σ (upd H a (exV C a d)) s := by
  have off : ∀ {b : Addr} {o : HO}, H b = some o → upd H a (exV C a d) b = some o := fun {b o} e => by
    rw [upd_ne (ne_of_none e na)]
    exact e
  refine { ok := I.ok, os := I.os, bare := I.bare, base := ?_, loc := I.loc, cell := I.cell, free := ?_, freeC := ?_, pin := ?_, hok := ?_, len := I.len }
  · refine { keep := I.base.keep, slot := I.base.slot, free := ?_, there := I.base.there, tups := fun b xs e => off (I.base.tups b xs e), frzs := fun b o u e => off (I.base.frzs b o u e), tbls := ?_ }
    · intro b o e n hx
      have nb : b ≠ a := by
        rintro rfl
        rw [n0] at e
        cases e
      rw [upd_ne nb]
      exact I.base.free b o e n hx
    · intro b ps e
      obtain ⟨more, q⟩ := I.base.tbls b ps e
      exact ⟨more, off q⟩
  · rw [upd_ne (Ne.symm nL)]
    exact I.free
  · intro y c e
    have nc : c ≠ a := by
      rintro rfl
      obtain ⟨v, o, e1, e2⟩ := I.cell y c e
      rw [he] at e1
      injection e1 with e1
      subst e1
      rw [hd] at e2
      cases e2
    rw [upd_ne nc]
    exact I.freeC y c e
  · intro p hp
    obtain ⟨p1, p2, p3⟩ := I.pin p hp
    exact ⟨p1, by rw [upd_ne (np p hp)]; exact p2, p3⟩
  · intro b o e
    by_cases hb : b = a
    · subst hb
      rw [upd_same] at e
      injection e with e
      subst e
      exact exV_ok he hz hd
    · rw [upd_ne hb] at e
      exact (I.hok b o e).stay (fun _ _ _ z => z) (fun _ z => off z) (fun _ _ z => off z)
/-- what such a clause wishes of an error of the body -/
def wKeep (K : PySem.W.Frag) (c : Value) (i j : Nat) (D : Ends) : WX := fun cls d σ H =>
  ∃ C dd : Addr, cls = .ref C ∧ d = some dd ∧ PySem.W.exmOne K cls c = some true ∧ ∀ a, H a = none → D.nx (((σ.set i (some (.ref a))).set j (some (.ref a))).set i none) (upd H a (exV C a dd))
variable {x n v : Str} {c : Value} {i j : Nat} {body : List Stmt} {np vp xp ap hp0 pos : Pos} {tb : WX → TS}
theorem ps_try_keep (hs : X.stack = X.env :: X.outer) (hf : X.env.frame = some X.env.locals) (hex : X.ex = []) (hN : X.N.Nodup) (hi : X.N[i]? = some n) (hj : X.N[j]? = some v) (hln : X.env.kindOf n = some .local) (hlv : X.env.kindOf v = some .local) (hc : Names X x c)
    (nd : (n == ("__debug__" : Str)) = false) (ncd : (n == ("__classdict__" : Str)) = false) (hij : i < X.N.length)
    (hb : ∀ (W : WX) (pn : List (Addr × Obj)) (xe : Value → Shared → Prop), Takes (X.tr pn xe) W → PSs (X.tr pn xe) body (tb W))
    (hsw : swapsWith (.Name n xp) (some (.Name v vp)) ap.line X.env = pure false := by rfl) :
    PS X (.Try body [.ExceptHandler (some (.Name x np)) (some n) [.Assign [.Name v vp] (.Name n xp) ap] hp0] [] [] pos) (fun D σ H => tb (wKeep X.K c i j D) D σ H) := by
  constructor
  intro pins s σ H D I h
  have ok := I.ok
  have hfr : X.A.frames = some (X.env :: X.outer) := by rw [ok.frames, hs]
  refine wpAny_Try_except ?_
  have body_run := (hb (wKeep X.K c i j D) (X.pn ++ pins) (fun e s₁ => wpAny (model X.prog X.w) X.A (noteFrame e X.env) (fun _ s₂ => wpAny (model X.prog X.w) X.A (setFlight e none) (fun _ s₃ =>
    wpAny (model X.prog X.w) X.A (handleBy e X.env [.ExceptHandler (some (.Name x np)) (some n) [.Assign [.Name v vp] (.Name n xp) ap] hp0]) (L2.SP X pins D) X.xe s₃) X.xe s₂) X.xe s₁) ?take).run [] s σ H D (I.toTry _) h
  case take =>
    rintro _ s1 ⟨a, B, sI, pins1, σ1, H1, cls, d, rfl, J0, nb, up, sky, na, os, ag, C, dd, rfl, rfl, hmatch, next⟩
    have J : Inv X pins σ1 H1 sI := J0.ofTry ok
    rw [show (X.tr (X.pn ++ pins) _).stack = X.env :: X.outer from hs] at sky
    refine Sky.land Zc.steady hfr hf sky fun h3 fl3 up3 => ?_
    obtain ⟨oe3, vs3, he3, hz3, hd3⟩ := fl3.there
    have away : ∀ {o : Obj} {vs : Array Value}, h3.get? a = some o → o.data = .fields vs → a ∉ frs (X.env :: X.outer) := by
      intro o vs e dd hm
      obtain ⟨_, o1, e1, no⟩ := fl3.2.2.1.mem hm
      rw [e] at e1
      injection e1 with e1
      subst e1
      exact no _ dd
    have nfr := away he3 hd3
    have nL : a ≠ X.env.locals := by
      rintro rfl
      exact nfr (List.mem_filterMap.mpr ⟨X.env, List.mem_cons_self, hf⟩)
    have nF : a ∉ X.fs := by
      intro hm
      obtain ⟨e, m1, m2⟩ := List.mem_filterMap.mp hm
      exact nfr (List.mem_filterMap.mpr ⟨e, List.mem_cons_of_mem _ m1, m2⟩)
    have newI : sI.heap.get? a = none := by
      cases q : sI.heap.get? a with
      | none => rfl
      | some o =>
        have z := nb a o q (by show a ∉ frs X.stack; rw [hs]; exact nfr)
        rw [fl3.2.1] at z
        cases z
    have new0 : X.s_0.heap.get? a = none := by
      cases q : X.s_0.heap.get? a with
      | none => rfl
      | some o =>
        obtain ⟨o2, z⟩ := J.base.there a o q (by rw [hex]; exact fun z => nomatch z)
        rw [newI] at z
        cases z
    have newP : ∀ p ∈ X.pn ++ pins, p.1 ≠ a := by
      rintro p hp rfl
      have z := (J.pin p hp).1
      rw [newI] at z
      cases z
    have nb' : ∀ b o, sI.heap.get? b = some o → b ∉ frs X.stack → B.get? b = some o := nb
    have J3 : Inv X pins σ1 H1 { s1 with heap := h3 } := J.landed nb' fl3.1 (up.trans up3) os ag
    have S3 := J3.suite he3 hd3 na nL nF
    refine wpAny_handleBy_cons (codeAny_handlers_test ?_) (fun q => nomatch q)
    have LT : PySem.W.Looks (model X.prog X.w) h3 (typeOf (.ref a)) (.ref C) := by
      intro A Q E s k q
      refine wpAny_typeOf_ref (k _ _ he3) ?_
      rw [hz3.1]
      exact q
    have LM := PySem.W.exm_one (M := model X.prog X.w) J3.kIn LT hmatch
    have named : ∀ {Q : Value → Shared → Prop} {E : Value → Shared → Prop}, Q c { s1 with heap := h3 } → wpAny (model X.prog X.w) (X.A.mark (some (.ref a))) (eval (.Name x np) X.env) Q E { s1 with heap := h3 } := by
      intro Q E q
      obtain ⟨hg, hdbg, hm | ⟨hm, hv, hnn⟩⟩ := hc
      · exact ld_glob (X := X.suite a ((a, oe3) :: (X.pn ++ pins))) S3 hg hm q hdbg
      · exact ld_blt (X := X.suite a ((a, oe3) :: (X.pn ++ pins))) S3 hg hm hv q hnn hdbg
    refine named (LM.here ?_)
    refine codeAny_handlers_suite_as ?_
    refine HandSPX.lands_againZ fl3 fun h4 fl4 up4 => ?_
    have J4 : Inv X pins σ1 H1 { s1 with heap := h4 } := J.landed nb' fl4.1 ((up.trans up3).trans up4) os ag
    obtain ⟨oe4, vs4, he4, hz4, hd4⟩ := fl4.there
    have S4 := J4.suite he4 hd4 na nL nF
    refine store_ok (X := X.suite a ((a, oe4) :: (X.pn ++ pins))) (v := .ref a) S4 hN hi (.inl hln) rfl (fun s5 S5 => ?_) (.inr hln)
    have lenN : σ1.length = X.N.length := J.len
    have the_n : (σ1.set i (some (.ref a)))[i]? = some (some (V.ref a)) := by
      rw [List.getElem?_set_self (by rw [lenN]; exact hij)]
    have st : PSs (X.suite a ((a, oe4) :: (X.pn ++ pins))) [.Assign [.Name v vp] (.Name n xp) ap] (tAsg (tVar i) (gName j)) := pss_one (ps_set hN hj (.inl hlv) (pv i hi (.inl hln) nd ncd) hsw (.inr hlv))
    refine wpAny_mono (st.run [] s5 _ H1 { nx := fun σ' H' => σ' = (σ1.set i (some (.ref a))).set j (some (.ref a)) ∧ H' = H1, rt := fun _ _ => False } S5 (u_asg (u_var the_n ⟨rfl, rfl⟩))) ?_ (fun _ _ z => False.elim z)
    rintro (_ | _ | _ | u) s6 hsp
    · obtain ⟨σ6, H6, S6, rfl, rfl⟩ := hsp
      refine gone_ok (X := X.suite a ((a, oe4) :: (X.pn ++ pins))) S6 hN hi hln ?_
      intro s7 S7
      obtain ⟨p1, p2, _⟩ := S7.pin (a, oe4) (List.mem_append_left _ List.mem_cons_self)
      exact ⟨_, _, Inv.track (S7.unsuite ok) p1 hz4 hd4 p2 new0 nL newP, next a na⟩
    · obtain ⟨_, _, _, z⟩ := hsp
      exact False.elim z
    · obtain ⟨_, _, _, z⟩ := hsp
      exact False.elim z
    · obtain ⟨_, _, _, _, _, z⟩ := hsp
      exact False.elim z
  refine wpAny_mono body_run ?_ (fun e s1 he => he)
  rintro (_ | _ | _ | u) s1 hsp
  · obtain ⟨σ', H', J, q⟩ := hsp
    exact wpAny_execs_nil ⟨σ', H', J.ofTry ok, q⟩
  · obtain ⟨σ', H', J, q⟩ := hsp
    exact ⟨σ', H', J.ofTry ok, q⟩
  · obtain ⟨σ', H', J, q⟩ := hsp
    exact ⟨σ', H', J.ofTry ok, q⟩
  · obtain ⟨v, σ', H', J, r, q⟩ := hsp
    exact ⟨v, σ', H', J.ofTry ok, r, q⟩
end
/-! ### calls in a context that takes errors, by slots -/
section
variable {X : Cx} {W : WX} {k j : Nat} {C : Addr} {sp : Sp} {dvs : List V} {x m : Str} {p pos apos : Pos} {e o : Expr} {es : List Expr} {ta : TE} {t : TA}
theorem pass_tk {pins : List (Addr × Obj)} {σ : L2.St} (tk : Takes X W) : PassAt X pins σ (fun cls d H' => W cls d σ H') := fun _ _ e s' I c => tk e s' (XE.of_call I (fun _ _ _ h => h) c)
def tMkW (C : Addr) (sp : Sp) (dvs : List V) (W : WX) (t : TA) : TE := fun σ H Q => t σ H fun vs H1 => ∀ x dx, H1 x = none → H1 dx = none → dx ≠ x →
  sp (.ref x :: (vs ++ dvs)) (upd (upd H1 dx (.own x)) x (.ins C dx [])) (fun v H2 => v = .non ∧ Q (.ref x) H2) (fun cls d H' => W cls d σ H')
theorem pe_mkW (tk : Takes X W) (c : Mak X.prog X.w X.K X.mg X.base k x C sp dvs) (hr : Rm j X.A) (hk : k + 1 ≤ j) (hg : Gl X x) (ha : PA X (e :: es) t) (hdb : (x == ("__debug__" : Str)) = false := by decide)
    (he : starEach (e :: es) X.env = (false, eval e X.env) :: starEach es X.env := by rfl) (hpl : (backTo pos (starEach es X.env)).any (·.1) = false := by rfl) : PE X (.Call (.Name x p) (e :: es) [] pos) (tMkW C sp dvs W t) := by
  obtain ⟨f, fd, ps, ds, M, F, hm, b, d⟩ := c.ex
  constructor
  intro pins s σ H Q I h
  refine wpAny_Call_Name_kw (ld_glob I hg hm ?_ hdb)
  refine PySem.W.callWith_K (h₀ := X.base) I.ok.mod.kin M.kp (thn (ha.run pos pins s σ H _ I h) ?_) he hpl
  rintro us s1 ⟨vs, H1, I1, r, q⟩
  exact ⟨I1.kIn, makeG M F (hr.mono hk) b d (pass_tk tk) I1 r q⟩
def tCW (sp : Sp) (dvs : List V) (W : WX) (t : TA) : TE := fun σ H Q => t σ H fun vs H1 => sp (vs ++ dvs) H1 Q (fun cls d H' => W cls d σ H')
theorem pe_cW (tk : Takes X W) (c : Cal X.prog X.w X.K X.mg X.base k x sp dvs) (hr : Rm j X.A) (hk : k ≤ j) (hg : Gl X x) (ha : PA X (e :: es) t) (hdb : (x == ("__debug__" : Str)) = false := by decide)
    (he : starEach (e :: es) X.env = (false, eval e X.env) :: starEach es X.env := by rfl) (hpl : (backTo pos (starEach es X.env)).any (·.1) = false := by rfl) : PE X (.Call (.Name x p) (e :: es) [] pos) (tCW sp dvs W t) := by
  obtain ⟨f, fd, ps, ds, F, hm, kp, b, d⟩ := c.ex
  constructor
  intro pins s σ H Q I h
  refine wpAny_Call_Name_kw (ld_glob I hg hm ?_ hdb)
  refine PySem.W.callWith_K (h₀ := X.base) I.ok.mod.kin kp (thn (ha.run pos pins s σ H _ I h) ?_) he hpl
  rintro us s1 ⟨vs, H1, I1, r, q⟩
  exact ⟨I1.kIn, runG F (hr.mono hk) b d (pass_tk tk) I1 r q⟩
def tSMW (C : Addr) (sp : Sp) (dvs : List V) (W : WX) (ta : TE) (t : TA) : TE := fun σ H Q => ta σ H fun x H1 => x = .ref C ∧ t σ H1 fun vs H2 => sp (vs ++ dvs) H2 Q (fun cls d H' => W cls d σ H')
theorem pe_smW {pl : Sem Bool} (tk : Takes X W) (c : Sta X.prog X.w X.K X.mg X.base k C m sp dvs) (hr : Rm j X.A) (hk : k ≤ j) (ho : PE X o ta) (ha : PA X (e :: es) t)
    (hst : starEach (e :: es) X.env = (false, eval e X.env) :: starEach es X.env := by rfl) (hpl : (backTo pos (starEach es X.env)).any (·.1) = false := by rfl)
    (ht : eval (.Call (.Attribute o m apos) (e :: es) [] pos) X.env = (do
      let ov ← eval o X.env
      standAt apos.atName
      let (g, first) ← holding [ov] (getMethod ov m pl)
      callWith pos g first (backTo pos (starEach (e :: es) X.env)) (backToKw pos (keywordEach [] X.env))) := by rfl) : PE X (.Call (.Attribute o m apos) (e :: es) [] pos) (tSMW C sp dvs W ta t) := by
  obtain ⟨mc, p, g, fd, ps, ds, S, F, bd, dv⟩ := c.ex
  constructor
  intro pins s σ H Q I h
  refine PySem.W.methodCall_KW (pl := pl) (thn (ho.run pins s σ H _ I h) ?_) ht
  rintro u s1 ⟨y, H1, I1, ry, rfl, q⟩
  obtain rfl : u = Value.ref C := ry
  obtain ⟨rest, hp⟩ := S.rc
  refine PySem.W.method_cls I1.kIn S.ga (PySem.W.cls_bind I1.kIn S.rd S.at_ (wpAny_call (PySem.W.sm_get (s := { s1 with toks := s1.toks + 1 }) I1.kIn hp (PySem.W.handed_on rfl ?_))))
  refine PySem.W.callWith_K (first := []) (h₀ := X.base) I.ok.mod.kin S.kp (thn (ha.run pos pins _ σ H1 _ (I1.tok _) q) ?_) hst hpl
  rintro us s2 ⟨vs, H2, I2, r, q2⟩
  exact ⟨I2.kIn, runG F (hr.mono hk) bd dv (pass_tk tk) I2 r q2⟩
end
/-- a def's own wish about errors -/
theorem tk_cx {P : Program} {w : World} {K : PySem.W.Frag} {mg : Str → Option Value} {base : Heap} {N : List Str} {qual : Str} {sc : Scope} {f : Addr} {cdv : Value} {A : Around} {out : List Env} {s : Shared} {H : Hp} {E : XK} :
    Takes (cxOf (L2.CX P w) P w K mg base N qual sc f cdv A out s H E) (fun cls d _ H' => E cls d H') := takes_of rfl rfl rfl rfl
/-- the first parameter of a def's text -/
def argOf (st : Stmt) : Arg := (((C8.fnArgs st).posonlyargs ++ (C8.fnArgs st).args).head?).getD { arg := "", annotation := none, pos := ⟨0, 0, 0, 0⟩ }
section
variable {K : PySem.W.Frag} {H : Hp} {Q : VK}
theorem r_isX {x c : V} {t u : Value} {b : Bool} (hc : ClsV c u) (ty : TyE K H x t) (h0 : PySem.W.kitOne K t u = some b) (h : Q (.bl b) H) : rIsX K [x, c] H Q := ⟨x, c, t, u, b, rfl, hc, ty, h0, h⟩
theorem r_isT {x : V} {a n : String} (b : Bool) (ty : TyX K H x (.type a)) (h0 : kitB a n = some b) (h : Q (.bl b) H) : rIsX K [x, .ty n] H Q := r_isX (.ty n) (.inl ty) (kit_ty h0) h
end
end Tw

namespace Tw
open PySem PySem.Spec PyProof.Rows L2
/-! ### list comprehensions: readings by a word that stands at each turn -/
section
variable {K : PySem.W.Frag} {g : TG} {tt : TT} {te t0 : TE} {tA : TA} {vs : List Nat} {σ : L2.St} {H : Hp} {Q : VK}
/-- the rest, from where the source is known -/
def kLc (J : It) (g : TG) (tt : TT) (te : TE) (vs : List Nat) (σ : L2.St) (Q : VK) (H1 : Hp) : Prop := ∀ D, H1 D = none → ∃ W : Nat → Nat → Hp → Prop, (∃ m, W 0 m (upd H1 D (.lst []))) ∧ ∀ i m H, W i m H →
  (J.stop i H ∧ Q (.ref D) H) ∨ (J.go i H ∧ ∃ Nx : Hp → Prop, (∀ H', Nx H' → ∃ m', m' < m ∧ W (i + 1) m' H') ∧ ∀ x H', J.yld i H x H' → g x (wipe σ vs) H' fun σ2 H2 => wipe σ2 vs = wipe σ vs ∧ tt σ2 H2 fun b H3 =>
    if b = true then te σ2 H3 fun y H4 => ∃ acc, H4 D = some (.lst acc) ∧ acc.length < sizeLine ∧ Nx (upd H4 D (.lst (acc ++ [y]))) else Nx H3)
/-- one turn: what the block does with x while the list at D holds acc; nx: the word behind it -/
def Turn1 (D : Addr) (g : TG) (tt : TT) (te : TE) (vs : List Nat) (σ : L2.St) (x : V) (H : Hp) (nx : Hp → Prop) : Prop := g x (wipe σ vs) H fun σ2 H2 => wipe σ2 vs = wipe σ vs ∧ tt σ2 H2 fun b H3 =>
  if b = true then te σ2 H3 fun y H4 => ∃ acc, H4 D = some (.lst acc) ∧ acc.length < sizeLine ∧ nx (upd H4 D (.lst (acc ++ [y]))) else nx H3
def kLcStr (g : TG) (tt : TT) (te : TE) (vs : List Nat) (σ : L2.St) (Q : VK) : VK := fun v H1 => ∃ x, v = .str x ∧ kLc (Its x) g tt te vs σ Q H1
def kLcLst (K : PySem.W.Frag) (g : TG) (tt : TT) (te : TE) (vs : List Nat) (σ : L2.St) (Q : VK) : VK := fun v H1 => ∃ a, v = .ref a ∧ (∃ xs, SqL K H1 a xs) ∧ kLc (Itl K a) g tt te vs σ Q H1
def kLcRng (g : TG) (tt : TT) (te : TE) (vs : List Nat) (σ : L2.St) (Q : VK) : List V → Hp → Prop := fun ws H1 => ∃ j : Int, ws = [.int j] ∧ -(2 ^ 62) ≤ j ∧ j < 2 ^ 62 ∧ kLc (Itr 0 j.toNat) g tt te vs σ Q H1
theorem u_lcS (h : t0 σ H (kLcStr g tt te vs σ Q)) : tLc (iStr t0) g tt te vs σ H Q := h
theorem u_lcL (h : t0 σ H (kLcLst K g tt te vs σ Q)) : tLc (iList K t0) g tt te vs σ H Q := h
theorem u_lcR (h : tA σ H (kLcRng g tt te vs σ Q)) : tLc (iRng1 tA) g tt te vs σ H Q := h
theorem k_str {x : Str} (h : kLc (Its x) g tt te vs σ Q H) : kLcStr g tt te vs σ Q (.str x) H := ⟨x, rfl, h⟩
theorem k_lst1 {a : Addr} {xs : List V} (h0 : SqL K H a xs) (h : kLc (Itl K a) g tt te vs σ Q H) : kLcLst K g tt te vs σ Q (.ref a) H := ⟨a, rfl, ⟨xs, h0⟩, h⟩
theorem k_rng1 {j : Int} (n : Nat) (hn : j = n) (hz : n ≤ 1000000) (h : kLc (Itr 0 n) g tt te vs σ Q H) : kLcRng g tt te vs σ Q [.int j] H := by
  subst hn
  refine ⟨n, rfl, by omega, by omega, ?_⟩
  rw [Int.toNat_natCast]
  exact h
theorem u_turn {D : Addr} {i : Nat} {x : V} {nx : Hp → Prop} (hw : wipe ((wipe σ vs).set i (some x)) vs = wipe σ vs) (h : te ((wipe σ vs).set i (some x)) H fun y H4 => ∃ acc, H4 D = some (.lst acc) ∧ acc.length < sizeLine ∧ nx (upd H4 D (.lst (acc ++ [y])))) :
    Turn1 D (gName i) tYes te vs σ x H nx := ⟨hw, by
  dsimp only [tYes]
  first
    | exact w_T h
    | exact h⟩
theorem k_lcS {x : Str} {H1 : Hp} (Pv : Nat → Addr → Hp → Prop) (h0 : ∀ D, H1 D = none → Pv 0 D (upd H1 D (.lst []))) (hs : ∀ D i c H, x.cps[i]? = some c → Pv i D H → Turn1 D g tt te vs σ (.str ⟨#[c]⟩) H (Pv (i + 1) D)) (hd : ∀ D H, Pv x.cps.size D H → Q (.ref D) H) : kLc (Its x) g tt te vs σ Q H1 := by
  intro D hD
  refine ⟨fun i m H => m = x.cps.size - i ∧ i ≤ x.cps.size ∧ Pv i D H, ⟨_, rfl, Nat.zero_le _, h0 D hD⟩, ?_⟩
  rintro i m H ⟨rfl, hi, p⟩
  by_cases hlt : i < x.cps.size
  · refine .inr ⟨hlt, Pv (i + 1) D, fun H' q => ⟨x.cps.size - (i + 1), by omega, rfl, hlt, q⟩, ?_⟩
    rintro y H' ⟨rfl, c, hc, rfl⟩
    exact hs D i c _ hc p
  · have e : i = x.cps.size := by omega
    subst e
    exact .inl ⟨Nat.le_refl _, hd D H p⟩
theorem k_lcR {n : Nat} {H1 : Hp} (Pv : Nat → Addr → Hp → Prop) (h0 : ∀ D, H1 D = none → Pv 0 D (upd H1 D (.lst []))) (hs : ∀ D i H, i < n → Pv i D H → Turn1 D g tt te vs σ (.int (i : Int)) H (Pv (i + 1) D)) (hd : ∀ D H, Pv n D H → Q (.ref D) H) : kLc (Itr 0 n) g tt te vs σ Q H1 := by
  intro D hD
  refine ⟨fun i m H => m = n - i ∧ i ≤ n ∧ Pv i D H, ⟨_, rfl, Nat.zero_le _, h0 D hD⟩, ?_⟩
  rintro i m H ⟨rfl, hi, p⟩
  by_cases hlt : i < n
  · refine .inr ⟨hlt, Pv (i + 1) D, fun H' q => ⟨n - (i + 1), by omega, rfl, hlt, q⟩, ?_⟩
    rintro y H' ⟨rfl, rfl⟩
    have e : (0 : Int) + i = i := by omega
    rw [e]
    exact hs D i _ hlt p
  · have e : i = n := by omega
    subst e
    exact .inl ⟨Nat.le_refl _, hd D H p⟩
theorem k_lcL {a : Addr} {xs : List V} {H1 : Hp} (Pv : Nat → Addr → Hp → Prop) (h0 : ∀ D, H1 D = none → Pv 0 D (upd H1 D (.lst []))) (hl : ∀ D i H, i ≤ xs.length → Pv i D H → SqL K H a xs)
    (hs : ∀ D i x H, xs[i]? = some x → Pv i D H → Turn1 D g tt te vs σ x H (Pv (i + 1) D)) (hd : ∀ D H, Pv xs.length D H → Q (.ref D) H) : kLc (Itl K a) g tt te vs σ Q H1 := by
  intro D hD
  refine ⟨fun i m H => m = xs.length - i ∧ i ≤ xs.length ∧ Pv i D H, ⟨_, rfl, Nat.zero_le _, h0 D hD⟩, ?_⟩
  rintro i m H ⟨rfl, hi, p⟩
  have sq := hl D i H hi p
  by_cases hlt : i < xs.length
  · refine .inr ⟨⟨xs, xs[i], sq, List.getElem?_eq_getElem hlt⟩, Pv (i + 1) D, fun H' q => ⟨xs.length - (i + 1), by omega, rfl, hlt, q⟩, ?_⟩
    rintro y H' ⟨rfl, hy⟩
    exact hs D i y _ (hy xs sq) p
  · have e : i = xs.length := by omega
    subst e
    exact .inl ⟨⟨xs, sq, Nat.le_refl _⟩, hd D H p⟩
end
/-! ### errors: readings -/
section
variable {K : PySem.W.Frag} {tA : TA} {ta : TE} {σ : L2.St} {H : Hp} {Q : VK} {QX : XK} {C : Addr} {fs : List Str}
def kXr (C : Addr) (fs : List Str) (QX : XK) : List V → Hp → Prop := fun vs H1 => vs.length = fs.length ∧ ∀ dx, H1 dx = none → QX (.ref C) (some dx) (upd H1 dx (.xd (fs.zip vs)))
theorem u_xr (h : tA σ H (kXr C fs QX)) : tXr C fs tA σ H QX := h
theorem k_xr {vs : List V} (hl : vs.length = fs.length) (h : ∀ (dx : Addr) (H' : Hp), Same H H' → H' dx = some (.xd (fs.zip vs)) → QX (.ref C) (some dx) H') : kXr C fs QX vs H :=
  ⟨hl, fun dx hd => h dx _ (fun y o e => by rw [upd_ne (ne_of_none e hd)]; exact e) upd_same⟩
def kXv (C : Addr) (fs : List Str) (Q : VK) : List V → Hp → Prop := fun vs H1 => vs.length = fs.length ∧ ∀ a dx, H1 a = none → H1 dx = none → dx ≠ a → Q (.ref a) (upd (upd H1 dx (.xd (fs.zip vs))) a (exV C a dx))
theorem u_xv (h : tA σ H (kXv C fs Q)) : tXv C fs tA σ H Q := h
theorem k_xv {vs : List V} (hl : vs.length = fs.length) (h : ∀ (a dx : Addr) (H' : Hp), Same H H' → H' a = some (exV C a dx) → H' dx = some (.xd (fs.zip vs)) → Q (.ref a) H') : kXv C fs Q vs H :=
  ⟨hl, fun a dx ha hd ne => h a dx _ (fun y o e => by rw [upd_ne (ne_of_none e ha), upd_ne (ne_of_none e hd)]; exact e) upd_same (by rw [upd_ne ne]; exact upd_same)⟩
def kXg (C : Addr) (f : Str) (Q : VK) : VK := fun x H1 => ∃ (a d : Addr) (fs : List (Str × V)) (v : V), x = .ref a ∧ H1 a = some (exV C a d) ∧ H1 d = some (.xd fs) ∧ fs.lookup f = some v ∧ Q v H1
theorem u_xg {f : Str} (h : ta σ H (kXg C f Q)) : tXg C f ta σ H Q := h
theorem k_xg {f : Str} {a d : Addr} {fs : List (Str × V)} {v : V} (h1 : H a = some (exV C a d)) (h2 : H d = some (.xd fs)) (h3 : fs.lookup f = some v) (h : Q v H) : kXg C f Q (.ref a) H := ⟨a, d, fs, v, rfl, h1, h2, h3, h⟩
def kMkW (C : Addr) (sp : Sp) (dvs : List V) (W : WX) (σ : L2.St) (Q : VK) : List V → Hp → Prop := fun vs H1 => ∀ x dx, H1 x = none → H1 dx = none → dx ≠ x →
  sp (.ref x :: (vs ++ dvs)) (upd (upd H1 dx (.own x)) x (.ins C dx [])) (fun v H2 => v = .non ∧ Q (.ref x) H2) (fun cls d H' => W cls d σ H')
theorem u_mkW {sp : Sp} {dvs : List V} {W : WX} (h : tA σ H (kMkW C sp dvs W σ Q)) : tMkW C sp dvs W tA σ H Q := h
end
/-! ### instances compared -/
section
open PySem.W
variable {prog : Program} {w : World} {A : Around} {E : Value → Shared → Prop} {s : Shared} {K : Frag} {x C f : Addr} {ox : Obj} {od : Option Obj} {y : Value}
theorem objNe_run {Q : Fin → Shared → Prop} (X : K.In s.heap) (I : InstAt s.heap x ox C od) (heq : findIn K (.ref C) "__eq__" = some (some (.ref f))) (hf : isFn K (.ref f) = true) (hu : A.units < cLine)
    (h : wpAny (model prog w) A (call (.ref f) [.ref x, y]) (fun v s' => ∃ b, v = .bool b ∧ Q (.done (.ret (.bool (!b)))) s') E s) : wpAny (model prog w) A (Builtin.«object.__ne__» ⟨[.ref x, y], []⟩) Q E s := by
  unfold Builtin.«object.__ne__»
  refine wpAny_bind (wpAny_of_eq (a := ((Value.ref x : Value), [y])) (by first | rfl | (simp only [slotArgs]; rfl)) ?_)
  dsimp only
  refine wpAny_bind (wpAny_cRoomFor hu ?_)
  refine wpAny_bind (ifBound_K X I heq hf (wpAny_mono h (fun r s' hr => ?_) fun _ _ e => e))
  obtain ⟨b, rfl, hq⟩ := hr
  dsimp only
  exact wpAny_bind (wpAny_truthy_bool (wpAny_pure hq))
theorem ne_own {Q : Value → Shared → Prop} (X : K.In s.heap) (I : InstAt s.heap x ox C od) (hy : Looks (model prog w) s.heap (typeOf y) (.ref C)) (hne : findIn K (.ref C) "__ne__" = some (some (.builtin "object.__ne__"))) (heq : findIn K (.ref C) "__eq__" = some (some (.ref f))) (hf : isFn K (.ref f) = true)
    (hm : mroIn K C (.type "object") = some true) (hu : A.units + 1 < cLine)
    (h : wpAny (model prog w) A.in1 (call (.ref f) [.ref x, y]) (fun v s' => ∃ b, v = .bool b ∧ Q (.bool (!b)) s') E s) : wpAny (model prog w) A (richCompare .NotEq (.ref x) y) Q E s := by
  have one : wpAny (model prog w) A (tryCompare (.ref x) "__ne__" y) (fun r s' => ∃ v, r = some v ∧ Q v s') E s := by
    have fin : wpAny (model prog w) A (call (.builtin "object.__ne__") [.ref x, y]) (fun v s' => ∃ b, v = .bool b ∧ Q (.bool b) s') E s := by
      refine wpAny_call (codeAny_call_builtin F.slot_object_ne.plain F.cmpEntry_ne (check_slot F.cmpKind_ne F.cmpSplit_ne (I.type.andThen (looks_mroIn X hm)) (F.cmpArgs_ne _ _) ?_))
      refine objNe_run X I heq hf hu (wpAny_mono h (fun v s' hv => ?_) fun _ _ e => e)
      obtain ⟨b, rfl, hq⟩ := hv
      exact ⟨b, rfl, ⟨!b, rfl, hq⟩⟩
    have cs : wpAny (model prog w) A (callSpecialIfBound? (.ref x) "__ne__" [y]) (fun r s' => ∃ b, r = some (.bool b) ∧ Q (.bool b) s') E s := by
      simp only [callSpecialIfBound?, bindSpecialIfBound?]
      refine wpAny_holding (wpAny_bind (wpAny_bind (wpAny_bind (I.type.here ((looks_findIn X hne).here ?_)))))
      refine wpAny_bind (wpAny_askSetting (wpAny_ite ?_))
      have bnd : Looks (model prog w) s.heap (bindSpecial (.builtin "object.__ne__") (.ref x)) (.builtin "object.__ne__", [.ref x]) := Looks.of_pure (F.slot_object_ne.bind _)
      have fin2 : wpAny (model prog w) A (call (.builtin "object.__ne__") ([.ref x] ++ [y]) >>= fun v => pure (some v)) (fun r s' => ∃ b, r = some (.bool b) ∧ Q (.bool b) s') E s := by
        refine wpAny_bind (wpAny_mono fin (fun v s' hv => ?_) fun _ _ e => e)
        obtain ⟨b, rfl, hq⟩ := hv
        exact wpAny_pure ⟨b, rfl, hq⟩
      split
      · exact wpAny_bind (bnd.here (wpAny_pure (by exact fin2)))
      · exact wpAny_tryCatch (wpAny_bind (bnd.here (wpAny_pure (by exact fin2))))
    unfold tryCompare
    refine wpAny_bind (wpAny_mono cs (fun r s' hr => ?_) fun _ _ e => e)
    obtain ⟨b, rfl, hq⟩ := hr
    exact wpAny_pure ⟨_, rfl, hq⟩
  unfold richCompare
  simp only [oneThing_ref]
  refine wpAny_holding (wpAny_bind (wpAny_cRoomFor (by omega) ?_))
  refine wpAny_bind (I.type.here (wpAny_bind (hy.here ?_)))
  rw [show (Value.ref C != Value.ref C) = false from by simp]
  simp only [Bool.false_eq_true, if_false]
  refine wpAny_bind (wpAny_pure ?_)
  simp only [Bool.false_eq_true, if_false]
  refine wpAny_bind (wpAny_mono one (fun r s' z => ?_) fun _ _ e => e)
  obtain ⟨v, rfl, hq⟩ := z
  exact wpAny_pure hq
end
section
variable {X : Cx} {k j : Nat} {C : Addr} {sp : Sp}
/-- instances compared by !=, the class has __eq__ alone -/
def rOwnNe (C : Addr) (sp : Sp) : R2 := fun x y H Q => ∃ a b dx fs dy gs, x = .ref a ∧ y = .ref b ∧ H a = some (.ins C dx fs) ∧ H b = some (.ins C dy gs) ∧ sp [.ref a, .ref b] H (fun v H' => ∃ c, v = .bl c ∧ Q (.bl (!c)) H') E0
theorem op_ownNe (c : Met X.prog X.w X.K X.mg X.base k C "__eq__" sp []) (hne : PySem.W.findIn X.K (.ref C) "__ne__" = some (some (.builtin "object.__ne__"))) (hm : PySem.W.mroIn X.K C (.type "object") = some true) (hr : Rm (j + 1) X.A) (hk : k ≤ j) : OpR X (compareOp .NotEq) (rOwnNe C sp) := by
  intro pins s σ H x y v u Q I rx ry h
  obtain ⟨a, b, dx, fs, dy, gs, rfl, rfl, ha, hb, want⟩ := h
  cases rx; cases ry
  obtain ⟨f, fd, ps, ds, hc, me, F, bd, dv⟩ := c.ex
  obtain ⟨mA, J, _⟩ := ins_get I.hok ha
  obtain ⟨mB, J', _⟩ := ins_get I.hok hb
  obtain ⟨od, J, _⟩ := J.look
  obtain ⟨od', J', _⟩ := J'.look
  show wpAny (model X.prog X.w) X.A (richCompare .NotEq (.ref a) (.ref b)) (EP X pins σ Q) X.xe s
  have hu := hr.u
  refine ne_own I.kIn J J'.type hne me.at_ me.fn hm (by omega) ?_
  refine wpAny_mono (goG (Q := fun v H' => ∃ c, v = .bl c ∧ Q (.bl (!c)) H') (us := [.ref a, .ref b]) (vs := [.ref a, .ref b]) (dvs := []) F ((hr.in1).mono hk) rfl bd dv (passL _ _) I (.cons rfl (.cons rfl .nil)) (by rw [List.append_nil]; exact want)) (fun v s' hv => ?_) fun _ _ e => e
  obtain ⟨v1, H1, I1, r1, c1, e1, q⟩ := hv
  subst e1
  obtain rfl : v = Value.bool c1 := r1
  exact ⟨c1, rfl, .bl (!c1), H1, I1, rfl, q⟩
end
section
variable {X : Cx} {k j : Nat} {C : Addr} {sp : Sp}
/-- an instance and anything, compared by == -/
def rOwnEqA (K : PySem.W.Frag) (C : Addr) (sp : Sp) : R2 := fun x y H Q => ∃ a dx fs t, x = .ref a ∧ H a = some (.ins C dx fs) ∧ TyE K H y t ∧ PySem.W.notFirst K C t = true ∧ sp [.ref a, y] H Q E0
theorem op_ownEqA (c : Met X.prog X.w X.K X.mg X.base k C "__eq__" sp []) (hr : Rm j X.A) (hk : k ≤ j) : OpR X (compareOp .Eq) (rOwnEqA X.K C sp) := by
  intro pins s σ H x y v u Q I rx ry h
  obtain ⟨a, dx, fs, t, rfl, ha, ty, nf, want⟩ := h
  cases rx
  obtain ⟨f, fd, ps, ds, hc, me, F, bd, dv⟩ := c.ex
  obtain ⟨mA, J, _⟩ := ins_get I.hok ha
  obtain ⟨od, J, _⟩ := J.look
  obtain ⟨mm, hF⟩ := I.fr
  have lt : PySem.W.Looks (model X.prog X.w) s.heap (typeOf u) t := by
    rcases ty with ty | ⟨b, d, D, gs, rfl, rfl, T, eb, ed⟩
    · obtain ⟨P, Z, p, _⟩ := kit_of I ry ty
      exact Z.ty (model X.prog X.w) s.heap I.kIn p
    · obtain rfl : u = Value.ref b := ry
      obtain ⟨oe, vs, hget, hz, hd⟩ := exV_at I.hok eb
      intro A Q E s k q
      refine wpAny_typeOf_ref (k _ _ hget) ?_
      rw [hz.1]
      exact q
  show wpAny (model X.prog X.w) X.A (richCompare .Eq (.ref a) u) (EP X pins σ Q) X.xe s
  refine PySem.W.cmp_K (op := .Eq) hr.room.units0 hF I.ok.mod.kin J lt nf me.at_ me.fn ?_
  refine wpAny_mono (runG (us := [.ref a, u]) (vs := [.ref a, y]) F (hr.mono hk) bd dv (passL _ _) I (.cons rfl (.cons ry .nil)) ?_) (fun _ _ z => cmpBack_of z) fun _ _ z => z
  simpa using want
end
section
variable {X : Cx} {k j : Nat} {C : Addr} {sp : Sp}
/-- str(x), x an instance whose class has __str__ -/
def rStrO (C : Addr) (sp : Sp) : List V → Hp → VK → Prop := fun xs H Q => ∃ a dx fs, xs = [.ref a] ∧ H a = some (.ins C dx fs) ∧ sp [.ref a] H (fun v H' => ∃ z, v = .str z ∧ Q (.str z) H') E0
theorem call_strO (c : Met X.prog X.w X.K X.mg X.base k C "__str__" sp []) (hr : Rm (j + 2) X.A) (hk : k ≤ j) : CallR X (.type "str") (rStrO C sp) := by
  intro pins s σ H xs us Q I r h
  obtain ⟨a, dx, fs, rfl, ha, want⟩ := h
  obtain ⟨u, rfl, ru⟩ := vals1 r
  obtain rfl : u = Value.ref a := ru
  obtain ⟨f, fd, ps, ds, hc, me, F, bd, dv⟩ := c.ex
  obtain ⟨mA, J, _⟩ := ins_get I.hok ha
  obtain ⟨od, J, _⟩ := J.look
  have hu := hr.u
  refine PySem.W.kso_call (by show X.A.units + 1 + 1 < cLine; omega) I.kIn J me.at_ me.fn ?_
  refine wpAny_mono (goG (Q := fun v H' => ∃ z, v = .str z ∧ Q (.str z) H') (us := [.ref a]) (vs := [.ref a]) (dvs := []) F (((hr.in1).in1).mono hk) rfl bd dv (passL _ _) I (.cons rfl .nil) (by rw [List.append_nil]; exact want)) (fun v s' hv => ?_) fun _ _ e => e
  obtain ⟨v1, H1, I1, r1, z, e1, q⟩ := hv
  subst e1
  obtain ⟨tk, rfl⟩ := r1
  exact ⟨.str z, H1, I1, ⟨tk, rfl⟩, q⟩
end
/-! ### f-strings -/
section
variable {σ : L2.St} {H : Hp} {Q : VK} {QS : Str → Hp → Prop} {te : TE} {ts : List TE} {acc y : Str} {i : Int}
def kJs (ts : List TE) (acc : Str) (σ : L2.St) (QS : Str → Hp → Prop) : VK := fun x H1 => ∃ y : Str, x = .str y ∧ (acc ++ y).length ≤ sizeLine ∧ tJs ts (acc ++ y) σ H1 QS
def kFmt (Q : VK) : VK := fun x H1 => (∃ y : Str, x = .str y ∧ y.length ≤ sizeLine ∧ Q (.str y) H1) ∨ ∃ i : Int, x = .int i ∧ i.natAbs.log2 < 1920 ∧ Q (.str (toString i)) H1
theorem u_js (h : te σ H (kJs ts acc σ QS)) : tJs (te :: ts) acc σ H QS := h
theorem u_js0 (h : QS acc H) : tJs [] acc σ H QS := h
theorem u_fmt (h : te σ H (kFmt Q)) : tFmt te σ H Q := h
theorem k_fmtS (h0 : y.length ≤ sizeLine) (h : Q (.str y) H) : kFmt Q (.str y) H := .inl ⟨y, rfl, h0, h⟩
theorem k_fmtI (h0 : i.natAbs.log2 < 1920) (h : Q (.str (toString i)) H) : kFmt Q (.int i) H := .inr ⟨i, rfl, h0, h⟩
theorem k_js (h0 : (acc ++ y).length ≤ sizeLine) (h : tJs ts (acc ++ y) σ H QS) : kJs ts acc σ QS (.str y) H := ⟨y, rfl, h0, h⟩
theorem log_small (h : i.natAbs < 2 ^ 128) : i.natAbs.log2 < 1920 := by
  by_cases z : i.natAbs = 0
  · rw [z]; decide
  · exact Nat.lt_trans ((Nat.log2_lt z).mpr h) (by decide)
theorem text_len (h : i.natAbs < 10 ^ 40) : (Str.ofString (toString i)).length ≤ 41 := by
  rw [PySem.ofString_length]
  exact int_text_length_le10 (k := 40) (by decide) h
end
/-! ### either of two rules -/
section
variable {X : Cx}
theorem ix_or {A B : R2} (h1 : IxR X A) (h2 : IxR X B) : IxR X (fun x y H Q => A x y H Q ∨ B x y H Q) := by
  intro value slice pins s σ H x y v u Q I rx ry h hs
  rcases h with h | h
  · exact h1 value slice pins s σ H x y v u Q I rx ry h hs
  · exact h2 value slice pins s σ H x y v u Q I rx ry h hs
theorem call_or {f : Value} {A B : List V → Hp → VK → Prop} (h1 : CallR X f A) (h2 : CallR X f B) : CallR X f (fun xs H Q => A xs H Q ∨ B xs H Q) := by
  intro pins s σ H xs us Q I r h
  rcases h with h | h
  · exact h1 pins s σ H xs us Q I r h
  · exact h2 pins s σ H xs us Q I r h
theorem op_or {f : Value → Value → Sem Value} {A B : R2} (h1 : OpR X f A) (h2 : OpR X f B) : OpR X f (fun x y H Q => A x y H Q ∨ B x y H Q) := by
  intro pins s σ H x y v u Q I rx ry h
  rcases h with h | h
  · exact h1 pins s σ H x y v u Q I rx ry h
  · exact h2 pins s σ H x y v u Q I rx ry h
end
end Tw

/-! The mirror layer: values as trees, what may change as cells; readings over trees. -/
namespace Mr
open PySem PySem.Spec PyProof.Rows L2 Tw

/-- addresses by number; tables of code objects, with the name that is told there -/
structure CL where
  n : Nat → Addr
  t : List (Addr × Str) := []
instance : CoeFun CL fun _ => Nat → Addr := ⟨CL.n⟩
/-- kinds of values: built-in ones, own classes by number -/
inductive Ty where
  | non | bool | int | str | list | tup | dict | own (c : Nat) | vex
  deriving DecidableEq
def Ty.v (cl : CL) : Ty → V
  | .non => .ty "NoneType" | .bool => .ty "bool" | .int => .ty "int" | .str => .ty "str" | .list => .ty "list" | .tup => .ty "tuple" | .dict => .ty "dict" | .own c => .ref (cl c) | .vex => .ty "ValueError"
def Ty.u (cl : CL) : Ty → Value
  | .non => .type "NoneType" | .bool => .type "bool" | .int => .type "int" | .str => .type "str" | .list => .type "list" | .tup => .type "tuple" | .dict => .type "dict" | .own c => .ref (cl c) | .vex => .type "ValueError"
theorem Ty.cls (cl : CL) : ∀ k : Ty, ClsV (k.v cl) (k.u cl)
  | .non => .ty _ | .bool => .ty _ | .int => .ty _ | .str => .ty _ | .list => .ty _ | .tup => .ty _ | .dict => .ty _ | .own _ => .own _ | .vex => .ty _
/-- a value as a tree; what may change later is a cell -/
inductive T where
  | non | bl (b : Bool) | int (i : Int) | str (z : Str)
  | lst (xs : List T) | tup (xs : List T) | dct (kvs : List (Key × T))
  | obj (c : Nat) (fs : List (Str × T)) | err (c : Nat) (fs : List (Str × T))
  | cell (a : Addr) | pen | ty (k : Ty)
  | lam (f c : Addr) (q : Str) (σ : List (Option V)) (τ : List (Option T))
inductive Cell where
  | lst (xs : List T) | obj (c : Nat) (fs : List (Str × T)) | dct (kvs : List (Key × T))
/-- the pen's place and how far it is, the cells -/
structure S where
  pa : Option Addr
  pen : Nat
  on : Addr → Option Cell
def S.mut (s : S) (a : Addr) : Prop := s.pa = some a ∨ s.on a ≠ none
def S.put (s : S) (a : Addr) (c : Cell) : S := { s with on := fun b => if b = a then some c else s.on b }
def S.del (s : S) (a : Addr) : S := { s with on := fun b => if b = a then none else s.on b }
def S.pn (s : S) (n : Nat) : S := { s with pen := n }
/-- an error: its class, its fields -/
structure Er where
  c : Nat
  fs : List (Str × T)

theorem S.put_same (s : S) (a : Addr) (c : Cell) : (s.put a c).on a = some c := if_pos rfl
theorem S.put_ne {s : S} {a b : Addr} {c : Cell} (h : b ≠ a) : (s.put a c).on b = s.on b := if_neg h
theorem S.del_put {s : S} {a : Addr} {c : Cell} (h : s.on a = none) : (s.put a c).del a = s := by
  unfold S.put S.del
  cases s with
  | mk p n o =>
    congr 1
    funext b
    show (if b = a then none else if b = a then some c else o b) = o b
    by_cases e : b = a
    · rw [if_pos e, e]
      exact h.symm
    · rw [if_neg e, if_neg e]
theorem S.put_put (s : S) (a : Addr) (c d : Cell) : (s.put a c).put a d = s.put a d := by
  unfold S.put
  congr 1
  funext b
  show (if b = a then some d else if b = a then some c else s.on b) = _
  by_cases e : b = a
  · rw [if_pos e, if_pos e]
  · rw [if_neg e, if_neg e, if_neg e]
theorem S.put_pn (s : S) (a : Addr) (c : Cell) (n : Nat) : (s.put a c).pn n = (s.pn n).put a c := rfl
theorem S.pn_pn (s : S) (n m : Nat) : (s.pn n).pn m = s.pn m := rfl
theorem S.pn_on (s : S) (n : Nat) : (s.pn n).on = s.on := rfl
theorem S.pn_pen (s : S) (n : Nat) : (s.pn n).pen = n := rfl
theorem S.put_pen (s : S) (a : Addr) (c : Cell) : (s.put a c).pen = s.pen := rfl
theorem S.pn_self (s : S) : s.pn s.pen = s := rfl

/-- a thing at a never changes: no cell, not hidden -/
def Fz (Z : Addr → Prop) (s : S) (a : Addr) : Prop := ¬ s.mut a ∧ ¬ Z a
section
variable (K : PySem.W.Frag) (cl : CL) (Z : Addr → Prop)
mutual
/-- the value v of the heap is the tree t -/
inductive Rep (s : S) (H : Hp) : V → T → Prop
  | non : Rep s H .non .non
  | bl (b : Bool) : Rep s H (.bl b) (.bl b)
  | int (i : Int) : Rep s H (.int i) (.int i)
  | str (z : Str) : Rep s H (.str z) (.str z)
  | lst {a : Addr} {vs : List V} {xs : List T} : H a = some (.lst vs) → Fz Z s a → Reps s H vs xs → Rep s H (.ref a) (.lst xs)
  | tup {a : Addr} {vs : List V} {xs : List T} : H a = some (.tup vs) → Fz Z s a → Reps s H vs xs → Rep s H (.ref a) (.tup xs)
  | tupK {a : Addr} {vs : List V} {xs : List T} {o : Obj} {its : Array Value} {n : Nat} : K.lookup a = some o → o.cls = .type "tuple" → o.data = .seq its n → its.size ≤ sizeLine → Vals vs its.toList → Reps s H vs xs → Rep s H (.ref a) (.tup xs)
  | dct {a : Addr} {kvv : List (Key × V)} {kvs : List (Key × T)} : H a = some (.dK kvv) → Fz Z s a → RepK s H kvv kvs → Rep s H (.ref a) (.dct kvs)
  | obj {a dx : Addr} {c : Nat} {fvs : List (Str × V)} {fs : List (Str × T)} : H a = some (.ins (cl c) dx fvs) → Fz Z s a → RepF s H fvs fs → Rep s H (.ref a) (.obj c fs)
  | err {a d : Addr} {c : Nat} {fvs : List (Str × V)} {fs : List (Str × T)} : H a = some (exV (cl c) a d) → Fz Z s a → H d = some (.xd fvs) → Fz Z s d → RepF s H fvs fs → Rep s H (.ref a) (.err c fs)
  | cell (a : Addr) : Rep s H (.ref a) (.cell a)
  | pen {a : Addr} : s.pa = some a → Rep s H (.ref a) .pen
  | ty (k : Ty) : Rep s H (k.v cl) (.ty k)
  | lam {f c : Addr} {q : Str} {σ : List (Option V)} {τ : List (Option T)} : H c = some (LamX.CodeO c q) → Fz Z s c → RepE s H σ τ → Rep s H (.ref f) (.lam f c q σ τ)
inductive Reps (s : S) (H : Hp) : List V → List T → Prop
  | nil : Reps s H [] []
  | cons {v : V} {t : T} {vs : List V} {ts : List T} : Rep s H v t → Reps s H vs ts → Reps s H (v :: vs) (t :: ts)
inductive RepF (s : S) (H : Hp) : List (Str × V) → List (Str × T) → Prop
  | nil : RepF s H [] []
  | cons {f : Str} {v : V} {t : T} {vs : List (Str × V)} {ts : List (Str × T)} : Rep s H v t → RepF s H vs ts → RepF s H ((f, v) :: vs) ((f, t) :: ts)
inductive RepK (s : S) (H : Hp) : List (Key × V) → List (Key × T) → Prop
  | nil : RepK s H [] []
  | cons {k : Key} {v : V} {t : T} {vs : List (Key × V)} {ts : List (Key × T)} : Rep s H v t → RepK s H vs ts → RepK s H ((k, v) :: vs) ((k, t) :: ts)
inductive RepE (s : S) (H : Hp) : List (Option V) → List (Option T) → Prop
  | nil : RepE s H [] []
  | c0 {σ : List (Option V)} {τ : List (Option T)} : RepE s H σ τ → RepE s H (none :: σ) (none :: τ)
  | c1 {v : V} {t : T} {σ : List (Option V)} {τ : List (Option T)} : Rep s H v t → RepE s H σ τ → RepE s H (some v :: σ) (some t :: τ)
end

/-- from (s, H) on to (s', H'): what may not change stands -/
def NT (o : HO) : Prop := ∀ ps, o ≠ .tbl ps
theorem NT.lst (xs : List V) : NT (.lst xs) := nofun
theorem NT.tup (xs : List V) : NT (.tup xs) := nofun
theorem NT.dK (xs : List (Key × V)) : NT (.dK xs) := nofun
theorem NT.ins (C dx : Addr) (xs : List (Str × V)) : NT (.ins C dx xs) := nofun
theorem NT.exV (C a d : Addr) : NT (exV C a d) := nofun
theorem NT.code (c : Addr) (q : Str) : NT (LamX.CodeO c q) := nofun
theorem NT.xd (xs : List (Str × V)) : NT (.xd xs) := nofun
structure Fut (s : S) (H : Hp) (s' : S) (H' : Hp) : Prop where
  keep : ∀ b o, H b = some o → ¬ s.mut b → NT o → H' b = some o ∧ ¬ s'.mut b
  pa : ∀ a, s.pa = some a → s'.pa = some a
theorem Fut.refl (s : S) (H : Hp) : Fut s H s H := ⟨fun _ _ h n _ => ⟨h, n⟩, fun _ h => h⟩
theorem Fut.trans {s s1 s2 : S} {H H1 H2 : Hp} (a : Fut s H s1 H1) (b : Fut s1 H1 s2 H2) : Fut s H s2 H2 :=
  ⟨fun c o h n nt => by
    obtain ⟨h1, n1⟩ := a.keep c o h n nt
    exact b.keep c o h1 n1 nt, fun c h => b.pa c (a.pa c h)⟩
variable {K cl Z}
theorem Fz.fut {s s' : S} {H H' : Hp} {a : Addr} {u : HO} (n : Fz Z s a) (f : Fut s H s' H') (h : H a = some u) (nt : NT u) : Fz Z s' a := ⟨(f.keep a _ h n.1 nt).2, n.2⟩
mutual
theorem Rep.fut {s s' : S} {H H' : Hp} (f : Fut s H s' H') : ∀ {v : V} {t : T}, Rep K cl Z s H v t → Rep K cl Z s' H' v t
  | _, _, .non => .non
  | _, _, .bl b => .bl b
  | _, _, .int i => .int i
  | _, _, .str z => .str z
  | _, _, .lst h n r => .lst (f.keep _ _ h n.1 (NT.lst _)).1 (n.fut f h (NT.lst _)) (r.fut f)
  | _, _, .tup h n r => .tup (f.keep _ _ h n.1 (NT.tup _)).1 (n.fut f h (NT.tup _)) (r.fut f)
  | _, _, .tupK a b d e g r => .tupK a b d e g (r.fut f)
  | _, _, .dct h n r => .dct (f.keep _ _ h n.1 (NT.dK _)).1 (n.fut f h (NT.dK _)) (r.fut f)
  | _, _, .obj h n r => .obj (f.keep _ _ h n.1 (NT.ins _ _ _)).1 (n.fut f h (NT.ins _ _ _)) (r.fut f)
  | _, _, .err h n h2 n2 r => .err (f.keep _ _ h n.1 (NT.exV _ _ _)).1 (n.fut f h (NT.exV _ _ _)) (f.keep _ _ h2 n2.1 (NT.xd _)).1 (n2.fut f h2 (NT.xd _)) (r.fut f)
  | _, _, .cell a => .cell a
  | _, _, .pen h => .pen (f.pa _ h)
  | _, _, .ty n => .ty n
  | _, _, .lam h n r => .lam (f.keep _ _ h n.1 (NT.code _ _)).1 (n.fut f h (NT.code _ _)) (r.fut f)
theorem Reps.fut {s s' : S} {H H' : Hp} (f : Fut s H s' H') : ∀ {vs : List V} {ts : List T}, Reps K cl Z s H vs ts → Reps K cl Z s' H' vs ts
  | _, _, .nil => .nil
  | _, _, .cons h r => .cons (h.fut f) (r.fut f)
theorem RepF.fut {s s' : S} {H H' : Hp} (f : Fut s H s' H') : ∀ {vs : List (Str × V)} {ts : List (Str × T)}, RepF K cl Z s H vs ts → RepF K cl Z s' H' vs ts
  | _, _, .nil => .nil
  | _, _, .cons h r => .cons (h.fut f) (r.fut f)
theorem RepK.fut {s s' : S} {H H' : Hp} (f : Fut s H s' H') : ∀ {vs : List (Key × V)} {ts : List (Key × T)}, RepK K cl Z s H vs ts → RepK K cl Z s' H' vs ts
  | _, _, .nil => .nil
  | _, _, .cons h r => .cons (h.fut f) (r.fut f)
theorem RepE.fut {s s' : S} {H H' : Hp} (f : Fut s H s' H') : ∀ {vs : List (Option V)} {ts : List (Option T)}, RepE K cl Z s H vs ts → RepE K cl Z s' H' vs ts
  | _, _, .nil => .nil
  | _, _, .c0 r => .c0 (r.fut f)
  | _, _, .c1 h r => .c1 (h.fut f) (r.fut f)
end
theorem Reps.length {s : S} {H : Hp} : ∀ {vs : List V} {ts : List T}, Reps K cl Z s H vs ts → vs.length = ts.length
  | _, _, .nil => rfl
  | _, _, .cons _ r => congrArg (· + 1) r.length
theorem Reps.append {s : S} {H : Hp} {vs' : List V} {ts' : List T} : ∀ {vs : List V} {ts : List T}, Reps K cl Z s H vs ts → Reps K cl Z s H vs' ts' → Reps K cl Z s H (vs ++ vs') (ts ++ ts')
  | _, _, .nil, q => q
  | _, _, .cons h r, q => .cons h (Reps.append r q)
theorem Reps.get {s : S} {H : Hp} : ∀ {vs : List V} {ts : List T} (i : Nat) {t : T}, Reps K cl Z s H vs ts → ts[i]? = some t → ∃ v, vs[i]? = some v ∧ Rep K cl Z s H v t
  | _, _, i, _, .nil, e => by simp at e
  | _, _, 0, _, .cons h _, e => by
    rw [List.getElem?_cons_zero] at e
    cases e
    exact ⟨_, List.getElem?_cons_zero, h⟩
  | _, _, i + 1, _, .cons _ r, e => by
    rw [List.getElem?_cons_succ] at e
    obtain ⟨v, e1, h1⟩ := r.get i e
    exact ⟨v, by rw [List.getElem?_cons_succ]; exact e1, h1⟩
theorem Reps.getV {s : S} {H : Hp} : ∀ {vs : List V} {ts : List T} (i : Nat) {v : V}, Reps K cl Z s H vs ts → vs[i]? = some v → ∃ t, ts[i]? = some t ∧ Rep K cl Z s H v t
  | _, _, i, _, .nil, e => by simp at e
  | _, _, 0, _, .cons h _, e => by
    rw [List.getElem?_cons_zero] at e
    cases e
    exact ⟨_, List.getElem?_cons_zero, h⟩
  | _, _, i + 1, _, .cons _ r, e => by
    rw [List.getElem?_cons_succ] at e
    obtain ⟨v, e1, h1⟩ := r.getV i e
    exact ⟨v, by rw [List.getElem?_cons_succ]; exact e1, h1⟩
theorem Reps.take {s : S} {H : Hp} : ∀ {vs : List V} {ts : List T} (n : Nat), Reps K cl Z s H vs ts → Reps K cl Z s H (vs.take n) (ts.take n)
  | _, _, 0, _ => by rw [List.take_zero, List.take_zero]; exact .nil
  | _, _, _ + 1, .nil => .nil
  | _, _, n + 1, .cons h r => .cons h (r.take n)
theorem Reps.drop {s : S} {H : Hp} : ∀ {vs : List V} {ts : List T} (n : Nat), Reps K cl Z s H vs ts → Reps K cl Z s H (vs.drop n) (ts.drop n)
  | _, _, 0, r => r
  | _, _, _ + 1, .nil => .nil
  | _, _, n + 1, .cons _ r => r.drop n
theorem Reps.set {s : S} {H : Hp} {v : V} {t : T} (q : Rep K cl Z s H v t) : ∀ {vs : List V} {ts : List T} (n : Nat), Reps K cl Z s H vs ts → Reps K cl Z s H (vs.set n v) (ts.set n t)
  | _, _, _, .nil => .nil
  | _, _, 0, .cons _ r => .cons q r
  | _, _, n + 1, .cons h r => .cons h (r.set q n)
theorem Reps.reverse {s : S} {H : Hp} : ∀ {vs : List V} {ts : List T}, Reps K cl Z s H vs ts → Reps K cl Z s H vs.reverse ts.reverse
  | _, _, .nil => .nil
  | _, _, .cons h r => by
    rw [List.reverse_cons, List.reverse_cons]
    exact Reps.append r.reverse (.cons h .nil)
theorem Reps.replicate {s : S} {H : Hp} {v : V} {t : T} (q : Rep K cl Z s H v t) : ∀ n : Nat, Reps K cl Z s H (List.replicate n v) (List.replicate n t)
  | 0 => .nil
  | n + 1 => by rw [List.replicate_succ, List.replicate_succ]; exact .cons q (Reps.replicate q n)
theorem RepF.lookup {s : S} {H : Hp} : ∀ {vs : List (Str × V)} {ts : List (Str × T)} {f : Str} {t : T}, RepF K cl Z s H vs ts → ts.lookup f = some t → ∃ v, vs.lookup f = some v ∧ Rep K cl Z s H v t
  | _, _, f, _, .nil, e => by simp at e
  | _, _, f, _, .cons (f := g) h r, e => by
    rw [List.lookup_cons] at e ⊢
    by_cases q : (f == g) = true
    · rw [q] at e ⊢
      cases e
      exact ⟨_, rfl, h⟩
    · rw [Bool.not_eq_true] at q
      rw [q] at e ⊢
      exact r.lookup e
theorem RepF.lookup0 {s : S} {H : Hp} : ∀ {vs : List (Str × V)} {ts : List (Str × T)} {f : Str}, RepF K cl Z s H vs ts → ts.lookup f = none → vs.lookup f = none
  | _, _, f, .nil, _ => rfl
  | _, _, f, .cons (f := g) h r, e => by
    rw [List.lookup_cons] at e ⊢
    by_cases q : (f == g) = true
    · rw [q] at e
      cases e
    · rw [Bool.not_eq_true] at q
      rw [q] at e ⊢
      exact r.lookup0 e
def putT (f : Str) (t : T) : List (Str × T) → List (Str × T)
  | [] => [(f, t)]
  | (g, x) :: r => if g = f then (g, t) :: r else (g, x) :: putT f t r
theorem RepF.put {s : S} {H : Hp} {f : Str} {v : V} {t : T} (q : Rep K cl Z s H v t) : ∀ {vs : List (Str × V)} {ts : List (Str × T)}, RepF K cl Z s H vs ts → RepF K cl Z s H (putF f v vs) (putT f t ts)
  | _, _, .nil => .cons q .nil
  | _, _, .cons (f := g) h r => by
    unfold putF putT
    by_cases e : g = f
    · rw [if_pos e, if_pos e]
      exact .cons q r
    · rw [if_neg e, if_neg e]
      exact .cons h (r.put q)
theorem RepF.length {s : S} {H : Hp} : ∀ {vs : List (Str × V)} {ts : List (Str × T)}, RepF K cl Z s H vs ts → vs.length = ts.length
  | _, _, .nil => rfl
  | _, _, .cons _ r => congrArg (· + 1) r.length
theorem RepF.zip {s : S} {H : Hp} : ∀ {fs : List Str} {vs : List V} {ts : List T}, Reps K cl Z s H vs ts → RepF K cl Z s H (fs.zip vs) (fs.zip ts)
  | [], _, _, _ => by rw [List.zip_nil_left, List.zip_nil_left]; exact .nil
  | _ :: _, _, _, .nil => .nil
  | _ :: _, _, _, .cons h r => .cons h (RepF.zip r)

/-! ### the store -/
def PenOk (Z : Addr → Prop) (s : S) (H : Hp) (p : Addr) (n : Nat) : Prop := ∃ (L : Addr) (a r : Int) (ns : List Int), H p = some (.lst [.ref L, .int a, .int r]) ∧ H L = some (.lst (ns.map V.int)) ∧ Fz Z s L ∧ 0 ≤ a ∧ a ≤ n ∧ ns.length ≤ 63
def CRep (K : PySem.W.Frag) (cl : CL) (Z : Addr → Prop) (s : S) (H : Hp) (a : Addr) : Cell → Prop
  | .lst xs => ∃ vs, H a = some (.lst vs) ∧ Reps K cl Z s H vs xs
  | .obj c fs => ∃ dx fvs, H a = some (.ins (cl c) dx fvs) ∧ RepF K cl Z s H fvs fs
  | .dct kvs => ∃ kvv, H a = some (.dK kvv) ∧ RepK K cl Z s H kvv kvs
theorem CRep.some {s : S} {H : Hp} {a : Addr} {c : Cell} (h : CRep K cl Z s H a c) : ∃ o, H a = some o := by
  cases c with
  | lst xs => exact ⟨_, h.choose_spec.1⟩
  | obj c fs => exact ⟨_, h.choose_spec.choose_spec.1⟩
  | dct kvs => exact ⟨_, h.choose_spec.1⟩
theorem CRep.at {s s' : S} {H H' : Hp} {a : Addr} {c : Cell} (f : Fut s H s' H') (e : H' a = H a) (h : CRep K cl Z s H a c) : CRep K cl Z s' H' a c := by
  cases c with
  | lst xs =>
    obtain ⟨vs, h1, h2⟩ := h
    exact ⟨vs, e.trans h1, h2.fut f⟩
  | obj c fs =>
    obtain ⟨dx, fvs, h1, h2⟩ := h
    exact ⟨dx, fvs, e.trans h1, h2.fut f⟩
  | dct kvs =>
    obtain ⟨kvv, h1, h2⟩ := h
    exact ⟨kvv, e.trans h1, h2.fut f⟩
structure Sto (K : PySem.W.Frag) (cl : CL) (Z : Addr → Prop) (s : S) (H : Hp) : Prop where
  pen : ∀ p, s.pa = some p → PenOk Z s H p s.pen
  cells : ∀ a c, s.on a = some c → CRep K cl Z s H a c
  apart : ∀ p, s.pa = some p → s.on p = none
  hid : ∀ b, Z b → ¬ s.mut b ∧ ∃ xs, H b = some (.lst xs)
  tabs : LamX.Tabs cl.t H
/-- no table, no code object -/
def Pl (o : HO) : Prop := (∀ ps, o ≠ .tbl ps) ∧ ∀ p, o ≠ .ext p
theorem tabs_upd {T : List (Addr × Str)} {H H' : Hp} {a : Addr} {o : HO} (ha : H a = some o) (hp : Pl o) (k : ∀ b u, b ≠ a → H b = some u → H' b = some u) (t : LamX.Tabs T H) : LamX.Tabs T H' := by
  intro p hpm
  obtain ⟨ps, h1, h2, h3⟩ := t p hpm
  have n1 : p.1 ≠ a := fun e => by
    rw [e, ha] at h1
    exact hp.1 ps (Option.some.inj h1)
  refine ⟨ps, k _ _ n1 h1, h2, fun pos cv hc => ?_⟩
  obtain ⟨c, e1, e2⟩ := h3 pos cv hc
  refine ⟨c, e1, k _ _ (fun e => ?_) e2⟩
  rw [e, ha] at e2
  exact hp.2 _ (Option.some.inj e2)
theorem crep_pl {s : S} {H : Hp} {a : Addr} {c : Cell} (h : CRep K cl Z s H a c) : ∃ o, H a = some o ∧ Pl o := by
  cases c with
  | lst xs => exact ⟨_, h.choose_spec.1, nofun, nofun⟩
  | obj c fs => exact ⟨_, h.choose_spec.choose_spec.1, nofun, nofun⟩
  | dct kvs => exact ⟨_, h.choose_spec.1, nofun, nofun⟩
theorem Sto.ne {s : S} {H : Hp} {p a : Addr} (so : Sto K cl Z s H) (hp : H p = none) (hm : s.mut a) : a ≠ p := by
  intro e
  subst e
  rcases hm with h | h
  · obtain ⟨L, x, r, ns, h1, _⟩ := so.pen a h
    rw [hp] at h1
    cases h1
  · obtain ⟨c, hc⟩ := Option.ne_none_iff_exists'.mp h
    obtain ⟨o, ho⟩ := (so.cells a c hc).some
    rw [hp] at ho
    cases ho
/-- a new thing that will not change -/
theorem Fut.new {s : S} {H : Hp} {p : Addr} {o : HO} (hp : H p = none) : Fut s H s (upd H p o) :=
  ⟨fun b u h n _ => ⟨by rw [upd_ne (ne_of_none h hp)]; exact h, n⟩, fun _ h => h⟩
theorem Sto.new {s : S} {H : Hp} {p : Addr} {o : HO} (so : Sto K cl Z s H) (hp : H p = none) : Sto K cl Z s (upd H p o) where
  pen := fun q hq => by
    obtain ⟨L, a, r, ns, h1, h2, h3, h4⟩ := so.pen q hq
    exact ⟨L, a, r, ns, by rw [upd_ne (ne_of_none h1 hp)]; exact h1, by rw [upd_ne (ne_of_none h2 hp)]; exact h2, h3, h4⟩
  cells := fun a c h => (so.cells a c h).at (Fut.new hp) (upd_ne (so.ne hp (.inr (by rw [h]; exact Option.some_ne_none c))))
  apart := so.apart
  hid := fun b hb => by
    obtain ⟨n, o, ho⟩ := so.hid b hb
    exact ⟨n, o, by rw [upd_ne (ne_of_none ho hp)]; exact ho⟩
  tabs := so.tabs.ext fun b o e => by rw [upd_ne (ne_of_none e hp)]; exact e
theorem Sto.nomut {s : S} {H : Hp} {p : Addr} (so : Sto K cl Z s H) (hp : H p = none) : Fz Z s p := ⟨fun m => so.ne hp m rfl, fun z => by
  obtain ⟨_, o, ho⟩ := so.hid p z
  rw [hp] at ho
  cases ho⟩
theorem mut_put {s : S} {a b : Addr} {c : Cell} (h : b ≠ a) : (s.put a c).mut b ↔ s.mut b := by
  unfold S.mut
  rw [S.put_ne h]
  exact Iff.rfl
/-- a new cell -/
theorem Fut.newC {s : S} {H : Hp} {p : Addr} {o : HO} {c : Cell} (hp : H p = none) : Fut s H (s.put p c) (upd H p o) :=
  ⟨fun b u h n _ => ⟨by rw [upd_ne (ne_of_none h hp)]; exact h, fun m => n ((mut_put (ne_of_none h hp)).mp m)⟩, fun _ h => h⟩
theorem Sto.newC {s : S} {H : Hp} {p : Addr} {o : HO} {c : Cell} (so : Sto K cl Z s H) (hp : H p = none) (hc : CRep K cl Z (s.put p c) (upd H p o) p c) : Sto K cl Z (s.put p c) (upd H p o) where
  pen := fun q hq => by
    obtain ⟨L, a, r, ns, h1, h2, h3, h4⟩ := so.pen q hq
    exact ⟨L, a, r, ns, by rw [upd_ne (ne_of_none h1 hp)]; exact h1, by rw [upd_ne (ne_of_none h2 hp)]; exact h2, ⟨fun m => h3.1 ((mut_put (ne_of_none h2 hp)).mp m), h3.2⟩, h4⟩
  cells := fun a c' h => by
    by_cases e : a = p
    · subst e
      rw [S.put_same] at h
      cases h
      exact hc
    · rw [S.put_ne e] at h
      exact (so.cells a c' h).at (Fut.newC hp) (upd_ne e)
  apart := fun q hq => by
    have n : q ≠ p := so.ne hp (.inl hq)
    rw [S.put_ne n]
    exact so.apart q hq
  hid := fun b hb => by
    obtain ⟨n, o, ho⟩ := so.hid b hb
    have e := ne_of_none ho hp
    exact ⟨fun m => n ((mut_put e).mp m), o, by rw [upd_ne e]; exact ho⟩
  tabs := so.tabs.ext fun b o e => by rw [upd_ne (ne_of_none e hp)]; exact e
/-- a cell changes -/
theorem Fut.cell {s : S} {H : Hp} {a : Addr} {o : HO} {c : Cell} (h : s.on a ≠ none) : Fut s H (s.put a c) (upd H a o) :=
  ⟨fun b u hb n _ => by
    have e : b ≠ a := fun e => n (.inr (by rw [e]; exact h))
    exact ⟨by rw [upd_ne e]; exact hb, fun m => n ((mut_put e).mp m)⟩, fun _ h => h⟩
theorem Sto.cell {s : S} {H : Hp} {a : Addr} {o : HO} {c : Cell} (so : Sto K cl Z s H) (h : s.on a ≠ none) (hc : CRep K cl Z (s.put a c) (upd H a o) a c) : Sto K cl Z (s.put a c) (upd H a o) where
  pen := fun q hq => by
    obtain ⟨L, x, r, ns, h1, h2, h3, h4⟩ := so.pen q hq
    have e1 : q ≠ a := fun e => h (by rw [← e]; exact so.apart q hq)
    have e2 : L ≠ a := fun e => h3.1 (.inr (by rw [e]; exact h))
    exact ⟨L, x, r, ns, by rw [upd_ne e1]; exact h1, by rw [upd_ne e2]; exact h2, ⟨fun m => h3.1 ((mut_put e2).mp m), h3.2⟩, h4⟩
  cells := fun b c' hb => by
    by_cases e : b = a
    · subst e
      rw [S.put_same] at hb
      cases hb
      exact hc
    · rw [S.put_ne e] at hb
      exact (so.cells b c' hb).at (Fut.cell h) (upd_ne e)
  apart := fun q hq => by
    have n : q ≠ a := fun e => h (by rw [← e]; exact so.apart q hq)
    rw [S.put_ne n]
    exact so.apart q hq
  hid := fun b hb => by
    obtain ⟨n, o, ho⟩ := so.hid b hb
    have e : b ≠ a := fun e => n (.inr (by rw [e]; exact h))
    exact ⟨fun m => n ((mut_put e).mp m), o, by rw [upd_ne e]; exact ho⟩
  tabs := by
    obtain ⟨c, hc⟩ := Option.ne_none_iff_exists'.mp h
    obtain ⟨o, ho, hp⟩ := crep_pl (so.cells a c hc)
    exact tabs_upd ho hp (fun b u n e => by rw [upd_ne n]; exact e) so.tabs
/-- a cell is no cell any more -/
theorem mut_del {s : S} {a b : Addr} (m : (s.del a).mut b) : s.mut b := by
  rcases m with m | m
  · exact .inl m
  · refine .inr fun e => m ?_
    show (if b = a then none else s.on b) = none
    rw [e]
    split <;> rfl
theorem Fut.del (s : S) (H : Hp) (a : Addr) : Fut s H (s.del a) H := ⟨fun _ _ h n _ => ⟨h, fun m => n (mut_del m)⟩, fun _ h => h⟩
theorem del_on {s : S} {a b : Addr} {c : Cell} (h : (s.del a).on b = some c) : s.on b = some c ∧ b ≠ a := by
  have h' : (if b = a then none else s.on b) = some c := h
  by_cases e : b = a
  · rw [if_pos e] at h'
    cases h'
  · rw [if_neg e] at h'
    exact ⟨h', e⟩
theorem Sto.del {s : S} {H : Hp} (so : Sto K cl Z s H) (a : Addr) : Sto K cl Z (s.del a) H where
  pen := fun q hq => by
    obtain ⟨L, x, r, ns, h1, h2, h3, h4⟩ := so.pen q hq
    exact ⟨L, x, r, ns, h1, h2, ⟨fun m => h3.1 (mut_del m), h3.2⟩, h4⟩
  cells := fun b c hb => (so.cells b c (del_on hb).1).at (Fut.del s H a) rfl
  apart := fun q hq => by
    show (if q = a then none else s.on q) = none
    rw [so.apart q hq]
    split <;> rfl
  hid := fun b hb => ⟨fun m => (so.hid b hb).1 (mut_del m), (so.hid b hb).2⟩
  tabs := so.tabs
theorem nomut_del {s : S} {H : Hp} {a : Addr} {c : Cell} (so : Sto K cl Z s H) (h : s.on a = some c) : Fz Z (s.del a) a := by
  refine ⟨?_, fun z => (so.hid a z).1 (.inr (by rw [h]; exact Option.some_ne_none c))⟩
  rintro (m | m)
  · have e := so.apart a m
    rw [h] at e
    cases e
  · exact m (if_pos rfl)
/-- the pen goes on -/
theorem Fut.pen {s : S} {H H' : Hp} {p : Addr} {n : Nat} (hp : s.pa = some p) (k : ∀ b o, b ≠ p → H b = some o → H' b = some o) : Fut s H (s.pn n) H' :=
  ⟨fun b o h m _ => ⟨k b o (fun e => m (.inl (by rw [e]; exact hp))) h, m⟩, fun _ h => h⟩
theorem Sto.pnn {s : S} {H H' : Hp} {p : Addr} {n : Nat} (so : Sto K cl Z s H) (hp : s.pa = some p) (k : ∀ b o, b ≠ p → H b = some o → H' b = some o)
    (h : ∃ (L : Addr) (a r : Int) (ns : List Int), H' p = some (.lst [.ref L, .int a, .int r]) ∧ H L = some (.lst (ns.map V.int)) ∧ L ≠ p ∧ Fz Z s L ∧ 0 ≤ a ∧ a ≤ n ∧ ns.length ≤ 63) : Sto K cl Z (s.pn n) H' where
  pen := fun q hq => by
    have e : p = q := by
      have z := hp.symm.trans hq
      injection z
    subst e
    obtain ⟨L, a, r, ns, h1, h2, h3, h4, h5⟩ := h
    exact ⟨L, a, r, ns, h1, k _ _ h3 h2, h4, h5⟩
  cells := fun b c hb => by
    have nb : b ≠ p := fun e => by
      have z := so.apart p hp
      rw [← e] at z
      have hb' : s.on b = some c := hb
      rw [z] at hb'
      cases hb'
    obtain ⟨o, ho⟩ := (so.cells b c hb).some
    exact (so.cells b c hb).at (Fut.pen hp k) ((k b o nb ho).trans ho.symm)
  apart := so.apart
  hid := fun b hb => by
    obtain ⟨n, o, ho⟩ := so.hid b hb
    exact ⟨n, o, k b _ (fun e => n (.inl (by rw [e]; exact hp))) ho⟩
  tabs := by
    obtain ⟨L, a, r, ns, h1, _⟩ := so.pen p hp
    exact tabs_upd h1 ⟨nofun, nofun⟩ k so.tabs
/-! ### what is hidden -/
abbrev Hide (Z : Addr → Prop) (D : Addr) : Addr → Prop := fun b => Z b ∨ b = D
mutual
theorem Rep.hide {s : S} {H H' : Hp} {D : Addr} (hD : H D = none) (k : ∀ b o, b ≠ D → H b = some o → H' b = some o) : ∀ {v : V} {t : T}, Rep K cl Z s H v t → Rep K cl (Hide Z D) s H' v t
  | _, _, .non => .non
  | _, _, .bl b => .bl b
  | _, _, .int i => .int i
  | _, _, .str z => .str z
  | _, _, .lst h n r => .lst (k _ _ (ne_of_none h hD) h) ⟨n.1, fun z => z.elim n.2 (ne_of_none h hD)⟩ (r.hide hD k)
  | _, _, .tup h n r => .tup (k _ _ (ne_of_none h hD) h) ⟨n.1, fun z => z.elim n.2 (ne_of_none h hD)⟩ (r.hide hD k)
  | _, _, .tupK a b d e g r => .tupK a b d e g (r.hide hD k)
  | _, _, .dct h n r => .dct (k _ _ (ne_of_none h hD) h) ⟨n.1, fun z => z.elim n.2 (ne_of_none h hD)⟩ (r.hide hD k)
  | _, _, .obj h n r => .obj (k _ _ (ne_of_none h hD) h) ⟨n.1, fun z => z.elim n.2 (ne_of_none h hD)⟩ (r.hide hD k)
  | _, _, .err h n h2 n2 r => .err (k _ _ (ne_of_none h hD) h) ⟨n.1, fun z => z.elim n.2 (ne_of_none h hD)⟩ (k _ _ (ne_of_none h2 hD) h2) ⟨n2.1, fun z => z.elim n2.2 (ne_of_none h2 hD)⟩ (r.hide hD k)
  | _, _, .cell a => .cell a
  | _, _, .pen h => .pen h
  | _, _, .ty n => .ty n
  | _, _, .lam h n r => .lam (k _ _ (ne_of_none h hD) h) ⟨n.1, fun z => z.elim n.2 (ne_of_none h hD)⟩ (r.hide hD k)
theorem Reps.hide {s : S} {H H' : Hp} {D : Addr} (hD : H D = none) (k : ∀ b o, b ≠ D → H b = some o → H' b = some o) : ∀ {vs : List V} {ts : List T}, Reps K cl Z s H vs ts → Reps K cl (Hide Z D) s H' vs ts
  | _, _, .nil => .nil
  | _, _, .cons h r => .cons (h.hide hD k) (r.hide hD k)
theorem RepF.hide {s : S} {H H' : Hp} {D : Addr} (hD : H D = none) (k : ∀ b o, b ≠ D → H b = some o → H' b = some o) : ∀ {vs : List (Str × V)} {ts : List (Str × T)}, RepF K cl Z s H vs ts → RepF K cl (Hide Z D) s H' vs ts
  | _, _, .nil => .nil
  | _, _, .cons h r => .cons (h.hide hD k) (r.hide hD k)
theorem RepK.hide {s : S} {H H' : Hp} {D : Addr} (hD : H D = none) (k : ∀ b o, b ≠ D → H b = some o → H' b = some o) : ∀ {vs : List (Key × V)} {ts : List (Key × T)}, RepK K cl Z s H vs ts → RepK K cl (Hide Z D) s H' vs ts
  | _, _, .nil => .nil
  | _, _, .cons h r => .cons (h.hide hD k) (r.hide hD k)
theorem RepE.hide {s : S} {H H' : Hp} {D : Addr} (hD : H D = none) (k : ∀ b o, b ≠ D → H b = some o → H' b = some o) : ∀ {vs : List (Option V)} {ts : List (Option T)}, RepE K cl Z s H vs ts → RepE K cl (Hide Z D) s H' vs ts
  | _, _, .nil => .nil
  | _, _, .c0 r => .c0 (r.hide hD k)
  | _, _, .c1 h r => .c1 (h.hide hD k) (r.hide hD k)
end
/-! the hidden thing at D changes -/
mutual
theorem Rep.turn {Z1 Z2 : Addr → Prop} {s : S} {H H' : Hp} (z : ∀ b, Z2 b → Z1 b) (k : ∀ b o, ¬ Z1 b → H b = some o → H' b = some o) : ∀ {v : V} {t : T}, Rep K cl Z1 s H v t → Rep K cl Z2 s H' v t
  | _, _, .non => .non
  | _, _, .bl b => .bl b
  | _, _, .int i => .int i
  | _, _, .str z => .str z
  | _, _, .lst h n r => .lst (k _ _ n.2 h) ⟨n.1, fun q => n.2 (z _ q)⟩ (r.turn z k)
  | _, _, .tup h n r => .tup (k _ _ n.2 h) ⟨n.1, fun q => n.2 (z _ q)⟩ (r.turn z k)
  | _, _, .tupK a b d e g r => .tupK a b d e g (r.turn z k)
  | _, _, .dct h n r => .dct (k _ _ n.2 h) ⟨n.1, fun q => n.2 (z _ q)⟩ (r.turn z k)
  | _, _, .obj h n r => .obj (k _ _ n.2 h) ⟨n.1, fun q => n.2 (z _ q)⟩ (r.turn z k)
  | _, _, .err h n h2 n2 r => .err (k _ _ n.2 h) ⟨n.1, fun q => n.2 (z _ q)⟩ (k _ _ n2.2 h2) ⟨n2.1, fun q => n2.2 (z _ q)⟩ (r.turn z k)
  | _, _, .cell a => .cell a
  | _, _, .pen h => .pen h
  | _, _, .ty n => .ty n
  | _, _, .lam h n r => .lam (k _ _ n.2 h) ⟨n.1, fun q => n.2 (z _ q)⟩ (r.turn z k)
theorem Reps.turn {Z1 Z2 : Addr → Prop} {s : S} {H H' : Hp} (z : ∀ b, Z2 b → Z1 b) (k : ∀ b o, ¬ Z1 b → H b = some o → H' b = some o) : ∀ {vs : List V} {ts : List T}, Reps K cl Z1 s H vs ts → Reps K cl Z2 s H' vs ts
  | _, _, .nil => .nil
  | _, _, .cons h r => .cons (h.turn z k) (r.turn z k)
theorem RepF.turn {Z1 Z2 : Addr → Prop} {s : S} {H H' : Hp} (z : ∀ b, Z2 b → Z1 b) (k : ∀ b o, ¬ Z1 b → H b = some o → H' b = some o) : ∀ {vs : List (Str × V)} {ts : List (Str × T)}, RepF K cl Z1 s H vs ts → RepF K cl Z2 s H' vs ts
  | _, _, .nil => .nil
  | _, _, .cons h r => .cons (h.turn z k) (r.turn z k)
theorem RepK.turn {Z1 Z2 : Addr → Prop} {s : S} {H H' : Hp} (z : ∀ b, Z2 b → Z1 b) (k : ∀ b o, ¬ Z1 b → H b = some o → H' b = some o) : ∀ {vs : List (Key × V)} {ts : List (Key × T)}, RepK K cl Z1 s H vs ts → RepK K cl Z2 s H' vs ts
  | _, _, .nil => .nil
  | _, _, .cons h r => .cons (h.turn z k) (r.turn z k)
theorem RepE.turn {Z1 Z2 : Addr → Prop} {s : S} {H H' : Hp} (z : ∀ b, Z2 b → Z1 b) (k : ∀ b o, ¬ Z1 b → H b = some o → H' b = some o) : ∀ {vs : List (Option V)} {ts : List (Option T)}, RepE K cl Z1 s H vs ts → RepE K cl Z2 s H' vs ts
  | _, _, .nil => .nil
  | _, _, .c0 r => .c0 (r.turn z k)
  | _, _, .c1 h r => .c1 (h.turn z k) (r.turn z k)
end
theorem CRep.move {Z2 : Addr → Prop} {s : S} {H H' : Hp} {a : Addr} {c : Cell} (e : H' a = H a) (h : CRep K cl Z s H a c) (i : ∀ {vs : List V} {ts : List T}, Reps K cl Z s H vs ts → Reps K cl Z2 s H' vs ts)
    (j : ∀ {vs : List (Str × V)} {ts : List (Str × T)}, RepF K cl Z s H vs ts → RepF K cl Z2 s H' vs ts) (l : ∀ {vs : List (Key × V)} {ts : List (Key × T)}, RepK K cl Z s H vs ts → RepK K cl Z2 s H' vs ts) : CRep K cl Z2 s H' a c := by
  cases c with
  | lst xs =>
    obtain ⟨vs, h1, h2⟩ := h
    exact ⟨vs, e.trans h1, i h2⟩
  | obj c fs =>
    obtain ⟨dx, fvs, h1, h2⟩ := h
    exact ⟨dx, fvs, e.trans h1, j h2⟩
  | dct kvs =>
    obtain ⟨kvv, h1, h2⟩ := h
    exact ⟨kvv, e.trans h1, l h2⟩
/-- a new hidden thing -/
theorem Sto.hide {s : S} {H : Hp} {D : Addr} {xs : List V} (so : Sto K cl Z s H) (hD : H D = none) : Sto K cl (Hide Z D) s (upd H D (.lst xs)) := by
  have k : ∀ b u, b ≠ D → H b = some u → upd H D (.lst xs) b = some u := fun b u n h => by rw [upd_ne n]; exact h
  have s1 := so.new (o := .lst xs) hD
  refine ⟨fun p hp => ?_, fun a c h => ?_, s1.apart, fun b hb => ?_, s1.tabs⟩
  · obtain ⟨L, a, r, ns, h1, h2, h3, h4⟩ := so.pen p hp
    exact ⟨L, a, r, ns, k _ _ (ne_of_none h1 hD) h1, k _ _ (ne_of_none h2 hD) h2, ⟨h3.1, fun z => z.elim h3.2 (ne_of_none h2 hD)⟩, h4⟩
  · exact (so.cells a c h).move (upd_ne (so.ne hD (.inr (by rw [h]; exact Option.some_ne_none c)))) (Reps.hide hD k) (RepF.hide hD k) (RepK.hide hD k)
  · rcases hb with hb | rfl
    · exact s1.hid b hb
    · exact ⟨(so.nomut hD).1, xs, upd_same⟩
/-- it changes -/
theorem Sto.turn {s : S} {H : Hp} {D : Addr} {xs : List V} (so : Sto K cl (Hide Z D) s H) : Sto K cl (Hide Z D) s (upd H D (.lst xs)) := by
  have nD := so.hid D (.inr rfl)
  obtain ⟨ys, hDo⟩ := nD.2
  have hpl : Pl (.lst ys) := ⟨nofun, nofun⟩
  have k : ∀ b u, ¬ Hide Z D b → H b = some u → upd H D (.lst xs) b = some u := fun b u n h => by rw [upd_ne (fun e => n (.inr e))]; exact h
  refine ⟨fun p hp => ?_, fun a c h => ?_, so.apart, fun b hb => ?_, tabs_upd hDo hpl (fun b u n e => by rw [upd_ne n]; exact e) so.tabs⟩
  · obtain ⟨L, a, r, ns, h1, h2, h3, h4⟩ := so.pen p hp
    have e1 : p ≠ D := fun e => nD.1 (.inl (by rw [← e]; exact hp))
    refine ⟨L, a, r, ns, by rw [upd_ne e1]; exact h1, ?_, h3, h4⟩
    by_cases e2 : L = D
    · exact absurd (.inr e2) h3.2
    · rw [upd_ne e2]
      exact h2
  · have e1 : a ≠ D := fun e => nD.1 (.inr (by rw [← e, h]; exact Option.some_ne_none c))
    exact (so.cells a c h).move (upd_ne e1) (Reps.turn (fun _ q => q) k) (RepF.turn (fun _ q => q) k) (RepK.turn (fun _ q => q) k)
  · by_cases e : b = D
    · subst e
      exact ⟨nD.1, xs, upd_same⟩
    · obtain ⟨n, u, hu⟩ := so.hid b hb
      exact ⟨n, u, by rw [upd_ne e]; exact hu⟩
/-- it is hidden no more -/
theorem Sto.bare {s : S} {H : Hp} {D : Addr} (so : Sto K cl (Hide Z D) s H) : Sto K cl Z s H := by
  have k : ∀ b u, ¬ Hide Z D b → H b = some u → H b = some u := fun b u n h => h
  refine ⟨fun p hp => ?_, fun a c h => ?_, so.apart, fun b hb => so.hid b (.inl hb), so.tabs⟩
  · obtain ⟨L, a, r, ns, h1, h2, h3, h4⟩ := so.pen p hp
    exact ⟨L, a, r, ns, h1, h2, ⟨h3.1, fun z => h3.2 (.inl z)⟩, h4⟩
  · exact (so.cells a c h).move rfl (Reps.turn (fun _ q => .inl q) k) (RepF.turn (fun _ q => .inl q) k) (RepK.turn (fun _ q => .inl q) k)
end
end Mr

/-! The mirror layer: judgements. -/
namespace Mr
open PySem PySem.Spec PyProof.Rows L2 Tw

abbrev Env := List (Option T)
abbrev KT := T → S → Prop
abbrev KX := Er → S → Prop
abbrev FE := Env → S → KT → KX → Prop
abbrev FT := Env → S → (Bool → S → Prop) → KX → Prop
abbrev FA := Env → S → (List T → S → Prop) → KX → Prop
structure DS where
  nx : Env → S → Prop
  rt : KT
  bk : Env → S → Prop
  ct : Env → S → Prop
  xr : Er → Env → S → Prop
abbrev FS := Env → S → DS → Prop
/-- what a def does, by its arguments -/
abbrev FD := List T → S → KT → KX → Prop
structure DS.Le (D D' : DS) : Prop where
  nx : ∀ τ s, D.nx τ s → D'.nx τ s
  rt : ∀ t s, D.rt t s → D'.rt t s
  bk : ∀ τ s, D.bk τ s → D'.bk τ s
  ct : ∀ τ s, D.ct τ s → D'.ct τ s
  xr : ∀ e τ s, D.xr e τ s → D'.xr e τ s

section
variable (K : PySem.W.Frag) (cl : CL) (Z : Addr → Prop)
abbrev REnv (s : S) (H : Hp) : L2.St → Env → Prop := RepE K cl Z s H
variable {K cl Z}
theorem RepE.get {s : S} {H : Hp} : ∀ {σ : L2.St} {τ : Env} (i : Nat) {t : T}, REnv K cl Z s H σ τ → τ[i]? = some (some t) → ∃ v, σ[i]? = some (some v) ∧ Rep K cl Z s H v t
  | _, _, i, _, .nil, e => by simp at e
  | _, _, 0, _, .c0 _, e => by simp at e
  | _, _, 0, _, .c1 h _, e => by
    rw [List.getElem?_cons_zero] at e
    cases e
    exact ⟨_, List.getElem?_cons_zero, h⟩
  | _, _, i + 1, _, .c0 r, e => by
    rw [List.getElem?_cons_succ] at e
    obtain ⟨v, e1, h1⟩ := r.get i e
    exact ⟨v, by rw [List.getElem?_cons_succ]; exact e1, h1⟩
  | _, _, i + 1, _, .c1 _ r, e => by
    rw [List.getElem?_cons_succ] at e
    obtain ⟨v, e1, h1⟩ := r.get i e
    exact ⟨v, by rw [List.getElem?_cons_succ]; exact e1, h1⟩
theorem RepE.set {s : S} {H : Hp} {v : V} {t : T} (q : Rep K cl Z s H v t) : ∀ {σ : L2.St} {τ : Env} (i : Nat), REnv K cl Z s H σ τ → REnv K cl Z s H (σ.set i (some v)) (τ.set i (some t))
  | _, _, _, .nil => .nil
  | _, _, 0, .c0 r => .c1 q r
  | _, _, 0, .c1 _ r => .c1 q r
  | _, _, i + 1, .c0 r => .c0 (r.set q i)
  | _, _, i + 1, .c1 h r => .c1 h (r.set q i)
theorem RepE.set0 {s : S} {H : Hp} : ∀ {σ : L2.St} {τ : Env} (i : Nat), REnv K cl Z s H σ τ → REnv K cl Z s H (σ.set i none) (τ.set i none)
  | _, _, _, .nil => .nil
  | _, _, 0, .c0 r => .c0 r
  | _, _, 0, .c1 _ r => .c0 r
  | _, _, i + 1, .c0 r => .c0 (r.set0 i)
  | _, _, i + 1, .c1 h r => .c1 h (r.set0 i)
theorem RepE.nones {s : S} {H : Hp} : ∀ n : Nat, REnv K cl Z s H (List.replicate n none) (List.replicate n none)
  | 0 => .nil
  | n + 1 => by rw [List.replicate_succ, List.replicate_succ]; exact .c0 (RepE.nones n)
def startT (N : List Str) (ts : List T) : Env := ts.map some ++ List.replicate (N.length - ts.length) none
theorem RepE.start {s : S} {H : Hp} {N : List Str} {vs : List V} {ts : List T} (r : Reps K cl Z s H vs ts) : REnv K cl Z s H (L2.start N vs) (startT N ts) := by
  unfold L2.start startT
  rw [r.length]
  generalize N.length - ts.length = n
  induction r using Reps.rec (motive_1 := fun _ _ _ => True) (motive_3 := fun _ _ _ => True) (motive_4 := fun _ _ _ => True) (motive_5 := fun _ _ _ => True) with
  | nil => exact RepE.nones n
  | cons h _ _ ih => exact .c1 h ih
  | _ => trivial

/-- what is to hold behind, seen from (s, H) -/
def post (K : PySem.W.Frag) (cl : CL) (Z : Addr → Prop) (s : S) (H : Hp) (Q : VK) : KT := fun t s' => ∀ v H', Fut s H s' H' → Rep K cl Z s' H' v t → Sto K cl Z s' H' → Q v H'
def postB (K : PySem.W.Frag) (cl : CL) (Z : Addr → Prop) (s : S) (H : Hp) (Q : Bool → Hp → Prop) : Bool → S → Prop := fun b s' => ∀ H', Fut s H s' H' → Sto K cl Z s' H' → Q b H'
def postA (K : PySem.W.Frag) (cl : CL) (Z : Addr → Prop) (s : S) (H : Hp) (Q : List V → Hp → Prop) : List T → S → Prop := fun ts s' => ∀ vs H', Fut s H s' H' → Reps K cl Z s' H' vs ts → Sto K cl Z s' H' → Q vs H'
def postX (K : PySem.W.Frag) (cl : CL) (Z : Addr → Prop) (s : S) (H : Hp) (Q : XK) : KX := fun er s' => ∀ d fvs H', Fut s H s' H' → H' d = some (.xd fvs) → Fz Z s' d → RepF K cl Z s' H' fvs er.fs → Sto K cl Z s' H' → Q (.ref (cl er.c)) (some d) H'
def postW (K : PySem.W.Frag) (cl : CL) (Z : Addr → Prop) (s : S) (H : Hp) (σ : L2.St) (W : WX) : KX := postX K cl Z s H fun c d H' => W c d σ H'
def postE (K : PySem.W.Frag) (cl : CL) (Z : Addr → Prop) (s : S) (H : Hp) (Q : L2.St → Hp → Prop) : Env → S → Prop := fun τ s' => ∀ σ H', Fut s H s' H' → REnv K cl Z s' H' σ τ → Sto K cl Z s' H' → Q σ H'
def postXE (K : PySem.W.Frag) (cl : CL) (Z : Addr → Prop) (s : S) (H : Hp) (W : WX) : Er → Env → S → Prop := fun er τ s' => ∀ d fvs σ H', Fut s H s' H' → H' d = some (.xd fvs) → Fz Z s' d → RepF K cl Z s' H' fvs er.fs → REnv K cl Z s' H' σ τ → Sto K cl Z s' H' → W (.ref (cl er.c)) (some d) σ H'
def postD (K : PySem.W.Frag) (cl : CL) (Z : Addr → Prop) (s : S) (H : Hp) (W : WX) (D : Ends) : DS :=
  ⟨postE K cl Z s H D.nx, post K cl Z s H D.rt, postE K cl Z s H D.bk, postE K cl Z s H D.ct, postXE K cl Z s H W⟩
section
variable {s s1 s2 : S} {H H1 : Hp} {Q : VK} {W : WX} {σ : L2.St} {t : T} {er : Er} {D : Ends}
theorem post.up (f : Fut s H s1 H1) (h : post K cl Z s H Q t s2) : post K cl Z s1 H1 Q t s2 := fun v H' f' r so => h v H' (f.trans f') r so
theorem postB.up {QB : Bool → Hp → Prop} {b : Bool} (f : Fut s H s1 H1) (h : postB K cl Z s H QB b s2) : postB K cl Z s1 H1 QB b s2 := fun H' f' so => h H' (f.trans f') so
theorem postX.up {QX : XK} (f : Fut s H s1 H1) (h : postX K cl Z s H QX er s2) : postX K cl Z s1 H1 QX er s2 := fun d fvs H' f' e m r so => h d fvs H' (f.trans f') e m r so
theorem postW.up (f : Fut s H s1 H1) (h : postW K cl Z s H σ W er s2) : postW K cl Z s1 H1 σ W er s2 := postX.up f h
theorem postE.up {QE : L2.St → Hp → Prop} {τ : Env} (f : Fut s H s1 H1) (h : postE K cl Z s H QE τ s2) : postE K cl Z s1 H1 QE τ s2 := fun σ H' f' r so => h σ H' (f.trans f') r so
theorem postXE.up {τ : Env} (f : Fut s H s1 H1) (h : postXE K cl Z s H W er τ s2) : postXE K cl Z s1 H1 W er τ s2 := fun d fvs σ H' f' e m r re so => h d fvs σ H' (f.trans f') e m r re so
theorem postD.up (f : Fut s H s1 H1) : DS.Le (postD K cl Z s H W D) (postD K cl Z s1 H1 W D) := ⟨fun _ _ => postE.up f, fun _ _ => post.up f, fun _ _ => postE.up f, fun _ _ => postE.up f, fun _ _ _ => postXE.up f⟩
end

def tT (K : PySem.W.Frag) (cl : CL) (W : WX) (F : FE) : TE := fun σ H Q => ∃ Z τ s, REnv K cl Z s H σ τ ∧ Sto K cl Z s H ∧ F τ s (post K cl Z s H Q) (postW K cl Z s H σ W)
def tTT (K : PySem.W.Frag) (cl : CL) (W : WX) (F : FT) : TT := fun σ H Q => ∃ Z τ s, REnv K cl Z s H σ τ ∧ Sto K cl Z s H ∧ F τ s (postB K cl Z s H Q) (postW K cl Z s H σ W)
def tTA (K : PySem.W.Frag) (cl : CL) (W : WX) (F : FA) : TA := fun σ H Q => ∃ Z τ s, REnv K cl Z s H σ τ ∧ Sto K cl Z s H ∧ F τ s (postA K cl Z s H Q) (postW K cl Z s H σ W)
def tTS (K : PySem.W.Frag) (cl : CL) (W : WX) (F : FS) : TS := fun D σ H => ∃ Z τ s, REnv K cl Z s H σ τ ∧ Sto K cl Z s H ∧ F τ s (postD K cl Z s H W D)
end

def MonE (F : FE) : Prop := ∀ τ s (Q Q' : KT) (E E' : KX), (∀ t s, Q t s → Q' t s) → (∀ e s, E e s → E' e s) → F τ s Q E → F τ s Q' E'
def MonT (F : FT) : Prop := ∀ τ s (Q Q' : Bool → S → Prop) (E E' : KX), (∀ t s, Q t s → Q' t s) → (∀ e s, E e s → E' e s) → F τ s Q E → F τ s Q' E'
def MonA (F : FA) : Prop := ∀ τ s (Q Q' : List T → S → Prop) (E E' : KX), (∀ t s, Q t s → Q' t s) → (∀ e s, E e s → E' e s) → F τ s Q E → F τ s Q' E'
def MonS (F : FS) : Prop := ∀ τ s (D D' : DS), D.Le D' → F τ s D → F τ s D'
structure JE (X : Cx) (cl : CL) (W : WX) (e : Expr) (F : FE) : Prop where
  mon : MonE F
  pe : PE X e (tT X.K cl W F)
structure JT (X : Cx) (cl : CL) (W : WX) (e : Expr) (F : FT) : Prop where
  mon : MonT F
  pt : PT X e (tTT X.K cl W F)
structure JW (X : Cx) (cl : CL) (W : WX) (e : Expr) (F : FT) : Prop where
  mon : MonT F
  pw : PW X e (tTT X.K cl W F)
structure JA (X : Cx) (cl : CL) (W : WX) (es : List Expr) (F : FA) : Prop where
  mon : MonA F
  pa : PA X es (tTA X.K cl W F)
structure JS (X : Cx) (cl : CL) (W : WX) (st : Stmt) (F : FS) : Prop where
  mon : MonS F
  ps : PS X st (tTS X.K cl W F)
structure JSs (X : Cx) (cl : CL) (W : WX) (sts : List Stmt) (F : FS) : Prop where
  mon : MonS F
  pss : PSs X sts (tTS X.K cl W F)

section
variable {X : Cx} {cl : CL} {W : WX} {e a b c : Expr} {es : List Expr} {F Fa Fb Fc : FE} {G Ga Gb : FT} {A : FA} {st : Stmt} {sts : List Stmt} {B B1 B2 : FS} {pos p : Pos}
theorem PE.imp {t t' : TE} (h : PE X e t) (i : ∀ σ H Q, t' σ H Q → t σ H Q) : PE X e t' := ⟨fun pins s σ H Q I z => h.run pins s σ H Q I (i σ H Q z)⟩
theorem PT.imp {t t' : TT} (h : PT X e t) (i : ∀ σ H Q, t' σ H Q → t σ H Q) : PT X e t' := ⟨fun pins s σ H Q I z => h.run pins s σ H Q I (i σ H Q z)⟩
theorem PW.imp {t t' : TT} (h : PW X e t) (i : ∀ σ H Q, t' σ H Q → t σ H Q) : PW X e t' := ⟨fun wh pins s σ H Q I z => h.run wh pins s σ H Q I (i σ H Q z)⟩
theorem PA.imp {t t' : TA} (h : PA X es t) (i : ∀ σ H Q, t' σ H Q → t σ H Q) : PA X es t' := ⟨fun pos pins s σ H Q I z => h.run pos pins s σ H Q I (i σ H Q z)⟩
theorem PS.imp {t t' : TS} (h : PS X st t) (i : ∀ D σ H, t' D σ H → t D σ H) : PS X st t' := ⟨fun pins s σ H D I z => h.run pins s σ H D I (i D σ H z)⟩
theorem PSs.imp {t t' : TS} (h : PSs X sts t) (i : ∀ D σ H, t' D σ H → t D σ H) : PSs X sts t' := ⟨fun pins s σ H D I z => h.run pins s σ H D I (i D σ H z)⟩

section
variable {Z : Addr → Prop} {σ : L2.St} {τ : Env} {H : Hp} {s : S} {P : KT} {E : KX} {Q : VK}
/-- to use a reading -/
theorem go (mon : MonE F) (re : REnv X.K cl Z s H σ τ) (so : Sto X.K cl Z s H) (h : F τ s P E)
    (hP : ∀ t s1 v H1, P t s1 → Fut s H s1 H1 → REnv X.K cl Z s1 H1 σ τ → Rep X.K cl Z s1 H1 v t → Sto X.K cl Z s1 H1 → Q v H1) (hE : ∀ er s1, E er s1 → postW X.K cl Z s H σ W er s1) : tT X.K cl W F σ H Q :=
  ⟨Z, τ, s, re, so, mon _ _ _ _ _ _ (fun t s1 p v H1 f r so1 => hP t s1 v H1 p f (re.fut f) r so1) hE h⟩
theorem goT {P : Bool → S → Prop} {Q : Bool → Hp → Prop} (mon : MonT G) (re : REnv X.K cl Z s H σ τ) (so : Sto X.K cl Z s H) (h : G τ s P E)
    (hP : ∀ t s1 H1, P t s1 → Fut s H s1 H1 → REnv X.K cl Z s1 H1 σ τ → Sto X.K cl Z s1 H1 → Q t H1) (hE : ∀ er s1, E er s1 → postW X.K cl Z s H σ W er s1) : tTT X.K cl W G σ H Q :=
  ⟨Z, τ, s, re, so, mon _ _ _ _ _ _ (fun t s1 p H1 f so1 => hP t s1 H1 p f (re.fut f) so1) hE h⟩
theorem goA {P : List T → S → Prop} {Q : List V → Hp → Prop} (mon : MonA A) (re : REnv X.K cl Z s H σ τ) (so : Sto X.K cl Z s H) (h : A τ s P E)
    (hP : ∀ ts s1 vs H1, P ts s1 → Fut s H s1 H1 → REnv X.K cl Z s1 H1 σ τ → Reps X.K cl Z s1 H1 vs ts → Sto X.K cl Z s1 H1 → Q vs H1) (hE : ∀ er s1, E er s1 → postW X.K cl Z s H σ W er s1) : tTA X.K cl W A σ H Q :=
  ⟨Z, τ, s, re, so, mon _ _ _ _ _ _ (fun t s1 p v H1 f r so1 => hP t s1 v H1 p f (re.fut f) r so1) hE h⟩
theorem goS {D : DS} {D' : Ends} (mon : MonS B) (re : REnv X.K cl Z s H σ τ) (so : Sto X.K cl Z s H) (h : B τ s D) (le : D.Le (postD X.K cl Z s H W D')) : tTS X.K cl W B D' σ H :=
  ⟨Z, τ, s, re, so, mon _ _ _ _ le h⟩
end

/-! ### names and constants -/
def fVar (i : Nat) : FE := fun τ s Q _ => match τ[i]? with | some (some t) => Q t s | _ => False
theorem mon_var (i : Nat) : MonE (fVar i) := by
  intro τ s Q Q' E E' hq _ h
  unfold fVar at h ⊢
  split at h
  · exact hq _ _ h
  · exact h.elim
theorem je_var (i : Nat) {x : Str} (hN : X.N[i]? = some x := by rfl) (hv : Vis X.env.scope x := by first | exact Or.inl rfl | exact Or.inr (Or.inl rfl) | exact Or.inr (Or.inr rfl)) (hd : (x == ("__debug__" : Str)) = false := by decide)
    (hcd : (x == ("__classdict__" : Str)) = false := by decide) : JE X cl W (.Name x pos) (fVar i) := by
  refine ⟨mon_var i, PE.imp (pe_var hN hv hd hcd) ?_⟩
  rintro σ H Q ⟨Z, τ, s, re, so, h⟩
  unfold fVar at h
  split at h
  · rename_i t e
    obtain ⟨v, e1, r⟩ := re.get i e
    exact ⟨v, e1, h v H (Fut.refl _ _) r so⟩
  · exact h.elim
/-- a value that is at hand -/
def fC (t : T) : FE := fun _ s Q _ => Q t s
theorem mon_c (t : T) : MonE (fC t) := fun _ _ _ _ _ _ hq _ h => hq _ _ h
theorem je_c {v : V} {t : T} (h : PE X e (tC v)) (r : ∀ Z s H, Rep X.K cl Z s H v t) : JE X cl W e (fC t) := by
  refine ⟨mon_c t, PE.imp h ?_⟩
  rintro σ H Q ⟨Z, τ, s, re, so, h⟩
  exact h v H (Fut.refl _ _) (r Z s H) so
theorem je_int {i : Int} {j : Nat} : JE X cl W (.Constant (.int i) j pos) (fC (.int i)) := je_c pe_int fun _ _ _ => .int i
theorem je_bl {i : Bool} {j : Nat} : JE X cl W (.Constant (.bool i) j pos) (fC (.bl i)) := je_c pe_bl fun _ _ _ => .bl i
theorem je_non {j : Nat} : JE X cl W (.Constant .none j pos) (fC .non) := je_c pe_non fun _ _ _ => .non
theorem je_str {z : Str} {j : Nat} : JE X cl W (.Constant (.str z) j pos) (fC (.str z)) := je_c pe_str fun _ _ _ => .str z
theorem je_glob {x : Str} {v : V} {t : T} (hg : Gl X x) (h : ∃ u, X.mg x = some u ∧ RelV v u) (r : ∀ Z s H, Rep X.K cl Z s H v t) (hd : (x == ("__debug__" : Str)) = false := by decide) : JE X cl W (.Name x pos) (fC t) := je_c (C8.pe_gc hg h hd) r
theorem Ty.rel (cl : CL) : ∀ k : Ty, RelV (k.v cl) (k.u cl)
  | .non => rfl | .bool => rfl | .int => rfl | .str => rfl | .list => rfl | .tup => rfl | .dict => rfl | .own _ => rfl | .vex => rfl
/-- a built-in class by its name -/
theorem je_ty (k : Ty) {x : Str} (hg : Gl X x) (hm : X.mg x = none) (hv : bootBuiltins x = some (k.u ⟨fun _ => 0, []⟩)) (he : (k.u ⟨fun _ => 0, []⟩) = k.u cl := by rfl) (hn : x ≠ "__name__" := by decide) (hd : (x == ("__debug__" : Str)) = false := by decide) : JE X cl W (.Name x pos) (fC (.ty k)) :=
  je_c (pe_bltn (v := k.v cl) hg hm (he ▸ hv) (k.rel cl) hn hd) fun _ _ _ => .ty k
/-- an own class by its name -/
theorem je_cls (c : Nat) {x : Str} (hg : Gl X x) (hm : X.mg x = some (.ref (cl c))) (hd : (x == ("__debug__" : Str)) = false := by decide) : JE X cl W (.Name x pos) (fC (.ty (.own c))) :=
  je_glob (v := .ref (cl c)) hg ⟨_, hm, rfl⟩ (fun _ _ _ => .ty (.own c)) hd

/-! ### operators -/
def Mon2 (g : S → T → T → KT → KX → Prop) : Prop := ∀ s x y (Q Q' : KT) (E E' : KX), (∀ t s, Q t s → Q' t s) → (∀ e s, E e s → E' e s) → g s x y Q E → g s x y Q' E'
structure OpT (X : Cx) (cl : CL) (W : WX) (f : Value → Value → Sem Value) (g : S → T → T → KT → KX → Prop) : Prop where
  mon : Mon2 g
  run : ∀ (Z : Addr → Prop) (pins : List (Addr × Obj)) (sh : Shared) (σ : L2.St) (H : Hp) (x y : V) (v u : Value) (Q : VK) (s : S) (tx ty : T), Inv X pins σ H sh → RelV x v → RelV y u → Rep X.K cl Z s H x tx → Rep X.K cl Z s H y ty → Sto X.K cl Z s H →
    g s tx ty (post X.K cl Z s H Q) (postW X.K cl Z s H σ W) → wpAny (model X.prog X.w) X.A (f v u) (EP X pins σ Q) X.xe sh
theorem OpT.of {f : Value → Value → Sem Value} {g : S → T → T → KT → KX → Prop} {r : R2} (mon : Mon2 g) (h : OpR X f r)
    (i : ∀ (Z : Addr → Prop) (H : Hp) (x y : V) (Q : VK) (s : S) (tx ty : T) (E : KX), Rep X.K cl Z s H x tx → Rep X.K cl Z s H y ty → Sto X.K cl Z s H → g s tx ty (post X.K cl Z s H Q) E → r x y H Q) : OpT X cl W f g :=
  ⟨mon, fun Z pins sh σ H x y v u Q s tx ty I rx ry px py so q => h pins sh σ H x y v u Q I rx ry (i Z H x y Q s tx ty _ px py so q)⟩
def f2 (g : S → T → T → KT → KX → Prop) (Fa Fb : FE) : FE := fun τ s Q E => Fa τ s (fun x s1 => Fb τ s1 (fun y s2 => g s2 x y Q E) E) E
theorem mon_2 {g : S → T → T → KT → KX → Prop} (mg : Mon2 g) (ma : MonE Fa) (mb : MonE Fb) : MonE (f2 g Fa Fb) :=
  fun τ s Q Q' E E' hq he h => ma τ s _ _ _ _ (fun x s1 h1 => mb τ s1 _ _ _ _ (fun y s2 h2 => mg s2 x y _ _ _ _ hq he h2) he h1) he h
def R2T (X : Cx) (cl : CL) (W : WX) (σ : L2.St) (g : S → T → T → KT → KX → Prop) (Q : VK) : V → V → Hp → Prop := fun x y H2 => ∃ Z s2 tx ty, Rep X.K cl Z s2 H2 x tx ∧ Rep X.K cl Z s2 H2 y ty ∧ Sto X.K cl Z s2 H2 ∧ g s2 tx ty (post X.K cl Z s2 H2 Q) (postW X.K cl Z s2 H2 σ W)
theorem two {Z : Addr → Prop} {g : S → T → T → KT → KX → Prop} {σ : L2.St} {τ : Env} {H : Hp} {s : S} {Q : VK} (mg : Mon2 g) (ma : MonE Fa) (mb : MonE Fb) (re : REnv X.K cl Z s H σ τ) (so : Sto X.K cl Z s H) (h : f2 g Fa Fb τ s (post X.K cl Z s H Q) (postW X.K cl Z s H σ W)) :
    tT X.K cl W Fa σ H fun x H1 => tT X.K cl W Fb σ H1 fun y H2 => R2T X cl W σ g Q x y H2 := by
  refine go ma re so h (fun tx s1 x H1 p1 f1 re1 r1 so1 => ?_) fun _ _ q => q
  refine go mb re1 so1 p1 (fun ty s2 y H2 p2 f2 re2 r2 so2 => ?_) fun _ _ q => postW.up f1 q
  exact ⟨Z, s2, tx, ty, r1.fut f2, r2, so2, mg _ _ _ _ _ _ _ (fun _ _ q => post.up (f1.trans f2) q) (fun _ _ q => postW.up (f1.trans f2) q) p2⟩
theorem je_op {op : Operator} {g : S → T → T → KT → KX → Prop} (ho : OpT X cl W (binaryOp op) g) (ha : JE X cl W a Fa) (hb : JE X cl W b Fb) : JE X cl W (.BinOp a op b pos) (f2 g Fa Fb) := by
  refine ⟨mon_2 ho.mon ha.mon hb.mon, ⟨fun pins sh σ H Q I h => ?_⟩⟩
  obtain ⟨Z, τ, s, re, so, h⟩ := h
  refine wpAny_BinOp (binT ha.pe hb.pe I (two ho.mon ha.mon hb.mon re so h) fun v u s2 x y H2 I2 rx ry q => ?_)
  obtain ⟨Z3, s3, tx, ty, p1, p2, so2, q⟩ := q
  exact ho.run Z3 pins s2 σ H2 x y v u Q s3 tx ty I2 rx ry p1 p2 so2 q
/-- as a rule of values -/
theorem OpT.opr {f : Value → Value → Sem Value} {g : S → T → T → KT → KX → Prop} (ho : OpT X cl W f g) (pins : List (Addr × Obj)) (sh : Shared) (σ : L2.St) (H : Hp) (x y : V) (v u : Value) (Q : VK) (I : Inv X pins σ H sh) (rx : RelV x v) (ry : RelV y u) (q : R2T X cl W σ g Q x y H) :
    wpAny (model X.prog X.w) X.A (f v u) (EP X pins σ Q) X.xe sh := by
  obtain ⟨Z3, s3, tx, ty, p1, p2, so2, q⟩ := q
  exact ho.run Z3 pins sh σ H x y v u Q s3 tx ty I rx ry p1 p2 so2 q
theorem je_cmp {op : CmpOp} {g : S → T → T → KT → KX → Prop} (ho : OpT X cl W (compareOp op) g) (ha : JE X cl W a Fa) (hb : JE X cl W b Fb) (hm : behindInMarks op b = false) : JE X cl W (.Compare a [op] [b] pos) (f2 g Fa Fb) := by
  refine ⟨mon_2 ho.mon ha.mon hb.mon, ⟨fun pins sh σ H Q I h => ?_⟩⟩
  obtain ⟨Z, τ, s, re, so, h⟩ := h
  exact wpAny_Compare1 (binT ha.pe hb.pe I (two ho.mon ha.mon hb.mon re so h) fun v u s2 x y H2 I2 rx ry q => ho.opr pins s2 σ H2 x y v u Q I2 rx ry q) hm
end
end Mr

/-! The mirror layer: operators, displays, tests. -/
namespace Mr
open PySem PySem.Spec PyProof.Rows L2 Tw

/-! ### lists and tuples that are read -/
def S.lst? (s : S) : T → Option (List T)
  | .lst xs => some xs
  | .cell a => match s.on a with | some (.lst xs) => some xs | _ => none
  | _ => none
/-- a list (true) or a tuple (false) -/
def S.seq? (s : S) : T → Option (Bool × List T)
  | .lst xs => some (true, xs)
  | .tup xs => some (false, xs)
  | .cell a => match s.on a with | some (.lst xs) => some (true, xs) | _ => none
  | _ => none
section
variable {K : PySem.W.Frag} {cl : CL} {Z : Addr → Prop} {s s' : S} {H : Hp} {v : V} {t : T} {xs : List T} {Q : VK}
theorem lst_of (so : Sto K cl Z s H) (r : Rep K cl Z s H v t) (e : s.lst? t = some xs) : ∃ a vs, v = .ref a ∧ H a = some (.lst vs) ∧ Reps K cl Z s H vs xs := by
  cases r with
  | lst h n q =>
    cases e
    exact ⟨_, _, rfl, h, q⟩
  | cell a =>
    unfold S.lst? at e
    dsimp only at e
    split at e
    · rename_i ys ho
      cases e
      obtain ⟨vs, h1, h2⟩ := so.cells a _ ho
      exact ⟨a, vs, rfl, h1, h2⟩
    · cases e
  | _ => cases e
theorem tup_of (r : Rep K cl Z s H v (.tup xs)) : ∃ a vs, v = .ref a ∧ SqT K H a vs ∧ Reps K cl Z s H vs xs := by
  cases r with
  | tup h n q => exact ⟨_, _, rfl, SqT.of h, q⟩
  | tupK a b c d e q => exact ⟨_, _, rfl, .inr ⟨_, _, _, a, b, c, d, e⟩, q⟩
theorem seq_of {b : Bool} (so : Sto K cl Z s H) (r : Rep K cl Z s H v t) (e : s.seq? t = some (b, xs)) : ∃ a vs, v = .ref a ∧ (if b = true then H a = some (.lst vs) else SqT K H a vs) ∧ Reps K cl Z s H vs xs := by
  cases t with
  | lst ys =>
    cases e
    obtain ⟨a, vs, h1, h2, h3⟩ := lst_of so r rfl
    exact ⟨a, vs, h1, by rw [if_pos rfl]; exact h2, h3⟩
  | tup ys =>
    cases e
    obtain ⟨a, vs, h1, h2, h3⟩ := tup_of r
    exact ⟨a, vs, h1, by rw [if_neg Bool.false_ne_true]; exact h2, h3⟩
  | cell a =>
    unfold S.seq? at e
    dsimp only at e
    split at e
    · rename_i ys ho
      cases e
      obtain ⟨a, vs, h1, h2, h3⟩ := lst_of (xs := xs) so r (by unfold S.lst?; dsimp only; rw [ho])
      exact ⟨a, vs, h1, by rw [if_pos rfl]; exact h2, h3⟩
    · cases e
  | _ => cases e
theorem seq_sq {b : Bool} (so : Sto K cl Z s H) (r : Rep K cl Z s H v t) (e : s.seq? t = some (b, xs)) : ∃ a vs, v = .ref a ∧ (SqL K H a vs ∨ SqT K H a vs) ∧ Reps K cl Z s H vs xs := by
  obtain ⟨a, vs, h1, h2, h3⟩ := seq_of so r e
  cases b with
  | true =>
    rw [if_pos rfl] at h2
    exact ⟨a, vs, h1, .inl (SqL.of h2), h3⟩
  | false =>
    rw [if_neg Bool.false_ne_true] at h2
    exact ⟨a, vs, h1, .inr h2, h3⟩
theorem post.here (p : post K cl Z s H Q t s) (r : Rep K cl Z s H v t) (so : Sto K cl Z s H) : Q v H := p v H (Fut.refl _ _) r so
theorem post.newL {vs : List V} (p : post K cl Z s H Q (.lst xs) s) (so : Sto K cl Z s H) (r : Reps K cl Z s H vs xs) : ∀ a, H a = none → Q (.ref a) (upd H a (.lst vs)) :=
  fun a ha => p _ _ (Fut.new ha) (.lst upd_same (so.nomut ha) (r.fut (Fut.new ha))) (so.new ha)
theorem post.newT {vs : List V} (p : post K cl Z s H Q (.tup xs) s) (so : Sto K cl Z s H) (r : Reps K cl Z s H vs xs) : ∀ a, H a = none → Q (.ref a) (upd H a (.tup vs)) :=
  fun a ha => p _ _ (Fut.new ha) (.tup upd_same (so.nomut ha) (r.fut (Fut.new ha))) (so.new ha)
theorem post.newLC {vs : List V} {F : T → S → Prop} (p : ∀ a, s.on a = none → post K cl Z s H Q (.cell a) (s.put a (.lst xs))) (so : Sto K cl Z s H) (r : Reps K cl Z s H vs xs) : ∀ a, H a = none → Q (.ref a) (upd H a (.lst vs)) := fun a ha => by
  have n := (so.nomut ha).1
  have e : s.on a = none := by
    cases q : s.on a with
    | none => rfl
    | some c => exact absurd (.inr (by rw [q]; exact Option.some_ne_none c)) n
  exact p a e _ _ (Fut.newC ha) (.cell a) (so.newC ha ⟨vs, upd_same, r.fut (Fut.newC ha)⟩)
theorem on_none {a : Addr} (so : Sto K cl Z s H) (ha : H a = none) : s.on a = none := by
  have n := (so.nomut ha).1
  cases q : s.on a with
  | none => rfl
  | some c => exact absurd (.inr (by rw [q]; exact Option.some_ne_none c)) n
end

/-! ### operators that give a value and change nothing -/
abbrev O2 := S → T → T → Option (Prop × T)
def g2 (o : O2) : S → T → T → KT → KX → Prop := fun s x y Q _ => match o s x y with | some (c, t) => c ∧ Q t s | none => False
theorem mon_g2 (o : O2) : Mon2 (g2 o) := by
  intro s x y Q Q' E E' hq _ h
  unfold g2 at h ⊢
  split at h
  · exact ⟨h.1, hq _ _ h.2⟩
  · exact h
section
variable {X : Cx} {cl : CL} {W : WX}
theorem OpT.pure {f : Value → Value → Sem Value} {o : O2} {r : R2} (h : OpR X f r)
    (i : ∀ (Z : Addr → Prop) (H : Hp) (x y : V) (Q : VK) (s : S) (tx ty : T) (c : Prop) (t : T), Rep X.K cl Z s H x tx → Rep X.K cl Z s H y ty → Sto X.K cl Z s H → o s tx ty = some (c, t) → c → post X.K cl Z s H Q t s → r x y H Q) : OpT X cl W f (g2 o) := by
  refine OpT.of (mon_g2 o) h fun Z H x y Q s tx ty E px py so q => ?_
  unfold g2 at q
  split at q
  · rename_i c t e
    exact i Z H x y Q s tx ty c t px py so e q.1 q.2
  · exact q.elim
theorem opr_or {f : Value → Value → Sem Value} {r r' : R2} (h : OpR X f r) (h' : OpR X f r') : OpR X f (fun x y H Q => r x y H Q ∨ r' x y H Q) := by
  intro pins s σ H x y v u Q I rx ry q
  rcases q with q | q
  · exact h pins s σ H x y v u Q I rx ry q
  · exact h' pins s σ H x y v u Q I rx ry q
def addO : O2
  | _, .int i, .int j => some (True, .int (i + j))
  | _, .str a, .str b => some (a.length + b.length ≤ 1000000, .str (a ++ b))
  | _, .tup xs, .tup ys => some (xs.length + ys.length ≤ 1000000, .tup (xs ++ ys))
  | s, x, y => match s.lst? x, s.lst? y with | some xs, some ys => some (xs.length + ys.length ≤ 1000000, .lst (xs ++ ys)) | _, _ => none
theorem rep_i {K : PySem.W.Frag} {Z : Addr → Prop} {s : S} {H : Hp} {v : V} {i : Int} (r : Rep K cl Z s H v (.int i)) : v = .int i := by cases r; rfl
theorem rep_b {K : PySem.W.Frag} {Z : Addr → Prop} {s : S} {H : Hp} {v : V} {i : Bool} (r : Rep K cl Z s H v (.bl i)) : v = .bl i := by cases r; rfl
theorem rep_s {K : PySem.W.Frag} {Z : Addr → Prop} {s : S} {H : Hp} {v : V} {i : Str} (r : Rep K cl Z s H v (.str i)) : v = .str i := by cases r; rfl
theorem rep_n {K : PySem.W.Frag} {Z : Addr → Prop} {s : S} {H : Hp} {v : V} (r : Rep K cl Z s H v .non) : v = .non := by cases r; rfl
theorem o_add : OpT X cl W (binaryOp .Add) (g2 addO) := by
  refine OpT.pure (opr_or op_add (opr_or op_add_str (opr_or op_catA op_cat))) fun Z H x y Q s tx ty c t px py so e hc p => ?_
  unfold addO at e
  split at e
  · cases e
    cases rep_i px
    cases rep_i py
    exact .inl ⟨_, _, rfl, rfl, p.here (.int _) so⟩
  · cases e
    cases rep_s px
    cases rep_s py
    exact .inr (.inl ⟨_, _, rfl, rfl, Nat.le_trans hc (by decide), p.here (.str _) so⟩)
  · cases e
    obtain ⟨a, vs, rfl, h1, r1⟩ := tup_of px
    obtain ⟨b, ws, rfl, h2, r2⟩ := tup_of py
    refine .inr (.inr (.inl ⟨a, b, vs, ws, rfl, rfl, h1, h2, by rw [r1.length, r2.length]; exact Nat.le_trans hc (by decide), fun z => ?_, fun _ z => ?_, fun _ _ => p.newT so (Reps.append r1 r2)⟩))
    · subst z
      cases r1
      exact p.here py so
    · subst z
      cases r2
      rw [List.append_nil] at p
      exact p.here px so
  · split at e
    · rename_i e1 e2
      cases e
      obtain ⟨a, vs, rfl, h1, r1⟩ := lst_of so px e1
      obtain ⟨b, ws, rfl, h2, r2⟩ := lst_of so py e2
      exact .inr (.inr (.inr ⟨a, b, vs, ws, rfl, rfl, h1, h2, by rw [r1.length, r2.length]; exact Nat.le_trans hc (by decide), p.newL so (Reps.append r1 r2)⟩))
    · cases e
/-- an int operator -/
def intO (c : Int → Int → Prop) (f : Int → Int → T) : O2
  | _, .int i, .int j => some (c i j, f i j)
  | _, _, _ => none
theorem o_int {f : Value → Value → Sem Value} {c : Int → Int → Prop} {g : Int → Int → V} {gt : Int → Int → T} (h : OpR X f (rI c g)) (hg : ∀ i j Z s H, Rep X.K cl Z s H (g i j) (gt i j)) : OpT X cl W f (g2 (intO c gt)) := by
  refine OpT.pure h fun Z H x y Q s tx ty c' t px py so e hc p => ?_
  unfold intO at e
  split at e
  · cases e
    cases rep_i px
    cases rep_i py
    exact ⟨_, _, rfl, rfl, hc, p.here (hg _ _ _ _ _) so⟩
  · cases e
theorem opr_I0 {f : Value → Value → Sem Value} {g : Int → Int → V} (h : OpR X f (rI0 g)) : OpR X f (rI (fun _ _ => True) g) := fun pins s σ H x y v u Q I rx ry ⟨i, j, e1, e2, _, q⟩ => h pins s σ H x y v u Q I rx ry ⟨i, j, e1, e2, q⟩
theorem o_sub : OpT X cl W (binaryOp .Sub) (g2 (intO (fun _ _ => True) fun i j => .int (i - j))) := o_int (opr_I0 op_sub) fun _ _ _ _ _ => .int _
theorem o_fdiv : OpT X cl W (binaryOp .FloorDiv) (g2 (intO CDivW fun i j => .int (i / j))) := o_int op_fdivW fun _ _ _ _ _ => .int _
theorem o_mod : OpT X cl W (binaryOp .Mod) (g2 (intO (fun _ j => 0 < j) fun i j => .int (i % j))) := o_int op_mod fun _ _ _ _ _ => .int _
theorem o_pow : OpT X cl W (binaryOp .Pow) (g2 (intO CPow fun i j => .int (i ^ j.toNat))) := o_int op_pow fun _ _ _ _ _ => .int _
def repS (z : Str) (n : Nat) : Str := ⟨(List.replicate n z.cps).foldl (· ++ ·) #[]⟩
def mulO : O2
  | _, .int i, .int j => some (CMul i j, .int (i * j))
  | _, .str z, .int k => some (0 ≤ k ∧ k ≤ 1000 ∧ z.length ≤ 1000, .str (repS z k.toNat))
  | s, x, .int k => match s.lst? x with | some xs => some (-(2 ^ 63) ≤ k ∧ k < 2 ^ 63 ∧ xs.length * k.toNat ≤ 1000000, .lst (List.replicate k.toNat xs).flatten) | _ => none
  | _, _, _ => none
theorem Reps.flat {K : PySem.W.Frag} {Z : Addr → Prop} {s : S} {H : Hp} {vs : List V} {xs : List T} (r : Reps K cl Z s H vs xs) : ∀ n : Nat, Reps K cl Z s H (List.replicate n vs).flatten (List.replicate n xs).flatten
  | 0 => .nil
  | n + 1 => by
    rw [List.replicate_succ, List.replicate_succ, List.flatten_cons, List.flatten_cons]
    exact Reps.append r (Reps.flat r n)
/-- comparisons of ints and of texts -/
def ltO : O2
  | _, .int i, .int j => some (True, .bl (decide (i < j)))
  | _, .str i, .str j => some (True, .bl (decide (i.cps.toList < j.cps.toList)))
  | _, _, _ => none
def leO : O2
  | _, .int i, .int j => some (True, .bl (decide (i ≤ j)))
  | _, .str i, .str j => some (True, .bl (!decide (j.cps.toList < i.cps.toList)))
  | _, _, _ => none
def gtO : O2
  | _, .int i, .int j => some (True, .bl (decide (j < i)))
  | _, .str i, .str j => some (True, .bl (decide (j.cps.toList < i.cps.toList)))
  | _, _, _ => none
def geO : O2
  | _, .int i, .int j => some (True, .bl (decide (j ≤ i)))
  | _, .str i, .str j => some (True, .bl (!decide (i.cps.toList < j.cps.toList)))
  | _, _, _ => none
theorem o_lt : OpT X cl W (compareOp .Lt) (g2 ltO) := by
  refine OpT.pure (opr_or op_lt op_lt_str) fun Z H x y Q s tx ty c t px py so e hc p => ?_
  unfold ltO at e
  split at e
  · cases e
    cases rep_i px
    cases rep_i py
    exact .inl ⟨_, _, rfl, rfl, p.here (.bl _) so⟩
  · cases e
    cases rep_s px
    cases rep_s py
    exact .inr ⟨_, _, rfl, rfl, p.here (.bl _) so⟩
  · cases e
theorem o_le : OpT X cl W (compareOp .LtE) (g2 leO) := by
  refine OpT.pure (opr_or op_le op_le_str) fun Z H x y Q s tx ty c t px py so e hc p => ?_
  unfold leO at e
  split at e
  · cases e
    cases rep_i px
    cases rep_i py
    exact .inl ⟨_, _, rfl, rfl, p.here (.bl _) so⟩
  · cases e
    cases rep_s px
    cases rep_s py
    exact .inr ⟨_, _, rfl, rfl, p.here (.bl _) so⟩
  · cases e
theorem o_gt : OpT X cl W (compareOp .Gt) (g2 gtO) := by
  refine OpT.pure (opr_or op_gt op_gt_str) fun Z H x y Q s tx ty c t px py so e hc p => ?_
  unfold gtO at e
  split at e
  · cases e
    cases rep_i px
    cases rep_i py
    exact .inl ⟨_, _, rfl, rfl, p.here (.bl _) so⟩
  · cases e
    cases rep_s px
    cases rep_s py
    exact .inr ⟨_, _, rfl, rfl, p.here (.bl _) so⟩
  · cases e
theorem o_ge : OpT X cl W (compareOp .GtE) (g2 geO) := by
  refine OpT.pure (opr_or op_ge op_ge_str) fun Z H x y Q s tx ty c t px py so e hc p => ?_
  unfold geO at e
  split at e
  · cases e
    cases rep_i px
    cases rep_i py
    exact .inl ⟨_, _, rfl, rfl, p.here (.bl _) so⟩
  · cases e
    cases rep_s px
    cases rep_s py
    exact .inr ⟨_, _, rfl, rfl, p.here (.bl _) so⟩
  · cases e
end

/-! ### data -/
mutual
def T.dat : T → Option PyData
  | .non => some .none
  | .bl b => some (.bool b)
  | .int i => some (.int i)
  | .str z => some (.str z)
  | .lst xs => (dats xs).map .list
  | .tup xs => (dats xs).map .tuple
  | _ => none
def dats : List T → Option (List PyData)
  | [] => some []
  | x :: xs => match x.dat, dats xs with | some d, some ds => some (d :: ds) | _, _ => none
end
def S.dat (s : S) (t : T) : Option PyData :=
  match t with
  | .cell a => match s.on a with | some (.lst xs) => (dats xs).map .list | _ => none
  | t => t.dat
section
variable {K : PySem.W.Frag} {cl : CL} {Z : Addr → Prop} {s : S} {H : Hp}
mutual
theorem Rep.dp (so : Sto K cl Z s H) : ∀ {v : V} {t : T} {d : PyData}, Rep K cl Z s H v t → t.dat = some d → Dp K H v d
  | _, .non, _, r, e => by
    cases r
    rw [T.dat] at e
    cases e
    exact .non
  | _, .bl b, _, r, e => by
    cases r
    rw [T.dat] at e
    cases e
    exact .bl b
  | _, .int b, _, r, e => by
    cases r
    rw [T.dat] at e
    cases e
    exact .int b
  | _, .str b, _, r, e => by
    cases r
    rw [T.dat] at e
    cases e
    exact .str b
  | _, .lst xs, _, r, e => by
    obtain ⟨a, vs, rfl, h, q⟩ := lst_of so r rfl
    rw [T.dat] at e
    obtain ⟨ds, e1, rfl⟩ := Option.map_eq_some_iff.mp e
    exact .lst (SqL.of h) (Reps.dp so q e1)
  | _, .tup xs, _, r, e => by
    obtain ⟨a, vs, rfl, h, q⟩ := tup_of r
    rw [T.dat] at e
    obtain ⟨ds, e1, rfl⟩ := Option.map_eq_some_iff.mp e
    exact .tup h (Reps.dp so q e1)
  | _, .dct _, _, _, e => by rw [T.dat] at e <;> first | cases e | (intros; intro h; cases h)
  | _, .obj _ _, _, _, e => by rw [T.dat] at e <;> first | cases e | (intros; intro h; cases h)
  | _, .err _ _, _, _, e => by rw [T.dat] at e <;> first | cases e | (intros; intro h; cases h)
  | _, .cell _, _, _, e => by rw [T.dat] at e <;> first | cases e | (intros; intro h; cases h)
  | _, .pen, _, _, e => by rw [T.dat] at e <;> first | cases e | (intros; intro h; cases h)
  | _, .ty _, _, _, e => by rw [T.dat] at e <;> first | cases e | (intros; intro h; cases h)
theorem Reps.dp (so : Sto K cl Z s H) : ∀ {vs : List V} {ts : List T} {ds : List PyData}, Reps K cl Z s H vs ts → dats ts = some ds → DpAll K H vs ds
  | _, [], _, r, e => by
    cases r
    rw [dats] at e
    cases e
    exact .nil
  | _, t :: ts, _, r, e => by
    cases r with
    | cons h q =>
      rw [dats] at e
      split at e
      · rename_i d ds e1 e2
        cases e
        exact .cons (Rep.dp so h e1) (Reps.dp so q e2)
      · cases e
end
theorem Rep.sdp {v : V} {t : T} {d : PyData} (so : Sto K cl Z s H) (r : Rep K cl Z s H v t) (e : s.dat t = some d) : Dp K H v d := by
  unfold S.dat at e
  split at e
  · split at e
    · rename_i ho
      cases r
      obtain ⟨vs, h1, h2⟩ := so.cells _ _ ho
      obtain ⟨ds, e1, rfl⟩ := Option.map_eq_some_iff.mp e
      exact .lst (SqL.of h1) (Reps.dp so h2 e1)
    · cases e
  · exact Rep.dp so r e
end
def eqO : O2
  | _, .int i, .int j => some (True, .bl (decide (i = j)))
  | _, .str i, .str j => some (True, .bl (decide (i = j)))
  | _, .bl i, .bl j => some (True, .bl (decide (i = j)))
  | s, x, y => match s.dat x, s.dat y with | some d, some e => some (SeqAt.shaped d = true ∧ SeqAt.shaped e = true, .bl (PyData.eqv d e)) | _, _ => none
def neO : O2
  | _, .int i, .int j => some (True, .bl (!decide (i = j)))
  | _, .str i, .str j => some (True, .bl (!decide (i = j)))
  | _, .bl i, .bl j => some (True, .bl (!decide (i = j)))
  | s, x, y => match s.dat x, s.dat y with | some d, some e => some (SeqAt.shaped d = true ∧ SeqAt.shaped e = true, .bl (!PyData.eqv d e)) | _, _ => none
section
variable {X : Cx} {cl : CL} {W : WX} {k : Nat}
theorem o_eq (hr : Rm k X.A) : OpT X cl W (compareOp .Eq) (g2 eqO) := by
  refine OpT.pure (opr_or op_eq (op_eqD hr.u)) fun Z H x y Q s tx ty c t px py so e hc p => ?_
  unfold eqO at e
  split at e
  · cases e
    cases rep_i px
    cases rep_i py
    exact .inl (r_eqI (p.here (.bl _) so))
  · cases e
    cases rep_s px
    cases rep_s py
    exact .inl (r_eqS (p.here (.bl _) so))
  · cases e
    cases rep_b px
    cases rep_b py
    exact .inl (r_eqB (p.here (.bl _) so))
  · split at e
    · rename_i e1 e2
      cases e
      exact .inr ⟨_, _, px.sdp so e1, py.sdp so e2, hc.1, hc.2, p.here (.bl _) so⟩
    · cases e
theorem o_ne (hr : Rm k X.A) : OpT X cl W (compareOp .NotEq) (g2 neO) := by
  refine OpT.pure (opr_or op_ne (op_neD hr.u)) fun Z H x y Q s tx ty c t px py so e hc p => ?_
  unfold neO at e
  split at e
  · cases e
    cases rep_i px
    cases rep_i py
    exact .inl (r_neI (p.here (.bl _) so))
  · cases e
    cases rep_s px
    cases rep_s py
    exact .inl (r_neS (p.here (.bl _) so))
  · cases e
    cases rep_b px
    cases rep_b py
    exact .inl (r_neB (p.here (.bl _) so))
  · split at e
    · rename_i e1 e2
      cases e
      exact .inr ⟨_, _, px.sdp so e1, py.sdp so e2, hc.1, hc.2, p.here (.bl _) so⟩
    · cases e
def T.isN : T → Bool
  | .non => true
  | _ => false
theorem isN_of {K : PySem.W.Frag} {Z : Addr → Prop} {s : S} {H : Hp} {v : V} {t : T} (r : Rep K cl Z s H v t) : decide (v = .non) = t.isN := by
  cases r with
  | ty k => cases k <;> rfl
  | _ => rfl
def isO : O2
  | _, x, .non => some (True, .bl x.isN)
  | _, _, _ => none
def isnO : O2
  | _, x, .non => some (True, .bl (!x.isN))
  | _, _, _ => none
theorem o_is : OpT X cl W (compareOp .Is) (g2 isO) := by
  refine OpT.pure op_isN fun Z H x y Q s tx ty c t px py so e hc p => ?_
  unfold isO at e
  split at e
  · cases e
    cases py
    refine ⟨rfl, ?_⟩
    rw [isN_of px]
    exact p.here (.bl _) so
  · cases e
theorem o_isn : OpT X cl W (compareOp .IsNot) (g2 isnO) := by
  refine OpT.pure op_notN fun Z H x y Q s tx ty c t px py so e hc p => ?_
  unfold isnO at e
  split at e
  · cases e
    cases py
    refine ⟨rfl, ?_⟩
    rw [isN_of px]
    exact p.here (.bl _) so
  · cases e
/-- in: a text in a text; data in a list of data -/
def occ (z w : Str) : Bool := !(Builtin.Str.occurrences z w 0 z.length 1).isEmpty
def inO : O2
  | _, .str w, .str z => some (True, .bl (occ z w))
  | s, x, y => match s.dat x, s.dat y with | some d, some (.list ds) => some (SeqAt.shaped d = true ∧ SeqAt.shaped (.list ds) = true, .bl (ds.any fun z => PyData.eqv z d)) | _, _ => none
def ninO : O2
  | _, .str w, .str z => some (True, .bl (!occ z w))
  | s, x, y => match s.dat x, s.dat y with | some d, some (.list ds) => some (SeqAt.shaped d = true ∧ SeqAt.shaped (.list ds) = true, .bl (!ds.any fun z => PyData.eqv z d)) | _, _ => none
end
end Mr

/-! The mirror layer: tests, displays, subscripts, calls. -/
namespace Mr
open PySem PySem.Spec PyProof.Rows L2 Tw

/-! ### truth -/
def truO (s : S) : T → Option (Prop × Bool)
  | .non => some (True, false)
  | .bl b => some (True, b)
  | .int i => some (True, i != 0)
  | .str z => some (z.length ≤ 1000000, (z.length : Int) != 0)
  | .lst xs => some (True, !xs.isEmpty)
  | .tup xs => some (True, !xs.isEmpty)
  | .dct xs => some (True, !xs.isEmpty)
  | .cell a => match s.on a with | some (.lst xs) => some (True, !xs.isEmpty) | some (.dct xs) => some (True, !xs.isEmpty) | _ => none
  | _ => none
theorem size6 : (1000000 : Nat) ≤ sizeLine := by decide
section
variable {K : PySem.W.Frag} {cl : CL} {Z : Addr → Prop} {s : S} {H : Hp}
theorem Reps.emp {vs : List V} {xs : List T} (r : Reps K cl Z s H vs xs) : vs.isEmpty = xs.isEmpty := by cases r <;> rfl
theorem RepK.emp {vs : List (Key × V)} {xs : List (Key × T)} (r : RepK K cl Z s H vs xs) : vs.isEmpty = xs.isEmpty := by cases r <;> rfl
theorem tru_of {v : V} {t : T} {c : Prop} {b : Bool} (so : Sto K cl Z s H) (r : Rep K cl Z s H v t) (e : truO s t = some (c, b)) (hc : c) : TruV K v H b := by
  cases t with
  | non => cases r; cases e; exact rfl
  | bl x => cases r; cases e; exact rfl
  | int x => cases r; cases e; exact rfl
  | str x => cases r; cases e; exact ⟨Nat.le_trans hc size6, rfl⟩
  | lst xs =>
    obtain ⟨a, vs, rfl, h, q⟩ := lst_of so r rfl
    cases e
    exact .inl ⟨vs, SqL.of h, by rw [q.emp]⟩
  | tup xs =>
    obtain ⟨a, vs, rfl, h, q⟩ := tup_of r
    cases e
    exact .inr (.inl ⟨vs, h, by rw [q.emp]⟩)
  | dct xs =>
    cases r with
    | dct h n q =>
      cases e
      exact .inr (.inr ⟨_, h, by rw [q.emp]⟩)
  | cell a =>
    cases r
    unfold truO at e
    dsimp only at e
    split at e
    · rename_i ho
      obtain ⟨vs, h1, h2⟩ := so.cells _ _ ho
      cases e
      exact .inl ⟨vs, SqL.of h1, by rw [h2.emp]⟩
    · rename_i ho
      obtain ⟨vs, h1, h2⟩ := so.cells _ _ ho
      cases e
      exact .inr (.inr ⟨vs, h1, by rw [h2.emp]⟩)
    · cases e
  | _ => cases e
end
def onB (s : S) (t : T) (Q : Bool → Prop) : Prop := match truO s t with | some (c, b) => c ∧ Q b | none => False
theorem onB.mon {s : S} {t : T} {Q Q' : Bool → Prop} (i : ∀ b, Q b → Q' b) (h : onB s t Q) : onB s t Q' := by
  unfold onB at h ⊢
  split at h
  · exact ⟨h.1, i _ h.2⟩
  · exact h
theorem onB.tru {K : PySem.W.Frag} {cl : CL} {Z : Addr → Prop} {s : S} {H : Hp} {v : V} {t : T} {Q : Bool → Prop} (so : Sto K cl Z s H) (r : Rep K cl Z s H v t) (h : onB s t Q) : ∃ b, TruV K v H b ∧ Q b := by
  unfold onB at h
  split at h
  · rename_i c b e
    exact ⟨b, tru_of so r e h.1, h.2⟩
  · exact h.elim
def kB (Q : Bool → S → Prop) : KT := fun t s => match t with | .bl b => Q b s | _ => False
theorem kB.mon {Q Q' : Bool → S → Prop} (i : ∀ b s, Q b s → Q' b s) {t : T} {s : S} (h : kB Q t s) : kB Q' t s := by
  unfold kB at h ⊢
  split at h
  · exact i _ _ h
  · exact h
section
variable {X : Cx} {cl : CL} {W : WX} {e a b c : Expr} {es : List Expr} {F Fa Fb Fc : FE} {G Ga Gb : FT} {A : FA} {pos p : Pos} {rest : List Expr}
/-! ### tests -/
def fTru (Fa : FE) : FT := fun τ s Q E => Fa τ s (fun x s1 => onB s1 x fun b => Q b s1) E
theorem jt_val (ha : JE X cl W a Fa) (he : ∀ whole, isTrue a X.env whole = (do let v ← whole; standAt a.pos; holding [v] (truthy v)) := by intro _; rfl) : JT X cl W a (fTru Fa) := by
  refine ⟨fun τ s Q Q' E E' hq he h => ha.mon _ _ _ _ _ _ (fun x s1 h1 => h1.mon fun b => hq b s1) he h, PT.imp (pt_truth ha.pe he) ?_⟩
  rintro σ H Q ⟨Z, τ, s, re, so, h⟩
  refine go ha.mon re so h (fun tx s1 x H1 p1 f1 re1 r1 so1 => ?_) fun _ _ q => q
  obtain ⟨b, t, q⟩ := p1.tru so1 r1
  exact ⟨b, t, q H1 f1 so1⟩
def fTest (F : FE) : FT := fun τ s Q E => F τ s (kB Q) E
theorem mon_test (m : MonE F) : MonT (fTest F) := fun τ s Q Q' E E' hq he h => m _ _ _ _ _ _ (fun t s1 h1 => kB.mon hq h1) he h
theorem test_post {K : PySem.W.Frag} {Z : Addr → Prop} {s s1 : S} {H : Hp} {QB : Bool → Hp → Prop} {t : T} (h : kB (postB K cl Z s H QB) t s1) : post K cl Z s H (fun x H' => ∃ k, x = .bl k ∧ QB k H') t s1 := by
  intro v H' f r so
  unfold kB at h
  split at h
  · cases r
    exact ⟨_, rfl, h H' f so⟩
  · exact h.elim
theorem jt_cmp {op : CmpOp} {g : S → T → T → KT → KX → Prop} (ho : OpT X cl W (compareOp op) g) (ha : JE X cl W a Fa) (hb : JE X cl W b Fb) (hm : behindInMarks op b = false) : JT X cl W (.Compare a [op] [b] pos) (fTest (f2 g Fa Fb)) := by
  refine ⟨mon_test (mon_2 ho.mon ha.mon hb.mon), ⟨fun pins sh σ H Q I h => ?_⟩⟩
  obtain ⟨Z, τ, s, re, so, h⟩ := h
  have h' := two ho.mon ha.mon hb.mon re so (mon_2 ho.mon ha.mon hb.mon _ _ _ _ _ _ (fun _ _ => test_post) (fun _ _ q => q) h)
  refine wpAny_isTrue_Compare1 (thn (ha.pe.run pins sh σ H _ I h') fun v s1 ⟨x, H1, I1, r1, q1⟩ => thn (hb.pe.run pins s1 σ H1 _ I1 q1) fun u s2 ⟨y, H2, I2, r2, q2⟩ =>
    thn (ho.opr pins s2 σ H2 x y v u _ I2 r1 r2 q2) fun c s3 ⟨z, H3, I3, r3, k, e, q3⟩ => ?_) hm
  subst e
  cases r3
  exact wpAny_truthy_bool ⟨H3, I3, q3⟩
/-- a op1 b op2 c -/
def f3 (g g' : S → T → T → KT → KX → Prop) (Fa Fb Fc : FE) : FE := fun τ s Q E => Fa τ s (fun x s1 => Fb τ s1 (fun y s2 => g s2 x y (kB fun k s3 => if k = true then Fc τ s3 (fun z s4 => g' s4 y z Q E) E else Q (.bl false) s3) E) E) E
theorem mon_3 {g g' : S → T → T → KT → KX → Prop} (mg : Mon2 g) (mg' : Mon2 g') (ma : MonE Fa) (mb : MonE Fb) (mc : MonE Fc) : MonE (f3 g g' Fa Fb Fc) := fun τ s Q Q' E E' hq he h =>
  ma _ _ _ _ _ _ (fun x s1 h1 => mb _ _ _ _ _ _ (fun y s2 h2 => mg _ _ _ _ _ _ _ (fun z s3 h3 => kB.mon (fun k s4 h4 => by
    cases k with
    | true => exact w_T (mc _ _ _ _ _ _ (fun z s5 h5 => mg' _ _ _ _ _ _ _ hq he h5) he (by rw [if_pos rfl] at h4; exact h4))
    | false => exact w_F (hq _ _ (by rw [if_neg Bool.false_ne_true] at h4; exact h4))) h3) he h2) he h1) he h
theorem chain_go {Z : Addr → Prop} {g g' : S → T → T → KT → KX → Prop} {σ : L2.St} {τ : Env} {H : Hp} {s : S} {Q : VK} (mg : Mon2 g) (mg' : Mon2 g') (ma : MonE Fa) (mb : MonE Fb) (mc : MonE Fc) (re : REnv X.K cl Z s H σ τ) (so : Sto X.K cl Z s H)
    (h : f3 g g' Fa Fb Fc τ s (post X.K cl Z s H Q) (postW X.K cl Z s H σ W)) :
    tT X.K cl W Fa σ H fun x H1 => tT X.K cl W Fb σ H1 fun y H2 => R2T X cl W σ g (fun z H3 => ∃ k, z = .bl k ∧ (if k = true then tT X.K cl W Fc σ H3 fun w H4 => R2T X cl W σ g' Q y w H4 else Q (.bl false) H3)) x y H2 := by
  refine go ma re so h (fun tx s1 x H1 p1 f1 re1 r1 so1 => ?_) fun _ _ q => q
  refine go mb re1 so1 p1 (fun ty s2 y H2 p2 f2 re2 r2 so2 => ?_) fun _ _ q => postW.up f1 q
  refine ⟨Z, s2, tx, ty, r1.fut f2, r2, so2, mg _ _ _ _ _ _ _ (fun t s3 h3 => ?_) (fun _ _ q => postW.up (f1.trans f2) q) p2⟩
  intro v H3 f3 r3 so3
  unfold kB at h3
  split at h3
  · cases r3
    rename_i k
    refine ⟨k, rfl, ?_⟩
    cases k with
    | false =>
      refine w_F ?_
      rw [if_neg Bool.false_ne_true] at h3
      exact h3 _ _ (f1.trans (f2.trans f3)) (.bl false) so3
    | true =>
      refine w_T ?_
      rw [if_pos rfl] at h3
      refine go mc (re2.fut f3) so3 h3 (fun tz s4 z H4 p4 f4 re4 r4 so4 => ?_) fun _ _ q => postW.up (f1.trans (f2.trans f3)) q
      exact ⟨Z, s4, ty, tz, (r2.fut f3).fut f4, r4, so4, mg' _ _ _ _ _ _ _ (fun _ _ q => post.up (f1.trans (f2.trans (f3.trans f4))) q) (fun _ _ q => postW.up (f1.trans (f2.trans (f3.trans f4))) q) p4⟩
  · exact h3.elim
theorem je_chain {op op' : CmpOp} {g g' : S → T → T → KT → KX → Prop} (ho : OpT X cl W (compareOp op) g) (ho' : OpT X cl W (compareOp op') g') (ha : JE X cl W a Fa) (hb : JE X cl W b Fb) (hc : JE X cl W c Fc)
    (hm : lastMarks [op, op'] [b, c] = false := by with_unfolding_all rfl) : JE X cl W (.Compare a [op, op'] [b, c] pos) (f3 g g' Fa Fb Fc) := by
  refine ⟨mon_3 ho.mon ho'.mon ha.mon hb.mon hc.mon, ⟨fun pins s σ H Q I h => ?_⟩⟩
  obtain ⟨Z, τ, st, re, so, h⟩ := h
  have h' := chain_go ho.mon ho'.mon ha.mon hb.mon hc.mon re so h
  refine Compare_chain (thn (ha.pe.run pins s σ H _ I h') fun v s1 ⟨x, H1, I1, r1, q1⟩ => chain_link (thn (hb.pe.run pins s1 σ H1 _ I1 q1) fun u s2 ⟨y, H2, I2, r2, q2⟩ =>
    thn (ho.opr pins s2 σ H2 x y v u _ I2 r1 r2 q2) fun d s3 ⟨z, H3, I3, r3, k, e, q3⟩ => ?_)) hm
  subst e
  cases r3
  refine wpAny_truthy_bool ?_
  cases k with
  | false => exact ite_ff ⟨.bl false, H3, I3, rfl, q3⟩
  | true => exact ite_tt (chain_last (thn (hc.pe.run pins s3 σ H3 _ I3 q3) fun w' s4 ⟨z', H4, I4, r4, q4⟩ => ho'.opr pins s4 σ H4 y z' u w' Q I4 r2 r4 q4))
theorem jt_chain {op op' : CmpOp} {g g' : S → T → T → KT → KX → Prop} (ho : OpT X cl W (compareOp op) g) (ho' : OpT X cl W (compareOp op') g') (ha : JE X cl W a Fa) (hb : JE X cl W b Fb) (hc : JE X cl W c Fc)
    (hm : lastMarks [op, op'] [b, c] = false := by with_unfolding_all rfl) : JT X cl W (.Compare a [op, op'] [b, c] pos) (fTest (f3 g g' Fa Fb Fc)) := by
  refine ⟨mon_test (mon_3 ho.mon ho'.mon ha.mon hb.mon hc.mon), ⟨fun pins s σ H Q I h => ?_⟩⟩
  obtain ⟨Z, τ, st, re, so, h⟩ := h
  have h' := chain_go ho.mon ho'.mon ha.mon hb.mon hc.mon re so (mon_3 ho.mon ho'.mon ha.mon hb.mon hc.mon _ _ _ _ _ _ (fun _ _ => test_post) (fun _ _ q => q) h)
  refine isTrue_chain (thn (ha.pe.run pins s σ H _ I h') fun v s1 ⟨x, H1, I1, r1, q1⟩ => test_link (thn (hb.pe.run pins s1 σ H1 _ I1 q1) fun u s2 ⟨y, H2, I2, r2, q2⟩ =>
    thn (ho.opr pins s2 σ H2 x y v u _ I2 r1 r2 q2) fun d s3 ⟨z, H3, I3, r3, k, e, q3⟩ => ?_)) hm
  subst e
  cases r3
  refine wpAny_truthy_bool ?_
  cases k with
  | false =>
    obtain ⟨k', e', q'⟩ := q3
    cases e'
    exact ite_ff ⟨H3, I3, q'⟩
  | true =>
    refine ite_tt (test_last (thn (hc.pe.run pins s3 σ H3 _ I3 q3) fun w' s4 ⟨z', H4, I4, r4, q4⟩ => thn (ho'.opr pins s4 σ H4 y z' u w' _ I4 r2 r4 q4) fun d' s5 ⟨z2, H5, I5, r5, k2, e2, q5⟩ => ?_))
    subst e2
    cases r5
    exact wpAny_truthy_bool ⟨H5, I5, q5⟩
/-! and, or, not -/
def fAnd (Ga Gb : FT) : FT := fun τ s Q E => Ga τ s (fun b s1 => if b = true then Gb τ s1 Q E else Q false s1) E
def fOr (Ga Gb : FT) : FT := fun τ s Q E => Ga τ s (fun b s1 => if b = true then Q true s1 else Gb τ s1 Q E) E
def fNot (Ga : FT) : FT := fun τ s Q E => Ga τ s (fun b s1 => Q (!b) s1) E
theorem w_ite {b : Bool} {A B A' B' : Prop} (h : if b = true then A else B) (i : A → A') (j : B → B') : if b = true then A' else B' := by
  cases b with
  | true => exact w_T (i (by rw [if_pos rfl] at h; exact h))
  | false => exact w_F (j (by rw [if_neg Bool.false_ne_true] at h; exact h))
theorem mon_and (ma : MonT Ga) (mb : MonT Gb) : MonT (fAnd Ga Gb) := fun τ s Q Q' E E' hq he h => ma _ _ _ _ _ _ (fun b s1 h1 => w_ite h1 (mb _ _ _ _ _ _ hq he) (hq _ _)) he h
theorem mon_or (ma : MonT Ga) (mb : MonT Gb) : MonT (fOr Ga Gb) := fun τ s Q Q' E E' hq he h => ma _ _ _ _ _ _ (fun b s1 h1 => w_ite h1 (hq _ _) (mb _ _ _ _ _ _ hq he)) he h
theorem jw_and1 (ha : JT X cl W a Ga) : JW X cl W (.BoolOp .And [a] pos) Ga := ⟨ha.mon, pw_and1 ha.pt⟩
theorem jw_or1 (ha : JT X cl W a Ga) : JW X cl W (.BoolOp .Or [a] pos) Ga := ⟨ha.mon, pw_or1 ha.pt⟩
theorem jw_and (ha : JT X cl W a Ga) (hb : JW X cl W (.BoolOp .And (b :: rest) pos) Gb) : JW X cl W (.BoolOp .And (a :: b :: rest) pos) (fAnd Ga Gb) := by
  refine ⟨mon_and ha.mon hb.mon, PW.imp (pw_and ha.pt hb.pw) ?_⟩
  rintro σ H Q ⟨Z, τ, s, re, so, h⟩
  refine goT ha.mon re so h (fun b s1 H1 p1 f1 re1 so1 => w_ite p1 (fun q => ?_) (fun q => q H1 f1 so1)) fun _ _ q => q
  exact goT hb.mon re1 so1 q (fun b s2 H2 p2 f2 re2 so2 => p2 H2 (f1.trans f2) so2) fun _ _ q => postW.up f1 q
theorem jw_or (ha : JT X cl W a Ga) (hb : JW X cl W (.BoolOp .Or (b :: rest) pos) Gb) : JW X cl W (.BoolOp .Or (a :: b :: rest) pos) (fOr Ga Gb) := by
  refine ⟨mon_or ha.mon hb.mon, PW.imp (pw_or ha.pt hb.pw) ?_⟩
  rintro σ H Q ⟨Z, τ, s, re, so, h⟩
  refine goT ha.mon re so h (fun b s1 H1 p1 f1 re1 so1 => w_ite p1 (fun q => q H1 f1 so1) (fun q => ?_)) fun _ _ q => q
  exact goT hb.mon re1 so1 q (fun b s2 H2 p2 f2 re2 so2 => p2 H2 (f1.trans f2) so2) fun _ _ q => postW.up f1 q
theorem JW.jt (h : JW X cl W e G) : JT X cl W e G := ⟨h.mon, h.pw.pt⟩
theorem jt_not (ha : JT X cl W a Ga) : JT X cl W (.UnaryOp .Not a pos) (fNot Ga) := by
  refine ⟨fun τ s Q Q' E E' hq he h => ha.mon _ _ _ _ _ _ (fun b s1 h1 => hq _ _ h1) he h, PT.imp (pt_not ha.pt) ?_⟩
  rintro σ H Q ⟨Z, τ, s, re, so, h⟩
  exact goT ha.mon re so h (fun b s1 H1 p1 f1 re1 so1 => p1 H1 f1 so1) fun _ _ q => q
/-! .. as values -/
def fAndV (Fa Fb : FE) : FE := fun τ s Q E => Fa τ s (fun x s1 => onB s1 x fun b => if b = true then Fb τ s1 Q E else Q x s1) E
def fOrV (Fa Fb : FE) : FE := fun τ s Q E => Fa τ s (fun x s1 => onB s1 x fun b => if b = true then Q x s1 else Fb τ s1 Q E) E
def fNotV (Fa : FE) : FE := fun τ s Q E => Fa τ s (fun x s1 => onB s1 x fun b => Q (.bl (!b)) s1) E
theorem je_one {op : BoolOp} (ha : JE X cl W a Fa) : JE X cl W (.BoolOp op [a] pos) Fa := ⟨ha.mon, pe_one ha.pe⟩
theorem je_and (ha : JE X cl W a Fa) (hb : JE X cl W (.BoolOp .And (b :: rest) pos) Fb) : JE X cl W (.BoolOp .And (a :: b :: rest) pos) (fAndV Fa Fb) := by
  refine ⟨fun τ s Q Q' E E' hq he h => ha.mon _ _ _ _ _ _ (fun x s1 h1 => h1.mon fun b h2 => w_ite h2 (hb.mon _ _ _ _ _ _ hq he) (hq _ _)) he h, PE.imp (pe_andT ha.pe hb.pe) ?_⟩
  rintro σ H Q ⟨Z, τ, s, re, so, h⟩
  refine go ha.mon re so h (fun tx s1 x H1 p1 f1 re1 r1 so1 => ?_) fun _ _ q => q
  obtain ⟨b, t, q⟩ := p1.tru so1 r1
  refine ⟨b, t, w_ite q (fun q => ?_) fun q => q _ _ f1 r1 so1⟩
  exact go hb.mon re1 so1 q (fun ty s2 y H2 p2 f2 re2 r2 so2 => p2 _ _ (f1.trans f2) r2 so2) fun _ _ q => postW.up f1 q
theorem je_or (ha : JE X cl W a Fa) (hb : JE X cl W (.BoolOp .Or (b :: rest) pos) Fb) : JE X cl W (.BoolOp .Or (a :: b :: rest) pos) (fOrV Fa Fb) := by
  refine ⟨fun τ s Q Q' E E' hq he h => ha.mon _ _ _ _ _ _ (fun x s1 h1 => h1.mon fun b h2 => w_ite h2 (hq _ _) (hb.mon _ _ _ _ _ _ hq he)) he h, PE.imp (pe_orT ha.pe hb.pe) ?_⟩
  rintro σ H Q ⟨Z, τ, s, re, so, h⟩
  refine go ha.mon re so h (fun tx s1 x H1 p1 f1 re1 r1 so1 => ?_) fun _ _ q => q
  obtain ⟨b, t, q⟩ := p1.tru so1 r1
  refine ⟨b, t, w_ite q (fun q => q _ _ f1 r1 so1) fun q => ?_⟩
  exact go hb.mon re1 so1 q (fun ty s2 y H2 p2 f2 re2 r2 so2 => p2 _ _ (f1.trans f2) r2 so2) fun _ _ q => postW.up f1 q
theorem je_not (ha : JE X cl W a Fa) : JE X cl W (.UnaryOp .Not a pos) (fNotV Fa) := by
  refine ⟨fun τ s Q Q' E E' hq he h => ha.mon _ _ _ _ _ _ (fun x s1 h1 => h1.mon fun b h2 => hq _ _ h2) he h, PE.imp (pe_notT ha.pe) ?_⟩
  rintro σ H Q ⟨Z, τ, s, re, so, h⟩
  refine go ha.mon re so h (fun tx s1 x H1 p1 f1 re1 r1 so1 => ?_) fun _ _ q => q
  obtain ⟨b, t, q⟩ := p1.tru so1 r1
  exact ⟨b, t, q _ _ f1 (.bl _) so1⟩
def fIf (G : FT) (Fa Fb : FE) : FE := fun τ s Q E => G τ s (fun b s1 => if b = true then Fa τ s1 Q E else Fb τ s1 Q E) E
theorem je_if (hc : JT X cl W c G) (ha : JE X cl W a Fa) (hb : JE X cl W b Fb) : JE X cl W (.IfExp c a b pos) (fIf G Fa Fb) := by
  refine ⟨fun τ s Q Q' E E' hq he h => hc.mon _ _ _ _ _ _ (fun b s1 h1 => w_ite h1 (ha.mon _ _ _ _ _ _ hq he) (hb.mon _ _ _ _ _ _ hq he)) he h, PE.imp (pe_ifExp hc.pt ha.pe hb.pe) ?_⟩
  rintro σ H Q ⟨Z, τ, s, re, so, h⟩
  refine goT hc.mon re so h (fun b s1 H1 p1 f1 re1 so1 => w_ite p1 (fun q => ?_) (fun q => ?_)) fun _ _ q => q
  · exact go ha.mon re1 so1 q (fun ty s2 y H2 p2 f2 re2 r2 so2 => p2 _ _ (f1.trans f2) r2 so2) fun _ _ q => postW.up f1 q
  · exact go hb.mon re1 so1 q (fun ty s2 y H2 p2 f2 re2 r2 so2 => p2 _ _ (f1.trans f2) r2 so2) fun _ _ q => postW.up f1 q
/-! ### one operand -/
abbrev O1 := S → T → Option (Prop × T)
def onO (s : S) (o : Option (Prop × T)) (Q : KT) : Prop := match o with | some (c, t) => c ∧ Q t s | none => False
theorem onO.mon {s : S} {o : Option (Prop × T)} {Q Q' : KT} (i : ∀ t s, Q t s → Q' t s) (h : onO s o Q) : onO s o Q' := by
  unfold onO at h ⊢
  split at h
  · exact ⟨h.1, i _ _ h.2⟩
  · exact h
def fUn (o : O1) (Fa : FE) : FE := fun τ s Q E => Fa τ s (fun x s1 => onO s1 (o s1 x) Q) E
theorem mon_un {o : O1} (ma : MonE Fa) : MonE (fUn o Fa) := fun τ s Q Q' E E' hq he h => ma _ _ _ _ _ _ (fun x s1 h1 => h1.mon hq) he h
theorem je_un1 {t : TE → TE} {o : O1} {r : V → Hp → VK → Prop} (ht : ∀ te, t te = fun σ H Q => te σ H fun x H1 => r x H1 Q) (h : PE X e (t (tT X.K cl W Fa))) (ma : MonE Fa)
    (i : ∀ (Z : Addr → Prop) (H : Hp) (x : V) (Q : VK) (s : S) (tx : T) (c : Prop) (t : T), Rep X.K cl Z s H x tx → Sto X.K cl Z s H → o s tx = some (c, t) → c → post X.K cl Z s H Q t s → r x H Q) : JE X cl W e (fUn o Fa) := by
  rw [ht] at h
  refine ⟨mon_un ma, PE.imp h ?_⟩
  rintro σ H Q ⟨Z, τ, s, re, so, h⟩
  refine go ma re so h (fun tx s1 x H1 p1 f1 re1 r1 so1 => ?_) fun _ _ q => q
  unfold onO at p1
  split at p1
  · rename_i c t e1
    exact i Z H1 x Q s1 tx c t r1 so1 e1 p1.1 (post.up f1 p1.2)
  · exact p1.elim
def negO : O1
  | _, .int i => some (True, .int (-i))
  | _, _ => none
theorem je_neg (ha : JE X cl W a Fa) : JE X cl W (.UnaryOp .USub a pos) (fUn negO Fa) := by
  refine je_un1 (t := tUn _) (r := rU fun i => .int (-i)) (fun te => rfl) (pe_un un_neg ha.pe) ha.mon fun Z H x Q s tx c t px so e hc p => ?_
  unfold negO at e
  split at e
  · cases e
    cases rep_i px
    exact ⟨_, rfl, p.here (.int _) so⟩
  · cases e
/-! ### argument lists, displays -/
def fNil : FA := fun _ s Q _ => Q [] s
def fCons (Fa : FE) (A : FA) : FA := fun τ s Q E => Fa τ s (fun x s1 => A τ s1 (fun xs s2 => Q (x :: xs) s2) E) E
theorem ja_nil : JA X cl W [] fNil := by
  refine ⟨fun τ s Q Q' E E' hq he h => hq _ _ h, PA.imp pa_nil ?_⟩
  rintro σ H Q ⟨Z, τ, s, re, so, h⟩
  exact h [] H (Fut.refl _ _) .nil so
theorem ja_cons (ha : JE X cl W e Fa) (hr : JA X cl W es A) (hs : starEach (e :: es) X.env = (false, eval e X.env) :: starEach es X.env := by rfl) : JA X cl W (e :: es) (fCons Fa A) := by
  refine ⟨fun τ s Q Q' E E' hq he h => ha.mon _ _ _ _ _ _ (fun x s1 h1 => hr.mon _ _ _ _ _ _ (fun xs s2 h2 => hq _ _ h2) he h1) he h, PA.imp (pa_cons ha.pe hr.pa hs) ?_⟩
  rintro σ H Q ⟨Z, τ, s, re, so, h⟩
  refine go ha.mon re so h (fun tx s1 x H1 p1 f1 re1 r1 so1 => ?_) fun _ _ q => q
  exact goA hr.mon re1 so1 p1 (fun ts s2 vs H2 p2 f2 re2 r2 so2 => p2 _ _ (f1.trans f2) (.cons (r1.fut f2) r2) so2) fun _ _ q => postW.up f1 q
def fLst (A : FA) : FE := fun τ s Q E => A τ s (fun ts s1 => ts.length ≤ 1000 ∧ Q (.lst ts) s1) E
def fTup (A : FA) : FE := fun τ s Q E => A τ s (fun ts s1 => ts.length ≤ 1000 ∧ Q (.tup ts) s1) E
def fLstC (A : FA) : FE := fun τ s Q E => A τ s (fun ts s1 => ts.length ≤ 1000 ∧ ∀ a, s1.on a = none → Q (.cell a) (s1.put a (.lst ts))) E
theorem je_lst (ha : JA X cl W es A) : JE X cl W (.List es pos) (fLst A) := by
  refine ⟨fun τ s Q Q' E E' hq he h => ha.mon _ _ _ _ _ _ (fun x s1 h1 => ⟨h1.1, hq _ _ h1.2⟩) he h, PE.imp (pe_lst ha.pa) ?_⟩
  rintro σ H Q ⟨Z, τ, s, re, so, h⟩
  refine goA ha.mon re so h (fun ts s1 vs H1 p1 f1 re1 r1 so1 => ⟨?_, post.newL (post.up f1 p1.2) so1 r1⟩) fun _ _ q => q
  rw [r1.length]
  exact Nat.le_trans p1.1 (by decide)
theorem je_tup {x1} (ha : JA X cl W es A) : JE X cl W (.Tuple es x1 pos) (fTup A) := by
  refine ⟨fun τ s Q Q' E E' hq he h => ha.mon _ _ _ _ _ _ (fun x s1 h1 => ⟨h1.1, hq _ _ h1.2⟩) he h, PE.imp (pe_tup ha.pa) ?_⟩
  rintro σ H Q ⟨Z, τ, s, re, so, h⟩
  refine goA ha.mon re so h (fun ts s1 vs H1 p1 f1 re1 r1 so1 => ⟨?_, post.newT (post.up f1 p1.2) so1 r1⟩) fun _ _ q => q
  rw [r1.length]
  exact Nat.le_trans p1.1 (by decide)
theorem je_lstC (ha : JA X cl W es A) : JE X cl W (.List es pos) (fLstC A) := by
  refine ⟨fun τ s Q Q' E E' hq he h => ha.mon _ _ _ _ _ _ (fun x s1 h1 => ⟨h1.1, fun a z => hq _ _ (h1.2 a z)⟩) he h, PE.imp (pe_lst ha.pa) ?_⟩
  rintro σ H Q ⟨Z, τ, s, re, so, h⟩
  refine goA ha.mon re so h (fun ts s1 vs H1 p1 f1 re1 r1 so1 => ⟨?_, fun a ha => ?_⟩) fun _ _ q => q
  · rw [r1.length]
    exact Nat.le_trans p1.1 (by decide)
  · exact p1.2 a (on_none so1 ha) _ _ (f1.trans (Fut.newC ha)) (.cell a) (so1.newC ha ⟨vs, upd_same, r1.fut (Fut.newC ha)⟩)
/-! ### subscripts -/
def ixO : O2
  | _, .str z, .int i => match atI z.cps.toList i with | some c => some (z.length ≤ 1000000, .str ⟨#[c]⟩) | none => none
  | s, x, .int i => match s.seq? x with | some (_, xs) => (match atI xs i with | some t => some (True, t) | none => none) | none => none
  | _, _, _ => none
theorem ixN_len {α β : Type} {xs : List α} {ys : List β} (h : xs.length = ys.length) (i : Int) : ixN xs.length i = ixN ys.length i := by rw [h]
theorem Reps.atI {K : PySem.W.Frag} {Z : Addr → Prop} {s : S} {H : Hp} {vs : List V} {ts : List T} {i : Int} {t : T} (r : Reps K cl Z s H vs ts) (e : L2.atI ts i = some t) : ∃ v, L2.atI vs i = some v ∧ Rep K cl Z s H v t := by
  unfold L2.atI at e ⊢
  rw [r.length]
  cases q : ixN ts.length i with
  | none => rw [q] at e; cases e
  | some j =>
    rw [q] at e
    exact r.get j e
theorem je_ix (ha : JE X cl W a Fa) (hb : JE X cl W b Fb) (hs : PlainIx b) : JE X cl W (.Subscript a b pos) (f2 (g2 ixO) Fa Fb) := by
  refine ⟨mon_2 (mon_g2 _) ha.mon hb.mon, PE.imp (pe_ix ix_seq ha.pe hb.pe hs) ?_⟩
  rintro σ H Q ⟨Z, τ, s, re, so, h⟩
  refine go ha.mon re so h (fun tx s1 x H1 p1 f1 re1 r1 so1 => ?_) fun _ _ q => q
  refine go hb.mon re1 so1 p1 (fun ty s2 y H2 p2 f2 re2 r2 so2 => ?_) fun _ _ q => postW.up f1 q
  have r1' := r1.fut f2
  unfold g2 at p2
  split at p2
  · rename_i c t e
    have p := post.up (f1.trans f2) p2.2
    unfold ixO at e
    split at e
    · cases rep_s r1'
      cases rep_i r2
      split at e
      · rename_i c' e'
        cases e
        exact .inr (.inr ⟨_, _, _, rfl, rfl, Nat.le_trans p2.1 size6, e', p.here (.str _) so2⟩)
      · cases e
    · cases rep_i r2
      split at e
      · rename_i b xs e1
        split at e
        · rename_i t' e2
          cases e
          obtain ⟨a', vs, rfl, hq, rs⟩ := seq_sq so2 r1' e1
          obtain ⟨v, e3, rv⟩ := rs.atI e2
          rcases hq with hq | hq
          · exact .inl ⟨a', vs, _, v, rfl, rfl, hq, e3, p.here rv so2⟩
          · exact .inr (.inl ⟨a', vs, _, v, rfl, rfl, hq, e3, p.here rv so2⟩)
        · cases e
      · cases e
    · cases e
  · exact p2.elim
end
end Mr

/-! The mirror layer: built-in calls, attributes, defs, classes. -/
namespace Mr
open PySem PySem.Spec PyProof.Rows L2 Tw

/-! ### built-in functions of values that change nothing -/
abbrev ON := S → List T → Option (Prop × T)
structure BC (X : Cx) (cl : CL) (f : Value) (o : ON) : Prop where
  ex : ∃ r, CallR X f r ∧ ∀ (Z : Addr → Prop) (H : Hp) (xs : List V) (Q : VK) (s : S) (ts : List T) (c : Prop) (t : T), Reps X.K cl Z s H xs ts → Sto X.K cl Z s H → o s ts = some (c, t) → c → post X.K cl Z s H Q t s → r xs H Q
def fCB (o : ON) (A : FA) : FE := fun τ s Q E => A τ s (fun ts s1 => onO s1 (o s1 ts) Q) E
section
variable {X : Cx} {cl : CL} {W : WX} {e a b c : Expr} {es : List Expr} {F Fa Fb Fc : FE} {G Ga Gb : FT} {A : FA} {pos p apos : Pos} {rest : List Expr} {o : ON} {id : String} {x : Str} {k j : Nat}
theorem cb_imp {r : List V → Hp → VK → Prop} (ma : MonA A) (i : ∀ (Z : Addr → Prop) (H : Hp) (xs : List V) (Q : VK) (s : S) (ts : List T) (c : Prop) (t : T), Reps X.K cl Z s H xs ts → Sto X.K cl Z s H → o s ts = some (c, t) → c → post X.K cl Z s H Q t s → r xs H Q)
    (h : PE X e (tCB r (tTA X.K cl W A))) : JE X cl W e (fCB o A) := by
  refine ⟨fun τ s Q Q' E E' hq he h => ma _ _ _ _ _ _ (fun ts s1 h1 => h1.mon hq) he h, PE.imp h ?_⟩
  rintro σ H Q ⟨Z, τ, s, re, so, h⟩
  refine goA ma re so h (fun ts s1 vs H1 p1 f1 re1 r1 so1 => ?_) fun _ _ q => q
  unfold onO at p1
  split at p1
  · rename_i c t e1
    exact i Z H1 vs Q s1 ts c t r1 so1 e1 p1.1 (post.up f1 p1.2)
  · exact p1.elim
theorem je_b (hc : BC X cl (.builtin id) o) (hg : Gl X x) (hm : X.mg x = none) (hv : bootBuiltins x = some (.builtin id)) (ha : JA X cl W (e :: es) A) (hn : x ≠ "__name__" := by decide) (hdb : (x == ("__debug__" : Str)) = false := by decide)
    (he : starEach (e :: es) X.env = (false, eval e X.env) :: starEach es X.env := by rfl) (hpl : (backTo pos (starEach es X.env)).any (·.1) = false := by rfl) : JE X cl W (.Call (.Name x p) (e :: es) [] pos) (fCB o A) := by
  obtain ⟨r, h1, h2⟩ := hc.ex
  exact cb_imp ha.mon h2 (pe_callB h1 hg hm hv ha.pa hn hdb he hpl)
theorem je_bt {n : String} (hc : BC X cl (.type n) o) (hg : Gl X x) (hm : X.mg x = none) (hv : bootBuiltins x = some (.type n)) (ha : JA X cl W (e :: es) A) (hn : x ≠ "__name__" := by decide) (hdb : (x == ("__debug__" : Str)) = false := by decide)
    (he : starEach (e :: es) X.env = (false, eval e X.env) :: starEach es X.env := by rfl) (hpl : (backTo pos (starEach es X.env)).any (·.1) = false := by rfl) : JE X cl W (.Call (.Name x p) (e :: es) [] pos) (fCB o A) := by
  obtain ⟨r, h1, h2⟩ := hc.ex
  exact cb_imp ha.mon h2 (pe_callTy h1 hg hm hv ha.pa hn hdb he hpl)
theorem reps1 {K : PySem.W.Frag} {Z : Addr → Prop} {s : S} {H : Hp} {vs : List V} {t : T} (r : Reps K cl Z s H vs [t]) : ∃ v, vs = [v] ∧ Rep K cl Z s H v t := by
  cases r with
  | cons h q => cases q; exact ⟨_, rfl, h⟩
theorem reps2 {K : PySem.W.Frag} {Z : Addr → Prop} {s : S} {H : Hp} {vs : List V} {t u : T} (r : Reps K cl Z s H vs [t, u]) : ∃ v w, vs = [v, w] ∧ Rep K cl Z s H v t ∧ Rep K cl Z s H w u := by
  cases r with
  | cons h q =>
    obtain ⟨w, rfl, q2⟩ := reps1 q
    exact ⟨_, w, rfl, h, q2⟩
def lenO : ON
  | _, [.str z] => some (z.length ≤ 1000000, .int z.length)
  | s, [x] => match s.seq? x with | some (_, xs) => some (True, .int xs.length) | none => none
  | _, _ => none
theorem c_len : BC X cl (.builtin "len") lenO := by
  refine ⟨_, call_or Tw.c_len Tw.c_lenS, fun Z H xs Q s ts c t r so e hc p => ?_⟩
  unfold lenO at e
  split at e
  · cases e
    obtain ⟨v, rfl, rv⟩ := reps1 r
    cases rep_s rv
    exact .inr ⟨_, rfl, Nat.le_trans hc size6, p.here (.int _) so⟩
  · obtain ⟨v, rfl, rv⟩ := reps1 r
    split at e
    · rename_i e1
      cases e
      obtain ⟨a, vs, rfl, hq, rs⟩ := seq_sq so rv e1
      exact .inl ⟨a, vs, rfl, hq, p.here (by rw [rs.length]; exact .int _) so⟩
    · cases e
  · cases e
def absO : ON
  | _, [.int i] => some (True, .int (if i < 0 then -i else i))
  | _, _ => none
theorem c_abs : BC X cl (.builtin "abs") absO := by
  refine ⟨_, call_abs, fun Z H xs Q s ts c t r so e hc p => ?_⟩
  unfold absO at e
  split at e
  · cases e
    obtain ⟨v, rfl, rv⟩ := reps1 r
    cases rep_i rv
    exact ⟨_, rfl, p.here (.int _) so⟩
  · cases e
def intO1 : ON
  | _, [.int i] => some (True, .int i)
  | _, [.bl b] => some (True, .int (if b then 1 else 0))
  | _, _ => none
theorem c_int : BC X cl (.type "int") intO1 := by
  refine ⟨_, call_int1, fun Z H xs Q s ts c t r so e hc p => ?_⟩
  unfold intO1 at e
  split at e
  · cases e
    obtain ⟨v, rfl, rv⟩ := reps1 r
    cases rep_i rv
    exact .inl ⟨_, rfl, p.here (.int _) so⟩
  · cases e
    obtain ⟨v, rfl, rv⟩ := reps1 r
    cases rep_b rv
    exact .inr ⟨_, rfl, p.here (.int _) so⟩
  · cases e
def strO : ON
  | _, [.int i] => some (i.natAbs < 2 ^ 128, .str (Str.ofString (toString i)))
  | _, [.str z] => some (True, .str z)
  | _, _ => none
theorem c_str : BC X cl (.type "str") strO := by
  refine ⟨_, call_or L2.call_str_int SkE.call_str_str, fun Z H xs Q s ts c t r so e hc p => ?_⟩
  unfold strO at e
  split at e
  · cases e
    obtain ⟨v, rfl, rv⟩ := reps1 r
    cases rep_i rv
    exact .inl ⟨_, rfl, log_small hc, p.here (.str _) so⟩
  · cases e
    obtain ⟨v, rfl, rv⟩ := reps1 r
    cases rep_s rv
    exact .inr ⟨_, rfl, p.here (.str _) so⟩
  · cases e
def listO : ON
  | s, [x] => match s.seq? x with | some (_, xs) => some (True, .lst xs) | none => none
  | _, _ => none
theorem c_list : BC X cl (.type "list") listO := by
  refine ⟨_, call_list_of, fun Z H xs Q s ts c t r so e hc p => ?_⟩
  unfold listO at e
  split at e
  · obtain ⟨v, rfl, rv⟩ := reps1 r
    split at e
    · rename_i e1
      cases e
      obtain ⟨a, vs, rfl, hq, rs⟩ := seq_sq so rv e1
      exact ⟨a, vs, rfl, hq, p.newL so rs⟩
    · cases e
  · cases e
theorem seq_tup {s : S} {x : T} {xs : List T} (e : s.seq? x = some (false, xs)) : x = .tup xs := by
  cases x with
  | tup zs => cases e; rfl
  | lst zs => cases e
  | cell q =>
    unfold S.seq? at e
    dsimp only at e
    split at e <;> cases e
  | _ => cases e
def tupO : ON
  | s, [x] => match s.seq? x with | some (_, xs) => some (True, .tup xs) | none => none
  | _, _ => none
theorem c_tup : BC X cl (.type "tuple") tupO := by
  refine ⟨_, call_tuple_of, fun Z H xs Q s ts c t r so e hc p => ?_⟩
  unfold tupO at e
  split at e
  · obtain ⟨v, rfl, rv⟩ := reps1 r
    split at e
    · rename_i b ys e1
      cases e
      obtain ⟨a, vs, rfl, hq, rs⟩ := seq_of so rv e1
      cases b with
      | true =>
        rw [if_pos rfl] at hq
        exact ⟨a, vs, rfl, .inl ⟨SqL.of hq, p.newT so rs⟩⟩
      | false =>
        rw [if_neg Bool.false_ne_true] at hq
        refine ⟨a, vs, rfl, .inr ⟨hq, p.here ?_ so⟩⟩
        rw [← seq_tup e1]
        exact rv
    · cases e
  · cases e
def reprO : ON
  | s, [x] => match s.dat x with | some d => some (d.showable = true ∧ d.depth ≤ 60 ∧ d.shown.length ≤ 1000000, .str d.shown) | none => none
  | _, _ => none
theorem c_repr (hr : Rm j X.A) : BC X cl (.builtin "repr") reprO := by
  refine ⟨_, call_repr hr, fun Z H xs Q s ts c t r so e hc p => ?_⟩
  unfold reprO at e
  split at e
  · obtain ⟨v, rfl, rv⟩ := reps1 r
    split at e
    · rename_i d e1
      cases e
      exact ⟨v, d, rfl, rv.sdp so e1, hc.1, hc.2.1, Nat.le_trans hc.2.2 size6, p.here (.str _) so⟩
    · cases e
  · cases e
def bools : List T → Option (List Bool)
  | [] => some []
  | .bl b :: r => (bools r).map (b :: ·)
  | _ => none
theorem Reps.bools {K : PySem.W.Frag} {Z : Addr → Prop} {s : S} {H : Hp} : ∀ {vs : List V} {ts : List T} {bs : List Bool}, Reps K cl Z s H vs ts → Mr.bools ts = some bs → vs = bs.map V.bl
  | _, [], _, r, e => by cases r; cases e; rfl
  | _, t :: ts, _, r, e => by
    cases r with
    | cons h q =>
      unfold Mr.bools at e
      split at e
      · rename_i e0
        cases e0
      · rename_i b r' e0
        injection e0 with e1 e2
        subst e1 e2
        obtain ⟨l, e3, rfl⟩ := Option.map_eq_some_iff.mp e
        cases rep_b h
        rw [List.map_cons, q.bools e3]
      · cases e
theorem bools_map (bs : List Bool) : bools (bs.map T.bl) = some bs := by
  induction bs with
  | nil => rfl
  | cons b r ih => rw [List.map_cons]; unfold bools; rw [ih]; rfl
def allO : ON
  | s, [x] => match s.lst? x with | some xs => (match bools xs with | some bs => some (True, .bl (bs.all fun b => b)) | none => none) | none => none
  | _, _ => none
def anyO : ON
  | s, [x] => match s.lst? x with | some xs => (match bools xs with | some bs => some (True, .bl (bs.any fun b => b)) | none => none) | none => none
  | _, _ => none
theorem c_all (hcm : X.calm = true) : BC X cl (.builtin "all") allO := by
  refine ⟨_, cr_all hcm, fun Z H xs Q s ts c t r so e hc p => ?_⟩
  unfold allO at e
  split at e
  · obtain ⟨v, rfl, rv⟩ := reps1 r
    split at e
    · rename_i e1
      split at e
      · rename_i bs e2
        cases e
        obtain ⟨a, vs, rfl, hq, rs⟩ := lst_of so rv e1
        exact ⟨a, bs, rfl, SqL.of (by rw [hq, rs.bools e2]), p.here (.bl _) so⟩
      · cases e
    · cases e
  · cases e
theorem c_any (hcm : X.calm = true) : BC X cl (.builtin "any") anyO := by
  refine ⟨_, cr_any hcm, fun Z H xs Q s ts c t r so e hc p => ?_⟩
  unfold anyO at e
  split at e
  · obtain ⟨v, rfl, rv⟩ := reps1 r
    split at e
    · rename_i e1
      split at e
      · rename_i bs e2
        cases e
        obtain ⟨a, vs, rfl, hq, rs⟩ := lst_of so rv e1
        exact ⟨a, bs, rfl, SqL.of (by rw [hq, rs.bools e2]), p.here (.bl _) so⟩
      · cases e
    · cases e
  · cases e
/-! isinstance -/
/-- what a value is; whether it is an error -/
def S.ty? (s : S) : T → Option (Ty × Bool)
  | .non => some (.non, false) | .bl _ => some (.bool, false) | .int _ => some (.int, false) | .str _ => some (.str, false) | .lst _ => some (.list, false) | .tup _ => some (.tup, false) | .dct _ => some (.dict, false)
  | .obj c _ => some (.own c, false)
  | .err c _ => some (.own c, true)
  | .cell a => match s.on a with | some (.lst _) => some (.list, false) | some (.obj c _) => some (.own c, false) | some (.dct _) => some (.dict, false) | none => none
  | _ => none
/-- what is known of own classes -/
structure Wc (K : PySem.W.Frag) (cl : CL) (kk : Ty → Ty → Option Bool) (ins exc : List Nat) : Prop where
  kit : ∀ a b r, kk a b = some r → PySem.W.kitOne K (a.u cl) (b.u cl) = some r
  hi : ∀ c ∈ ins, C8.InsC K (cl c)
  he : ∀ c ∈ exc, ExcC K (cl c)
def okC (ins exc : List Nat) : Ty → Bool → Prop
  | .own c, true => c ∈ exc
  | .own c, false => c ∈ ins
  | _, _ => True
theorem ty_of {K : PySem.W.Frag} {kk : Ty → Ty → Option Bool} {ins exc : List Nat} {Z : Addr → Prop} {s : S} {H : Hp} {v : V} {t : T} {y : Ty} {g : Bool} (w : Wc K cl kk ins exc) (so : Sto K cl Z s H) (r : Rep K cl Z s H v t) (e : s.ty? t = some (y, g)) (h : okC ins exc y g) : TyE K H v (y.u cl) := by
  cases t with
  | non => cases r; cases e; exact .inl (.base .non)
  | bl b => cases r; cases e; exact .inl (.base (.bl b))
  | int b => cases r; cases e; exact .inl (.base (.int b))
  | str b => cases r; cases e; exact .inl (.base (.str b))
  | lst xs => obtain ⟨a, vs, rfl, hq, rs⟩ := lst_of so r rfl; cases e; exact .inl (.base (.lst hq))
  | tup xs =>
    cases e
    cases r with
    | tup h _ _ => exact .inl (.base (.tup h))
    | tupK a b _ _ _ _ => exact .inl (.kTuple a b)
  | dct xs =>
    cases e
    cases r with
    | dct h _ _ => exact .inl (.base (.dK h))
  | obj c fs =>
    cases e
    have i := w.hi c h
    cases r with
    | obj ho _ _ => exact .inl (.base (.ins ho i.cl i.ha i.hn i.htk i.hm))
  | err c fs =>
    cases e
    have i := w.he c h
    cases r with
    | err h1 _ h2 _ _ => exact .inr ⟨_, _, _, _, rfl, rfl, i, h1, h2⟩
  | cell a =>
    cases r
    unfold S.ty? at e
    dsimp only at e
    split at e
    · rename_i ho
      cases e
      obtain ⟨vs, h1, h2⟩ := so.cells _ _ ho
      exact .inl (.base (.lst h1))
    · rename_i c fs ho
      cases e
      obtain ⟨dx, vs, h1, h2⟩ := so.cells _ _ ho
      have i := w.hi c h
      exact .inl (.base (.ins h1 i.cl i.ha i.hn i.htk i.hm))
    · rename_i ho
      cases e
      obtain ⟨vs, h1, h2⟩ := so.cells _ _ ho
      exact .inl (.base (.dK h1))
    · cases e
  | _ => cases e
def isiO (kk : Ty → Ty → Option Bool) (ins exc : List Nat) : ON
  | s, [x, .ty b] => match s.ty? x with | some (a, g) => (match kk a b with | some r => some (okC ins exc a g, .bl r) | none => none) | none => none
  | _, _ => none
theorem c_isi {kk : Ty → Ty → Option Bool} {ins exc : List Nat} (w : Wc X.K cl kk ins exc) : BC X cl (.builtin "isinstance") (isiO kk ins exc) := by
  refine ⟨_, call_isX, fun Z H xs Q s ts c t r so e hc p => ?_⟩
  unfold isiO at e
  split at e
  · obtain ⟨v, u, rfl, rv, ru⟩ := reps2 r
    cases ru
    split at e
    · rename_i a g e1
      split at e
      · rename_i q e2
        cases e
        exact r_isX (Ty.cls cl _) (ty_of w so rv e1 hc) (w.kit _ _ _ e2) (p.here (.bl _) so)
      · cases e
    · cases e
  · cases e
/-! ### attributes -/
def S.obj? (s : S) : T → Option (Nat × List (Str × T))
  | .obj c fs => some (c, fs)
  | .cell a => match s.on a with | some (.obj c fs) => some (c, fs) | _ => none
  | _ => none
theorem obj_of {K : PySem.W.Frag} {Z : Addr → Prop} {s : S} {H : Hp} {v : V} {t : T} {n : Nat} {fs : List (Str × T)} (so : Sto K cl Z s H) (r : Rep K cl Z s H v t) (e : s.obj? t = some (n, fs)) :
    ∃ a dx fvs, v = .ref a ∧ H a = some (.ins (cl n) dx fvs) ∧ RepF K cl Z s H fvs fs := by
  cases t with
  | obj c fs =>
    cases e
    cases r with
    | obj h _ q => exact ⟨_, _, _, rfl, h, q⟩
  | cell a =>
    cases r
    unfold S.obj? at e
    dsimp only at e
    split at e
    · rename_i ho
      cases e
      obtain ⟨dx, fvs, h1, h2⟩ := so.cells _ _ ho
      exact ⟨a, dx, fvs, rfl, h1, h2⟩
    · cases e
  | _ => cases e
def fldO (cs : List Nat) (f : Str) : O1 := fun s x => match s.obj? x with | some (c, fs) => (match fs.lookup f with | some t => some (c ∈ cs, t) | none => none) | none => none
theorem je_fld {cs : List Nat} {f : Str} (hc : ∀ c ∈ cs, Cls X.K (cl c) ∧ NoAttr X.K (cl c) f) (ha : JE X cl W a Fa) (hb : attributeBase a f X.env (eval a X.env) = eval a X.env := by rfl) : JE X cl W (.Attribute a f pos) (fUn (fldO cs f) Fa) := by
  refine je_un1 (t := fun te => tFld X.K te f) (r := fun x H1 Q => ∃ a C dx fs v, x = .ref a ∧ H1 a = some (.ins C dx fs) ∧ Cls X.K C ∧ NoAttr X.K C f ∧ fs.lookup f = some v ∧ Q v H1) (fun te => rfl) (pe_fld ha.pe hb) ha.mon fun Z H x Q s tx c t px so e hcc p => ?_
  unfold fldO at e
  split at e
  · rename_i n fs e1
    split at e
    · rename_i t' e2
      cases e
      obtain ⟨a, dx, fvs, rfl, h1, rf⟩ := obj_of so px e1
      obtain ⟨v, e3, rv⟩ := rf.lookup e2
      exact ⟨a, _, dx, fvs, v, rfl, h1, (hc n hcc).1, (hc n hcc).2, e3, p.here rv so⟩
    · cases e
  · cases e
/-- a field of an error -/
def xgO (c : Nat) (f : Str) : O1
  | _, .err k fs => match fs.lookup f with | some t => some (k = c, t) | none => none
  | _, _ => none
def rXg (C : Addr) (f : Str) : V → Hp → VK → Prop := fun x H1 Q => ∃ (a d : Addr) (fs : List (Str × V)) (v : V), x = .ref a ∧ H1 a = some (exV C a d) ∧ H1 d = some (.xd fs) ∧ fs.lookup f = some v ∧ Q v H1
theorem je_xg {c : Nat} {f : Str} (hT : XfC X.K (cl c)) (hno : PySem.W.findIn X.K (.ref (cl c)) f = some none) (ha : JE X cl W a Fa) (hb : attributeBase a f X.env (eval a X.env) = eval a X.env := by rfl) : JE X cl W (.Attribute a f pos) (fUn (xgO c f) Fa) := by
  refine je_un1 (t := tXg (cl c) f) (r := rXg (cl c) f) (fun te => rfl) (pe_xg hT hno ha.pe hb) ha.mon fun Z H x Q s tx c' t px so e hcc p => ?_
  unfold xgO at e
  split at e
  · split at e
    · rename_i e2
      cases e
      cases hcc
      cases px with
      | err h1 _ h2 _ rf =>
        obtain ⟨v, e3, rv⟩ := rf.lookup e2
        exact ⟨_, _, _, v, rfl, h1, h2, e3, p.here rv so⟩
    · cases e
  · cases e
end
end Mr

/-! The mirror layer: defs, classes, statements. -/
namespace Mr
open PySem PySem.Spec PyProof.Rows L2 Tw

/-! ### what a def does -/
/-- as F does, or less -/
def cM (F : FD) : FD := fun ts s Q E => ∃ (Q0 : KT) (E0 : KX), F ts s Q0 E0 ∧ (∀ t s, Q0 t s → Q t s) ∧ ∀ e s, E0 e s → E e s
theorem cM.of {F : FD} {ts : List T} {s : S} {Q : KT} {E : KX} (h : F ts s Q E) : cM F ts s Q E := ⟨Q, E, h, fun _ _ q => q, fun _ _ q => q⟩
theorem cM.mon {F : FD} {ts : List T} {s : S} {Q Q' : KT} {E E' : KX} (hq : ∀ t s, Q t s → Q' t s) (he : ∀ e s, E e s → E' e s) (h : cM F ts s Q E) : cM F ts s Q' E' := by
  obtain ⟨Q0, E0, h1, h2, h3⟩ := h
  exact ⟨Q0, E0, h1, fun t s q => hq _ _ (h2 t s q), fun e s q => he _ _ (h3 e s q)⟩
def spM (K : PySem.W.Frag) (cl : CL) (F : FD) : Sp := fun vs H Q E => ∃ Z ts s, Reps K cl Z s H vs ts ∧ Sto K cl Z s H ∧ cM F ts s (post K cl Z s H Q) (postX K cl Z s H E)
structure CalM (P : Program) (w : World) (K : PySem.W.Frag) (mg : Str → Option Value) (base : Heap) (cl : CL) (k : Nat) (x : Str) (F : FD) (dts : List T) : Prop where
  ex : ∃ dvs, Cal P w K mg base k x (spM K cl F) dvs ∧ ∀ Z s H, Reps K cl Z s H dvs dts
structure MetM (P : Program) (w : World) (K : PySem.W.Frag) (mg : Str → Option Value) (base : Heap) (cl : CL) (k : Nat) (c : Nat) (m : Str) (F : FD) (dts : List T) : Prop where
  ex : ∃ dvs, Met P w K mg base k (cl c) m (spM K cl F) dvs ∧ ∀ Z s H, Reps K cl Z s H dvs dts
structure MakM (P : Program) (w : World) (K : PySem.W.Frag) (mg : Str → Option Value) (base : Heap) (cl : CL) (k : Nat) (x : Str) (c : Nat) (F : FD) (dts : List T) : Prop where
  ex : ∃ dvs, Mak P w K mg base k x (cl c) (spM K cl F) dvs ∧ ∀ Z s H, Reps K cl Z s H dvs dts
/-- the ends of a def's body -/
def endsM (Q : KT) (E : KX) : DS := ⟨fun _ s => Q .non s, Q, fun _ _ => False, fun _ _ => False, fun e _ s => E e s⟩
theorem spM.len {K : PySem.W.Frag} {cl : CL} {F : FD} {n : Nat} (h : ∀ ts s Q E, F ts s Q E → ts.length = n) : ∀ vs H Q E, spM K cl F vs H Q E → vs.length = n := by
  rintro vs H Q E ⟨Z, ts, s, r, _, Q0, E0, h1, _⟩
  rw [r.length]
  exact h _ _ _ _ h1
theorem body_go {P : Program} {w : World} {K : PySem.W.Frag} {mg : Str → Option Value} {base : Heap} {cl : CL} {N : List Str} {qual : Str} {sc : Scope} {f : Addr} {cdv : Value} {A : Around} {out : List PySem.Env} {sh : Shared} {H : Hp} {E : XK} {vs : List V} {Q : VK} {F : FD} {B : FS} {body : List Stmt}
    (hB : JSs (cxOf (L2.CX P w) P w K mg base N qual sc f cdv A out sh H E) cl (fun cls d _ H' => E cls d H') body B) (hF : ∀ ts s Q E, F ts s Q E → B (startT N ts) s (endsM Q E)) (h : spM K cl F vs H Q E) :
    ∃ t, PSs (cxOf (L2.CX P w) P w K mg base N qual sc f cdv A out sh H E) body t ∧ t { nx := fun _ H' => Q .non H', rt := Q } (L2.start N vs) H := by
  obtain ⟨Z, ts, s, r, so, Q0, E0, h1, h2, h3⟩ := h
  refine ⟨_, hB.pss, Z, startT N ts, s, RepE.start r, so, hB.mon _ _ _ _ ?_ (hF _ _ _ _ h1)⟩
  refine ⟨fun τ s' q σ H' f _ so' => h2 _ _ q _ _ f .non so', fun t s' q => h2 _ _ q, fun τ s' q => q.elim, fun τ s' q => q.elim, fun er τ s' q d fvs σ H' f e m rf _ so' => h3 _ _ q d fvs H' f e m rf so'⟩
section
variable {P : Program} {w : World} {K : PySem.W.Frag} {mg : Str → Option Value} {base : Heap} {cl : CL} {k c : Nat} {x m qual : Str} {st : Stmt} {ps N : List Str} {dvs : List V} {dts : List T} {F : FD} {B : FS}
theorem calM (D : DefAt K mg x st ps dvs) (hd : ∀ Z s H, Reps K cl Z s H dvs dts) (S : FnScope N ps (C8.fnScope st)) (len : ∀ ts s Q E, F ts s Q E → ts.length = ps.length)
    (hB : ∀ (f : Addr) (cdv : Value) (A : Around) (out : List PySem.Env) (s : Shared) (H : Hp) (E : XK), Rm k (A.deeper (envOfC x (C8.fnScope st) s.heap.objs.size f cdv)) →
      JSs (cxOf (L2.CX P w) P w K mg base N x (C8.fnScope st) f cdv A out s H E) cl (fun cls d _ H' => E cls d H') (C8.fnBody st) B)
    (hF : ∀ ts s Q E, F ts s Q E → B (startT N ts) s (endsM Q E)) : CalM P w K mg base cl (k + 1) x F dts :=
  ⟨dvs, calX D S (spM.len len) fun f cdv A out s H vs Q E hr h => body_go (hB f cdv A out s H E hr) hF h, hd⟩
theorem metM (D : MetAt K (cl c) m qual st ps dvs) (hd : ∀ Z s H, Reps K cl Z s H dvs dts) (S : FnScope N ps (C8.fnScope st)) (len : ∀ ts s Q E, F ts s Q E → ts.length = ps.length)
    (hB : ∀ (f : Addr) (cdv : Value) (A : Around) (out : List PySem.Env) (s : Shared) (H : Hp) (E : XK), Rm k (A.deeper (envOfC qual (C8.fnScope st) s.heap.objs.size f cdv)) →
      JSs (cxOf (L2.CX P w) P w K mg base N qual (C8.fnScope st) f cdv A out s H E) cl (fun cls d _ H' => E cls d H') (C8.fnBody st) B)
    (hF : ∀ ts s Q E, F ts s Q E → B (startT N ts) s (endsM Q E)) : MetM P w K mg base cl (k + 1) c m F dts :=
  ⟨dvs, metX D S (spM.len len) fun f cdv A out s H vs Q E hr h => body_go (hB f cdv A out s H E hr) hF h, hd⟩
theorem makM (D : MakAt K mg x (cl c) qual st ps dvs) (hd : ∀ Z s H, Reps K cl Z s H dvs dts) (S : FnScope N ps (C8.fnScope st)) (len : ∀ ts s Q E, F ts s Q E → ts.length = ps.length)
    (hB : ∀ (f : Addr) (cdv : Value) (A : Around) (out : List PySem.Env) (s : Shared) (H : Hp) (E : XK), Rm k (A.deeper (envOfC qual (C8.fnScope st) s.heap.objs.size f cdv)) →
      JSs (cxOf (L2.CX P w) P w K mg base N qual (C8.fnScope st) f cdv A out s H E) cl (fun cls d _ H' => E cls d H') (C8.fnBody st) B)
    (hF : ∀ ts s Q E, F ts s Q E → B (startT N ts) s (endsM Q E)) : MakM P w K mg base cl (k + 1) x c F dts :=
  ⟨dvs, makX D S (spM.len len) fun f cdv A out s H vs Q E hr h => body_go (hB f cdv A out s H E hr) hF h, hd⟩
end
section
variable {X : Cx} {cl : CL} {W : WX} {e a b c o : Expr} {es : List Expr} {F Fa Fb Fc Fo : FE} {G Ga Gb : FT} {A : FA} {pos p apos : Pos} {rest : List Expr} {x m : Str} {k j n : Nat} {D : FD} {dts : List T}
/-! ### calls -/
def fCall (D : FD) (dts : List T) (A : FA) : FE := fun τ s Q E => A τ s (fun ts s1 => cM D (ts ++ dts) s1 Q E) E
theorem mon_call (ma : MonA A) : MonE (fCall D dts A) := fun τ s Q Q' E E' hq he h => ma _ _ _ _ _ _ (fun ts s1 h1 => h1.mon hq he) he h
theorem sp_of {Z : Addr → Prop} {σ : L2.St} {s s1 : S} {H H1 : Hp} {Q : VK} {vs dvs : List V} {ts : List T} (f1 : Fut s H s1 H1) (r : Reps X.K cl Z s1 H1 vs ts) (hd : ∀ Z s H, Reps X.K cl Z s H dvs dts) (so : Sto X.K cl Z s1 H1)
    (h : cM D (ts ++ dts) s1 (post X.K cl Z s H Q) (postW X.K cl Z s H σ W)) : spM X.K cl D (vs ++ dvs) H1 Q (fun cls d H' => W cls d σ H') :=
  ⟨Z, ts ++ dts, s1, Reps.append r (hd _ _ _), so, h.mon (fun _ _ q => post.up f1 q) fun _ _ q => postX.up f1 q⟩
theorem je_call (tk : Takes X W) (d : CalM X.prog X.w X.K X.mg X.base cl k x D dts) (hr : Rm j X.A) (hk : k ≤ j) (hg : Gl X x) (ha : JA X cl W (e :: es) A) (hdb : (x == ("__debug__" : Str)) = false := by decide)
    (he : starEach (e :: es) X.env = (false, eval e X.env) :: starEach es X.env := by rfl) (hpl : (backTo pos (starEach es X.env)).any (·.1) = false := by rfl) : JE X cl W (.Call (.Name x p) (e :: es) [] pos) (fCall D dts A) := by
  obtain ⟨dvs, d, hd⟩ := d.ex
  refine ⟨mon_call ha.mon, PE.imp (pe_cW tk d hr hk hg ha.pa hdb he hpl) ?_⟩
  rintro σ H Q ⟨Z, τ, s, re, so, h⟩
  exact goA ha.mon re so h (fun ts s1 vs H1 p1 f1 re1 r1 so1 => sp_of f1 r1 hd so1 p1) fun _ _ q => q
theorem pe_cW0 {sp : Sp} {dvs : List V} (tk : Takes X W) (c : Cal X.prog X.w X.K X.mg X.base k x sp dvs) (hr : Rm j X.A) (hk : k ≤ j) (hg : Gl X x) (hdb : (x == ("__debug__" : Str)) = false := by decide) : PE X (.Call (.Name x p) [] [] pos) (tCW sp dvs W tNil) := by
  obtain ⟨f, fd, ps, ds, F, hm, kp, b, d⟩ := c.ex
  constructor
  intro pins s σ H Q I h
  exact wpAny_Call_Name_kw (ld_glob I hg hm (PySem.W.callWith_K0 I.kIn kp (runG (us := []) (vs := []) F (hr.mono hk) b d (pass_tk tk) I .nil h)) hdb)
theorem je_call0 (tk : Takes X W) (d : CalM X.prog X.w X.K X.mg X.base cl k x D dts) (hr : Rm j X.A) (hk : k ≤ j) (hg : Gl X x) (hdb : (x == ("__debug__" : Str)) = false := by decide) : JE X cl W (.Call (.Name x p) [] [] pos) (fCall D dts fNil) := by
  obtain ⟨dvs, d, hd⟩ := d.ex
  refine ⟨mon_call (ja_nil (X := X) (cl := cl) (W := W)).mon, PE.imp (pe_cW0 tk d hr hk hg hdb) ?_⟩
  rintro σ H Q ⟨Z, τ, s, re, so, h⟩
  exact sp_of (ts := []) (vs := []) (Fut.refl _ _) .nil hd so h
/-! an own class, called -/
/-- behind __init__: the instance as a tree (fz) or as a cell -/
def doneM (fz : Bool) (x : Addr) (Q : KT) : KT := fun t s => t = .non ∧ if fz = true then (match s.on x with | some (.obj c fs) => Q (.obj c fs) (s.del x) | _ => False) else Q (.cell x) s
def fMk (fz : Bool) (n : Nat) (D : FD) (dts : List T) (A : FA) : FE := fun τ s Q E => A τ s (fun ts s1 => ∀ x, s1.on x = none → cM D (.cell x :: (ts ++ dts)) (s1.put x (.obj n [])) (doneM fz x Q) (fun er s2 => E er (s2.del x))) E
theorem doneM.mon {fz : Bool} {x : Addr} {Q Q' : KT} (hq : ∀ t s, Q t s → Q' t s) {t : T} {s : S} (h : doneM fz x Q t s) : doneM fz x Q' t s := by
  refine ⟨h.1, ?_⟩
  have h2 := h.2
  refine w_ite h2 (fun q => ?_) (hq _ _)
  split at q
  · exact hq _ _ q
  · exact q.elim
theorem mon_mk {fz : Bool} (ma : MonA A) : MonE (fMk fz n D dts A) := fun τ s Q Q' E E' hq he h => ma _ _ _ _ _ _ (fun ts s1 h1 x hx => (h1 x hx).mon (fun _ _ q => q.mon hq) fun _ _ q => he _ _ q) he h
theorem mk_go {fz : Bool} {Z : Addr → Prop} {σ : L2.St} {s s1 : S} {H H1 : Hp} {Q : VK} {vs dvs : List V} {ts : List T} (f1 : Fut s H s1 H1) (r : Reps X.K cl Z s1 H1 vs ts) (hd : ∀ Z s H, Reps X.K cl Z s H dvs dts) (so : Sto X.K cl Z s1 H1)
    (h : ∀ x, s1.on x = none → cM D (.cell x :: (ts ++ dts)) (s1.put x (.obj n [])) (doneM fz x (post X.K cl Z s H Q)) (fun er s2 => postW X.K cl Z s H σ W er (s2.del x))) :
    ∀ x dx, H1 x = none → H1 dx = none → dx ≠ x → spM X.K cl D (.ref x :: (vs ++ dvs)) (upd (upd H1 dx (.own x)) x (.ins (cl n) dx [])) (fun v H2 => v = .non ∧ Q (.ref x) H2) (fun cls d H' => W cls d σ H') := by
  intro x dx hx hdx ne
  have so2 := so.new (o := .own x) hdx
  have fu2 : Fut s1 H1 s1 (upd H1 dx (.own x)) := Fut.new hdx
  have hx2 : upd H1 dx (.own x) x = none := by rw [upd_ne (Ne.symm ne)]; exact hx
  have fu3 : Fut s1 (upd H1 dx (.own x)) (s1.put x (.obj n [])) (upd (upd H1 dx (.own x)) x (.ins (cl n) dx [])) := Fut.newC hx2
  have so3 : Sto X.K cl Z (s1.put x (.obj n [])) (upd (upd H1 dx (.own x)) x (.ins (cl n) dx [])) := so2.newC hx2 ⟨dx, [], upd_same, .nil⟩
  have fu : Fut s H (s1.put x (.obj n [])) (upd (upd H1 dx (.own x)) x (.ins (cl n) dx [])) := f1.trans (fu2.trans fu3)
  refine ⟨Z, .cell x :: (ts ++ dts), s1.put x (.obj n []), .cons (.cell x) (Reps.append ((r.fut fu2).fut fu3) (hd _ _ _)), so3, (h x (on_none so hx)).mon (fun t s2 q => ?_) fun er s2 q => ?_⟩
  · obtain ⟨rfl, q⟩ := q
    intro v H2 f4 r4 so4
    cases r4
    refine ⟨rfl, ?_⟩
    cases fz with
    | false =>
      rw [if_neg Bool.false_ne_true] at q
      exact q _ _ (fu.trans f4) (.cell x) so4
    | true =>
      rw [if_pos rfl] at q
      split at q
      · rename_i c fs ho
        obtain ⟨dx2, fvs, h1, h2⟩ := so4.cells _ _ ho
        exact q _ _ (fu.trans (f4.trans (Fut.del _ _ x))) (.obj h1 (nomut_del so4 ho) (h2.fut (Fut.del _ _ x))) (so4.del x)
      · exact q.elim
  · intro d fvs H2 f4 hd2 m2 rf so4
    exact q d fvs H2 (fu.trans (f4.trans (Fut.del _ _ x))) hd2 ⟨fun m => m2.1 (mut_del m), m2.2⟩ (rf.fut (Fut.del _ _ x)) (so4.del x)
theorem je_mk (fz : Bool) (tk : Takes X W) (d : MakM X.prog X.w X.K X.mg X.base cl k x n D dts) (hr : Rm j X.A) (hk : k + 1 ≤ j) (hg : Gl X x) (ha : JA X cl W (e :: es) A) (hdb : (x == ("__debug__" : Str)) = false := by decide)
    (he : starEach (e :: es) X.env = (false, eval e X.env) :: starEach es X.env := by rfl) (hpl : (backTo pos (starEach es X.env)).any (·.1) = false := by rfl) : JE X cl W (.Call (.Name x p) (e :: es) [] pos) (fMk fz n D dts A) := by
  obtain ⟨dvs, d, hd⟩ := d.ex
  refine ⟨mon_mk ha.mon, PE.imp (pe_mkW tk d hr hk hg ha.pa hdb he hpl) ?_⟩
  rintro σ H Q ⟨Z, τ, s, re, so, h⟩
  exact goA ha.mon re so h (fun ts s1 vs H1 p1 f1 re1 r1 so1 => mk_go f1 r1 hd so1 p1) fun _ _ q => q
theorem pe_mkW0 {sp : Sp} {dvs : List V} {C : Addr} (tk : Takes X W) (c : Mak X.prog X.w X.K X.mg X.base k x C sp dvs) (hr : Rm j X.A) (hk : k + 1 ≤ j) (hg : Gl X x) (hdb : (x == ("__debug__" : Str)) = false := by decide) : PE X (.Call (.Name x p) [] [] pos) (tMkW C sp dvs W tNil) := by
  obtain ⟨f, fd, ps, ds, M, F, hm, b, d⟩ := c.ex
  constructor
  intro pins s σ H Q I h
  exact wpAny_Call_Name_kw (ld_glob I hg hm (PySem.W.callWith_K0 I.kIn M.kp (makeG (us := []) (vs := []) M F (hr.mono hk) b d (pass_tk tk) I .nil h)) hdb)
theorem je_mk0 (fz : Bool) (tk : Takes X W) (d : MakM X.prog X.w X.K X.mg X.base cl k x n D dts) (hr : Rm j X.A) (hk : k + 1 ≤ j) (hg : Gl X x) (hdb : (x == ("__debug__" : Str)) = false := by decide) : JE X cl W (.Call (.Name x p) [] [] pos) (fMk fz n D dts fNil) := by
  obtain ⟨dvs, d, hd⟩ := d.ex
  refine ⟨mon_mk (ja_nil (X := X) (cl := cl) (W := W)).mon, PE.imp (pe_mkW0 tk d hr hk hg hdb) ?_⟩
  rintro σ H Q ⟨Z, τ, s, re, so, h⟩
  exact mk_go (ts := []) (vs := []) (Fut.refl _ _) .nil hd so h
/-! a method -/
def fMt (cs : List Nat) (m : Str) (D : Nat → FD) (dts : Nat → List T) (Fo : FE) (A : FA) : FE := fun τ s Q E => Fo τ s (fun x s1 => match s1.obj? x with | some (c, fs) => c ∈ cs ∧ fs.lookup m = none ∧ A τ s1 (fun ts s2 => cM (D c) (x :: (ts ++ dts c)) s2 Q E) E | none => False) E
theorem je_mt {cs : List Nat} {D : Nat → FD} {dts : Nat → List T} {pl : Sem Bool} (tk : Takes X W) (d : ∀ c ∈ cs, MetM X.prog X.w X.K X.mg X.base cl k c m (D c) (dts c)) (hr : Rm j X.A) (hk : k ≤ j) (ho : JE X cl W o Fo) (ha : JA X cl W (e :: es) A)
    (hst : starEach (e :: es) X.env = (false, eval e X.env) :: starEach es X.env := by rfl) (hpl : (backTo pos (starEach es X.env)).any (·.1) = false := by rfl)
    (ht : eval (.Call (.Attribute o m apos) (e :: es) [] pos) X.env = (do
      let ov ← eval o X.env
      standAt apos.atName
      let (g, first) ← holding [ov] (getMethod ov m pl)
      callWith pos g first (backTo pos (starEach (e :: es) X.env)) (backToKw pos (keywordEach [] X.env))) := by rfl) : JE X cl W (.Call (.Attribute o m apos) (e :: es) [] pos) (fMt cs m D dts Fo A) := by
  refine ⟨fun τ s Q Q' E E' hq he h => ho.mon _ _ _ _ _ _ (fun x s1 h1 => ?_) he h, ⟨fun pins sh σ H Q I h => ?_⟩⟩
  · split at h1
    · exact ⟨h1.1, h1.2.1, ha.mon _ _ _ _ _ _ (fun ts s2 h2 => h2.mon hq he) he h1.2.2⟩
    · exact h1
  obtain ⟨Z, τ, s, re, so, h⟩ := h
  have h' : tT X.K cl W Fo σ H fun x H1 => ∃ c dx fs a, c ∈ cs ∧ x = .ref a ∧ H1 a = some (.ins (cl c) dx fs) ∧ fs.lookup m = none ∧ tTA X.K cl W A σ H1 fun vs H2 => ∀ dvs, (∀ Z s H, Reps X.K cl Z s H dvs (dts c)) → spM X.K cl (D c) (.ref a :: (vs ++ dvs)) H2 Q (fun cls d H' => W cls d σ H') := by
    refine go ho.mon re so h (fun tx s1 x H1 p1 f1 re1 r1 so1 => ?_) fun _ _ q => q
    split at p1
    · rename_i c fs e1
      obtain ⟨a, dx, fvs, rfl, h1, rf⟩ := obj_of so1 r1 e1
      refine ⟨c, dx, fvs, a, p1.1, rfl, h1, rf.lookup0 p1.2.1, goA ha.mon re1 so1 p1.2.2 (fun ts s2 vs H2 p2 f2 re2 r2 so2 dvs hd => ?_) fun _ _ q => postW.up f1 q⟩
      exact ⟨Z, tx :: (ts ++ dts c), s2, .cons (r1.fut f2) (Reps.append r2 (hd _ _ _)), so2, p2.mon (fun _ _ q => post.up (f1.trans f2) q) fun _ _ q => postX.up (f1.trans f2) q⟩
    · exact p1.elim
  refine PySem.W.methodCall_KW (pl := pl) (thn (ho.pe.run pins sh σ H _ I h') ?_) ht
  rintro u s1 ⟨x, H1, I1, rx, c, dx, fs, a, hc, rfl, ea, l, q⟩
  obtain ⟨dvs, dd, hd⟩ := (d c hc).ex
  obtain ⟨f, fd, ps, ds, hcl, hm, F, b, dv⟩ := dd.ex
  cases rx
  refine getmeth_ok I1 ea hcl hm l ?_
  refine PySem.W.callWith_K (first := [.ref a]) (h₀ := X.base) I.ok.mod.kin hm.kp (thn (ha.pa.run pos pins s1 σ H1 _ I1 q) ?_) hst hpl
  rintro us s2 ⟨vs, H2, I2, r, q2⟩
  exact ⟨I2.kIn, runG (us := .ref a :: us) (vs := .ref a :: vs) F (hr.mono hk) b dv (pass_tk tk) I2 (Paired.cons rfl r) (q2 dvs hd)⟩
theorem je_mt0 {cs : List Nat} {D : Nat → FD} {dts : Nat → List T} {pl : Sem Bool} (tk : Takes X W) (d : ∀ c ∈ cs, MetM X.prog X.w X.K X.mg X.base cl k c m (D c) (dts c)) (hr : Rm j X.A) (hk : k ≤ j) (ho : JE X cl W o Fo)
    (ht : eval (.Call (.Attribute o m apos) [] [] pos) X.env = (do
      let ov ← eval o X.env
      standAt apos.atName
      let (g, first) ← holding [ov] (getMethod ov m pl)
      callWith pos g first (backTo pos (starEach [] X.env)) (backToKw pos (keywordEach [] X.env))) := by rfl) : JE X cl W (.Call (.Attribute o m apos) [] [] pos) (fMt cs m D dts Fo fNil) := by
  refine ⟨fun τ s Q Q' E E' hq he h => ho.mon _ _ _ _ _ _ (fun x s1 h1 => ?_) he h, ⟨fun pins sh σ H Q I h => ?_⟩⟩
  · split at h1
    · exact ⟨h1.1, h1.2.1, h1.2.2.mon hq he⟩
    · exact h1
  obtain ⟨Z, τ, s, re, so, h⟩ := h
  have h' : tT X.K cl W Fo σ H fun x H1 => ∃ c dx fs a, c ∈ cs ∧ x = .ref a ∧ H1 a = some (.ins (cl c) dx fs) ∧ fs.lookup m = none ∧ ∀ dvs, (∀ Z s H, Reps X.K cl Z s H dvs (dts c)) → spM X.K cl (D c) (.ref a :: dvs) H1 Q (fun cls d H' => W cls d σ H') := by
    refine go ho.mon re so h (fun tx s1 x H1 p1 f1 re1 r1 so1 => ?_) fun _ _ q => q
    split at p1
    · rename_i c fs e1
      obtain ⟨a, dx, fvs, rfl, h1, rf⟩ := obj_of so1 r1 e1
      refine ⟨c, dx, fvs, a, p1.1, rfl, h1, rf.lookup0 p1.2.1, fun dvs hd => ?_⟩
      exact ⟨Z, tx :: dts c, s1, .cons r1 (hd _ _ _), so1, cM.mon (fun _ _ q => post.up f1 q) (fun _ _ q => postX.up f1 q) p1.2.2⟩
    · exact p1.elim
  refine PySem.W.methodCall_KW (pl := pl) (thn (ho.pe.run pins sh σ H _ I h') ?_) ht
  rintro u s1 ⟨x, H1, I1, rx, c, dx, fs, a, hc, rfl, ea, l, q⟩
  obtain ⟨dvs, dd, hd⟩ := (d c hc).ex
  obtain ⟨f, fd, ps, ds, hcl, hm, F, b, dv⟩ := dd.ex
  cases rx
  refine getmeth_ok I1 ea hcl hm l ?_
  exact PySem.W.callWith_K0 (first := [.ref a]) I1.kIn hm.kp (runG (us := [.ref a]) (vs := [.ref a]) F (hr.mono hk) b dv (pass_tk tk) I1 (Paired.cons rfl .nil) (q dvs hd))
/-! an error as a value -/
def fErr (n : Nat) (fs : List Str) (A : FA) : FE := fun τ s Q E => A τ s (fun ts s1 => ts.length = fs.length ∧ Q (.err n (fs.zip ts)) s1) E
theorem je_err {fs : List Str} (hX : XCall X.prog X.K (cl n) fs) (hT : OexC X.K (cl n)) (hr : Rm (k + 1) X.A) (hg : Gl X x) (hm : X.mg x = some (.ref (cl n))) (ha : JA X cl W (e :: es) A)
    (hdb : (x == ("__debug__" : Str)) = false := by decide) (he : starEach (e :: es) X.env = (false, eval e X.env) :: starEach es X.env := by rfl) (hpl : (backTo pos (starEach es X.env)).any (·.1) = false := by rfl) :
    JE X cl W (.Call (.Name x p) (e :: es) [] pos) (fErr n fs A) := by
  refine ⟨fun τ s Q Q' E E' hq he h => ha.mon _ _ _ _ _ _ (fun ts s1 h1 => ⟨h1.1, hq _ _ h1.2⟩) he h, PE.imp (pe_x hX hT hr hg hm ha.pa hdb he hpl) ?_⟩
  rintro σ H Q ⟨Z, τ, s, re, so, h⟩
  refine goA ha.mon re so h (fun ts s1 vs H1 p1 f1 re1 r1 so1 => ⟨by rw [r1.length]; exact p1.1, fun a dx ha hdx ne => ?_⟩) fun _ _ q => q
  have so2 := so1.new (o := .xd (fs.zip vs)) hdx
  have ha2 : upd H1 dx (.xd (fs.zip vs)) a = none := by rw [upd_ne (Ne.symm ne)]; exact ha
  have so3 := so2.new (o := exV (cl n) a dx) ha2
  have fu : Fut s1 H1 s1 (upd (upd H1 dx (.xd (fs.zip vs))) a (exV (cl n) a dx)) := (Fut.new hdx).trans (Fut.new ha2)
  exact p1.2 _ _ (f1.trans fu) (.err upd_same (so1.nomut ha) (by rw [upd_ne ne]; exact upd_same) (so1.nomut hdx) ((RepF.zip r1).fut fu)) so3
end
end Mr

/-! The mirror layer: statements. -/
namespace Mr
open PySem PySem.Spec PyProof.Rows L2 Tw
section
variable {X : Cx} {cl : CL} {W : WX} {e a b c o : Expr} {es : List Expr} {F Fa Fb Fc Fo : FE} {G Ga Gb : FT} {A : FA} {pos p apos pos' : Pos} {rest : List Expr} {x m : Str} {k j n i : Nat} {st : Stmt} {sts : List Stmt} {B B1 B2 : FS}
abbrev xk (τ : Env) (D : DS) : KX := fun er s => D.xr er τ s
theorem xe_w {K : PySem.W.Frag} {Z : Addr → Prop} {s s1 : S} {H : Hp} {σ : L2.St} {τ : Env} {er : Er} (re : REnv K cl Z s H σ τ) (h : postXE K cl Z s H W er τ s1) : postW K cl Z s H σ W er s1 := fun d fvs H' f e m rf so => h d fvs σ H' f e m rf (re.fut f) so
theorem DS.Le.refl (D : DS) : D.Le D := ⟨fun _ _ q => q, fun _ _ q => q, fun _ _ q => q, fun _ _ q => q, fun _ _ _ q => q⟩
/-! ### blocks -/
def fSkip : FS := fun τ s D => D.nx τ s
def fSeq (B1 B2 : FS) : FS := fun τ s D => B1 τ s { D with nx := fun τ' s' => B2 τ' s' D }
theorem jss_nil : JSs X cl W [] fSkip := by
  refine ⟨fun τ s D D' le h => le.nx _ _ h, PSs.imp pss_nil ?_⟩
  rintro D σ H ⟨Z, τ, s, re, so, h⟩
  exact h σ H (Fut.refl _ _) re so
theorem mon_seq (m1 : MonS B1) (m2 : MonS B2) : MonS (fSeq B1 B2) := fun τ s D D' le h => by
  unfold fSeq at h ⊢
  refine m1 _ _ _ _ ?_ h
  exact ⟨fun τ' s' q => m2 _ _ _ _ le q, le.rt, le.bk, le.ct, le.xr⟩
theorem jss_cons (h1 : JS X cl W st B1) (h2 : JSs X cl W sts B2) : JSs X cl W (st :: sts) (fSeq B1 B2) := by
  refine ⟨mon_seq h1.mon h2.mon, PSs.imp (pss_cons h1.ps h2.pss) ?_⟩
  rintro D σ H ⟨Z, τ, s, re, so, h⟩
  refine goS h1.mon re so h ⟨fun τ' s' q σ' H' f re' so' => ?_, fun _ _ q => q, fun _ _ q => q, fun _ _ q => q, fun _ _ _ q => q⟩
  exact goS h2.mon re' so' q (postD.up f)
theorem jss_one (h1 : JS X cl W st B) : JSs X cl W [st] B := ⟨h1.mon, pss_one h1.ps⟩
theorem js_pass : JS X cl W (.Pass pos) fSkip := by
  refine ⟨fun τ s D D' le h => le.nx _ _ h, PS.imp ps_pass ?_⟩
  rintro D σ H ⟨Z, τ, s, re, so, h⟩
  exact h σ H (Fut.refl _ _) re so
def fBrk : FS := fun τ s D => D.bk τ s
def fCnt : FS := fun τ s D => D.ct τ s
theorem js_break : JS X cl W (.Break pos) fBrk := by
  refine ⟨fun τ s D D' le h => le.bk _ _ h, PS.imp ps_break ?_⟩
  rintro D σ H ⟨Z, τ, s, re, so, h⟩
  exact h σ H (Fut.refl _ _) re so
theorem js_continue : JS X cl W (.Continue pos) fCnt := by
  refine ⟨fun τ s D D' le h => le.ct _ _ h, PS.imp ps_continue ?_⟩
  rintro D σ H ⟨Z, τ, s, re, so, h⟩
  exact h σ H (Fut.refl _ _) re so
/-- code that is not come to -/
def fNever : FS := fun _ _ _ => False
theorem js_never : JS X cl W st fNever := ⟨fun _ _ _ _ _ h => h, PS.imp ps_never fun D σ H ⟨_, _, _, _, _, h⟩ => h⟩
def fDrop (Fa : FE) : FS := fun τ s D => Fa τ s (fun _ s1 => D.nx τ s1) (xk τ D)
theorem js_expr (ha : JE X cl W e Fa) (hs : swapsWith e none pos.line X.env = pure false := by rfl) : JS X cl W (.Expr e pos) (fDrop Fa) := by
  refine ⟨fun τ s D D' le h => ha.mon _ _ _ _ _ _ (fun _ _ q => le.nx _ _ q) (fun _ _ q => le.xr _ _ _ q) h, PS.imp (ps_expr ha.pe hs) ?_⟩
  rintro D σ H ⟨Z, τ, s, re, so, h⟩
  exact go ha.mon re so h (fun tx s1 v H1 p1 f1 re1 r1 so1 => p1 σ H1 f1 re1 so1) fun _ _ q => xe_w re q
def fRet (Fa : FE) : FS := fun τ s D => Fa τ s D.rt (xk τ D)
theorem js_ret (ha : JE X cl W e Fa) : JS X cl W (.Return (some e) pos) (fRet Fa) := by
  refine ⟨fun τ s D D' le h => ha.mon _ _ _ _ _ _ (fun _ _ q => le.rt _ _ q) (fun _ _ q => le.xr _ _ _ q) h, PS.imp (ps_ret ha.pe) ?_⟩
  rintro D σ H ⟨Z, τ, s, re, so, h⟩
  exact go ha.mon re so h (fun tx s1 v H1 p1 f1 re1 r1 so1 => p1 v H1 f1 r1 so1) fun _ _ q => xe_w re q
def fRetN : FS := fun _ s D => D.rt .non s
theorem js_retN : JS X cl W (.Return none pos) fRetN := by
  refine ⟨fun τ s D D' le h => le.rt _ _ h, PS.imp ps_retN ?_⟩
  rintro D σ H ⟨Z, τ, s, re, so, h⟩
  exact h _ H (Fut.refl _ _) .non so
/-- what is handed back is no cell any more -/
def fRetF (Fa : FE) : FS := fun τ s D => Fa τ s (fun t s1 => match t with | .cell a => (match s1.on a with | some (.lst xs) => D.rt (.lst xs) (s1.del a) | some (.obj c fs) => D.rt (.obj c fs) (s1.del a) | _ => False) | _ => False) (xk τ D)
theorem js_retF (ha : JE X cl W e Fa) : JS X cl W (.Return (some e) pos) (fRetF Fa) := by
  refine ⟨fun τ s D D' le h => ha.mon _ _ _ _ _ _ (fun t s1 q => ?_) (fun _ _ q => le.xr _ _ _ q) h, PS.imp (ps_ret ha.pe) ?_⟩
  · split at q
    · split at q
      · exact le.rt _ _ q
      · exact le.rt _ _ q
      · exact q.elim
    · exact q.elim
  rintro D σ H ⟨Z, τ, s, re, so, h⟩
  refine go ha.mon re so h (fun tx s1 v H1 p1 f1 re1 r1 so1 => ?_) fun _ _ q => xe_w re q
  split at p1
  · rename_i a
    cases r1
    split at p1
    · rename_i xs ho
      obtain ⟨vs, h1, h2⟩ := so1.cells _ _ ho
      exact p1 _ _ (f1.trans (Fut.del _ _ a)) (.lst h1 (nomut_del so1 ho) (h2.fut (Fut.del _ _ a))) (so1.del a)
    · rename_i c fs ho
      obtain ⟨dx, fvs, h1, h2⟩ := so1.cells _ _ ho
      exact p1 _ _ (f1.trans (Fut.del _ _ a)) (.obj h1 (nomut_del so1 ho) (h2.fut (Fut.del _ _ a))) (so1.del a)
    · exact p1.elim
  · exact p1.elim
def fIfS (G : FT) (B1 B2 : FS) : FS := fun τ s D => G τ s (fun b s1 => if b = true then B1 τ s1 D else B2 τ s1 D) (xk τ D)
theorem js_if {ss ts : List Stmt} (hc : JT X cl W c G) (h1 : JSs X cl W ss B1) (h2 : JSs X cl W ts B2) : JS X cl W (.If c ss ts pos) (fIfS G B1 B2) := by
  refine ⟨fun τ s D D' le h => hc.mon _ _ _ _ _ _ (fun b s1 q => w_ite q (h1.mon _ _ _ _ le) (h2.mon _ _ _ _ le)) (fun _ _ q => le.xr _ _ _ q) h, PS.imp (ps_if hc.pt h1.pss h2.pss) ?_⟩
  rintro D σ H ⟨Z, τ, s, re, so, h⟩
  refine goT hc.mon re so h (fun b s1 H1 p1 f1 re1 so1 => w_ite p1 (fun q => ?_) fun q => ?_) fun _ _ q => xe_w re q
  · exact goS h1.mon re1 so1 q (postD.up f1)
  · exact goS h2.mon re1 so1 q (postD.up f1)
/-! ### assignments -/
def fSet (i : Nat) (Fa : FE) : FS := fun τ s D => Fa τ s (fun t s1 => D.nx (τ.set i (some t)) s1) (xk τ D)
theorem js_set (hN : X.N.Nodup) (hi : X.N[i]? = some x) (hx : Loc X.env.scope x) (he : JE X cl W e Fa) (hs : swapsWith e (some (.Name x pos')) pos.line X.env = pure false := by rfl) (hf : X.fn x = true ∨ X.env.scope.names.lookup x = some .local := by first | exact .inl rfl | exact .inr rfl | assumption) :
    JS X cl W (.Assign [.Name x pos'] e pos) (fSet i Fa) := by
  refine ⟨fun τ s D D' le h => he.mon _ _ _ _ _ _ (fun _ _ q => le.nx _ _ q) (fun _ _ q => le.xr _ _ _ q) h, PS.imp (ps_set hN hi hx he.pe hs hf) ?_⟩
  rintro D σ H ⟨Z, τ, s, re, so, h⟩
  exact go he.mon re so h (fun tx s1 v H1 p1 f1 re1 r1 so1 => p1 _ H1 f1 (re1.set r1 i) so1) fun _ _ q => xe_w re q
/-- a target -/
abbrev FG := T → Env → S → (Env → S → Prop) → Prop
abbrev FGs := List T → Env → S → (Env → S → Prop) → Prop
structure JG (X : Cx) (cl : CL) (tg : Expr) (G : FG) : Prop where
  mon : ∀ t τ s (Q Q' : Env → S → Prop), (∀ τ s, Q τ s → Q' τ s) → G t τ s Q → G t τ s Q'
  ex : ∃ g, PG X tg g ∧ ∀ (Z : Addr → Prop) (t : T) (v : V) (σ : L2.St) (τ : Env) (H : Hp) (s : S) (Q : L2.St → Hp → Prop), Rep X.K cl Z s H v t → REnv X.K cl Z s H σ τ → Sto X.K cl Z s H → G t τ s (postE X.K cl Z s H Q) → g v σ H Q
structure JGs (X : Cx) (cl : CL) (tgs : List Expr) (G : FGs) : Prop where
  mon : ∀ ts τ s (Q Q' : Env → S → Prop), (∀ τ s, Q τ s → Q' τ s) → G ts τ s Q → G ts τ s Q'
  ex : ∃ g, PGs X tgs g ∧ ∀ (Z : Addr → Prop) (ts : List T) (vs : List V) (σ : L2.St) (τ : Env) (H : Hp) (s : S) (Q : L2.St → Hp → Prop), Reps X.K cl Z s H vs ts → REnv X.K cl Z s H σ τ → Sto X.K cl Z s H → G ts τ s (postE X.K cl Z s H Q) → g vs σ H Q
def gN (i : Nat) : FG := fun t τ s Q => Q (τ.set i (some t)) s
theorem jg_name (hN : X.N.Nodup) (hi : X.N[i]? = some x) (hx : Loc X.env.scope x) (hf : X.fn x = true ∨ X.env.scope.names.lookup x = some .local := by first | exact .inl rfl | exact .inr rfl | assumption) : JG X cl (.Name x pos) (gN i) :=
  ⟨fun _ _ _ _ _ hq h => hq _ _ h, _, pg_name hN hi hx hf, fun Z t v σ τ H s Q r re so h => h _ H (Fut.refl _ _) (re.set r i) so⟩
def gsNil : FGs := fun ts τ s Q => match ts with | [] => Q τ s | _ => False
def gsCons (g : FG) (gs : FGs) : FGs := fun ts τ s Q => match ts with | t :: r => g t τ s fun τ1 s1 => gs r τ1 s1 Q | [] => False
theorem jgs_nil : JGs X cl [] gsNil := by
  refine ⟨fun ts τ s Q Q' hq h => ?_, _, pgs_nil, fun Z ts vs σ τ H s Q r re so h => ?_⟩
  · unfold gsNil at h ⊢
    split at h
    · exact hq _ _ h
    · exact h
  · unfold gsNil at h
    split at h
    · cases r
      exact ⟨rfl, h _ H (Fut.refl _ _) re so⟩
    · exact h.elim
theorem jgs_cons {g : FG} {gs : FGs} (h1 : JG X cl e g) (h2 : JGs X cl es gs) (hs : (assignEach (e :: es) X.env).map (·.2) = assign e X.env :: (assignEach es X.env).map (·.2) := by rfl) : JGs X cl (e :: es) (gsCons g gs) := by
  obtain ⟨g1, p1, i1⟩ := h1.ex
  obtain ⟨g2, p2, i2⟩ := h2.ex
  refine ⟨fun ts τ s Q Q' hq h => ?_, _, pgs_cons p1 p2 hs, fun Z ts vs σ τ H s Q r re so h => ?_⟩
  · unfold gsCons at h ⊢
    split at h
    · exact h1.mon _ _ _ _ _ (fun _ _ q => h2.mon _ _ _ _ _ hq q) h
    · exact h
  · unfold gsCons at h
    split at h
    · cases r with
      | cons r rs =>
        refine ⟨_, _, rfl, i1 Z _ _ σ τ H s _ r re so (h1.mon _ _ _ _ _ (fun τ1 s1 q σ1 H1 f re1 so1 => ?_) h)⟩
        exact i2 Z _ _ σ1 τ1 H1 s1 Q (rs.fut f) re1 so1 (h2.mon _ _ _ _ _ (fun _ _ q => postE.up f q) q)
    · exact h.elim
def gT (n : Nat) (gs : FGs) : FG := fun t τ s Q => match t with | .tup xs => xs.length = n ∧ gs xs τ s Q | _ => False
theorem jg_tup {gs : FGs} {kk : Nat} (hc : X.calm = true) (h : JGs X cl es gs) (hn : (assignEach es X.env).length = n := by rfl) (hst : (assignEach es X.env).findIdx? (·.1) = none := by rfl) : JG X cl (.Tuple es kk pos) (gT n gs) := by
  obtain ⟨g1, p1, i1⟩ := h.ex
  refine ⟨fun ts τ s Q Q' hq q => ?_, _, pg_tup hc p1 hn hst, fun Z ts vs σ τ H s Q r re so q => ?_⟩
  · unfold gT at q ⊢
    split at q
    · exact ⟨q.1, h.mon _ _ _ _ _ hq q.2⟩
    · exact q
  · unfold gT at q
    split at q
    · obtain ⟨a, vs, rfl, ht, rs⟩ := tup_of r
      exact ⟨a, vs, rfl, ht, by rw [rs.length]; exact q.1, i1 Z _ _ σ τ H s Q rs re so q.2⟩
    · exact q.elim
def fAsg (Fa : FE) (g : FG) : FS := fun τ s D => Fa τ s (fun t s1 => g t τ s1 D.nx) (xk τ D)
theorem js_asg {g : FG} {tg : Expr} (he : JE X cl W e Fa) (hg : JG X cl tg g) (hs : swapsWithSole [tg] e pos.line X.env = pure false := by rfl) (hw : swappedStores [tg] e X.env = pure none := by rfl)
    (h1 : (assignEach [tg] X.env).map (·.2) = [assign tg X.env] := by rfl) : JS X cl W (.Assign [tg] e pos) (fAsg Fa g) := by
  obtain ⟨g1, p1, i1⟩ := hg.ex
  refine ⟨fun τ s D D' le h => he.mon _ _ _ _ _ _ (fun _ _ q => hg.mon _ _ _ _ _ le.nx q) (fun _ _ q => le.xr _ _ _ q) h, PS.imp (ps_asg he.pe p1 hs hw h1) ?_⟩
  rintro D σ H ⟨Z, τ, s, re, so, h⟩
  exact go he.mon re so h (fun tx s1 v H1 p f1 re1 r1 so1 => i1 Z _ _ σ τ H1 s1 _ r1 re1 so1 (hg.mon _ _ _ _ _ (fun _ _ q => postE.up f1 q) p)) fun _ _ q => xe_w re q
/-- a, b = x, y -/
def fPar (i j : Nat) (A : FA) : FS := fun τ s D => A τ s (fun ts s1 => match ts with | [t, u] => D.nx ((τ.set i (some t)).set j (some u)) s1 | _ => False) (xk τ D)
theorem js_par {x y : Str} {px py pt : Pos} {kt k2 pt2} (hc : X.calm = true) (hN : X.N.Nodup) (hi : X.N[i]? = some x) (hj : X.N[j]? = some y) (hij : i ≠ j)
    (hx : X.env.scope.names.lookup x = some .local) (hy : X.env.scope.names.lookup y = some .local) (ha : JA X cl W [a, b] A) (hsw : swappedStores [.Tuple [.Name x px, .Name y py] kt pt] (.Tuple [a, b] k2 pt2) X.env = pure (some [x, y]) := by rfl) :
    JS X cl W (.Assign [.Tuple [.Name x px, .Name y py] kt pt] (.Tuple [a, b] k2 pt2) pos) (fPar i j A) := by
  refine ⟨fun τ s D D' le h => ha.mon _ _ _ _ _ _ (fun ts s1 q => ?_) (fun _ _ q => le.xr _ _ _ q) h, PS.imp (ps_par hc hN hi hj hij hx hy ha.pa hsw) ?_⟩
  · split at q
    · exact le.nx _ _ q
    · exact q.elim
  rintro D σ H ⟨Z, τ, s, re, so, h⟩
  refine goA ha.mon re so h (fun ts s1 vs H1 p f1 re1 r1 so1 => ?_) fun _ _ q => xe_w re q
  split at p
  · obtain ⟨v, w, rfl, rv, rw⟩ := reps2 r1
    exact ⟨v, w, rfl, p _ H1 f1 ((re1.set rv i).set rw j) so1⟩
  · exact p.elim
/-- o.f = e, o an instance that may change -/
def fFldS (cs : List Nat) (f : Str) (Fo Fa : FE) : FS := fun τ s D => Fa τ s (fun t s1 => Fo τ s1 (fun y s2 => match y with | .cell a => (match s2.on a with | some (.obj c fs) => c ∈ cs ∧ fs.length < 1000 ∧ D.nx τ (s2.put a (.obj c (putT f t fs))) | _ => False) | _ => False) (xk τ D)) (xk τ D)
theorem js_fld {cs : List Nat} {f : Str} (hcs : ∀ c ∈ cs, Cls X.K (cl c) ∧ NoAttr X.K (cl c) f) (ho : JE X cl W o Fo) (he : JE X cl W e Fa) (hs : swapsWith e (some (.Attribute o f pos')) pos.line X.env = pure false := by rfl) : JS X cl W (.Assign [.Attribute o f pos'] e pos) (fFldS cs f Fo Fa) := by
  refine ⟨fun τ s D D' le h => he.mon _ _ _ _ _ _ (fun t s1 q => ho.mon _ _ _ _ _ _ (fun y s2 q2 => ?_) (fun _ _ q => le.xr _ _ _ q) q) (fun _ _ q => le.xr _ _ _ q) h, PS.imp (ps_fld ho.pe he.pe hs) ?_⟩
  · split at q2
    · split at q2
      · exact ⟨q2.1, q2.2.1, le.nx _ _ q2.2.2⟩
      · exact q2.elim
    · exact q2.elim
  rintro D σ H ⟨Z, τ, s, re, so, h⟩
  refine go he.mon re so h (fun tx s1 v H1 p1 f1 re1 r1 so1 => ?_) fun _ _ q => xe_w re q
  refine go ho.mon re1 so1 p1 (fun ty s2 y H2 p2 f2 re2 r2 so2 => ?_) fun _ _ q => postW.up f1 (xe_w re q)
  split at p2
  · rename_i a
    cases r2
    split at p2
    · rename_i c fs hon
      obtain ⟨dx, fvs, h1, h2⟩ := so2.cells _ _ hon
      have hne : s2.on a ≠ none := by rw [hon]; exact Option.some_ne_none _
      refine ⟨a, _, dx, fvs, rfl, h1, (hcs c p2.1).1, (hcs c p2.1).2, by rw [h2.length]; exact p2.2.1, ?_⟩
      have fu : Fut s2 H2 (s2.put a (.obj c (putT f tx fs))) (upd H2 a (.ins (cl c) dx (putF f v fvs))) := Fut.cell hne
      exact p2.2.2 σ _ (f1.trans (f2.trans fu)) (re2.fut fu) (so2.cell hne ⟨dx, _, upd_same, (RepF.put (r1.fut f2) h2).fut fu⟩)
    · exact p2.elim
  · exact p2.elim
/-! ### errors -/
def fRaise (n : Nat) (fs : List Str) (A : FA) : FS := fun τ s D => A τ s (fun ts s1 => ts.length = fs.length ∧ D.xr ⟨n, fs.zip ts⟩ τ s1) (xk τ D)
theorem js_raise {fs : List Str} (hc : X.calm = true) (tk : Takes X W) (hX : XCall X.prog X.K (cl n) fs) (hT : OexC X.K (cl n)) (hr : Rm (k + 1) X.A) (hg : Gl X x) (hm : X.mg x = some (.ref (cl n))) (ha : JA X cl W (e :: es) A)
    (hdb : (x == ("__debug__" : Str)) = false := by decide) (he : starEach (e :: es) X.env = (false, eval e X.env) :: starEach es X.env := by rfl) (hpl : (backTo pos' (starEach es X.env)).any (·.1) = false := by rfl) :
    JS X cl W (.Raise (some (.Call (.Name x p) (e :: es) [] pos')) none pos) (fRaise n fs A) := by
  refine ⟨fun τ s D D' le h => ha.mon _ _ _ _ _ _ (fun ts s1 h1 => ⟨h1.1, le.xr _ _ _ h1.2⟩) (fun _ _ q => le.xr _ _ _ q) h, PS.imp (L2.ps_raise hc tk (pmk_x hX hT hr hg hm ha.pa hdb he hpl)) ?_⟩
  rintro D σ H ⟨Z, τ, s, re, so, h⟩
  refine goA ha.mon re so h (fun ts s1 vs H1 p1 f1 re1 r1 so1 => ⟨by rw [r1.length]; exact p1.1, fun dx hdx => ?_⟩) fun _ _ q => xe_w re q
  have fu : Fut s1 H1 s1 (upd H1 dx (.xd (fs.zip vs))) := Fut.new hdx
  exact p1.2 dx _ σ _ (f1.trans fu) upd_same (so1.nomut hdx) ((RepF.zip r1).fut fu) (re1.fut fu) (so1.new hdx)
/-- try: body except X as n: v = n -/
def fTry (ok : Nat → Prop) (i j : Nat) (B : FS) : FS := fun τ s D => B τ s { D with xr := fun er τ1 s1 => ok er.c ∧ D.nx (((τ1.set i (some (.err er.c er.fs))).set j (some (.err er.c er.fs))).set i none) s1 }
theorem js_try {body : List Stmt} {ok : Nat → Prop} {cc : Nat} {n v : Str} {np vp xp ap hp0 : Pos} (hs : X.stack = X.env :: X.outer) (hf : X.env.frame = some X.env.locals) (hex : X.ex = []) (hN : X.N.Nodup) (hi : X.N[i]? = some n) (hj : X.N[j]? = some v) (hln : X.env.kindOf n = some .local) (hlv : X.env.kindOf v = some .local) (hc : Names X x (.ref (cl cc)))
    (hok : ∀ c, ok c → PySem.W.exmOne X.K (.ref (cl c)) (.ref (cl cc)) = some true)
    (nd : (n == ("__debug__" : Str)) = false) (ncd : (n == ("__classdict__" : Str)) = false) (hij : i < X.N.length)
    (hb : ∀ (W' : WX) (pn : List (Addr × Obj)) (xe : Value → Shared → Prop), Takes (X.tr pn xe) W' → JSs (X.tr pn xe) cl W' body B)
    (hsw : swapsWith (.Name n xp) (some (.Name v vp)) ap.line X.env = pure false := by rfl) :
    JS X cl W (.Try body [.ExceptHandler (some (.Name x np)) (some n) [.Assign [.Name v vp] (.Name n xp) ap] hp0] [] [] pos) (fTry ok i j B) := by
  have mB : MonS B := (hb (fun _ _ _ _ => True) [] (fun _ _ => True) (fun _ _ _ => trivial)).mon
  refine ⟨fun τ s D D' le h => by
    unfold fTry at h ⊢
    refine mB _ _ _ _ ?_ h
    exact ⟨le.nx, le.rt, le.bk, le.ct, fun er τ1 s1 q => ⟨q.1, le.nx _ _ q.2⟩⟩, PS.imp (ps_try_keep (tb := fun W' => tTS X.K cl W' B) hs hf hex hN hi hj hln hlv hc nd ncd hij (fun W' pn xe tk => (hb W' pn xe tk).pss) hsw) ?_⟩
  rintro D σ H ⟨Z, τ, s, re, so, h⟩
  refine goS mB re so h ⟨fun _ _ q => q, fun _ _ q => q, fun _ _ q => q, fun _ _ q => q, fun er τ1 s1 q => ?_⟩
  intro d fvs σ1 H1 f1 hd m1 rf re1 so1
  refine ⟨_, d, rfl, rfl, hok _ q.1, fun a ha => ?_⟩
  have fu : Fut s1 H1 s1 (upd H1 a (exV (cl er.c) a d)) := Fut.new ha
  have rr : Rep X.K cl Z s1 (upd H1 a (exV (cl er.c) a d)) (.ref a) (.err er.c er.fs) := .err upd_same (so1.nomut ha) (by rw [upd_ne (ne_of_none hd ha)]; exact hd) m1 (rf.fut fu)
  exact q.2 _ _ (f1.trans fu) ((((re1.fut fu).set rr i).set rr j).set0 i) (so1.new ha)
end
end Mr

/-! The mirror layer: what loops and comprehensions walk. -/
namespace Mr
open PySem PySem.Spec PyProof.Rows L2 Tw
section
variable {K : PySem.W.Frag} {cl : CL} {Z Z' : Addr → Prop} {s s' : S} {H H' : Hp}
theorem Fz.futz {a : Addr} {u : HO} (n : Fz Z s a) (f : Fut s H s' H') (z : ∀ b, Z' b → Z b ∨ H b = none) (h : H a = some u) (nt : NT u) : Fz Z' s' a := ⟨(f.keep a _ h n.1 nt).2, fun q => (z a q).elim n.2 fun e => by rw [h] at e; cases e⟩
mutual
theorem Rep.futz (f : Fut s H s' H') (z : ∀ b, Z' b → Z b ∨ H b = none) : ∀ {v : V} {t : T}, Rep K cl Z s H v t → Rep K cl Z' s' H' v t
  | _, _, .non => .non
  | _, _, .bl b => .bl b
  | _, _, .int i => .int i
  | _, _, .str z => .str z
  | _, _, .lst h n r => .lst (f.keep _ _ h n.1 (NT.lst _)).1 (n.futz f z h (NT.lst _)) (r.futz f z)
  | _, _, .tup h n r => .tup (f.keep _ _ h n.1 (NT.tup _)).1 (n.futz f z h (NT.tup _)) (r.futz f z)
  | _, _, .tupK a b d e g r => .tupK a b d e g (r.futz f z)
  | _, _, .dct h n r => .dct (f.keep _ _ h n.1 (NT.dK _)).1 (n.futz f z h (NT.dK _)) (r.futz f z)
  | _, _, .obj h n r => .obj (f.keep _ _ h n.1 (NT.ins _ _ _)).1 (n.futz f z h (NT.ins _ _ _)) (r.futz f z)
  | _, _, .err h n h2 n2 r => .err (f.keep _ _ h n.1 (NT.exV _ _ _)).1 (n.futz f z h (NT.exV _ _ _)) (f.keep _ _ h2 n2.1 (NT.xd _)).1 (n2.futz f z h2 (NT.xd _)) (r.futz f z)
  | _, _, .cell a => .cell a
  | _, _, .pen h => .pen (f.pa _ h)
  | _, _, .ty n => .ty n
  | _, _, .lam h n r => .lam (f.keep _ _ h n.1 (NT.code _ _)).1 (n.futz f z h (NT.code _ _)) (r.futz f z)
theorem Reps.futz (f : Fut s H s' H') (z : ∀ b, Z' b → Z b ∨ H b = none) : ∀ {vs : List V} {ts : List T}, Reps K cl Z s H vs ts → Reps K cl Z' s' H' vs ts
  | _, _, .nil => .nil
  | _, _, .cons h r => .cons (h.futz f z) (r.futz f z)
theorem RepF.futz (f : Fut s H s' H') (z : ∀ b, Z' b → Z b ∨ H b = none) : ∀ {vs : List (Str × V)} {ts : List (Str × T)}, RepF K cl Z s H vs ts → RepF K cl Z' s' H' vs ts
  | _, _, .nil => .nil
  | _, _, .cons h r => .cons (h.futz f z) (r.futz f z)
theorem RepK.futz (f : Fut s H s' H') (z : ∀ b, Z' b → Z b ∨ H b = none) : ∀ {vs : List (Key × V)} {ts : List (Key × T)}, RepK K cl Z s H vs ts → RepK K cl Z' s' H' vs ts
  | _, _, .nil => .nil
  | _, _, .cons h r => .cons (h.futz f z) (r.futz f z)
theorem RepE.futz (f : Fut s H s' H') (z : ∀ b, Z' b → Z b ∨ H b = none) : ∀ {σ : L2.St} {τ : Env}, REnv K cl Z s H σ τ → REnv K cl Z' s' H' σ τ
  | _, _, .nil => .nil
  | _, _, .c0 r => .c0 (r.futz f z)
  | _, _, .c1 h r => .c1 (h.futz f z) (r.futz f z)
end
def wipeT (τ : Env) : List Nat → Env
  | [] => τ
  | v :: vs => (wipeT τ vs).set v none
theorem RepE.wipe {σ : L2.St} {τ : Env} (r : REnv K cl Z s H σ τ) : ∀ vs : List Nat, REnv K cl Z s H (L2.wipe σ vs) (wipeT τ vs)
  | [] => r
  | v :: vs => (RepE.wipe r vs).set0 v
end
/-- the source J gives the items ts one by one, as long as ok holds -/
structure Src (K : PySem.W.Frag) (cl : CL) (Z : Addr → Prop) (J : It) (ts : List T) (ok : S → Prop) (s0 : S) (H0 : Hp) : Prop where
  go : ∀ (Z' : Addr → Prop) (s : S) (H : Hp) (i : Nat) (t : T), Fut s0 H0 s H → (∀ b, Z' b → Z b ∨ H0 b = none) → ok s → Sto K cl Z' s H → ts[i]? = some t → J.go i H ∧ ∀ x H', J.yld i H x H' → Fut s H s H' ∧ Sto K cl Z' s H' ∧ Rep K cl Z' s H' x t
  stop : ∀ (Z' : Addr → Prop) (s : S) (H : Hp) (i : Nat), Fut s0 H0 s H → (∀ b, Z' b → Z b ∨ H0 b = none) → ok s → Sto K cl Z' s H → ts.length ≤ i → J.stop i H
abbrev FI := Env → S → (List T → (S → Prop) → S → Prop) → KX → Prop
def tTI (K : PySem.W.Frag) (cl : CL) (W : WX) (I : FI) : TI := fun σ H R => ∃ Z τ s, REnv K cl Z s H σ τ ∧ Sto K cl Z s H ∧ I τ s (fun ts ok s1 => ∀ J H1, Fut s H s1 H1 → Sto K cl Z s1 H1 → Src K cl Z J ts ok s1 H1 → R J H1) (postW K cl Z s H σ W)
def MonI (I : FI) : Prop := ∀ τ s (Q Q' : List T → (S → Prop) → S → Prop) (E E' : KX), (∀ ts ok s, Q ts ok s → Q' ts ok s) → (∀ e s, E e s → E' e s) → I τ s Q E → I τ s Q' E'
structure JI (X : Cx) (cl : CL) (W : WX) (tg iter : Expr) (I : FI) : Prop where
  mon : MonI I
  pi : PI X tg iter (tTI X.K cl W I)
section
variable {X : Cx} {cl : CL} {W : WX} {tg e a b c o : Expr} {es : List Expr} {F Fa Fb Fc Fo : FE} {G Ga Gb : FT} {A : FA} {pos p apos pos' : Pos} {rest : List Expr} {x m : Str} {k j n i : Nat} {st : Stmt} {sts : List Stmt} {B B1 B2 : FS} {I : FI}
theorem PI.imp {iter : Expr} {w w' : TI} (h : PI X tg iter w) (i : ∀ σ H R, w' σ H R → w σ H R) : PI X tg iter w' := ⟨fun pins s σ H R I z => h.run pins s σ H R I (i σ H R z)⟩
/-- a list, a tuple or a text, as it comes -/
def iAny (K : PySem.W.Frag) (te : TE) : TI := fun σ H R => te σ H fun x H1 => (∃ a, x = .ref a ∧ (∃ xs, SqL K H1 a xs) ∧ R (Itl K a) H1) ∨ (∃ a, x = .ref a ∧ (∃ xs, SqT K H1 a xs) ∧ R (Itt K a) H1) ∨ ∃ z, x = .str z ∧ R (Its z) H1
theorem pi_any {te : TE} (he : PE X e te) : PI X tg e (iAny X.K te) := by
  refine ⟨fun pins s σ H R I h => ?_⟩
  refine thn (he.run pins s σ H _ I h) fun v s1 ⟨x, H1, I1, r1, q1⟩ => ?_
  rcases q1 with ⟨a, rfl, ⟨xs, hq⟩, q⟩ | ⟨a, rfl, ⟨xs, hq⟩, q⟩ | ⟨z, rfl, q⟩
  · cases r1
    obtain ⟨its, rv, p, hz⟩ := I1.list hq
    refine wpAny_pyIter_list p.isList ?_
    refine ⟨s1.heap.objs.size, [s1.heap.objs.size], _, _, H1, rfl, I1.kept (t' := s1.toks) fun b o e => Heap.get?_push_of_some _ e, turn_list a _, ⟨_, Heap.get?_push_size _ rfl, rfl, rfl⟩, fun b hb => ?_, q⟩
    have e : b = s1.heap.objs.size := by simpa using hb
    subst e
    exact I1.fpOk (Nat.le_refl _) (I1.hok.fresh (Nat.le_refl _))
  · cases r1
    obtain ⟨its, rv, p, hz⟩ := I1.tuple hq
    refine wpAny_pyIter_tuple (show s1.heap.IsTuple a its.toArray from p) ?_
    refine ⟨s1.heap.objs.size, [s1.heap.objs.size], _, _, H1, rfl, I1.kept (t' := s1.toks) fun b o e => Heap.get?_push_of_some _ e, turn_tuple a _, ⟨_, Heap.get?_push_size _ rfl, rfl, rfl⟩, fun b hb => ?_, q⟩
    have e : b = s1.heap.objs.size := by simpa using hb
    subst e
    exact I1.fpOk (Nat.le_refl _) (I1.hok.fresh (Nat.le_refl _))
  · obtain ⟨t, rfl⟩ := r1
    cases ha : z.cps.all (· < 128)
    · exact wpAny_pyIter_wide ha (pi_one (tk := s1.toks) I1 _ (turn_str _ z t "str_iterator" (.inr rfl)) ⟨_, Heap.get?_push_size _ rfl, rfl, rfl⟩ q)
    · exact wpAny_pyIter_ascii ha (pi_one (tk := s1.toks) I1 _ (turn_str _ z t "str_ascii_iterator" (.inl rfl)) ⟨_, Heap.get?_push_size _ rfl, rfl, rfl⟩ q)
def okAt (t : T) (xs : List T) : S → Prop := match t with | .cell a => fun s => s.on a = some (.lst xs) | _ => fun _ => True
/-- the items of what is walked -/
def S.its? (s : S) : T → Option (List T)
  | .str z => some (z.cps.toList.map fun c => .str ⟨#[c]⟩)
  | t => (s.seq? t).map (·.2)
def iSeq (Fa : FE) : FI := fun τ s Q E => Fa τ s (fun x s1 => match s1.its? x with | some ts => Q ts (okAt x ts) s1 | none => False) E
theorem src_str {K : PySem.W.Frag} {Z : Addr → Prop} {s : S} {H : Hp} (z : Str) (ok : S → Prop) : Src K cl Z (Its z) (z.cps.toList.map fun c => .str ⟨#[c]⟩) ok s H where
  go := fun Z' s H i t f zz ok so e => by
    rw [List.getElem?_map, Array.getElem?_toList] at e
    obtain ⟨c, e1, rfl⟩ := Option.map_eq_some_iff.mp e
    refine ⟨?_, ?_⟩
    · show i < z.cps.size
      by_cases q : i < z.cps.size
      · exact q
      · rw [Array.getElem?_eq_none (by omega)] at e1
        cases e1
    · rintro x H' ⟨rfl, d, hd, rfl⟩
      rw [e1] at hd
      cases hd
      exact ⟨Fut.refl _ _, so, .str _⟩
  stop := fun Z' s H i f zz ok so h => by
    rw [List.length_map, Array.length_toList] at h
    exact h
theorem tup_keep {K : PySem.W.Frag} {Z : Addr → Prop} {s : S} {H : Hp} {v : V} {xs : List T} (r : Rep K cl Z s H v (.tup xs)) : ∃ a vs, v = .ref a ∧ Reps K cl Z s H vs xs ∧ ∀ s' H', Fut s H s' H' → SqT K H' a vs := by
  cases r with
  | tup h n q => exact ⟨_, _, rfl, q, fun s' H' f => SqT.of (f.keep _ _ h n.1 (NT.tup _)).1⟩
  | tupK a b c d e q => exact ⟨_, _, rfl, q, fun _ _ _ => .inr ⟨_, _, _, a, b, c, d, e⟩⟩
theorem ji_seq (ha : JE X cl W e Fa) : JI X cl W tg e (iSeq Fa) := by
  refine ⟨fun τ s Q Q' E E' hq he h => ha.mon _ _ _ _ _ _ (fun x s1 h1 => ?_) he h, PI.imp (pi_any ha.pe) ?_⟩
  · split at h1
    · exact hq _ _ _ h1
    · exact h1
  rintro σ H R ⟨Z, τ, s, re, so, h⟩
  refine go ha.mon re so h (fun tx s1 x H1 p1 f1 re1 r1 so1 => ?_) fun _ _ q => q
  split at p1
  · rename_i ts e1
    unfold S.its? at e1
    split at e1
    · rename_i z
      cases e1
      cases rep_s r1
      exact .inr (.inr ⟨z, rfl, p1 _ _ f1 so1 (src_str z _)⟩)
    · obtain ⟨⟨b, ys⟩, e2, rfl⟩ := Option.map_eq_some_iff.mp e1
      cases tx with
      | lst zs =>
        cases e2
        cases r1 with
        | lst h n rs =>
          refine .inl ⟨_, rfl, ⟨_, SqL.of h⟩, p1 _ _ f1 so1 ⟨fun Z' s2 H2 i t f zz ok so2 e => ?_, fun Z' s2 H2 i f zz ok so2 e => ?_⟩⟩
          · have h2 := (f.keep _ _ h n.1 (NT.lst _)).1
            obtain ⟨v, ev, rv⟩ := rs.get i e
            refine ⟨⟨_, v, SqL.of h2, ev⟩, ?_⟩
            rintro y H' ⟨rfl, hy⟩
            have ey := hy _ (SqL.of h2)
            rw [ev] at ey
            cases ey
            exact ⟨Fut.refl _ _, so2, rv.futz f zz⟩
          · have h2 := (f.keep _ _ h n.1 (NT.lst _)).1
            exact ⟨_, SqL.of h2, by rw [rs.length]; exact e⟩
      | tup zs =>
        cases e2
        obtain ⟨a, vs, rfl, rs, keep⟩ := tup_keep r1
        refine .inr (.inl ⟨a, rfl, ⟨vs, keep _ _ (Fut.refl _ _)⟩, p1 _ _ f1 so1 ⟨fun Z' s2 H2 i t f zz ok so2 e => ?_, fun Z' s2 H2 i f zz ok so2 e => ?_⟩⟩)
        · obtain ⟨v, ev, rv⟩ := rs.get i e
          refine ⟨⟨_, v, keep _ _ f, ev⟩, ?_⟩
          rintro y H' ⟨rfl, hy⟩
          have ey := hy _ (keep _ _ f)
          rw [ev] at ey
          cases ey
          exact ⟨Fut.refl _ _, so2, rv.futz f zz⟩
        · exact ⟨_, keep _ _ f, by rw [rs.length]; exact e⟩
      | cell a =>
        cases r1
        have e2' := e2
        unfold S.seq? at e2
        dsimp only at e2
        split at e2
        · rename_i zs ho
          cases e2
          obtain ⟨vs, h1, h2⟩ := so1.cells _ _ ho
          refine .inl ⟨_, rfl, ⟨_, SqL.of h1⟩, p1 _ _ f1 so1 ⟨fun Z' s2 H2 i t f zz ok so2 e => ?_, fun Z' s2 H2 i f zz ok so2 e => ?_⟩⟩
          · obtain ⟨ws, h3, h4⟩ := so2.cells _ _ (show s2.on a = some (.lst ys) from ok)
            obtain ⟨v, ev, rv⟩ := h4.get i e
            refine ⟨⟨_, v, SqL.of h3, ev⟩, ?_⟩
            rintro y H' ⟨rfl, hy⟩
            have ey := hy _ (SqL.of h3)
            rw [ev] at ey
            cases ey
            exact ⟨Fut.refl _ _, so2, rv⟩
          · obtain ⟨ws, h3, h4⟩ := so2.cells _ _ (show s2.on a = some (.lst ys) from ok)
            exact ⟨_, SqL.of h3, by rw [h4.length]; exact e⟩
        · cases e2
      | _ => cases e2
  · exact p1.elim
end
end Mr

/-! The mirror layer: loops, comprehensions, texts. -/
namespace Mr
open PySem PySem.Spec PyProof.Rows L2 Tw
section
variable {X : Cx} {cl : CL} {W : WX} {tg e a b c o : Expr} {es : List Expr} {F Fa Fb Fc Fo : FE} {G Ga Gb : FT} {A : FA} {pos p apos pos' : Pos} {rest : List Expr} {x m : Str} {k j n i : Nat} {st : Stmt} {sts : List Stmt} {B B1 B2 : FS} {I : FI}
/-! ### ranges -/
def rng (lo : Int) (n : Nat) : List T := (List.range n).map fun k : Nat => .int (lo + (k : Int))
theorem src_rng {K : PySem.W.Frag} {Z : Addr → Prop} {s : S} {H : Hp} (lo : Int) (n : Nat) : Src K cl Z (Itr lo n) (rng lo n) (fun _ => True) s H where
  go := fun Z' s H i t f zz ok so e => by
    unfold rng at e
    rw [List.getElem?_map] at e
    obtain ⟨c, e1, rfl⟩ := Option.map_eq_some_iff.mp e
    have hlt : i < n := by
      have := (List.getElem?_eq_some_iff.mp e1).1
      rw [List.length_range] at this
      exact this
    rw [List.getElem?_range hlt] at e1
    cases e1
    refine ⟨hlt, ?_⟩
    rintro x H' ⟨rfl, rfl⟩
    exact ⟨Fut.refl _ _, so, .int _⟩
  stop := fun Z' s H i f zz ok so h => by
    unfold rng at h
    rw [List.length_map, List.length_range] at h
    exact h
def iRange1 (A : FA) : FI := fun τ s Q E => A τ s (fun ts s1 => match ts with | [.int j] => (-(2 ^ 62) ≤ j ∧ j < 2 ^ 62) ∧ Q (rng 0 j.toNat) (fun _ => True) s1 | _ => False) E
def iRange2 (A : FA) : FI := fun τ s Q E => A τ s (fun ts s1 => match ts with | [.int i, .int j] => (-(2 ^ 62) ≤ i ∧ i < 2 ^ 62 ∧ -(2 ^ 62) ≤ j ∧ j < 2 ^ 62) ∧ Q (rng i (j - i).toNat) (fun _ => True) s1 | _ => False) E
theorem ji_range1 (hg : Gl X "range") (hm : X.mg "range" = none) (ha : JA X cl W [a] A) (hs : starEach [a] X.env = [(false, eval a X.env)] := by rfl) : JI X cl W tg (.Call (.Name "range" p) [a] [] pos) (iRange1 A) := by
  refine ⟨fun τ s Q Q' E E' hq he h => ha.mon _ _ _ _ _ _ (fun ts s1 h1 => ?_) he h, PI.imp (pi_range1 hg hm ha.pa hs) ?_⟩
  · split at h1
    · exact ⟨h1.1, hq _ _ _ h1.2⟩
    · exact h1
  rintro σ H R ⟨Z, τ, s, re, so, h⟩
  refine goA ha.mon re so h (fun ts s1 vs H1 p1 f1 re1 r1 so1 => ?_) fun _ _ q => q
  split at p1
  · obtain ⟨v, rfl, rv⟩ := reps1 r1
    cases rep_i rv
    exact ⟨_, rfl, p1.1.1, p1.1.2, p1.2 _ _ f1 so1 (src_rng _ _)⟩
  · exact p1.elim
theorem ji_range2 (hg : Gl X "range") (hm : X.mg "range" = none) (ha : JA X cl W [a, b] A) (hs : starEach [a, b] X.env = [(false, eval a X.env), (false, eval b X.env)] := by rfl) (hs2 : starEach [b] X.env = [(false, eval b X.env)] := by rfl) : JI X cl W tg (.Call (.Name "range" p) [a, b] [] pos) (iRange2 A) := by
  refine ⟨fun τ s Q Q' E E' hq he h => ha.mon _ _ _ _ _ _ (fun ts s1 h1 => ?_) he h, PI.imp (pi_range2 hg hm ha.pa hs hs2) ?_⟩
  · split at h1
    · exact ⟨h1.1, hq _ _ _ h1.2⟩
    · exact h1
  rintro σ H R ⟨Z, τ, s, re, so, h⟩
  refine goA ha.mon re so h (fun ts s1 vs H1 p1 f1 re1 r1 so1 => ?_) fun _ _ q => q
  split at p1
  · obtain ⟨v, w, rfl, rv, rw⟩ := reps2 r1
    cases rep_i rv
    cases rep_i rw
    exact ⟨_, _, rfl, p1.1, p1.2 _ _ f1 so1 (src_rng _ _)⟩
  · exact p1.elim
/-! ### for -/
def forT (ok : S → Prop) (g : FG) (B : FS) : List T → Env → S → DS → Prop
  | [], τ, s, D => ok s ∧ D.nx τ s
  | t :: ts, τ, s, D => ok s ∧ g t τ s fun τ1 s1 => B τ1 s1 ⟨fun τ2 s2 => forT ok g B ts τ2 s2 D, D.rt, D.nx, fun τ2 s2 => forT ok g B ts τ2 s2 D, D.xr⟩
def fFor (I : FI) (g : FG) (B : FS) : FS := fun τ s D => I τ s (fun ts ok s1 => forT ok g B ts τ s1 D) (xk τ D)
theorem mon_forT {ok : S → Prop} {g : FG} (mg : ∀ t τ s (Q Q' : Env → S → Prop), (∀ τ s, Q τ s → Q' τ s) → g t τ s Q → g t τ s Q') (mB : MonS B) : ∀ (ts : List T) (τ : Env) (s : S) (D D' : DS), D.Le D' → forT ok g B ts τ s D → forT ok g B ts τ s D'
  | [], τ, s, D, D', le, h => ⟨h.1, le.nx _ _ h.2⟩
  | t :: ts, τ, s, D, D', le, h => by
    refine ⟨h.1, mg _ _ _ _ _ (fun τ1 s1 q => ?_) h.2⟩
    refine mB _ _ _ _ ?_ q
    exact ⟨fun _ _ q => mon_forT mg mB ts _ _ _ _ le q, le.rt, le.nx, fun _ _ q => mon_forT mg mB ts _ _ _ _ le q, le.xr⟩
theorem js_for {iter : Expr} {body : List Stmt} {g : FG} (hp : PassesOwn (model X.prog X.w) X.A X.env X.xe) (hc : X.calm = true) (hi : JI X cl W tg iter I) (hg : JG X cl tg g) (hb : JSs X cl W body B)
    (hs : ∀ x, foldedSetIterable iter X.env x = pure x := by intro _; rfl) : JS X cl W (.For tg iter body [] pos) (fFor I g B) := by
  obtain ⟨g1, pg, i1⟩ := hg.ex
  refine ⟨fun τ s D D' le h => hi.mon _ _ _ _ _ _ (fun ts ok s1 h1 => mon_forT hg.mon hb.mon _ _ _ _ _ le h1) (fun _ _ q => le.xr _ _ _ q) h, PS.imp (ps_for hp hc hi.pi pg hb.pss hs) ?_⟩
  rintro D σ H ⟨Z, τ, s, re, so, h⟩
  refine ⟨Z, τ, s, re, so, hi.mon _ _ _ _ _ _ (fun ts ok s1 h1 J H1 f1 so1 src => ?_) (fun _ _ q => xe_w re q) h⟩
  refine ⟨fun i m σ' H' => ∃ τ' s', m = ts.length - i ∧ i ≤ ts.length ∧ Fut s1 H1 s' H' ∧ REnv X.K cl Z s' H' σ' τ' ∧ Sto X.K cl Z s' H' ∧ forT ok g B (ts.drop i) τ' s' (postD X.K cl Z s H W D), ⟨_, τ, s1, rfl, Nat.zero_le _, Fut.refl _ _, re.fut f1, so1, h1⟩, ?_⟩
  rintro i m σ' H' ⟨τ', s', rfl, hi', f', re', so', h'⟩
  by_cases hlt : i < ts.length
  · rw [List.drop_eq_getElem_cons hlt] at h'
    obtain ⟨hok, h'⟩ := h'
    obtain ⟨jg, jy⟩ := src.go Z s' H' i _ f' (fun b q => .inl q) hok so' (List.getElem?_eq_getElem hlt)
    refine .inr ⟨jg, fun σ2 H2 => ∃ τ2 s2, Fut s1 H1 s2 H2 ∧ REnv X.K cl Z s2 H2 σ2 τ2 ∧ Sto X.K cl Z s2 H2 ∧ forT ok g B (ts.drop (i + 1)) τ2 s2 (postD X.K cl Z s H W D), ?_, fun y H2 yl => ?_⟩
    · rintro σ2 H2 ⟨τ2, s2, f2, re2, so2, h2⟩
      exact ⟨ts.length - (i + 1), by omega, τ2, s2, rfl, hlt, f2, re2, so2, h2⟩
    · obtain ⟨fy, soy, ry⟩ := jy y H2 yl
      refine i1 Z _ _ σ' τ' H2 s' _ ry (re'.fut fy) soy (hg.mon _ _ _ _ _ (fun τ3 s3 q σ3 H3 f3 re3 so3 => ?_) h')
      refine goS hb.mon re3 so3 q ?_
      have fu := f'.trans (fy.trans f3)
      exact ⟨fun τ4 s4 q4 σ4 H4 f4 re4 so4 => ⟨τ4, s4, fu.trans f4, re4, so4, q4⟩, fun t s4 q4 => post.up (f1.trans fu) q4, fun τ4 s4 q4 => postE.up (f1.trans fu) q4, fun τ4 s4 q4 σ4 H4 f4 re4 so4 => ⟨τ4, s4, fu.trans f4, re4, so4, q4⟩, fun er τ4 s4 q4 => postXE.up (f1.trans fu) q4⟩
  · have e : i = ts.length := by omega
    subst e
    rw [List.drop_length] at h'
    exact .inl ⟨src.stop Z s' H' _ f' (fun b q => .inl q) h'.1 so' (Nat.le_refl _), h'.2 σ' H' (f1.trans f') re' so'⟩
/-! ### while, by a bound on its turns -/
def whT (G : FT) (B : FS) : Nat → Env → S → DS → Prop
  | 0, _, _, _ => False
  | m + 1, τ, s, D => G τ s (fun b s1 => if b = true then B τ s1 ⟨fun τ2 s2 => whT G B m τ2 s2 D, D.rt, D.nx, fun τ2 s2 => whT G B m τ2 s2 D, D.xr⟩ else D.nx τ s1) (xk τ D)
def fWhile (G : FT) (B : FS) : FS := fun τ s D => ∃ m, whT G B m τ s D
theorem mon_whT (mG : MonT G) (mB : MonS B) : ∀ (m : Nat) (τ : Env) (s : S) (D D' : DS), D.Le D' → whT G B m τ s D → whT G B m τ s D'
  | 0, _, _, _, _, _, h => h
  | m + 1, τ, s, D, D', le, h => by
    refine mG _ _ _ _ _ _ (fun b s1 q => w_ite q (fun q => ?_) (le.nx _ _)) (fun _ _ q => le.xr _ _ _ q) h
    refine mB _ _ _ _ ?_ q
    exact ⟨fun _ _ q => mon_whT mG mB m _ _ _ _ le q, le.rt, le.nx, fun _ _ q => mon_whT mG mB m _ _ _ _ le q, le.xr⟩
theorem js_while {body : List Stmt} (hp : PassesOwn (model X.prog X.w) X.A X.env X.xe) (hc : JT X cl W c G) (hb : JSs X cl W body B) : JS X cl W (.While c body [] pos) (fWhile G B) := by
  refine ⟨fun τ s D D' le ⟨m, h⟩ => ⟨m, mon_whT hc.mon hb.mon m _ _ _ _ le h⟩, PS.imp (ps_while hp hc.pt hb.pss) ?_⟩
  rintro D σ H ⟨Z, τ, s, re, so, m, h⟩
  refine ⟨fun m σ' H' => ∃ τ' s', Fut s H s' H' ∧ REnv X.K cl Z s' H' σ' τ' ∧ Sto X.K cl Z s' H' ∧ whT G B m τ' s' (postD X.K cl Z s H W D), ⟨m, τ, s, Fut.refl _ _, re, so, h⟩, ?_⟩
  rintro m σ' H' ⟨τ', s', f', re', so', h'⟩
  cases m with
  | zero => exact h'.elim
  | succ m =>
    refine goT hc.mon re' so' h' (fun b s1 H1 p1 f1 re1 so1 => w_ite p1 (fun q => ?_) fun q => q σ' H1 (f'.trans f1) re1 so1) fun _ _ q => xe_w re' (postXE.up f' q)
    refine ⟨fun σ2 H2 => ∃ τ2 s2, Fut s H s2 H2 ∧ REnv X.K cl Z s2 H2 σ2 τ2 ∧ Sto X.K cl Z s2 H2 ∧ whT G B m τ2 s2 (postD X.K cl Z s H W D), fun σ2 H2 q2 => ⟨m, Nat.lt_succ_self m, q2⟩, ?_⟩
    refine goS hb.mon re1 so1 q ?_
    have fu := f'.trans f1
    exact ⟨fun τ4 s4 q4 σ4 H4 f4 re4 so4 => ⟨τ4, s4, fu.trans f4, re4, so4, q4⟩, fun t s4 q4 => post.up fu q4, fun τ4 s4 q4 => postE.up fu q4, fun τ4 s4 q4 σ4 H4 f4 re4 so4 => ⟨τ4, s4, fu.trans f4, re4, so4, q4⟩, fun er τ4 s4 q4 => postXE.up fu q4⟩
/-! ### list comprehensions (no error leaves them) -/
/-- a comprehension's target: its slots are among vs -/
structure GT (K : PySem.W.Frag) (cl : CL) (vs : List Nat) (g : TG) (G : FG) : Prop where
  mv : ∀ v σ H (Q Q' : L2.St → Hp → Prop), (∀ σ H, Q σ H → Q' σ H) → g v σ H Q → g v σ H Q'
  mon : ∀ t τ s (Q Q' : Env → S → Prop), (∀ τ s, Q τ s → Q' τ s) → G t τ s Q → G t τ s Q'
  go : ∀ (Z : Addr → Prop) (t : T) (v : V) (σ : L2.St) (τ : Env) (H : Hp) (s : S) (Q : L2.St → Hp → Prop), Rep K cl Z s H v t → REnv K cl Z s H σ τ → Sto K cl Z s H → G t τ s (postE K cl Z s H Q) → g v σ H fun σ2 H2 => L2.wipe σ2 vs = L2.wipe σ vs ∧ Q σ2 H2
structure GTs (K : PySem.W.Frag) (cl : CL) (vs : List Nat) (g : TGs) (G : FGs) : Prop where
  mv : ∀ ws σ H (Q Q' : L2.St → Hp → Prop), (∀ σ H, Q σ H → Q' σ H) → g ws σ H Q → g ws σ H Q'
  mon : ∀ t τ s (Q Q' : Env → S → Prop), (∀ τ s, Q τ s → Q' τ s) → G t τ s Q → G t τ s Q'
  go : ∀ (Z : Addr → Prop) (ts : List T) (ws : List V) (σ : L2.St) (τ : Env) (H : Hp) (s : S) (Q : L2.St → Hp → Prop), Reps K cl Z s H ws ts → REnv K cl Z s H σ τ → Sto K cl Z s H → G ts τ s (postE K cl Z s H Q) → g ws σ H fun σ2 H2 => L2.wipe σ2 vs = L2.wipe σ vs ∧ Q σ2 H2
theorem wipe_comm (σ : L2.St) (i : Nat) (x : Option V) : ∀ vs : List Nat, i ∈ vs → L2.wipe (σ.set i x) vs = L2.wipe σ vs
  | [], h => by cases h
  | v :: vs, h => by
    show (L2.wipe (σ.set i x) vs).set v none = (L2.wipe σ vs).set v none
    by_cases hv : i ∈ vs
    · rw [wipe_comm σ i x vs hv]
    · have e : i = v := (List.mem_cons.mp h).resolve_right hv
      subst e
      have out : ∀ (vs : List Nat), i ∉ vs → L2.wipe (σ.set i x) vs = (L2.wipe σ vs).set i x := by
        intro vs
        induction vs with
        | nil => intro _; rfl
        | cons w ws ih =>
          intro hn
          show (L2.wipe (σ.set i x) ws).set w none = ((L2.wipe σ ws).set w none).set i x
          rw [ih (fun q => hn (List.mem_cons_of_mem _ q)), List.set_comm _ _ (fun q => hn (by rw [q]; exact List.mem_cons_self))]
      rw [out vs hv, List.set_set]
theorem wipe_wipe (σ : L2.St) : ∀ vs : List Nat, L2.wipe (L2.wipe σ vs) vs = L2.wipe σ vs
  | [] => rfl
  | v :: vs => by
    show L2.wipe ((L2.wipe σ vs).set v none) (v :: vs) = (L2.wipe σ vs).set v none
    rw [wipe_comm _ v none (v :: vs) List.mem_cons_self]
    show (L2.wipe (L2.wipe σ vs) vs).set v none = _
    rw [wipe_wipe σ vs]
theorem gt_name {K : PySem.W.Frag} {vs : List Nat} (h : i ∈ vs) : GT K cl vs (gName i) (gN i) :=
  ⟨fun _ _ _ _ _ hq h => hq _ _ h, fun _ _ _ _ _ hq h => hq _ _ h, fun Z t v σ τ H s Q r re so q => ⟨wipe_comm σ i _ vs h, q _ H (Fut.refl _ _) (re.set r i) so⟩⟩
theorem gts_nil {K : PySem.W.Frag} {vs : List Nat} : GTs K cl vs gNil gsNil := by
  refine ⟨fun _ _ _ _ _ hq h => ⟨h.1, hq _ _ h.2⟩, fun ts τ s Q Q' hq h => ?_, fun Z ts ws σ τ H s Q r re so h => ?_⟩
  · unfold gsNil at h ⊢
    split at h
    · exact hq _ _ h
    · exact h
  · unfold gsNil at h
    split at h
    · cases r
      exact ⟨rfl, rfl, h _ H (Fut.refl _ _) re so⟩
    · exact h.elim
theorem gts_cons {K : PySem.W.Frag} {vs : List Nat} {g : TG} {gs : TGs} {G : FG} {Gs : FGs} (h1 : GT K cl vs g G) (h2 : GTs K cl vs gs Gs) : GTs K cl vs (gCons g gs) (gsCons G Gs) := by
  have mg := h1.mv
  have ms := h2.mv
  refine ⟨fun ws σ H Q Q' hq ⟨v, r, e, h⟩ => ⟨v, r, e, mg _ _ _ _ _ (fun σ1 H1 q => ms _ _ _ _ _ hq q) h⟩, fun ts τ s Q Q' hq h => ?_, fun Z ts ws σ τ H s Q r re so h => ?_⟩
  · unfold gsCons at h ⊢
    split at h
    · exact h1.mon _ _ _ _ _ (fun _ _ q => h2.mon _ _ _ _ _ hq q) h
    · exact h
  · unfold gsCons at h
    split at h
    · cases r with
      | @cons v0 t0 vs0 ts0 r rs =>
        have q1 : g v0 σ H fun σ1 H1 => L2.wipe σ1 vs = L2.wipe σ vs ∧ gs vs0 σ1 H1 fun σ2 H2 => L2.wipe σ2 vs = L2.wipe σ1 vs ∧ Q σ2 H2 := by
          refine h1.go Z _ _ σ τ H s _ r re so (h1.mon _ _ _ _ _ ?_ h)
          intro τ1 s1 q σ1 H1 f re1 so1
          exact h2.go Z _ _ σ1 τ1 H1 s1 Q (rs.fut f) re1 so1 (h2.mon _ _ _ _ _ (fun _ _ q => postE.up f q) q)
        exact ⟨_, _, rfl, mg _ _ _ _ _ (fun σ1 H1 q => ms _ _ _ _ _ (fun σ2 H2 q2 => ⟨q2.1.trans q.1, q2.2⟩) q.2) q1⟩
    · exact h.elim
theorem gt_tup {K : PySem.W.Frag} {vs : List Nat} {gs : TGs} {Gs : FGs} (h : GTs K cl vs gs Gs) : GT K cl vs (gTup K n gs) (gT n Gs) := by
  refine ⟨fun v σ H Q Q' hq ⟨a, xs, e, h1, h2, h3⟩ => ⟨a, xs, e, h1, h2, h.mv _ _ _ _ _ hq h3⟩, fun ts τ s Q Q' hq q => ?_, fun Z t v σ τ H s Q r re so q => ?_⟩
  · unfold gT at q ⊢
    split at q
    · exact ⟨q.1, h.mon _ _ _ _ _ hq q.2⟩
    · exact q
  · unfold gT at q
    split at q
    · obtain ⟨a, ws, rfl, ht, rs⟩ := tup_of r
      exact ⟨a, ws, rfl, ht, by rw [rs.length]; exact q.1, h.go Z _ _ σ τ H s Q rs re so q.2⟩
    · exact q.elim
abbrev W0 : WX := fun _ _ _ _ => False
abbrev noX : KX := fun _ _ => False
def lcT (ok : S → Prop) (g : FG) (tt : FT) (te : FE) (τ : Env) : List T → List T → S → (List T → S → Prop) → Prop
  | [], acc, s, Q => ok s ∧ Q acc s
  | t :: ts, acc, s, Q => ok s ∧ acc.length < 1000000 ∧ g t τ s fun τ1 s1 => tt τ1 s1 (fun b s2 => if b = true then te τ1 s2 (fun y s3 => lcT ok g tt te τ ts (acc ++ [y]) s3 Q) noX else lcT ok g tt te τ ts acc s2 Q) noX
def fLc (I : FI) (g : FG) (tt : FT) (te : FE) (vs : List Nat) : FE := fun τ s Q E => I τ s (fun ts ok s1 => lcT ok g tt te (wipeT τ vs) ts [] s1 fun ys s2 => Q (.lst ys) s2) E
theorem mon_lcT {ok : S → Prop} {g : FG} {tt : FT} {te : FE} {τ : Env} (mg : ∀ t τ s (Q Q' : Env → S → Prop), (∀ τ s, Q τ s → Q' τ s) → g t τ s Q → g t τ s Q') (mt : MonT tt) (me : MonE te) : ∀ (ts acc : List T) (s : S) (Q Q' : List T → S → Prop), (∀ ys s, Q ys s → Q' ys s) → lcT ok g tt te τ ts acc s Q → lcT ok g tt te τ ts acc s Q'
  | [], acc, s, Q, Q', hq, h => ⟨h.1, hq _ _ h.2⟩
  | t :: ts, acc, s, Q, Q', hq, h => ⟨h.1, h.2.1, mg _ _ _ _ _ (fun τ1 s1 q => mt _ _ _ _ _ _ (fun b s2 q2 => w_ite q2 (me _ _ _ _ _ _ (fun y s3 q3 => mon_lcT mg mt me ts _ _ _ _ hq q3) fun _ _ q => q) (mon_lcT mg mt me ts _ _ _ _ hq)) (fun _ _ q => q) q) h.2.2⟩
/-- the tests of a clause -/
def fYes : FT := fun _ s Q _ => Q true s
theorem mon_yes : MonT fYes := fun _ _ _ _ _ _ hq _ h => hq _ _ h
theorem yes_go {K : PySem.W.Frag} {W : WX} {σ : L2.St} {H : Hp} {Q : Bool → Hp → Prop} (h : tTT K cl W fYes σ H Q) : tYes σ H Q := by
  obtain ⟨Z, τ, s, re, so, h⟩ := h
  exact h H (Fut.refl _ _) so
theorem lc_imp {K : PySem.W.Frag} {vs : List Nat} {g : TG} {g' : FG} {ttV : TT} {tt : FT} {te : FE} (mi : MonI I) (hG : GT K cl vs g g') (mt : MonT tt) (ht : ∀ σ H Q, tTT K cl W0 tt σ H Q → ttV σ H Q) (me : MonE te)
    {σ : L2.St} {H : Hp} {Q : VK} (h : tT K cl W (fLc I g' tt te vs) σ H Q) : tLc (tTI K cl W I) g ttV (tT K cl W0 te) vs σ H Q := by
  obtain ⟨Z, τ, s, re, so, h⟩ := h
  refine ⟨Z, τ, s, re, so, mi _ _ _ _ _ _ (fun ts ok s1 h1 J H1 f1 so1 src D hD => ?_) (fun _ _ q => q) h⟩
  have k1 : Fut s1 H1 s1 (upd H1 D (.lst [])) := Fut.new hD
  have zz : ∀ b, Hide Z D b → Z b ∨ H1 b = none := fun b q => q.imp id fun e => by rw [e]; exact hD
  have reW : REnv K cl Z s1 H1 (L2.wipe σ vs) (wipeT τ vs) := (re.fut f1).wipe vs
  refine ⟨fun i m H' => ∃ s' acc av, m = ts.length - i ∧ i ≤ ts.length ∧ Fut s1 H1 s' H' ∧ Sto K cl (Hide Z D) s' H' ∧ H' D = some (.lst av) ∧ Reps K cl (Hide Z D) s' H' av acc ∧ lcT ok g' tt te (wipeT τ vs) (ts.drop i) acc s' (fun ys s2 => post K cl Z s H Q (.lst ys) s2), ⟨_, s1, [], [], rfl, Nat.zero_le _, k1, so1.hide hD, upd_same, .nil, h1⟩, ?_⟩
  rintro i m H' ⟨s', acc, av, rfl, hi', f', so', hDa, ra, h'⟩
  by_cases hlt : i < ts.length
  · rw [List.drop_eq_getElem_cons hlt] at h'
    obtain ⟨hok, hz, h'⟩ := h'
    obtain ⟨jg, jy⟩ := src.go (Hide Z D) s' H' i _ f' zz hok so' (List.getElem?_eq_getElem hlt)
    refine .inr ⟨jg, fun H2 => ∃ s2 acc2 av2, Fut s1 H1 s2 H2 ∧ Sto K cl (Hide Z D) s2 H2 ∧ H2 D = some (.lst av2) ∧ Reps K cl (Hide Z D) s2 H2 av2 acc2 ∧ lcT ok g' tt te (wipeT τ vs) (ts.drop (i + 1)) acc2 s2 (fun ys s2 => post K cl Z s H Q (.lst ys) s2), ?_, fun y H2 yl => ?_⟩
    · rintro H2 ⟨s2, acc2, av2, h1, h2, h3, h4, h5⟩
      exact ⟨ts.length - (i + 1), by omega, s2, acc2, av2, rfl, hlt, h1, h2, h3, h4, h5⟩
    · obtain ⟨fy, soy, ry⟩ := jy y H2 yl
      have reY : REnv K cl (Hide Z D) s' H2 (L2.wipe σ vs) (wipeT τ vs) := (reW.futz f' zz).fut fy
      have noD : ∀ s3 H3, Sto K cl (Hide Z D) s3 H3 → ¬ s3.mut D := fun s3 H3 so3 => (so3.hid D (.inr rfl)).1
      refine hG.mv _ _ _ _ _ ?_ (hG.go (Hide Z D) _ _ _ _ H2 s' (fun σ3 H3 => ∃ τ3 s3, Fut s' H2 s3 H3 ∧ REnv K cl (Hide Z D) s3 H3 σ3 τ3 ∧ Sto K cl (Hide Z D) s3 H3 ∧ tt τ3 s3 (fun b s2 => if b = true then te τ3 s2 (fun y s3 => lcT ok g' tt te (wipeT τ vs) (ts.drop (i + 1)) (acc ++ [y]) s3 (fun ys s2 => post K cl Z s H Q (.lst ys) s2)) noX else lcT ok g' tt te (wipeT τ vs) (ts.drop (i + 1)) acc s2 (fun ys s2 => post K cl Z s H Q (.lst ys) s2)) noX) ry reY soy (hG.mon _ _ _ _ _ (fun τ3 s3 q σ3 H3 f3 re3 so3 => ⟨τ3, s3, f3, re3, so3, q⟩) h'))
      rintro σ3 H3 ⟨ew, τ3, s3, f3, re3, so3, h3⟩
      refine ⟨ew.trans (wipe_wipe σ vs), ht _ _ _ ⟨Hide Z D, τ3, s3, re3, so3, mt _ _ _ _ _ _ (fun b s4 q4 H4 f4 so4 => ?_) (fun _ _ q => q.elim) h3⟩⟩
      have hD4 : H4 D = some (.lst av) := (f4.keep D _ (f3.keep D _ (fy.keep D _ hDa (noD _ _ so') (NT.lst _)).1 (noD _ _ soy) (NT.lst _)).1 (noD _ _ so3) (NT.lst _)).1
      have ra4 : Reps K cl (Hide Z D) s4 H4 av acc := ((ra.fut fy).fut f3).fut f4
      have fu4 : Fut s1 H1 s4 H4 := f'.trans (fy.trans (f3.trans f4))
      refine w_ite q4 (fun q => ?_) fun q => ⟨s4, acc, av, fu4, so4, hD4, ra4, q⟩
      refine ⟨Hide Z D, τ3, s4, re3.fut f4, so4, me _ _ _ _ _ _ (fun ty s5 q5 yv H5 f5 r5 so5 => ?_) (fun _ _ q => q.elim) q⟩
      have hD5 : H5 D = some (.lst av) := (f5.keep D _ hD4 (noD _ _ so4) (NT.lst _)).1
      have kk : ∀ b u, ¬ Hide Z D b → H5 b = some u → upd H5 D (.lst (av ++ [yv])) b = some u := fun b u n h => by rw [upd_ne (fun e => n (.inr e))]; exact h
      refine ⟨av, hD5, ?_, s5, acc ++ [ty], av ++ [yv], ?_, so5.turn, upd_same, ?_, q5⟩
      · rw [ra4.length]
        exact Nat.lt_of_lt_of_le hz size6
      · have fu5 : Fut s1 H1 s5 H5 := fu4.trans f5
        exact ⟨fun b u hb n nt => ⟨by rw [upd_ne (ne_of_none hb hD)]; exact (fu5.keep b u hb n nt).1, (fu5.keep b u hb n nt).2⟩, fu5.pa⟩
      · exact (Reps.append (ra4.fut f5) (.cons r5 .nil)).turn (fun _ q => q) kk
  · have e : i = ts.length := by omega
    subst e
    rw [List.drop_length] at h'
    refine .inl ⟨src.stop (Hide Z D) s' H' _ f' zz h'.1 so' (Nat.le_refl _), ?_⟩
    have noD := so'.hid D (.inr rfl)
    have nz : ¬ Z D := fun q => by
      obtain ⟨_, o, ho⟩ := so1.hid D q
      rw [hD] at ho
      cases ho
    exact h'.2 _ _ (f1.trans f') (.lst hDa ⟨noD.1, nz⟩ (ra.turn (fun _ q => .inl q) fun _ _ _ h => h)) so'.bare
end
end Mr

/-! The mirror layer: comprehensions as values, texts, own operators, keywords. -/
namespace Mr
open PySem PySem.Spec PyProof.Rows L2 Tw
section
variable {X : Cx} {cl : CL} {W : WX} {tg e a b c o : Expr} {es : List Expr} {F Fa Fb Fc Fo : FE} {G Ga Gb : FT} {A : FA} {pos p apos pos' : Pos} {rest : List Expr} {x m : Str} {k j n i : Nat} {st : Stmt} {sts : List Stmt} {B B1 B2 : FS} {I : FI}
theorem je_lc {elt iter : Expr} {scope : Scope} {own : List (Str × Nat)} {g : TG} {g' : FG} {te : FE} (hc : X.calm = true) (hN : X.N.Nodup) (hi : JI X cl W tg iter I) (ok : BlkOk X.N X.env.scope scope own)
    (hg : ∀ (s : Shared) (H : Hp) (C : Addr) (cl : List (Str × Addr)) (fp : List Addr), PG (X.blk s H scope (compEnvC scope cl C X.env) fp) tg g) (hG : GT X.K cl (own.map (·.2)) g g')
    (he : ∀ (s : Shared) (H : Hp) (C : Addr) (cl' : List (Str × Addr)) (fp : List Addr), JE (X.blk s H scope (compEnvC scope cl' C X.env) fp) cl W0 elt te) (hs : ∀ x, foldedSetIterable iter X.env x = pure x := by intro _; rfl) :
    JE X cl W (.ListComp elt [⟨tg, iter, [], 0⟩] scope pos) (fLc I g' fYes te (own.map (·.2))) := by
  have me : MonE te := (he X.s_0 (fun _ => none) 0 [] []).mon
  refine ⟨fun τ s Q Q' E E' hq he h => hi.mon _ _ _ _ _ _ (fun ts ok s1 h1 => mon_lcT hG.mon mon_yes me _ _ _ _ _ (fun ys s2 q => hq _ _ q) h1) he h, ?_⟩
  exact PE.imp (pe_lc (te := tT X.K cl W0 te) hc hN hi.pi ok hg (fun _ _ _ _ _ => pts_nil) (fun s H C cl' fp => (he s H C cl' fp).pe) hs) fun σ H Q h => lc_imp hi.mon hG mon_yes (fun _ _ _ q => yes_go q) me h
theorem je_lcIf {elt iter : Expr} {scope : Scope} {own : List (Str × Nat)} {g : TG} {g' : FG} {te : FE} {tt : FT} (hc : X.calm = true) (hN : X.N.Nodup) (hi : JI X cl W tg iter I) (ok : BlkOk X.N X.env.scope scope own)
    (hg : ∀ (s : Shared) (H : Hp) (C : Addr) (cl : List (Str × Addr)) (fp : List Addr), PG (X.blk s H scope (compEnvC scope cl C X.env) fp) tg g) (hG : GT X.K cl (own.map (·.2)) g g')
    (ht : ∀ (s : Shared) (H : Hp) (C : Addr) (cl' : List (Str × Addr)) (fp : List Addr), JT (X.blk s H scope (compEnvC scope cl' C X.env) fp) cl W0 c tt)
    (he : ∀ (s : Shared) (H : Hp) (C : Addr) (cl' : List (Str × Addr)) (fp : List Addr), JE (X.blk s H scope (compEnvC scope cl' C X.env) fp) cl W0 elt te) (hs : ∀ x, foldedSetIterable iter X.env x = pure x := by intro _; rfl) :
    JE X cl W (.ListComp elt [⟨tg, iter, [c], 0⟩] scope pos) (fLc I g' tt te (own.map (·.2))) := by
  have me : MonE te := (he X.s_0 (fun _ => none) 0 [] []).mon
  have mt : MonT tt := (ht X.s_0 (fun _ => none) 0 [] []).mon
  refine ⟨fun τ s Q Q' E E' hq he h => hi.mon _ _ _ _ _ _ (fun ts ok s1 h1 => mon_lcT hG.mon mt me _ _ _ _ _ (fun ys s2 q => hq _ _ q) h1) he h, ?_⟩
  exact PE.imp (pe_lc (te := tT X.K cl W0 te) (tt := tTT X.K cl W0 tt) hc hN hi.pi ok hg (fun s H C cl' fp => pts_one (ht s H C cl' fp).pt) (fun s H C cl' fp => (he s H C cl' fp).pe) hs) fun σ H Q h => lc_imp hi.mon hG mt (fun _ _ _ q => q) me h
theorem setlc_imp {fl : FE} {ml : MonE fl} {tl : TE} (h : ∀ σ H Q, tT X.K cl W fl σ H Q → tl σ H Q) {D : Ends} {σ : L2.St} {H : Hp} (q : tTS X.K cl W (fSet i fl) D σ H) : tAsg tl (gName i) D σ H := by
  obtain ⟨Z, τ, s, re, so, q⟩ := q
  exact h _ _ _ (go ml re so q (fun tx s1 v H1 p1 f1 re1 r1 so1 => p1 _ H1 f1 (re1.set r1 i) so1) fun _ _ q => xe_w re q)
theorem js_setLc {y : Str} {py : Pos} {elt iter : Expr} {scope : Scope} {own : List (Str × Nat)} {spos : Pos} {g : TG} {g' : FG} {te : FE} (hc : X.calm = true) (hN : X.N.Nodup) (hy : X.N[i]? = some y) (hyl : X.env.scope.names.lookup y = some .local)
    (hsw : swapsWith (.ListComp elt [⟨tg, iter, [], 0⟩] scope pos) (some (.Name y py)) spos.line X.env = pure true) (hi : JI X cl W tg iter I) (ok : BlkOk X.N X.env.scope scope own)
    (hg : ∀ (s : Shared) (H : Hp) (C : Addr) (cl : List (Str × Addr)) (fp : List Addr), PG (X.blk s H scope (compEnvC scope cl C X.env) fp) tg g) (hG : GT X.K cl (own.map (·.2)) g g')
    (he : ∀ (s : Shared) (H : Hp) (C : Addr) (cl' : List (Str × Addr)) (fp : List Addr), JE (X.blk s H scope (compEnvC scope cl' C X.env) fp) cl W0 elt te) (hs : ∀ x, foldedSetIterable iter X.env x = pure x := by intro _; rfl) :
    JS X cl W (.Assign [.Name y py] (.ListComp elt [⟨tg, iter, [], 0⟩] scope pos) spos) (fSet i (fLc I g' fYes te (own.map (·.2)))) := by
  have me : MonE te := (he X.s_0 (fun _ => none) 0 [] []).mon
  have ml : MonE (fLc I g' fYes te (own.map (·.2))) := fun τ s Q Q' E E' hq he h => hi.mon _ _ _ _ _ _ (fun ts ok s1 h1 => mon_lcT hG.mon mon_yes me _ _ _ _ _ (fun ys s2 q => hq _ _ q) h1) he h
  refine ⟨fun τ s D D' le h => ml _ _ _ _ _ _ (fun _ _ q => le.nx _ _ q) (fun _ _ q => le.xr _ _ _ q) h, ?_⟩
  exact PS.imp (ps_setLc (te := tT X.K cl W0 te) hc hN hy hyl hsw hi.pi ok hg (fun _ _ _ _ _ => pts_nil) (fun s H C cl' fp => (he s H C cl' fp).pe) hs) fun D σ H h => setlc_imp (ml := ml) (fun σ H Q h => lc_imp hi.mon hG mon_yes (fun _ _ _ q => yes_go q) me h) h
theorem js_setLcIf {y : Str} {py : Pos} {elt iter : Expr} {scope : Scope} {own : List (Str × Nat)} {spos : Pos} {g : TG} {g' : FG} {te : FE} {tt : FT} (hc : X.calm = true) (hN : X.N.Nodup) (hy : X.N[i]? = some y) (hyl : X.env.scope.names.lookup y = some .local)
    (hsw : swapsWith (.ListComp elt [⟨tg, iter, [c], 0⟩] scope pos) (some (.Name y py)) spos.line X.env = pure true) (hi : JI X cl W tg iter I) (ok : BlkOk X.N X.env.scope scope own)
    (hg : ∀ (s : Shared) (H : Hp) (C : Addr) (cl : List (Str × Addr)) (fp : List Addr), PG (X.blk s H scope (compEnvC scope cl C X.env) fp) tg g) (hG : GT X.K cl (own.map (·.2)) g g')
    (ht : ∀ (s : Shared) (H : Hp) (C : Addr) (cl' : List (Str × Addr)) (fp : List Addr), JT (X.blk s H scope (compEnvC scope cl' C X.env) fp) cl W0 c tt)
    (he : ∀ (s : Shared) (H : Hp) (C : Addr) (cl' : List (Str × Addr)) (fp : List Addr), JE (X.blk s H scope (compEnvC scope cl' C X.env) fp) cl W0 elt te) (hs : ∀ x, foldedSetIterable iter X.env x = pure x := by intro _; rfl) :
    JS X cl W (.Assign [.Name y py] (.ListComp elt [⟨tg, iter, [c], 0⟩] scope pos) spos) (fSet i (fLc I g' tt te (own.map (·.2)))) := by
  have me : MonE te := (he X.s_0 (fun _ => none) 0 [] []).mon
  have mt : MonT tt := (ht X.s_0 (fun _ => none) 0 [] []).mon
  have ml : MonE (fLc I g' tt te (own.map (·.2))) := fun τ s Q Q' E E' hq he h => hi.mon _ _ _ _ _ _ (fun ts ok s1 h1 => mon_lcT hG.mon mt me _ _ _ _ _ (fun ys s2 q => hq _ _ q) h1) he h
  refine ⟨fun τ s D D' le h => ml _ _ _ _ _ _ (fun _ _ q => le.nx _ _ q) (fun _ _ q => le.xr _ _ _ q) h, ?_⟩
  exact PS.imp (ps_setLc (te := tT X.K cl W0 te) (tt := tTT X.K cl W0 tt) hc hN hy hyl hsw hi.pi ok hg (fun s H C cl' fp => pts_one (ht s H C cl' fp).pt) (fun s H C cl' fp => (he s H C cl' fp).pe) hs) fun D σ H h => setlc_imp (ml := ml) (fun σ H Q h => lc_imp hi.mon hG mt (fun _ _ _ q => q) me h) h
/-! ### f-strings, join -/
def fmtO : O1
  | _, .str y => some (y.length ≤ 1000000, .str y)
  | _, .int i => some (i.natAbs < 2 ^ 128, .str (Str.ofString (toString i)))
  | _, _ => none
theorem je_fmt (ha : JE X cl W a Fa) : JE X cl W (.FormattedValue a (-1) none pos) (fUn fmtO Fa) := by
  refine je_un1 (t := tFmt) (r := fun x H1 Q => (∃ y : Str, x = .str y ∧ y.length ≤ sizeLine ∧ Q (.str y) H1) ∨ ∃ i : Int, x = .int i ∧ i.natAbs.log2 < 1920 ∧ Q (.str (toString i)) H1) (fun te => rfl) (pe_fmt ha.pe) ha.mon fun Z H x Q s tx c t px so e hc p => ?_
  unfold fmtO at e
  split at e
  · cases e
    cases rep_s px
    exact .inl ⟨_, rfl, Nat.le_trans hc size6, p.here (.str _) so⟩
  · cases e
    cases rep_i px
    exact .inr ⟨_, rfl, log_small hc, p.here (.str _) so⟩
  · cases e
inductive JJ (X : Cx) (cl : CL) (W : WX) : List Expr → List FE → Prop where
  | nil : JJ X cl W [] []
  | cons {e : Expr} {F : FE} {es : List Expr} {Fs : List FE} (h : JE X cl W e F) (r : JJ X cl W es Fs) : JJ X cl W (e :: es) (F :: Fs)
def jsT : List FE → Str → Env → S → (Str → S → Prop) → KX → Prop
  | [], acc, _, s, Q, _ => Q acc s
  | F :: Fs, acc, τ, s, Q, E => F τ s (fun x s1 => match x with | .str y => acc.length + y.length ≤ 1000000 ∧ jsT Fs (acc ++ y) τ s1 Q E | _ => False) E
def fJs (Fs : List FE) : FE := fun τ s Q E => jsT Fs Str.empty τ s (fun z s1 => Q (.str z) s1) E
theorem JJ.pj {Fs : List FE} : ∀ {es : List Expr}, JJ X cl W es Fs → PJ X es (Fs.map (tT X.K cl W))
  | _, .nil => .nil
  | _, .cons h r => .cons h.pe r.pj
theorem mon_jsT {Fs : List FE} (h : ∀ F ∈ Fs, MonE F) : ∀ (acc : Str) (τ : Env) (s : S) (Q Q' : Str → S → Prop) (E E' : KX), (∀ z s, Q z s → Q' z s) → (∀ e s, E e s → E' e s) → jsT Fs acc τ s Q E → jsT Fs acc τ s Q' E' := by
  induction Fs with
  | nil => intro acc τ s Q Q' E E' hq _ h; exact hq _ _ h
  | cons F Fs ih =>
    intro acc τ s Q Q' E E' hq he q
    refine h F List.mem_cons_self _ _ _ _ _ _ (fun x s1 q1 => ?_) he q
    split at q1
    · exact ⟨q1.1, ih (fun F hF => h F (List.mem_cons_of_mem _ hF)) _ _ _ _ _ _ _ hq he q1.2⟩
    · exact q1
theorem JJ.mon {Fs : List FE} : ∀ {es : List Expr}, JJ X cl W es Fs → ∀ F ∈ Fs, MonE F
  | _, .nil, F, h => by cases h
  | _, .cons h r, F, hF => by
    rcases List.mem_cons.mp hF with rfl | hF
    · exact h.mon
    · exact r.mon F hF
theorem js_go {Z : Addr → Prop} {Fs : List FE} (hm : ∀ F ∈ Fs, MonE F) {σ : L2.St} {τ : Env} {s0 : S} {H0 : Hp} {Q : VK} : ∀ (acc : Str) (s : S) (H : Hp), Fut s0 H0 s H → REnv X.K cl Z s H σ τ → Sto X.K cl Z s H →
    jsT Fs acc τ s (fun z s1 => post X.K cl Z s0 H0 Q (.str z) s1) (postW X.K cl Z s0 H0 σ W) → tJs (Fs.map (tT X.K cl W)) acc σ H fun out H1 => Q (.str out) H1 := by
  induction Fs with
  | nil => intro acc s H f re so h; exact h _ _ f (.str _) so
  | cons F Fs ih =>
    intro acc s H f re so h
    refine go (hm F List.mem_cons_self) re so h (fun tx s1 x H1 p1 f1 re1 r1 so1 => ?_) fun _ _ q => postW.up f q
    split at p1
    · cases rep_s r1
      exact ⟨_, rfl, by rw [Str.length_append]; exact Nat.le_trans p1.1 size6, ih (fun F hF => hm F (List.mem_cons_of_mem _ hF)) _ s1 H1 (f.trans f1) re1 so1 p1.2⟩
    · exact p1.elim
theorem je_js {v1 v2 : Expr} {Fs : List FE} (h : JJ X cl W (v1 :: v2 :: rest) Fs) : JE X cl W (.JoinedStr (v1 :: v2 :: rest) pos) (fJs Fs) := by
  refine ⟨fun τ s Q Q' E E' hq he q => mon_jsT h.mon _ _ _ _ _ _ _ (fun z s1 q => hq _ _ q) he q, PE.imp (pe_joined h.pj) ?_⟩
  rintro σ H Q ⟨Z, τ, s, re, so, q⟩
  exact js_go h.mon Str.empty s H (Fut.refl _ _) re so q
theorem je_js1 (h : JE X cl W e Fa) : JE X cl W (.JoinedStr [e] pos) Fa := ⟨h.mon, pe_joined1 h.pe⟩
def txts : List T → Option (List Str)
  | [] => some []
  | .str b :: r => (txts r).map (b :: ·)
  | _ => none
theorem Reps.txts {K : PySem.W.Frag} {Z : Addr → Prop} {s : S} {H : Hp} : ∀ {vs : List V} {ts : List T} {bs : List Str}, Reps K cl Z s H vs ts → Mr.txts ts = some bs → vs = bs.map V.str
  | _, [], _, r, e => by cases r; cases e; rfl
  | _, t :: ts, _, r, e => by
    cases r with
    | cons h q =>
      unfold Mr.txts at e
      split at e
      · rename_i e0
        cases e0
      · rename_i b r' e0
        injection e0 with e1 e2
        subst e1 e2
        obtain ⟨l, e3, rfl⟩ := Option.map_eq_some_iff.mp e
        cases rep_s h
        rw [List.map_cons, q.txts e3]
      · cases e
theorem txts_map (bs : List Str) : txts (bs.map T.str) = some bs := by
  induction bs with
  | nil => rfl
  | cons b r ih => rw [List.map_cons]; unfold txts; rw [ih]; rfl
def joinO : O2
  | s, .str a, y => match s.seq? y with | some (_, xs) => (match txts xs with | some ys => some ((ys.map (·.length)).sum + ys.length * a.length ≤ 1000000, .str (Txt.join a ys)) | none => none) | none => none
  | _, _, _ => none
theorem je_join (ho : JE X cl W o Fa) (he : JE X cl W e Fb) (hs : starEach [e] X.env = [(false, eval e X.env)] := by rfl) (hbase : attributeBase o "join" X.env (eval o X.env) = eval o X.env := by rfl) (hline : (apos.endLine == pos.line) = true := by rfl) :
    JE X cl W (.Call (.Attribute o "join" apos) [e] [] pos) (fun τ s Q E => Fa τ s (fun x s1 => (match x with | .str _ => True | _ => False) ∧ Fb τ s1 (fun y s2 => g2 joinO s2 x y Q E) E) E) := by
  refine ⟨fun τ s Q Q' E E' hq hE h => ho.mon _ _ _ _ _ _ (fun x s1 h1 => ⟨h1.1, he.mon _ _ _ _ _ _ (fun y s2 h2 => mon_g2 _ _ _ _ _ _ _ _ hq hE h2) hE h1.2⟩) hE h, PE.imp (pe_join ho.pe he.pe hs hbase hline) ?_⟩
  rintro σ H Q ⟨Z, τ, s, re, so, h⟩
  refine go ho.mon re so h (fun tx s1 x H1 p1 f1 re1 r1 so1 => ⟨?_, ?_⟩) fun _ _ q => q
  · have := p1.1
    split at this
    · cases rep_s r1
      exact ⟨_, rfl⟩
    · exact this.elim
  refine go he.mon re1 so1 p1.2 (fun ty s2 y H2 p2 f2 re2 r2 so2 => ?_) fun _ _ q => postW.up f1 q
  unfold g2 at p2
  split at p2
  · rename_i c t e1
    have p := post.up (f1.trans f2) p2.2
    unfold joinO at e1
    split at e1
    · cases rep_s r1
      split at e1
      · rename_i e2
        split at e1
        · rename_i ys e3
          cases e1
          obtain ⟨q, vs, rfl, hq, rs⟩ := seq_sq so2 r2 e2
          rw [rs.txts e3] at hq
          exact ⟨_, q, ys, rfl, rfl, hq, Nat.le_trans p2.1 (by decide), p.here (.str _) so2⟩
        · cases e1
      · cases e1
    · cases e1
  · exact p2.elim
/-! ### own operators -/
def gEqOwn (cc : Nat) (ins exc : List Nat) (nfs : List Ty) (D : FD) : S → T → T → KT → KX → Prop := fun s x y Q _ => match s.obj? x, s.ty? y with | some (c, _), some (t, g) => c = cc ∧ okC ins exc t g ∧ t ∈ nfs ∧ cM D [x, y] s Q noX | _, _ => False
theorem noX_post {K : PySem.W.Frag} {Z : Addr → Prop} {s : S} {H : Hp} {E : XK} {er : Er} {s1 : S} (h : noX er s1) : postX K cl Z s H E er s1 := h.elim
theorem o_eqOwn {cc : Nat} {ins exc : List Nat} {kk : Ty → Ty → Option Bool} {nfs : List Ty} {D : FD} (w : Wc X.K cl kk ins exc) (d : MetM X.prog X.w X.K X.mg X.base cl k cc "__eq__" D []) (hn : ∀ t ∈ nfs, PySem.W.notFirst X.K (cl cc) (t.u cl) = true) (hr : Rm j X.A) (hk : k ≤ j) :
    OpT X cl W (compareOp .Eq) (gEqOwn cc ins exc nfs D) := by
  obtain ⟨dvs, d, hd⟩ := d.ex
  have e0 : dvs = [] := by
    have := hd (fun _ => False) ⟨none, 0, fun _ => none⟩ (fun _ => none)
    cases this
    rfl
  subst e0
  refine OpT.of ?_ (op_ownEqA d hr hk) fun Z H x y Q s tx ty E px py so q => ?_
  · intro s x y Q Q' E E' hq he h
    unfold gEqOwn at h ⊢
    split at h
    · exact ⟨h.1, h.2.1, h.2.2.1, h.2.2.2.mon hq fun _ _ q => q⟩
    · exact h
  · unfold gEqOwn at q
    split at q
    · rename_i c fs t g e1 e2
      obtain ⟨rfl, h1, h2, h3⟩ := q
      obtain ⟨a, dx, fvs, rfl, h4, rf⟩ := obj_of so px e1
      exact ⟨a, dx, fvs, t.u cl, rfl, h4, ty_of w so py e2 h1, hn t h2, Z, [tx, ty], s, .cons px (.cons py .nil), so, h3.mon (fun _ _ q => q) fun _ _ q => noX_post q⟩
    · exact q.elim
def gNeOwn (cc : Nat) (D : FD) : S → T → T → KT → KX → Prop := fun s x y Q _ => match s.obj? x, s.obj? y with | some (c, _), some (c', _) => c = cc ∧ c' = cc ∧ cM D [x, y] s (fun t s1 => match t with | .bl b => Q (.bl (!b)) s1 | _ => False) noX | _, _ => False
theorem o_neOwn {cc : Nat} {D : FD} (d : MetM X.prog X.w X.K X.mg X.base cl k cc "__eq__" D []) (hne : PySem.W.findIn X.K (.ref (cl cc)) "__ne__" = some (some (.builtin "object.__ne__"))) (hm : PySem.W.mroIn X.K (cl cc) (.type "object") = some true) (hr : Rm (j + 1) X.A) (hk : k ≤ j) :
    OpT X cl W (compareOp .NotEq) (gNeOwn cc D) := by
  obtain ⟨dvs, d, hd⟩ := d.ex
  have e0 : dvs = [] := by
    have := hd (fun _ => False) ⟨none, 0, fun _ => none⟩ (fun _ => none)
    cases this
    rfl
  subst e0
  refine OpT.of ?_ (op_ownNe d hne hm hr hk) fun Z H x y Q s tx ty E px py so q => ?_
  · intro s x y Q Q' E E' hq he h
    unfold gNeOwn at h ⊢
    split at h
    · refine ⟨h.1, h.2.1, h.2.2.mon (fun t s1 q => ?_) fun _ _ q => q⟩
      split at q
      · exact hq _ _ q
      · exact q
    · exact h
  · unfold gNeOwn at q
    split at q
    · rename_i c fs c' fs' e1 e2
      obtain ⟨rfl, rfl, h3⟩ := q
      obtain ⟨a, dx, fvs, rfl, h4, rf⟩ := obj_of so px e1
      obtain ⟨b, dy, gvs, rfl, h5, rg⟩ := obj_of so py e2
      refine ⟨a, b, dx, fvs, dy, gvs, rfl, rfl, h4, h5, Z, [tx, ty], s, .cons px (.cons py .nil), so, h3.mon (fun t s1 q v H1 f r so1 => ?_) fun _ _ q => noX_post q⟩
      split at q
      · cases r
        exact ⟨_, rfl, q _ _ f (.bl _) so1⟩
      · exact q.elim
    · exact q.elim
/-- str(x), x an instance whose class has __str__ -/
def fStrO (cc : Nat) (D : FD) (A : FA) : FE := fun τ s Q E => A τ s (fun ts s1 => match ts with | [x] => (match s1.obj? x with | some (c, _) => c = cc ∧ cM D [x] s1 (fun t s2 => match t with | .str z => Q (.str z) s2 | _ => False) noX | none => False) | _ => False) E
theorem je_strO {cc : Nat} {D : FD} (d : MetM X.prog X.w X.K X.mg X.base cl k cc "__str__" D []) (hr : Rm (j + 2) X.A) (hk : k ≤ j) (hg : Gl X x) (hm : X.mg x = none) (hv : bootBuiltins x = some (.type "str")) (ha : JA X cl W (e :: es) A) (hn : x ≠ "__name__" := by decide) (hdb : (x == ("__debug__" : Str)) = false := by decide)
    (he : starEach (e :: es) X.env = (false, eval e X.env) :: starEach es X.env := by rfl) (hpl : (backTo pos (starEach es X.env)).any (·.1) = false := by rfl) : JE X cl W (.Call (.Name x p) (e :: es) [] pos) (fStrO cc D A) := by
  obtain ⟨dvs, d, hd⟩ := d.ex
  have e0 : dvs = [] := by
    have := hd (fun _ => False) ⟨none, 0, fun _ => none⟩ (fun _ => none)
    cases this
    rfl
  subst e0
  refine ⟨fun τ s Q Q' E E' hq hE h => ha.mon _ _ _ _ _ _ (fun ts s1 h1 => ?_) hE h, PE.imp (pe_callTy (call_strO d hr hk) hg hm hv ha.pa hn hdb he hpl) ?_⟩
  · split at h1
    · split at h1
      · refine ⟨h1.1, h1.2.mon (fun t s2 q => ?_) fun _ _ q => q⟩
        split at q
        · exact hq _ _ q
        · exact q
      · exact h1
    · exact h1
  rintro σ H Q ⟨Z, τ, s, re, so, h⟩
  refine goA ha.mon re so h (fun ts s1 vs H1 p1 f1 re1 r1 so1 => ?_) fun _ _ q => q
  split at p1
  · obtain ⟨v, rfl, rv⟩ := reps1 r1
    split at p1
    · rename_i c fs e1
      obtain ⟨rfl, h3⟩ := p1
      obtain ⟨a, dx, fvs, rfl, h4, rf⟩ := obj_of so1 rv e1
      refine ⟨a, dx, fvs, rfl, h4, Z, [_], s1, .cons rv .nil, so1, h3.mon (fun t s2 q v H2 f r so2 => ?_) fun _ _ q => noX_post q⟩
      split at q
      · cases r
        exact ⟨_, rfl, q _ _ (f1.trans f) (.str _) so2⟩
      · exact q.elim
    · exact p1.elim
  · exact p1.elim
end
end Mr

/-! The mirror layer: more operators; lists that change; slices. -/
namespace Mr
open PySem PySem.Spec PyProof.Rows L2 Tw
section
variable {X : Cx} {cl : CL} {W : WX} {tg e a b c o : Expr} {es : List Expr} {F Fa Fb Fc Fo : FE} {G Ga Gb : FT} {A : FA} {pos p apos pos' p2 : Pos} {rest : List Expr} {x m : Str} {k j n i : Nat} {st : Stmt} {sts : List Stmt} {B B1 B2 : FS} {I : FI}
/-! ### a text times a number -/
theorem repS_len (z : Str) (n : Nat) : (repS z n).length = n * z.length := by
  have f : ∀ (n : Nat) (acc : Array Nat), ((List.replicate n z.cps).foldl (· ++ ·) acc).size = acc.size + n * z.cps.size := by
    intro n
    induction n with
    | zero => intro acc; rw [Nat.zero_mul]; rfl
    | succ n ih =>
      intro acc
      rw [List.replicate_succ, List.foldl_cons, ih, Array.size_append, Nat.succ_mul]
      omega
  show ((List.replicate n z.cps).foldl (· ++ ·) #[]).size = n * z.cps.size
  rw [f n #[]]
  simp
theorem op_mulS : OpR X (binaryOp .Mult) (fun x y H Q => ∃ (z : Str) (k : Int), x = .str z ∧ y = .int k ∧ 0 ≤ k ∧ k ≤ 1000 ∧ z.length ≤ 1000 ∧ Q (.str (repS z k.toNat)) H) := by
  intro pins s σ H x y v u Q I rx ry h
  obtain ⟨z, k, rfl, rfl, h0, h1, hz, q⟩ := h
  obtain ⟨t, rfl⟩ := rx
  obtain ⟨t', rfl⟩ := ry
  have hlen : z.length * k.toNat ≤ 1000000 := (Nat.mul_le_mul hz (show k.toNat ≤ 1000 by omega) : z.length * k.toNat ≤ 1000 * 1000)
  refine PySem.P.mul_str ?_ ?_ ?_ ?_
  · rw [decide_eq_false (by omega), decide_eq_false (by omega)]; rfl
  · intro hn _ hgt
    have h2 : (2 ^ 63 - 1) / k ≥ (2 ^ 63 - 1) / 1000 := by
      have hk : 0 < k := by omega
      refine (Int.le_ediv_iff_mul_le hk).mpr ?_
      have h3 : (2 ^ 63 - 1) / 1000 * k ≤ (2 ^ 63 - 1) / 1000 * 1000 := Int.mul_le_mul_of_nonneg_left h1 (by decide)
      exact Int.le_trans h3 (by decide)
    have h3 : ((2 : Int) ^ 63 - 1) / 1000 ≥ 1000 := by decide
    omega
  · intro _ _
    show decide (z.length * k.toNat > sizeLine) = false
    exact decide_eq_false (Nat.not_lt.mpr (Nat.le_trans hlen (by decide)))
  · by_cases c1 : k < 1
    · rw [if_pos c1]
      have e : k = 0 := by omega
      subst e
      exact ⟨by decide, ⟨.str _, H, I.tok _, ⟨_, rfl⟩, q⟩⟩
    · rw [if_neg c1]
      by_cases c2 : (k == 1 || z.length == 0) = true
      · rw [if_pos c2]
        refine ⟨.str _, H, I, ⟨t, ?_⟩, q⟩
        congr 1
        rcases Bool.or_eq_true_iff.mp c2 with c | c
        · have e : k = 1 := eq_of_beq c
          subst e
          show z = ⟨#[] ++ z.cps⟩
          rw [Array.empty_append]
        · have e : z.cps = #[] := Array.eq_empty_of_size_eq_zero (eq_of_beq c)
          unfold repS
          cases z with
          | mk cps =>
            dsimp only at e ⊢
            subst e
            congr 1
            generalize k.toNat = n
            induction n with
            | zero => rfl
            | succ n ih => rw [List.replicate_succ, List.foldl_cons]; exact ih
      · rw [if_neg c2]
        refine ⟨?_, ⟨.str _, H, I.tok _, ⟨_, rfl⟩, q⟩⟩
        show (repS z k.toNat).length ≤ sizeLine
        rw [repS_len]
        exact Nat.le_trans (by rw [Nat.mul_comm]; exact hlen) (by decide)
theorem o_mul : OpT X cl W (binaryOp .Mult) (g2 mulO) := by
  refine OpT.pure (opr_or op_mul (opr_or op_mulS op_rep)) fun Z H x y Q s tx ty c t px py so e hc p => ?_
  unfold mulO at e
  split at e
  · cases e
    cases rep_i px
    cases rep_i py
    exact .inl ⟨_, _, rfl, rfl, hc, p.here (.int _) so⟩
  · cases e
    cases rep_s px
    cases rep_i py
    exact .inr (.inl ⟨_, _, rfl, rfl, hc.1, hc.2.1, hc.2.2, p.here (.str _) so⟩)
  · cases rep_i py
    split at e
    · rename_i e1
      cases e
      obtain ⟨a, vs, rfl, h1, r1⟩ := lst_of so px e1
      exact .inr (.inr ⟨a, _, vs, rfl, rfl, h1, hc.1, hc.2.1, by rw [r1.length]; exact Nat.le_trans hc.2.2 (by decide), p.newL so (r1.flat _)⟩)
    · cases e
  · cases e
/-! ### in -/
def T.flat : T → Bool
  | .non | .bl _ | .int _ | .str _ => true
  | _ => false
/-- == of flat trees -/
def eqF : T → T → Bool
  | .non, .non => true
  | .bl a, .bl b => a == b
  | .bl a, .int b => (if a then 1 else 0) == b
  | .int a, .bl b => a == (if b then 1 else 0)
  | .int a, .int b => a == b
  | .str a, .str b => a == b
  | _, _ => false
theorem flat_of {K : PySem.W.Frag} {Z : Addr → Prop} {s : S} {H : Hp} {v : V} {t : T} (r : Rep K cl Z s H v t) (h : t.flat = true) : flatV v = true := by
  cases r <;> first | rfl | (cases h; done)
theorem eqF_of {K : PySem.W.Frag} {Z : Addr → Prop} {s : S} {H : Hp} {v w : V} {t u : T} (r : Rep K cl Z s H v t) (q : Rep K cl Z s H w u) (h : t.flat = true) (h' : u.flat = true) : eqV v w = eqF t u := by
  cases r <;> first | (cases h; done) | skip
  all_goals (cases q <;> first | rfl | (cases h'; done))
theorem Reps.flats {K : PySem.W.Frag} {Z : Addr → Prop} {s : S} {H : Hp} : ∀ {vs : List V} {ts : List T}, Reps K cl Z s H vs ts → ts.all T.flat = true → vs.all flatV = true
  | _, _, .nil, _ => rfl
  | _, _, .cons h r, e => by
    rw [List.all_cons, Bool.and_eq_true] at e ⊢
    exact ⟨flat_of h e.1, r.flats e.2⟩
theorem Reps.inF {K : PySem.W.Frag} {Z : Addr → Prop} {s : S} {H : Hp} {v : V} {t : T} (q : Rep K cl Z s H v t) (h : t.flat = true) : ∀ {vs : List V} {ts : List T}, Reps K cl Z s H vs ts → ts.all T.flat = true → inV v vs = ts.any fun y => eqF y t
  | _, _, .nil, _ => rfl
  | _, _, .cons r rs, e => by
    rw [List.all_cons, Bool.and_eq_true] at e
    unfold inV
    rw [List.any_cons, List.any_cons, eqF_of r q e.1 h]
    exact congrArg _ (rs.inF q h e.2)
/-- in: a text in a text; a flat thing in a list or tuple of such; data in a list of data -/
def inB (s : S) : T → T → Option (Prop × Bool)
  | .str w, .str z => some (True, occ z w)
  | x, y => match s.seq? y with
    | some (l, ys) => if x.flat = true then (if ys.all T.flat = true then some (True, ys.any fun y => eqF y x) else none) else
      (if l = true then (match s.dat x, s.dat y with | some d, some (.list ds) => some (SeqAt.shaped d = true ∧ SeqAt.shaped (.list ds) = true, ds.any fun z => PyData.eqv z d) | _, _ => none) else none)
    | none => none
def inO' : O2 := fun s x y => (inB s x y).map fun q => (q.1, .bl q.2)
def ninO' : O2 := fun s x y => (inB s x y).map fun q => (q.1, .bl (!q.2))
theorem in_go {neg : Bool} {K : PySem.W.Frag} {Z : Addr → Prop} {s : S} {H : Hp} {x y : V} {tx ty : T} {c : Prop} {r : Bool} {Q : VK} (px : Rep K cl Z s H x tx) (py : Rep K cl Z s H y ty) (so : Sto K cl Z s H) (e : inB s tx ty = some (c, r)) (hc : c) (q : Q (.bl (if neg then !r else r)) H) :
    (∃ i j, x = .str i ∧ y = .str j ∧ Q (.bl (if neg then !(occ j i) else occ j i)) H) ∨ rIn K neg x y H Q ∨ (∃ d ds, Dp K H x d ∧ Dp K H y (.list ds) ∧ SeqAt.shaped d = true ∧ SeqAt.shaped (.list ds) = true ∧ Q (.bl (if neg then !(ds.any fun z => PyData.eqv z d) else ds.any fun z => PyData.eqv z d)) H) := by
  unfold inB at e
  split at e
  · cases e
    cases rep_s px
    cases rep_s py
    exact .inl ⟨_, _, rfl, rfl, q⟩
  · split at e
    · rename_i l ys e1
      split at e
      · rename_i hf
        split at e
        · rename_i ha
          cases e
          obtain ⟨a, vs, rfl, hq, rs⟩ := seq_sq so py e1
          exact .inr (.inl ⟨a, vs, rfl, hq, flat_of px hf, rs.flats ha, by rw [rs.inF px hf ha]; exact q⟩)
        · cases e
      · split at e
        · split at e
          · rename_i e2 e3
            cases e
            exact .inr (.inr ⟨_, _, px.sdp so e2, py.sdp so e3, hc.1, hc.2, q⟩)
          · cases e
        · cases e
    · cases e
theorem o_in (hr : Rm k X.A) : OpT X cl W (compareOp .In) (g2 inO') := by
  have hu : X.A.units + 65 < cLine := by have := hr.room.un; omega
  refine OpT.pure (opr_or op_in_str (opr_or op_in_seq (op_inD hu))) fun Z H x y Q s tx ty c t px py so e hc p => ?_
  obtain ⟨⟨c', r⟩, e1, e2⟩ := Option.map_eq_some_iff.mp e
  cases e2
  exact in_go (neg := false) px py so e1 hc (p.here (.bl _) so)
theorem o_nin (hr : Rm k X.A) : OpT X cl W (compareOp .NotIn) (g2 ninO') := by
  have hu : X.A.units + 65 < cLine := by have := hr.room.un; omega
  refine OpT.pure (opr_or op_notIn_str (opr_or op_notIn_seq (op_notInD hu))) fun Z H x y Q s tx ty c t px py so e hc p => ?_
  obtain ⟨⟨c', r⟩, e1, e2⟩ := Option.map_eq_some_iff.mp e
  cases e2
  exact in_go (neg := true) px py so e1 hc (p.here (.bl _) so)
/-! ### slices -/
def cutT (xs : List T) (lo hi : Option Int) : List T := (xs.drop (HT.sIx xs.length 0 lo)).take (HT.sIx xs.length xs.length hi - HT.sIx xs.length 0 lo)
theorem Reps.cut {K : PySem.W.Frag} {Z : Addr → Prop} {s : S} {H : Hp} {vs : List V} {ts : List T} (r : Reps K cl Z s H vs ts) (lo hi : Option Int) : Reps K cl Z s H (cutV vs lo hi) (cutT ts lo hi) := by
  unfold cutV cutT
  rw [r.length]
  exact (r.drop _).take _
abbrev FO := Env → S → (Option Int → S → Prop) → KX → Prop
structure JO (X : Cx) (cl : CL) (W : WX) (e : Option Expr) (F : FO) : Prop where
  mon : ∀ τ s (Q Q' : Option Int → S → Prop) (E E' : KX), (∀ t s, Q t s → Q' t s) → (∀ e s, E e s → E' e s) → F τ s Q E → F τ s Q' E'
  po : ∃ t, PO X e t ∧ ∀ (Z : Addr → Prop) (σ : L2.St) (τ : Env) (s : S) (H : Hp) (Q : Option Int → Hp → Prop) (P : Option Int → S → Prop) (E : KX), REnv X.K cl Z s H σ τ → Sto X.K cl Z s H → F τ s P E →
    (∀ i s1 H1, P i s1 → Fut s H s1 H1 → REnv X.K cl Z s1 H1 σ τ → Sto X.K cl Z s1 H1 → Q i H1) → (∀ er s1, E er s1 → postW X.K cl Z s H σ W er s1) → t σ H Q
def oNone : FO := fun _ s Q _ => Q none s
def oSome (Fa : FE) : FO := fun τ s Q E => Fa τ s (fun x s1 => match x with | .int i => Q (some i) s1 | _ => False) E
theorem jo_none : JO X cl W none oNone := ⟨fun _ _ _ _ _ _ hq _ h => hq _ _ h, _, po_none, fun Z σ τ s H Q P E re so h hP _ => hP _ _ _ h (Fut.refl _ _) re so⟩
theorem jo_some (ha : JE X cl W e Fa) : JO X cl W (some e) (oSome Fa) := by
  refine ⟨fun τ s Q Q' E E' hq he h => ha.mon _ _ _ _ _ _ (fun x s1 q => ?_) he h, _, po_some ha.pe, fun Z σ τ s H Q P E re so h hP hE => ?_⟩
  · split at q
    · exact hq _ _ q
    · exact q
  · refine go ha.mon re so h (fun tx s1 x H1 p1 f1 re1 r1 so1 => ?_) hE
    split at p1
    · cases rep_i r1
      exact ⟨_, rfl, hP _ _ _ p1 f1 re1 so1⟩
    · exact p1.elim
def slO (s : S) (x : T) (lo hi : Option Int) : Option (Prop × T) :=
  match x with
  | .str z => some (z.length ≤ 1000000, .str (Txt.slice z lo hi))
  | .tup xs => some (True, .tup (cutT xs lo hi))
  | x => match s.lst? x with | some xs => some (True, .lst (cutT xs lo hi)) | none => none
def fSl (Fa : FE) (Fl Fh : FO) : FE := fun τ s Q E => Fa τ s (fun x s1 => Fl τ s1 (fun l s2 => Fh τ s2 (fun h s3 => onO s3 (slO s3 x l h) Q) E) E) E
theorem cut_all (xs : List T) (lo hi : Option Int) (h : HT.sIx xs.length 0 lo = 0 ∧ HT.sIx xs.length xs.length hi = xs.length) : cutT xs lo hi = xs := by
  unfold cutT
  rw [h.1, h.2, List.drop_zero, Nat.sub_zero, List.take_length]
theorem je_slice {lo hi : Option Expr} {Fl Fh : FO} (ha : JE X cl W e Fa) (hl : JO X cl W lo Fl) (hh : JO X cl W hi Fh) : JE X cl W (.Subscript e (.Slice lo hi none p2) pos) (fSl Fa Fl Fh) := by
  obtain ⟨tl, pl, gl⟩ := hl.po
  obtain ⟨th, ph, gh⟩ := hh.po
  refine ⟨fun τ s Q Q' E E' hq he h => ha.mon _ _ _ _ _ _ (fun x s1 q => hl.mon _ _ _ _ _ _ (fun l s2 q => hh.mon _ _ _ _ _ _ (fun u s3 q => q.mon hq) he q) he q) he h, PE.imp (pe_slice (SlR.or sl_list (SlR.or sl_tupA C8.sl_txt)) ha.pe pl ph) ?_⟩
  rintro σ H Q ⟨Z, τ, s, re, so, h⟩
  refine go ha.mon re so h (fun tx s1 x H1 p1 f1 re1 r1 so1 => ?_) fun _ _ q => q
  refine gl Z σ τ s1 H1 _ _ _ re1 so1 p1 (fun l s2 H2 p2 f2 re2 so2 => ?_) fun _ _ q => postW.up f1 q
  refine gh Z σ τ s2 H2 _ _ _ re2 so2 p2 (fun u s3 H3 p3 f3 re3 so3 => ?_) fun _ _ q => postW.up (f1.trans f2) q
  have r3 := (r1.fut f2).fut f3
  unfold onO at p3
  split at p3
  · rename_i c t e1
    have p := post.up (f1.trans (f2.trans f3)) p3.2
    unfold slO at e1
    split at e1
    · cases e1
      cases rep_s r3
      exact .inr (.inr ⟨_, rfl, Nat.le_trans p3.1 size6, p.here (.str _) so3⟩)
    · cases e1
      have r4 := r3
      obtain ⟨a, vs, rfl, hq, rs⟩ := tup_of r3
      refine .inr (.inl ⟨a, vs, rfl, hq, fun z => ?_, fun z => p.newT so3 (rs.cut l u)⟩)
      rw [rs.length] at z
      rw [cut_all _ _ _ z] at p
      exact p.here r4 so3
    · split at e1
      · rename_i e2
        cases e1
        obtain ⟨a, vs, rfl, hq, rs⟩ := lst_of so3 r3 e2
        exact .inl ⟨a, vs, rfl, SqL.of hq, p.newL so3 (rs.cut l u)⟩
      · cases e1
  · exact p3.elim
/-! ### lists that change -/
/-- a method of a list: its value, the list behind it -/
abbrev OL := List T → List T → Option (Prop × T × List T)
structure LM (X : Cx) (cl : CL) (id : String) (o : OL) : Prop where
  ex : ∃ r, MtR X id r ∧ ∀ (Z : Addr → Prop) (s : S) (H : Hp) (a : Addr) (xs zs : List T) (vs ws : List V) (Q : VK) (c : Prop) (t : T), H a = some (.lst vs) → Reps X.K cl Z s H vs xs → s.on a ≠ none → ∀ (ts : List T), Reps X.K cl Z s H ws ts → o xs ts = some (c, t, zs) → c →
    (∀ v us, Rep X.K cl Z s H v t → Reps X.K cl Z s H us zs → Q v (upd H a (.lst us))) → r (.ref a) ws H Q
def onL (s : S) (x : T) (o : OL) (ts : List T) (Q : KT) : Prop := match x with | .cell a => (match s.on a with | some (.lst xs) => (match o xs ts with | some (c, t, zs) => c ∧ Q t (s.put a (.lst zs)) | none => False) | _ => False) | _ => False
theorem onL.mon {s : S} {x : T} {o : OL} {ts : List T} {Q Q' : KT} (i : ∀ t s, Q t s → Q' t s) (h : onL s x o ts Q) : onL s x o ts Q' := by
  unfold onL at h ⊢
  split at h
  · split at h
    · split at h
      · exact ⟨h.1, i _ _ h.2⟩
      · exact h
    · exact h
  · exact h
def fLM (o : OL) (Fo : FE) (A : FA) : FE := fun τ s Q E => Fo τ s (fun x s1 => (s1.lst? x).isSome = true ∧ A τ s1 (fun ts s2 => onL s2 x o ts Q) E) E
theorem onL_go {o : OL} {id : String} {r : V → List V → Hp → VK → Prop} (hr : ∀ (Z : Addr → Prop) (s : S) (H : Hp) (a : Addr) (xs zs : List T) (vs ws : List V) (Q : VK) (c : Prop) (t : T), H a = some (.lst vs) → Reps X.K cl Z s H vs xs → s.on a ≠ none → ∀ (ts : List T), Reps X.K cl Z s H ws ts → o xs ts = some (c, t, zs) → c →
    (∀ v us, Rep X.K cl Z s H v t → Reps X.K cl Z s H us zs → Q v (upd H a (.lst us))) → r (.ref a) ws H Q) {Z : Addr → Prop} {s0 s : S} {H0 H : Hp} {x : V} {tx : T} {ws : List V} {ts : List T} {Q : VK} (f : Fut s0 H0 s H) (px : Rep X.K cl Z s H x tx) (pw : Reps X.K cl Z s H ws ts) (so : Sto X.K cl Z s H)
    (h : onL s tx o ts (post X.K cl Z s0 H0 Q)) : r x ws H Q := by
  unfold onL at h
  split at h
  · rename_i a
    cases px
    split at h
    · rename_i xs ho
      split at h
      · rename_i c t zs e
        obtain ⟨vs, h1, h2⟩ := so.cells _ _ ho
        have hne : s.on a ≠ none := by rw [ho]; exact Option.some_ne_none _
        refine hr Z s H a xs zs vs ws Q c t h1 h2 hne ts pw e h.1 fun v us rv ru => ?_
        have fu : Fut s H (s.put a (.lst zs)) (upd H a (.lst us)) := Fut.cell hne
        exact h.2 _ _ (f.trans fu) (rv.fut fu) (so.cell hne ⟨us, upd_same, ru.fut fu⟩)
      · exact h.elim
    · exact h.elim
  · exact h.elim
theorem tyV_lst {K : PySem.W.Frag} {Z : Addr → Prop} {s : S} {H : Hp} {v : V} {t : T} (so : Sto K cl Z s H) (r : Rep K cl Z s H v t) (h : (s.lst? t).isSome = true) : tyV K "list" v H := by
  obtain ⟨xs, e⟩ := Option.isSome_iff_exists.mp h
  obtain ⟨a, vs, rfl, h1, _⟩ := lst_of so r e
  exact .inl ⟨rfl, vs, SqL.of h1⟩
theorem mon_lm {o : OL} (mo : MonE Fo) (ma : MonA A) : MonE (fLM o Fo A) := fun τ s Q Q' E E' hq he h => mo _ _ _ _ _ _ (fun x s1 q => ⟨q.1, ma _ _ _ _ _ _ (fun ts s2 q => q.mon hq) he q.2⟩) he h
theorem je_lm {op : OL} {id : String} {name : Str} (hm : LM X cl id op) (slot : Slot "list" name id) (hty : typeOf (.builtin id) = pure (.type "method_descriptor")) (ho : JE X cl W o Fo) (ha : JA X cl W (e :: es) A)
    (hbase : attributeBase o name X.env (eval o X.env) = eval o X.env := by rfl)
    (hfew : ((backTo pos (starEach (e :: es) X.env)).all (fun x => !x.1) && (backToKw pos (keywordEach [] X.env)).all (fun x => x.1.isSome)
      && decide ((e :: es).length + ([] : List Keyword).length + (if ([] : List Keyword).isEmpty then 0 else 1) < 30)) = true := by rfl)
    (hline : (apos.endLine == pos.line) = true := by rfl) (hs : starEach (e :: es) X.env = (false, eval e X.env) :: starEach es X.env := by rfl) (hplain : (backTo pos (starEach es X.env)).any (·.1) = false := by rfl) :
    JE X cl W (.Call (.Attribute o name apos) (e :: es) [] pos) (fLM op Fo A) := by
  obtain ⟨r, h1, h2⟩ := hm.ex
  refine ⟨mon_lm ho.mon ha.mon, PE.imp (pe_bm PySem.F.plainAttrs_list slot hty h1 ho.pe ha.pa hbase hfew hline hs hplain) ?_⟩
  rintro σ H Q ⟨Z, τ, s, re, so, h⟩
  refine go ho.mon re so h (fun tx s1 x H1 p1 f1 re1 r1 so1 => ⟨tyV_lst so1 r1 p1.1, ?_⟩) fun _ _ q => q
  exact goA ha.mon re1 so1 p1.2 (fun ts s2 vs H2 p2 f2 re2 r2 so2 => onL_go (id := id) h2 (f1.trans f2) (r1.fut f2) r2 so2 p2) fun _ _ q => postW.up f1 q
theorem je_lm0 {op : OL} {id : String} {name : Str} (hm : LM X cl id op) (slot : Slot "list" name id) (hty : typeOf (.builtin id) = pure (.type "method_descriptor")) (ho : JE X cl W o Fo)
    (hbase : attributeBase o name X.env (eval o X.env) = eval o X.env := by rfl) (hline : (apos.endLine == pos.line) = true := by rfl) : JE X cl W (.Call (.Attribute o name apos) [] [] pos) (fLM op Fo fNil) := by
  obtain ⟨r, h1, h2⟩ := hm.ex
  refine ⟨mon_lm ho.mon (ja_nil (X := X) (cl := cl) (W := W)).mon, PE.imp (pe_bm0 PySem.F.plainAttrs_list slot hty h1 ho.pe hbase hline) ?_⟩
  rintro σ H Q ⟨Z, τ, s, re, so, h⟩
  exact go ho.mon re so h (fun tx s1 x H1 p1 f1 re1 r1 so1 => ⟨tyV_lst so1 r1 p1.1, onL_go (id := id) h2 f1 r1 .nil so1 p1.2⟩) fun _ _ q => q
def appO : OL
  | xs, [y] => some (xs.length < 1000000, .non, xs ++ [y])
  | _, _ => none
theorem lm_append : LM X cl "list.append" appO := by
  refine ⟨_, mt_append, fun Z s H a xs zs vs ws Q c t h r hne ts rt e hc q => ?_⟩
  unfold appO at e
  split at e
  · cases e
    obtain ⟨w, rfl, rw'⟩ := reps1 rt
    exact ⟨a, vs, w, rfl, rfl, h, by rw [r.length]; exact Nat.lt_of_lt_of_le hc size6, q _ _ .non (Reps.append r (.cons rw' .nil))⟩
  · cases e
def revO : OL
  | xs, [] => some (True, .non, xs.reverse)
  | _, _ => none
theorem lm_reverse : LM X cl "list.reverse" revO := by
  refine ⟨_, mt_reverse, fun Z s H a xs zs vs ws Q c t h r hne ts rt e hc q => ?_⟩
  unfold revO at e
  split at e
  · cases e
    cases rt
    exact ⟨a, vs, rfl, rfl, h, q _ _ .non r.reverse⟩
  · cases e
def clrO : OL
  | _, [] => some (True, .non, [])
  | _, _ => none
theorem lm_clear : LM X cl "list.clear" clrO := by
  refine ⟨_, mt_clear, fun Z s H a xs zs vs ws Q c t h r hne ts rt e hc q => ?_⟩
  unfold clrO at e
  split at e
  · cases e
    cases rt
    exact ⟨a, vs, rfl, rfl, h, q _ _ .non .nil⟩
  · cases e
theorem Reps.eraseIdx {K : PySem.W.Frag} {Z : Addr → Prop} {s : S} {H : Hp} : ∀ {vs : List V} {ts : List T} (n : Nat), Reps K cl Z s H vs ts → Reps K cl Z s H (vs.eraseIdx n) (ts.eraseIdx n)
  | _, _, _, .nil => .nil
  | _, _, 0, .cons _ r => r
  | _, _, n + 1, .cons h r => .cons h (r.eraseIdx n)
def popO : OL
  | xs, [.int i] => if 0 ≤ i ∧ i < (xs.length : Int) then (match xs[i.toNat]? with | some t => some (xs.length < 1000000, t, xs.eraseIdx i.toNat) | none => none) else none
  | _, _ => none
theorem lm_pop : LM X cl "list.pop" popO := by
  refine ⟨_, mt_popAt, fun Z s H a xs zs vs ws Q c t h r hne ts rt e hc q => ?_⟩
  unfold popO at e
  split at e
  · rename_i i
    split at e
    · rename_i hi
      split at e
      · rename_i t' e1
        cases e
        obtain ⟨w, rfl, rw'⟩ := reps1 rt
        cases rep_i rw'
        obtain ⟨v, ev, rv⟩ := r.get _ e1
        have hlen : xs.length < 1000000 := hc
        refine ⟨a, vs, i, i.toNat, v, rfl, rfl, h, by omega, by omega, ?_, ev, q _ _ rv (r.eraseIdx _)⟩
        unfold seqIndex?
        rw [r.length, if_neg (show ¬ i < 0 by omega)]
        exact if_pos (by rw [Bool.and_eq_true]; exact ⟨decide_eq_true hi.1, decide_eq_true hi.2⟩)
      · cases e
    · cases e
  · cases e
end
end Mr

/-! The mirror layer: the pen, the law's call, facts about classes, keywords. -/
namespace Mr
open PySem PySem.Spec PyProof.Rows L2 Tw
section
variable {X : Cx} {cl : CL} {W : WX} {pos : Pos}
def fDct0 : FE := fun _ s Q _ => Q (.dct []) s
theorem je_dct0 : JE X cl W (.Dict [] [] pos) fDct0 := by
  refine ⟨fun _ _ _ _ _ _ hq _ h => hq _ _ h, PE.imp pe_dnewK ?_⟩
  rintro σ H Q ⟨Z, τ, s, re, so, h⟩
  intro a ha
  exact h _ _ (Fut.new ha) (.dct upd_same (so.nomut ha) .nil) (so.new ha)
end
/-! ### the pen -/
def drawF : FD := fun ts s Q _ => match ts with
  | [.pen, .int many] => (1 ≤ many ∧ many ≤ 1000000000000 ∧ s.pen ≤ 1000000) ∧ ∀ k : Int, 0 ≤ k → k < many → Q (.int k) (s.pn (s.pen + 1))
  | _ => False
def spDrawX : Sp := fun vs H Q _ => ∃ (p L : Addr) (a r many : Int) (ns : List Int), vs = [.ref p, .int many] ∧ H p = some (.lst [.ref L, .int a, .int r]) ∧ H L = some (.lst (ns.map V.int)) ∧ 0 ≤ a ∧ a ≤ 1000000 ∧ ns.length ≤ 63 ∧ 1 ≤ many ∧ many ≤ 1000000000000 ∧
  ∀ (k : Int) (H' : Hp) (a' r' : Int), 0 ≤ k → k < many → (∀ b o, b ≠ p → H b = some o → H' b = some o) → H' p = some (.lst [.ref L, .int a', .int r']) → 0 ≤ a' → a' ≤ a + 1 → Q (.int k) H'
theorem rep_pen {K : PySem.W.Frag} {cl : CL} {Z : Addr → Prop} {s : S} {H : Hp} {v : V} (r : Rep K cl Z s H v .pen) : ∃ p, v = .ref p ∧ s.pa = some p := by
  cases r with
  | pen h => exact ⟨_, rfl, h⟩
theorem draw_sp {K : PySem.W.Frag} {cl : CL} : ∀ vs H Q E, spM K cl drawF vs H Q E → spDrawX vs H Q E := by
  rintro vs H Q E ⟨Z, ts, s, r, so, Q0, E0, h1, h2, h3⟩
  unfold drawF at h1
  split at h1
  · rename_i many
    obtain ⟨v, w, rfl, rv, rw'⟩ := reps2 r
    cases rep_i rw'
    obtain ⟨p, rfl, hp⟩ := rep_pen rv
    obtain ⟨⟨m1, m2, m3⟩, k⟩ := h1
    obtain ⟨L, a, q, ns, e1, e2, fz, a0, a1, hl⟩ := so.pen p hp
    have nL : L ≠ p := fun e => fz.1 (.inl (by rw [e]; exact hp))
    refine ⟨p, L, a, q, many, ns, rfl, e1, e2, a0, by omega, hl, m1, m2, fun k' H' a' r' k0 k1 keep hp' ha0 ha1 => ?_⟩
    exact h2 _ _ (k k' k0 k1) _ _ (Fut.pen hp keep) (.int _) (so.pnn hp keep ⟨L, a', r', ns, hp', e2, nL, fz, ha0, by omega, hl⟩)
  · exact h1.elim
theorem drawM {P : Program} {w : World} {K : PySem.W.Frag} {mg : Str → Option Value} {base : Heap} {cl : CL} {k : Nat} {x : Str} (c : Cal P w K mg base k x spDrawX []) : CalM P w K mg base cl k x drawF [] := by
  obtain ⟨f, fd, ps, ds, F, a, b, d, e⟩ := c.ex
  exact ⟨[], ⟨f, fd, ps, ds, F.imp draw_sp, a, b, d, e⟩, fun _ _ _ => .nil⟩
theorem use_draw {s : S} {many : Int} {Q : KT} {E : KX} (h1 : 1 ≤ many) (h2 : many ≤ 1000000000000) (h3 : s.pen ≤ 1000000) (h : ∀ k : Int, 0 ≤ k → k < many → Q (.int k) (s.pn (s.pen + 1))) : cM drawF [.pen, .int many] s Q E := cM.of ⟨⟨h1, h2, h3⟩, h⟩
/-- what the pen's def promises -/
def spPenX (K : PySem.W.Frag) : Sp := fun vs H Q _ => ∃ (a : Addr) (ns : List Int), vs = [.ref a] ∧ SqL K H a (ns.map V.int) ∧ ns.length ≤ 63 ∧
  ∀ (p L : Addr) (H' : Hp), Same H H' → H p = none → H L = none → p ≠ L → H' p = some (.lst [.ref L, .int 0, .int 0]) → H' L = some (.lst (ns.map V.int)) → Q (.ref p) H'
/-! ### the law -/
def spLaw (cl : CL) (K : PySem.W.Frag) : Sp := fun vs H Q _ => ∃ (a : Addr) (ns : List Int), vs = [.ref a] ∧ SqL K H a (ns.map V.int) ∧ ns.length ≤ 63 ∧ LamX.Tabs cl.t H ∧ ∀ H', Q (.bl true) H'
/-- behind the law's first statement -/
def s0 (p : Addr) : S := ⟨some p, 0, fun _ => none⟩
def lawEnds : DS := ⟨fun _ _ => False, fun t _ => t = .bl true, fun _ _ => False, fun _ _ => False, fun _ _ _ => False⟩
theorem law_go {K : PySem.W.Frag} {cl : CL} {W : WX} {B : FS} {H : Hp} {Q : VK} {N : List Str} (hN : 2 ≤ N.length) (mB : MonS B) (hB : ∀ a p : Addr, B (some (.cell a) :: some .pen :: List.replicate (N.length - 2) none) (s0 p) lawEnds) {a : Addr} {ns : List Int} (hl : ns.length ≤ 63) (hT : LamX.Tabs cl.t H) (q : ∀ H', Q (.bl true) H') :
    ∀ (p L : Addr) (H' : Hp), Same H H' → H p = none → H L = none → p ≠ L → H' p = some (.lst [.ref L, .int 0, .int 0]) → H' L = some (.lst (ns.map V.int)) →
      tTS K cl W B { nx := fun _ H' => Q .non H', rt := Q } (List.set (L2.start N [.ref a]) 1 (some (.ref p))) H' := by
  intro p L H' sm _ _ ne hp hL
  have nL : ¬ (s0 p).mut L := by
    rintro (h | h)
    · injection h with h
      exact ne h
    · exact h rfl
  have so : Sto K cl (fun _ => False) (s0 p) H' := by
    refine ⟨fun q hq => ?_, fun b c h => ?_, fun q _ => rfl, fun b h => h.elim, hT.ext sm⟩
    · have e : p = q := by injection hq
      subst e
      exact ⟨L, 0, 0, ns, hp, hL, ⟨nL, fun h => h⟩, Int.le_refl 0, Int.le_refl 0, hl⟩
    · cases h
  refine ⟨fun _ => False, some (.cell a) :: some .pen :: List.replicate (N.length - 2) none, s0 p, ?_, so, mB _ _ _ _ ?_ (hB a p)⟩
  · have e : List.set (L2.start N [V.ref a]) 1 (some (V.ref p)) = some (V.ref a) :: some (V.ref p) :: List.replicate (N.length - 2) none := by
      unfold L2.start
      obtain ⟨k, hk⟩ : ∃ k, N.length = k + 2 := ⟨N.length - 2, by omega⟩
      rw [hk]
      show List.set (some (V.ref a) :: List.replicate (k + 2 - 1) none) 1 (some (V.ref p)) = _
      rw [show k + 2 - 1 = k + 1 from rfl, List.replicate_succ]
      rfl
    rw [e]
    exact .c1 (.cell a) (.c1 (.pen rfl) (RepE.nones _))
  · refine ⟨fun _ _ z => False.elim z, fun t s' e v H2 f r so => ?_, fun _ _ z => False.elim z, fun _ _ z => False.elim z, fun _ _ _ z => False.elim z⟩
    have e' : t = .bl true := e
    subst e'
    cases r
    exact q H2
/-! ### facts about classes, by one look -/
section
variable {K : PySem.W.Frag}
def clsB (K : PySem.W.Frag) (C : Addr) : Bool := PySem.W.plainGet K C Str.empty && (PySem.W.hasDictIn K C && (PySem.W.plainOver K C && decide (PySem.W.findIn K (.ref C) "__setattr__" = some (some (.builtin "object.__setattr__")))))
theorem clsB_ok {C : Addr} (h : clsB K C = true) : Cls K C := by
  obtain ⟨h1, h⟩ := Bool.and_eq_true_iff.mp h
  obtain ⟨h2, h⟩ := Bool.and_eq_true_iff.mp h
  obtain ⟨h3, h4⟩ := Bool.and_eq_true_iff.mp h
  exact ⟨h1, h2, h3, of_decide_eq_true h4⟩
def insB (K : PySem.W.Frag) (C : Addr) : Bool := clsB K C && (decide (PySem.W.findIn K (.ref C) "__class__" = some (some (.builtin "object.__class__"))) && (decide (PySem.W.specialIn K (.builtin "object.__class__") "__get__" = some (some (.builtin "getset_descriptor.__get__"))) && (decide (PySem.W.takesIn K (.builtin "object.__class__") = some true) &&
  (decide (PySem.W.mroIn K C (.type "object") = some true) && decide (PySem.W.kitOne K (.ref C) (.ref C) = some true)))))
theorem insB_ok {C : Addr} (h : insB K C = true) : C8.InsC K C := by
  obtain ⟨h1, h⟩ := Bool.and_eq_true_iff.mp h
  obtain ⟨h2, h⟩ := Bool.and_eq_true_iff.mp h
  obtain ⟨h3, h⟩ := Bool.and_eq_true_iff.mp h
  obtain ⟨h4, h⟩ := Bool.and_eq_true_iff.mp h
  obtain ⟨h5, h6⟩ := Bool.and_eq_true_iff.mp h
  exact ⟨clsB_ok h1, of_decide_eq_true h2, of_decide_eq_true h3, of_decide_eq_true h4, of_decide_eq_true h5, of_decide_eq_true h6⟩
def excB (K : PySem.W.Frag) (C : Addr) : Bool := decide (PySem.W.findIn K (.ref C) "__getattribute__" = some (some (.builtin "BaseException.__getattribute__"))) && (decide (PySem.W.findIn K (.ref C) "__getattr__" = some none) && (decide (PySem.W.subIn K (.ref C) (.type "BaseException") = some true) && (PySem.W.hasDictIn K C &&
  (decide (PySem.W.findIn K (.ref C) "__class__" = some (some (.builtin "object.__class__"))) && (decide (PySem.W.specialIn K (.builtin "object.__class__") "__get__" = some (some (.builtin "getset_descriptor.__get__"))) && (decide (PySem.W.takesIn K (.builtin "object.__class__") = some true) && decide (PySem.W.mroIn K C (.type "object") = some true)))))))
theorem excB_ok {C : Addr} (h : excB K C = true) : ExcC K C := by
  obtain ⟨h1, h⟩ := Bool.and_eq_true_iff.mp h
  obtain ⟨h2, h⟩ := Bool.and_eq_true_iff.mp h
  obtain ⟨h3, h⟩ := Bool.and_eq_true_iff.mp h
  obtain ⟨h4, h⟩ := Bool.and_eq_true_iff.mp h
  obtain ⟨h5, h⟩ := Bool.and_eq_true_iff.mp h
  obtain ⟨h6, h⟩ := Bool.and_eq_true_iff.mp h
  obtain ⟨h7, h8⟩ := Bool.and_eq_true_iff.mp h
  exact ⟨of_decide_eq_true h1, of_decide_eq_true h2, of_decide_eq_true h3, h4, of_decide_eq_true h5, of_decide_eq_true h6, of_decide_eq_true h7, of_decide_eq_true h8⟩
theorem excB_xf {C : Addr} (h : excB K C = true) : XfC K C := by
  have e := excB_ok h
  exact ⟨e.hg, e.hk, e.hs, e.hd⟩
end
/-- a table of classes: their numbers in order -/
def clL (l : List Addr) (n : Nat) : Addr := l.getD n 0
theorem one_met {P : Program} {w : World} {K : PySem.W.Frag} {mg : Str → Option Value} {base : Heap} {cl : CL} {k c : Nat} {m : Str} {F : FD} {dts : List T} (h : MetM P w K mg base cl k c m F dts) : ∀ c' ∈ [c], MetM P w K mg base cl k c' m F dts := fun c' hc => by
  rw [List.mem_singleton.mp hc]
  exact h
theorem all_nil {P : Nat → Prop} : ∀ c ∈ ([] : List Nat), P c := fun _ h => nomatch h
theorem all_cons {P : Nat → Prop} {a : Nat} {l : List Nat} (h : P a) (r : ∀ c ∈ l, P c) : ∀ c ∈ a :: l, P c := fun c hc => by
  rcases List.mem_cons.mp hc with e | e
  · rw [e]
    exact h
  · exact r c e
/-- a table of answers to isinstance -/
def kkOf (tab : List ((Ty × Ty) × Bool)) (a b : Ty) : Option Bool := match tab with
  | [] => none
  | (p, r) :: rest => if a = p.1 ∧ b = p.2 then some r else kkOf rest a b
def kitB' (K : PySem.W.Frag) (cl : CL) : List ((Ty × Ty) × Bool) → Bool
  | [] => true
  | (p, r) :: rest => decide (PySem.W.kitOne K (p.1.u cl) (p.2.u cl) = some r) && kitB' K cl rest
theorem kit_all {K : PySem.W.Frag} {cl : CL} : ∀ {tab : List ((Ty × Ty) × Bool)}, kitB' K cl tab = true → ∀ a b r, kkOf tab a b = some r → PySem.W.kitOne K (a.u cl) (b.u cl) = some r
  | [], _, a, b, r, e => by cases e
  | (p, q) :: rest, h, a, b, r, e => by
    obtain ⟨h1, h2⟩ := Bool.and_eq_true_iff.mp h
    unfold kkOf at e
    split at e
    · rename_i hab
      cases e
      rw [hab.1, hab.2]
      exact of_decide_eq_true h1
    · exact kit_all h2 a b r e
def exmB (K : PySem.W.Frag) (cl : CL) (h : Nat) (l : List Nat) : Bool := l.all fun c => decide (PySem.W.exmOne K (.ref (cl c)) (.ref (cl h)) = some true)
theorem exm_all {K : PySem.W.Frag} {cl : CL} {h : Nat} {l : List Nat} (e : exmB K cl h l = true) : ∀ c, c ∈ l → PySem.W.exmOne K (.ref (cl c)) (.ref (cl h)) = some true := fun c hc => of_decide_eq_true (List.all_eq_true.mp e c hc)
def nfB (K : PySem.W.Frag) (cl : CL) (c : Nat) (l : List Ty) : Bool := l.all fun t => PySem.W.notFirst K (cl c) (t.u cl)
theorem nf_all {K : PySem.W.Frag} {cl : CL} {c : Nat} {l : List Ty} (e : nfB K cl c l = true) : ∀ t ∈ l, PySem.W.notFirst K (cl c) (t.u cl) = true := fun t ht => List.all_eq_true.mp e t ht
end Mr

/-! The mirror layer: a def's text to its bundles; calls with keywords. -/
namespace Mr
open PySem PySem.Spec PyProof.Rows L2 Tw
section
variable {P : Program} {w : World} {K : PySem.W.Frag} {mg : Str → Option Value} {base : Heap} {cl : CL} {k c n : Nat} {x m qual : Str} {st : Stmt} {ps N ks : List Str} {dvs : List V} {dts : List T} {D : FD} {B : FS} {f : Addr} {fd : FuncData} {gV : List V → List V → List V} {gT : List T → List T → List T}
/-- the body's walk -/
abbrev Walk (P : Program) (w : World) (K : PySem.W.Frag) (mg : Str → Option Value) (base : Heap) (cl : CL) (k : Nat) (N : List Str) (qual : Str) (st : Stmt) (B : FS) : Prop :=
  ∀ (f : Addr) (cdv : Value) (A : Around) (out : List PySem.Env) (s : Shared) (H : Hp) (E : XK), Rm k (A.deeper (envOfC qual (C8.fnScope st) s.heap.objs.size f cdv)) →
      JSs (cxOf (L2.CX P w) P w K mg base N qual (C8.fnScope st) f cdv A out s H E) cl (fun cls d _ H' => E cls d H') (C8.fnBody st) B
theorem fnM (S : FnScope N ps (C8.fnScope st)) (len : ∀ ts s Q E, D ts s Q E → ts.length = ps.length) (hB : Walk P w K mg base cl k N qual st B)
    (hF : ∀ ts s Q E, D ts s Q E → B (startT N ts) s (endsM Q E)) : ∀ {x : Str} {f : Addr} {fd : FuncData}, C8.Fun K x qual st f fd → FnG P w K mg base (k + 1) f fd ps (spM K cl D) :=
  fun F => fnGX F S (spM.len len) fun cdv A out s H vs Q E hr h => body_go (hB _ cdv A out s H E hr) hF h
theorem calOf (d : DefAt K mg x st ps dvs) (hd : ∀ Z s H, Reps K cl Z s H dvs dts) (fn : ∀ {y : Str} {f : Addr} {fd : FuncData}, C8.Fun K y x st f fd → FnG P w K mg base k f fd ps (spM K cl D)) : CalM P w K mg base cl k x D dts := by
  obtain ⟨f, fd, ds, F, g, kp, b, v⟩ := d.ex
  exact ⟨dvs, ⟨f, fd, ps, ds, fn F, g, kp, b, v⟩, hd⟩
theorem metOf (d : MetAt K (cl c) m qual st ps dvs) (hd : ∀ Z s H, Reps K cl Z s H dvs dts) (fn : ∀ {y : Str} {f : Addr} {fd : FuncData}, C8.Fun K y qual st f fd → FnG P w K mg base k f fd ps (spM K cl D)) : MetM P w K mg base cl k c m D dts := by
  obtain ⟨f, fd, ds, C, me, F, b, v⟩ := d.ex
  exact ⟨dvs, ⟨f, fd, ps, ds, C, me, fn F, b, v⟩, hd⟩
theorem makOf (d : MakAt K mg x (cl c) qual st ps dvs) (hd : ∀ Z s H, Reps K cl Z s H dvs dts) (fn : ∀ {y : Str} {f : Addr} {fd : FuncData}, C8.Fun K y qual st f fd → FnG P w K mg base k f fd ps (spM K cl D)) : MakM P w K mg base cl k x c D dts := by
  obtain ⟨f, fd, ds, M, F, g, b, v⟩ := d.ex
  exact ⟨dvs, ⟨f, fd, ps, ds, M, fn F, g, b, v⟩, hd⟩
/-! ### keywords -/
structure DefAtK (K : PySem.W.Frag) (mg : Str → Option Value) (x : Str) (st : Stmt) (ps : List Str) (n : Nat) (ks : List Str) (gV : List V → List V → List V) : Prop where
  ex : ∃ (f : Addr) (fd : FuncData) (g : List Value → List Value → List Value), C8.Fun K x x st f fd ∧ mg x = some (.ref f) ∧ PySem.W.keepIn K (.ref f) = true ∧ KBn K fd ps n ks g gV
structure MetAtK (K : PySem.W.Frag) (C : Addr) (m qual : Str) (st : Stmt) (ps : List Str) (n : Nat) (ks : List Str) (gV : List V → List V → List V) : Prop where
  ex : ∃ (f : Addr) (fd : FuncData) (g : List Value → List Value → List Value), Cls K C ∧ Meth K C m f ∧ C8.Fun K m qual st f fd ∧ KBn K fd ps n ks g gV
structure MakAtK (K : PySem.W.Frag) (mg : Str → Option Value) (x : Str) (C : Addr) (qual : Str) (st : Stmt) (ps : List Str) (n : Nat) (ks : List Str) (gV : List V → List V → List V) : Prop where
  ex : ∃ (f : Addr) (fd : FuncData) (g : List Value → List Value → List Value), Mk K C f ∧ C8.Fun K "__init__" qual st f fd ∧ mg x = some (.ref C) ∧ KBn K fd ps n ks g gV
def KRel (K : PySem.W.Frag) (cl : CL) (gV : List V → List V → List V) (gT : List T → List T → List T) : Prop := ∀ {Z : Addr → Prop} {s : S} {H : Hp} {vs : List V} {ts : List T} {zs : List V} {us : List T}, Reps K cl Z s H vs ts → Reps K cl Z s H zs us → Reps K cl Z s H (gV vs zs) (gT ts us)
theorem Reps.getD {Z : Addr → Prop} {s : S} {H : Hp} : ∀ {vs : List V} {ts : List T} (i : Nat), Reps K cl Z s H vs ts → Rep K cl Z s H (vs.getD i .non) (ts.getD i .non)
  | _, _, _, .nil => by simp; exact .non
  | _, _, 0, .cons h _ => h
  | _, _, i + 1, .cons _ r => r.getD i
structure CalK (P : Program) (w : World) (K : PySem.W.Frag) (mg : Str → Option Value) (base : Heap) (cl : CL) (k : Nat) (x : Str) (D : FD) (n : Nat) (ks : List Str) (gT : List T → List T → List T) : Prop where
  ex : ∃ (f : Addr) (fd : FuncData) (ps : List Str) (g : List Value → List Value → List Value) (gV : List V → List V → List V), KRel K cl gV gT ∧ FnG P w K mg base k f fd ps (spM K cl D) ∧ mg x = some (.ref f) ∧ PySem.W.keepIn K (.ref f) = true ∧ KBn K fd ps n ks g gV
structure MetK (P : Program) (w : World) (K : PySem.W.Frag) (mg : Str → Option Value) (base : Heap) (cl : CL) (k : Nat) (c : Nat) (m : Str) (D : FD) (n : Nat) (ks : List Str) (gT : List T → List T → List T) : Prop where
  ex : ∃ (f : Addr) (fd : FuncData) (ps : List Str) (g : List Value → List Value → List Value) (gV : List V → List V → List V), KRel K cl gV gT ∧ Cls K (cl c) ∧ Meth K (cl c) m f ∧ FnG P w K mg base k f fd ps (spM K cl D) ∧ KBn K fd ps n ks g gV
structure MakK (P : Program) (w : World) (K : PySem.W.Frag) (mg : Str → Option Value) (base : Heap) (cl : CL) (k : Nat) (x : Str) (c : Nat) (D : FD) (n : Nat) (ks : List Str) (gT : List T → List T → List T) : Prop where
  ex : ∃ (f : Addr) (fd : FuncData) (ps : List Str) (g : List Value → List Value → List Value) (gV : List V → List V → List V), KRel K cl gV gT ∧ Mk K (cl c) f ∧ FnG P w K mg base k f fd ps (spM K cl D) ∧ mg x = some (.ref (cl c)) ∧ KBn K fd ps n ks g gV
theorem calKOf (d : DefAtK K mg x st ps n ks gV) (hd : KRel K cl gV gT) (fn : ∀ {y : Str} {f : Addr} {fd : FuncData}, C8.Fun K y x st f fd → FnG P w K mg base k f fd ps (spM K cl D)) : CalK P w K mg base cl k x D n ks gT := by
  obtain ⟨f, fd, g, F, a, b, c⟩ := d.ex
  exact ⟨f, fd, ps, g, gV, hd, fn F, a, b, c⟩
theorem metKOf (d : MetAtK K (cl c) m qual st ps n ks gV) (hd : KRel K cl gV gT) (fn : ∀ {y : Str} {f : Addr} {fd : FuncData}, C8.Fun K y qual st f fd → FnG P w K mg base k f fd ps (spM K cl D)) : MetK P w K mg base cl k c m D n ks gT := by
  obtain ⟨f, fd, g, C, a, F, b⟩ := d.ex
  exact ⟨f, fd, ps, g, gV, hd, C, a, fn F, b⟩
theorem makKOf (d : MakAtK K mg x (cl c) qual st ps n ks gV) (hd : KRel K cl gV gT) (fn : ∀ {y : Str} {f : Addr} {fd : FuncData}, C8.Fun K y qual st f fd → FnG P w K mg base k f fd ps (spM K cl D)) : MakK P w K mg base cl k x c D n ks gT := by
  obtain ⟨f, fd, g, M, F, a, b⟩ := d.ex
  exact ⟨f, fd, ps, g, gV, hd, M, fn F, a, b⟩
end
section
variable {X : Cx} {cl : CL} {W : WX} {e a b c o : Expr} {es : List Expr} {F Fa Fb Fc Fo : FE} {A Ak : FA} {pos p apos kpos : Pos} {x m : Str} {k j n cc : Nat} {D : FD} {ks : List Str} {kws : List Keyword} {nm : Option Str} {gT : List T → List T → List T} {f : Addr} {fd : FuncData} {ps : List Str} {sp : Sp} {g : List Value → List Value → List Value} {gV : List V → List V → List V} {E : XK}
structure JK (X : Cx) (cl : CL) (W : WX) (kws : List Keyword) (F : FA) : Prop where
  mon : MonA F
  pk : PK X kws (tTA X.K cl W F)
theorem PK.imp {t t' : TA} (h : PK X kws t) (i : ∀ σ H Q, t' σ H Q → t σ H Q) : PK X kws t' := ⟨fun pos pins s σ H Q I z => h.run pos pins s σ H Q I (i σ H Q z)⟩
theorem jk_nil : JK X cl W [] fNil := by
  refine ⟨fun τ s Q Q' E E' hq he h => hq _ _ h, PK.imp pk_nil ?_⟩
  rintro σ H Q ⟨Z, τ, s, re, so, h⟩
  exact h [] H (Fut.refl _ _) .nil so
theorem jk_cons (ha : JE X cl W e Fa) (hr : JK X cl W kws A) : JK X cl W (⟨nm, e, kpos⟩ :: kws) (fCons Fa A) := by
  refine ⟨fun τ s Q Q' E E' hq he h => ha.mon _ _ _ _ _ _ (fun x s1 h1 => hr.mon _ _ _ _ _ _ (fun xs s2 h2 => hq _ _ h2) he h1) he h, PK.imp (pk_cons ha.pe hr.pk) ?_⟩
  rintro σ H Q ⟨Z, τ, s, re, so, h⟩
  refine go ha.mon re so h (fun tx s1 x H1 p1 f1 re1 r1 so1 => ?_) fun _ _ q => q
  exact goA hr.mon re1 so1 p1 (fun ts s2 vs H2 p2 f2 re2 r2 so2 => p2 _ _ (f1.trans f2) (.cons (r1.fut f2) r2) so2) fun _ _ q => postW.up f1 q
theorem goKw {pins : List (Addr × Obj)} {σ : L2.St} {H : Hp} {s : Shared} {Q : VK} {us ws : List Value} {vs zs : List V} (F : FnG X.prog X.w X.K X.mg X.base k f fd ps sp) {A : Around} (hr : Rm k A) (fr : A.frames = X.A.frames) (hb : KBn X.K fd ps n ks g gV) (hx : PassAt X pins σ E)
    (I : Inv X pins σ H s) (r : Vals vs us) (rz : Vals zs ws) (l1 : vs.length = n) (l2 : zs.length = ks.length) (h : sp (gV vs zs) H Q E) : wpAny (model X.prog X.w) A (call (.ref f) us (ks.zip ws)) (EP X pins σ Q) X.xe s := by
  have ev : Env0 X.prog X.w X.K X.mg X.base A X.stack s H := { I.env0 with frames := fr.trans I.env0.frames }
  refine wpAny_call (codeAny_mono (F.run A X.stack s H ⟨us, ks.zip ws⟩ (g us ws) (gV vs zs) Q E hr ev (hb.to s us ws I.kIn (r.length.symm.trans l1) (rz.length.symm.trans l2)) (hb.rel r rz) h) ?_)
  intro res s' z
  match res, z with
  | .error e, z => exact hx H s e s' I z
  | .ok (.ret u), z => exact I.after z
  | .ok .next, z => exact False.elim z
  | .ok .brk, z => exact False.elim z
  | .ok .cont, z => exact False.elim z
/-- o.m(k = v, ..) -/
def fMtK (cc n mm : Nat) (m : Str) (D : FD) (gT : List T → List T → List T) (Fo : FE) (A Ak : FA) : FE := fun τ s Q E => Fo τ s (fun x s1 => match s1.obj? x with | some (c, fs) => (c = cc ∧ fs.lookup m = none) ∧ A τ s1 (fun ts s2 => Ak τ s2 (fun us s3 => (ts.length + 1 = n ∧ us.length = mm) ∧ cM D (gT (x :: ts) us) s3 Q E) E) E | none => False) E
theorem je_mtK0 {pl : Sem Bool} (tk : Takes X W) (d : MetK X.prog X.w X.K X.mg X.base cl k cc m D n ks gT) (hr : Rm j X.A) (hk : k ≤ j) (ho : JE X cl W o Fo) (hkw : JK X cl W kws Ak)
    (hall : (backToKw pos (keywordEach kws X.env)).all (·.1.isSome) = true := by rfl) (hks : (backToKw pos (keywordEach kws X.env)).filterMap (·.1) = ks := by rfl)
    (hpl : ((backTo pos (starEach [] X.env)).any (·.1) || (backToKw pos (keywordEach kws X.env)).any (·.1.isNone)) = false := by rfl)
    (ht : eval (.Call (.Attribute o m apos) [] kws pos) X.env = (do
      let ov ← eval o X.env
      standAt apos.atName
      let (g, first) ← holding [ov] (getMethod ov m pl)
      callWith pos g first (backTo pos (starEach [] X.env)) (backToKw pos (keywordEach kws X.env))) := by rfl) : JE X cl W (.Call (.Attribute o m apos) [] kws pos) (fMtK cc n ks.length m D gT Fo fNil Ak) := by
  obtain ⟨f, fd, ps, g, gV, rel, hcl, hm, F, b⟩ := d.ex
  refine ⟨fun τ s Q Q' E E' hq he h => ho.mon _ _ _ _ _ _ (fun x s1 h1 => ?_) he h, ⟨fun pins sh σ H Q I h => ?_⟩⟩
  · split at h1
    · exact ⟨h1.1, hkw.mon _ _ _ _ _ _ (fun us s2 h2 => ⟨h2.1, h2.2.mon hq he⟩) he h1.2⟩
    · exact h1
  obtain ⟨Z, τ, s, re, so, h⟩ := h
  have h' : tT X.K cl W Fo σ H fun x H1 => ∃ dx fs a, x = .ref a ∧ H1 a = some (.ins (cl cc) dx fs) ∧ fs.lookup m = none ∧ tTA X.K cl W Ak σ H1 fun zs H2 => 1 = n ∧ zs.length = ks.length ∧ spM X.K cl D (gV [.ref a] zs) H2 Q (fun cls d H' => W cls d σ H') := by
    refine go ho.mon re so h (fun tx s1 x H1 p1 f1 re1 r1 so1 => ?_) fun _ _ q => q
    split at p1
    · rename_i c fs e1
      obtain ⟨⟨rfl, hl⟩, p1⟩ := p1
      obtain ⟨a, dx, fvs, rfl, h1, rf⟩ := obj_of so1 r1 e1
      refine ⟨dx, fvs, a, rfl, h1, rf.lookup0 hl, goA hkw.mon re1 so1 p1 (fun us s2 zs H2 p2 f2 re2 r2 so2 => ⟨p2.1.1, by rw [r2.length]; exact p2.1.2, ?_⟩) fun _ _ q => postW.up f1 q⟩
      exact ⟨Z, _, s2, rel (.cons (r1.fut f2) .nil) r2, so2, p2.2.mon (fun _ _ q => post.up (f1.trans f2) q) fun _ _ q => postX.up (f1.trans f2) q⟩
    · exact p1.elim
  refine PySem.W.methodCall_KW (pl := pl) (thn (ho.pe.run pins sh σ H _ I h') ?_) ht
  rintro u s1 ⟨x, H1, I1, rx, dx, fs, a, rfl, ea, l, q⟩
  cases rx
  refine getmeth_ok I1 ea hcl hm l ?_
  refine PySem.W.callWith_KW0 (first := [.ref a]) (h₀ := X.base) I.ok.mod.kin hm.kp hall (thn (hkw.pk.run pos pins s1 σ H1 _ I1 q) ?_) hpl
  rintro ws s2 ⟨zs, H2, I2, rz, hn, hz, q2⟩
  rw [hks]
  exact ⟨I2.kIn, goKw (us := [.ref a]) (vs := [.ref a]) F (hr.mono hk) rfl b (pass_tk tk) I2 (Paired.cons rfl .nil) rz hn hz q2⟩
/-- C(k = v, ..) -/
def fMkK (fz : Bool) (n mm cc : Nat) (D : FD) (gT : List T → List T → List T) (A Ak : FA) : FE := fun τ s Q E => A τ s (fun ts s1 => Ak τ s1 (fun us s2 => (ts.length + 1 = n ∧ us.length = mm) ∧ ∀ x, s2.on x = none → cM D (gT (.cell x :: ts) us) (s2.put x (.obj cc [])) (doneM fz x Q) (fun er s3 => E er (s3.del x))) E) E
theorem mkK_go {fz : Bool} {Z : Addr → Prop} {σ : L2.St} {s s1 : S} {H H1 : Hp} {Q : VK} {vs zs : List V} {ts us : List T} (rel : KRel X.K cl gV gT) (f1 : Fut s H s1 H1) (r : Reps X.K cl Z s1 H1 vs ts) (rz : Reps X.K cl Z s1 H1 zs us) (so : Sto X.K cl Z s1 H1)
    (h : ∀ x, s1.on x = none → cM D (gT (.cell x :: ts) us) (s1.put x (.obj cc [])) (doneM fz x (post X.K cl Z s H Q)) (fun er s2 => postW X.K cl Z s H σ W er (s2.del x))) :
    ∀ x dx, H1 x = none → H1 dx = none → dx ≠ x → spM X.K cl D (gV (.ref x :: vs) zs) (upd (upd H1 dx (.own x)) x (.ins (cl cc) dx [])) (fun v H2 => v = .non ∧ Q (.ref x) H2) (fun cls d H' => W cls d σ H') := by
  intro x dx hx hdx ne
  have so2 := so.new (o := .own x) hdx
  have fu2 : Fut s1 H1 s1 (upd H1 dx (.own x)) := Fut.new hdx
  have hx2 : upd H1 dx (.own x) x = none := by rw [upd_ne (Ne.symm ne)]; exact hx
  have fu3 : Fut s1 (upd H1 dx (.own x)) (s1.put x (.obj cc [])) (upd (upd H1 dx (.own x)) x (.ins (cl cc) dx [])) := Fut.newC hx2
  have so3 : Sto X.K cl Z (s1.put x (.obj cc [])) (upd (upd H1 dx (.own x)) x (.ins (cl cc) dx [])) := so2.newC hx2 ⟨dx, [], upd_same, .nil⟩
  have fu : Fut s H (s1.put x (.obj cc [])) (upd (upd H1 dx (.own x)) x (.ins (cl cc) dx [])) := f1.trans (fu2.trans fu3)
  refine ⟨Z, gT (.cell x :: ts) us, s1.put x (.obj cc []), rel (.cons (.cell x) ((r.fut fu2).fut fu3)) ((rz.fut fu2).fut fu3), so3, (h x (on_none so hx)).mon (fun t s2 q => ?_) fun er s2 q => ?_⟩
  · obtain ⟨rfl, q⟩ := q
    intro v H2 f4 r4 so4
    cases r4
    refine ⟨rfl, ?_⟩
    cases fz with
    | false =>
      rw [if_neg Bool.false_ne_true] at q
      exact q _ _ (fu.trans f4) (.cell x) so4
    | true =>
      rw [if_pos rfl] at q
      split at q
      · rename_i c fs ho
        obtain ⟨dx2, fvs, h1, h2⟩ := so4.cells _ _ ho
        exact q _ _ (fu.trans (f4.trans (Fut.del _ _ x))) (.obj h1 (nomut_del so4 ho) (h2.fut (Fut.del _ _ x))) (so4.del x)
      · exact q.elim
  · intro d fvs H2 f4 hd2 m2 rf so4
    exact q d fvs H2 (fu.trans (f4.trans (Fut.del _ _ x))) hd2 ⟨fun m => m2.1 (mut_del m), m2.2⟩ (rf.fut (Fut.del _ _ x)) (so4.del x)
theorem makeKw {C : Addr} {pins : List (Addr × Obj)} {σ : L2.St} {H : Hp} {s : Shared} {Q : VK} {us ws : List Value} {vs zs : List V} (M : Mk X.K C f) (F : FnG X.prog X.w X.K X.mg X.base k f fd ps sp) (hr : Rm (k + 1) X.A) (hb : KBn X.K fd ps n ks g gV)
    (hx : PassAt X pins σ E) (I : Inv X pins σ H s) (r : Vals vs us) (rz : Vals zs ws) (l1 : vs.length + 1 = n) (l2 : zs.length = ks.length)
    (h : ∀ x dx, H x = none → H dx = none → dx ≠ x → sp (gV (.ref x :: vs) zs) (upd (upd H dx (.own x)) x (.ins C dx [])) (fun v H2 => v = .non ∧ Q (.ref x) H2) E) :
    wpAny (model X.prog X.w) X.A (call (.ref C) us (ks.zip ws)) (EP X pins σ Q) X.xe s := by
  have want := h (s.heap.objs.size + 1) s.heap.objs.size (I.hok.fresh (Nat.le_succ _)) (I.hok.fresh (Nat.le_refl _)) (Nat.ne_of_lt (Nat.lt_succ_self _))
  have I2 := Inv.made (C := C) I
  have r1 : Vals (V.ref (s.heap.objs.size + 1) :: vs) (Value.ref (s.heap.objs.size + 1) :: us) := Paired.cons rfl r
  refine wpAny_call (make_map (f := f) I.kIn M.makes M.init (beq_iff_eq.mp M.fn) (codeAny_mono (F.run _ X.stack _ _ ⟨Value.ref (s.heap.objs.size + 1) :: us, ks.zip ws⟩ (g (Value.ref (s.heap.objs.size + 1) :: us) ws) _ _ E (hr.make C us (ks.zip ws))
    (I2.env0.make C us (ks.zip ws)) (hb.to _ (Value.ref (s.heap.objs.size + 1) :: us) ws I2.kIn (by rw [List.length_cons, ← r.length]; exact l1) (rz.length.symm.trans l2)) (hb.rel r1 rz) want) ?_))
  intro res s' z
  match res, z with
  | .error e, z => exact hx _ _ e s' I2 z
  | .ok (.ret u), z =>
    obtain ⟨v, H', I3, rv, ev, q3⟩ := I2.after z
    subst ev
    exact ⟨rv, V.ref (s.heap.objs.size + 1), H', I3, rfl, q3⟩
  | .ok .next, z => exact False.elim z
  | .ok .brk, z => exact False.elim z
  | .ok .cont, z => exact False.elim z
theorem je_mkK0 (fz : Bool) (tk : Takes X W) (d : MakK X.prog X.w X.K X.mg X.base cl k x cc D n ks gT) (hr : Rm j X.A) (hk : k + 1 ≤ j) (hg : Gl X x) (hkw : JK X cl W kws Ak)
    (hall : (backToKw pos (keywordEach kws X.env)).all (·.1.isSome) = true := by rfl) (hks : (backToKw pos (keywordEach kws X.env)).filterMap (·.1) = ks := by rfl) (hdb : (x == ("__debug__" : Str)) = false := by decide)
    (hpl : ((backTo pos (starEach [] X.env)).any (·.1) || (backToKw pos (keywordEach kws X.env)).any (·.1.isNone)) = false := by rfl) :
    JE X cl W (.Call (.Name x p) [] kws pos) (fMkK fz n ks.length cc D gT fNil Ak) := by
  obtain ⟨f, fd, ps, g, gV, rel, M, F, hm, b⟩ := d.ex
  refine ⟨fun τ s Q Q' E E' hq he h => hkw.mon _ _ _ _ _ _ (fun us s1 h1 => ⟨h1.1, fun x hx => (h1.2 x hx).mon (fun _ _ q => q.mon hq) fun _ _ q => he _ _ q⟩) he h, ⟨fun pins sh σ H Q I h => ?_⟩⟩
  obtain ⟨Z, τ, s, re, so, h⟩ := h
  have h' : tTA X.K cl W Ak σ H fun zs H1 => 0 + 1 = n ∧ zs.length = ks.length ∧ ∀ x dx, H1 x = none → H1 dx = none → dx ≠ x → spM X.K cl D (gV (.ref x :: []) zs) (upd (upd H1 dx (.own x)) x (.ins (cl cc) dx [])) (fun v H2 => v = .non ∧ Q (.ref x) H2) (fun cls d H' => W cls d σ H') :=
    goA hkw.mon re so h (fun us s1 zs H1 p1 f1 re1 r1 so1 => ⟨p1.1.1, by rw [r1.length]; exact p1.1.2, mkK_go rel f1 .nil r1 so1 p1.2⟩) fun _ _ q => q
  refine wpAny_Call_Name_kw (ld_glob I hg hm ?_ hdb)
  refine PySem.W.callWith_KW0 (h₀ := X.base) I.ok.mod.kin M.kp hall (thn (hkw.pk.run pos pins sh σ H _ I h') ?_) hpl
  rintro ws s2 ⟨zs, H2, I2, rz, l1, l2, q2⟩
  rw [hks]
  exact ⟨I2.kIn, makeKw (us := []) (vs := []) M F (hr.mono hk) b (pass_tk tk) I2 .nil rz l1 l2 q2⟩
end
/-! how keywords bind, from the text -/
theorem _root_.C8.Fun.kbn {K : PySem.W.Frag} {x qual : Str} {st : Stmt} {f : Addr} {fd : FuncData} {n : Nat} {ps ks : List Str} {gV : List V → List V → List V} (g : List Value → List Value → List Value) (F : C8.Fun K x qual st f fd) (df : fd.defaults = .none)
    (h : ∀ (kV doc pm : Value) (an : Option Addr) (cdv ct : Value) (us ws : List Value), us.length = n → ws.length = ks.length → bindArgs (PySem.W.fnOf x qual (C8.fnArgs st) (C8.fnBody st) (C8.fnScope st) .none kV doc pm an cdv ct) ⟨us, ks.zip ws⟩ = pure (ps.zip (g us ws)))
    (rel : ∀ {vs : List V} {us : List Value} {zs : List V} {ws : List Value}, Vals vs us → Vals zs ws → Vals (gV vs zs) (g us ws)) : KBn K fd ps n ks g gV := by
  obtain ⟨oc, od, dV, kV, doc, pm, an, cdv, ct, osl, rfl, lk, hcd⟩ := F.ex
  have e : dV = .none := df
  subst e
  exact ⟨fun s us ws _ l1 l2 => BindsTo.of_eq (h kV doc pm an cdv ct us ws l1 l2), rel⟩
theorem valsD {vs : List V} {us : List Value} : ∀ (i : Nat), Vals vs us → RelV (vs.getD i .non) (us.getD i .none) := by
  intro i r
  induction r generalizing i with
  | nil => simp; rfl
  | cons h _ ih =>
    cases i with
    | zero => exact h
    | succ i => exact ih i
end Mr

/-! The mirror layer: use. -/
namespace Mr
open PySem PySem.Spec PyProof.Rows L2 Tw
/-! what simp does not go into: continuations, as instances -/
class Bx (α : Type) where
  v : α
def hM (D : FD) (ts : List T) (s : S) [q : Bx KT] [e : Bx KX] : Prop := cM D ts s q.v e.v
theorem hold_cM {D : FD} {ts : List T} {s : S} {Q : KT} {E : KX} : cM D ts s Q E = @hM D ts s ⟨Q⟩ ⟨E⟩ := rfl
theorem hM.of {D : FD} {ts : List T} {s : S} {Q : KT} {E : KX} (h : D ts s Q E) : @hM D ts s ⟨Q⟩ ⟨E⟩ := cM.of h
theorem hM.to {D : FD} {ts : List T} {s : S} {Q : KT} {E : KX} (h : cM D ts s Q E) : @hM D ts s ⟨Q⟩ ⟨E⟩ := h
def hIte (b : Bool) [x : Bx Prop] [y : Bx Prop] : Prop := if b = true then x.v else y.v
theorem hold_ite {b : Bool} {A B : Prop} : (if b = true then A else B) = @hIte b ⟨A⟩ ⟨B⟩ := rfl
theorem hIte_true {A B : Prop} : @hIte true ⟨A⟩ ⟨B⟩ = A := by unfold hIte; exact if_pos rfl
theorem hIte_false {A B : Prop} : @hIte false ⟨A⟩ ⟨B⟩ = B := by unfold hIte; exact if_neg Bool.false_ne_true
theorem hIte.by {b : Bool} {A B : Prop} (h1 : b = true → A) (h2 : b = false → B) : @hIte b ⟨A⟩ ⟨B⟩ := w_bool h1 h2
def hFor (ok : S → Prop) (g : FG) (ts : List T) (τ : Env) (s : S) [B : Bx FS] [D : Bx DS] : Prop := forT ok g B.v ts τ s D.v
theorem hold_for {ok : S → Prop} {g : FG} {B : FS} {ts : List T} {τ : Env} {s : S} {D : DS} : forT ok g B ts τ s D = @hFor ok g ts τ s ⟨B⟩ ⟨D⟩ := rfl
def hLc (ok : S → Prop) (g : FG) (τ : Env) (ts acc : List T) (s : S) [tt : Bx FT] [te : Bx FE] [Q : Bx (List T → S → Prop)] : Prop := lcT ok g tt.v te.v τ ts acc s Q.v
theorem hold_lc {ok : S → Prop} {g : FG} {tt : FT} {te : FE} {τ : Env} {ts acc : List T} {s : S} {Q : List T → S → Prop} : lcT ok g tt te τ ts acc s Q = @hLc ok g τ ts acc s ⟨tt⟩ ⟨te⟩ ⟨Q⟩ := rfl
def hWh (τ : Env) (s : S) [G : Bx FT] [B : Bx FS] [D : Bx DS] : Prop := fWhile G.v B.v τ s D.v
theorem hold_wh {G : FT} {B : FS} {τ : Env} {s : S} {D : DS} : fWhile G B τ s D = @hWh τ s ⟨G⟩ ⟨B⟩ ⟨D⟩ := rfl
section
variable {s : S} {Q : Bool → Prop}
theorem onB_bl {b : Bool} : onB s (.bl b) Q = Q b := by simp [onB, truO]
theorem onB_non : onB s .non Q = Q false := by simp [onB, truO]
theorem onB_int {i : Int} : onB s (.int i) Q = Q (i != 0) := by simp [onB, truO]
theorem onB_str {z : Str} : onB s (.str z) Q = (z.length ≤ 1000000 ∧ Q ((z.length : Int) != 0)) := by simp [onB, truO]
theorem onB_lst {xs : List T} : onB s (.lst xs) Q = Q (!xs.isEmpty) := by simp [onB, truO]
theorem onB_tup {xs : List T} : onB s (.tup xs) Q = Q (!xs.isEmpty) := by simp [onB, truO]
theorem onB_dct {xs : List (Key × T)} : onB s (.dct xs) Q = Q (!xs.isEmpty) := by simp [onB, truO]
end
section
variable {ok : S → Prop} {g : FG} {B : FS} {tt : FT} {te : FE} {τ : Env} {s : S} {D : DS} {Q : List T → S → Prop} {i : Nat} {ts acc : List T} {G : FT}
/-- [f(x) for x in ts], nothing changes -/
theorem lc_map (f : T → T) (h : ∀ t ∈ ts, ∀ Q : KT, Q (f t) s → te (τ.set i (some t)) s Q noX) (hl : acc.length + ts.length ≤ 1000000) (k : Q (acc ++ ts.map f) s) (ho : ok s) : lcT ok (gN i) fYes te τ ts acc s Q := by
  induction ts generalizing acc with
  | nil => exact ⟨ho, by simpa using k⟩
  | cons t ts ih =>
    rw [List.length_cons] at hl
    refine ⟨ho, by omega, ?_⟩
    show (if true = true then te (τ.set i (some t)) s (fun y s3 => lcT ok (gN i) fYes te τ ts (acc ++ [y]) s3 Q) noX else lcT ok (gN i) fYes te τ ts acc s Q)
    refine w_T (h t List.mem_cons_self _ ?_)
    refine ih (fun t ht => h t (List.mem_cons_of_mem _ ht)) (by simp; omega) ?_
    simpa using k
/-- [f(x) for x in ts if p(x)], nothing changes -/
theorem lc_filter (p : T → Bool) (f : T → T) (hp : ∀ t ∈ ts, ∀ Q : Bool → S → Prop, Q (p t) s → tt (τ.set i (some t)) s Q noX) (h : ∀ t ∈ ts, p t = true → ∀ Q : KT, Q (f t) s → te (τ.set i (some t)) s Q noX)
    (hl : acc.length + ts.length ≤ 1000000) (k : Q (acc ++ (ts.filter p).map f) s) (ho : ok s) : lcT ok (gN i) tt te τ ts acc s Q := by
  induction ts generalizing acc with
  | nil => exact ⟨ho, by simpa using k⟩
  | cons t ts ih =>
    rw [List.length_cons] at hl
    refine ⟨ho, by omega, ?_⟩
    refine hp t List.mem_cons_self _ ?_
    by_cases c : p t = true
    · rw [c]
      refine w_T (h t List.mem_cons_self c _ ?_)
      refine ih (fun t ht => hp t (List.mem_cons_of_mem _ ht)) (fun t ht => h t (List.mem_cons_of_mem _ ht)) (by simp; omega) ?_
      simpa [List.filter_cons, c] using k
    · rw [Bool.not_eq_true] at c
      rw [c]
      refine w_F (ih (fun t ht => hp t (List.mem_cons_of_mem _ ht)) (fun t ht => h t (List.mem_cons_of_mem _ ht)) (by omega) ?_)
      simpa [List.filter_cons, c] using k
/-- .. by what holds at each turn: behind the items pre, the list so far, the state -/
theorem lc_inv (I : List T → List T → S → Prop) {all : List T} (h0 : I [] acc s) (ho : ∀ pre a s, I pre a s → ok s) (hl : acc.length + all.length ≤ 1000000)
    (hs : ∀ pre t post a s, all = pre ++ t :: post → I pre a s → a.length ≤ acc.length + pre.length → g t τ s fun τ1 s1 => tt τ1 s1 (fun b s2 => if b = true then te τ1 s2 (fun y s3 => I (pre ++ [t]) (a ++ [y]) s3) noX else I (pre ++ [t]) a s2) noX)
    (mg : ∀ t τ s (Q Q' : Env → S → Prop), (∀ τ s, Q τ s → Q' τ s) → g t τ s Q → g t τ s Q') (mt : MonT tt) (me : MonE te) (hd : ∀ a s, I all a s → Q a s) : lcT ok g tt te τ all acc s Q := by
  have main : ∀ (post pre a : List T) (s : S), all = pre ++ post → I pre a s → a.length ≤ acc.length + pre.length → lcT ok g tt te τ post a s Q := by
    intro post
    induction post with
    | nil =>
      intro pre a s e h _
      rw [List.append_nil] at e
      exact ⟨ho _ _ _ h, hd _ _ (by rw [e]; exact h)⟩
    | cons t post ih =>
      intro pre a s e h ha
      have le : all.length = pre.length + (post.length + 1) := by rw [e, List.length_append, List.length_cons]
      have e2 : all = (pre ++ [t]) ++ post := by rw [e, List.append_assoc]; rfl
      refine ⟨ho _ _ _ h, by omega, mg _ _ _ _ _ (fun τ1 s1 q => mt _ _ _ _ _ _ (fun b s2 q => ?_) (fun _ _ q => q) q) (hs pre t post a s e h ha)⟩
      cases b with
      | true =>
        rw [if_pos rfl] at q
        refine w_T (me _ _ _ _ _ _ (fun y s3 q3 => ih (pre ++ [t]) (a ++ [y]) s3 e2 q3 (by simp; omega)) (fun _ _ q => q) q)
      | false =>
        rw [if_neg Bool.false_ne_true] at q
        exact w_F (ih (pre ++ [t]) a s2 e2 q (by simp; omega))
  exact main all [] acc s rfl h0 (by simp)
/-- for x in all: by what holds at each turn -/
theorem for_inv (I : List T → Env → S → Prop) {all : List T} (h0 : I [] τ s) (ho : ∀ pre τ s, I pre τ s → ok s)
    (hs : ∀ pre t post τ s, all = pre ++ t :: post → I pre τ s → g t τ s fun τ1 s1 => B τ1 s1 ⟨fun τ2 s2 => I (pre ++ [t]) τ2 s2, D.rt, D.nx, fun τ2 s2 => I (pre ++ [t]) τ2 s2, D.xr⟩)
    (mg : ∀ t τ s (Q Q' : Env → S → Prop), (∀ τ s, Q τ s → Q' τ s) → g t τ s Q → g t τ s Q') (mB : MonS B) (hd : ∀ τ s, I all τ s → D.nx τ s) : forT ok g B all τ s D := by
  have main : ∀ (post pre : List T) (τ : Env) (s : S), all = pre ++ post → I pre τ s → forT ok g B post τ s D := by
    intro post
    induction post with
    | nil =>
      intro pre τ s e h
      rw [List.append_nil] at e
      exact ⟨ho _ _ _ h, hd _ _ (by rw [e]; exact h)⟩
    | cons t post ih =>
      intro pre τ s e h
      have e2 : all = (pre ++ [t]) ++ post := by rw [e, List.append_assoc]; rfl
      refine ⟨ho _ _ _ h, mg _ _ _ _ _ (fun τ1 s1 q => ?_) (hs pre t post τ s e h)⟩
      refine mB _ _ _ _ ?_ q
      exact ⟨fun τ2 s2 q => ih _ _ _ e2 q, fun _ _ q => q, fun _ _ q => q, fun τ2 s2 q => ih _ _ _ e2 q, fun _ _ _ q => q⟩
  exact main all [] τ s rfl h0
/-- for x in all, the turn given for every end (no monotony asked) -/
theorem for_ind (I : List T → List T → Env → S → Prop) {all : List T} (h0 : I [] all τ s) (ho : ∀ pre post τ s, I pre post τ s → ok s)
    (hs : ∀ pre t post τ s (N : Env → S → Prop), all = pre ++ t :: post → I pre (t :: post) τ s → (∀ τ2 s2, I (pre ++ [t]) post τ2 s2 → N τ2 s2) → g t τ s fun τ1 s1 => B τ1 s1 ⟨N, D.rt, D.nx, N, D.xr⟩)
    (hd : ∀ τ s, I all [] τ s → D.nx τ s) : forT ok g B all τ s D := by
  have main : ∀ (post pre : List T) (τ : Env) (s : S), all = pre ++ post → I pre post τ s → forT ok g B post τ s D := by
    intro post
    induction post with
    | nil =>
      intro pre τ s e h
      rw [List.append_nil] at e
      exact ⟨ho _ _ _ _ h, hd _ _ (by rw [e]; exact h)⟩
    | cons t post ih =>
      intro pre τ s e h
      have e2 : all = (pre ++ [t]) ++ post := by rw [e, List.append_assoc]; rfl
      exact ⟨ho _ _ _ _ h, hs pre t post τ s _ e h fun τ2 s2 q => ih _ _ _ e2 q⟩
  exact main all [] τ s rfl h0
/-- a comprehension, the turn given for every end -/
theorem lc_ind (I : List T → List T → List T → S → Prop) {all : List T} (h0 : I [] all acc s) (ho : ∀ pre post a s, I pre post a s → ok s) (hl : acc.length + all.length ≤ 1000000)
    (hs : ∀ pre t post a s (N : List T → S → Prop), all = pre ++ t :: post → I pre (t :: post) a s → (∀ a2 s2, I (pre ++ [t]) post a2 s2 → N a2 s2) → g t τ s fun τ1 s1 => tt τ1 s1 (fun b s2 => if b = true then te τ1 s2 (fun y s3 => N (a ++ [y]) s3) noX else N a s2) noX)
    (hb : ∀ pre post a s, I pre post a s → a.length ≤ acc.length + pre.length) (hd : ∀ a s, I all [] a s → Q a s) : lcT ok g tt te τ all acc s Q := by
  have main : ∀ (post pre a : List T) (s : S), all = pre ++ post → I pre post a s → lcT ok g tt te τ post a s Q := by
    intro post
    induction post with
    | nil =>
      intro pre a s e h
      rw [List.append_nil] at e
      exact ⟨ho _ _ _ _ h, hd _ _ (by rw [e]; exact h)⟩
    | cons t post ih =>
      intro pre a s e h
      have le : all.length = pre.length + (post.length + 1) := by rw [e, List.length_append, List.length_cons]
      have := hb _ _ _ _ h
      have e2 : all = (pre ++ [t]) ++ post := by rw [e, List.append_assoc]; rfl
      exact ⟨ho _ _ _ _ h, by omega, hs pre t post a s (fun a2 s2 => lcT ok g tt te τ post a2 s2 Q) e h fun a2 s2 q => ih _ _ _ e2 q⟩
  exact main all [] acc s rfl h0
/-- while: a measure -/
theorem while_ind (I : Env → S → Prop) (ms : Env → S → Nat) (h0 : I τ s)
    (hs : ∀ τ s (N : Env → S → Prop), I τ s → (∀ τ2 s2, I τ2 s2 → ms τ2 s2 < ms τ s → N τ2 s2) → G τ s (fun b s1 => if b = true then B τ s1 ⟨N, D.rt, D.nx, N, D.xr⟩ else D.nx τ s1) (xk τ D)) : fWhile G B τ s D := by
  have main : ∀ (m : Nat) (τ : Env) (s : S), I τ s → ms τ s < m → whT G B m τ s D := by
    intro m
    induction m with
    | zero => intro τ s _ h; exact absurd h (Nat.not_lt_zero _)
    | succ m ih =>
      intro τ s h hm
      exact hs τ s (fun τ2 s2 => whT G B m τ2 s2 D) h fun τ2 s2 h2 lt => ih τ2 s2 h2 (by omega)
  exact ⟨ms τ s + 1, main _ τ s h0 (Nat.lt_succ_self _)⟩
theorem rng_get {lo : Int} {n : Nat} {pre post : List T} {t : T} (e : rng lo n = pre ++ t :: post) : t = .int (lo + pre.length) ∧ pre.length < n := by
  have h1 : (rng lo n)[pre.length]? = some t := by
    rw [e, List.getElem?_append_right (Nat.le_refl _), Nat.sub_self]
    rfl
  unfold rng at h1
  rw [List.getElem?_map] at h1
  obtain ⟨c, e1, e2⟩ := Option.map_eq_some_iff.mp h1
  have hlt : pre.length < n := by
    have := (List.getElem?_eq_some_iff.mp e1).1
    rw [List.length_range] at this
    exact this
  rw [List.getElem?_range hlt] at e1
  cases e1
  exact ⟨e2.symm, hlt⟩
theorem rng_len (lo : Int) (n : Nat) : (rng lo n).length = n := by unfold rng; rw [List.length_map, List.length_range]
end
theorem use_drawH {s : S} {many : Int} {Q : KT} {E : KX} (h1 : 1 ≤ many) (h2 : many ≤ 1000000000000) (h3 : s.pen ≤ 1000000) (h : ∀ k : Int, 0 ≤ k → k < many → Q (.int k) (s.pn (s.pen + 1))) : @hM drawF [.pen, .int many] s ⟨Q⟩ ⟨E⟩ := use_draw h1 h2 h3 h
theorem dec_ite {b : Bool} {A B : Prop} (h1 : b = true → A) (h2 : b = false → B) : if b = true then A else B := w_bool h1 h2
end Mr

/-! The mirror layer: data that are compared and shown. -/
namespace Mr
open PySem PySem.Spec PyProof.Rows L2 Tw
mutual
/-- data of a tame kind -/
def niceD : PyData → Bool
  | .none | .bool _ => true
  | .int i => decide (i.natAbs < 10 ^ 100)
  | .str z => z.cps.all (· < 0x110000) && decide (z.length ≤ 1000)
  | .list xs | .tuple xs => niceAll xs
  | .dict _ => false
def niceAll : List PyData → Bool
  | [] => true
  | x :: xs => niceD x && niceAll xs
end
mutual
/-- how long it is, shown, at most -/
def wD : PyData → Nat
  | .none | .bool _ => 5
  | .int _ => 101
  | .str z => 10 * z.length + 2
  | .list xs | .tuple xs => wAll xs + 5
  | .dict _ => 0
def wAll : List PyData → Nat
  | [] => 0
  | x :: xs => wD x + 2 + wAll xs
end
theorem text_le {ts : List Str} : ∀ (k : Nat) (acc : Str), (textFrom k acc ts).length ≤ acc.length + piled ts := by
  induction ts with
  | nil => intro k acc; exact Nat.le_add_right _ _
  | cons t r ih =>
    intro k acc
    have h := ih (k + 1) (acc ++ (if k > 0 then ", " else "" : String) ++ t)
    refine Nat.le_trans h ?_
    rw [Str.length_append, Str.length_append]
    have e : (Str.ofString (if k > 0 then ", " else "")).length ≤ 2 := by
      split
      · exact Nat.le_refl 2
      · exact Nat.zero_le 2
    have e2 : piled (t :: r) = t.length + 2 + piled r := by simp [piled]
    omega
theorem listText_le (ts : List Str) : (listText ts).length ≤ piled ts + 2 := by
  unfold listText
  rw [Str.length_append]
  have := text_le (ts := ts) 0 "["
  have e1 : (Str.ofString "[").length = 1 := rfl
  have e2 : (Str.ofString "]").length = 1 := rfl
  omega
theorem tupleText_le (ts : List Str) : (tupleText ts).length ≤ piled ts + 3 := by
  unfold tupleText
  rw [Str.length_append, Str.length_append]
  have e1 : (Str.ofString "(").length = 1 := rfl
  have e2 : (Str.ofString (if (ts.length == 1) = true then ",)" else ")")).length ≤ 2 := by
    split
    · exact Nat.le_refl 2
    · exact Nat.le_succ 1
  cases ts with
  | nil =>
    have e3 : (Str.join ", " []).length = 0 := rfl
    omega
  | cons t r =>
    have := join_length_add (t :: r) (by simp)
    omega
mutual
theorem nice_show : ∀ d : PyData, niceD d = true → d.showable = true ∧ d.canLay0 = true ∧ d.shown.length ≤ wD d
  | .none, _ => ⟨by simp [PyData.showable], by simp [PyData.canLay0], by rw [PyData.shown, wD]; decide⟩
  | .bool b, _ => ⟨by simp [PyData.showable], by simp [PyData.canLay0], by rw [PyData.shown, wD]; cases b <;> decide⟩
  | .int i, h => by
    rw [niceD] at h
    have h := of_decide_eq_true h
    refine ⟨?_, by simp [PyData.canLay0], ?_⟩
    · rw [PyData.showable]
      refine decide_eq_true ?_
      by_cases z : i.natAbs = 0
      · rw [z]; decide
      · exact Nat.lt_trans ((Nat.log2_lt z).mpr (Nat.lt_trans h (show 10 ^ 100 < 2 ^ 333 by decide +kernel))) (by decide)
    · rw [PyData.shown, wD]
      show (Str.ofString (toString i)).length ≤ 101
      rw [PySem.ofString_length]
      exact int_text_length_le10 (k := 100) (by decide) h
  | .str z, h => by
    rw [niceD, Bool.and_eq_true] at h
    refine ⟨by simp [PyData.showable], ?_, ?_⟩
    · rw [PyData.canLay0]
      exact h.1
    · rw [PyData.shown, wD]
      refine PySem.StrLaws.reprText_len z fun c hc => ?_
      have := Array.all_eq_true_iff_forall_mem.mp h.1 c (by simpa using hc)
      have := of_decide_eq_true this
      omega
  | .list xs, h => by
    rw [niceD] at h
    obtain ⟨h1, h2, h3⟩ := nice_all xs h
    refine ⟨by rw [PyData.showable]; exact h1, by rw [PyData.canLay0]; exact h2, ?_⟩
    rw [PyData.shown, wD]
    have := listText_le (PyData.shownAll xs)
    omega
  | .tuple xs, h => by
    rw [niceD] at h
    obtain ⟨h1, h2, h3⟩ := nice_all xs h
    refine ⟨by rw [PyData.showable]; exact h1, by rw [PyData.canLay0]; exact h2, ?_⟩
    rw [PyData.shown, wD]
    have := tupleText_le (PyData.shownAll xs)
    omega
  | .dict _, h => by rw [niceD] at h; cases h
theorem nice_all : ∀ ds : List PyData, niceAll ds = true → PyData.showableAll ds = true ∧ PyData.canLayAll0 ds = true ∧ piled (PyData.shownAll ds) ≤ wAll ds
  | [], _ => ⟨by simp [PyData.showableAll], by simp [PyData.canLayAll0], by rw [PyData.shownAll]; exact Nat.zero_le _⟩
  | d :: ds, h => by
    rw [niceAll, Bool.and_eq_true] at h
    obtain ⟨a1, a2, a3⟩ := nice_show d h.1
    obtain ⟨b1, b2, b3⟩ := nice_all ds h.2
    refine ⟨by rw [PyData.showableAll, a1, b1]; rfl, by rw [PyData.canLayAll0, a2, b2]; rfl, ?_⟩
    rw [PyData.shownAll, wAll]
    have e2 : piled (d.shown :: PyData.shownAll ds) = d.shown.length + 2 + piled (PyData.shownAll ds) := by simp [piled]
    omega
end
/-- for repr -/
theorem rp {d : PyData} (h : niceD d = true) (h1 : d.depth ≤ 60) (h2 : wD d ≤ 1000000) : d.showable = true ∧ d.depth ≤ 60 ∧ d.shown.length ≤ 1000000 := ⟨(nice_show d h).1, h1, Nat.le_trans (nice_show d h).2.2 h2⟩
/-- for == -/
theorem sh {d : PyData} (h : niceD d = true) (h1 : d.depth ≤ 64) : SeqAt.shaped d = true := by
  unfold SeqAt.shaped
  rw [(nice_show d h).2.1, decide_eq_true h1]
  rfl
theorem eqv_self {d : PyData} (h : niceD d = true) : PyData.eqv d d = true := PySem.SeqAt.eqv_refl d (nice_show d h).2.1
theorem eqvAll_self {d : List PyData} (h : niceAll d = true) : PyData.eqvAll d d = true := PySem.SeqAt.eqvAll_refl d (nice_all d h).2.1
section
variable {α : Type} {a b c d e : α} {xs : List α}
theorem atI_0 : L2.atI (a :: xs) 0 = some a := by
  unfold L2.atI L2.ixN
  rw [if_pos (Int.le_refl 0), if_pos (by rw [List.length_cons]; omega)]
  rfl
theorem atI_1 : L2.atI (a :: b :: xs) 1 = some b := by
  unfold L2.atI L2.ixN
  rw [if_pos (by decide), if_pos (by rw [List.length_cons, List.length_cons]; omega)]
  rfl
theorem atI_2 : L2.atI (a :: b :: c :: xs) 2 = some c := by
  unfold L2.atI L2.ixN
  rw [if_pos (by decide), if_pos (by rw [List.length_cons, List.length_cons, List.length_cons]; omega)]
  rfl
theorem atI_3 : L2.atI (a :: b :: c :: d :: xs) 3 = some d := by
  unfold L2.atI L2.ixN
  rw [if_pos (by decide), if_pos (by rw [List.length_cons, List.length_cons, List.length_cons, List.length_cons]; omega)]
  rfl
theorem atI_4 : L2.atI (a :: b :: c :: d :: e :: xs) 4 = some e := by
  unfold L2.atI L2.ixN
  rw [if_pos (by decide), if_pos (by rw [List.length_cons, List.length_cons, List.length_cons, List.length_cons, List.length_cons]; omega)]
  rfl
theorem atI_mem {k : Int} (h0 : 0 ≤ k) (h1 : k < xs.length) : ∃ t, L2.atI xs k = some t ∧ t ∈ xs := by
  have hj : k.toNat < xs.length := by omega
  refine ⟨xs[k.toNat], ?_, List.getElem_mem hj⟩
  unfold L2.atI L2.ixN
  rw [if_pos h0, if_pos h1]
  exact List.getElem?_eq_getElem hj
end
/-- the law's body: its first statement, then the rest in the mirror -/
theorem law_body {X : Cx} {cl : CL} {W : WX} {st : Stmt} {rest : List Stmt} {B : FS} {tA : TA} {N : List Str} {a : Addr} {ns : List Int} {H : Hp} {Q : VK} (p1 : PS X st (tAsg (tCW (spPenX X.K) [] W tA) (gName 1))) (j : JSs X cl W rest B)
    (hN : 2 ≤ N.length) (hA : ∀ σ H Q', σ[0]? = some (some (.ref a)) → Q' [.ref a] H → tA σ H Q') (hS : SqL X.K H a (ns.map V.int)) (hl : ns.length ≤ 63) (hT : LamX.Tabs cl.t H) (q : ∀ H', Q (.bl true) H')
    (hB : ∀ a p : Addr, B (some (.cell a) :: some .pen :: List.replicate (N.length - 2) none) (s0 p) lawEnds) : ∃ t, PSs X (st :: rest) t ∧ t { nx := fun _ H' => Q .non H', rt := Q } (L2.start N [.ref a]) H :=
  ⟨_, pss_cons p1 j.pss, hA _ _ _ rfl ⟨a, ns, rfl, hS, hl, law_go hN j.mon hB hl hT q⟩⟩
/-- the rows of the combinators, made once -/
theorem rows_made : True := by
  have := @Mr.startT.eq_1
  have := @Mr.endsM.eq_1
  have := @Mr.lawEnds.eq_1
  have := @Mr.fSeq.eq_1
  have := @Mr.fSkip.eq_1
  have := @Mr.fRet.eq_1
  have := @Mr.fRetN.eq_1
  have := @Mr.fRetF.eq_1
  have := @Mr.fDrop.eq_1
  have := @Mr.fSet.eq_1
  have := @Mr.fAsg.eq_1
  have := @Mr.fPar.eq_1
  have := @Mr.fFldS.eq_1
  have := @Mr.fIfS.eq_1
  have := @Mr.fRaise.eq_1
  have := @Mr.fTry.eq_1
  have := @Mr.fBrk.eq_1
  have := @Mr.fCnt.eq_1
  have := @Mr.gN.eq_1
  have := @Mr.gT.eq_1
  have := @Mr.gsNil.eq_1
  have := @Mr.gsCons.eq_1
  have := @Mr.fVar.eq_1
  have := @Mr.fC.eq_1
  have := @Mr.f2.eq_1
  have := @Mr.f3.eq_1
  have := @Mr.g2.eq_1
  have := @Mr.kB.eq_1
  have := @Mr.fTest.eq_1
  have := @Mr.fTru.eq_1
  have := @Mr.fAnd.eq_1
  have := @Mr.fOr.eq_1
  have := @Mr.fNot.eq_1
  have := @Mr.fAndV.eq_1
  have := @Mr.fOrV.eq_1
  have := @Mr.fNotV.eq_1
  have := @Mr.fIf.eq_1
  have := @Mr.fUn.eq_1
  have := @Mr.onO.eq_1
  have := @Mr.fNil.eq_1
  have := @Mr.fCons.eq_1
  have := @Mr.fLst.eq_1
  have := @Mr.fTup.eq_1
  have := @Mr.fLstC.eq_1
  have := @Mr.fDct0.eq_1
  have := @Mr.fCB.eq_1
  have := @Mr.fCall.eq_1
  have := @Mr.fMk.eq_1
  have := @Mr.fMkK.eq_1
  have := @Mr.fMt.eq_1
  have := @Mr.fMtK.eq_1
  have := @Mr.fErr.eq_1
  have := @Mr.fStrO.eq_1
  have := @Mr.fJs.eq_1
  have := @Mr.jsT.eq_1
  have := @Mr.fSl.eq_1
  have := @Mr.oNone.eq_1
  have := @Mr.oSome.eq_1
  have := @Mr.fLM.eq_1
  have := @Mr.onL.eq_1
  have := @Mr.fLc.eq_1
  have := @Mr.fYes.eq_1
  have := @Mr.iSeq.eq_1
  have := @Mr.iRange1.eq_1
  have := @Mr.iRange2.eq_1
  have := @Mr.fFor.eq_1
  have := @Mr.doneM.eq_1
  have := @Mr.gEqOwn.eq_1
  have := @Mr.gNeOwn.eq_1
  trivial
end Mr

/-! The mirror layer: the end. -/
namespace Mr
open PySem PySem.Spec PyProof.Rows L2 Tw
section
variable {K : PySem.W.Frag} {x qual : Str} {params : Arguments} {body : List Stmt} {scope : Scope} {dvs : List V} {kws : List (Str × V)} {f : Addr} {fd : FuncData} {ps : List Str}
/-- keywords, where some parameters have defaults -/
theorem kbn1 (F : FunD K x qual params body scope dvs kws f fd) (n : Nat) (ks : List Str) (g : List Value → List Value → List Value → List Value) (gV : List V → List V → List V) (hd : dvs ≠ [])
    (h : ∀ (T : Addr) (kV doc pm : Value) (an : Option Addr) (cdv ct : Value) (us its ws : List Value), us.length = n → its.length = dvs.length → ws.length = ks.length →
      ∃ k, bindArgs (PySem.W.fnOf x qual params body scope (.ref T) kV doc pm an cdv ct) ⟨us, ks.zip ws⟩ = seqItems? (.ref T) >>= k ∧ k (some its.toArray) = pure (ps.zip (g us its ws)))
    (rel : ∀ {vs : List V} {us its : List Value} {zs : List V} {ws : List Value}, Vals vs us → Vals dvs its → Vals zs ws → Vals (gV vs zs) (g us its ws)) : ∃ g', KBn K fd ps n ks g' gV := by
  obtain ⟨oc, od, dV, kV, doc, pm, an, cdv, ct, osl, rfl, lk, hcd, hD, hK⟩ := F.ex
  rcases hD with ⟨e, _⟩ | ⟨_, T, o, its, m, rfl, lT, oT, rT⟩
  · exact absurd e hd
  · refine ⟨fun us ws => g us its ws, fun s us ws X l1 l2 => ?_, fun r1 r2 => rel r1 rT r2⟩
    obtain ⟨k, e1, e2⟩ := h T kV doc pm an cdv ct us its ws l1 rT.length.symm l2
    refine BindsTo.of_looks fun M => ?_
    rw [e1]
    exact looks_items X lT oT (.of_pure e2)
end
/-- an own error's class, by one look at the rest -/
def oexB (K : PySem.W.Frag) (C : Addr) : Bool := decide (PySem.W.findIn K (.ref C) "__setattr__" = some (some (.builtin "object.__setattr__"))) && (decide (PySem.W.subIn K (.ref C) (.type "BaseException") = some true) && (decide (PySem.W.typeIn K (.ref C) = some (.type "type")) && PySem.W.keepIn K (.ref C)))
theorem oexB_ok {K : PySem.W.Frag} {C : Addr} (hc : ∃ nm q N bs bm sn sub ab col dd k0 k1 k2 k3 k5, K.lookup C = some (excClassObj nm q C N bs bm true sn sub ab col dd k0 k1 k2 k3 k5 "ValueError.__new__") ∧ PySem.HandSPX.refsVE bm = true) (h : oexB K C = true) : OexC K C := by
  obtain ⟨h1, h⟩ := Bool.and_eq_true_iff.mp h
  obtain ⟨h2, h⟩ := Bool.and_eq_true_iff.mp h
  obtain ⟨h3, h4⟩ := Bool.and_eq_true_iff.mp h
  exact ⟨hc, of_decide_eq_true h1, of_decide_eq_true h2, of_decide_eq_true h3, h4⟩
/-- what is asked of a def's object at one look -/
def fnB (K : PySem.W.Frag) (f : Addr) : Bool := PySem.W.isFn K (.ref f) && PySem.W.keepIn K (.ref f)
end Mr

/-! The mirror layer: data with dicts, shown. -/
namespace Mr
open PySem PySem.Spec PyProof.Rows L2 Tw
def kD : Key → PyData
  | .inl i => .int i
  | .inr x => .str x
mutual
def T.datX : T → Option PyData
  | .non => some .none
  | .bl b => some (.bool b)
  | .int i => some (.int i)
  | .str z => some (.str z)
  | .lst xs => (datsX xs).map .list
  | .tup xs => (datsX xs).map .tuple
  | .dct kvs => (datsK kvs).map .dict
  | _ => none
def datsX : List T → Option (List PyData)
  | [] => some []
  | x :: xs => match x.datX, datsX xs with | some d, some ds => some (d :: ds) | _, _ => none
def datsK : List (Key × T) → Option (List (PyData × PyData))
  | [] => some []
  | (k, x) :: xs => match x.datX, datsK xs with | some d, some ds => some ((kD k, d) :: ds) | _, _ => none
end
def S.datX (s : S) (t : T) : Option PyData :=
  match t with
  | .cell a => match s.on a with | some (.lst xs) => (datsX xs).map .list | _ => none
  | t => t.datX
mutual
/-- the value is the datum; lists and dicts of it are tracked -/
inductive DpX (K : PySem.W.Frag) (H : Hp) : V → PyData → Prop
  | non : DpX K H .non .none
  | bl (b : Bool) : DpX K H (.bl b) (.bool b)
  | int (i : Int) : DpX K H (.int i) (.int i)
  | str (x : Str) : DpX K H (.str x) (.str x)
  | lst {a : Addr} {xs : List V} {ds : List PyData} : H a = some (.lst xs) → DpXs K H xs ds → DpX K H (.ref a) (.list ds)
  | tup {a : Addr} {xs : List V} {ds : List PyData} : SqT K H a xs → DpXs K H xs ds → DpX K H (.ref a) (.tuple ds)
  | dct {a : Addr} {kvv : List (Key × V)} {ds : List (PyData × PyData)} : H a = some (.dK kvv) → DpXk K H kvv ds → DpX K H (.ref a) (.dict ds)
inductive DpXs (K : PySem.W.Frag) (H : Hp) : List V → List PyData → Prop
  | nil : DpXs K H [] []
  | cons {v : V} {vs : List V} {d : PyData} {ds : List PyData} : DpX K H v d → DpXs K H vs ds → DpXs K H (v :: vs) (d :: ds)
inductive DpXk (K : PySem.W.Frag) (H : Hp) : List (Key × V) → List (PyData × PyData) → Prop
  | nil : DpXk K H [] []
  | cons {k : Key} {v : V} {vs : List (Key × V)} {d : PyData} {ds : List (PyData × PyData)} : DpX K H v d → DpXk K H vs ds → DpXk K H ((k, v) :: vs) ((kD k, d) :: ds)
end
mutual
/-- no list in it -/
def noList : PyData → Bool
  | .none | .bool _ | .int _ | .str _ => true
  | .list _ => false
  | .tuple xs => noLists xs
  | .dict kvs => noListK kvs
def noLists : List PyData → Bool
  | [] => true
  | x :: xs => noList x && noLists xs
def noListK : List (PyData × PyData) → Bool
  | [] => true
  | (_, x) :: xs => noList x && noListK xs
end
/-- a datum whose text can be had: no dict, or no list, or a list of such ones -/
def okD (d : PyData) : Bool := noList d || !d.hasDict
def okR : PyData → Bool
  | .list xs => xs.all okD
  | d => okD d
section
variable {X : Cx} {pins : List (Addr × Obj)} {σ : L2.St} {H : Hp} {s : Shared}
mutual
theorem DpX.readsN (I : Inv X pins σ H s) : ∀ (d : PyData) (v : V) (u : Value), DpX X.K H v d → RelV v u → noList d = true → ∃ as, Reads s.heap u d as ∧ sysModules ∉ as
  | .none, _, _, h, r, _ => by
    cases h
    cases r
    exact ⟨_, Reads.none, by simp⟩
  | .bool b, _, _, h, r, _ => by
    cases h
    cases r
    exact ⟨_, Reads.bool b, by simp⟩
  | .int i, _, _, h, r, _ => by
    cases h
    obtain ⟨t, rfl⟩ := r
    exact ⟨_, Reads.int i t, by simp⟩
  | .str x, _, _, h, r, _ => by
    cases h
    obtain ⟨t, rfl⟩ := r
    exact ⟨_, Reads.str x t, by simp⟩
  | .list ds, _, _, h, r, n => by rw [noList] at n; cases n
  | .tuple ds, _, _, h, r, n => by
    cases h with
    | tup hs ha =>
      cases r
      rw [noList] at n
      obtain ⟨its, rv, ⟨o, ho, hc, n', hd⟩, _⟩ := I.tuple hs
      obtain ⟨as, hr, hn⟩ := DpXs.readsN I ds _ its ha rv n
      exact ⟨_, Reads.tuple ho hc hd hr, hn⟩
  | .dict ds, _, _, h, r, n => by
    cases h with
    | dct hs ha =>
      cases r
      rw [noList] at n
      obtain ⟨_, ns, vs, rk, o, es, ep, ho, hx, hd, _, hp, _⟩ := dk_of I.hok hs
      obtain ⟨as, bs, h1, h2, n1, n2⟩ := DpXk.readsN I ds _ vs es.toList ha rk hp n
      refine ⟨_, Reads.dict ho hx.1 hd h1 h2, ?_⟩
      rw [List.cons_append, List.mem_cons, List.mem_append, not_or, not_or]
      exact ⟨fun e => by rw [← e] at ns; exact absurd ns (by decide), n1, n2⟩
theorem DpXs.readsN (I : Inv X pins σ H s) : ∀ (ds : List PyData) (vs : List V) (us : List Value), DpXs X.K H vs ds → Vals vs us → noLists ds = true → ∃ as, ReadsAll s.heap us ds as ∧ sysModules ∉ as
  | [], _, _, h, r, _ => by
    cases h
    cases r
    exact ⟨_, ReadsAll.nil, by simp⟩
  | d :: ds, _, _, h, r, n => by
    rw [noLists, Bool.and_eq_true] at n
    cases h with
    | cons h1 h2 =>
      cases r with
      | cons r1 r2 =>
        obtain ⟨as, q1, n1⟩ := DpX.readsN I d _ _ h1 r1 n.1
        obtain ⟨bs, q2, n2⟩ := DpXs.readsN I ds _ _ h2 r2 n.2
        refine ⟨_, ReadsAll.cons q1 q2, ?_⟩
        rw [List.mem_append, not_or]
        exact ⟨n1, n2⟩
theorem DpXk.readsN (I : Inv X pins σ H s) : ∀ (ds : List (PyData × PyData)) (kvv : List (Key × V)) (vs : List (Key × Value)) (es : List DictEntry), DpXk X.K H kvv ds → KV kvv vs → Pairs (mixKind X.prog X.w) es vs → noListK ds = true →
    ∃ as bs, ReadsAll s.heap (es.map (·.key)) (ds.map (·.1)) as ∧ ReadsAll s.heap (es.map (·.val)) (ds.map (·.2)) bs ∧ sysModules ∉ as ∧ sysModules ∉ bs
  | [], _, _, _, h, r, p, _ => by
    cases h
    cases r
    cases p
    exact ⟨_, _, ReadsAll.nil, ReadsAll.nil, by simp, by simp⟩
  | d :: ds, _, _, _, h, r, p, n => by
    cases h with
    | cons h1 h2 =>
      rw [noListK, Bool.and_eq_true] at n
      cases r with
      | cons r1 r2 =>
        cases p with
        | cons p1 p2 p3 =>
          obtain ⟨as, q1, n1⟩ := DpX.readsN I _ _ _ h1 r1.2 n.1
          obtain ⟨bs, cs, q2, q3, n2, n3⟩ := DpXk.readsN I ds _ _ _ h2 r2 p3 n.2
          rw [← p2] at q1
          have e1 := r1.1
          simp only at e1
          subst e1
          rcases keyIs_shape p1 with ⟨i, t, e, e'⟩ | ⟨x, t, e, e'⟩
          · refine ⟨_, _, ReadsAll.cons (as := []) (d := kD _) ?_ q2, ReadsAll.cons q1 q3, ?_, ?_⟩
            · show Reads _ (DictEntry.key _) _ _
              rw [e, e']
              exact Reads.int i t
            · simpa using n2
            · rw [List.mem_append, not_or]
              exact ⟨n1, n3⟩
          · refine ⟨_, _, ReadsAll.cons (as := []) (d := kD _) ?_ q2, ReadsAll.cons q1 q3, ?_, ?_⟩
            · show Reads _ (DictEntry.key _) _ _
              rw [e, e']
              exact Reads.str x t
            · simpa using n2
            · rw [List.mem_append, not_or]
              exact ⟨n1, n3⟩
end
mutual
/-- a datum without dicts -/
theorem DpX.dp : ∀ {d : PyData} {v : V} {K : PySem.W.Frag} {H : Hp}, DpX K H v d → d.hasDict = false → Dp K H v d
  | .none, _, _, _, h, _ => by cases h; exact .non
  | .bool b, _, _, _, h, _ => by cases h; exact .bl b
  | .int b, _, _, _, h, _ => by cases h; exact .int b
  | .str b, _, _, _, h, _ => by cases h; exact .str b
  | .list ds, _, _, _, h, n => by
    cases h with
    | lst h1 h2 => exact .lst (SqL.of h1) (DpXs.dp h2 (by simpa [PyData.hasDict] using n))
  | .tuple ds, _, _, _, h, n => by
    cases h with
    | tup h1 h2 => exact .tup h1 (DpXs.dp h2 (by simpa [PyData.hasDict] using n))
  | .dict ds, _, _, _, h, n => by simp [PyData.hasDict] at n
theorem DpXs.dp : ∀ {ds : List PyData} {vs : List V} {K : PySem.W.Frag} {H : Hp}, DpXs K H vs ds → PyData.hasDictAll ds = false → DpAll K H vs ds
  | [], _, _, _, h, _ => by cases h; exact .nil
  | d :: ds, _, _, _, h, n => by
    cases h with
    | cons h1 h2 =>
      have n' : d.hasDict = false ∧ PyData.hasDictAll ds = false := by simpa [PyData.hasDictAll] using n
      exact .cons (DpX.dp h1 n'.1) (DpXs.dp h2 n'.2)
end
theorem DpX.readsO (I : Inv X pins σ H s) {d : PyData} {v : V} {u : Value} (h : DpX X.K H v d) (r : RelV v u) (k : okD d = true) : ∃ as, Reads s.heap u d as ∧ (d.hasDict = true → sysModules ∉ as) := by
  rcases Bool.or_eq_true_iff.mp k with e | e
  · obtain ⟨as, r1, n⟩ := DpX.readsN I _ _ _ h r e
    exact ⟨as, r1, fun _ => n⟩
  · have e : d.hasDict = false := by simpa using e
    obtain ⟨as, r1⟩ := Dp.reads I _ _ _ (h.dp e) r
    exact ⟨as, r1, fun z => by rw [e] at z; cases z⟩
theorem reads_each {w : World} {prog : Program} (I : Inv X pins σ H s) : ∀ {ds : List PyData} {vs : List V} {us : List Value}, DpXs X.K H vs ds → Vals vs us → ds.all okD = true → PyData.showableAll ds = true → (∀ t ∈ PyData.shownAll ds, t.length ≤ sizeLine) →
    ∃ as bs, ReadsAll s.heap us ds as ∧ ReadAtMost s.heap (PyData.depthAll ds) bs ∧ ReprAllK prog w bs s.heap (PyData.depthAll ds) us (PyData.shownAll ds)
  | [], _, _, h, r, _, _, _ => by
    cases h
    cases r
    exact ⟨[], [], .nil, (fun _ h => nomatch h), by simp only [PyData.shownAll]; exact .nil⟩
  | d :: ds, _, _, h, r, k, hs, hz => by
    cases h with
    | cons h1 h2 =>
      cases r with
      | cons r1 r2 =>
        rw [List.all_cons, Bool.and_eq_true] at k
        have hs' : d.showable = true ∧ PyData.showableAll ds = true := by simpa [PyData.showableAll] using hs
        obtain ⟨as, q, n⟩ := DpX.readsO I h1 r1 k.1
        obtain ⟨bs, c1, q1, q2, q3⟩ := reads_each (w := w) (prog := prog) I h2 r2 k.2 hs'.2 fun t ht => hz t (by simp only [PyData.shownAll]; exact List.mem_cons_of_mem _ ht)
        obtain ⟨b1, hb1, k1⟩ := ReprK.of_reads (prog := prog) (w := w) q hs'.1 n (hz _ (by simp only [PyData.shownAll]; exact List.mem_cons_self ..))
        have l1 : d.depth ≤ PyData.depthAll (d :: ds) := by simp only [PyData.depthAll]; exact Nat.le_max_left _ _
        have l2 : PyData.depthAll ds ≤ PyData.depthAll (d :: ds) := by simp only [PyData.depthAll]; exact Nat.le_max_right _ _
        refine ⟨_, b1 ++ c1, ReadsAll.cons q q1, (hb1.mono l1).append (q2.mono l2), ?_⟩
        simp only [PyData.shownAll]
        exact .cons ((k1.more fun b hb => List.mem_append_left _ hb).level_le l1) (q3.more_le (fun b hb => List.mem_append_right _ hb) l2)
def rReprX (K : PySem.W.Frag) : List V → Hp → VK → Prop := fun xs H Q => ∃ x d, xs = [x] ∧ DpX K H x d ∧ okR d = true ∧ d.showable = true ∧ d.depth ≤ 60 ∧ d.shown.length ≤ sizeLine ∧ Q (.str d.shown) H
theorem call_reprX {j : Nat} (hr : Rm j X.A) : CallR X (.builtin "repr") (rReprX X.K) := by
  intro pins s σ H xs us Q I r h
  obtain ⟨x, d, rfl, hd, hk, hs, hdp, hz, q⟩ := h
  obtain ⟨u, rfl, ru⟩ := vals1 r
  have un := hr.room.units
  cases hd with
  | non =>
    cases ru
    exact P.repr_of_none ⟨.str _, H, I.tok _, ⟨_, rfl⟩, q⟩
  | bl b =>
    cases ru
    refine P.repr_of_bool ⟨.str _, H, I.tok _, ⟨_, rfl⟩, ?_⟩
    simpa [PyData.shown] using q
  | int i =>
    obtain ⟨t, rfl⟩ := ru
    refine P.repr_of_int (by simpa [PyData.showable] using hs) ⟨.str _, H, I.tok _, ⟨_, rfl⟩, ?_⟩
    simpa [PyData.shown] using q
  | str x =>
    obtain ⟨t, rfl⟩ := ru
    refine P.repr_of_str ⟨.str _, H, I.tok _, ⟨_, rfl⟩, ?_⟩ (by simpa [PyData.shown] using hz)
    simpa [PyData.shown] using q
  | @lst a xs ds hsq ha =>
    cases ru
    have hz' : (listText (PyData.shownAll ds)).length ≤ sizeLine := by simpa only [PyData.shown] using hz
    obtain ⟨its, rv, ⟨o, n, ho, hc, _, hdt⟩, _⟩ := I.list (SqL.of hsq)
    obtain ⟨as, bs, h4, hb, hk'⟩ := reads_each (w := X.w) (prog := X.prog) I ha rv hk (by simpa [PyData.showable] using hs) fun t ht => Nat.le_trans (listText_mem_le ht) hz'
    have h4' : ReadsAll s.heap its.toArray.toList ds as := h4
    have hna : a ∉ bs := not_mem_of_deeper (.list ho hc hdt h4') (by simp only [PyData.depth]; omega) hb
    refine call_repr_slot (by omega) ⟨o, ho, hc⟩ F.slot_list_repr.toG ?_
    simp only [PyData.depth] at hdp
    simp only [PyData.shown] at q
    cases its with
    | nil =>
      cases h4
      simp only [PyData.shownAll, listText_nil] at q
      exact call_list_repr_empty ⟨o, ho, hc⟩ ho hdt ⟨_, _, rfl, .str _, H, I.tok _, ⟨_, rfl⟩, q⟩
    | cons y l =>
      exact call_list_reprK ho hc hdt hna (by simpa using hk'.length_eq) (fun i z e => hk'.item i z (by simpa using e)) hr.gd (fun b _ => Clear.nil b) (by show X.A.units + 1 + _ < cLine; omega) (fun _ _ z => z)
        (fun h' u' tk k => ⟨_, _, rfl, .str _, H, I.kept k, ⟨_, rfl⟩, q⟩) hz'
  | tup hsq ha =>
    obtain ⟨as, rd, nd⟩ := DpX.readsO I (.tup hsq ha) ru hk
    cases ru
    refine repr_of_reads' rd hs nd hr.gd (by omega) (fun _ _ z => z) (fun h' u tk k => ?_) hz
    exact ⟨.str _, H, I.kept k, ⟨_, rfl⟩, q⟩
  | dct hsq ha =>
    obtain ⟨as, rd, nd⟩ := DpX.readsO I (.dct hsq ha) ru hk
    cases ru
    refine repr_of_reads' rd hs nd hr.gd (by omega) (fun _ _ z => z) (fun h' u tk k => ?_) hz
    exact ⟨.str _, H, I.kept k, ⟨_, rfl⟩, q⟩
end
section
variable {K : PySem.W.Frag} {cl : CL} {Z : Addr → Prop} {s : S} {H : Hp}
mutual
theorem Rep.dpx (so : Sto K cl Z s H) : ∀ {v : V} {t : T} {d : PyData}, Rep K cl Z s H v t → t.datX = some d → DpX K H v d
  | _, .non, _, r, e => by
    cases r
    rw [T.datX] at e
    cases e
    exact .non
  | _, .bl b, _, r, e => by
    cases r
    rw [T.datX] at e
    cases e
    exact .bl b
  | _, .int b, _, r, e => by
    cases r
    rw [T.datX] at e
    cases e
    exact .int b
  | _, .str b, _, r, e => by
    cases r
    rw [T.datX] at e
    cases e
    exact .str b
  | _, .lst xs, _, r, e => by
    obtain ⟨a, vs, rfl, h, q⟩ := lst_of so r rfl
    rw [T.datX] at e
    obtain ⟨ds, e1, rfl⟩ := Option.map_eq_some_iff.mp e
    exact .lst h (Reps.dpx so q e1)
  | _, .tup xs, _, r, e => by
    obtain ⟨a, vs, rfl, h, q⟩ := tup_of r
    rw [T.datX] at e
    obtain ⟨ds, e1, rfl⟩ := Option.map_eq_some_iff.mp e
    exact .tup h (Reps.dpx so q e1)
  | _, .dct xs, _, r, e => by
    rw [T.datX] at e
    obtain ⟨ds, e1, rfl⟩ := Option.map_eq_some_iff.mp e
    cases r with
    | dct h n q => exact .dct h (RepK.dpx so q e1)
  | _, .obj _ _, _, _, e => by rw [T.datX] at e <;> first | cases e | (intros; intro h; cases h)
  | _, .err _ _, _, _, e => by rw [T.datX] at e <;> first | cases e | (intros; intro h; cases h)
  | _, .cell _, _, _, e => by rw [T.datX] at e <;> first | cases e | (intros; intro h; cases h)
  | _, .pen, _, _, e => by rw [T.datX] at e <;> first | cases e | (intros; intro h; cases h)
  | _, .ty _, _, _, e => by rw [T.datX] at e <;> first | cases e | (intros; intro h; cases h)
theorem Reps.dpx (so : Sto K cl Z s H) : ∀ {vs : List V} {ts : List T} {ds : List PyData}, Reps K cl Z s H vs ts → datsX ts = some ds → DpXs K H vs ds
  | _, [], _, r, e => by
    cases r
    rw [datsX] at e
    cases e
    exact .nil
  | _, t :: ts, _, r, e => by
    cases r with
    | cons h q =>
      rw [datsX] at e
      split at e
      · rename_i d ds e1 e2
        cases e
        exact .cons (Rep.dpx so h e1) (Reps.dpx so q e2)
      · cases e
theorem RepK.dpx (so : Sto K cl Z s H) : ∀ {vs : List (Key × V)} {ts : List (Key × T)} {ds : List (PyData × PyData)}, RepK K cl Z s H vs ts → datsK ts = some ds → DpXk K H vs ds
  | _, [], _, r, e => by
    cases r
    rw [datsK] at e
    cases e
    exact .nil
  | _, (k, t) :: ts, _, r, e => by
    cases r with
    | cons h q =>
      rw [datsK] at e
      split at e
      · rename_i d ds e1 e2
        cases e
        exact .cons (Rep.dpx so h e1) (RepK.dpx so q e2)
      · cases e
end
theorem Rep.sdpx {v : V} {t : T} {d : PyData} (so : Sto K cl Z s H) (r : Rep K cl Z s H v t) (e : s.datX t = some d) : DpX K H v d := by
  unfold S.datX at e
  split at e
  · split at e
    · rename_i ho
      cases r
      obtain ⟨vs, h1, h2⟩ := so.cells _ _ ho
      obtain ⟨ds, e1, rfl⟩ := Option.map_eq_some_iff.mp e
      exact .lst h1 (Reps.dpx so h2 e1)
    · cases e
  · exact Rep.dpx so r e
end
def reprX : ON
  | s, [x] => match s.datX x with | some d => some (okR d = true ∧ d.showable = true ∧ d.depth ≤ 60 ∧ d.shown.length ≤ 1000000, .str d.shown) | none => none
  | _, _ => none
theorem c_reprX {X : Cx} {cl : CL} {j : Nat} (hr : Rm j X.A) : BC X cl (.builtin "repr") reprX := by
  refine ⟨_, call_reprX hr, fun Z H xs Q s ts c t r so e hc p => ?_⟩
  unfold reprX at e
  split at e
  · obtain ⟨v, rfl, rv⟩ := reps1 r
    split at e
    · rename_i d e1
      cases e
      exact ⟨v, d, rfl, rv.sdpx so e1, hc.1, hc.2.1, hc.2.2.1, Nat.le_trans hc.2.2.2 size6, p.here (.str _) so⟩
    · cases e
  · cases e
/-! ### a dict display of one constant pair -/
def fDctC (kvs : List (Key × T)) : FE := fun _ s Q _ => Q (.dct kvs) s
theorem je_dct1 {X : Cx} {cl : CL} {W : WX} {ke ve : Expr} {z : Str} {i : Int} {pos : Pos} (hk : PE X ke (tC (.str z))) (hv : PE X ve (tC (.int i))) : JE X cl W (.Dict [some ke] [ve] pos) (fDctC [(.inr z, .int i)]) := by
  refine ⟨fun _ _ _ _ _ _ hq _ h => hq _ _ h, PE.imp (pe_disp (pps_cons hk hv pps_nil) rfl rfl (by simp) (by simp)) ?_⟩
  rintro σ H Q ⟨Z, τ, s, re, so, h⟩
  intro a ha
  refine ⟨upd_same, [(.inr z, .int i)], rfl, by simp, ?_⟩
  rw [upd_upd]
  exact h _ _ (Fut.new ha) (.dct upd_same (so.nomut ha) (.cons (.int i) .nil)) (so.new ha)
/-! ### how long a datum is, shown -/
mutual
def niceX : PyData → Bool
  | .none | .bool _ => true
  | .int i => decide (i.natAbs < 10 ^ 100)
  | .str z => z.cps.all (· < 0x110000) && decide (z.length ≤ 1000)
  | .list xs | .tuple xs => niceXs xs
  | .dict kvs => niceXk kvs
def niceXs : List PyData → Bool
  | [] => true
  | x :: xs => niceX x && niceXs xs
def niceXk : List (PyData × PyData) → Bool
  | [] => true
  | (k, x) :: xs => niceX k && niceX x && niceXk xs
end
mutual
def wX : PyData → Nat
  | .none | .bool _ => 5
  | .int _ => 101
  | .str z => 10 * z.length + 2
  | .list xs | .tuple xs => wXs xs + 5
  | .dict kvs => wXk kvs + 5
def wXs : List PyData → Nat
  | [] => 0
  | x :: xs => wX x + 2 + wXs xs
def wXk : List (PyData × PyData) → Nat
  | [] => 0
  | (k, x) :: xs => wX k + wX x + 4 + wXk xs
end
theorem dictText_le (ts : List Str) : (dictText ts).length ≤ piled ts + 3 := by
  unfold dictText
  rw [Str.length_append, Str.length_append]
  have e1 : (Str.ofString "{").length = 1 := rfl
  have e2 : (Str.ofString "}").length = 1 := rfl
  cases ts with
  | nil =>
    have e3 : (Str.join ", " []).length = 0 := rfl
    omega
  | cons t r =>
    have := join_length_add (t :: r) (by simp)
    omega
mutual
theorem showX : ∀ d : PyData, niceX d = true → d.showable = true ∧ d.shown.length ≤ wX d
  | .none, _ => ⟨by simp [PyData.showable], by rw [PyData.shown, wX]; decide⟩
  | .bool b, _ => ⟨by simp [PyData.showable], by rw [PyData.shown, wX]; cases b <;> decide⟩
  | .int i, h => by
    rw [niceX] at h
    have h' : niceD (.int i) = true := by rw [niceD]; exact h
    exact ⟨(nice_show _ h').1, by have := (nice_show _ h').2.2; rw [wD] at this; rw [wX]; exact this⟩
  | .str z, h => by
    rw [niceX] at h
    have h' : niceD (.str z) = true := by rw [niceD]; exact h
    exact ⟨(nice_show _ h').1, by have := (nice_show _ h').2.2; rw [wD] at this; rw [wX]; exact this⟩
  | .list xs, h => by
    rw [niceX] at h
    obtain ⟨h1, h3⟩ := showXs xs h
    refine ⟨by rw [PyData.showable]; exact h1, ?_⟩
    rw [PyData.shown, wX]
    have := listText_le (PyData.shownAll xs)
    omega
  | .tuple xs, h => by
    rw [niceX] at h
    obtain ⟨h1, h3⟩ := showXs xs h
    refine ⟨by rw [PyData.showable]; exact h1, ?_⟩
    rw [PyData.shown, wX]
    have := tupleText_le (PyData.shownAll xs)
    omega
  | .dict kvs, h => by
    rw [niceX] at h
    obtain ⟨h1, h3⟩ := showXk kvs h
    refine ⟨by rw [PyData.showable]; exact h1, ?_⟩
    rw [PyData.shown, wX]
    have := dictText_le (PyData.shownKv kvs)
    omega
theorem showXs : ∀ ds : List PyData, niceXs ds = true → PyData.showableAll ds = true ∧ piled (PyData.shownAll ds) ≤ wXs ds
  | [], _ => ⟨by simp [PyData.showableAll], by rw [PyData.shownAll]; exact Nat.zero_le _⟩
  | d :: ds, h => by
    rw [niceXs, Bool.and_eq_true] at h
    obtain ⟨a1, a3⟩ := showX d h.1
    obtain ⟨b1, b3⟩ := showXs ds h.2
    refine ⟨by rw [PyData.showableAll, a1, b1]; rfl, ?_⟩
    rw [PyData.shownAll, wXs]
    have e2 : piled (d.shown :: PyData.shownAll ds) = d.shown.length + 2 + piled (PyData.shownAll ds) := by simp [piled]
    omega
theorem showXk : ∀ ds : List (PyData × PyData), niceXk ds = true → PyData.showableKv ds = true ∧ piled (PyData.shownKv ds) ≤ wXk ds
  | [], _ => ⟨by simp [PyData.showableKv], by rw [PyData.shownKv]; exact Nat.zero_le _⟩
  | (k, d) :: ds, h => by
    rw [niceXk, Bool.and_eq_true, Bool.and_eq_true] at h
    obtain ⟨c1, c3⟩ := showX k h.1.1
    obtain ⟨a1, a3⟩ := showX d h.1.2
    obtain ⟨b1, b3⟩ := showXk ds h.2
    refine ⟨by rw [PyData.showableKv, c1, a1, b1]; rfl, ?_⟩
    rw [PyData.shownKv, wXk]
    have e2 : ∀ (t : Str) (ts : List Str), piled (t :: ts) = t.length + 2 + piled ts := by intros; simp [piled]
    rw [e2, Str.length_append, Str.length_append]
    have e3 : (Str.ofString ": ").length = 2 := rfl
    omega
end
/-- for repr -/
theorem rpX {d : PyData} (h0 : okR d = true) (h : niceX d = true) (h1 : d.depth ≤ 60) (h2 : wX d ≤ 1000000) : okR d = true ∧ d.showable = true ∧ d.depth ≤ 60 ∧ d.shown.length ≤ 1000000 := ⟨h0, (showX d h).1, h1, Nat.le_trans (showX d h).2 h2⟩
section
variable {α : Type} {xs : List α}
theorem atI_5 {a0 a1 a2 a3 a4 a5 : α} : L2.atI (a0 :: a1 :: a2 :: a3 :: a4 :: a5 :: xs) 5 = some a5 := by
  unfold L2.atI L2.ixN
  rw [if_pos (by decide), if_pos (by simp only [List.length_cons]; omega)]
  rfl
theorem atI_6 {a0 a1 a2 a3 a4 a5 a6 : α} : L2.atI (a0 :: a1 :: a2 :: a3 :: a4 :: a5 :: a6 :: xs) 6 = some a6 := by
  unfold L2.atI L2.ixN
  rw [if_pos (by decide), if_pos (by simp only [List.length_cons]; omega)]
  rfl
theorem atI_7 {a0 a1 a2 a3 a4 a5 a6 a7 : α} : L2.atI (a0 :: a1 :: a2 :: a3 :: a4 :: a5 :: a6 :: a7 :: xs) 7 = some a7 := by
  unfold L2.atI L2.ixN
  rw [if_pos (by decide), if_pos (by simp only [List.length_cons]; omega)]
  rfl
theorem atI_8 {a0 a1 a2 a3 a4 a5 a6 a7 a8 : α} : L2.atI (a0 :: a1 :: a2 :: a3 :: a4 :: a5 :: a6 :: a7 :: a8 :: xs) 8 = some a8 := by
  unfold L2.atI L2.ixN
  rw [if_pos (by decide), if_pos (by simp only [List.length_cons]; omega)]
  rfl
theorem atI_9 {a0 a1 a2 a3 a4 a5 a6 a7 a8 a9 : α} : L2.atI (a0 :: a1 :: a2 :: a3 :: a4 :: a5 :: a6 :: a7 :: a8 :: a9 :: xs) 9 = some a9 := by
  unfold L2.atI L2.ixN
  rw [if_pos (by decide), if_pos (by simp only [List.length_cons]; omega)]
  rfl
theorem atI_10 {a0 a1 a2 a3 a4 a5 a6 a7 a8 a9 a10 : α} : L2.atI (a0 :: a1 :: a2 :: a3 :: a4 :: a5 :: a6 :: a7 :: a8 :: a9 :: a10 :: xs) 10 = some a10 := by
  unfold L2.atI L2.ixN
  rw [if_pos (by decide), if_pos (by simp only [List.length_cons]; omega)]
  rfl
theorem atI_11 {a0 a1 a2 a3 a4 a5 a6 a7 a8 a9 a10 a11 : α} : L2.atI (a0 :: a1 :: a2 :: a3 :: a4 :: a5 :: a6 :: a7 :: a8 :: a9 :: a10 :: a11 :: xs) 11 = some a11 := by
  unfold L2.atI L2.ixN
  rw [if_pos (by decide), if_pos (by simp only [List.length_cons]; omega)]
  rfl
theorem atI_12 {a0 a1 a2 a3 a4 a5 a6 a7 a8 a9 a10 a11 a12 : α} : L2.atI (a0 :: a1 :: a2 :: a3 :: a4 :: a5 :: a6 :: a7 :: a8 :: a9 :: a10 :: a11 :: a12 :: xs) 12 = some a12 := by
  unfold L2.atI L2.ixN
  rw [if_pos (by decide), if_pos (by simp only [List.length_cons]; omega)]
  rfl
theorem atI_13 {a0 a1 a2 a3 a4 a5 a6 a7 a8 a9 a10 a11 a12 a13 : α} : L2.atI (a0 :: a1 :: a2 :: a3 :: a4 :: a5 :: a6 :: a7 :: a8 :: a9 :: a10 :: a11 :: a12 :: a13 :: xs) 13 = some a13 := by
  unfold L2.atI L2.ixN
  rw [if_pos (by decide), if_pos (by simp only [List.length_cons]; omega)]
  rfl
end
theorem lst_rp {ds : List PyData} (h : ∀ d ∈ ds, okD d = true ∧ niceX d = true ∧ d.depth ≤ 5 ∧ wX d ≤ 500) (hl : ds.length ≤ 100) : okR (.list ds) = true ∧ (PyData.list ds).showable = true ∧ (PyData.list ds).depth ≤ 60 ∧ (PyData.list ds).shown.length ≤ 1000000 := by
  have a : ∀ l : List PyData, (∀ d ∈ l, okD d = true ∧ niceX d = true ∧ d.depth ≤ 5 ∧ wX d ≤ 500) → niceXs l = true ∧ PyData.depthAll l ≤ 5 ∧ wXs l ≤ 502 * l.length := by
    intro l
    induction l with
    | nil => intro _; exact ⟨by rw [niceXs], by simp [PyData.depthAll], by rw [wXs]; exact Nat.zero_le _⟩
    | cons d l ih =>
      intro h
      obtain ⟨i1, i2, i3⟩ := ih fun d hd => h d (List.mem_cons_of_mem _ hd)
      obtain ⟨_, h2, h3, h4⟩ := h d List.mem_cons_self
      refine ⟨by rw [niceXs, h2, i1]; rfl, by rw [PyData.depthAll]; exact Nat.max_le.mpr ⟨h3, i2⟩, ?_⟩
      rw [wXs, List.length_cons]
      omega
  obtain ⟨a1, a2, a3⟩ := a ds h
  refine rpX ?_ (by rw [niceX]; exact a1) (by rw [PyData.depth]; omega) (by rw [wX]; omega)
  exact List.all_eq_true.mpr fun d hd => (h d hd).1
/-- a, b, c = x, y, z -/
def fPar3 (i j l : Nat) (A : FA) : FS := fun τ s D => A τ s (fun ts s1 => match ts with | [t, u, v] => D.nx (((τ.set i (some t)).set j (some u)).set l (some v)) s1 | _ => False) (xk τ D)
theorem js_par3 {X : Cx} {cl : CL} {W : WX} {i j l : Nat} {x y z : Str} {a b c : Expr} {A : FA} {px py pz pt pos : Pos} {kt k2 pt2} (hc : X.calm = true) (hN : X.N.Nodup) (hi : X.N[i]? = some x) (hj : X.N[j]? = some y) (hl : X.N[l]? = some z) (hij : i ≠ j) (hil : i ≠ l) (hjl : j ≠ l)
    (hx : X.env.scope.names.lookup x = some .local) (hy : X.env.scope.names.lookup y = some .local) (hz : X.env.scope.names.lookup z = some .local) (ha : JA X cl W [a, b, c] A)
    (hsw : swappedStores [.Tuple [.Name x px, .Name y py, .Name z pz] kt pt] (.Tuple [a, b, c] k2 pt2) X.env = pure (some [x, y, z]) := by rfl) (hs : swapsWithSole [.Tuple [.Name x px, .Name y py, .Name z pz] kt pt] (.Tuple [a, b, c] k2 pt2) pos.line X.env = pure false := by rfl) :
    JS X cl W (.Assign [.Tuple [.Name x px, .Name y py, .Name z pz] kt pt] (.Tuple [a, b, c] k2 pt2) pos) (fPar3 i j l A) := by
  refine ⟨fun τ s D D' le h => ha.mon _ _ _ _ _ _ (fun ts s1 q => ?_) (fun _ _ q => le.xr _ _ _ q) h, PS.imp (ps_par3 hc hN hi hj hl hij hil hjl hx hy hz ha.pa hsw hs) ?_⟩
  · split at q
    · exact le.nx _ _ q
    · exact q.elim
  rintro D σ H ⟨Z, τ, s, re, so, h⟩
  refine goA ha.mon re so h (fun ts s1 vs H1 p f1 re1 r1 so1 => ?_) fun _ _ q => xe_w re q
  split at p
  · cases r1 with
    | cons h1 q =>
      obtain ⟨v, w, rfl, rv, rw⟩ := reps2 q
      exact ⟨_, v, w, rfl, p _ H1 f1 (((re1.set h1 i).set rv j).set rw l) so1⟩
  · exact p.elim
theorem rows_madeX : True := by
  have := @Mr.fDctC.eq_1
  have := @Mr.fPar3.eq_1
  trivial
end Mr

/-! The mirror layer: texts' methods, class values, isinstance with a tuple. -/
namespace Mr
open PySem PySem.Spec PyProof.Rows L2 Tw ClX
section
variable {X : Cx} {cl : CL} {W : WX} {e o : Expr} {Fa Fb : FE} {pos p apos : Pos} {j : Nat}
/-! ### methods of texts -/
abbrev OS := S → Str → List T → Option (Prop × T)
structure SM (X : Cx) (cl : CL) (id : String) (f : OS) : Prop where
  ex : ∃ r, MtR X id r ∧ ∀ (Z : Addr → Prop) (H : Hp) (z : Str) (xs : List V) (Q : VK) (s : S) (ts : List T) (c : Prop) (t : T), Reps X.K cl Z s H xs ts → Sto X.K cl Z s H → f s z ts = some (c, t) → c → post X.K cl Z s H Q t s → r (.str z) xs H Q
def onS (f : OS) (s : S) (x : T) (ts : List T) (Q : KT) : Prop := match x with | .str z => (match f s z ts with | some (c, t) => c ∧ Q t s | none => False) | _ => False
theorem onS.mon {f : OS} {s : S} {x : T} {ts : List T} {Q Q' : KT} (hq : ∀ t s, Q t s → Q' t s) (h : onS f s x ts Q) : onS f s x ts Q' := by
  unfold onS at h ⊢
  split at h
  · split at h
    · exact ⟨h.1, hq _ _ h.2⟩
    · exact h
  · exact h
def isS : T → Prop
  | .str _ => True
  | _ => False
def fSm0 (f : OS) (Fa : FE) : FE := fun τ s Q E => Fa τ s (fun x s1 => onS f s1 x [] Q) E
def fSm1 (f : OS) (Fa Fb : FE) : FE := fun τ s Q E => Fa τ s (fun x s1 => isS x ∧ Fb τ s1 (fun y s2 => onS f s2 x [y] Q) E) E
theorem je_sm0 {id : String} {name : Str} {f : OS} (m : SM X cl id f) (slot : Slot "str" name id) (ty : typeOf (.builtin id) = pure (.type "method_descriptor")) (ho : JE X cl W o Fa)
    (hbase : attributeBase o name X.env (eval o X.env) = eval o X.env := by rfl) (hline : (apos.endLine == pos.line) = true := by rfl) : JE X cl W (.Call (.Attribute o name apos) [] [] pos) (fSm0 f Fa) := by
  obtain ⟨r, mr, br⟩ := m.ex
  refine ⟨fun τ s Q Q' E E' hq hE h => ho.mon _ _ _ _ _ _ (fun x s1 h1 => h1.mon hq) hE h, PE.imp (pe_m0 slot ty mr ho.pe hbase hline) ?_⟩
  rintro σ H Q ⟨Z, τ, s, re, so, h⟩
  refine go ho.mon re so h (fun tx s1 x H1 p1 f1 re1 r1 so1 => ?_) fun _ _ q => q
  unfold onS at p1
  split at p1
  · split at p1
    · rename_i c t e1
      cases rep_s r1
      exact ⟨⟨_, rfl⟩, br _ _ _ _ _ _ _ _ _ .nil so1 e1 p1.1 (post.up f1 p1.2)⟩
    · exact p1.elim
  · exact p1.elim
theorem je_sm1 {id : String} {name : Str} {f : OS} (m : SM X cl id f) (slot : Slot "str" name id) (ty : typeOf (.builtin id) = pure (.type "method_descriptor")) (ho : JE X cl W o Fa) (he : JE X cl W e Fb)
    (hs : starEach [e] X.env = [(false, eval e X.env)] := by rfl) (hbase : attributeBase o name X.env (eval o X.env) = eval o X.env := by rfl) (hline : (apos.endLine == pos.line) = true := by rfl) : JE X cl W (.Call (.Attribute o name apos) [e] [] pos) (fSm1 f Fa Fb) := by
  obtain ⟨r, mr, br⟩ := m.ex
  refine ⟨fun τ s Q Q' E E' hq hE h => ho.mon _ _ _ _ _ _ (fun x s1 h1 => ⟨h1.1, he.mon _ _ _ _ _ _ (fun y s2 h2 => h2.mon hq) hE h1.2⟩) hE h, PE.imp (pe_m1 slot ty mr ho.pe he.pe hs hbase hline) ?_⟩
  rintro σ H Q ⟨Z, τ, s, re, so, h⟩
  refine go ho.mon re so h (fun tx s1 x H1 p1 f1 re1 r1 so1 => ⟨?_, ?_⟩) fun _ _ q => q
  · have := p1.1
    unfold isS at this
    split at this
    · cases rep_s r1
      exact ⟨_, rfl⟩
    · exact this.elim
  refine go he.mon re1 so1 p1.2 (fun ty s2 y H2 p2 f2 re2 r2 so2 => ?_) fun _ _ q => postW.up f1 q
  unfold onS at p2
  split at p2
  · split at p2
    · rename_i c t e1
      cases rep_s r1
      exact br _ _ _ _ _ _ _ _ _ (.cons r2 .nil) so2 e1 p2.1 (post.up (f1.trans f2) p2.2)
    · exact p2.elim
  · exact p2.elim
def upperO : OS
  | _, z, [] => some (z.length ≤ 1000000, .str (Txt.upper z))
  | _, _, _ => none
theorem sm_upper : SM X cl "str.upper" upperO := by
  refine ⟨_, mt_upper, fun Z H z xs Q s ts c t r so e hc p => ?_⟩
  unfold upperO at e
  split at e
  · cases e
    cases r
    exact ⟨_, rfl, rfl, Nat.le_trans hc (by decide), p.here (.str _) so⟩
  · cases e
def lowerO : OS
  | _, z, [] => some (z.length ≤ 1000000, .str (Txt.lower z))
  | _, _, _ => none
theorem sm_lower : SM X cl "str.lower" lowerO := by
  refine ⟨_, mt_lower, fun Z H z xs Q s ts c t r so e hc p => ?_⟩
  unfold lowerO at e
  split at e
  · cases e
    cases r
    exact ⟨_, rfl, rfl, Nat.le_trans hc (by decide), p.here (.str _) so⟩
  · cases e
def partO : OS
  | _, z, [.str b] => some ((b.length == 0) = false ∧ z.length ≤ 1000000, .tup [.str (Txt.partition z b).1, .str (Txt.partition z b).2.1, .str (Txt.partition z b).2.2])
  | _, _, _ => none
theorem sm_partition : SM X cl "str.partition" partO := by
  refine ⟨_, mt_partition, fun Z H z xs Q s ts c t r so e hc p => ?_⟩
  unfold partO at e
  split at e
  · cases e
    obtain ⟨v, rfl, rv⟩ := reps1 r
    cases rep_s rv
    refine ⟨_, _, rfl, rfl, hc.1, Nat.le_trans hc.2 size6, ?_⟩
    exact post.newT p so (.cons (.str _) (.cons (.str _) (.cons (.str _) .nil)))
  · cases e
/-! ### a class's own value -/
theorem je_cval {c : Nat} {x f : Str} {mc u : Value} {v : V} {t : T} (hg : Gl X x) (hm : X.mg x = some (.ref (cl c))) (hc : CRead X.K (cl c) mc) (hv : CVal X.K (cl c) mc f v u) (rep : ∀ Z s H, Rep X.K cl Z s H v t) (hd : (x == ("__debug__" : Str)) = false := by decide)
    (hb : attributeBase (.Name x p) f X.env (eval (.Name x p) X.env) = eval (.Name x p) X.env := by rfl) : JE X cl W (.Attribute (.Name x p) f pos) (fC t) := by
  have h := je_cls (X := X) (cl := cl) (W := W) (pos := p) c hg hm hd
  refine je_c (v := v) (PE.imp (pe_cval (pos := pos) (C8.pe_gc (v := .ref (cl c)) hg ⟨_, hm, rfl⟩ hd) hb) ?_) rep
  intro σ H Q q
  exact ⟨_, mc, v, u, rfl, hc, hv, q⟩
/-- what a class's value is, as a tree -/
def CV (K : PySem.W.Frag) (cl : CL) (c : Nat) (f : Str) (t : T) : Prop := ∃ (mc u : Value) (v : V), CRead K (cl c) mc ∧ CVal K (cl c) mc f v u ∧ ∀ Z s H, Rep K cl Z s H v t
theorem je_cv {c : Nat} {x f : Str} {t : T} (hg : Gl X x) (hm : X.mg x = some (.ref (cl c))) (h : CV X.K cl c f t) (hd : (x == ("__debug__" : Str)) = false := by decide)
    (hb : attributeBase (.Name x p) f X.env (eval (.Name x p) X.env) = eval (.Name x p) X.env := by rfl) : JE X cl W (.Attribute (.Name x p) f pos) (fC t) := by
  obtain ⟨mc, u, v, h1, h2, h3⟩ := h
  exact je_cval hg hm h1 h2 h3 hd hb
/-! ### isinstance, a tuple of classes -/
def tys : List T → Option (List Ty)
  | [] => some []
  | .ty k :: r => (tys r).map (k :: ·)
  | _ => none
def kkAny (kk : Ty → Ty → Option Bool) (a : Ty) : List Ty → Option Bool
  | [] => some false
  | b :: r => match kk a b with
    | some true => some true
    | some false => kkAny kk a r
    | none => none
theorem kk_any {kk : Ty → Ty → Option Bool} {ins exc : List Nat} (w : Wc X.K cl kk ins exc) {a : Ty} : ∀ {bs : List Ty} {q : Bool}, kkAny kk a bs = some q → PySem.W.kitAny X.K (a.u cl) (bs.map (Ty.u cl)) = some q
  | [], q, e => e
  | b :: bs, q, e => by
    unfold kkAny at e
    rw [List.map_cons, PySem.W.kitAny]
    split at e
    · rename_i e1
      rw [w.kit _ _ _ e1]
      exact e
    · rename_i e1
      rw [w.kit _ _ _ e1]
      exact kk_any w e
    · cases e
theorem tys_rep {Z : Addr → Prop} {s : S} {H : Hp} : ∀ {ts : List T} {vs : List V} {bs : List Ty}, Reps X.K cl Z s H vs ts → tys ts = some bs → Paired ClsV vs (bs.map (Ty.u cl))
  | [], _, _, r, e => by
    cases r
    cases e
    exact .nil
  | t :: ts, _, _, r, e => by
    cases r with
    | cons h q =>
      cases t with
      | ty k =>
        rw [tys] at e
        obtain ⟨bs', e1, rfl⟩ := Option.map_eq_some_iff.mp e
        cases h
        exact .cons (Ty.cls cl _) (tys_rep q e1)
      | _ => simp [tys] at e
def TupAt (K : PySem.W.Frag) (H : Hp) (tp : Addr) (cs : List V) : Prop := H tp = some (.tup cs) ∨ ∃ (o : Obj) (its : Array Value) (n : Nat), K.lookup tp = some o ∧ o.cls = .type "tuple" ∧ o.data = .seq its n ∧ Vals cs its.toList
def rIsXT (K : PySem.W.Frag) : List V → Hp → VK → Prop := fun xs H Q => ∃ (x : V) (tp : Addr) (cs : List V) (t : Value) (us : List Value) (b : Bool), xs = [x, .ref tp] ∧ TupAt K H tp cs ∧ Paired ClsV cs us ∧ TyE K H x t ∧ PySem.W.kitAny K t us = some b ∧ Q (.bl b) H
theorem call_isXT : CallR X (.builtin "isinstance") (rIsXT X.K) := by
  intro pins s σ H xs us Q I r h
  obtain ⟨x, tp, cs, t, ws, b, rfl, hT, k, ty, e, q⟩ := h
  have hA : ∃ (od : Option Addr) (n : Nat) (sl : Array (Option Value)), s.heap.get? tp = some ⟨.type "tuple", od, .seq ws.toArray n, sl⟩ := by
    rcases hT with hT | ⟨o, its, n, h1, h2, h3, rv⟩
    · obtain ⟨_, its, rv, o, h1, h2, n, h3⟩ := (show ObjOk X.prog X.w H s.heap tp (.tup cs) from I.hok tp _ hT)
      have e3 := ClsV.all k rv
      subst e3
      obtain ⟨oc, od', dt, sl⟩ := o
      simp only at h2 h3
      subst h2 h3
      exact ⟨_, _, _, h1⟩
    · have e3 := ClsV.all k rv
      obtain ⟨oc, od', dt, sl⟩ := o
      simp only at h2 h3
      subst h2 h3
      refine ⟨od', n, sl, ?_⟩
      rw [← e3]
      exact I.kIn _ _ h1
  obtain ⟨od', n, sl, h1⟩ := hA
  obtain ⟨u1, u2, rfl, r1, r2⟩ := vals2 r
  cases (show u2 = Value.ref tp from r2)
  rcases ty with ty | ⟨a, d, D, fs, rfl, rfl, T, ea, ed⟩
  · obtain ⟨P, Z, p, hx⟩ := kit_of I r1 ty
    exact PySem.W.kia_tup Z I.kIn p h1 e hx fun tk => ⟨.bl b, H, I.tok tk, rfl, q⟩
  · obtain rfl : u1 = Value.ref a := r1
    obtain ⟨oe, vs, hget, hz, hd⟩ := exV_at I.hok ea
    obtain ⟨mA, hns, hr⟩ := (show ObjOk X.prog X.w H s.heap d (.xd fs) from I.hok d _ ed)
    obtain ⟨od, ho, hl⟩ := lookIn_ns hns
    have J : PySem.W.InstAt s.heap a oe D (some od) := ⟨hget, hz.1, by unfold PySem.W.notCls; rw [hd] <;> rfl, by rw [hz.2]; exact ho⟩
    obtain ⟨cd, hcd, _⟩ := PySem.W.any_some T.hd
    exact PySem.W.kia_tup (PySem.W.kitx_exc (by rw [hcd]; rfl) T.hg T.hk T.hs T.ha T.hn T.ht T.hm) I.kIn J h1 e (fun z => nomatch z) fun tk => ⟨.bl b, H, I.tok tk, rfl, q⟩
def isiT (kk : Ty → Ty → Option Bool) (ins exc : List Nat) : ON
  | s, [x, .tup ks] => match s.ty? x, tys ks with | some (a, g), some bs => (match kkAny kk a bs with | some r => some (okC ins exc a g, .bl r) | none => none) | _, _ => none
  | _, _ => none
theorem c_isiT {kk : Ty → Ty → Option Bool} {ins exc : List Nat} (w : Wc X.K cl kk ins exc) : BC X cl (.builtin "isinstance") (isiT kk ins exc) := by
  refine ⟨_, call_isXT, fun Z H xs Q s ts c t r so e hc p => ?_⟩
  unfold isiT at e
  split at e
  · obtain ⟨v, u, rfl, rv, ru⟩ := reps2 r
    split at e
    · rename_i a g bs e1 e0
      split at e
      · rename_i q e2
        cases e
        cases ru with
        | tup h n rs => exact ⟨_, _, _, _, _, _, rfl, .inl h, tys_rep rs e0, ty_of w so rv e1 hc, kk_any w e2, p.here (.bl _) so⟩
        | tupK h1 h2 h3 h4 h5 rs => exact ⟨_, _, _, _, _, _, rfl, .inr ⟨_, _, _, h1, h2, h3, h5⟩, tys_rep rs e0, ty_of w so rv e1 hc, kk_any w e2, p.here (.bl _) so⟩
      · cases e
    · cases e
  · cases e
end
/-! ### a loop over what is known: one turn -/
theorem hFor.cons {ok : S → Prop} {g : FG} {B : FS} {t : T} {ts : List T} {τ : Env} {s : S} {D : DS} (ho : ok s) (h : g t τ s fun τ1 s1 => B τ1 s1 ⟨fun τ2 s2 => @hFor ok g ts τ2 s2 ⟨B⟩ ⟨D⟩, D.rt, D.nx, fun τ2 s2 => @hFor ok g ts τ2 s2 ⟨B⟩ ⟨D⟩, D.xr⟩) : @hFor ok g (t :: ts) τ s ⟨B⟩ ⟨D⟩ := ⟨ho, h⟩
theorem hFor.nil {ok : S → Prop} {g : FG} {B : FS} {τ : Env} {s : S} {D : DS} (ho : ok s) (h : D.nx τ s) : @hFor ok g [] τ s ⟨B⟩ ⟨D⟩ := ⟨ho, h⟩
theorem hLc.cons {ok : S → Prop} {g : FG} {tt : FT} {te : FE} {t : T} {ts acc : List T} {τ : Env} {s : S} {Q : List T → S → Prop} (ho : ok s) (hl : acc.length < 1000000)
    (h : g t τ s fun τ1 s1 => tt τ1 s1 (fun b s2 => if b = true then te τ1 s2 (fun y s3 => @hLc ok g τ ts (acc ++ [y]) s3 ⟨tt⟩ ⟨te⟩ ⟨Q⟩) noX else @hLc ok g τ ts acc s2 ⟨tt⟩ ⟨te⟩ ⟨Q⟩) noX) : @hLc ok g τ (t :: ts) acc s ⟨tt⟩ ⟨te⟩ ⟨Q⟩ := ⟨ho, by omega, h⟩
theorem hLc.nil {ok : S → Prop} {g : FG} {tt : FT} {te : FE} {acc : List T} {τ : Env} {s : S} {Q : List T → S → Prop} (ho : ok s) (h : Q acc s) : @hLc ok g τ [] acc s ⟨tt⟩ ⟨te⟩ ⟨Q⟩ := ⟨ho, h⟩
theorem rows_madeY : True := by
  have := @Mr.fSm0.eq_1
  have := @Mr.fSm1.eq_1
  have := @Mr.onS.eq_1
  trivial
end Mr

/-! The mirror layer: cells that a def leaves behind. -/
namespace Mr
open PySem PySem.Spec PyProof.Rows L2 Tw
/-- s' is s with fewer cells -/
structure Shr (s s' : S) : Prop where
  pa : s'.pa = s.pa
  pen : s'.pen = s.pen
  on : ∀ b, s'.on b = none ∨ s'.on b = s.on b
theorem Shr.refl (s : S) : Shr s s := ⟨rfl, rfl, fun _ => .inr rfl⟩
theorem Shr.trans {s s1 s2 : S} (a : Shr s s1) (b : Shr s1 s2) : Shr s s2 := ⟨b.pa.trans a.pa, b.pen.trans a.pen, fun c => by
  rcases b.on c with h | h
  · exact .inl h
  · rw [h]; exact a.on c⟩
theorem Shr.put {s : S} {a : Addr} {c : Cell} (h : s.on a = none) : Shr (s.put a c) s := ⟨rfl, rfl, fun b => by
  by_cases e : b = a
  · rw [e]; exact .inl h
  · exact .inr (S.put_ne e).symm⟩
theorem Shr.pn {s s' : S} {n : Nat} (h : Shr s s') : Shr (s.pn n) (s'.pn n) := ⟨h.pa, rfl, h.on⟩
theorem Shr.putB {s s' : S} {a : Addr} {c : Cell} (h : Shr s s') : Shr (s.put a c) (s'.put a c) := ⟨h.pa, h.pen, fun b => by
  by_cases e : b = a
  · rw [e, S.put_same, S.put_same]; exact .inr rfl
  · rw [S.put_ne e, S.put_ne e]; exact h.on b⟩
/-- new cell ahead of what else is put -/
theorem Shr.put2 {s s' : S} {a : Addr} {c : Cell} (h : Shr s s') (n : s'.on a = none) : Shr (s.put a c) s' := ⟨h.pa, h.pen, fun b => by
  by_cases e : b = a
  · rw [e]; exact .inl n
  · rw [S.put_ne e]; exact h.on b⟩
section
variable {K : PySem.W.Frag} {cl : CL} {Z : Addr → Prop} {s s' : S} {H : Hp}
theorem Shr.mut (h : Shr s s') {b : Addr} (m : s'.mut b) : s.mut b := by
  rcases m with m | m
  · exact .inl (h.pa ▸ m)
  · refine .inr fun e => m ?_
    rcases h.on b with q | q
    · exact q
    · rw [q]; exact e
theorem Shr.fut (h : Shr s s') : Fut s H s' H := ⟨fun _ _ k n _ => ⟨k, fun m => n (h.mut m)⟩, fun _ k => h.pa.trans k⟩
theorem Shr.sto (h : Shr s s') (so : Sto K cl Z s H) : Sto K cl Z s' H where
  pen := fun q hq => by
    obtain ⟨L, x, r, ns, h1, h2, h3, h4⟩ := so.pen q (h.pa ▸ hq)
    exact ⟨L, x, r, ns, h1, h2, ⟨fun m => h3.1 (h.mut m), h3.2⟩, by rw [h.pen]; exact h4⟩
  cells := fun b c hb => by
    rcases h.on b with q | q
    · rw [q] at hb; cases hb
    · exact (so.cells b c (q ▸ hb)).at h.fut rfl
  apart := fun q hq => by
    rcases h.on q with e | e
    · exact e
    · rw [e]; exact so.apart q (h.pa ▸ hq)
  hid := fun b hb => ⟨fun m => (so.hid b hb).1 (h.mut m), (so.hid b hb).2⟩
  tabs := so.tabs
end
/-- what is left of cells may be forgotten -/
def shQ (Q : KT) : KT := fun t s => ∃ s', Shr s s' ∧ Q t s'
def shX (E : KX) : KX := fun e s => ∃ s', Shr s s' ∧ E e s'
theorem shQ.of {Q : KT} {t : T} {s : S} (h : Q t s) : shQ Q t s := ⟨s, Shr.refl s, h⟩
theorem shX.of {E : KX} {e : Er} {s : S} (h : E e s) : shX E e s := ⟨s, Shr.refl s, h⟩
section
variable {P : Program} {w : World} {K : PySem.W.Frag} {mg : Str → Option Value} {base : Heap} {cl : CL} {k : Nat} {qual : Str} {st : Stmt} {ps N : List Str} {D : FD} {B : FS}
theorem post.shr {Z : Addr → Prop} {s s1 s2 : S} {H : Hp} {Q : VK} {t : T} (h : Shr s1 s2) (q : post K cl Z s H Q t s2) : post K cl Z s H Q t s1 := fun v H' f r so => q v H' (f.trans h.fut) (r.fut h.fut) (h.sto so)
theorem postX.shr {Z : Addr → Prop} {s s1 s2 : S} {H : Hp} {Q : XK} {e : Er} (h : Shr s1 s2) (q : postX K cl Z s H Q e s2) : postX K cl Z s H Q e s1 := fun d fvs H' f e m r so => q d fvs H' (f.trans h.fut) e ⟨fun x => m.1 (h.mut x), m.2⟩ (r.fut h.fut) (h.sto so)
theorem fnD (S : FnScope N ps (C8.fnScope st)) (len : ∀ ts s Q E, D ts s Q E → ts.length = ps.length) (hB : Walk P w K mg base cl k N qual st B)
    (hF : ∀ ts s Q E, D ts s Q E → B (startT N ts) s (endsM (shQ Q) (shX E))) : ∀ {x : Str} {f : Addr} {fd : FuncData}, C8.Fun K x qual st f fd → FnG P w K mg base (k + 1) f fd ps (spM K cl D) :=
  fun F => fnGX F S (spM.len len) fun cdv A out s H vs Q E hr h => by
    obtain ⟨Z, ts, s, r, so, Q0, E0, h1, h2, h3⟩ := h
    have hb := hB _ cdv A out _ H E hr
    refine ⟨_, hb.pss, Z, startT N ts, s, RepE.start r, so, hb.mon _ _ _ _ ?_ (hF _ _ _ _ h1)⟩
    refine ⟨fun τ s' q σ H' f _ so' => ?_, fun t s' q => ?_, fun τ s' q => q.elim, fun τ s' q => q.elim, fun er τ s' q d fvs σ H' f e m rf _ so' => ?_⟩
    · obtain ⟨s2, sh, q⟩ := q
      exact post.shr sh (h2 _ _ q) _ _ f .non so'
    · obtain ⟨s2, sh, q⟩ := q
      exact post.shr sh (h2 _ _ q)
    · obtain ⟨s2, sh, q⟩ := q
      exact postX.shr sh (h3 _ _ q) d fvs H' f e m rf so'
end
end Mr

/-! The mirror layer: own operators, instances that are called, static methods, properties. -/
namespace Mr
open PySem PySem.Spec PyProof.Rows L2 Tw
theorem no_dvs {K : PySem.W.Frag} {cl : CL} {dvs : List V} (hd : ∀ Z s H, Reps K cl Z s H dvs []) : dvs = [] := by
  have := hd (fun _ => False) ⟨none, 0, fun _ => none⟩ (fun _ => none)
  cases this
  rfl
section
variable {X : Cx} {cl : CL} {W : WX} {k j cc : Nat} {D : FD} {m : Str} {op : Operator}
/-- two instances of one class, by the left one's method -/
def gOwn2 (cc : Nat) (D : FD) : S → T → T → KT → KX → Prop := fun s x y Q E => match s.obj? x, s.obj? y with | some (c, _), some (c', _) => c = cc ∧ c' = cc ∧ cM D [x, y] s Q E | _, _ => False
theorem o_own2 (tk : Takes X W) (d : MetM X.prog X.w X.K X.mg X.base cl k cc m D []) (hsf : PySem.W.selfFirst X.K (cl cc) = true) (hr : Rm j X.A) (hk : k ≤ j) (hm : PySem.dunder op.info.2 = m := by rfl) : Mr.OpT X cl W (binaryOp op) (gOwn2 cc D) := by
  obtain ⟨dvs, d, hd⟩ := d.ex
  obtain rfl := no_dvs hd
  refine ⟨?_, fun Z pins sh σ H x y v u Q s tx ty I rx ry px py so q => ?_⟩
  · intro s x y Q Q' E E' hq he h
    unfold gOwn2 at h ⊢
    split at h
    · exact ⟨h.1, h.2.1, h.2.2.mon hq he⟩
    · exact h
  unfold gOwn2 at q
  split at q
  · rename_i c fs c' fs' e1 e2
    obtain ⟨rfl, rfl, h3⟩ := q
    obtain ⟨a, dx, fvs, rfl, ha, _⟩ := obj_of so px e1
    obtain ⟨b, dy, gvs, rfl, hb, _⟩ := obj_of so py e2
    cases rx; cases ry
    obtain ⟨f, fd, ps, ds, hc, me, F, bd, dv⟩ := d.ex
    obtain ⟨mA, J, _⟩ := ins_get I.hok ha
    obtain ⟨mB, J', _⟩ := ins_get I.hok hb
    obtain ⟨od, J, _⟩ := J.look
    obtain ⟨od', J', _⟩ := J'.look
    obtain ⟨mm, hF⟩ := I.fr
    subst hm
    refine PySem.W.binop_K hF I.ok.mod.kin J J'.type hsf me.at_ me.fn ?_
    refine wpAny_mono (runG (us := [.ref a, .ref b]) (vs := [.ref a, .ref b]) F (hr.mono hk) bd dv (pass_tk tk) I (.cons rfl (.cons rfl .nil)) ?_) (fun _ _ z => cmpBack_of z) fun _ _ z => z
    exact ⟨Z, [tx, ty], s, .cons px (.cons py .nil), so, h3⟩
  · exact q.elim
/-- an instance and an int -/
def gOwnI (cc : Nat) (D : FD) : S → T → T → KT → KX → Prop := fun s x y Q E => match s.obj? x, y with | some (c, _), .int i => c = cc ∧ cM D [x, .int i] s Q E | _, _ => False
theorem o_ownI (tk : Takes X W) (d : MetM X.prog X.w X.K X.mg X.base cl k cc m D []) (hsf : PySem.W.selfFirst X.K (cl cc) = true) (ht : Tw.OpT X.K (cl cc) "int" op) (hr : Rm j X.A) (hk : k ≤ j) (hm : PySem.dunder op.info.2 = m := by rfl) : Mr.OpT X cl W (binaryOp op) (gOwnI cc D) := by
  obtain ⟨dvs, d, hd⟩ := d.ex
  obtain rfl := no_dvs hd
  refine ⟨?_, fun Z pins sh σ H x y v u Q s tx ty I rx ry px py so q => ?_⟩
  · intro s x y Q Q' E E' hq he h
    unfold gOwnI at h ⊢
    split at h
    · exact ⟨h.1, h.2.mon hq he⟩
    · exact h
  unfold gOwnI at q
  split at q
  · rename_i c fs i e1
    obtain ⟨rfl, h3⟩ := q
    obtain ⟨a, dx, fvs, rfl, ha, _⟩ := obj_of so px e1
    have ey := rep_i py
    subst ey
    cases rx
    obtain ⟨t, rfl⟩ := ry
    obtain ⟨f, fd, ps, ds, hc, me, F, bd, dv⟩ := d.ex
    obtain ⟨mA, J, _⟩ := ins_get I.hok ha
    obtain ⟨od, J, _⟩ := J.look
    obtain ⟨mm, hF⟩ := I.fr
    obtain ⟨⟨rc, h1, h2⟩, ⟨fo, h4⟩, ⟨ro, h5⟩, h6⟩ := ht
    subst hm
    refine PySem.W.ksp_binT (T := "int") hF I.ok.mod.kin J rfl hsf me.at_ me.fn h1 h2 h4 h5 h6 ?_
    refine wpAny_mono (runG (us := [.ref a, .int i t]) (vs := [.ref a, .int i]) F (hr.mono hk) bd dv (pass_tk tk) I (.cons rfl (.cons ⟨t, rfl⟩ .nil)) ?_) (fun _ _ z => cmpBack_of z) fun _ _ z => z
    exact ⟨Z, [tx, .int i], s, .cons px (.cons py .nil), so, h3⟩
  · exact q.elim
/-- an int times an instance -/
def gOwnR (cc : Nat) (D : FD) : S → T → T → KT → KX → Prop := fun s x y Q E => match x, s.obj? y with | .int i, some (c, _) => c = cc ∧ cM D [y, .int i] s Q E | _, _ => False
theorem o_ownR (tk : Takes X W) (d : MetM X.prog X.w X.K X.mg X.base cl k cc "__rmul__" D []) (hsf : PySem.W.selfFirst X.K (cl cc) = true) (hs : ∃ f : Addr, PySem.W.findIn X.K (.ref (cl cc)) "__mul__" = some (some (.ref f))) (hsub : PySem.W.subIn X.K (.ref (cl cc)) (.type "int") = some false) (hr : Rm j X.A) (hk : k ≤ j) :
    Mr.OpT X cl W (binaryOp .Mult) (gOwnR cc D) := by
  obtain ⟨dvs, d, hd⟩ := d.ex
  obtain rfl := no_dvs hd
  refine ⟨?_, fun Z pins sh σ H x y v u Q s tx ty I rx ry px py so q => ?_⟩
  · intro s x y Q Q' E E' hq he h
    unfold gOwnR at h ⊢
    split at h
    · exact ⟨h.1, h.2.mon hq he⟩
    · exact h
  unfold gOwnR at q
  split at q
  · rename_i i c fs e1
    obtain ⟨rfl, h3⟩ := q
    obtain ⟨a, dx, fvs, rfl, ha, _⟩ := obj_of so py e1
    have ey := rep_i px
    subst ey
    cases ry
    obtain ⟨t, rfl⟩ := rx
    obtain ⟨f, fd, ps, ds, hc, me, F, bd, dv⟩ := d.ex
    obtain ⟨f0, hs⟩ := hs
    obtain ⟨mA, J, _⟩ := ins_get I.hok ha
    obtain ⟨od, J, _⟩ := J.look
    refine rmul_K I.kIn J hsf hs me.at_ me.fn hsub ?_
    refine wpAny_mono (runG (us := [.ref a, .int i t]) (vs := [.ref a, .int i]) F (hr.mono hk) bd dv (pass_tk tk) I (.cons rfl (.cons ⟨t, rfl⟩ .nil)) ?_) (fun _ _ z => cmpBack_of z) fun _ _ z => z
    exact ⟨Z, [ty, .int i], s, .cons py (.cons px .nil), so, h3⟩
  · exact q.elim
/-- what is done with an instance of the class cc -/
def kObj (cc : Nat) (s : S) (x : T) (P : Prop) : Prop := match s.obj? x with | some (c, _) => c = cc ∧ P | none => False
theorem kObj.mon {s : S} {x : T} {P P' : Prop} (h : P → P') (q : kObj cc s x P) : kObj cc s x P' := by
  unfold kObj at q ⊢
  split at q
  · exact ⟨q.1, h q.2⟩
  · exact q
theorem kObj.get {K : PySem.W.Frag} {Z : Addr → Prop} {s : S} {H : Hp} {v : V} {t : T} {P : Prop} (so : Sto K cl Z s H) (r : Rep K cl Z s H v t) (q : kObj cc s t P) : ∃ a dx fvs, v = .ref a ∧ H a = some (.ins (cl cc) dx fvs) ∧ P := by
  unfold kObj at q
  split at q
  · rename_i c fs e
    obtain ⟨rfl, p⟩ := q
    obtain ⟨a, dx, fvs, h1, h2, _⟩ := obj_of so r e
    exact ⟨a, dx, fvs, h1, h2, p⟩
  · exact q.elim
variable {e o fe : Expr} {es : List Expr} {Fa Fo : FE} {A : FA} {pos pp apos : Pos} {x : Str}
/-- - of an instance -/
def fNegO (cc : Nat) (D : FD) (Fa : FE) : FE := fun τ s Q E => Fa τ s (fun x s1 => kObj cc s1 x (cM D [x] s1 Q E)) E
theorem mon_negO (ma : MonE Fa) : MonE (fNegO cc D Fa) := fun τ s Q Q' E E' hq he h => ma _ _ _ _ _ _ (fun x s1 h1 => h1.mon fun q => q.mon hq he) he h
def tUnW (C : Addr) (sp : Sp) (W : WX) (ta : TE) : TE := fun σ H Q => ta σ H fun x H1 => ∃ a dx fs, x = .ref a ∧ H1 a = some (.ins C dx fs) ∧ sp [.ref a] H1 Q (fun c d H' => W c d σ H')
theorem je_negO (tk : Takes X W) (d : MetM X.prog X.w X.K X.mg X.base cl k cc "__neg__" D []) (hr : Rm j X.A) (hk : k ≤ j) (ha : JE X cl W e Fa) : JE X cl W (.UnaryOp .USub e pos) (fNegO cc D Fa) := by
  obtain ⟨dvs, d, hd⟩ := d.ex
  obtain rfl := no_dvs hd
  refine ⟨mon_negO ha.mon, ⟨fun pins sh σ H Q I h => ?_⟩⟩
  obtain ⟨Z, τ, s, re, so, h⟩ := h
  have h' : tT X.K cl W Fa σ H fun x H1 => ∃ a dx fs, x = .ref a ∧ H1 a = some (.ins (cl cc) dx fs) ∧ spM X.K cl D [.ref a] H1 Q (fun c d H' => W c d σ H') := by
    refine go ha.mon re so h (fun tx s1 x H1 p1 f1 re1 r1 so1 => ?_) fun _ _ q => q
    obtain ⟨a, dx, fvs, rfl, h2, p⟩ := p1.get so1 r1
    exact ⟨a, dx, fvs, rfl, h2, Z, [tx], s1, .cons r1 .nil, so1, p.mon (fun _ _ q => post.up f1 q) fun _ _ q => postX.up f1 q⟩
  refine wpAny_UnaryOp (thn (ha.pe.run pins sh σ H _ I h') ?_)
  rintro u s1 ⟨y, H1, I1, ry, a, dx, fs, rfl, ea, q⟩
  cases ry
  obtain ⟨f, fd, ps, ds, hc, me, F, bd, dv⟩ := d.ex
  obtain ⟨mA, J, _⟩ := ins_get I1.hok ea
  obtain ⟨od, J, _⟩ := J.look
  obtain ⟨mm, hF⟩ := I1.fr
  refine PySem.W.ksp_neg hF I1.ok.mod.kin J me.at_ me.fn ?_
  exact runG (us := [.ref a]) (vs := [.ref a]) F (hr.mono hk) bd dv (pass_tk tk) I1 (.cons rfl .nil) q
end
end Mr

/-! The mirror layer: instances that are called, static methods, properties. -/
namespace Mr
open PySem PySem.Spec PyProof.Rows L2 Tw
section
variable {X : Cx} {cl : CL} {W : WX} {k j cc : Nat} {D : FD} {m : Str} {C : Addr} {sp : Sp}
variable {e o fe : Expr} {es : List Expr} {Fa Fo : FE} {A : FA} {pos pp apos : Pos} {x : Str} {tf : TE} {t : TA}
/-- f(e, ..), f an instance -/
def fOwnC (cc : Nat) (D : FD) (Fa : FE) (A : FA) : FE := fun τ s Q E => Fa τ s (fun x s1 => kObj cc s1 x (A τ s1 (fun ts s2 => kObj cc s2 x (cM D (x :: ts) s2 Q E)) E)) E
theorem mon_ownC (ma : MonE Fa) (mb : MonA A) : MonE (fOwnC cc D Fa A) := fun τ s Q Q' E E' hq he h => ma _ _ _ _ _ _ (fun x s1 h1 => h1.mon fun q => mb _ _ _ _ _ _ (fun ts s2 h2 => h2.mon fun q => q.mon hq he) he q) he h
theorem ownC_go {σ : L2.St} {H : Hp} {Q : VK} (ma : MonE Fa) (mb : MonA A) (h : tT X.K cl W (fOwnC cc D Fa A) σ H Q) :
    tT X.K cl W Fa σ H fun y H1 => ∃ a, y = .ref a ∧ tTA X.K cl W A σ H1 fun vs H2 => (∃ dx fs, H2 a = some (.ins (cl cc) dx fs)) ∧ spM X.K cl D (.ref a :: vs) H2 Q (fun c d H' => W c d σ H') := by
  obtain ⟨Z, τ, s, re, so, h⟩ := h
  refine go ma re so h (fun tx s1 x H1 p1 f1 re1 r1 so1 => ?_) fun _ _ q => q
  obtain ⟨a, dx, fvs, rfl, h2, p⟩ := p1.get so1 r1
  refine ⟨a, rfl, goA mb re1 so1 p (fun ts s2 vs H2 p2 f2 re2 r2 so2 => ?_) fun _ _ q => postW.up f1 q⟩
  have r1' := r1.fut f2
  obtain ⟨a', dx2, fvs2, e2, h3, p3⟩ := p2.get so2 r1'
  cases e2
  exact ⟨⟨dx2, fvs2, h3⟩, Z, tx :: ts, s2, .cons r1' r2, so2, p3.mon (fun _ _ q => post.up (f1.trans f2) q) fun _ _ q => postX.up (f1.trans f2) q⟩
theorem goOwnW {pins : List (Addr × Obj)} {σ : L2.St} {H : Hp} {s : Shared} {Q : VK} {a : Addr} {us : List Value} {vs : List V} (tk : Takes X W) (c : Met X.prog X.w X.K X.mg X.base k C "__call__" sp []) (fi : ∀ f, PySem.W.findIn X.K (.ref C) "__call__" = some (some (.ref f)) → PySem.W.fnIn X.K f = true)
    (hr : Rm j X.A) (hk : k ≤ j) (I : Inv X pins σ H s) (hi : ∃ dx fs, H a = some (.ins C dx fs)) (r : Vals vs us) (h : sp (.ref a :: vs) H Q (fun c d H' => W c d σ H')) : wpAny (model X.prog X.w) X.A (call (.ref a) us) (EP X pins σ Q) X.xe s := by
  obtain ⟨f, fd, ps, ds, hc, me, F, bd, dv⟩ := c.ex
  obtain ⟨dx, fs, ha⟩ := hi
  obtain ⟨mA, J, _⟩ := ins_get I.hok ha
  obtain ⟨od, J, _⟩ := J.look
  have r2 : Vals (.ref a :: vs) (.ref a :: us) := Paired.cons rfl r
  have dn : ds = [] := by cases dv; rfl
  subst dn
  have hl : (Value.ref a :: us ++ []).length = ps.length := by
    rw [List.append_nil]
    exact r2.length.symm.trans (F.len _ _ _ _ h)
  have b2 := bd s (.ref a :: us) I.kIn hl
  rw [List.append_nil] at b2
  refine wpAny_call (PySem.W.kco_code I.kIn J rfl me.at_ me.fn (fi f me.at_) (codeAny_mono (F.run X.A X.stack s H ⟨.ref a :: us, []⟩ (.ref a :: us) (.ref a :: vs) Q _ (hr.mono hk) I.env0 b2 r2 h) ?_))
  intro res s' z
  match res, z with
  | .error e, z => exact pass_tk tk H s e s' I z
  | .ok (.ret u), z => exact I.after z
  | .ok .next, z => exact False.elim z
  | .ok .brk, z => exact False.elim z
  | .ok .cont, z => exact False.elim z
theorem je_ownN (tk : Takes X W) (d : MetM X.prog X.w X.K X.mg X.base cl k cc "__call__" D []) (fi : ∀ f, PySem.W.findIn X.K (.ref (cl cc)) "__call__" = some (some (.ref f)) → PySem.W.fnIn X.K f = true) (hr : Rm j X.A) (hk : k ≤ j) (hf : JE X cl W (.Name x pp) Fa) (ha : JA X cl W (e :: es) A)
    (he : starEach (e :: es) X.env = (false, eval e X.env) :: starEach es X.env := by rfl) (hpl : (backTo pos (starEach es X.env)).any (·.1) = false := by rfl) : JE X cl W (.Call (.Name x pp) (e :: es) [] pos) (fOwnC cc D Fa A) := by
  obtain ⟨dvs, d, hd⟩ := d.ex
  obtain rfl := no_dvs hd
  refine ⟨mon_ownC hf.mon ha.mon, ⟨fun pins s σ H Q I h => ?_⟩⟩
  refine wpAny_Call_Name_kw (thn (hf.pe.run pins s σ H _ I (ownC_go hf.mon ha.mon h)) ?_)
  rintro u s1 ⟨y, H1, I1, ry, a, rfl, q⟩
  cases ry
  refine StX.callO_with (thn (ha.pa.run pos pins s1 σ H1 _ I1 q) ?_) he hpl
  rintro us s2 ⟨vs, H2, I2, r, hi, q2⟩
  obtain ⟨dx, fs, hh⟩ := id hi
  obtain ⟨mA, J, _⟩ := ins_get I2.hok hh
  obtain ⟨od, J, _⟩ := J.look
  exact ⟨⟨_, _, _, J, rfl⟩, goOwnW tk d fi hr hk I2 hi r q2⟩
theorem je_ownE (tk : Takes X W) (d : MetM X.prog X.w X.K X.mg X.base cl k cc "__call__" D []) (fi : ∀ f, PySem.W.findIn X.K (.ref (cl cc)) "__call__" = some (some (.ref f)) → PySem.W.fnIn X.K f = true) (hr : Rm j X.A) (hk : k ≤ j) (hf : JE X cl W fe Fa) (ha : JA X cl W (e :: es) A)
    (ht : eval (.Call fe (e :: es) [] pos) X.env = (do callWith pos (← eval fe X.env) [] (backTo pos (starEach (e :: es) X.env)) (backToKw pos (keywordEach [] X.env))) := by rfl)
    (he : starEach (e :: es) X.env = (false, eval e X.env) :: starEach es X.env := by rfl) (hpl : (backTo pos (starEach es X.env)).any (·.1) = false := by rfl) : JE X cl W (.Call fe (e :: es) [] pos) (fOwnC cc D Fa A) := by
  obtain ⟨dvs, d, hd⟩ := d.ex
  obtain rfl := no_dvs hd
  refine ⟨mon_ownC hf.mon ha.mon, ⟨fun pins s σ H Q I h => ?_⟩⟩
  refine Call_ (thn (hf.pe.run pins s σ H _ I (ownC_go hf.mon ha.mon h)) ?_) ht
  rintro u s1 ⟨y, H1, I1, ry, a, rfl, q⟩
  cases ry
  refine StX.callO_with (thn (ha.pa.run pos pins s1 σ H1 _ I1 q) ?_) he hpl
  rintro us s2 ⟨vs, H2, I2, r, hi, q2⟩
  obtain ⟨dx, fs, hh⟩ := id hi
  obtain ⟨mA, J, _⟩ := ins_get I2.hok hh
  obtain ⟨od, J, _⟩ := J.look
  exact ⟨⟨_, _, _, J, rfl⟩, goOwnW tk d fi hr hk I2 hi r q2⟩
/-! ### static methods -/
structure StaM (P : Program) (w : World) (K : PySem.W.Frag) (mg : Str → Option Value) (base : Heap) (cl : CL) (k : Nat) (c : Nat) (m : Str) (F : FD) (dts : List T) : Prop where
  ex : ∃ dvs, Sta P w K mg base k (cl c) m (spM K cl F) dvs ∧ ∀ Z s H, Reps K cl Z s H dvs dts
theorem je_sta {c : Nat} {dts : List T} {pl : Sem Bool} (tk : Takes X W) (d : StaM X.prog X.w X.K X.mg X.base cl k c m D dts) (hr : Rm j X.A) (hk : k ≤ j) (hg : Gl X x) (hm : X.mg x = some (.ref (cl c))) (ha : JA X cl W (e :: es) A) (hdb : (x == ("__debug__" : Str)) = false := by decide)
    (hst : starEach (e :: es) X.env = (false, eval e X.env) :: starEach es X.env := by rfl) (hpl : (backTo pos (starEach es X.env)).any (·.1) = false := by rfl)
    (ht : eval (.Call (.Attribute (.Name x pp) m apos) (e :: es) [] pos) X.env = (do
      let ov ← eval (.Name x pp) X.env
      standAt apos.atName
      let (g, first) ← holding [ov] (getMethod ov m pl)
      callWith pos g first (backTo pos (starEach (e :: es) X.env)) (backToKw pos (keywordEach [] X.env))) := by rfl) : JE X cl W (.Call (.Attribute (.Name x pp) m apos) (e :: es) [] pos) (fCall D dts A) := by
  obtain ⟨dvs, d, hd⟩ := d.ex
  refine ⟨mon_call ha.mon, PE.imp (pe_smW (pl := pl) tk d hr hk (C8.pe_gc (v := .ref (cl c)) hg ⟨_, hm, rfl⟩ hdb) ha.pa hst hpl ht) ?_⟩
  rintro σ H Q ⟨Z, τ, s, re, so, h⟩
  exact ⟨rfl, goA ha.mon re so h (fun ts s1 vs H1 p1 f1 re1 r1 so1 => sp_of f1 r1 hd so1 p1) fun _ _ q => q⟩
/-! ### properties -/
structure ProM (P : Program) (w : World) (K : PySem.W.Frag) (mg : Str → Option Value) (base : Heap) (cl : CL) (k : Nat) (c : Nat) (f : Str) (F : FD) : Prop where
  ex : ∃ (p g : Addr) (fd : FuncData) (ps : List Str), Cls K (cl c) ∧ PropOf K (cl c) f p g ∧ FnG P w K mg base k g fd ps (spM K cl F) ∧ Binds K fd ps []
def fPro (cc : Nat) (D : FD) (Fa : FE) : FE := fun τ s Q E => Fa τ s (fun x s1 => kObj cc s1 x (cM D [x] s1 Q noX)) E
theorem mon_pro (ma : MonE Fa) : MonE (fPro cc D Fa) := fun τ s Q Q' E E' hq he h => ma _ _ _ _ _ _ (fun x s1 h1 => h1.mon fun q => q.mon hq fun _ _ z => z) he h
theorem je_pro {f : Str} (d : ProM X.prog X.w X.K X.mg X.base cl k cc f D) (hr : Rm (j + 1) X.A) (hk : k ≤ j) (he : JE X cl W e Fa) (hab : attributeBase e f X.env (eval e X.env) = eval e X.env := by rfl) : JE X cl W (.Attribute e f pos) (fPro cc D Fa) := by
  refine ⟨mon_pro he.mon, ⟨fun pins sh σ H Q I h => ?_⟩⟩
  obtain ⟨Z, τ, s, re, so, h⟩ := h
  obtain ⟨p, g, fd, ps, hc, hp, F, hb⟩ := d.ex
  have h' : tT X.K cl W Fa σ H fun x H1 => ∃ a dx fs, x = .ref a ∧ H1 a = some (.ins (cl cc) dx fs) ∧ spM X.K cl D [.ref a] H1 Q E0 := by
    refine go he.mon re so h (fun tx s1 x H1 p1 f1 re1 r1 so1 => ?_) fun _ _ q => q
    obtain ⟨a, dx, fvs, rfl, h2, p⟩ := p1.get so1 r1
    exact ⟨a, dx, fvs, rfl, h2, Z, [tx], s1, .cons r1 .nil, so1, p.mon (fun _ _ q => post.up f1 q) fun _ _ q => noX_post q⟩
  refine attr_of hab (thn (he.pe.run pins sh σ H _ I h') ?_)
  rintro u s1 ⟨y, H1, I1, ry, a, dx, fs, rfl, ea, q⟩
  cases ry
  obtain ⟨mA, O, _⟩ := ins_get I1.hok ea
  obtain ⟨od, J, _⟩ := O.look
  obtain ⟨rest, hrec⟩ := hp.rec_
  have I2 := I1.tok (s1.toks + 1)
  have hl : [Value.ref a].length = ps.length := F.len _ _ _ _ q
  have hcs : (PySem.W.clsIn X.K (cl cc)).isSome = true := by
    obtain ⟨cd, h1, _⟩ := PySem.W.any_some hc.hd
    rw [h1]
    rfl
  have b2 := hb { s1 with toks := s1.toks + 1 } [.ref a] I2.kIn hl
  rw [List.append_nil] at b2
  refine PySem.W.get_bind I1.kIn J (PySem.W.plainGet_of (hc.get f)).1 (PySem.W.findObj_data hcs hp.at_ hp.get hp.tak) (PySem.W.plainGet_of (hc.get f)).2 (wpAny_call (PySem.W.prop_get (s := { s1 with toks := s1.toks + 1 }) I1.kIn hrec ?_))
  refine codeAny_mono (F.run X.A.in1 X.stack { s1 with toks := s1.toks + 1 } H1 ⟨[.ref a], []⟩ [.ref a] [.ref a] Q _ ((hr.in1).mono hk) I2.env0.in1 b2 (.cons rfl .nil) q) fun r s' hq => ?_
  cases r with
  | error er => exact False.elim (passL (X := X.nox) pins σ H1 { s1 with toks := s1.toks + 1 } er s' (I2.wish _) hq)
  | ok fl =>
    cases fl with
    | ret u =>
      obtain ⟨v, H', I3, rv, q3⟩ := I2.after hq
      show wpAny _ _ (handedOut u) _ _ _
      rw [PySem.W.handedOut_of (handed_of rv)]
      exact wpAny_pure ⟨v, H', I3, rv, q3⟩
    | next => exact False.elim hq
    | brk => exact False.elim hq
    | cont => exact False.elim hq
end
section
variable {P : Program} {w : World} {K : PySem.W.Frag} {mg : Str → Option Value} {base : Heap} {cl : CL} {k c : Nat} {m qual : Str} {st : Stmt} {ps : List Str} {dvs : List V} {dts : List T} {D : FD}
theorem staOf (d : StaAt K (cl c) m qual st ps dvs) (hd : ∀ Z s H, Reps K cl Z s H dvs dts) (fn : ∀ {y : Str} {f : Addr} {fd : FuncData}, C8.Fun K y qual st f fd → FnG P w K mg base k f fd ps (spM K cl D)) : StaM P w K mg base cl k c m D dts := by
  obtain ⟨mc, p, g, fd, ds, S, F, b, v⟩ := d.ex
  exact ⟨dvs, ⟨mc, p, g, fd, ps, ds, S, fn F, b, v⟩, hd⟩
structure ProAt (K : PySem.W.Frag) (C : Addr) (m qual : Str) (st : Stmt) (ps : List Str) : Prop where
  ex : ∃ (p g : Addr) (fd : FuncData), Cls K C ∧ PropOf K C m p g ∧ C8.Fun K m qual st g fd ∧ Binds K fd ps []
theorem proOf (d : ProAt K (cl c) m qual st ps) (fn : ∀ {y : Str} {f : Addr} {fd : FuncData}, C8.Fun K y qual st f fd → FnG P w K mg base k f fd ps (spM K cl D)) : ProM P w K mg base cl k c m D := by
  obtain ⟨p, g, fd, C, S, F, b⟩ := d.ex
  exact ⟨p, g, fd, ps, C, S, fn F, b⟩
end
end Mr

/-! The mirror layer: dicts of the module, with texts as keys. -/
namespace Mr
open PySem PySem.Spec PyProof.Rows L2 Tw
/-- the entries, as a table of trees -/
inductive EntT (K : PySem.W.Frag) (cl : CL) : List DictEntry → List (Str × T) → Prop
  | nil : EntT K cl [] []
  | cons {en : DictEntry} {z : Str} {t : T} {es : List DictEntry} {tab : List (Str × T)} : (∃ tk, en.key = .str z tk) → (∃ v, RelV v en.val ∧ ∀ Z s H, Rep K cl Z s H v t) → EntT K cl es tab → EntT K cl (en :: es) ((z, t) :: tab)
structure KDt (K : PySem.W.Frag) (w : World) (cl : CL) (d : Addr) (tab : List (Str × T)) : Prop where
  ex : ∃ es n, KDict K w d es n ∧ EntT K cl es.toList tab
section
variable {K : PySem.W.Frag} {cl : CL} {w : World} {d : Addr} {tab : List (Str × T)}
theorem EntT.find : ∀ {es : List DictEntry} {tab : List (Str × T)} (z : Str), EntT K cl es tab →
    match tab.lookup z with
    | some t => ∃ en, es.find? (·.key.isStr z) = some en ∧ ∃ v, RelV v en.val ∧ ∀ Z s H, Rep K cl Z s H v t
    | none => es.find? (·.key.isStr z) = none ∧ es.any (·.refKey) = false
  | _, _, z, .nil => ⟨rfl, rfl⟩
  | _, _, z, .cons (en := en) (z := y) (t := t) (es := es) (tab := tab) ⟨tk, ek⟩ hv r => by
    have ih := EntT.find z r
    have e1 : en.key.isStr z = (y == z) := by rw [ek]; rfl
    have e2 : en.refKey = false := by unfold DictEntry.refKey; rw [ek]
    rw [List.lookup_cons]
    by_cases q : z = y
    · subst q
      rw [beq_self_eq_true]
      refine ⟨en, ?_, hv⟩
      rw [List.find?_cons, e1, beq_self_eq_true]
    · have n1 : (z == y) = false := beq_eq_false_iff_ne.mpr q
      have n2 : (y == z) = false := beq_eq_false_iff_ne.mpr (Ne.symm q)
      rw [n1]
      show (match tab.lookup z with | some t => _ | none => _)
      split
      · rename_i t' e
        rw [e] at ih
        obtain ⟨en', h1, h2⟩ := ih
        exact ⟨en', by rw [List.find?_cons, e1, n2]; exact h1, h2⟩
      · rename_i e
        rw [e] at ih
        exact ⟨by rw [List.find?_cons, e1, n2]; exact ih.1, by rw [List.any_cons, e2, ih.2]; rfl⟩
theorem KDt.ns (D : KDt K w cl d tab) (z : Str) : match tab.lookup z with
    | some t => ∃ u v, PySem.W.nsIn K d z = some (some u) ∧ RelV v u ∧ ∀ Z s H, Rep K cl Z s H v t
    | none => PySem.W.nsIn K d z = some none := by
  obtain ⟨es, n, D, E⟩ := D.ex
  have h := E.find z
  split
  · rename_i t e
    rw [e] at h
    obtain ⟨en, h1, v, h2, h3⟩ := h
    refine ⟨en.val, v, ?_, h2, h3⟩
    unfold PySem.W.nsIn
    rw [D.at_]
    show (match es.toList.find? _ with | some e => _ | none => _) = _
    rw [h1]
  · rename_i e
    rw [e] at h
    unfold PySem.W.nsIn
    rw [D.at_]
    show (match es.toList.find? _ with | some e => _ | none => _) = _
    rw [h.1]
    show (if es.toList.any _ = true then _ else _) = _
    rw [h.2]
    rfl
theorem KDt.is (D : KDt K w cl d tab) (z : Str) : ∃ r : Option Value, PySem.W.nsIn K d z = some r ∧ r.isSome = (tab.lookup z).isSome := by
  have h := D.ns z
  split at h
  · rename_i t e
    obtain ⟨u, v, h1, _⟩ := h
    exact ⟨_, h1, by rw [e]; rfl⟩
  · rename_i e
    exact ⟨_, h, by rw [e]; rfl⟩
theorem EntT.get : ∀ {es : List DictEntry} {tab : List (Str × T)} (i : Nat) {t : T}, EntT K cl es tab → (tab.map fun p => T.str p.1)[i]? = some t → ∃ en z tk, es[i]? = some en ∧ en.key = .str z tk ∧ t = .str z
  | _, _, i, t, .nil, e => by simp at e
  | _, _, 0, t, .cons ⟨tk, ek⟩ _ _, e => by
    simp only [List.map_cons, List.getElem?_cons_zero, Option.some.injEq] at e
    exact ⟨_, _, tk, rfl, ek, e.symm⟩
  | _, _, i + 1, t, .cons _ _ r, e => by
    simp only [List.map_cons, List.getElem?_cons_succ] at e
    exact r.get i e
theorem EntT.length : ∀ {es : List DictEntry} {tab : List (Str × T)}, EntT K cl es tab → es.length = tab.length
  | _, _, .nil => rfl
  | _, _, .cons _ _ r => congrArg (· + 1) r.length
end
section
variable {X : Cx} {cl : CL} {W : WX} {d : Addr} {tab : List (Str × T)} {tg e a b : Expr} {Fa Fb : FE} {pos : Pos}
/-- z in d, z not in d -/
def gInK (neg : Bool) (d : Addr) (tab : List (Str × T)) : S → T → T → KT → KX → Prop := fun s x y Q _ => match x, y with | .str z, .cell c => c = d ∧ Q (.bl (xor neg (tab.lookup z).isSome)) s | _, _ => False
theorem mon_inK {neg : Bool} : Mon2 (gInK neg d tab) := by
  intro s x y Q Q' E E' hq he h
  unfold gInK at h ⊢
  split at h
  · exact ⟨h.1, hq _ _ h.2⟩
  · exact h
theorem rep_cell {K : PySem.W.Frag} {Z : Addr → Prop} {s : S} {H : Hp} {v : V} {c : Addr} (r : Rep K cl Z s H v (.cell c)) : v = .ref c := by cases r; rfl
theorem o_inK (D : KDt X.K X.w cl d tab) : Mr.OpT X cl W (compareOp .In) (gInK false d tab) := by
  obtain ⟨es, n, D0, _⟩ := D.ex
  refine Mr.OpT.of mon_inK (op_in_kd D0) fun Z H x y Q s tx ty E px py so q => ?_
  unfold gInK at q
  split at q
  · rename_i z c
    obtain ⟨rfl, q⟩ := q
    obtain ⟨r, h1, h2⟩ := D.is z
    rw [Bool.false_xor] at q
    exact ⟨z, r, rep_s px, rep_cell py, h1, by rw [h2]; exact q.here (.bl _) so⟩
  · exact q.elim
theorem o_ninK (D : KDt X.K X.w cl d tab) : Mr.OpT X cl W (compareOp .NotIn) (gInK true d tab) := by
  obtain ⟨es, n, D0, _⟩ := D.ex
  refine Mr.OpT.of mon_inK (op_notIn_kd D0) fun Z H x y Q s tx ty E px py so q => ?_
  unfold gInK at q
  split at q
  · rename_i z c
    obtain ⟨rfl, q⟩ := q
    obtain ⟨r, h1, h2⟩ := D.is z
    rw [Bool.true_xor] at q
    exact ⟨z, r, rep_s px, rep_cell py, h1, by rw [h2]; exact q.here (.bl _) so⟩
  · exact q.elim
/-- d[z], z a key -/
def gIxK (d : Addr) (tab : List (Str × T)) : S → T → T → KT → KX → Prop := fun s x y Q _ => match x, y with | .cell c, .str z => c = d ∧ (match tab.lookup z with | some t => Q t s | none => False) | _, _ => False
theorem je_ixK (D : KDt X.K X.w cl d tab) (ha : JE X cl W a Fa) (hb : JE X cl W b Fb) (hs : PlainIx b) : JE X cl W (.Subscript a b pos) (f2 (gIxK d tab) Fa Fb) := by
  have mg : Mon2 (gIxK d tab) := by
    intro s x y Q Q' E E' hq he h
    unfold gIxK at h ⊢
    split at h
    · refine ⟨h.1, ?_⟩
      have h2 := h.2
      split at h2
      · exact hq _ _ h2
      · exact h2
    · exact h
  refine ⟨mon_2 mg ha.mon hb.mon, PE.imp (pe_ix ix_kdict ha.pe hb.pe hs) ?_⟩
  rintro σ H Q ⟨Z, τ, s, re, so, h⟩
  refine go ha.mon re so h (fun tx s1 x H1 p1 f1 re1 r1 so1 => ?_) fun _ _ q => q
  refine go hb.mon re1 so1 p1 (fun ty s2 y H2 p2 f2 re2 r2 so2 => ?_) fun _ _ q => postW.up f1 q
  unfold gIxK at p2
  split at p2
  · rename_i c z
    obtain ⟨rfl, q⟩ := p2
    have hn := D.ns z
    split at q
    · rename_i t e
      rw [e] at hn
      obtain ⟨u, v, h1, h2, h3⟩ := hn
      obtain ⟨es, n, D0, _⟩ := D.ex
      exact ⟨c, z, v, rep_cell r1, rep_s r2, ⟨es, n, u, D0.at_, D0.lit, h1, h2⟩, (post.up (f1.trans f2) q).here (h3 _ _ _) so2⟩
    · exact q.elim
  · exact p2.elim
/-- the keys, in their order -/
def ItK (tab : List (Str × T)) : It := ⟨fun i _ => i < tab.length, fun i H x H' => H' = H ∧ ∃ p, tab[i]? = some p ∧ x = .str p.1, fun i _ => tab.length ≤ i⟩
theorem turnK {P : Program} {w : World} {K : PySem.W.Frag} {es : Array DictEntry} {n : Nat} (it : Addr) (D : KDict K w d es n) (E : EntT K cl es.toList tab) : Turn P w K tg (ItK tab) [it] it (fun i h => h.IsKeyIter it d i tab.length n) := by
  have hz : es.size = tab.length := by rw [← E.length]; exact Array.length_toList.symm
  refine ⟨by simp, fun i h st b hb => ?_, fun i h h' st k => st.at fun oi e => k it (by simp) oi e, ?_, ?_, fun A i s Q E st h => wpAny_pyIter_keyiter st h⟩
  · have e : b = it := by simpa using hb
    subst e
    obtain ⟨oi, e, c, dd⟩ := st
    exact ⟨oi, e, fun v z => by rw [dd] at z; cases z⟩
  · intro X hP hw hK hc i pins s σ H E' I hf st hg
    subst hP hw hK
    obtain ⟨f0, f1, f2, f3, f4, f5⟩ := hf it (by simp)
    obtain ⟨⟨z, t⟩, hp⟩ : ∃ p, tab[i]? = some p := ⟨tab[i]'hg, List.getElem?_eq_getElem hg⟩
    obtain ⟨en, z', tk, h1, h2, h3⟩ := E.get (t := .str z) i (by rw [List.getElem?_map, hp]; rfl)
    cases h3
    have h1' : es[i]? = some en := by rw [← Array.getElem?_toList]; exact h1
    refine next_key_item st (I.kIn _ _ D.at_) rfl hz h1' fun h' st' sb => ?_
    have I1 : Inv X pins σ H { s with heap := h' } := I.turned (t' := s.toks) (fun b ob hb e => (sb.2 b hb).trans e) f0 f1 f3 f4 f5
    obtain ⟨oi, e, c, dd⟩ := id st'
    exact ⟨en.key, rfl, go_of (s := { s with heap := h' }) e c dd (by decide) ⟨.str z, H, I1, ⟨tk, h2⟩, ⟨rfl, _, hp, rfl⟩, st', fun b hb => (hf b hb).1⟩⟩
  · intro X hP hw hK hc i pins s σ H E' I hf st hg
    subst hP hw hK
    obtain ⟨f0, f1, f2, f3, f4, f5⟩ := hf it (by simp)
    exact next_key_end (I.ok.hd hc) st (I.kIn _ _ D.at_) rfl hz hg fun h' eb => ⟨rfl, I.turned (t' := s.toks) (fun b ob hb e => eb b ob hb e) f0 f1 f3 f4 f5⟩
def iKeyK (d : Addr) (tab : List (Str × T)) (Fa : FE) : FI := fun τ s Q E => Fa τ s (fun x s1 => match x with | .cell c => c = d ∧ Q (tab.map fun p => .str p.1) (fun _ => True) s1 | _ => False) E
theorem ji_keysK (D : KDt X.K X.w cl d tab) (ha : JE X cl W e Fa) : JI X cl W tg e (iKeyK d tab Fa) := by
  refine ⟨fun τ s Q Q' E E' hq he h => ha.mon _ _ _ _ _ _ (fun x s1 h1 => ?_) he h, ⟨fun pins sh σ H R I h => ?_⟩⟩
  · split at h1
    · exact ⟨h1.1, hq _ _ _ h1.2⟩
    · exact h1
  obtain ⟨Z, τ, s, re, so, h⟩ := h
  obtain ⟨es, n, D0, E⟩ := D.ex
  have hz : es.size = tab.length := by rw [← E.length]; exact Array.length_toList.symm
  have h' : tT X.K cl W Fa σ H fun x H1 => x = .ref d ∧ R (ItK tab) H1 := by
    refine go ha.mon re so h (fun tx s1 x H1 p1 f1 re1 r1 so1 => ?_) fun _ _ q => q
    split at p1
    · obtain ⟨rfl, q⟩ := p1
      refine ⟨rep_cell r1, q _ _ f1 so1 ⟨fun Z' s2 H2 i t f zz ok so2 e => ?_, fun Z' s2 H2 i f zz ok so2 e => ?_⟩⟩
      · have hi : i < tab.length := by
          have := (List.getElem?_eq_some_iff.mp e).1
          rwa [List.length_map] at this
        refine ⟨hi, ?_⟩
        rintro y H' ⟨rfl, p, hp, rfl⟩
        rw [List.getElem?_map, hp] at e
        cases e
        exact ⟨Fut.refl _ _, so2, .str _⟩
      · rw [List.length_map] at e
        exact e
    · exact p1.elim
  refine thn (ha.pe.run pins sh σ H _ I h') fun u s1 ⟨x, H1, I1, rx, ex, q⟩ => ?_
  subst ex
  obtain rfl : u = Value.ref d := rx
  refine iter_keys D0.low (I1.kIn _ _ D0.at_) ⟨rfl, rfl, rfl⟩ rfl (pi_one (tk := s1.toks) I1 _ (turnK _ D0 E) ⟨_, Heap.get?_push_size _ rfl, rfl, ?_⟩ q)
  rw [hz] <;> rfl
end
section
variable {X : Cx} {cl : CL} {W : WX} {k : Nat} {pos : Pos} {x : Str} {t : T}
/-- a constant of the module, as a tree -/
theorem je_globR (hg : Gl X x) (h : ∃ u v, X.mg x = some u ∧ RelV v u ∧ ∀ Z s H, Rep X.K cl Z s H v t) (hd : (x == ("__debug__" : Str)) = false := by decide) : JE X cl W (.Name x pos) (fC t) := by
  obtain ⟨u, v, h1, h2, h3⟩ := h
  exact je_glob hg ⟨u, h1, h2⟩ h3 hd
/-- as eqO, and lists of one empty dict -/
def eqE : O2
  | _, .lst [.dct []], .lst [.dct []] => some (True, .bl true)
  | s, x, y => eqO s x y
theorem o_eqE (hr : Rm k X.A) : Mr.OpT X cl W (compareOp .Eq) (g2 eqE) := by
  have h0 : Mr.OpT X cl W (compareOp .Eq) (g2 eqO) := o_eq hr
  refine ⟨mon_g2 _, fun Z pins sh σ H x y v u Q s tx ty I rx ry px py so q => ?_⟩
  unfold g2 eqE at q
  split at q
  · rename_i c t e
    split at e
    · cases e
      cases px with
      | lst h1 n1 r1 =>
        cases py with
        | lst h2 n2 r2 =>
          obtain ⟨v1, rfl, w1⟩ := reps1 r1
          obtain ⟨v2, rfl, w2⟩ := reps1 r2
          cases w1 with
          | dct k1 _ q1 =>
            cases w2 with
            | dct k2 _ q2 =>
              cases q1
              cases q2
              refine op_eqV hr.u pins sh σ H _ _ v u Q I rx ry ⟨1, by decide, .inl ⟨_, _, _, _, rfl, rfl, SqL.of h1, SqL.of h2, ?_⟩, q.2.here (.bl _) so⟩
              exact .cons (.inr (.inr (.inr ⟨_, _, [], [], rfl, rfl, k1, k2, rfl, fun p hp => by cases hp⟩))) .nil
    · exact h0.run Z pins sh σ H x y v u Q s tx ty I rx ry px py so (by unfold g2; rw [e]; exact q)
  · exact q.elim
end
theorem rows_madeC : True := by
  have := @Mr.gOwn2.eq_1
  have := @Mr.gOwnI.eq_1
  have := @Mr.gOwnR.eq_1
  have := @Mr.kObj.eq_1
  have := @Mr.fNegO.eq_1
  have := @Mr.fOwnC.eq_1
  have := @Mr.fPro.eq_1
  have := @Mr.gInK.eq_1
  have := @Mr.gIxK.eq_1
  have := @Mr.iKeyK.eq_1
  trivial
end Mr

/-! The mirror layer: str of a list. -/
namespace Mr
open PySem PySem.Spec PyProof.Rows L2 Tw
section
variable {X : Cx} {cl : CL} {j : Nat}
theorem call_strD (hr : Rm j X.A) : CallR X (.type "str") (fun xs H Q => ∃ (p : Addr) (d : PyData), xs = [.ref p] ∧ Dp X.K H (.ref p) d ∧ d.showable = true ∧ d.depth ≤ 60 ∧ d.shown.length ≤ sizeLine ∧ Q (.str d.shown) H) := by
  intro pins s σ H xs us Q I r h
  obtain ⟨p, d, rfl, hd, hs, hdp, hz, q⟩ := h
  obtain ⟨u, rfl, ru⟩ := vals1 r
  have un := hr.room.units
  have nd := noDict hd
  obtain ⟨as, rd⟩ := Dp.reads I _ _ _ hd ru
  cases ru
  refine str_of_reads rd hs (fun z => by rw [nd] at z; cases z) hr.gd (by omega) (fun _ _ z => z) (fun h' u tk k => ?_) hz
  exact ⟨.str _, H, I.kept k, ⟨_, rfl⟩, q⟩
def strLO : ON
  | _, [.lst xs] => match dats xs with | some ds => some ((PyData.list ds).showable = true ∧ (PyData.list ds).depth ≤ 60 ∧ (PyData.list ds).shown.length ≤ 1000000, .str (PyData.list ds).shown) | none => none
  | _, _ => none
theorem c_strL (hr : Rm j X.A) : BC X cl (.type "str") strLO := by
  refine ⟨_, call_strD hr, fun Z H xs Q s ts c t r so e hc p => ?_⟩
  unfold strLO at e
  split at e
  · rename_i ys
    obtain ⟨v, rfl, rv⟩ := reps1 r
    split at e
    · rename_i ds e1
      cases e
      have hd := rv.sdp so (d := .list ds) (by show Option.map _ (dats ys) = _; rw [e1]; rfl)
      cases rv with
      | lst h n rs => exact ⟨_, _, rfl, hd, hc.1, hc.2.1, Nat.le_trans hc.2.2 size6, p.here (.str _) so⟩
    · cases e
  · cases e
end
section
variable {ok : S → Prop} {g : FG} {tt : FT} {te : FE} {τ : Env} {s : S} {Q : List T → S → Prop} {ts acc : List T}
/-- [f(x) for .. in ts if p(x)], any target, nothing changes -/
theorem lc_filterG (env : T → Env) (p : T → Bool) (f : T → T) (hg : ∀ t ∈ ts, ∀ Q : Env → S → Prop, Q (env t) s → g t τ s Q) (hp : ∀ t ∈ ts, ∀ Q : Bool → S → Prop, Q (p t) s → tt (env t) s Q noX) (h : ∀ t ∈ ts, p t = true → ∀ Q : KT, Q (f t) s → te (env t) s Q noX)
    (hl : acc.length + ts.length ≤ 1000000) (k : Q (acc ++ (ts.filter p).map f) s) (ho : ok s) : lcT ok g tt te τ ts acc s Q := by
  induction ts generalizing acc with
  | nil => exact ⟨ho, by simpa using k⟩
  | cons t ts ih =>
    rw [List.length_cons] at hl
    refine ⟨ho, by omega, hg t List.mem_cons_self _ ?_⟩
    refine hp t List.mem_cons_self _ ?_
    by_cases c : p t = true
    · rw [c]
      refine w_T (h t List.mem_cons_self c _ ?_)
      refine ih (fun t ht => hg t (List.mem_cons_of_mem _ ht)) (fun t ht => hp t (List.mem_cons_of_mem _ ht)) (fun t ht => h t (List.mem_cons_of_mem _ ht)) (by simp; omega) ?_
      simpa [List.filter_cons, c] using k
    · rw [Bool.not_eq_true] at c
      rw [c]
      refine w_F (ih (fun t ht => hg t (List.mem_cons_of_mem _ ht)) (fun t ht => hp t (List.mem_cons_of_mem _ ht)) (fun t ht => h t (List.mem_cons_of_mem _ ht)) (by omega) ?_)
      simpa [List.filter_cons, c] using k
end
end Mr

namespace Mr
open PySem PySem.Spec PyProof.Rows L2 Tw
section
variable {X : Cx} {cl : CL} {W : WX} {e a b c o : Expr} {es : List Expr} {F Fa Fb Fc Fo : FE} {A Ak : FA} {pos p apos kpos : Pos} {x m : Str} {k j n cc : Nat} {D : FD} {ks : List Str} {kws : List Keyword} {gT : List T → List T → List T}
/-- C(e, .., k = v, ..) -/
theorem je_mkK (fz : Bool) (tk : Takes X W) (d : MakK X.prog X.w X.K X.mg X.base cl k x cc D n ks gT) (hr : Rm j X.A) (hk : k + 1 ≤ j) (hg : Gl X x) (ha : JA X cl W (e :: es) A) (hkw : JK X cl W kws Ak)
    (hall : (backToKw pos (keywordEach kws X.env)).all (·.1.isSome) = true := by rfl) (hks : (backToKw pos (keywordEach kws X.env)).filterMap (·.1) = ks := by rfl) (hdb : (x == ("__debug__" : Str)) = false := by decide)
    (he : starEach (e :: es) X.env = (false, eval e X.env) :: starEach es X.env := by rfl)
    (hpl : ((backTo pos (starEach (e :: es) X.env)).any (·.1) || (backToKw pos (keywordEach kws X.env)).any (·.1.isNone)) = false := by rfl) :
    JE X cl W (.Call (.Name x p) (e :: es) kws pos) (fMkK fz n ks.length cc D gT A Ak) := by
  obtain ⟨f, fd, ps, g, gV, rel, M, F, hm, b⟩ := d.ex
  refine ⟨fun τ s Q Q' E E' hq he h => ha.mon _ _ _ _ _ _ (fun ts s0 h0 => hkw.mon _ _ _ _ _ _ (fun us s1 h1 => ⟨h1.1, fun x hx => (h1.2 x hx).mon (fun _ _ q => q.mon hq) fun _ _ q => he _ _ q⟩) he h0) he h, ⟨fun pins sh σ H Q I h => ?_⟩⟩
  obtain ⟨Z, τ, s, re, so, h⟩ := h
  have h' : tTA X.K cl W A σ H fun vs H0 => tTA X.K cl W Ak σ H0 fun zs H1 => vs.length + 1 = n ∧ zs.length = ks.length ∧ ∀ x dx, H1 x = none → H1 dx = none → dx ≠ x → spM X.K cl D (gV (.ref x :: vs) zs) (upd (upd H1 dx (.own x)) x (.ins (cl cc) dx [])) (fun v H2 => v = .non ∧ Q (.ref x) H2) (fun cls d H' => W cls d σ H') := by
    refine goA ha.mon re so h (fun ts s0 vs H0 p0 f0 re0 r0 so0 => ?_) fun _ _ q => q
    refine goA hkw.mon re0 so0 p0 (fun us s1 zs H1 p1 f1 re1 r1 so1 => ⟨by rw [r0.length]; exact p1.1.1, by rw [r1.length]; exact p1.1.2, mkK_go rel (f0.trans f1) (r0.fut f1) r1 so1 p1.2⟩) fun _ _ q => postW.up f0 q
  refine wpAny_Call_Name_kw (ld_glob I hg hm ?_ hdb)
  refine PySem.W.callWith_KW (h₀ := X.base) I.ok.mod.kin M.kp hall (thn (ha.pa.run pos pins sh σ H _ I h') ?_) hpl he
  rintro us s1 ⟨vs, H1, I1, r, q⟩
  refine thn (hkw.pk.run pos pins s1 σ H1 _ I1 q) ?_
  rintro ws s2 ⟨zs, H2, I2, rz, l1, l2, q2⟩
  refine ⟨I2.kIn, ?_⟩
  rw [hks]
  exact makeKw M F (hr.mono hk) b (pass_tk tk) I2 r rz l1 l2 q2
/-- f(e, .., k = v, ..) -/
def fCallK (n mm : Nat) (D : FD) (gT : List T → List T → List T) (A Ak : FA) : FE := fun τ s Q E => A τ s (fun ts s1 => Ak τ s1 (fun us s2 => (ts.length = n ∧ us.length = mm) ∧ cM D (gT ts us) s2 Q E) E) E
theorem mon_callK (ma : MonA A) (mk : MonA Ak) {mm : Nat} : MonE (fCallK n mm D gT A Ak) := fun τ s Q Q' E E' hq he h => ma _ _ _ _ _ _ (fun ts s1 h1 => mk _ _ _ _ _ _ (fun us s2 h2 => ⟨h2.1, h2.2.mon hq he⟩) he h1) he h
theorem je_callK (tk : Takes X W) (d : CalK X.prog X.w X.K X.mg X.base cl k x D n ks gT) (hr : Rm j X.A) (hk : k ≤ j) (hg : Gl X x) (ha : JA X cl W (e :: es) A) (hkw : JK X cl W kws Ak)
    (hall : (backToKw pos (keywordEach kws X.env)).all (·.1.isSome) = true := by rfl) (hks : (backToKw pos (keywordEach kws X.env)).filterMap (·.1) = ks := by rfl) (hdb : (x == ("__debug__" : Str)) = false := by decide)
    (he : starEach (e :: es) X.env = (false, eval e X.env) :: starEach es X.env := by rfl)
    (hpl : ((backTo pos (starEach (e :: es) X.env)).any (·.1) || (backToKw pos (keywordEach kws X.env)).any (·.1.isNone)) = false := by rfl) :
    JE X cl W (.Call (.Name x p) (e :: es) kws pos) (fCallK n ks.length D gT A Ak) := by
  obtain ⟨f, fd, ps, g, gV, rel, F, hm, kp, b⟩ := d.ex
  refine ⟨mon_callK ha.mon hkw.mon, ⟨fun pins sh σ H Q I h => ?_⟩⟩
  obtain ⟨Z, τ, s, re, so, h⟩ := h
  have h' : tTA X.K cl W A σ H fun vs H0 => tTA X.K cl W Ak σ H0 fun zs H1 => vs.length = n ∧ zs.length = ks.length ∧ spM X.K cl D (gV vs zs) H1 Q (fun cls d H' => W cls d σ H') := by
    refine goA ha.mon re so h (fun ts s0 vs H0 p0 f0 re0 r0 so0 => ?_) fun _ _ q => q
    refine goA hkw.mon re0 so0 p0 (fun us s1 zs H1 p1 f1 re1 r1 so1 => ⟨by rw [r0.length]; exact p1.1.1, by rw [r1.length]; exact p1.1.2, ?_⟩) fun _ _ q => postW.up f0 q
    exact ⟨Z, _, s1, rel (r0.fut f1) r1, so1, p1.2.mon (fun _ _ q => post.up (f0.trans f1) q) fun _ _ q => postX.up (f0.trans f1) q⟩
  refine wpAny_Call_Name_kw (ld_glob I hg hm ?_ hdb)
  refine PySem.W.callWith_KW (h₀ := X.base) I.ok.mod.kin kp hall (thn (ha.pa.run pos pins sh σ H _ I h') ?_) hpl he
  rintro us s1 ⟨vs, H1, I1, r, q⟩
  refine thn (hkw.pk.run pos pins s1 σ H1 _ I1 q) ?_
  rintro ws s2 ⟨zs, H2, I2, rz, l1, l2, q2⟩
  refine ⟨I2.kIn, ?_⟩
  rw [hks]
  exact goKw F (hr.mono hk) rfl b (pass_tk tk) I2 r rz l1 l2 q2
theorem je_callK0 (tk : Takes X W) (d : CalK X.prog X.w X.K X.mg X.base cl k x D n ks gT) (hr : Rm j X.A) (hk : k ≤ j) (hg : Gl X x) (hkw : JK X cl W kws Ak)
    (hall : (backToKw pos (keywordEach kws X.env)).all (·.1.isSome) = true := by rfl) (hks : (backToKw pos (keywordEach kws X.env)).filterMap (·.1) = ks := by rfl) (hdb : (x == ("__debug__" : Str)) = false := by decide)
    (hpl : ((backTo pos (starEach [] X.env)).any (·.1) || (backToKw pos (keywordEach kws X.env)).any (·.1.isNone)) = false := by rfl) :
    JE X cl W (.Call (.Name x p) [] kws pos) (fCallK n ks.length D gT fNil Ak) := by
  obtain ⟨f, fd, ps, g, gV, rel, F, hm, kp, b⟩ := d.ex
  refine ⟨mon_callK (ja_nil (X := X) (cl := cl) (W := W)).mon hkw.mon, ⟨fun pins sh σ H Q I h => ?_⟩⟩
  obtain ⟨Z, τ, s, re, so, h⟩ := h
  have h' : tTA X.K cl W Ak σ H fun zs H1 => 0 = n ∧ zs.length = ks.length ∧ spM X.K cl D (gV [] zs) H1 Q (fun cls d H' => W cls d σ H') := by
    refine goA hkw.mon re so h (fun us s1 zs H1 p1 f1 re1 r1 so1 => ⟨p1.1.1, by rw [r1.length]; exact p1.1.2, ?_⟩) fun _ _ q => q
    exact ⟨Z, _, s1, rel .nil r1, so1, p1.2.mon (fun _ _ q => post.up f1 q) fun _ _ q => postX.up f1 q⟩
  refine wpAny_Call_Name_kw (ld_glob I hg hm ?_ hdb)
  refine PySem.W.callWith_KW0 (h₀ := X.base) I.ok.mod.kin kp hall (thn (hkw.pk.run pos pins sh σ H _ I h') ?_) hpl
  rintro ws s2 ⟨zs, H2, I2, rz, l1, l2, q2⟩
  rw [hks]
  exact ⟨I2.kIn, goKw (us := []) (vs := []) F (hr.mono hk) rfl b (pass_tk tk) I2 .nil rz l1 l2 q2⟩
/-- o.m(e, .., k = v, ..) -/
theorem je_mtK {pl : Sem Bool} (tk : Takes X W) (d : MetK X.prog X.w X.K X.mg X.base cl k cc m D n ks gT) (hr : Rm j X.A) (hk : k ≤ j) (ho : JE X cl W o Fo) (ha : JA X cl W (e :: es) A) (hkw : JK X cl W kws Ak)
    (hall : (backToKw pos (keywordEach kws X.env)).all (·.1.isSome) = true := by rfl) (hks : (backToKw pos (keywordEach kws X.env)).filterMap (·.1) = ks := by rfl)
    (he : starEach (e :: es) X.env = (false, eval e X.env) :: starEach es X.env := by rfl)
    (hpl : ((backTo pos (starEach (e :: es) X.env)).any (·.1) || (backToKw pos (keywordEach kws X.env)).any (·.1.isNone)) = false := by rfl)
    (ht : eval (.Call (.Attribute o m apos) (e :: es) kws pos) X.env = (do
      let ov ← eval o X.env
      standAt apos.atName
      let (g, first) ← holding [ov] (getMethod ov m pl)
      callWith pos g first (backTo pos (starEach (e :: es) X.env)) (backToKw pos (keywordEach kws X.env))) := by rfl) : JE X cl W (.Call (.Attribute o m apos) (e :: es) kws pos) (fMtK cc n ks.length m D gT Fo A Ak) := by
  obtain ⟨f, fd, ps, g, gV, rel, hcl, hm, F, b⟩ := d.ex
  refine ⟨fun τ s Q Q' E E' hq he h => ho.mon _ _ _ _ _ _ (fun x s1 h1 => ?_) he h, ⟨fun pins sh σ H Q I h => ?_⟩⟩
  · split at h1
    · exact ⟨h1.1, ha.mon _ _ _ _ _ _ (fun ts s0 h0 => hkw.mon _ _ _ _ _ _ (fun us s2 h2 => ⟨h2.1, h2.2.mon hq he⟩) he h0) he h1.2⟩
    · exact h1
  obtain ⟨Z, τ, s, re, so, h⟩ := h
  have h' : tT X.K cl W Fo σ H fun x H1 => ∃ dx fs a, x = .ref a ∧ H1 a = some (.ins (cl cc) dx fs) ∧ fs.lookup m = none ∧ tTA X.K cl W A σ H1 fun vs H0 => tTA X.K cl W Ak σ H0 fun zs H2 => vs.length + 1 = n ∧ zs.length = ks.length ∧ spM X.K cl D (gV (.ref a :: vs) zs) H2 Q (fun cls d H' => W cls d σ H') := by
    refine go ho.mon re so h (fun tx s1 x H1 p1 f1 re1 r1 so1 => ?_) fun _ _ q => q
    split at p1
    · rename_i c fs e1
      obtain ⟨⟨rfl, hl⟩, p1⟩ := p1
      obtain ⟨a, dx, fvs, rfl, h1, rf⟩ := obj_of so1 r1 e1
      refine ⟨dx, fvs, a, rfl, h1, rf.lookup0 hl, goA ha.mon re1 so1 p1 (fun ts s0 vs H0 p0 f0 re0 r0 so0 => ?_) fun _ _ q => postW.up f1 q⟩
      refine goA hkw.mon re0 so0 p0 (fun us s2 zs H2 p2 f2 re2 r2 so2 => ⟨by rw [r0.length]; exact p2.1.1, by rw [r2.length]; exact p2.1.2, ?_⟩) fun _ _ q => postW.up (f1.trans f0) q
      exact ⟨Z, _, s2, rel (.cons ((r1.fut f0).fut f2) (r0.fut f2)) r2, so2, p2.2.mon (fun _ _ q => post.up ((f1.trans f0).trans f2) q) fun _ _ q => postX.up ((f1.trans f0).trans f2) q⟩
    · exact p1.elim
  refine PySem.W.methodCall_KW (pl := pl) (thn (ho.pe.run pins sh σ H _ I h') ?_) ht
  rintro u s1 ⟨x, H1, I1, rx, dx, fs, a, rfl, ea, l, q⟩
  cases rx
  refine getmeth_ok I1 ea hcl hm l ?_
  refine PySem.W.callWith_KW (first := [.ref a]) (h₀ := X.base) I.ok.mod.kin hm.kp hall (thn (ha.pa.run pos pins s1 σ H1 _ I1 q) ?_) hpl he
  rintro us s0 ⟨vs, H0, I0, r, q0⟩
  refine thn (hkw.pk.run pos pins s0 σ H0 _ I0 q0) ?_
  rintro ws s2 ⟨zs, H2, I2, rz, hn, hz, q2⟩
  refine ⟨I2.kIn, ?_⟩
  rw [hks]
  exact goKw (us := .ref a :: us) (vs := .ref a :: vs) F (hr.mono hk) rfl b (pass_tk tk) I2 (Paired.cons rfl r) rz hn hz q2
end
theorem gOwnI_row {cc : Nat} {D : FD} {s : S} {x : T} {i : Int} {Q : KT} {E : KX} : gOwnI cc D s x (.int i) Q E = (match s.obj? x with | some (c, _) => c = cc ∧ cM D [x, .int i] s Q E | none => False) := by
  unfold gOwnI
  cases s.obj? x <;> rfl
theorem gOwnR_row {cc : Nat} {D : FD} {s : S} {y : T} {i : Int} {Q : KT} {E : KX} : gOwnR cc D s (.int i) y Q E = (match s.obj? y with | some (c, _) => c = cc ∧ cM D [y, .int i] s Q E | none => False) := by
  unfold gOwnR
  cases s.obj? y <;> rfl
theorem rows_madeE : True := by
  have := @Mr.fCallK.eq_1
  trivial
end Mr

/-! The mirror layer: a lambda without parameters, handed to a def that calls it. -/
namespace Mr
open PySem PySem.Spec PyProof.Rows L2 Tw
abbrev PH := S → KT → KX → Prop
abbrev FH := PH → PH
def MonP (φ : PH) : Prop := ∀ s (Q Q' : KT) (E E' : KX), (∀ t s, Q t s → Q' t s) → (∀ e s, E e s → E' e s) → φ s Q E → φ s Q' E'
def cH (D : FH) : FH := fun φ s Q E => ∃ (Q0 : KT) (E0 : KX), D φ s Q0 E0 ∧ (∀ t s, Q0 t s → Q t s) ∧ ∀ e s, E0 e s → E e s
theorem cH.of {D : FH} {φ : PH} {s : S} {Q : KT} {E : KX} (h : D φ s Q E) : cH D φ s Q E := ⟨Q, E, h, fun _ _ q => q, fun _ _ q => q⟩
theorem cH.mon {D : FH} {φ : PH} {s : S} {Q Q' : KT} {E E' : KX} (hq : ∀ t s, Q t s → Q' t s) (he : ∀ e s, E e s → E' e s) (h : cH D φ s Q E) : cH D φ s Q' E' := by
  obtain ⟨Q0, E0, h1, h2, h3⟩ := h
  exact ⟨Q0, E0, h1, fun t s q => hq _ _ (h2 t s q), fun e s q => he _ _ (h3 e s q)⟩
/-- the call of what was handed in -/
def fAct (i : Nat) (t0 : T) (φ : PH) : FE := fun τ s Q E => τ[i]? = some (some t0) ∧ φ s Q E
theorem mon_act {i : Nat} {t0 : T} {φ : PH} (m : MonP φ) : MonE (fAct i t0 φ) := fun τ s Q Q' E E' hq he h => ⟨h.1, m _ _ _ _ _ hq he h.2⟩
section
variable {P : Program} {w : World} {K : PySem.W.Frag} {mg : Str → Option Value} {base : Heap} {cl : CL}
/-- a def's run from one state -/
theorem fnS {k : Nat} {f : Addr} {ps N : List Str} {name qual : Str} {pr : Arguments} {body : List Stmt} {sc : Scope} {dV kV doc pm cdv ct oc : Value} {an od : Option Addr} {osl : Array (Option Value)}
    (lk : K.lookup f = some ⟨oc, od, .func (PySem.W.fnOf name qual pr body sc dV kV doc pm an cdv ct), osl⟩) (hcd : PySem.W.codeIn K cdv qual = true) (S : FnScope N ps sc)
    {A : Around} {out : List PySem.Env} {s : Shared} {H : Hp} {args : Args} {us : List Value} {vs : List V} {Q : VK} {E : XK} (rm : Rm (k + 1) A) (ev : Env0 P w K mg base A out s H) (bd : BindsTo s (PySem.W.fnOf name qual pr body sc dV kV doc pm an cdv ct) args (ps.zip us))
    (rel : Vals vs us) (len : vs.length = ps.length)
    (hb : Rm k (A.deeper (envOfC qual sc s.heap.objs.size f cdv)) → ∃ t, PSs (cxOf (L2.CX P w) P w K mg base N qual sc f cdv A out s H E) body t ∧ t { nx := fun _ H' => Q .non H', rt := Q } (L2.start N vs) H) :
    codeAny (model P w) A (.call (.ref f) args) (CR (L2.CX P w) out P w H s Q E) s := by
  have inK : K.In s.heap := ev.mod.kin.keeps fun b o q => (ev.bs b o q).1
  have nolim := ev.mod.nolimit.keeps fun b o q => (ev.bs b o q).1
  have kinds : ∀ z ∈ ps.zip us, sc.names.lookup z.1 = some .local ∨ (sc.names.lookup z.1 = some .cell ∧ ((cellsFrom (s.heap.objs.size + 1) sc.names []).lookup z.1).isSome = true) := by
    rintro ⟨n, v⟩ hz
    exact (S.par n (List.of_mem_zip hz).1).imp id fun q => ⟨q, PySem.W.cellsFrom_some _ _ _ (.inl q)⟩
  refine codeAny_call_function rm.room.depth (inK _ _ lk) rfl S.co S.gen rfl (PySem.W.codeRec_of inK hcd) (bd _ _ _ _ ?_)
  refine wpAny_newFunctionEnv_cells S.kind kinds ?_
  rintro env rfl s1 ic
  refine ⟨nolim.keeps ic.toInCall.keep, codeAny_func ?_⟩
  obtain ⟨t, der, rd⟩ := hb (rm.deeper _)
  have J := inv_start (CX := L2.CX P w) (P := P) (w := w) (K := K) (mg := mg) (base := base) (qual := qual) (f := f) (cd := cdv) (E := E) S rm.room.hd ev len rel ic
  refine wpAny_mono (der.run [] s1 (L2.start N vs) H _ J rd) ?_ fun _ _ z => z
  intro fl s' z
  cases fl with
  | ret u =>
    obtain ⟨v, _, H', I', r', q'⟩ := z
    exact ⟨v, H', I'.os, I'.bare, I'.base, I'.hok, r', q'⟩
  | next =>
    obtain ⟨_, H', I', q'⟩ := z
    exact ⟨.non, H', I'.os, I'.bare, I'.base, I'.hok, rfl, q'⟩
  | brk => exact z.elim fun _ z => z.elim fun _ z => z.2.elim
  | cont => exact z.elim fun _ z => z.elim fun _ z => z.2.elim
end
/-- the call, as the def's text has it, in the def's context Z -/
def Acts (Z : Cx) (cl : CL) (a : Str) (t0 : T) (φ : PH) : Prop := ∀ (W' : WX) (pn : List (Addr × Obj)) (xe : Value → Shared → Prop) (p1 p2 : Pos), Takes (Z.tr pn xe) W' → JE (Z.tr pn xe) cl W' (.Call (.Name a p1) [] [] p2) (fAct 0 t0 φ)
/-- a def of one parameter that may call what it gets -/
structure LamOk (P : Program) (w : World) (K : PySem.W.Frag) (mg : Str → Option Value) (base : Heap) (cl : CL) (k : Nat) (x : Str) (D : FH) : Prop where
  ex : ∃ (g : Addr) (fd : FuncData) (a : Str) (N : List Str) (st : Stmt), C8.Fun K x x st g fd ∧ mg x = some (.ref g) ∧ PySem.W.keepIn K (.ref g) = true ∧ Binds K fd [a] [] ∧ FnScope N [a] (C8.fnScope st) ∧ N[0]? = some a ∧ Vis (C8.fnScope st) a ∧ (a == ("__debug__" : Str)) = false ∧ (a == ("__classdict__" : Str)) = false ∧
    ∀ (φ : PH) (t0 : T), MonP φ → ∃ B : FS, (∀ s Q E, D φ s Q E → B (startT N [t0]) s (endsM Q E)) ∧
      ∀ (cdv : Value) (A : Around) (out : List PySem.Env) (s : Shared) (H : Hp) (E : XK), Rm k (A.deeper (envOfC x (C8.fnScope st) s.heap.objs.size g cdv)) →
        Acts (cxOf (L2.CX P w) P w K mg base N x (C8.fnScope st) g cdv A out s H E) cl a t0 φ →
        JSs (cxOf (L2.CX P w) P w K mg base N x (C8.fnScope st) g cdv A out s H E) cl (fun cls d _ H' => E cls d H') (C8.fnBody st) B
theorem tk_lam {X : Cx} {A : Around} {outer : List PySem.Env} {s : Shared} {H : Hp} {E : XK} {scope : Scope} {f c' : Addr} : Takes (LamX.lamCx X A outer s H E scope f c') (fun cls d _ H => E cls d H) := takes_of rfl rfl rfl rfl
section
variable {X : Cx} {cl : CL} {W : WX} {k : Nat} {params : Arguments} {body : Expr} {scope : Scope} {Fb : FE}
/-- what the lambda's text says -/
abbrev LBody (X : Cx) (cl : CL) (k : Nat) (scope : Scope) (body : Expr) (Fb : FE) : Prop := ∀ (A : Around) (outer : List PySem.Env) (s : Shared) (H : Hp) (E : XK) (f c' : Addr), Rm k (A.deeper (LamX.lamEnv X scope s.heap.objs.size f c')) →
  JE (LamX.lamCx X A outer s H E scope f c') cl (fun cls d _ H' => E cls d H') body Fb
theorem je_act {pins : List (Addr × Obj)} {σ : L2.St} {τ : Env} {H : Hp} {s : Shared} {Ng : List Str} {qg : Str} {sg : Scope} {g f c' : Addr} {cdg pm ctv : Value} {a : Str} {Eg : XK} (I : Inv X pins σ H s) (L : LamX.LamS X.env.scope scope)
    (hf : s.heap.get? f = some (PySem.W.kla_obj "<lambda>" (X.env.qual ++ "<lambda>") params body scope (cloFrom X.env.cells scope.names []) pm c' ctv)) (hfn : H f = none) (hfr : f ∉ frs X.stack)
    (hbind : bindArgs (PySem.W.kla_fn "<lambda>" (X.env.qual ++ "<lambda>") params body scope (cloFrom X.env.cells scope.names []) pm (.ref c') ctv) ⟨[], []⟩ = pure [])
    (hr : Rm (k + 1) (X.A.deeper (envOfC qg sg s.heap.objs.size g cdg))) (hbody : LBody X cl k scope body Fb) (mF : MonE Fb)
    (hN : Ng[0]? = some a) (hv : Vis sg a) (hd : (a == ("__debug__" : Str)) = false) (hcd : (a == ("__classdict__" : Str)) = false) :
    Acts (cxOf (L2.CX X.prog X.w) X.prog X.w X.K X.mg X.base Ng qg sg g cdg X.A X.stack s H Eg) cl a (.lam f c' (X.env.qual ++ "<lambda>") σ τ) (fun s Q E => Fb τ s Q E) := by
  intro W' pn xe p1 p2 tk
  refine ⟨mon_act fun s Q Q' E E' hq he h => mF _ _ _ _ _ _ hq he h, ⟨fun pinsZ sZ σZ HZ Q IZ h => ?_⟩⟩
  obtain ⟨Zz, τZ, sm, re, so, hs, hφ⟩ := h
  obtain ⟨v, e1, r⟩ := re.get 0 hs
  cases r with
  | lam hc fz rE =>
    refine wpAny_Call_Name_kw (thn ((pe_var (pos := p1) (i := 0) hN hv hd hcd).run pinsZ sZ σZ HZ (fun v H1 => v = .ref f ∧ H1 = HZ) IZ ⟨.ref f, e1, rfl, rfl⟩) fun u s1 ⟨v, H1, I1, r1, q1⟩ => ?_)
    obtain ⟨ev, eH⟩ := q1
    subst ev
    rw [eH] at I1
    obtain rfl : u = Value.ref f := r1
    have of1 : s1.heap.get? f = some (PySem.W.kla_obj "<lambda>" (X.env.qual ++ "<lambda>") params body scope (cloFrom X.env.cells scope.names []) pm c' ctv) := I1.base.keep f _ hf hfn hfr (fun z => nomatch (show f ∈ ([] : List Addr) from z))
    refine PySem.W.callWith_F0 ⟨_, _, _, _, of1⟩ ?_
    have un : Un (frs X.stack) [] H HZ s.heap s1.heap := I1.base
    obtain ⟨⟨oc, vs, t, hoc, hdc, hvc⟩, _, _⟩ := I1.hok c' _ hc
    have rc : codeAny (model X.prog X.w) (X.A.deeper (envOfC qg sg s.heap.objs.size g cdg)) (.call (.ref f) ⟨[], []⟩) (CR (L2.CX X.prog X.w) (envOfC qg sg s.heap.objs.size g cdg :: X.stack) X.prog X.w HZ s1 Q (fun c d H' => W' c d σZ H')) s1 := by
      refine PySem.W.kla_callFunE hr.room.depth of1 rfl L.co L.gen rfl ⟨c', oc, vs, t, rfl, hoc, hdc, hvc⟩ ?_
      rw [hbind]
      refine wpAny_pure (wpAny_newFunctionEnv (fun y hy => (L.own y hy).2) (fun y hy => absurd hy (by simp)) (fun h₁ hns hsb => ⟨I1.nolimit.fresh _ hsb, ?_⟩) L.kind)
      have kp : ∀ b o, s1.heap.get? b = some o → h₁.get? b = some o := fun b o e => hsb.extBut b o (Nat.ne_of_lt (Heap.lt_size e)) (Heap.get?_push_of_some _ e)
      have J : Inv (LamX.lamCx X (X.A.deeper (envOfC qg sg s.heap.objs.size g cdg)) (envOfC qg sg s.heap.objs.size g cdg :: X.stack) s1 HZ (fun c d H' => W' c d σZ H') scope f c') [] σ HZ { s1 with heap := h₁, toks := s1.toks + ([] : List (Str × Value)).length } :=
        LamX.lam_start2 I L I1.env0 hr.room.hd un hns kp
      have hb := hbody (X.A.deeper (envOfC qg sg s.heap.objs.size g cdg)) (envOfC qg sg s.heap.objs.size g cdg :: X.stack) s1 HZ (fun c d H' => W' c d σZ H') f c' (hr.deeper _)
      refine PySem.W.kla_codeExpr (wpAny_mono (hb.pe.run [] _ _ HZ Q J ⟨Zz, τ, sm, rE, so, hφ⟩) (fun v s' hq => ?_) fun e s' hq => hq)
      obtain ⟨w', H', J', rv, q⟩ := hq
      exact ⟨w', H', J'.os, J'.bare, J'.base, J'.hok, rv, q⟩
    refine wpAny_call (codeAny_mono rc fun r s' hq => ?_)
    match r, hq with
    | .error e, hq => exact pass_tk tk HZ s1 e s' I1 hq
    | .ok (.ret u), hq => exact I1.after hq
    | .ok .next, hq => exact False.elim hq
    | .ok .brk, hq => exact False.elim hq
    | .ok .cont, hq => exact False.elim hq
end
/-- tables grow, all else stays -/
theorem Fut.extN {s : S} {H H1 : Hp} (e : LamX.ExtN H H1) : Fut s H s H1 := ⟨fun b o h n nt => ⟨e b o h nt, n⟩, fun _ h => h⟩
theorem Sto.extN {K : PySem.W.Frag} {cl : CL} {Z : Addr → Prop} {s : S} {H H1 : Hp} (so : Sto K cl Z s H) (e : LamX.ExtN H H1) (t : LamX.Tabs cl.t H1) : Sto K cl Z s H1 where
  pen := fun q hq => by
    obtain ⟨L, a, r, ns, h1, h2, h3, h4⟩ := so.pen q hq
    exact ⟨L, a, r, ns, e _ _ h1 nofun, e _ _ h2 nofun, h3, h4⟩
  cells := fun a c h => by
    obtain ⟨o, ho, hp⟩ := crep_pl (so.cells a c h)
    exact (so.cells a c h).at (Fut.extN e) ((e a o ho hp.1).trans ho.symm)
  apart := so.apart
  hid := fun b hb => by
    obtain ⟨n, xs, hx⟩ := so.hid b hb
    exact ⟨n, xs, e _ _ hx nofun⟩
  tabs := t
theorem fz_code {K : PySem.W.Frag} {cl : CL} {Z : Addr → Prop} {s : S} {H : Hp} {c : Addr} {q : Str} (so : Sto K cl Z s H) (h : H c = some (LamX.CodeO c q)) : Fz Z s c := by
  constructor
  · rintro (m | m)
    · obtain ⟨L, a, r, ns, h1, _⟩ := so.pen c m
      rw [h] at h1
      cases h1
    · obtain ⟨cc, hc⟩ := Option.ne_none_iff_exists'.mp m
      obtain ⟨o, ho, hp⟩ := crep_pl (so.cells c cc hc)
      rw [h] at ho
      exact hp.2 _ (Option.some.inj ho).symm
  · intro z
    obtain ⟨_, xs, hx⟩ := so.hid c z
    rw [h] at hx
    cases hx
section
variable {X : Cx} {cl : CL} {W : WX} {k kh j : Nat} {params : Arguments} {body : Expr} {scope : Scope} {Fb : FE} {D : FH} {x : Str} {p lpos pos : Pos} {c P : Addr}
def fLam (D : FH) (Fb : FE) : FE := fun τ s Q E => cH D (fun s Q E => Fb τ s Q E) s Q E
theorem mon_lam : MonE (fLam D Fb) := fun τ s Q Q' E E' hq he h => h.mon hq he
/-- x(lambda: body) -/
theorem je_lam (tk : Takes X W) (d : LamOk X.prog X.w X.K X.mg X.base cl kh x D) (hr : Rm j X.A) (hk : kh + 1 ≤ j) (hk2 : k + 2 ≤ j) (hg : Gl X x)
    (TB : LamX.TabB X.base X.mg c P) (hcode : X.env.code = .ref c) (hmT : (P, X.env.qual ++ "<lambda>") ∈ cl.t) (hu : ∀ p ∈ cl.t, p.1 = P → p.2 = X.env.qual ++ "<lambda>") (L : LamX.LamS X.env.scope scope)
    (hbody : LBody X cl k scope body Fb)
    (hdef : defaultsOf params X.env = ([], []) := by rfl)
    (hbind : ∀ (q : Str) (cs : List (Str × Addr)) (pm cv ctv : Value), bindArgs (PySem.W.kla_fn "<lambda>" q params body scope cs pm cv ctv) ⟨[], []⟩ = pure [] := by intros; rfl) (hdb : (x == ("__debug__" : Str)) = false := by decide) :
    JE X cl W (.Call (.Name x p) [.Lambda params body scope lpos] [] pos) (fLam D Fb) := by
  obtain ⟨g, fd, a, N, st, Fn, hm, kp, bd, Sg, hN, hva, hd, hcd, bod⟩ := d.ex
  refine ⟨mon_lam, ⟨fun pins s σ H Q I h => ?_⟩⟩
  obtain ⟨Zz, τ, sm, re, so, Q0, E0, h1, h2, h3⟩ := h
  obtain ⟨j', rfl⟩ : ∃ j', j = j' + 1 := ⟨j - 1, by omega⟩
  have mF : MonE Fb := (hbody (X.A.deeper X.env) [] s H (fun _ _ _ => False) 0 0 (((hr.deeper X.env).mono (show k + 1 ≤ j' by omega)).deeper _)).mon
  refine wpAny_Call_Name_kw (ld_glob I hg hm ?_ hdb)
  refine PySem.W.callWith_K (h₀ := X.base) I.ok.mod.kin kp ?_ (by rfl) (by rfl)
  show wpAny _ _ (spliced ((false, eval (.Lambda params body scope lpos) X.env) :: backTo pos (starEach [] X.env))) _ _ s
  refine Calls.spliced_cons (LamX.lam_make2 I TB hcode hmT hu so.tabs hdef (L.has I.ok) fun f c' pm' ctv H1 s' I1 eN T1 hf hfn hfr hco => ?_)
  refine Calls.spliced_nil ⟨I1.kIn, ?_⟩
  have so1 := so.extN eN T1
  have re1 : REnv X.K cl Zz sm H1 σ τ := re.fut (Fut.extN eN)
  have rl : Rep X.K cl Zz sm H1 (.ref f) (.lam f c' (X.env.qual ++ "<lambda>") σ τ) := .lam hco (fz_code so1 hco) re1
  obtain ⟨oc, od, dV, kV, doc, pm, an, cdv, ct, osl, rfl, lk, hcg⟩ := Fn.ex
  obtain ⟨B, hB, jB⟩ := bod (fun s Q E => Fb τ s Q E) (.lam f c' (X.env.qual ++ "<lambda>") σ τ) (fun s Q Q' E E' hq he h => mF _ _ _ _ _ _ hq he h)
  have rc : codeAny (model X.prog X.w) X.A (.call (.ref g) ⟨[.ref f], []⟩) (CR (L2.CX X.prog X.w) X.stack X.prog X.w H1 s' Q (fun c d H' => W c d σ H')) s' := by
    refine fnS (k := j') (ps := [a]) (us := [.ref f]) (vs := [.ref f]) lk hcg Sg hr I1.env0 (bd s' [.ref f] I1.kIn rfl) (.cons rfl .nil) rfl fun hr' => ?_
    have jj := jB cdv X.A X.stack s' H1 (fun c d H' => W c d σ H') (hr'.mono (by omega)) (je_act (k := k) I1 L hf hfn hfr (hbind _ _ _ _ _) (hr'.mono (by omega)) hbody mF hN hva hd hcd)
    refine ⟨_, jj.pss, Zz, startT N [.lam f c' (X.env.qual ++ "<lambda>") σ τ], sm, RepE.start (.cons rl .nil), so1, jj.mon _ _ _ _ ?_ (hB _ _ _ h1)⟩
    refine ⟨fun τ s' q σ' H' f' _ so' => post.up (Fut.extN eN) (h2 _ _ q) _ _ f' .non so', fun t s' q => post.up (Fut.extN eN) (h2 _ _ q), fun τ s' q => q.elim, fun τ s' q => q.elim, fun er τ s' q d fvs σ' H' f' e m rf _ so' => postX.up (Fut.extN eN) (h3 _ _ q) d fvs H' f' e m rf so'⟩
  refine wpAny_call (codeAny_mono rc fun r s2 hq => ?_)
  match r, hq with
  | .error e, hq => exact pass_tk tk H1 s' e s2 I1 hq
  | .ok (.ret u), hq => exact I1.after hq
  | .ok .next, hq => exact False.elim hq
  | .ok .brk, hq => exact False.elim hq
  | .ok .cont, hq => exact False.elim hq
end
end Mr

/-! The law's call, where defs of the text make lambdas: their tables are empty at the start. -/
namespace Mr
open PySem PySem.Spec PyProof.Rows L2 Tw
section
variable {P : Program} {w : World} {K : PySem.W.Frag} {mg mb : Str → Option Value} {k : Nat} {fa a : Addr} {fd : FuncData} {x : Str} {sp : Sp} {s : Shared} {vs : List Value} {ns : List Int} {tb : List (Addr × Addr)}
theorem lawT_from {H : Hp} {ob : Obj} (inK0 : K.In s.heap) (gm : s.heap.Ns mainGlobals mg) (gb : s.heap.Ns builtinsNs mb) (gbb : ∀ x : Str, x ≠ "__name__" → mb x = bootBuiltins x) (lim : s.heap.NoLimit) (gs : s.gens = #[])
    (bmain : ∃ (bm : Addr) (o : Obj), mg "__builtins__" = some (.ref bm) ∧ bm ≠ builtinsNs ∧ s.heap.get? bm = some o ∧ o.cls = .type "module" ∧ o.dict = some builtinsNs ∧ o.data = .plain)
    (hob : s.heap.get? a = some ob) (hseq : ∃ its n, ob.data = .seq its n) (ok : HOk P w H s.heap)
    (only : ∀ b u, H b = some u → (b = a ∧ K.lookup a = none ∧ ∃ y, u = .frz ob y) ∨ ((∃ p ∈ tb, p.2 = b) ∧ u = .tbl #[])) (tH : ∀ p ∈ tb, H p.2 = some (.tbl #[]))
    (tK : ∀ p ∈ tb, K.lookup p.2 = none) (tC : ∀ p ∈ tb, PySem.W.CodeHd s.heap p.1 p.2) (rm : Rm k callerA)
    (F : ∀ base : Heap, (∀ p ∈ tb, LamX.TabB base mg p.1 p.2) → FnG P w K mg base k fa fd [x] sp) (bd : ∀ (s : Shared) (u : Value), BindsTo s fd ⟨[u], []⟩ [(x, u)]) (want : sp [.ref a] H (fun v _ => v = .bl true) fun _ _ _ => False) :
    codeAny (model P w) callerA (.call (.ref fa) ⟨[.ref a], []⟩) (Done s) s := by
  have tObj : ∀ p ∈ tb, s.heap.get? p.2 = some { cls := .none, data := .fields #[] } := fun p hp => ok p.2 _ (tH p hp)
  -- what is neither a sequence nor an empty table is not tracked
  have un0 : ∀ (b : Addr) (o : Obj), s.heap.get? b = some o → (∀ its n, o.data ≠ .seq its n) → o.data ≠ .fields #[] → H b = none := by
    intro b o g n1 n2
    rcases q : H b with _ | u
    · rfl
    · rcases only b u q with ⟨rfl, -, -⟩ | ⟨⟨p, hp, rfl⟩, -⟩
      · obtain ⟨its, n, d⟩ := hseq
        rw [hob] at g
        injection g with g
        subst g
        exact (n1 _ _ d).elim
      · rw [tObj p hp] at g
        injection g with g
        subst g
        exact (n2 rfl).elim
  have stays : ∀ (b : Addr) (m : Str → Option Value), s.heap.Ns b m → (hidT s.heap H).Ns b m := by
    rintro b m ⟨o, es, n, g, d, r⟩
    exact ⟨o, es, n, hidT_get g (un0 b o g (fun _ _ z => by rw [d] at z; cases z) fun z => by rw [d] at z; cases z), d, r⟩
  have inB : K.In (hidT s.heap H) := by
    intro b o g
    refine hidT_get (inK0 b o g) ?_
    rcases q : H b with _ | u
    · rfl
    · rcases only b u q with ⟨rfl, z, -⟩ | ⟨⟨p, hp, rfl⟩, -⟩
      · rw [z] at g
        cases g
      · rw [tK p hp] at g
        cases g
  have md : Mod K mg (hidT s.heap H) := by
    obtain ⟨mc, l1, l2⟩ := lim
    exact { kin := inB, glob := stays _ _ gm, blt := ⟨mb, stays _ _ gb, gbb⟩, nolimit := ⟨mc, stays _ _ l1, l2⟩ }
  have ev : Env0 P w K mg (hidT s.heap H) callerA [] s H :=
    { frames := rfl, mod := md, bs := fun _ _ g => of_hidT g, bsz := Nat.le_of_eq (hidT_size _ _), funs := trivial, frf := fun _ z => (nomatch z), hok := ok, bare := .of_eq gs }
  have tabB : ∀ p ∈ tb, LamX.TabB (hidT s.heap H) mg p.1 p.2 := by
    intro p hp
    have tP := tObj p hp
    have nG : mainGlobals ≠ p.2 := by
      intro z
      obtain ⟨o, es, n, g, d, _⟩ := gm
      rw [z, tP] at g
      injection g with g
      subst g
      cases d
    constructor
    · obtain ⟨o, us, fl, tf, fg, tg, inF, tx, tt, e1, r1, r2, r3, rest⟩ := tC p hp
      refine ⟨o, us, fl, tf, fg, tg, inF, tx, tt, hidT_get e1 (un0 _ _ e1 (fun _ _ z => ?_) fun z => ?_), r1, r2, r3, rest⟩
      · rw [r2] at z
        cases z
      · rw [r2] at z
        injection z with z
        rw [z] at r3
        simp at r3
    · obtain ⟨bm, o, b1, b2, b3, b4, b5, b6⟩ := bmain
      have x1 : bm ≠ mainGlobals := by
        intro z
        obtain ⟨o', es, n, g, d, _⟩ := gm
        rw [z, g] at b3
        injection b3 with b3
        subst b3
        rw [d] at b6
        cases b6
      have x2 : bm ≠ p.2 := by
        intro z
        rw [z, tP] at b3
        injection b3 with b3
        subst b3
        cases b6
      exact ⟨bm, o, b1, b2, x1, x2, hidT_get b3 (un0 _ _ b3 (fun _ _ z => by rw [b6] at z; cases z) fun z => by rw [b6] at z; cases z), b4, b5, b6⟩
    · exact nG
  have go := (F (hidT s.heap H) tabB).run callerA [] s H ⟨[.ref a], []⟩ [.ref a] [.ref a] _ _ rm ev (bd s (.ref a)) (Paired.cons rfl .nil) want
  refine codeAny_mono go ?_
  rintro (e | (_ | _ | _ | u)) s' h
  · obtain ⟨_, _, _, _, _, _, _, _, _, _, _, _, no⟩ := h
    exact no.elim
  · exact h.elim
  · exact h.elim
  · exact h.elim
  · obtain ⟨v, H', eo, eb, un, ok', rel, rfl⟩ := h
    have eu : u = Value.bool true := rel
    have grow : ∀ p ∈ tb, ∃ more : Array Value, s'.heap.get? p.2 = some { cls := .none, data := .fields more } := by
      intro p hp
      obtain ⟨more, z⟩ := un.tbls p.2 #[] (tH p hp)
      exact ⟨_, ok' p.2 _ z⟩
    have same : ∀ b o, s.heap.get? b = some o → (¬ ∃ p ∈ tb, p.2 = b) → s'.heap.get? b = some o := by
      intro b o g nt
      rcases q : H b with _ | y
      · exact un.keep b o g q (fun z => nomatch z) (fun z => nomatch z)
      · rcases only b y q with ⟨rfl, -, y, rfl⟩ | ⟨t, -⟩
        · rw [hob] at g
          injection g with g
          subst g
          exact (ok' b _ (un.frzs b _ _ q)).1
        · exact (nt t).elim
    refine ⟨by rw [eu], ⟨fun b o g => ?_, fun b o g => ?_⟩, eo, eb⟩
    · by_cases t : ∃ p ∈ tb, p.2 = b
      · obtain ⟨p, hp, rfl⟩ := t
        obtain ⟨more, m⟩ := grow p hp
        have tP := tObj p hp
        rw [tP] at g
        injection g with g
        subst g
        exact .inr (.inl ⟨((tC p hp).tab tP).isCodeTable, rfl, #[], more, rfl, by rw [Array.empty_append]; exact m⟩)
      · exact .inl (same b o g t)
    · by_cases t : ∃ p ∈ tb, p.2 = b
      · obtain ⟨p, hp, rfl⟩ := t
        obtain ⟨more, m⟩ := grow p hp
        exact ⟨_, m⟩
      · exact ⟨o, same b o g t⟩
end
section
variable {k : Nat} {x : Str}
theorem lawT {n : Nat} {l : PySem.W.OpenLaw} {q : Program} {loose : List Str} {XP : (Str → Option Value) → Heap → Prop} {YP : World → Heap → Prop} {d : DefRec} {K : Params → PySem.W.Frag}
    (hn : l.most = some n) (small : n ≤ 63) (nodef : d.params.defaults = []) (rm : Rm k callerA) (hY : ∀ (w : World) (h : Heap), YP w h → (K w.params).In h)
    (F : ∀ (w : World) (mg : Str → Option Value) (fa : Addr) (h : Heap), YP w h → (K w.params).In h → h.Ns mainGlobals mg → mg d.name = some (.ref fa) →
      ∃ (fd : FuncData) (tb : List (Addr × Addr)) (cl : CL), (∀ p ∈ tb, (K w.params).lookup p.2 = none ∧ PySem.W.CodeHd h p.1 p.2 ∧ h.get? p.2 = some { cls := .none, data := .fields #[] }) ∧ (∀ p ∈ cl.t, ∃ r ∈ tb, r.2 = p.1) ∧
        (∀ (s : Shared) (u : Value), BindsTo s fd ⟨[u], []⟩ [(x, u)]) ∧ ∀ base : Heap, (∀ p ∈ tb, LamX.TabB base mg p.1 p.2) → FnG l.prog w (K w.params) mg base k fa fd [x] (spLaw cl (K w.params))) :
    PySem.W.WalkO q loose XP YP l.row.toRowW d [] (fun f vs => PySem.call f vs) := by
  refine Att.attach_call hn nodef ?_
  intro w s₀ s mg mb fa o pm cd doc a vs ns G Y ho hd hcd hmg hobj hints hlen hg
  have inK := hY w _ Y
  obtain ⟨fd, tb, cl, tF, tS, bd, hF⟩ := F w mg fa _ Y inK G.T.g hmg
  have rel := vals_ints hints
  have len : vs.length = ns.length := hints.length
  have size : ns.length ≤ sizeLine := Nat.le_trans (Nat.le_trans hlen small) (by decide)
  have na : ¬ ∃ p ∈ tb, p.2 = a := by
    rintro ⟨p, hp, e⟩
    have z := (tF p hp).2.2
    rw [e, hobj] at z
    injection z with z
    injection z with z1 z2 z3 z4
    cases z3
  have wantT : ∀ H : Hp, (∀ p ∈ tb, H p.2 = some (.tbl #[])) → SqL (K w.params) H a (ns.map V.int) → spLaw cl (K w.params) [.ref a] H (fun v _ => v = .bl true) fun _ _ _ => False := by
    intro H tH sq
    refine ⟨a, ns, rfl, sq, Nat.le_trans hlen small, fun p hp => ?_, fun _ => rfl⟩
    obtain ⟨r, hr, e⟩ := tS p hp
    exact LamX.TabS.nil (e ▸ tH r hr)
  open Classical in
  rcases lk : (K w.params).lookup a with _ | o1
  · let H : Hp := fun b => if b = a then some (.frz { cls := .type "list", data := .seq vs.toArray } (.lst (ns.map V.int))) else if (∃ p ∈ tb, p.2 = b) then some (.tbl #[]) else none
    have at_a : H a = some (.frz { cls := .type "list", data := .seq vs.toArray } (.lst (ns.map V.int))) := if_pos rfl
    have tH : ∀ p ∈ tb, H p.2 = some (.tbl #[]) := fun p hp => (if_neg fun e => na ⟨p, hp, e⟩).trans (if_pos ⟨p, hp, rfl⟩)
    have only : ∀ b u, H b = some u → (b = a ∧ u = .frz { cls := .type "list", data := .seq vs.toArray } (.lst (ns.map V.int))) ∨ ((∃ p ∈ tb, p.2 = b) ∧ u = .tbl #[]) := by
      intro b u z
      by_cases e : b = a
      · subst e
        rw [at_a] at z
        injection z with z
        exact .inl ⟨rfl, z.symm⟩
      · by_cases t : ∃ p ∈ tb, p.2 = b
        · have z2 : H b = some (.tbl #[]) := (if_neg e).trans (if_pos t)
          rw [z2] at z
          injection z with z
          exact .inr ⟨t, z.symm⟩
        · have z2 : H b = none := (if_neg e).trans (if_neg t)
          rw [z2] at z
          cases z
    refine lawT_from (H := H) (tb := tb) inK G.T.g G.T.b G.T.builtins G.T.nolimit hg G.T.bmain hobj ⟨_, _, rfl⟩ ?_ ?_ tH (fun p hp => (tF p hp).1) (fun p hp => (tF p hp).2.1) rm hF bd (wantT H tH (.inl (.inr ⟨_, at_a⟩)))
    · intro b u z
      rcases only b u z with ⟨rfl, rfl⟩ | ⟨⟨p, hp, rfl⟩, rfl⟩
      · exact ⟨hobj, by rw [List.length_map]; exact size, vs, _, rel, hobj⟩
      · exact (tF p hp).2.2
    · intro b u z
      rcases only b u z with ⟨rfl, rfl⟩ | t
      · exact .inl ⟨rfl, lk, _, rfl⟩
      · exact .inr t
  · have g := inK a o1 lk
    rw [hobj] at g
    injection g with g
    subst g
    let H : Hp := fun b => if (∃ p ∈ tb, p.2 = b) then some (.tbl #[]) else none
    have tH : ∀ p ∈ tb, H p.2 = some (.tbl #[]) := fun p hp => if_pos ⟨p, hp, rfl⟩
    have only : ∀ b u, H b = some u → (∃ p ∈ tb, p.2 = b) ∧ u = .tbl #[] := by
      intro b u z
      by_cases t : ∃ p ∈ tb, p.2 = b
      · have z2 : H b = some (.tbl #[]) := if_pos t
        rw [z2] at z
        injection z with z
        exact ⟨t, z.symm⟩
      · have z2 : H b = none := if_neg t
        rw [z2] at z
        cases z
    refine lawT_from (H := H) (tb := tb) inK G.T.g G.T.b G.T.builtins G.T.nolimit hg G.T.bmain hobj ⟨_, _, rfl⟩ ?_ ?_ tH (fun p hp => (tF p hp).1) (fun p hp => (tF p hp).2.1) rm hF bd (wantT H tH (.inr ⟨_, vs.toArray, _, lk, rfl, rfl, rfl, ?_, ?_⟩))
    · intro b u z
      obtain ⟨⟨p, hp, rfl⟩, rfl⟩ := only b u z
      exact (tF p hp).2.2
    · intro b u z
      exact .inr (only b u z)
    · rw [List.size_toArray]
      omega
    · rw [List.toList_toArray]
      exact rel
end
/-- a name for a table, told once -/
theorem tab_one {t : List (Addr × Str)} {P : Addr} {q : Str} (h : (P, q) ∈ t) (nd : (t.map (·.1)).Nodup) : ∀ p ∈ t, p.1 = P → p.2 = q := by
  induction t with
  | nil => cases h
  | cons a r ih =>
    rw [List.map_cons, List.nodup_cons] at nd
    intro p hp e
    rcases List.mem_cons.mp h with h1 | h1
    · rcases List.mem_cons.mp hp with h2 | h2
      · rw [h2, ← h1]
      · exact (nd.1 (List.mem_map.mpr ⟨p, h2, by rw [e, ← h1]⟩)).elim
    · rcases List.mem_cons.mp hp with h2 | h2
      · exact (nd.1 (List.mem_map.mpr ⟨_, h1, by rw [← e, h2]⟩)).elim
      · exact ih h1 nd.2 p h2 e
end Mr

/-! The mirror layer: enumerate of a list, and of an instance whose __iter__ returns iter(self.f). -/
namespace Mr
open PySem PySem.Spec PyProof.Rows L2 Tw
section
variable {prog : Program} {w : World} {A : Around} {E : Value → Shared → Prop} {s : Shared}
theorem iter_by {M : Model} {v : Value} {Q P : Value → Shared → Prop} {E0 : Value → Shared → Prop} (h : wpAny M A (pyIter v) P E0 s) (hq : ∀ it s', P it s' → Q it s') (he : ∀ e s', E0 e s' → E e s') : wpAny M A (pyIter v) Q E s := wpAny_mono h hq he
theorem enum_new (a : Addr) (o : Obj) :
    MeetsIn prog w (Builtin.«enumerate.__new__» ⟨[.type "enumerate", .ref a], []⟩) (fun A R s => s.heap.get? a = some o ∧ wpAny (model prog w) A.in1 (pyIter (.ref a)) (fun it s1 => R (.ok (.ret (.ref s1.heap.objs.size)))
        { s1 with heap := s1.heap.push { cls := .type "enumerate", data := .fields #[.none, .bool false, it, rawInt 0, .none, .none] } }) (fun e s1 => R (.error e) s1) s) :=
  .of_wp fun A R s h => by
    obtain ⟨hp, g, d, tk, os⟩ := s
    obtain ⟨hl, h⟩ := h
    have hsub := sub_enumerate
    wp_walk using AutoSeq1.wpAny_loadPart' hl
    refine wpAny_stack_any fun st => wpAny_pure ?_
    split
    · rename_i c _ _ _ _ _
      cases (c == Value.type "enumerate")
      · wp_walk using AutoSeq1.wpAny_loadPart' hl, iter_by h
        case hq =>
          intro it s' hR
          wp_walk
          exact ⟨_, rfl, hR⟩
        case he => exact fun _ _ x => x
      · wp_walk using AutoSeq1.wpAny_loadPart' hl, iter_by h
        case hq =>
          intro it s' hR
          wp_walk
          exact ⟨_, rfl, hR⟩
        case he => exact fun _ _ x => x
    · wp_walk using AutoSeq1.wpAny_loadPart' hl, iter_by h
      case hq =>
        intro it s' hR
        wp_walk
        exact ⟨_, rfl, hR⟩
      case he => exact fun _ _ x => x
theorem call_enum {a : Addr} {o : Obj} {Q : Value → Shared → Prop} (ha : s.heap.get? a = some o)
    (h : wpAny (model prog w) A.in1.in1 (pyIter (.ref a)) (fun v s1 => ∃ it, v = .ref it ∧ ∀ h', IsEnum h' s1.heap.objs.size it 0 .none → h'.objs.size = s1.heap.objs.size + 1 → (∀ b o, s1.heap.get? b = some o → h'.get? b = some o) → Q (.ref s1.heap.objs.size) { s1 with heap := h' }) E s) :
    wpAny (model prog w) A (call (.type "enumerate") [.ref a]) Q E s := by
  refine callType_newIn F.called_enumerate (by decide) (F.typeCall_enumerate_1 _) (F.newCall_enumerate_1 _) (fun obj => F.args_object_init_2 obj _) F.entry_enumerate_new (enum_new a o) ⟨ha, ?_⟩
  refine wpAny_mono h (fun v s1 ⟨it, ev, q⟩ => ?_) fun e s1 q => q
  subst ev
  have he : IsEnum (s1.heap.push { cls := .type "enumerate", data := .fields #[.none, .bool false, .ref it, rawInt 0, .none, .none] }) s1.heap.objs.size it 0 .none := Heap.get?_push_size _ rfl
  exact ⟨⟨_, he, rfl⟩, q _ he (by rw [Heap.size_push]) fun b o x => Heap.get?_push_of_some _ x⟩
end
/-- the method __iter__ of the class c: return iter(self.f) -/
structure IterM (P : Program) (w : World) (K : PySem.W.Frag) (mg : Str → Option Value) (base : Heap) (cl : CL) (k : Nat) (c : Nat) (fn : Str) : Prop where
  ex : ∃ f : Addr, Cls K (cl c) ∧ Meth K (cl c) "__iter__" f ∧ ∀ (A : Around) (out : List PySem.Env) (s : Shared) (H : Hp) (a dx l : Addr) (fs : List (Str × V)) (zs : List V) (Q : VK), Rm k A → Env0 P w K mg base A out s H → H a = some (.ins (cl c) dx fs) → fs.lookup fn = some (.ref l) → SqL K H l zs →
    (∀ it, H it = none → s.heap.objs.size ≤ it → Q (.ref it) (upd H it (ItO l it 0))) → codeAny (model P w) A (.call (.ref f) ⟨[.ref a], []⟩) (CR (L2.CX P w) out P w H s Q (fun _ _ _ => False)) s
theorem iterOf {P : Program} {w : World} {K : PySem.W.Frag} {mg : Str → Option Value} {base : Heap} {cl : CL} {c : Nat} {fn qual self : Str} {st : Stmt} {N : List Str} {p1 p2 p3 p4 p5 : Pos} (d : MetAt K (cl c) "__iter__" qual st [self] []) (S : FnScope N [self] (C8.fnScope st)) (na : NoAttr K (cl c) fn) (hm : mg "iter" = none)
    (hb : C8.fnBody st = [.Return (some (.Call (.Name "iter" p1) [.Attribute (.Name self p2) fn p3] [] p4)) p5]) (hN : N[0]? = some self) (hv : Vis (C8.fnScope st) self) (hd : (self == ("__debug__" : Str)) = false) (hcd : (self == ("__classdict__" : Str)) = false)
    (hg : (C8.fnScope st).names.lookup ("iter" : Str) = some .globalImplicit) : IterM P w K mg base cl 2 c fn := by
  obtain ⟨f, fd, ds, C, me, F, b, v⟩ := d.ex
  cases v
  obtain ⟨oc, od, dV, kV, doc, pm, an, cdv, ct, osl, rfl, lk, hc⟩ := F.ex
  refine ⟨f, C, me, fun A out s H a dx l fs zs Q rm ev ha hl hq q => ?_⟩
  have bb := b s [.ref a] (ev.mod.kin.keeps fun b o q => (ev.bs b o q).1) rfl
  refine fnS (k := 1) (us := [.ref a]) (vs := [.ref a]) lk hc S rm ev bb (.cons rfl .nil) rfl fun _ => ?_
  rw [hb]
  refine ⟨_, pss_one (ps_ret (pe_callB (X := cxOf (L2.CX P w) P w K mg base N qual (C8.fnScope st) f cdv A out s H (fun _ _ _ => False)) ItX.call_iterN hg hm boot_iter (pa_cons (pe_fld (pe_var (i := 0) hN hv hd hcd) rfl) pa_nil))), ?_⟩
  have h0 : (L2.start N [V.ref a])[0]? = some (some (V.ref a)) := by
    unfold L2.start
    rfl
  exact ⟨_, h0, a, _, dx, fs, _, rfl, ha, C, na, hl, l, zs, rfl, hq, q⟩
section
variable {X : Cx} {cl : CL} {W : WX} {k j c : Nat} {fn : Str} {e : Expr} {Fa : FE} {p pos tpos : Pos} {elts : List Expr} {kk : Nat}
/-- enumerate(e), e a list or an instance of the class c -/
def iEnumV (K : PySem.W.Frag) (C : Addr) (fn : Str) (ta : TA) : TI := fun σ H R => ta σ H fun vs H1 => ∃ a, vs = [.ref a] ∧ ((∃ xs, SqL K H1 a xs ∧ R (Ite K a) H1) ∨ ∃ dx fs l zs, H1 a = some (.ins C dx fs) ∧ fs.lookup fn = some (.ref l) ∧ SqL K H1 l zs ∧ R (Ite K l) H1)
theorem pi_enumV {ta : TA} (d : IterM X.prog X.w X.K X.mg X.base cl k c fn) (hr : Rm j X.A) (hk : k + 2 ≤ j) (hg : Gl X "enumerate") (hm : X.mg "enumerate" = none) (ha : PA X [e] ta) (hs : starEach [e] X.env = [(false, eval e X.env)] := by rfl) :
    PI X (.Tuple elts kk tpos) (.Call (.Name "enumerate" p) [e] [] pos) (iEnumV X.K (cl c) fn ta) := by
  refine ⟨fun pins s σ H R I h => ?_⟩
  refine Call_ (ld_blt I hg hm boot_enumerate (PyProof.Rows.callWith_type1 (thn (ha.run pos pins s σ H _ I h) fun us s1 ⟨vs, H1, I1, r1, q1⟩ => ?_) hs rfl))
  obtain ⟨a, ex, q⟩ := q1
  subst ex
  cases r1 with
  | cons r rr =>
    cases rr
    cases r
    rcases q with ⟨xs, hq, q⟩ | ⟨dx, fs, l, zs, hin, hl, hq, q⟩
    · obtain ⟨its, rv, p', hz⟩ := I1.list hq
      refine call_enumerate_list p'.isList fun h' he hit hsz hk => wpAny_pyIter_enum he ?_
      have I2 : Inv X pins σ H1 { s1 with heap := h' } := I1.kept (t' := s1.toks) hk
      refine ⟨s1.heap.objs.size + 1, [s1.heap.objs.size + 1, s1.heap.objs.size], _, _, H1, rfl, I2, turn_enum a (s1.heap.objs.size + 1) s1.heap.objs.size, ⟨⟨.none, he⟩, hit, Nat.succ_ne_self _⟩, fun b hb => ?_, q⟩
      have hle : s1.heap.objs.size ≤ b := by
        have e' : b = s1.heap.objs.size + 1 ∨ b = s1.heap.objs.size := by simpa using hb
        rcases e' with rfl | rfl
        · exact Nat.le_add_right _ _
        · exact Nat.le_refl _
      exact I1.fpOk hle (I1.hok.fresh hle)
    · obtain ⟨f, cc, me, run⟩ := d.ex
      obtain ⟨mA, J, _⟩ := ins_get I1.hok hin
      obtain ⟨od, J, _⟩ := J.look
      obtain ⟨mm, hF⟩ := I1.fr
      obtain ⟨j', rfl⟩ : ∃ j', j = j' + 2 := ⟨j - 2, by omega⟩
      have rmA : Rm k X.A.in1.in1 := ((hr.in1).in1).mono (by omega)
      have rc := run X.A.in1.in1 X.stack s1 H1 a dx l fs zs (fun v H' => ∃ it, v = .ref it ∧ H1 it = none ∧ s1.heap.objs.size ≤ it ∧ H' = upd H1 it (ItO l it 0)) rmA I1.env0.in1.in1 hin hl hq fun it h1 h2 => ⟨it, rfl, h1, h2, rfl⟩
      refine call_enum J.at_ ?_
      refine PySem.W.owit_iter hF I.ok.mod.kin J me.at_ me.fn (wpAny_call (codeAny_mono rc fun r s2 hq2 => ?_))
      match r, hq2 with
      | .error e, z =>
        obtain ⟨_, _, _, _, _, _, _, _, _, _, _, _, no⟩ := z
        exact no.elim
      | .ok .next, z => exact False.elim z
      | .ok .brk, z => exact False.elim z
      | .ok .cont, z => exact False.elim z
      | .ok (.ret u), z =>
        obtain ⟨v, H2, I2, rv, it, rfl, hn, hge, rfl⟩ := I1.after z
        obtain rfl : u = Value.ref it := rv
        have hi : s2.heap.get? it = some (GNX.itObj l 0) := itO_get I2 upd_same
        have hT : s2.TypeIs (.ref it) "list_iterator" := ⟨_, hi, rfl⟩
        refine wpAny_specialOf hT slot_listiter_next.lookup ?_
        refine ⟨it, rfl, fun h' he hsz hkp => ?_⟩
        have I3 := ItX.inv_drop I2 upd_same
        rw [ItX.dropH_upd hn] at I3
        have hlt : it < s2.heap.objs.size := Heap.lt_size hi
        refine wpAny_pyIter_enum he ?_
        have I4 : Inv X pins σ H1 { s2 with heap := h' } := I3.kept (t' := s2.toks) hkp
        refine ⟨s2.heap.objs.size, [s2.heap.objs.size, it], _, _, H1, rfl, I4, turn_enum l s2.heap.objs.size it, ⟨⟨.none, he⟩, ⟨_, hkp _ _ hi, rfl, rfl⟩, Nat.ne_of_gt hlt⟩, fun b hb => ?_, q⟩
        have e' : b = s2.heap.objs.size ∨ b = it := by simpa using hb
        rcases e' with rfl | rfl
        · exact I3.fpOk (Nat.le_refl _) (I3.hok.fresh (Nat.le_refl _))
        · have z := ItX.inv_fp I2 upd_same (Nat.le_trans I1.sz hge)
          rw [ItX.dropH_upd hn] at z
          exact z
/-- pairs of a number and an item -/
def enumT : Nat → List T → List T
  | _, [] => []
  | n, t :: r => .tup [.int (n : Int), t] :: enumT (n + 1) r
theorem enumT_get : ∀ (n i : Nat) (ts : List T) (t : T), (enumT n ts)[i]? = some t → ∃ u, ts[i]? = some u ∧ t = .tup [.int ((n + i : Nat) : Int), u]
  | n, i, [], t, h => by simp [enumT] at h
  | n, 0, u :: r, t, h => by
    simp only [enumT, List.getElem?_cons_zero, Option.some.injEq] at h
    exact ⟨u, by simp, h.symm⟩
  | n, i + 1, u :: r, t, h => by
    simp only [enumT, List.getElem?_cons_succ] at h
    obtain ⟨u', h1, h2⟩ := enumT_get (n + 1) i r t h
    exact ⟨u', by simpa using h1, by rw [h2]; congr 3; omega⟩
theorem enumT_len : ∀ (n : Nat) (ts : List T), (enumT n ts).length = ts.length
  | _, [] => rfl
  | n, _ :: r => congrArg (· + 1) (enumT_len (n + 1) r)
theorem src_enum {K : PySem.W.Frag} {Z : Addr → Prop} {s : S} {H : Hp} {a : Addr} {vs : List V} {ts : List T} {ok : S → Prop} (keep : ∀ s' H', Fut s H s' H' → SqL K H' a vs) (r : Reps K cl Z s H vs ts) : Src K cl Z (Ite K a) (enumT 0 ts) ok s H where
  go := fun Z' s2 H2 i t f zz ok so2 e => by
    obtain ⟨u, e1, rfl⟩ := enumT_get 0 i ts t e
    obtain ⟨v, ev, rv⟩ := r.get i e1
    refine ⟨⟨_, v, keep _ _ f, ev⟩, ?_⟩
    rintro y H' ⟨T0, x, rfl, hT, rfl, hx⟩
    have ex := hx _ (keep _ _ f)
    rw [ev] at ex
    cases ex
    refine ⟨Fut.new hT, so2.new hT, ?_⟩
    rw [Nat.zero_add]
    exact .tup upd_same (so2.nomut hT) (.cons (.int _) (.cons ((rv.futz f zz).fut (Fut.new hT)) .nil))
  stop := fun Z' s2 H2 i f zz ok so2 e => by
    rw [enumT_len] at e
    exact ⟨_, keep _ _ f, by rw [r.length]; exact e⟩
theorem lst_keep {K : PySem.W.Frag} {Z : Addr → Prop} {s : S} {H : Hp} {v : V} {xs : List T} (r : Rep K cl Z s H v (.lst xs)) : ∃ a vs, v = .ref a ∧ Reps K cl Z s H vs xs ∧ ∀ s' H', Fut s H s' H' → SqL K H' a vs := by
  cases r with
  | lst h n q => exact ⟨_, _, rfl, q, fun s' H' f => SqL.of (f.keep _ _ h n.1 (NT.lst _)).1⟩
/-- what enumerate walks: a list, or an instance of the class c by its field fn -/
def S.enum? (s : S) (c : Nat) (fn : Str) (x : T) : Option (List T) := match x with
  | .lst ts => some ts
  | _ => match s.obj? x with | some (d, fs) => if d = c then (match fs.lookup fn with | some (.lst ts) => some ts | _ => none) else none | none => none
def iEnum (c : Nat) (fn : Str) (A : FA) : FI := fun τ s Q E => A τ s (fun xs s1 => match xs with | [x] => (match s1.enum? c fn x with | some ts => Q (enumT 0 ts) (fun _ => True) s1 | none => False) | _ => False) E
theorem ji_enum {A : FA} (d : IterM X.prog X.w X.K X.mg X.base cl k c fn) (hr : Rm j X.A) (hk : k + 2 ≤ j) (hg : Gl X "enumerate") (hm : X.mg "enumerate" = none) (ha : JA X cl W [e] A) (hs : starEach [e] X.env = [(false, eval e X.env)] := by rfl) :
    JI X cl W (.Tuple elts kk tpos) (.Call (.Name "enumerate" p) [e] [] pos) (iEnum c fn A) := by
  refine ⟨fun τ s Q Q' E E' hq he h => ha.mon _ _ _ _ _ _ (fun xs s1 h1 => ?_) he h, PI.imp (pi_enumV d hr hk hg hm ha.pa hs) ?_⟩
  · split at h1
    · split at h1
      · exact hq _ _ _ h1
      · exact h1
    · exact h1
  rintro σ H R ⟨Z, τ, s, re, so, h⟩
  refine goA ha.mon re so h (fun ts s1 vs H1 p1 f1 re1 r1 so1 => ?_) fun _ _ q => q
  split at p1
  · rename_i x
    obtain ⟨v, rfl, rv⟩ := reps1 r1
    split at p1
    · rename_i ts e1
      unfold S.enum? at e1
      split at e1
      · cases e1
        obtain ⟨a, ws, rfl, rs, keep⟩ := lst_keep rv
        exact ⟨a, rfl, .inl ⟨ws, keep _ _ (Fut.refl _ _), p1 _ _ f1 so1 (src_enum keep rs)⟩⟩
      · split at e1
        · rename_i dd fs eo
          split at e1
          · rename_i ed
            subst ed
            split at e1
            · rename_i zs el
              cases e1
              obtain ⟨a, dx, fvs, rfl, hin, rf⟩ := obj_of so1 rv eo
              obtain ⟨u, eu, ru⟩ := rf.lookup el
              obtain ⟨l, ws, rfl, rs, keep⟩ := lst_keep ru
              exact ⟨a, rfl, .inr ⟨dx, fvs, l, ws, hin, eu, keep _ _ (Fut.refl _ _), p1 _ _ f1 so1 (src_enum keep rs)⟩⟩
            · cases e1
          · cases e1
        · cases e1
    · exact p1.elim
  · exact p1.elim
end
theorem rows_madeH : True := by
  have := @Mr.iEnum.eq_1
  have := @Mr.fAct.eq_1
  have := @Mr.fLam.eq_1
  trivial
end Mr

/-! The mirror layer: stars in displays, o[i] = v by an own __setitem__, max of two ints, match by texts. -/
namespace Mr
open PySem PySem.Spec PyProof.Rows L2 Tw
section
variable {X : Cx} {cl : CL} {W : WX} {k j cc : Nat} {e o i : Expr} {es : List Expr} {Fa Fo Fi : FE} {A : FA} {D : FD} {p pos pos' : Pos}
/-- *e, .. -/
def fStar (Fa : FE) (A : FA) : FA := fun τ s Q E => Fa τ s (fun x s1 => match s1.seq? x with | some (_, xs) => A τ s1 (fun ys s2 => Q (xs ++ ys) s2) E | none => False) E
theorem ja_star (ha : JE X cl W e Fa) (hr : JA X cl W es A) (hs : starEach (.Starred e p :: es) X.env = (true, eval e X.env) :: starEach es X.env := by rfl) : JA X cl W (.Starred e p :: es) (fStar Fa A) := by
  refine ⟨fun τ s Q Q' E E' hq he h => ha.mon _ _ _ _ _ _ (fun x s1 h1 => ?_) he h, PA.imp (StX.pa_star ha.pe hr.pa hs) ?_⟩
  · split at h1
    · exact hr.mon _ _ _ _ _ _ (fun xs s2 h2 => hq _ _ h2) he h1
    · exact h1
  rintro σ H Q ⟨Z, τ, s, re, so, h⟩
  refine go ha.mon re so h (fun tx s1 x H1 p1 f1 re1 r1 so1 => ?_) fun _ _ q => q
  split at p1
  · rename_i b xs e1
    obtain ⟨a, vs, rfl, sq, rs⟩ := seq_of so1 r1 e1
    refine ⟨a, vs, rfl, ?_, goA hr.mon re1 so1 p1 (fun ts s2 ws H2 p2 f2 re2 r2 so2 => p2 _ _ (f1.trans f2) (Reps.append (rs.fut f2) r2) so2) fun _ _ q => postW.up f1 q⟩
    cases b with
    | true => exact .inr (SqL.of (by rw [if_pos rfl] at sq; exact sq))
    | false => exact .inl (by rw [if_neg Bool.false_ne_true] at sq; exact sq)
  · exact p1.elim
/-- o[i] = v -/
def gSetV (K : PySem.W.Frag) (C : Addr) (sp : Sp) (W : WX) (to ti : TE) : TG := fun v σ H Q => to σ H fun x H1 => ti σ H1 fun y H2 => ∃ a dx fs, x = .ref a ∧ H2 a = some (.ins C dx fs) ∧ sp [.ref a, y, v] H2 (fun _ H3 => Q σ H3) fun c d H' => W c d σ H'
theorem pg_setO {sp : Sp} {to ti : TE} {C : Addr} (tk : Takes X W) (d : Met X.prog X.w X.K X.mg X.base k C "__setitem__" sp []) (ns : PySem.W.noSeq X.K C = true) (hr : Rm j X.A) (hk : k ≤ j) (ho : PE X o to) (hi : PE X i ti)
    (ha : ∀ v, assign (.Subscript o i pos) X.env v = (do
      let ov ← holding [v] (eval o X.env)
      let iv ← holding [v, ov] (eval i X.env)
      standAt pos
      holding [v, ov, iv] (setItem ov iv v)
      release [v, ov, iv] []) := by intro _; rfl) : PG X (.Subscript o i pos) (gSetV X.K C sp W to ti) := by
  refine ⟨fun pins s σ H v u Q I r h => ?_⟩
  rw [ha]
  refine wpAny_bind (wpAny_holding (thn (ho.run pins s σ H _ I h) ?_))
  rintro ov s1 ⟨x, H1, I1, r1, q1⟩
  refine wpAny_bind (wpAny_holding (thn (hi.run pins s1 σ H1 _ I1 q1) ?_))
  rintro iv s2 ⟨y, H2, I2, r2, a, dx, fs, rfl, hin, q2⟩
  cases r1
  obtain ⟨f, fd, ps, ds, hc, me, F, b, dv⟩ := d.ex
  obtain ⟨mA, J, _⟩ := ins_get I2.hok hin
  obtain ⟨od, J, _⟩ := J.look
  obtain ⟨mm, hF⟩ := I2.fr
  refine wpAny_bind (wpAny_standAt (wpAny_bind (wpAny_holding ?_)))
  refine PySem.W.ksp_setItem hF I2.ok.mod.kin J ns me.at_ me.fn (wpAny_mono (runG (us := [.ref a, iv, u]) (vs := [.ref a, y, v]) F (hr.mono hk) b dv (pass_tk tk) I2 (.cons rfl (.cons r2 (.cons r .nil))) q2) ?_ fun _ _ z => z)
  rintro w s3 ⟨_, H3, I3, _, q3⟩
  exact wpAny_release ⟨σ, H3, I3, q3⟩
def fSetO (cc : Nat) (D : FD) (Fo Fi Fa : FE) : FS := fun τ s E => Fa τ s (fun v s1 => Fo τ s1 (fun x s2 => Fi τ s2 (fun y s3 => kObj cc s3 x (cM D [x, y, v] s3 (fun _ s4 => E.nx τ s4) (xk τ E))) (xk τ E)) (xk τ E)) (xk τ E)
theorem js_setO (tk : Takes X W) (d : MetM X.prog X.w X.K X.mg X.base cl k cc "__setitem__" D []) (ns : PySem.W.noSeq X.K (cl cc) = true) (hr : Rm j X.A) (hk : k ≤ j) (ho : JE X cl W o Fo) (hi : JE X cl W i Fi) (he : JE X cl W e Fa)
    (hs : swapsWithSole [.Subscript o i pos] e pos'.line X.env = pure false := by rfl) (hw : swappedStores [.Subscript o i pos] e X.env = pure none := by rfl) (h1 : (assignEach [.Subscript o i pos] X.env).map (·.2) = [assign (.Subscript o i pos) X.env] := by rfl)
    (ha : ∀ v, assign (.Subscript o i pos) X.env v = (do
      let ov ← holding [v] (eval o X.env)
      let iv ← holding [v, ov] (eval i X.env)
      standAt pos
      holding [v, ov, iv] (setItem ov iv v)
      release [v, ov, iv] []) := by intro _; rfl) : JS X cl W (.Assign [.Subscript o i pos] e pos') (fSetO cc D Fo Fi Fa) := by
  obtain ⟨dvs, d, hd⟩ := d.ex
  obtain rfl := no_dvs hd
  refine ⟨fun τ s D1 D2 le h => he.mon _ _ _ _ _ _ (fun v s1 q => ho.mon _ _ _ _ _ _ (fun x s2 q => hi.mon _ _ _ _ _ _ (fun y s3 q => q.mon fun z => z.mon (fun _ _ n => le.nx _ _ n) fun _ _ n => le.xr _ _ _ n) (fun _ _ q => le.xr _ _ _ q) q) (fun _ _ q => le.xr _ _ _ q) q) (fun _ _ q => le.xr _ _ _ q) h,
    PS.imp (ps_asg he.pe (pg_setO tk d ns hr hk ho.pe hi.pe ha) hs hw h1) ?_⟩
  rintro D1 σ H ⟨Z, τ, s, re, so, h⟩
  refine go he.mon re so h (fun tv s1 v H1 p1 f1 re1 r1 so1 => ?_) fun _ _ q => xe_w re q
  refine go ho.mon re1 so1 p1 (fun tx s2 x H2 p2 f2 re2 r2 so2 => ?_) fun _ _ q => postW.up f1 (xe_w re q)
  refine go hi.mon re2 so2 p2 (fun ty s3 y H3 p3 f3 re3 r3 so3 => ?_) fun _ _ q => postW.up (f1.trans f2) (xe_w re q)
  obtain ⟨a, dx, fvs, e1, hin, p⟩ := p3.get so3 (r2.fut f3)
  have fu := f1.trans (f2.trans f3)
  refine ⟨a, dx, fvs, e1, hin, Z, [tx, ty, tv], s3, .cons (e1 ▸ r2.fut f3) (.cons r3 (.cons ((r1.fut f2).fut f3) .nil)), so3, p.mon (fun t s4 q => ?_) fun er s4 q => ?_⟩
  · intro v4 H4 f4 _ so4
    exact q σ H4 (fu.trans f4) (re3.fut f4) so4
  · exact postX.up fu (xe_w re q)
/-! ### max(a, b) -/
def maxO : ON
  | _, [.int i, .int j] => some (True, .int (if j > i then j else i))
  | _, _ => none
theorem c_max2 (hc : X.calm = true) : BC X cl (.builtin "max") maxO := by
  refine ⟨_, call_max2 hc, fun Z H xs Q s ts c t r so e _ p => ?_⟩
  unfold maxO at e
  split at e
  · cases e
    obtain ⟨v, w, rfl, rv, rw⟩ := reps2 r
    cases rep_i rv
    cases rep_i rw
    exact ⟨_, _, rfl, p.here (.int _) so⟩
  · cases e
/-! ### match, by written texts -/
structure JM (X : Cx) (cl : CL) (W : WX) (cs : List MatchCase) (M : Str → FS) : Prop where
  mon : ∀ z, MonS (M z)
  run : ∀ (z : Str) (u : Value) (first : Bool) (pins : List (Addr × Obj)) (s : Shared) (σ : L2.St) (H : Hp) (D : Ends), RelV (.str z) u → Inv X pins σ H s → tTS X.K cl W (M z) D σ H → wpAny (model X.prog X.w) X.A (matchCases cs X.env u first) (SP X pins D) X.xe s
theorem jm_nil : JM X cl W [] (fun _ => fSkip) := by
  refine ⟨fun _ τ s D D' le h => le.nx _ _ h, fun z u first pins s σ H D _ I h => ?_⟩
  obtain ⟨Z, τ, s, re, so, h⟩ := h
  exact wpAny_matchCases_nil ⟨σ, H, I, h σ H (Fut.refl _ _) re so⟩
def mCase (c : Str) (B : FS) (M : Str → FS) : Str → FS := fun z τ s D => if decide (z = c) = true then B τ s D else M z τ s D
theorem jm_cons {c : Str} {kk : Nat} {p1 p2 : Pos} {body : List Stmt} {rest : List MatchCase} {B : FS} {M : Str → FS} (hb : JSs X cl W body B) (hr : JM X cl W rest M) : JM X cl W (⟨.MatchValue (.Constant (.str c) kk p1) p2, none, body⟩ :: rest) (mCase c B M) := by
  refine ⟨fun z τ s D D' le h => w_ite h (hb.mon _ _ _ _ le) (hr.mon z _ _ _ _ le), fun z u first pins s σ H D rz I h => ?_⟩
  obtain ⟨t, rfl⟩ := rz
  refine wpAny_matchCases_cons (wpAny_matchPattern_Value ?_)
  refine thn ((pe_str (x := c) (j := kk) (pos := p1)).run pins s σ H (fun v H1 => v = .str c ∧ H1 = H) I ⟨rfl, rfl⟩) ?_
  rintro w s1 ⟨v, H1, I1, rv, rfl, rfl⟩
  refine thn (op_eq pins s1 σ H1 (.str z) (.str c) (.str z t) w (fun v H2 => v = .bl (decide (z = c)) ∧ H2 = H1) I1 ⟨t, rfl⟩ rv ⟨rfl, by simp, rfl⟩) ?_
  rintro b s2 ⟨v, H2, I2, rb, rfl, rfl⟩
  obtain rfl : b = Value.bool (decide (z = c)) := rb
  refine wpAny_truthy_bool ?_
  obtain ⟨Z, τ, sm, re, so, h⟩ := h
  unfold mCase at h
  by_cases q : z = c
  · rw [decide_eq_true q] at h ⊢
    rw [if_pos rfl] at h ⊢
    exact wpAny_assignInOrder_none (hb.pss.run pins s2 σ H2 D I2 ⟨Z, τ, sm, re, so, h⟩)
  · rw [decide_eq_false q] at h ⊢
    rw [if_neg Bool.false_ne_true] at h ⊢
    exact hr.run z _ false pins s2 σ H2 D ⟨t, rfl⟩ I2 ⟨Z, τ, sm, re, so, h⟩
def fMatch (Fa : FE) (M : Str → FS) : FS := fun τ s D => Fa τ s (fun x s1 => match x with | .str z => M z τ s1 D | _ => False) (xk τ D)
theorem js_match {cs : List MatchCase} {M : Str → FS} (he : JE X cl W e Fa) (hm : JM X cl W cs M) : JS X cl W (.Match e cs pos) (fMatch Fa M) := by
  refine ⟨fun τ s D D' le h => he.mon _ _ _ _ _ _ (fun x s1 q => ?_) (fun _ _ q => le.xr _ _ _ q) h, ⟨fun pins sh σ H D I h => ?_⟩⟩
  · split at q
    · exact hm.mon _ _ _ _ _ le q
    · exact q
  obtain ⟨Z, τ, s, re, so, h⟩ := h
  have h' : tT X.K cl W Fa σ H fun x H1 => ∃ z, x = .str z ∧ tTS X.K cl W (M z) D σ H1 := by
    refine go he.mon re so h (fun tx s1 x H1 p1 f1 re1 r1 so1 => ?_) fun _ _ q => xe_w re q
    split at p1
    · cases rep_s r1
      exact ⟨_, rfl, goS (hm.mon _) re1 so1 p1 (postD.up f1)⟩
    · exact p1.elim
  refine wpAny_Match (thn (he.pe.run pins sh σ H _ I h') ?_)
  rintro u s1 ⟨x, H1, I1, rx, z, rfl, q⟩
  exact hm.run z u true pins s1 σ H1 D rx I1 q
end
theorem rows_madeI : True := by
  have := @Mr.fStar.eq_1
  have := @Mr.fSetO.eq_1
  have := @Mr.mCase.eq_1
  have := @Mr.fMatch.eq_1
  trivial
end Mr

/-! The mirror layer: defs that make lambdas, defs that get them; boxes. -/
namespace Mr
open PySem PySem.Spec PyProof.Rows L2 Tw
section
variable {P : Program} {w : World} {K : PySem.W.Frag} {mg : Str → Option Value} {base : Heap} {cl : CL} {k : Nat} {x qual : Str} {st : Stmt} {ps N : List Str} {dvs : List V} {dts : List T} {D : FD} {B : FS} {c : Addr}
/-- a def whose code object is known -/
theorem fnGC {f : Addr} {fd : FuncData} {sp : Sp} (F : C8.Fun K x qual st f fd) (hc : fd.code = .ref c) (S : FnScope N ps (C8.fnScope st)) (len : ∀ vs H Q E, sp vs H Q E → vs.length = ps.length)
    (hb : ∀ (A : Around) (out : List PySem.Env) (s : Shared) (H : Hp) (vs : List V) (Q : VK) (E : XK), Rm k (A.deeper (envOfC qual (C8.fnScope st) s.heap.objs.size f (.ref c))) → sp vs H Q E →
      ∃ t, PSs (cxOf (L2.CX P w) P w K mg base N qual (C8.fnScope st) f (.ref c) A out s H E) (C8.fnBody st) t ∧ t { nx := fun _ H' => Q .non H', rt := Q } (L2.start N vs) H) : FnG P w K mg base (k + 1) f fd ps sp := by
  obtain ⟨oc, od, dV, kV, doc, pm, an, cdv, ct, osl, rfl, lk, hcd⟩ := F.ex
  have e : cdv = .ref c := hc
  subst e
  exact fnG lk hcd S len fun A out s H vs Q E rm want => hb A out s H vs Q E rm want
abbrev WalkC (P : Program) (w : World) (K : PySem.W.Frag) (mg : Str → Option Value) (base : Heap) (cl : CL) (k : Nat) (N : List Str) (qual : Str) (st : Stmt) (c : Addr) (B : FS) : Prop :=
  ∀ (f : Addr) (A : Around) (out : List PySem.Env) (s : Shared) (H : Hp) (E : XK), Rm k (A.deeper (envOfC qual (C8.fnScope st) s.heap.objs.size f (.ref c))) →
      JSs (cxOf (L2.CX P w) P w K mg base N qual (C8.fnScope st) f (.ref c) A out s H E) cl (fun cls d _ H' => E cls d H') (C8.fnBody st) B
theorem fnMC (S : FnScope N ps (C8.fnScope st)) (len : ∀ ts s Q E, D ts s Q E → ts.length = ps.length) (hB : WalkC P w K mg base cl k N qual st c B)
    (hF : ∀ ts s Q E, D ts s Q E → B (startT N ts) s (endsM Q E)) : ∀ {x : Str} {f : Addr} {fd : FuncData}, C8.Fun K x qual st f fd → fd.code = .ref c → FnG P w K mg base (k + 1) f fd ps (spM K cl D) :=
  fun F hc => fnGC F hc S (spM.len len) fun A out s H vs Q E hr h => body_go (hB _ A out s H E hr) hF h
/-- .. that leaves cells of its own behind -/
theorem fnDC (S : FnScope N ps (C8.fnScope st)) (len : ∀ ts s Q E, D ts s Q E → ts.length = ps.length) (hB : WalkC P w K mg base cl k N qual st c B)
    (hF : ∀ ts s Q E, D ts s Q E → B (startT N ts) s (endsM (shQ Q) (shX E))) : ∀ {x : Str} {f : Addr} {fd : FuncData}, C8.Fun K x qual st f fd → fd.code = .ref c → FnG P w K mg base (k + 1) f fd ps (spM K cl D) :=
  fun F hc => fnGC F hc S (spM.len len) fun A out s H vs Q E hr h => by
    obtain ⟨Z, ts, s, r, so, Q0, E0, h1, h2, h3⟩ := h
    have hb := hB _ A out _ H E hr
    refine ⟨_, hb.pss, Z, startT N ts, s, RepE.start r, so, hb.mon _ _ _ _ ?_ (hF _ _ _ _ h1)⟩
    refine ⟨fun τ s' q σ H' f _ so' => ?_, fun t s' q => ?_, fun τ s' q => q.elim, fun τ s' q => q.elim, fun er τ s' q d fvs σ H' f e m rf _ so' => ?_⟩
    · obtain ⟨s2, sh, q⟩ := q
      exact post.shr sh (h2 _ _ q) _ _ f .non so'
    · obtain ⟨s2, sh, q⟩ := q
      exact post.shr sh (h2 _ _ q)
    · obtain ⟨s2, sh, q⟩ := q
      exact postX.shr sh (h3 _ _ q) d fvs H' f e m rf so'
structure DefAtC (K : PySem.W.Frag) (mg : Str → Option Value) (x : Str) (st : Stmt) (ps : List Str) (dvs : List V) (c : Addr) : Prop where
  ex : ∃ (f : Addr) (fd : FuncData) (ds : List Value), C8.Fun K x x st f fd ∧ mg x = some (.ref f) ∧ PySem.W.keepIn K (.ref f) = true ∧ Binds K fd ps ds ∧ Vals dvs ds ∧ fd.code = .ref c
theorem calOfC (d : DefAtC K mg x st ps dvs c) (hd : ∀ Z s H, Reps K cl Z s H dvs dts) (fn : ∀ {y : Str} {f : Addr} {fd : FuncData}, C8.Fun K y x st f fd → fd.code = .ref c → FnG P w K mg base k f fd ps (spM K cl D)) : CalM P w K mg base cl k x D dts := by
  obtain ⟨f, fd, ds, F, g, kp, b, v, hc⟩ := d.ex
  exact ⟨dvs, ⟨f, fd, ps, ds, fn F hc, g, kp, b, v⟩, hd⟩
theorem lamOf {a : Str} {L : FH} (d : DefAt K mg x st [a] []) (S : FnScope N [a] (C8.fnScope st)) (hN : N[0]? = some a) (hv : Vis (C8.fnScope st) a) (hd : (a == ("__debug__" : Str)) = false) (hcd : (a == ("__classdict__" : Str)) = false)
    (h : ∀ (φ : PH) (t0 : T), MonP φ → ∃ B : FS, (∀ s Q E, L φ s Q E → B (startT N [t0]) s (endsM Q E)) ∧
      ∀ (g : Addr) (cdv : Value) (A : Around) (out : List PySem.Env) (s : Shared) (H : Hp) (E : XK), Rm k (A.deeper (envOfC x (C8.fnScope st) s.heap.objs.size g cdv)) →
        Acts (cxOf (L2.CX P w) P w K mg base N x (C8.fnScope st) g cdv A out s H E) cl a t0 φ →
        JSs (cxOf (L2.CX P w) P w K mg base N x (C8.fnScope st) g cdv A out s H E) cl (fun cls d _ H' => E cls d H') (C8.fnBody st) B) : LamOk P w K mg base cl k x L := by
  obtain ⟨f, fd, ds, F, g, kp, b, v⟩ := d.ex
  cases v
  refine ⟨f, fd, a, N, st, F, g, kp, b, S, hN, hv, hd, hcd, fun φ t0 m => ?_⟩
  obtain ⟨B, h1, h2⟩ := h φ t0 m
  exact ⟨B, h1, fun cdv A out s H E hr act => h2 f cdv A out s H E hr act⟩
end
/-! boxes -/
def hP (φ : PH) (s : S) [q : Bx KT] [e : Bx KX] : Prop := φ s q.v e.v
theorem hold_act {i : Nat} {t0 : T} {φ : PH} {τ : Env} {s : S} {Q : KT} {E : KX} : fAct i t0 φ τ s Q E = (τ[i]? = some (some t0) ∧ @hP φ s ⟨Q⟩ ⟨E⟩) := rfl
theorem hP.of {φ : PH} {s : S} {Q : KT} {E : KX} (h : φ s Q E) : @hP φ s ⟨Q⟩ ⟨E⟩ := h
def hH (D : FH) (s : S) [f : Bx PH] [q : Bx KT] [e : Bx KX] : Prop := cH D f.v s q.v e.v
theorem hold_lam {D : FH} {Fb : FE} {τ : Env} {s : S} {Q : KT} {E : KX} : fLam D Fb τ s Q E = @hH D s ⟨fun s Q E => Fb τ s Q E⟩ ⟨Q⟩ ⟨E⟩ := rfl
theorem hH.of {D : FH} {φ : PH} {s : S} {Q : KT} {E : KX} (h : D φ s Q E) : @hH D s ⟨φ⟩ ⟨Q⟩ ⟨E⟩ := cH.of h
end Mr

namespace Mr
open PySem PySem.Spec PyProof.Rows L2 Tw
section
variable {ok : S → Prop} {te : FE} {τ : Env} {s : S} {Q : List T → S → Prop} {i j : Nat}
/-- [f(x) for k, x in enumerate(xs)], nothing changes -/
theorem lc_enum (f : T → T) : ∀ {xs acc : List T} {n : Nat}, (∀ (k : Nat) (t : T), t ∈ xs → ∀ Q : KT, Q (f t) s → te ((τ.set i (some (.int (k : Int)))).set j (some t)) s Q noX) → acc.length + xs.length ≤ 1000000 → Q (acc ++ xs.map f) s → ok s →
    lcT ok (gT 2 (gsCons (gN i) (gsCons (gN j) gsNil))) fYes te τ (enumT n xs) acc s Q
  | [], acc, n, _, _, k, ho => ⟨ho, by simpa using k⟩
  | x :: xs, acc, n, h, hl, k, ho => by
    rw [List.length_cons] at hl
    refine ⟨ho, by omega, rfl, ?_⟩
    show (if true = true then te ((τ.set i (some (.int (n : Int)))).set j (some x)) s (fun y s3 => lcT ok (gT 2 (gsCons (gN i) (gsCons (gN j) gsNil))) fYes te τ (enumT (n + 1) xs) (acc ++ [y]) s3 Q) noX else lcT ok (gT 2 (gsCons (gN i) (gsCons (gN j) gsNil))) fYes te τ (enumT (n + 1) xs) acc s Q)
    refine w_T (h n x List.mem_cons_self _ ?_)
    refine lc_enum f (fun k t ht => h k t (List.mem_cons_of_mem _ ht)) (by simp; omega) ?_ ho
    simpa using k
end
/-! cuts of lists -/
theorem cut_to {xs : List T} {i : Int} (h : 0 ≤ i) : cutT xs none (some i) = xs.take i.toNat := by
  unfold cutT
  have e : HT.sIx xs.length xs.length (some i) = min i.toNat xs.length := by
    have := HT.sIx_nat xs.length xs.length i.toNat
    rw [Int.toNat_of_nonneg h] at this
    exact this
  rw [HT.sIx_none, e, List.drop_zero, Nat.sub_zero, ← List.take_take, List.take_length]
theorem cut_from {xs : List T} {i : Int} (h : 0 ≤ i) : cutT xs (some i) none = xs.drop i.toNat := by
  unfold cutT
  have e : HT.sIx xs.length 0 (some i) = min i.toNat xs.length := by
    have := HT.sIx_nat xs.length 0 i.toNat
    rw [Int.toNat_of_nonneg h] at this
    exact this
  rw [HT.sIx_none, e]
  by_cases q : i.toNat ≤ xs.length
  · rw [Nat.min_eq_left q, List.take_of_length_le (by rw [List.length_drop]; exact Nat.le_refl _)]
  · rw [Nat.min_eq_right (by omega), List.drop_of_length_le (Nat.le_refl _), List.drop_of_length_le (by omega), List.take_nil]
theorem cut_both {xs : List T} {i j : Int} (h : 0 ≤ i) (h2 : 0 ≤ j) : cutT xs (some i) (some j) = (xs.take j.toNat).drop i.toNat := by
  unfold cutT
  have e : HT.sIx xs.length 0 (some i) = min i.toNat xs.length := by
    have := HT.sIx_nat xs.length 0 i.toNat
    rw [Int.toNat_of_nonneg h] at this
    exact this
  have e2 : HT.sIx xs.length xs.length (some j) = min j.toNat xs.length := by
    have := HT.sIx_nat xs.length xs.length j.toNat
    rw [Int.toNat_of_nonneg h2] at this
    exact this
  rw [e, e2, List.take_drop]
  by_cases q : i.toNat ≤ xs.length
  · rw [Nat.min_eq_left q]
    by_cases q2 : i.toNat ≤ min j.toNat xs.length
    · rw [Nat.add_sub_cancel' q2, ← List.take_take, List.take_length]
    · rw [Nat.sub_eq_zero_of_le (by omega), Nat.add_zero, List.drop_of_length_le (by rw [List.length_take]; omega), List.drop_of_length_le (by rw [List.length_take]; omega)]
  · rw [Nat.min_eq_right (by omega : xs.length ≤ i.toNat), List.drop_of_length_le (by rw [List.length_take]; omega), List.drop_of_length_le (by rw [List.length_take]; omega)]
end Mr

/-! The mirror layer: an instance on either side of an operator, beside a list or a tuple; own operators in place. -/
namespace Mr
open PySem PySem.Spec PyProof.Rows L2 Tw
theorem look_ty {X : Cx} {pins : List (Addr × Obj)} {σ : L2.St} {H : Hp} {s : Shared} {v : V} {u t : Value} (I : Inv X pins σ H s) (ry : RelV v u) (ty : TyE X.K H v t) : PySem.W.Looks (model X.prog X.w) s.heap (typeOf u) t := by
  rcases ty with ty | ⟨b, d, D, gs, rfl, rfl, T, eb, ed⟩
  · obtain ⟨P, Z, p, _⟩ := kit_of I ry ty
    exact Z.ty (model X.prog X.w) s.heap I.kIn p
  · obtain rfl : u = Value.ref b := ry
    obtain ⟨oe, vs, hget, hz, hd⟩ := exV_at I.hok eb
    intro A Q E s k q
    refine wpAny_typeOf_ref (k _ _ hget) ?_
    rw [hz.1]
    exact q
section
open PySem.W
variable {prog : Program} {w : World} {A : Around} {E : Value → Shared → Prop} {s : Shared} {K : Frag} {x C f g : Addr} {ox : Obj} {od : Option Obj} {T : String}
theorem unlike (T : String) (C : Addr) : (Value.ref C == Value.type T) = false ∧ (Value.type T == Value.ref C) = false := ⟨beq_eq_false_iff_ne.mpr nofun, beq_eq_false_iff_ne.mpr nofun⟩
/-- an instance on the left of a thing of a built-in kind -/
theorem bin_left {op : Operator} {b : Value} {fo ro rc : Option Value} {Q : Value → Shared → Prop} (X : K.In s.heap) (I : InstAt s.heap x ox C od) (kb : Looks (model prog w) s.heap (typeOf b) (.type T)) (sf : selfFirst K C = true)
    (own : findIn K (.ref C) (PySem.dunder op.info.2) = some (some (.ref f))) (isf : isFn K (.ref f) = true) (refl : findIn K (.ref C) (dunderR op.info.2) = some rc) (py : rc = none ∨ ∃ g : Addr, rc = some (.ref g))
    (kf : findIn K (.type T) (PySem.dunder op.info.2) = some fo) (kr : findIn K (.type T) (dunderR op.info.2) = some ro) (nsub : subIn K (.type T) (.ref C) = some false)
    (h : wpAny (model prog w) A (call (.ref f) [.ref x, b]) (PySem.W.CmpBack Q) E s) : wpAny (model prog w) A (binaryOp op (.ref x) b) Q E s := by
  rcases ksp_first sf with ⟨cd, rest, c1, c2⟩
  have run := ksp_try X I own isf h
  rcases info : op.info with ⟨sym, nm⟩
  simp only [info] at own refl kf kr run
  obtain ⟨hp, gn, dr, tk, io⟩ := s
  have tx : Looks (model prog w) hp (typeOf (.ref x)) (.ref C) := I.type
  have tb : Looks (model prog w) hp (typeOf b) (.type T) := kb
  have fx : Looks (model prog w) hp (fillsNumberSlot (.ref C) nm) true := fills_K X c1 c2 own
  have fb := ksp_fillsT (M := model prog w) X kf kr
  have sb : Looks (model prog w) hp (isSubtype (.type T) (.ref C)) false := looks_subIn X nsub
  have px : Looks (model prog w) hp (numberSlotInPython (.ref C) nm) true := ksp_inPy X own refl py
  have pb : Looks (model prog w) hp (numberSlotInPython (.type T) nm) false := .of_pure rfl
  have lr : Looks (model prog w) hp (typeLookup (.type T) (dunderR nm)) ro := looks_findIn X kr
  have ne := (unlike T C).1
  revert fb
  cases ((fo.isSome && !isSeqSlot fo) || (ro.isSome && !isSeqSlot ro)) <;> intro fb
  all_goals (
    simp only [binaryOp, info]
    apply wpAny_holding
    apply wpAny_bind
    unfold binaryOp1
    refine wpAny_bind (tx.at (wpAny_bind (tb.at (wpAny_bind (fx.at ?_)))))
    rw [if_neg (by rw [ne]; exact Bool.false_ne_true)]
    ksp_lk
    refine wpAny_mono run ?_ fun _ _ z => z
    rintro r t ⟨v, rfl, q⟩
    ksp_lk
    exact q)
/-- an instance on the right of a thing of a built-in kind that fills no slot of this operator -/
theorem bin_right {op : Operator} {b : Value} {fo ro : Option Value} {Q : Value → Shared → Prop} (X : K.In s.heap) (I : InstAt s.heap x ox C od) (kb : Looks (model prog w) s.heap (typeOf b) (.type T)) (sf : selfFirst K C = true)
    (own : findIn K (.ref C) (PySem.dunder op.info.2) = some (some (.ref f))) (refl : findIn K (.ref C) (dunderR op.info.2) = some (some (.ref g))) (isf : isFn K (.ref g) = true)
    (kf : findIn K (.type T) (PySem.dunder op.info.2) = some fo) (kr : findIn K (.type T) (dunderR op.info.2) = some ro) (no : ((fo.isSome && !isSeqSlot fo) || (ro.isSome && !isSeqSlot ro)) = false)
    (h : wpAny (model prog w) A (call (.ref g) [.ref x, b]) (PySem.W.CmpBack Q) E s) : wpAny (model prog w) A (binaryOp op b (.ref x)) Q E s := by
  rcases ksp_first sf with ⟨cd, rest, c1, c2⟩
  have run := ksp_try X I refl isf h
  rcases info : op.info with ⟨sym, nm⟩
  simp only [info] at own refl kf kr run
  obtain ⟨hp, gn, dr, tk, io⟩ := s
  have tx : Looks (model prog w) hp (typeOf (.ref x)) (.ref C) := I.type
  have tb : Looks (model prog w) hp (typeOf b) (.type T) := kb
  have fx : Looks (model prog w) hp (fillsNumberSlot (.ref C) nm) true := fills_K X c1 c2 own
  have fb := ksp_fillsT (M := model prog w) X kf kr
  have ne := (unlike T C).2
  rw [no] at fb
  simp only [binaryOp, info]
  apply wpAny_holding
  apply wpAny_bind
  unfold binaryOp1
  refine wpAny_bind (tb.at (wpAny_bind (tx.at (wpAny_bind (fb.at ?_)))))
  rw [if_neg (by rw [ne]; exact Bool.false_ne_true)]
  refine wpAny_bind (fx.at ?_)
  ksp_lk
  refine wpAny_mono run ?_ fun _ _ z => z
  rintro r t ⟨v, rfl, q⟩
  ksp_lk
  exact q
end
/-- what a class must say of an operator for lists and tuples on the right -/
def OpL (K : PySem.W.Frag) (C : Addr) (T : String) (op : Operator) : Prop := ∃ fo ro : Option Value, PySem.W.findIn K (.type T) (PySem.dunder op.info.2) = some fo ∧ PySem.W.findIn K (.type T) (dunderR op.info.2) = some ro ∧ PySem.W.subIn K (.type T) (.ref C) = some false ∧ ((fo.isSome && !isSeqSlot fo) || (ro.isSome && !isSeqSlot ro)) = false
section
variable {X : Cx} {cl : CL} {W : WX} {k j cc : Nat} {D DR : FD} {m mr : Str} {op : Operator}
/-- whether a tree is a list or a tuple -/
def S.sq? (s : S) (t : T) : Bool := match s.ty? t with | some (.list, _) | some (.tup, _) => true | _ => false
theorem sq_ty {K : PySem.W.Frag} {Z : Addr → Prop} {s : S} {H : Hp} {v : V} {t : T} (so : Sto K cl Z s H) (r : Rep K cl Z s H v t) (e : s.sq? t = true) : TyE K H v (.type "list") ∨ TyE K H v (.type "tuple") := by
  unfold S.sq? at e
  split at e
  · rename_i g q
    refine .inl ?_
    cases t <;> simp only [S.ty?] at q <;> first | (cases q; done) | skip
    · obtain ⟨a, vs, rfl, hq, rs⟩ := lst_of so r rfl; exact .inl (.base (.lst hq))
    · rename_i a
      split at q <;> first | (cases q; done) | skip
      rename_i xs e1
      obtain ⟨a, vs, rfl, hq, rs⟩ := lst_of (xs := xs) so r (by unfold S.lst?; simp only [e1]); exact .inl (.base (.lst hq))
  · rename_i g q
    refine .inr ?_
    cases t <;> simp only [S.ty?] at q <;> first | (cases q; done) | skip
    · cases r with
      | tup h _ _ => exact .inl (.base (.tup h))
      | tupK a b _ _ _ _ => exact .inl (.kTuple a b)
    · rename_i a
      split at q <;> cases q
  · cases e
/-- own operators of one class, a list or a tuple perhaps on one side -/
def gBag (cc : Nat) (D DR : FD) : S → T → T → KT → KX → Prop := fun s x y Q E => match s.obj? x with
  | some (c, _) => c = cc ∧ ((∃ fs, s.obj? y = some (cc, fs)) ∨ s.sq? y = true) ∧ cM D [x, y] s Q E
  | none => match s.obj? y with
    | some (c, _) => c = cc ∧ s.sq? x = true ∧ cM DR [y, x] s Q E
    | none => False
theorem mon_bag : Mon2 (gBag cc D DR) := by
  intro s x y Q Q' E E' hq he h
  unfold gBag at h ⊢
  split at h
  · exact ⟨h.1, h.2.1, h.2.2.mon hq he⟩
  · split at h
    · exact ⟨h.1, h.2.1, h.2.2.mon hq he⟩
    · exact h
theorem o_bag (tk : Takes X W) (d : MetM X.prog X.w X.K X.mg X.base cl k cc m D []) (dR : MetM X.prog X.w X.K X.mg X.base cl k cc mr DR []) (hsf : PySem.W.selfFirst X.K (cl cc) = true) (hl : OpL X.K (cl cc) "list" op) (ht : OpL X.K (cl cc) "tuple" op) (hr : Rm j X.A) (hk : k ≤ j)
    (hm : PySem.dunder op.info.2 = m := by rfl) (hmr : dunderR op.info.2 = mr := by rfl) : Mr.OpT X cl W (binaryOp op) (gBag cc D DR) := by
  obtain ⟨dvs, d, hd⟩ := d.ex
  obtain rfl := no_dvs hd
  obtain ⟨dvs, dR, hd⟩ := dR.ex
  obtain rfl := no_dvs hd
  refine ⟨mon_bag, fun Z pins sh σ H x y v u Q s tx ty I rx ry px py so q => ?_⟩
  obtain ⟨f, fd, ps, ds, hc, me, F, bd, dv⟩ := d.ex
  obtain ⟨g, gd, gs, es, hcR, meR, FR, bdR, dvR⟩ := dR.ex
  subst hm
  subst hmr
  obtain ⟨mm, hF⟩ := I.fr
  have nt : ∀ {z : V} {t : T} {uz : Value}, s.sq? t = true → Rep X.K cl Z s H z t → RelV z uz → ∃ T : String, OpL X.K (cl cc) T op ∧ PySem.W.Looks (model X.prog X.w) sh.heap (typeOf uz) (.type T) := by
    intro z t uz e r rz
    rcases sq_ty so r e with h | h
    · exact ⟨_, hl, look_ty I rz h⟩
    · exact ⟨_, ht, look_ty I rz h⟩
  unfold gBag at q
  split at q
  · rename_i c fs e1
    obtain ⟨rfl, ey, q⟩ := q
    obtain ⟨a, dx, fvs, rfl, ha, _⟩ := obj_of so px e1
    cases rx
    obtain ⟨mA, J, _⟩ := ins_get I.hok ha
    obtain ⟨od, J, _⟩ := J.look
    have fin : wpAny (model X.prog X.w) X.A (call (.ref f) [.ref a, u]) (PySem.W.CmpBack (EP X pins σ Q)) X.xe sh := by
      refine wpAny_mono (runG (us := [.ref a, u]) (vs := [.ref a, y]) F (hr.mono hk) bd dv (pass_tk tk) I (.cons rfl (.cons ry .nil)) ?_) (fun _ _ z => cmpBack_of z) fun _ _ z => z
      exact ⟨Z, [tx, ty], s, .cons px (.cons py .nil), so, q⟩
    rcases ey with ⟨fs', e2⟩ | e2
    · obtain ⟨b, dy, gvs, rfl, hb, _⟩ := obj_of so py e2
      cases ry
      obtain ⟨mB, J', _⟩ := ins_get I.hok hb
      obtain ⟨od', J', _⟩ := J'.look
      exact PySem.W.binop_K hF I.ok.mod.kin J J'.type hsf me.at_ me.fn fin
    · obtain ⟨T, ⟨fo, ro, h1, h2, h3, h4⟩, lk⟩ := nt e2 py ry
      exact bin_left I.kIn J lk hsf me.at_ me.fn meR.at_ (.inr ⟨_, rfl⟩) h1 h2 h3 fin
  · split at q
    · rename_i c fs e1
      obtain ⟨rfl, e2, q⟩ := q
      obtain ⟨a, dx, fvs, rfl, ha, _⟩ := obj_of so py e1
      cases ry
      obtain ⟨mA, J, _⟩ := ins_get I.hok ha
      obtain ⟨od, J, _⟩ := J.look
      obtain ⟨T, ⟨fo, ro, h1, h2, h3, h4⟩, lk⟩ := nt e2 px rx
      refine bin_right I.kIn J lk hsf me.at_ meR.at_ meR.fn h1 h2 h4 ?_
      refine wpAny_mono (runG (us := [.ref a, v]) (vs := [.ref a, x]) FR (hr.mono hk) bdR dvR (pass_tk tk) I (.cons rfl (.cons rx .nil)) ?_) (fun _ _ z => cmpBack_of z) fun _ _ z => z
      exact ⟨Z, [ty, tx], s, .cons py (.cons px .nil), so, q⟩
    · exact q.elim
/-- an instance changed in place -/
def gInp (cc : Nat) (D : FD) : S → T → T → KT → KX → Prop := fun s x y Q E => kObj cc s x (cM D [x, y] s Q E)
theorem o_inp (tk : Takes X W) (d : MetM X.prog X.w X.K X.mg X.base cl k cc m D []) (hsf : PySem.W.selfFirst X.K (cl cc) = true) (hr : Rm j X.A) (hk : k ≤ j) (hm : dunderI op.info.2 = m := by rfl) : Mr.OpT X cl W (inplaceOp op) (gInp cc D) := by
  obtain ⟨dvs, d, hd⟩ := d.ex
  obtain rfl := no_dvs hd
  refine ⟨fun s x y Q Q' E E' hq he h => h.mon fun q => q.mon hq he, fun Z pins sh σ H x y v u Q s tx ty I rx ry px py so q => ?_⟩
  obtain ⟨a, dx, fvs, rfl, ha, q⟩ := q.get so px
  obtain ⟨f, fd, ps, ds, hc, me, F, bd, dv⟩ := d.ex
  subst hm
  cases rx
  obtain ⟨mA, J, _⟩ := ins_get I.hok ha
  obtain ⟨od, J, _⟩ := J.look
  obtain ⟨mm, hF⟩ := I.fr
  refine PySem.W.ksp_inplace hF I.ok.mod.kin J hsf me.at_ me.fn ?_
  refine wpAny_mono (runG (us := [.ref a, u]) (vs := [.ref a, y]) F (hr.mono hk) bd dv (pass_tk tk) I (.cons rfl (.cons ry .nil)) ?_) (fun _ _ z => cmpBack_of z) fun _ _ z => z
  exact ⟨Z, [tx, ty], s, .cons px (.cons py .nil), so, q⟩
/-- name op= e -/
def fAug (i : Nat) (g : S → T → T → KT → KX → Prop) (Fa : FE) : FS := fun τ s D => match τ[i]? with
  | some (some x) => Fa τ s (fun y s1 => g s1 x y (fun t s2 => D.nx (τ.set i (some t)) s2) (xk τ D)) (xk τ D)
  | _ => False
variable {x : Str} {e : Expr} {i : Nat} {pos pos' : Pos} {g : S → T → T → KT → KX → Prop} {Fa : FE}
def inpP (X : Cx) (cl : CL) (W : WX) (σ : L2.St) (g : S → T → T → KT → KX → Prop) : V → V → Hp → VK → Prop := fun x y H Q => R2T X cl W σ g Q x y H
theorem js_aug (ho : OpT X cl W (inplaceOp op) g) (hN : X.N.Nodup) (hi : X.N[i]? = some x) (hx : Loc X.env.scope x) (he : JE X cl W e Fa) (hf : X.fn x = true ∨ X.env.scope.names.lookup x = some .local := by first | exact .inl rfl | exact .inr rfl | assumption) :
    JS X cl W (.AugAssign (.Name x pos') op e pos) (fAug i g Fa) := by
  refine ⟨fun τ s D D' le h => ?_, ⟨fun pins s σ H D I h => ?_⟩⟩
  · unfold fAug at h ⊢
    split at h
    · exact he.mon _ _ _ _ _ _ (fun y s1 q => ho.mon _ _ _ _ _ _ _ (fun _ _ q => le.nx _ _ q) (fun _ _ q => le.xr _ _ _ q) q) (fun _ _ q => le.xr _ _ _ q) h
    · exact h
  obtain ⟨Z, τ, s0, re, so, h⟩ := h
  unfold fAug at h
  split at h
  · rename_i tx e0
    obtain ⟨v, e1, rv⟩ := re.get i e0
    obtain ⟨m, ns, look⟩ := I.loc
    obtain ⟨u, r, place⟩ := look i x v hi e1 (hx.elim .inl fun k => .inr (.inl k))
    have h' : tT X.K cl W Fa σ H fun y H1 => R2T X cl W σ g (fun z H2 => D.nx (σ.set i (some z)) H2) v y H1 := by
      refine go he.mon re so h (fun ty s1 y H1 p1 f1 re1 r1 so1 => ?_) fun _ _ q => xe_w re q
      refine ⟨Z, s1, tx, ty, rv.fut f1, r1, so1, ho.mon _ _ _ _ _ _ _ (fun t s2 q => ?_) (fun _ _ q => postW.up f1 (xe_w re q)) p1⟩
      intro z H2 f2 rz so2
      exact q (σ.set i (some z)) H2 (f1.trans f2) ((re1.fut f2).set rz i) so2
    have rest : wpAny (model X.prog X.w) X.A (eval e X.env) (fun wv t1 => wpAny (model X.prog X.w) X.A (inplaceOp op u wv) (fun z t2 => wpAny (model X.prog X.w) X.A (storeName X.env x z) (fun _ => SP X pins D .next) X.xe t2) X.xe t1) X.xe s := by
      refine thn (he.pe.run pins s σ H _ I h') ?_
      rintro wv t1 ⟨y, H1, I1, r1, q1⟩
      refine thn (ho.opr pins t1 σ H1 v y u wv _ I1 r r1 q1) ?_
      rintro z t2 ⟨zv, H2, I2, r2, q2⟩
      exact store_ok I2 hN hi hx r2 (fun t3 I3 => ⟨_, H2, I3, q2⟩) hf
    apply wpAny_AugAssign_Name
    rcases place with ⟨kd, mx⟩ | ⟨kd | kd, c, ec, cv⟩
    · exact wpAny_loadName_local I.ok.kind kd ns mx rest
    · exact wpAny_loadName_cell I.ok.kind kd ec cv rest
    · exact hx.elim (fun k => nomatch (k.symm.trans kd)) fun k => nomatch (k.symm.trans kd)
  · exact h.elim
theorem rows_madeL : True := by
  have := @Mr.gInp.eq_1
  have := @Mr.gBag.eq_1
  have := @Mr.fAug.eq_1
  trivial
end
end Mr

/-! The mirror layer: an exception that leaves a list comprehension. -/
namespace PySem
namespace HandSPX
section
variable {M : Model} {A : Around} {E : Value → Shared → Prop} {s : Shared} {Z : Obj → Prop} {base : Heap} {env : Env} {outer l : List Env} {L L' e : Addr}
/-- noted by this frame, where another one had it in hand -/
theorem looks_heldZ {Q : Unit → Shared → Prop} (st : Steady Z) (fr : A.frames = some (env :: outer)) (hf : env.frame = some L) (ne : L' ≠ L) (held : HeldZ base (env :: outer) e Z L' s.heap)
    (then_ : ∀ g, HeldZ base (env :: outer) e Z L g → s.heap.UpToSlots g → Q () { s with heap := g }) : wpAny M A (noteFrame (.ref e) env) Q E s := by
  rcases held with ⟨stays, free, frms, oe, vs, T, oT, ts, ge, ze, de, tb, freeT, neT, gT, dT, fl⟩
  have off : ∀ b o, s.heap.get? b = some o → (∀ ws, o.data ≠ .fields ws) → b ≠ T := by
    rintro b o gb nf rfl
    cases gT.symm.trans gb
    exact nf ts dT
  have same : ∀ b, b ≠ T → (s.heap.update T (Obj.mapFields (·.setIfInBounds 3 Value.none))).get? b = s.heap.get? b := fun b n => Heap.get?_update_other _ _ n.symm
  have in3 : 3 < ts.size := (Array.getElem?_eq_some_iff.mp fl).1
  have in1 : 1 < vs.size := (Array.getElem?_eq_some_iff.mp tb).1
  have no : ¬ ((rawInt L' == rawInt L) = true) := by
    simp [rawInt]
    exact fun q => ne (Int.ofNat.inj q)
  unfold noteFrame
  simp only [hf]
  refine wpAny_bind (wpAny_field ge de tb ?_)
  rw [show (Value.ref T != Value.none) = true from rfl, if_pos rfl]
  refine wpAny_bind (wpAny_field gT dT fl ?_)
  rw [if_neg no]
  refine wpAny_bind (wpAny_setField gT dT in3 (wpAny_entryZ st fr (frms.of_keeps fun b o gb nf => ⟨o, (same b (off b o gb nf)).trans gb, rfl⟩) hf ((same e neT.symm).trans ge) (fun b o gb => ?_) free de in1 ze fun g ng => ?_))
  · refine (same b ?_).trans (stays b o gb)
    rintro rfl
    cases freeT.symm.trans gb
  · rcases ng with ⟨n1, n2, n3, n4⟩
    exact then_ g ⟨n1, free, n2, n3⟩ fun b o gb nf => n4 b o ((same b (off b o gb nf)).trans gb) nf
end
theorem frames_re {h h' B B' : Heap} (hb : ∀ b, B.get? b = none → B'.get? b = none) : ∀ {l : List Env}, (∀ b ∈ L2.frs l, h'.get? b = h.get? b) → h.FunFrames B l → h'.FunFrames B' l
  | [], _, _ => trivial
  | env :: rest, k, ⟨hk, ⟨L, o, hf, hn, ho, hd⟩, hr⟩ => by
    have m : L ∈ L2.frs (env :: rest) := List.mem_filterMap.mpr ⟨env, List.mem_cons_self, hf⟩
    refine ⟨hk, ⟨L, o, hf, hb L hn, (k L m).trans ho, hd⟩, frames_re hb (fun b hb' => k b ?_) hr⟩
    obtain ⟨e, he, hfe⟩ := List.mem_filterMap.mp hb'
    exact List.mem_filterMap.mpr ⟨e, List.mem_cons_of_mem _ he, hfe⟩
end HandSPX
end PySem
namespace Mr
open PySem PySem.Spec PyProof.Rows L2 Tw
section
variable {M : Model} {A : Around} {E : Value → Shared → Prop} {s : Shared}
/-- the block's own variables are let go -/
def gone (C : Addr) (sh : Shared) (P : Shared → Prop) : Prop := ∃ m, sh.heap.Ns C m ∧ ∀ g, Heap.SameBut C sh.heap g → P { sh with heap := g }
/-- what is wanted where the block's code has ended, or was left by an error -/
def compPostX (M : Model) (A : Around) (E : Value → Shared → Prop) (use : Option (Value → Sem Unit)) (Q : Value → Shared → Prop) (acc : Value) (ce : PySem.Env) (r : Result) (sh : Shared) : Prop :=
  match r with
  | .error x => gone ce.locals sh fun t => wpAny M A (PySem.passOn "comprehension.variables-let-go" x ce : Sem Value) (fun _ _ => False) E t
  | .ok _ => match use with
    | none => gone ce.locals sh (Q acc)
    | some f => wpAny M A (f acc) (fun _ t => gone ce.locals t (Q .none)) E sh
theorem comprehension_x {env : PySem.Env} {e : Expr} {scope : Scope} {pos : Pos} {mk first : Sem Value} {g : Comprehension} {gs : List Comprehension} {cs : List (Str × Addr)} {use : Option (Value → Sem Unit)} {Q : Value → Shared → Prop}
    (one : clausesOf e = g :: gs) (nofold : ∀ x, foldedSetIterable g.iter env x = pure x) (clo : closureFor scope env = pure cs) (kd : scope.kind = .function) (uq : ∀ y ∈ scope.names, y.2 = .local → scope.names.lookup y.1 = some .local)
    (h : wpAny M A first (fun x t1 => wpAny M A (pyIter x) (fun it t2 => wpAny M A mk (fun acc t3 => wpAny M A (newFunctionEnv scope env.globals cs [] env.qual none .none (some env)) (fun ce t4 =>
      codeAny M A (.compStart e 0 it acc { ce with scope := relabel scope env }) (compPostX M A E use Q acc { ce with scope := relabel scope env }) t4) E t3) E t2) E t1) E s) : wpAny M A (comprehension e scope env pos mk false first use) Q E s := by
  have tail : ∀ {α β : Type} {m : Sem α} {P : α → Shared → Prop} {f : α → Sem β} {R : β → Shared → Prop} {t : Shared}, wpAny M A m P E t → (∀ a u, P a u → wpAny M A (f a) R E u) → wpAny M A (m >>= f) R E t := fun h1 h2 => wpAny_bind (wpAny_mono h1 h2 fun _ _ z => z)
  unfold comprehension
  rw [clo, one]
  refine tail h fun x t1 h1 => ?_
  refine wpAny_bind (wpAny_standAt (wpAny_bind (wpAny_of_eq (nofold x) (wpAny_bind (wpAny_holding (wpAny_mono h1 (fun it t2 h2 => ?_) fun _ _ z => z))))))
  refine wpAny_standIf (tail h2 fun acc t3 h3 => wpAny_bind (wpAny_pure (tail h3 fun ce t4 h4 => ?_)))
  dsimp only
  have lo : ∀ y ∈ scope.names, y.2 = .local → Env.kindOf { ce with scope := relabel scope env } y.1 = some .local := fun y hy z => lookup_relabel_local (uq y hy z)
  have lo1 : ∀ y ∈ (scope.names.filter fun y => (y.2 == .local || y.2 == .cell) && y.1 != (".0" : Str)).reverse, y.2 = .local → Env.kindOf { ce with scope := relabel scope env } y.1 = some .local := fun y hy => lo y (List.mem_filter.mp (List.mem_reverse.mp hy)).1
  refine wpAny_holding (wpAny_bind (wpAny_attempt (wpAny_holding (wpAny_run (codeAny_mono h4 fun r t hr => ?_)))))
  rcases r with x | fl
  · obtain ⟨n, hn, q⟩ := hr
    refine wpAny_bind (wpAny_holding (wpAny_comp_letGo kd _ t n lo1 hn fun g n' _ sb => ?_))
    exact wpAny_mono (q g sb) (fun _ _ z => z.elim) fun _ _ z => z
  · rcases use with _ | f
    · obtain ⟨n, hn, q⟩ := hr
      exact wpAny_bind (wpAny_holding (wpAny_comp_letGo kd _ t n lo1 hn fun g n' _ sb => wpAny_pure (q g sb)))
    · refine wpAny_bind (wpAny_rule (tail (wpAny_holding hr) fun _ u hu => ?_))
      obtain ⟨n, hn, q⟩ := hu
      exact wpAny_bind (wpAny_comp_letGo kd _ u n (fun y hy => lo1 y ((List.mem_append.mp hy).elim List.mem_of_mem_drop List.mem_of_mem_take)) hn fun g n' _ sb => wpAny_pure (q g sb))
end
section
variable {X : Cx} {pins : List (Addr × Obj)} {σ : L2.St} {H3 : Hp} {s3 : Shared} {scope : Scope} {ce : PySem.Env} {fp : List Addr} {W Wb : WX} {xe : Value → Shared → Prop} {use : Option (Value → Sem Unit)} {Qf : Value → Shared → Prop} {acc u : Value} {s' : Shared} {E0 : Value → Shared → Prop}
theorem exc_out (hs : X.stack = X.env :: X.outer) (hf : X.env.frame = some X.env.locals) (hce : ce.frame = X.env.frame) (cL : ce.locals = s3.heap.objs.size) (I3 : Inv X pins σ H3 s3) (f3 : ∀ b ∈ fp, FpOk X pins H3 b ∧ b < s3.heap.objs.size)
    (tk : Takes X W) (hW : ∀ c d σ' H', Wb c d σ' H' → W c d σ H') (x : XE ((X.blk s3 H3 scope ce fp).wish xe) Wb u s') :
    wpAny (model X.prog X.w) X.A (noteFrame u ce) (fun _ s'' => compPostX (model X.prog X.w) X.A X.xe use Qf acc ce (.error u) s'') E0 s' := by
  obtain ⟨a, B, sI, pins', σb, Hb, cls, d, rfl, Ib, nb, up, sky, na, os, ag, w⟩ := x
  have I7 : Inv X pins σ Hb sI := I3.call' (ch := fp) Ib.os Ib.base Ib.hok Ib.bare fun b hb => ⟨(f3 b hb).1.2.2.2.1, (f3 b hb).1.2.1, (f3 b hb).1.2.2.2.2.1, (f3 b hb).1.2.2.2.2.2⟩
  generalize hC : s3.heap.objs.size = C at cL
  have nC : Hb C = none := by
    have z : Hb ce.locals = none := Ib.free
    rwa [cL] at z
  have fo : FpOk X pins Hb C := I3.fpOk (Nat.le_of_eq hC) nC
  obtain ⟨f0, f1, f2, f4, f5, f6⟩ := fo
  obtain ⟨mC, hn, _⟩ := Ib.loc
  have hn : sI.heap.Ns ce.locals mC := hn
  rw [cL] at hn
  have nfr : ∀ b ∈ frs X.stack, b ≠ C := fun b hb e => by
    rcases List.mem_cons.mp (I7.stkSub b hb) with z | z
    · exact f1 (e.symm.trans z)
    · exact f2 (e ▸ z)
  have sky : Sky B X.stack a (Zc cls d) C s'.heap := by
    have z : Sky B X.stack a (Zc cls d) ce.locals s'.heap := sky
    rwa [cL] at z
  have hfr : X.A.frames = some (X.env :: X.outer) := by rw [I7.ok.frames, hs]
  have en : noteFrame (.ref a) ce = noteFrame (.ref a) X.env := by
    unfold noteFrame PySem.frameOf
    rw [hce]
  rw [en]
  have fin : ∀ h1, HandSPX.HeldZ B (X.env :: X.outer) a (Zc cls d) X.env.locals h1 → s'.heap.UpToSlots h1 → compPostX (model X.prog X.w) X.A X.xe use Qf acc ce (.error (.ref a)) { s' with heap := h1 } := by
    intro h1 hh up1
    obtain ⟨oC, es, ep, eC, dC, rC⟩ := id hn
    have bC : B.get? C = some oC := nb C oC eC fun z => nfr C z rfl
    have h1C : h1.get? C = some oC := hh.1 C oC bC
    show ∃ m, h1.Ns ce.locals m ∧ _
    rw [cL]
    refine ⟨mC, ⟨oC, es, ep, h1C, dC, rC⟩, fun h' sb => ?_⟩
    obtain ⟨GB, g1, g2⟩ := restrict B fun b => decide (b ≠ C)
    obtain ⟨GI, i1, i2⟩ := restrict sI.heap fun b => decide (b ≠ C)
    have gb : ∀ b o, GB.get? b = some o → b ≠ C ∧ B.get? b = some o := fun b o e => by
      by_cases z : b = C
      · rw [g2 b (by simp [z])] at e; cases e
      · rw [g1 b (by simp [z])] at e; exact ⟨z, e⟩
    have gi : ∀ b o, GI.get? b = some o → b ≠ C ∧ sI.heap.get? b = some o := fun b o e => by
      by_cases z : b = C
      · rw [i2 b (by simp [z])] at e; cases e
      · rw [i1 b (by simp [z])] at e; exact ⟨z, e⟩
    have hh2 : HandSPX.HeldZ GB (X.env :: X.outer) a (Zc cls d) X.env.locals h' := by
      obtain ⟨hkb, hen, hl, oe, vs, T, oT, ts, he, hz, hd, h1v, hnT, hTe, hT, hdT, h3⟩ := hh
      have aC : a ≠ C := fun z => by
        rw [z, h1C] at he; cases he; rw [dC] at hd; cases hd
      have TC : T ≠ C := fun z => by
        rw [z, h1C] at hT; cases hT; rw [dC] at hdT; cases hdT
      refine ⟨fun b o e => ?_, ?_, HandSPX.frames_re (h := h1) (B := B) (fun b e => ?_) (fun b hb => sb.2 b (nfr b (hs ▸ hb))) hl, oe, vs, T, oT, ts, (sb.2 a aC).trans he, hz, hd, h1v, ?_, hTe, (sb.2 T TC).trans hT, hdT, h3⟩
      · obtain ⟨z, e⟩ := gb b o e
        exact (sb.2 b z).trans (hkb b o e)
      · rw [g1 a (by simp [aC])]; exact hen
      · by_cases z : b = C
        · exact g2 b (by simp [z])
        · rw [g1 b (by simp [z])]; exact e
      · rw [g1 T (by simp [TC])]; exact hnT
    unfold PySem.passOn
    obtain ⟨oe, vs, T, oT, ts, he, hz, hd, h1v, hnT, hTe, hT, hdT, h3⟩ := id hh2.2.2.2
    refine wpAny_bind (wpAny_field he hd h1v ?_)
    rw [if_neg (show ¬ ((Value.ref T == Value.none) = true) from by simp)]
    rw [hce, hf]
    refine wpAny_bind (HandSPX.setFlight_onZ hh2 fun h2 hh3 up2 => ?_)
    refine wpAny_throw ?_
    refine tk _ _ ⟨a, GB, { sI with heap := GI }, pins, σ, Hb, cls, d, rfl, ?_, fun b o e hb => ?_, fun b o e nf => ?_, .inr (.inr (hs ▸ hh3)), na, os, ag, hW _ _ _ _ w⟩
    · exact I7.turned (t' := sI.toks) (fun b o hb e => by rw [i1 b (by simp [hb])]; exact e) f0 f1 f4 f5 f6
    · obtain ⟨z, e⟩ := gi b o e
      rw [g1 b (by simp [z])]
      exact nb b o e hb
    · obtain ⟨z, e⟩ := gi b o e
      obtain ⟨sl, e1⟩ := up b o e nf
      obtain ⟨sl1, e2⟩ := up1 b _ e1 nf
      obtain ⟨sl2, e3⟩ := up2 b _ ((sb.2 b z).trans e2) nf
      exact ⟨sl2, e3⟩
  rw [hs] at sky
  rcases sky with ⟨hB, hn', hl, oe, vs, he, hz, hd, h1⟩ | fl | hd
  · exact HandSPX.look_newZ Zc.steady hfr hl hf he hB hn' hd h1 hz fin
  · exact HandSPX.looks_onZ Zc.steady hfr hf fl fin
  · exact HandSPX.looks_heldZ Zc.steady hfr hf f1 hd fin
end
/-- a comprehension whose items may be refused -/
def lcX (ok : S → Prop) (g : FG) (te : FE) (τ : Env) (E : KX) : List T → List T → S → (List T → S → Prop) → Prop
  | [], acc, s, Q => ok s ∧ Q acc s
  | t :: ts, acc, s, Q => ok s ∧ acc.length < 1000000 ∧ g t τ s fun τ1 s1 => te τ1 s1 (fun y s2 => lcX ok g te τ E ts (acc ++ [y]) s2 Q) E
def fLcX (I : FI) (g : FG) (te : FE) (vs : List Nat) : FE := fun τ s Q E => I τ s (fun ts ok s1 => lcX ok g te (wipeT τ vs) E ts [] s1 fun ys s2 => Q (.lst ys) s2) E
theorem mon_lcX {ok : S → Prop} {g : FG} {te : FE} {τ : Env} (mg : ∀ t τ s (Q Q' : Env → S → Prop), (∀ τ s, Q τ s → Q' τ s) → g t τ s Q → g t τ s Q') (me : MonE te) {E E' : KX} (he : ∀ e s, E e s → E' e s) :
    ∀ (ts acc : List T) (s : S) (Q Q' : List T → S → Prop), (∀ ys s, Q ys s → Q' ys s) → lcX ok g te τ E ts acc s Q → lcX ok g te τ E' ts acc s Q'
  | [], _, _, _, _, hq, h => ⟨h.1, hq _ _ h.2⟩
  | _ :: ts, _, _, _, _, hq, h => ⟨h.1, h.2.1, mg _ _ _ _ _ (fun _ _ q => me _ _ _ _ _ _ (fun _ _ q2 => mon_lcX mg me he ts _ _ _ _ hq q2) he q) h.2.2⟩
section
variable {X : Cx} {cl : CL} {W : WX} {tg iter elt : Expr} {I : FI} {g : TG} {g' : FG} {te : FE} {scope : Scope} {own : List (Str × Nat)} {pos pos' : Pos} {use : Option (Value → Sem Unit)} {Qf : Value → Shared → Prop} {Q : VK}
theorem mon_fLcX {vs : List Nat} (mi : MonI I) (mg : ∀ t τ s (Q Q' : Env → S → Prop), (∀ τ s, Q τ s → Q' τ s) → g' t τ s Q → g' t τ s Q') (me : MonE te) : MonE (fLcX I g' te vs) :=
  fun _ _ _ _ _ _ hq he h => mi _ _ _ _ _ _ (fun _ _ _ h1 => mon_lcX mg me he _ _ _ _ _ (fun _ _ q => hq _ _ q) h1) he h
/-- what the walk of a comprehension knows behind i items -/
structure LcAt (X : Cx) (cl : CL) (W : WX) (g' : FG) (te : FE) (vs : List Nat) (Q : VK) (σ : L2.St) (H H2 : Hp) (Z : Addr → Prop) (τ : Env) (s s1 : S) (ok : S → Prop) (ts : List T) (D : Addr) (i : Nat) (H' : Hp) : Prop where
  ex : ∃ s' acc av, i ≤ ts.length ∧ Fut s1 H2 s' H' ∧ Sto X.K cl (Hide Z D) s' H' ∧ H' D = some (.lst av) ∧ Reps X.K cl (Hide Z D) s' H' av acc ∧ lcX ok g' te (wipeT τ vs) (postW X.K cl Z s H σ W) (ts.drop i) acc s' (fun ys s2 => post X.K cl Z s H Q (.lst ys) s2)
theorem lcX_run {pins : List (Addr × Obj)} {sh : Shared} {σ : L2.St} {H : Hp} (hst : X.stack = X.env :: X.outer) (hf : X.env.frame = some X.env.locals) (tk : Takes X W) (hc : X.calm = true) (hN : X.N.Nodup) (hi : JI X cl W tg iter I) (ok : BlkOk X.N X.env.scope scope own)
    (hg : ∀ (s : Shared) (H : Hp) (C : Addr) (cc : List (Str × Addr)) (fp : List Addr), PG (X.blk s H scope (compEnvC scope cc C X.env) fp) tg g) (hG : GT X.K cl (own.map (·.2)) g g')
    (he : ∀ (s : Shared) (H : Hp) (C : Addr) (cc : List (Str × Addr)) (fp : List Addr) (xe : Value → Shared → Prop) (σ : L2.St), Takes ((X.blk s H scope (compEnvC scope cc C X.env) fp).wish xe) (fun c d _ H' => W c d σ H') → JE ((X.blk s H scope (compEnvC scope cc C X.env) fp).wish xe) cl (fun c d _ H' => W c d σ H') elt te)
    (me : MonE te) (hs : ∀ x, foldedSetIterable iter X.env x = pure x) (I0 : Inv X pins σ H sh) (h : tT X.K cl W (fLcX I g' te (own.map (·.2))) σ H Q)
    (fin : ∀ (D : Addr) (ce : PySem.Env) (s' : Shared) (H' : Hp), Inv X pins σ H' s' → Q (.ref D) H' → (∃ m, s'.heap.Ns ce.locals m) → FpOk X pins H' ce.locals → compPostX (model X.prog X.w) X.A X.xe use Qf (.ref D) ce (.ok .next) s') :
    wpAny (model X.prog X.w) X.A (comprehension (.ListComp elt [⟨tg, iter, [], 0⟩] scope pos) scope X.env pos' (newList []) false (eval iter X.env) use) Qf X.xe sh := by
  obtain ⟨Z, τ, s, re, so, h⟩ := h
  have cells : ∀ y ∈ scope.names, y.2 = .free → ∃ c, X.env.cells.lookup y.1 = some c := fun y hy e => I0.ok.has _ ((ok.free y hy e).elim .inl .inr)
  have h1 : tTI X.K cl W I σ H fun J H2 => ∃ ts okp s1, Fut s H s1 H2 ∧ Sto X.K cl Z s1 H2 ∧ Src X.K cl Z J ts okp s1 H2 ∧ lcX okp g' te (wipeT τ (own.map (·.2))) (postW X.K cl Z s H σ W) ts [] s1 fun ys s2 => post X.K cl Z s H Q (.lst ys) s2 :=
    ⟨Z, τ, s, re, so, hi.mon _ _ _ _ _ _ (fun ts okp s1 q J H2 f so1 src => ⟨ts, okp, s1, f, so1, src, q⟩) (fun _ _ q => q) h⟩
  refine comprehension_x (use := use) rfl hs (closure_ok cells) ok.kind (fun y hy e => (ok.uniq y hy).trans (congrArg some e)) ?_
  refine wpAny_mono (hi.pi.run pins sh σ H _ I0 h1) (fun xv s1 q1 => wpAny_mono q1 (fun itv s2 q2 => ?_) fun _ _ z => z) fun _ _ z => z
  obtain ⟨it, fp, tn, J, H2, rfl, I2, T, at2, f2, ts, okp, s1', fu1, so1, src, body⟩ := q2
  refine wpAny_newObj_type (newEnv_comp ?_) (Nat.zero_le _)
  -- the new list stands at D
  obtain ⟨D, eD⟩ : ∃ D, D = s2.heap.objs.size := ⟨_, rfl⟩
  have freeD : H2 D = none := I2.hok.fresh (Nat.le_of_eq eD.symm)
  obtain ⟨s3, e3⟩ : ∃ s3 : Shared, s3 = { s2 with heap := s2.heap.push { cls := .type "list", data := .seq ([] : List Value).toArray } } := ⟨_, rfl⟩
  have keep3 : ∀ b o, s2.heap.get? b = some o → s3.heap.get? b = some o := fun b o z => by rw [e3]; exact Heap.get?_push_of_some _ z
  have len3 : s3.heap.objs.size = s2.heap.objs.size + 1 := by rw [e3]; exact Heap.size_push ..
  have I3 : Inv X pins σ (upd H2 D (.lst [])) s3 := by
    subst e3
    subst eD
    exact I2.laid (t' := s2.toks) (fun b o z => Heap.get?_push_of_some _ z) (Nat.le_refl _) ⟨Nat.zero_le _, [], 0, .nil, Heap.get?_push_size _ rfl⟩
  have old : ∀ b ∈ fp, b < s2.heap.objs.size := fun b hb => let ⟨_, z, _⟩ := T.obj _ _ at2 b hb; Heap.lt_size z
  have f3 : ∀ b ∈ fp, FpOk X pins (upd H2 D (.lst [])) b ∧ b < s3.heap.objs.size := fun b hb => by
    have lt := old b hb
    refine ⟨⟨(upd_ne (show b ≠ D from eD ▸ Nat.ne_of_lt lt)).trans (f2 b hb).1, (f2 b hb).2⟩, by rw [len3]; exact Nat.lt_succ_of_lt lt⟩
  have I4 := block_start I3 ok hN f3
  rw [← e3, ← eD]
  obtain ⟨ce, ece⟩ : ∃ ce, ce = compEnvC scope (cellsFrom (s3.heap.objs.size + 1) scope.names (cloFrom X.env.cells scope.names [])) s3.heap.objs.size X.env := ⟨_, rfl⟩
  have pg := hg s3 (upd H2 D (.lst [])) s3.heap.objs.size (cellsFrom (s3.heap.objs.size + 1) scope.names (cloFrom X.env.cells scope.names [])) fp
  have pe := fun xe tkb => he s3 (upd H2 D (.lst [])) s3.heap.objs.size (cellsFrom (s3.heap.objs.size + 1) scope.names (cloFrom X.env.cells scope.names [])) fp xe σ tkb
  show codeAny _ _ (.compStart _ 0 (.ref it) (.ref D) (compEnvC scope (cellsFrom (s3.heap.objs.size + 1) scope.names (cloFrom X.env.cells scope.names [])) s3.heap.objs.size X.env)) (compPostX (model X.prog X.w) X.A X.xe use Qf (.ref D) (compEnvC scope (cellsFrom (s3.heap.objs.size + 1) scope.names (cloFrom X.env.cells scope.names [])) s3.heap.objs.size X.env)) _
  rw [← ece] at I4 pg ⊢
  simp only [← ece] at pe
  have loc : ce.locals = s3.heap.objs.size := by rw [ece]; rfl
  have frm : ce.frame = X.env.frame := by rw [ece]; rfl
  obtain ⟨s4, e4⟩ : ∃ s4 : Shared, s4 = { s3 with heap := pushCells (s3.heap.push { cls := .type "dict", data := .dict #[] }) scope.names } := ⟨_, rfl⟩
  rw [← e4] at I4 ⊢
  have at4 : tn 0 s4.heap := T.keep _ _ _ at2 fun b _ o z => by rw [e4]; exact pushCells_keeps _ _ _ _ (Heap.get?_push_of_some _ (keep3 b o z))
  have k1 : Fut s1' H2 s1' (upd H2 D (.lst [])) := Fut.new freeD
  have zz : ∀ b, Hide Z D b → Z b ∨ H2 b = none := fun b q => q.imp id fun e => by rw [e]; exact freeD
  have reW : REnv X.K cl Z s1' H2 (L2.wipe σ (own.map (·.2))) (wipeT τ (own.map (·.2))) := (re.fut fu1).wipe _
  obtain ⟨H3, eH3⟩ : ∃ H3, H3 = upd H2 D (.lst []) := ⟨_, rfl⟩
  rw [← eH3] at I3 I4 pg f3 k1
  simp only [← eH3] at pe
  have fpo : ∀ {pins' : List (Addr × Obj)} {σ' : L2.St} {H' : Hp} {s' : Shared}, Inv (X.blk s3 H3 scope ce fp) pins' σ' H' s' → (∀ b ∈ fp, H' b = none) → ∀ b ∈ fp, FpOk (X.blk s3 H3 scope ce fp) [] H' b := fun I' hn b hb =>
    ⟨hn b hb, (I'.ok.exf b hb).1, I'.ok.exfs b hb, .inl hb, fun x c z => (I'.ok.exf b hb).2 x c z, fun p hp => absurd (show p ∈ ([] : List (Addr × Obj)) ++ [] from hp) (by simp)⟩
  have start : LcAt X cl W g' te (own.map (·.2)) Q σ H H2 Z τ s s1' okp ts D 0 H3 := ⟨s1', [], [], Nat.zero_le _, k1, eH3 ▸ so1.hide freeD, by rw [eH3, upd_same], .nil, body⟩
  have loop : codeAny (model X.prog X.w) X.A (.compLoop (.ListComp elt [⟨tg, iter, [], 0⟩] scope pos) 0 (.ref it) (.ref D) ce) (compPostX (model X.prog X.w) X.A X.xe use Qf (.ref D) ce) s4 := by
    refine compLoop_any (fun n s' => ∃ i H', n = ts.length - i ∧ Inv (X.blk s3 H3 scope ce fp) [] (L2.wipe σ (own.map (·.2))) H' s' ∧ tn i s'.heap ∧ (∀ b ∈ fp, H' b = none) ∧ LcAt X cl W g' te (own.map (·.2)) Q σ H H2 Z τ s s1' okp ts D i H') ?_ _ ⟨0, H3, rfl, I4, at4, fun b hb => (f3 b hb).1.1, start⟩
    rintro n s5 ⟨i, H5, rfl, I5, at5, n5, ⟨s', acc, av, hi', f', so', hDa, ra, h'⟩⟩
    by_cases hlt : i < ts.length
    · rw [List.drop_eq_getElem_cons hlt] at h'
      obtain ⟨hok, hz, h'⟩ := h'
      obtain ⟨jg, jy⟩ := src.go (Hide Z D) s' H5 i _ f' zz hok so' (List.getElem?_eq_getElem hlt)
      have noD : ∀ s3 H3, Sto X.K cl (Hide Z D) s3 H3 → ¬ s3.mut D := fun s3 H3 so3 => (so3.hid D (.inr rfl)).1
      refine thnF (T.item (X.blk s3 H3 scope ce fp) rfl rfl rfl hc i [] s5 _ H5 (fun _ _ => False) I5 (fpo I5 n5) at5 jg) fun r s6 q6 => ?_
      obtain ⟨u, rfl, h6⟩ := q6
      refine thnF h6 fun _ s7 q7 => ?_
      obtain ⟨x, H7, I7, r7, y7, at7, n7⟩ := q7
      obtain ⟨fy, soy, ry⟩ := jy x H7 y7
      have reY : REnv X.K cl (Hide Z D) s' H7 (L2.wipe σ (own.map (·.2))) (wipeT τ (own.map (·.2))) := (reW.futz f' zz).fut fy
      have I7' := I7.pinned (fpo I7 n7) (T.obj _ _ at7)
      have st := hG.go (Hide Z D) _ _ _ _ H7 s' (fun σ8 H8 => ∃ τ8 s8, Fut s' H7 s8 H8 ∧ REnv X.K cl (Hide Z D) s8 H8 σ8 τ8 ∧ Sto X.K cl (Hide Z D) s8 H8 ∧ te τ8 s8 (fun y s2 => lcX okp g' te (wipeT τ (own.map (·.2))) (postW X.K cl Z s H σ W) (ts.drop (i + 1)) (acc ++ [y]) s2 fun ys s2 => post X.K cl Z s H Q (.lst ys) s2) (postW X.K cl Z s H σ W)) ry reY soy
        (hG.mon _ _ _ _ _ (fun τ8 s8 q σ8 H8 f8 re8 so8 => ⟨τ8, s8, f8, re8, so8, q⟩) h')
      refine thnF (pg.run _ s7 _ H7 x u _ I7' r7 st) fun _ s8 q8 => ?_
      obtain ⟨σ8, H8, I8, ew, τ8, t8, f8, re8, so8, h8⟩ := q8
      refine wpAny_tests_nil ?_
      rw [if_pos rfl]
      have hD8 : H8 D = some (.lst av) := (f8.keep D _ (fy.keep D _ hDa (noD _ _ so') (NT.lst _)).1 (noD _ _ soy) (NT.lst _)).1
      have fu8 : Fut s1' H2 t8 H8 := f'.trans (fy.trans f8)
      let bx : Value → Shared → Prop := notedBy (model X.prog X.w) X.A ce fun e s' => compPostX (model X.prog X.w) X.A X.xe use Qf (.ref D) ce (.error e) s'
      have tkb : Takes ((X.blk s3 H3 scope ce fp).wish bx) (fun c d _ H' => W c d σ H') := fun u s' z => exc_out (Wb := fun c d _ H' => W c d σ H') hst hf frm loc I3 f3 tk (fun _ _ _ _ q => q) z
      have run := (pe bx tkb).pe.run _ s8 σ8 H8 (fun yv H10 => ∃ t10 ty, Fut t8 H8 t10 H10 ∧ Rep X.K cl (Hide Z D) t10 H10 yv ty ∧ Sto X.K cl (Hide Z D) t10 H10 ∧ lcX okp g' te (wipeT τ (own.map (·.2))) (postW X.K cl Z s H σ W) (ts.drop (i + 1)) (acc ++ [ty]) t10 fun ys s2 => post X.K cl Z s H Q (.lst ys) s2) (I8.wish bx)
        ⟨Hide Z D, τ8, t8, re8, so8, me _ _ _ _ _ _ (fun ty t10 q v H10 f10 r10 so10 => ⟨t10, ty, f10, r10, so10, q⟩) (fun er t9 q d fvs H9 f9 e9 m9 rf9 so9 => q d fvs H9 (fu1.trans (fu8.trans f9)) e9 ⟨m9.1, fun z => m9.2 (.inl z)⟩ (rf9.turn (fun _ z => .inl z) fun _ _ _ z => z) so9.bare) h8⟩
      refine wpAny_mono run (fun z s10 q10 => ?_) fun _ _ z => z
      obtain ⟨yv, H10, I10, r10, t10, ty, f10, rep10, so10, q10⟩ := q10
      have hD10 : H10 D = some (.lst av) := (f10.keep D _ hD8 (noD _ _ so8) (NT.lst _)).1
      have ra10 : Reps X.K cl (Hide Z D) t10 H10 av acc := ((ra.fut fy).fut f8).fut f10
      refine app_ok (X := X.blk s3 H3 scope ce fp) I10.unwish hD10 (by rw [ra10.length]; exact Nat.lt_of_lt_of_le hz size6) r10 fun s11 I11 => ?_
      have kk : ∀ b u, ¬ Hide Z D b → H10 b = some u → upd H10 D (.lst (av ++ [yv])) b = some u := fun b u n z => by rw [upd_ne (fun e => n (.inr e))]; exact z
      have fu10 : Fut s1' H2 t10 H10 := fu8.trans f10
      have pin : ∀ b ∈ fp, ∀ o, s7.heap.get? b = some o → s11.heap.get? b = some o ∧ upd H10 D (.lst (av ++ [yv])) b = none := fun b hb o z =>
        let p := I11.pin (b, o) (List.mem_append_right _ (List.mem_append_right _ (mem_pinsAt hb z)))
        ⟨p.1, p.2.1⟩
      refine ⟨ts.length - (i + 1), by omega, i + 1, _, rfl, (I11.unpinned (pins := [])).weak ?_ (fun j v e => ?_), T.keep _ _ _ at7 fun b hb o z => (pin b hb o z).1, fun b hb => ?_, ⟨t10, acc ++ [ty], av ++ [yv], hlt, ?_, so10.turn, upd_same, ?_, q10⟩⟩
      · have := congrArg List.length ew
        rw [wipe_length, wipe_length, wipe_length] at this
        rw [wipe_length]
        exact this.symm
      · have w2 : L2.wipe σ8 (own.map (·.2)) = L2.wipe σ (own.map (·.2)) := ew.trans (wipe_wipe σ _)
        rw [← w2] at e
        exact (wipe_some e).1
      · obtain ⟨o, z, _⟩ := T.obj _ _ at7 b hb
        exact (pin b hb o z).2
      · exact ⟨fun b u hb n nt => ⟨by rw [upd_ne (ne_of_none hb freeD)]; exact (fu10.keep b u hb n nt).1, (fu10.keep b u hb n nt).2⟩, fu10.pa⟩
      · exact (Reps.append ra10 (.cons rep10 .nil)).turn (fun _ q => q) kk
    · have e : i = ts.length := by omega
      subst e
      rw [List.drop_length] at h'
      have js := src.stop (Hide Z D) s' H5 _ f' zz h'.1 so' (Nat.le_refl _)
      refine thnF (T.done (X.blk s3 H3 scope ce fp) rfl rfl rfl hc _ [] s5 _ H5 (fun _ _ => False) I5 (fpo I5 n5) at5 js) fun r s6 q6 => ?_
      obtain ⟨rfl, I6⟩ := q6
      have I7 : Inv X pins σ H5 s6 := I3.call' (ch := fp) I6.os I6.base I6.hok I6.bare fun b hb => ⟨(f3 b hb).1.2.2.2.1, (f3 b hb).1.2.1, (f3 b hb).1.2.2.2.2.1, (f3 b hb).1.2.2.2.2.2⟩
      have nz : ¬ Z D := fun q => by
        obtain ⟨_, o, ho⟩ := so1.hid D q
        rw [freeD] at ho
        cases ho
      have noD := so'.hid D (.inr rfl)
      have nC : H5 ce.locals = none := I6.free
      obtain ⟨m, hm, _⟩ := I6.loc
      exact fin D ce s6 H5 I7 (h'.2 _ _ (fu1.trans f') (.lst hDa ⟨noD.1, nz⟩ (ra.turn (fun _ q => .inl q) fun _ _ _ z => z)) so'.bare) ⟨m, hm⟩ (I3.fpOk (Nat.le_of_eq loc.symm) nC)
  exact codeAny_compStart_list loop (T.self X.A 0 _ _ _ at4 loop)
end
section
variable {X : Cx} {cl : CL} {W : WX} {tg iter elt : Expr} {I : FI} {g : TG} {g' : FG} {te : FE} {scope : Scope} {own : List (Str × Nat)} {pos spos py : Pos} {i : Nat} {y : Str}
abbrev EltX (X : Cx) (cl : CL) (W : WX) (scope : Scope) (elt : Expr) (te : FE) : Prop := ∀ (s : Shared) (H : Hp) (C : Addr) (cc : List (Str × Addr)) (fp : List Addr) (xe : Value → Shared → Prop) (σ : L2.St), Takes ((X.blk s H scope (compEnvC scope cc C X.env) fp).wish xe) (fun c d _ H' => W c d σ H') →
  JE ((X.blk s H scope (compEnvC scope cc C X.env) fp).wish xe) cl (fun c d _ H' => W c d σ H') elt te
theorem EltX.mon (he : EltX X cl W scope elt te) : MonE te := (he X.s_0 (fun _ => none) 0 [] [] (fun _ _ => True) [] fun _ _ _ => trivial).mon
theorem je_lcX (hst : X.stack = X.env :: X.outer) (hf : X.env.frame = some X.env.locals) (tk : Takes X W) (hc : X.calm = true) (hN : X.N.Nodup) (hi : JI X cl W tg iter I) (ok : BlkOk X.N X.env.scope scope own)
    (hg : ∀ (s : Shared) (H : Hp) (C : Addr) (cc : List (Str × Addr)) (fp : List Addr), PG (X.blk s H scope (compEnvC scope cc C X.env) fp) tg g) (hG : GT X.K cl (own.map (·.2)) g g') (he : EltX X cl W scope elt te)
    (hs : ∀ x, foldedSetIterable iter X.env x = pure x := by intro _; rfl) : JE X cl W (.ListComp elt [⟨tg, iter, [], 0⟩] scope pos) (fLcX I g' te (own.map (·.2))) := by
  refine ⟨mon_fLcX hi.mon hG.mon he.mon, ⟨fun pins s σ H Q I0 h => ?_⟩⟩
  rw [eval_ListComp]
  refine lcX_run (Q := Q) hst hf tk hc hN hi ok hg hG he he.mon hs I0 h fun D ce s' H' I' q hn fo => ?_
  obtain ⟨m, hn⟩ := hn
  refine ⟨m, hn, fun h'' sb => ⟨.ref D, H', ?_, rfl, q⟩⟩
  exact I'.turned (t' := s'.toks) (it := ce.locals) (fun b o hb z => (sb.2 b hb).trans z) fo.1 fo.2.1 fo.2.2.2.1 fo.2.2.2.2.1 fo.2.2.2.2.2
theorem js_setLcX (hst : X.stack = X.env :: X.outer) (hf : X.env.frame = some X.env.locals) (tk : Takes X W) (hc : X.calm = true) (hN : X.N.Nodup) (hy : X.N[i]? = some y) (hyl : X.env.scope.names.lookup y = some .local)
    (hsw : swapsWith (.ListComp elt [⟨tg, iter, [], 0⟩] scope pos) (some (.Name y py)) spos.line X.env = pure true) (hi : JI X cl W tg iter I) (ok : BlkOk X.N X.env.scope scope own)
    (hg : ∀ (s : Shared) (H : Hp) (C : Addr) (cc : List (Str × Addr)) (fp : List Addr), PG (X.blk s H scope (compEnvC scope cc C X.env) fp) tg g) (hG : GT X.K cl (own.map (·.2)) g g') (he : EltX X cl W scope elt te)
    (hs : ∀ x, foldedSetIterable iter X.env x = pure x := by intro _; rfl) : JS X cl W (.Assign [.Name y py] (.ListComp elt [⟨tg, iter, [], 0⟩] scope pos) spos) (fSet i (fLcX I g' te (own.map (·.2)))) := by
  have ml : MonE (fLcX I g' te (own.map (·.2))) := mon_fLcX hi.mon hG.mon he.mon
  refine ⟨fun τ s D D' le h => ml _ _ _ _ _ _ (fun _ _ q => le.nx _ _ q) (fun _ _ q => le.xr _ _ _ q) h, ⟨fun pins s σ H D I0 h => ?_⟩⟩
  obtain ⟨Z, τ, s0, re, so, h⟩ := h
  have h' : tT X.K cl W (fLcX I g' te (own.map (·.2))) σ H fun x H1 => D.nx (σ.set i (some x)) H1 :=
    go ml re so h (fun tx s1 v H1 p1 f1 re1 r1 so1 => p1 _ H1 f1 (re1.set r1 i) so1) fun _ _ q => xe_w re q
  rw [exec_Assign_Name_used _ _ _ _ hsw]
  refine wpAny_bind (wpAny_standAt (wpAny_bind (wpAny_bind (wpAny_mono (lcX_run (use := some (assign (.Name y py) X.env)) (Qf := fun _ s' => SP X pins D .next s') (pos' := firstIterPos [⟨tg, iter, [], 0⟩] pos) hst hf tk hc hN hi ok hg hG he he.mon hs I0 h' ?_) (fun _ s' hq => wpAny_pure (wpAny_pure hq)) fun _ _ z => z))))
  intro L ce s' H' I' q hn fo
  obtain ⟨m, hn⟩ := hn
  refine wpAny_assign_Name (store_ok2 (v := V.ref L) I' hN hy (.inl hyl) rfl (fun s2 I2 hx => ?_) (.inr hyl))
  obtain ⟨a, sb, ha⟩ := hx
  have na : ce.locals ≠ a := ha.elim (fun z => z ▸ fo.2.1) fun z e => fo.2.2.2.2.1 y a z e.symm
  exact ⟨m, hn.sameBut sb na, fun h3 sb3 => ⟨_, H', I2.turned (t' := s2.toks) (it := ce.locals) (fun b o hb z => (sb3.2 b hb).trans z) fo.1 fo.2.1 fo.2.2.2.1 fo.2.2.2.2.1 fo.2.2.2.2.2, q⟩⟩
end
def hLcX (ok : S → Prop) (g : FG) (τ : Env) (ts acc : List T) (s : S) [te : Bx FE] [E : Bx KX] [Q : Bx (List T → S → Prop)] : Prop := lcX ok g te.v τ E.v ts acc s Q.v
theorem hold_lcX {ok : S → Prop} {g : FG} {te : FE} {τ : Env} {E : KX} {ts acc : List T} {s : S} {Q : List T → S → Prop} : lcX ok g te τ E ts acc s Q = @hLcX ok g τ ts acc s ⟨te⟩ ⟨E⟩ ⟨Q⟩ := rfl
/-- where f first gives nothing -/
def badAt (f : T → Option T) : Nat → List T → Option Nat
  | _, [] => none
  | n, t :: r => match f t with | some _ => badAt f (n + 1) r | none => some n
/-- [f(t) for k, t in enumerate(xs)], nothing changes; the first t that f does not take is refused -/
theorem lcX_enum {s : S} {E : KX} {te : FE} {τ : Env} {i j : Nat} {Q : List T → S → Prop} {ok : S → Prop} (f : T → Option T) (er : Nat → Er) (ho : ok s) : ∀ {xs acc : List T} {n : Nat},
    (∀ (k : Nat) (t : T), t ∈ xs → ∀ Q : KT, (match f t with | some y => Q y s | none => E (er k) s) → te ((τ.set i (some (.int (k : Int)))).set j (some t)) s Q E) → acc.length + xs.length ≤ 1000000 →
    (match badAt f n xs with | some k => E (er k) s | none => Q (acc ++ xs.filterMap f) s) → lcX ok (gT 2 (gsCons (gN i) (gsCons (gN j) gsNil))) te τ E (enumT n xs) acc s Q
  | [], acc, n, _, _, k => ⟨ho, by simpa [badAt] using k⟩
  | t :: r, acc, n, h, hl, k => by
    rw [List.length_cons] at hl
    refine ⟨ho, by omega, ?_⟩
    show 2 = 2 ∧ _
    refine ⟨rfl, ?_⟩
    refine h n t List.mem_cons_self _ ?_
    unfold badAt at k
    rcases e : f t with _ | y
    · rw [e] at k
      exact k
    · rw [e] at k
      refine lcX_enum f er ho (fun k t m => h k t (List.mem_cons_of_mem _ m)) (by simp; omega) ?_
      simp only [List.filterMap_cons, e] at k
      simpa using k
theorem rows_madeM : True := by
  have := @Mr.fLcX.eq_1
  trivial
end Mr

/-! The mirror layer: enumerate of a tuple too; sorted of ints of any length. -/
namespace Mr
open PySem PySem.Spec PyProof.Rows L2 Tw
section
variable {prog : Program} {w : World} {A : Around} {E : Value → Shared → Prop} {s : Shared}
theorem tup_end (hh : A.handled = none) {it t : Addr} {items : Array Value} {n : Nat} {Q : Value → Shared → Prop} (hit : s.heap.IsTupleIter it t n) (tp : s.heap.IsTuple t items) (gn : items[n]? = none)
    (q : ∀ h' e, Heap.ExtBut it s.heap h' → (∃ o, h'.get? e = some o ∧ o.cls = .type "StopIteration") → E (.ref e) { s with heap := h' }) : wpAny (model prog w) A (Builtin.SmallTypes.nextOf (.ref it)) Q E s := by
    obtain ⟨o2, e2, c2, n2, d2⟩ := tp
    obtain ⟨o, e, c, d⟩ := id hit
    unfold Builtin.SmallTypes.nextOf
    refine wpAny_bind (wpAny_callSpecial?_slot (name := Str.ofString "__next__") hit.typeIs F.slot_tuple_iterator_next (wpAny_call_entry F.slot_tuple_iterator_next hit.typeIs F.entry_tuple_iterator_next ?_ (F.args_tuple_iterator_next_1 _)))
    refine wpAny_bind (m := field (.ref it) 0) (wpAny_field e d (x := .ref t) rfl ?_)
    rw [show (Value.ref t == Value.none) = false from rfl, if_neg Bool.false_ne_true]
    refine wpAny_bind (m := field (.ref it) 1) (wpAny_field e d (x := .int n 0) rfl (wpAny_bind (wpAny_seqItems e2 d2 ?_)))
    simp only [Int.toNat_natCast, gn]
    refine wpAny_bind (wpAny_rule (wpAny_bind (wpAny_setField e d (by simp) (wpAny_bind ?_))))
    simp only [newExc, newTuple]
    refine wpAny_bind (wpAny_newObj_type (wpAny_bind (m := firstArgMember _ _) (wpAny_of_eq (a := Value.none) (by first | rfl | (simp only [firstArgMember]; rfl)) (wpAny_newObj_type ?_ (by size_fits)))) (by size_fits))
    simp only [raiseNew]
    refine wpAny_bind (wpAny_handled ?_)
    first | rw [show A.in1.handled = none from hh] | rw [hh]
    exact wpAny_bind (wpAny_pure (wpAny_throw (q _ _ (((Heap.SameBut.update ..).extBut.push _).push _) ⟨_, Heap.get?_push_size _ rfl, rfl⟩)))
/-- a tuple's iterator hands out the tuple's items -/
theorem draws_tup (hh : A.handled = none) {it t : Addr} (items : Array Value) (ne : t ≠ it) :
    Draws prog w A it [it, t] items.size (fun i v => items[i]? = some v) (fun i h => h.IsTupleIter it t i ∧ h.IsTuple t items) where
  live := fun _ _ st => st.1.elim fun o h => ⟨o, h.1⟩
  frame := fun _ _ _ st k => by
    obtain ⟨⟨o, e, r⟩, o2, e2, r2⟩ := st
    exact ⟨⟨o, k it (by simp) o e, r⟩, o2, k t (by simp) o2 e2, r2⟩
  item := fun i s Q E lt st q => by
    obtain ⟨hit, o2, e2, c2, n2, d2⟩ := st
    obtain ⟨o, e, c, d⟩ := id hit
    have gi : items[i]? = some items[i] := by simp [lt]
    unfold Builtin.SmallTypes.nextOf
    refine wpAny_bind (wpAny_callSpecial?_slot (name := Str.ofString "__next__") hit.typeIs F.slot_tuple_iterator_next (wpAny_call_entry F.slot_tuple_iterator_next hit.typeIs F.entry_tuple_iterator_next ?_ (F.args_tuple_iterator_next_1 _)))
    refine wpAny_bind (m := field (.ref it) 0) (wpAny_field e d (x := .ref t) rfl ?_)
    rw [show (Value.ref t == Value.none) = false from rfl, if_neg Bool.false_ne_true]
    refine wpAny_bind (m := field (.ref it) 1) (wpAny_field e d (x := .int i 0) rfl (wpAny_bind (wpAny_seqItems e2 d2 ?_)))
    simp only [Int.toNat_natCast, gi]
    have sb := Heap.SameBut.update s.heap it (Obj.mapFields (·.setIfInBounds 1 (rawInt ((i : Int) + 1))))
    refine wpAny_bind (wpAny_setField e d (by simp) (wpAny_pure ⟨items[i], rfl, wpAny_pure (q _ _ s.toks gi ⟨⟨_, Heap.get?_update_self _ e (Obj.isFreed_of_fields (Obj.data_mapFields d _)), ?_, ?_⟩, o2, ?_, c2, n2, d2⟩ (Heap.SameBut.update ..))⟩))
    · rw [Obj.cls_mapFields]; exact c
    · rw [Obj.data_mapFields d]; simp [rawInt]
    · exact (Heap.get?_update_other _ _ (Ne.symm ne)).trans e2
  done := fun s Q E st q => tup_end hh st.1 st.2 (by simp) q
/-- behind the last item -/
theorem draws_end (hh : A.handled = none) {it t : Addr} (items : Array Value) (n : Nat) (hn : items[n]? = none) :
    Draws prog w A it [it, t] n (fun _ _ => True) (fun i h => i = n ∧ h.IsTupleIter it t n ∧ h.IsTuple t items) where
  live := fun _ _ st => st.2.1.elim fun o h => ⟨o, h.1⟩
  frame := fun _ _ _ st k => by
    obtain ⟨e0, ⟨o, e, r⟩, o2, e2, r2⟩ := st
    exact ⟨e0, ⟨o, k it (by simp) o e, r⟩, o2, k t (by simp) o2 e2, r2⟩
  item := fun i s Q E lt st q => absurd lt (by omega)
  done := fun s Q E st q => tup_end hh st.2.1 st.2.2 hn q
end
/-- the tuple at a, each item in a new pair with its number -/
def IteT (K : PySem.W.Frag) (a : Addr) : It where
  go := fun i H => ∃ xs x, SqT K H a xs ∧ xs[i]? = some x
  yld := fun i H v H' => ∃ p x, v = .ref p ∧ H p = none ∧ H' = upd H p (.tup [.int (i : Nat), x]) ∧ ∀ xs, SqT K H a xs → xs[i]? = some x
  stop := fun i H => ∃ xs, SqT K H a xs ∧ xs.length ≤ i
theorem turn_enumT {P : Program} {w : World} {K : PySem.W.Frag} {elts : List Expr} {kk : Nat} {tpos : Pos} (a e it : Addr) :
    Turn P w K (.Tuple elts kk tpos) (IteT K a) [e, it] e (fun i h => (∃ old, IsEnum h e it ((i : Nat) : Int) old) ∧ h.IsTupleIter it a i ∧ e ≠ it) where
  mem := List.mem_cons_self
  obj := fun i h st b hb => by
    obtain ⟨⟨old, he⟩, ⟨o, ho, hc, hd⟩, _⟩ := st
    rcases List.mem_cons.mp hb with rfl | hb
    · exact ⟨_, he, nofun⟩
    · cases List.mem_singleton.mp hb
      exact ⟨o, ho, fun v q => nomatch (hd.symm.trans q)⟩
  keep := fun i h h' st k => by
    obtain ⟨⟨old, he⟩, hi, ne⟩ := st
    exact ⟨⟨old, k e List.mem_cons_self _ he⟩, hi.at fun o q => k it (by simp) o q, ne⟩
  item := by
    rintro X rfl rfl rfl hc i pins s σ H E I hf ⟨⟨old, he⟩, hit, ne⟩ ⟨xs, x, hq, hx⟩
    obtain ⟨its, rv, tup, _⟩ := I.tuple hq
    obtain ⟨u, hu, ru⟩ := rv.get hx
    have le : e < s.heap.objs.size := Heap.lt_size he
    have li : it < s.heap.objs.size := hit.elim fun _ z => Heap.lt_size z.1
    have ai : a ≠ it := by
      rintro rfl
      obtain ⟨o, e1, c1, _⟩ := hit
      obtain ⟨o2, e2, c2, _⟩ := tup
      cases e1.symm.trans e2
      exact absurd (Value.type.inj (c1.symm.trans c2)) (by decide)
    have ae : a ≠ e := by
      rintro rfl
      obtain ⟨o2, e2, c2, _⟩ := tup
      cases he.symm.trans e2
      exact absurd (Value.type.inj c2) (by decide)
    have lt : i < its.toArray.size := by
      have := (List.getElem?_eq_some_iff.mp hu).1
      simpa using this
    have D := draws_tup (prog := X.prog) (w := X.w) (A := X.A.in1) (show X.A.in1.handled = none from I.ok.hd hc) its.toArray ai
    refine wpAny_pyNext_enum_itemD D he ⟨hit, tup⟩ lt ne (by simp [ne, Ne.symm ae]) fun y h1 tk py ho st1 hT hz keep => ?_
    have ey : y = u := by
      have z : its[i]? = some y := by simpa using py
      exact Option.some.inj (z.symm.trans hu)
    subst ey
    refine ⟨_, rfl, wpAny_letOwnedTupleGo_enum (s := { s with heap := h1, toks := tk + 1 }) ho fun h2 he2 sb => ?_⟩
    have pT : h2.get? s.heap.objs.size = some { cls := .type "tuple", data := .seq #[.int i tk, y] } := (sb.2 _ (Nat.ne_of_gt le)).trans hT
    have new : ObjOk X.prog X.w (upd H s.heap.objs.size (.tup [.int (i : Nat), x])) h2 s.heap.objs.size (.tup [.int (i : Nat), x]) := ⟨by show 2 ≤ sizeLine; decide, [.int i tk, y], .cons ⟨_, rfl⟩ (.cons ru .nil), _, pT, rfl, _, rfl⟩
    have I1 : Inv X pins σ (upd H s.heap.objs.size (.tup [.int (i : Nat), x])) { s with heap := h2, toks := tk + 1 } := by
      refine I.turnedNew (ch := [e, it]) (fun b ob hb q => ?_) hf (Nat.le_refl _) new
      have n1 : b ≠ e := fun z => hb (by simp [z])
      have n2 : b ≠ it := fun z => hb (by simp [z])
      exact (sb.2 b n1).trans (keep b ob n1 n2 q)
    refine ⟨.ref s.heap.objs.size, _, I1, rfl, ⟨_, x, rfl, I.hok.fresh (Nat.le_refl _), rfl, fun ys hy => by rw [I.tuple_inj hy hq]; exact hx⟩, ⟨⟨y, ?_⟩, st1.1.at fun o q => (sb.2 it (Ne.symm ne)).trans q, ne⟩, fun b hb => ?_⟩
    · rw [show ((i + 1 : Nat) : Int) = (i : Int) + 1 by omega]
      exact he2
    · have lb : b < s.heap.objs.size := by
        rcases List.mem_cons.mp hb with rfl | hb
        · exact le
        · cases List.mem_singleton.mp hb; exact li
      exact (upd_ne (Nat.ne_of_lt lb)).trans (hf b hb).1
  done := by
    rintro X rfl rfl rfl hc i pins s σ H E I hf ⟨⟨old, he⟩, hit, ne⟩ ⟨xs, hq, hx⟩
    obtain ⟨its, rv, tup, _⟩ := I.tuple hq
    obtain ⟨f0, f1, f2, f3, f4, f5⟩ := hf it (by simp)
    have none_ : its.toArray[i]? = none := by
      have := rv.length
      simp
      omega
    have D := draws_end (prog := X.prog) (w := X.w) (A := X.A.in1) (it := it) (t := a) (show X.A.in1.handled = none from I.ok.hd hc) its.toArray i none_
    exact wpAny_pyNext_enum_endD D he ⟨rfl, hit, tup⟩ fun h' eb => ⟨rfl, I.turned (t' := s.toks) (fun b o hb q => eb b o hb q) f0 f1 f3 f4 f5⟩
  self := fun A i s Q E st h => st.1.elim fun _ he => wpAny_pyIter_enum he h
section
variable {X : Cx} {cl : CL} {W : WX} {k j c : Nat} {fn : Str} {e : Expr} {Fa : FE} {p pos tpos : Pos} {elts : List Expr} {kk : Nat}
/-- enumerate(e), e a list, an instance of the class c, or a tuple -/
def iEnumAV (K : PySem.W.Frag) (C : Addr) (fn : Str) (ta : TA) : TI := fun σ H R => ta σ H fun vs H1 => ∃ a, vs = [.ref a] ∧ ((∃ xs, SqL K H1 a xs ∧ R (Ite K a) H1) ∨ (∃ dx fs l zs, H1 a = some (.ins C dx fs) ∧ fs.lookup fn = some (.ref l) ∧ SqL K H1 l zs ∧ R (Ite K l) H1) ∨ ∃ xs, SqT K H1 a xs ∧ R (IteT K a) H1)
theorem pi_enumA {ta : TA} (d : IterM X.prog X.w X.K X.mg X.base cl k c fn) (hr : Rm j X.A) (hk : k + 2 ≤ j) (hg : Gl X "enumerate") (hm : X.mg "enumerate" = none) (ha : PA X [e] ta) (hs : starEach [e] X.env = [(false, eval e X.env)] := by rfl) :
    PI X (.Tuple elts kk tpos) (.Call (.Name "enumerate" p) [e] [] pos) (iEnumAV X.K (cl c) fn ta) := by
  refine ⟨fun pins s σ H R I h => ?_⟩
  refine Call_ (ld_blt I hg hm boot_enumerate (PyProof.Rows.callWith_type1 (thn (ha.run pos pins s σ H _ I h) fun us s1 ⟨vs, H1, I1, r1, q1⟩ => ?_) hs rfl))
  obtain ⟨a, ex, q⟩ := q1
  subst ex
  cases r1 with
  | cons r rr =>
    cases rr
    cases r
    rcases q with ⟨xs, hq, q⟩ | ⟨dx, fs, l, zs, hin, hl, hq, q⟩ | ⟨xs, hq, q⟩
    · obtain ⟨its, rv, p', hz⟩ := I1.list hq
      refine call_enumerate_list p'.isList fun h' he hit hsz hk => wpAny_pyIter_enum he ?_
      have I2 : Inv X pins σ H1 { s1 with heap := h' } := I1.kept (t' := s1.toks) hk
      refine ⟨s1.heap.objs.size + 1, [s1.heap.objs.size + 1, s1.heap.objs.size], _, _, H1, rfl, I2, turn_enum a (s1.heap.objs.size + 1) s1.heap.objs.size, ⟨⟨.none, he⟩, hit, Nat.succ_ne_self _⟩, fun b hb => ?_, q⟩
      have hle : s1.heap.objs.size ≤ b := by
        have e' : b = s1.heap.objs.size + 1 ∨ b = s1.heap.objs.size := by simpa using hb
        rcases e' with rfl | rfl
        · exact Nat.le_add_right _ _
        · exact Nat.le_refl _
      exact I1.fpOk hle (I1.hok.fresh hle)
    · obtain ⟨f, cc, me, run⟩ := d.ex
      obtain ⟨mA, J, _⟩ := ins_get I1.hok hin
      obtain ⟨od, J, _⟩ := J.look
      obtain ⟨mm, hF⟩ := I1.fr
      obtain ⟨j', rfl⟩ : ∃ j', j = j' + 2 := ⟨j - 2, by omega⟩
      have rmA : Rm k X.A.in1.in1 := ((hr.in1).in1).mono (by omega)
      have rc := run X.A.in1.in1 X.stack s1 H1 a dx l fs zs (fun v H' => ∃ it, v = .ref it ∧ H1 it = none ∧ s1.heap.objs.size ≤ it ∧ H' = upd H1 it (ItO l it 0)) rmA I1.env0.in1.in1 hin hl hq fun it h1 h2 => ⟨it, rfl, h1, h2, rfl⟩
      refine call_enum J.at_ ?_
      refine PySem.W.owit_iter hF I.ok.mod.kin J me.at_ me.fn (wpAny_call (codeAny_mono rc fun r s2 hq2 => ?_))
      match r, hq2 with
      | .error e, z =>
        obtain ⟨_, _, _, _, _, _, _, _, _, _, _, _, no⟩ := z
        exact no.elim
      | .ok .next, z => exact False.elim z
      | .ok .brk, z => exact False.elim z
      | .ok .cont, z => exact False.elim z
      | .ok (.ret u), z =>
        obtain ⟨v, H2, I2, rv, it, rfl, hn, hge, rfl⟩ := I1.after z
        obtain rfl : u = Value.ref it := rv
        have hi : s2.heap.get? it = some (GNX.itObj l 0) := itO_get I2 upd_same
        have hT : s2.TypeIs (.ref it) "list_iterator" := ⟨_, hi, rfl⟩
        refine wpAny_specialOf hT slot_listiter_next.lookup ?_
        refine ⟨it, rfl, fun h' he hsz hkp => ?_⟩
        have I3 := ItX.inv_drop I2 upd_same
        rw [ItX.dropH_upd hn] at I3
        have hlt : it < s2.heap.objs.size := Heap.lt_size hi
        refine wpAny_pyIter_enum he ?_
        have I4 : Inv X pins σ H1 { s2 with heap := h' } := I3.kept (t' := s2.toks) hkp
        refine ⟨s2.heap.objs.size, [s2.heap.objs.size, it], _, _, H1, rfl, I4, turn_enum l s2.heap.objs.size it, ⟨⟨.none, he⟩, ⟨_, hkp _ _ hi, rfl, rfl⟩, Nat.ne_of_gt hlt⟩, fun b hb => ?_, q⟩
        have e' : b = s2.heap.objs.size ∨ b = it := by simpa using hb
        rcases e' with rfl | rfl
        · exact I3.fpOk (Nat.le_refl _) (I3.hok.fresh (Nat.le_refl _))
        · have z := ItX.inv_fp I2 upd_same (Nat.le_trans I1.sz hge)
          rw [ItX.dropH_upd hn] at z
          exact z
    · obtain ⟨its, rv, tup, _⟩ := I1.tuple hq
      obtain ⟨ob, eo, co, no, dO⟩ := id tup
      refine call_enum eo (wpAny_pyIter_tuple tup ⟨s1.heap.objs.size, rfl, fun h' he hz keep => wpAny_pyIter_enum he ?_⟩)
      have new : ∀ b o, s1.heap.get? b = some o → h'.get? b = some o := fun b o z => keep b o (Heap.get?_push_of_some _ z)
      have len : (s1.heap.push { cls := .type "tuple_iterator", data := .fields #[.ref a, .int 0 0] }).objs.size = s1.heap.objs.size + 1 := Heap.size_push ..
      rw [len] at he hz ⊢
      have hit : h'.IsTupleIter s1.heap.objs.size a 0 := ⟨_, keep _ _ (Heap.get?_push_size _ rfl), rfl, rfl⟩
      have I2 : Inv X pins σ H1 { s1 with heap := h' } := I1.kept (t' := s1.toks) new
      refine ⟨s1.heap.objs.size + 1, [s1.heap.objs.size + 1, s1.heap.objs.size], _, _, H1, rfl, I2, turn_enumT a (s1.heap.objs.size + 1) s1.heap.objs.size, ⟨⟨.none, he⟩, hit, Nat.succ_ne_self _⟩, fun b hb => ?_, q⟩
      have le : s1.heap.objs.size ≤ b := by
        rcases List.mem_cons.mp hb with rfl | hb
        · exact Nat.le_add_right _ _
        · cases List.mem_singleton.mp hb; exact Nat.le_refl _
      exact I1.fpOk le (I1.hok.fresh le)
theorem src_enumT {K : PySem.W.Frag} {Z : Addr → Prop} {s : S} {H : Hp} {a : Addr} {vs : List V} {ts : List T} {ok : S → Prop} (keep : ∀ s' H', Fut s H s' H' → SqT K H' a vs) (r : Reps K cl Z s H vs ts) : Src K cl Z (IteT K a) (enumT 0 ts) ok s H where
  go := fun Z' s2 H2 i t f zz ok so2 e => by
    obtain ⟨u, e1, rfl⟩ := enumT_get 0 i ts t e
    obtain ⟨v, ev, rv⟩ := r.get i e1
    refine ⟨⟨_, v, keep _ _ f, ev⟩, ?_⟩
    rintro y H' ⟨T0, x, rfl, hT, rfl, hx⟩
    have ex := hx _ (keep _ _ f)
    rw [ev] at ex
    cases ex
    refine ⟨Fut.new hT, so2.new hT, ?_⟩
    rw [Nat.zero_add]
    exact .tup upd_same (so2.nomut hT) (.cons (.int _) (.cons ((rv.futz f zz).fut (Fut.new hT)) .nil))
  stop := fun Z' s2 H2 i f zz ok so2 e => by
    rw [enumT_len] at e
    exact ⟨_, keep _ _ f, by rw [r.length]; exact e⟩
def S.enumA? (s : S) (c : Nat) (fn : Str) (x : T) : Option (List T) := match x with
  | .tup ts => some ts
  | _ => s.enum? c fn x
def iEnumA (c : Nat) (fn : Str) (A : FA) : FI := fun τ s Q E => A τ s (fun xs s1 => match xs with | [x] => (match s1.enumA? c fn x with | some ts => Q (enumT 0 ts) (fun _ => True) s1 | none => False) | _ => False) E
theorem ji_enumA {A : FA} (d : IterM X.prog X.w X.K X.mg X.base cl k c fn) (hr : Rm j X.A) (hk : k + 2 ≤ j) (hg : Gl X "enumerate") (hm : X.mg "enumerate" = none) (ha : JA X cl W [e] A) (hs : starEach [e] X.env = [(false, eval e X.env)] := by rfl) :
    JI X cl W (.Tuple elts kk tpos) (.Call (.Name "enumerate" p) [e] [] pos) (iEnumA c fn A) := by
  refine ⟨fun τ s Q Q' E E' hq he h => ha.mon _ _ _ _ _ _ (fun xs s1 h1 => ?_) he h, PI.imp (pi_enumA d hr hk hg hm ha.pa hs) ?_⟩
  · split at h1
    · split at h1
      · exact hq _ _ _ h1
      · exact h1
    · exact h1
  rintro σ H R ⟨Z, τ, s, re, so, h⟩
  refine goA ha.mon re so h (fun ts s1 vs H1 p1 f1 re1 r1 so1 => ?_) fun _ _ q => q
  split at p1
  · rename_i x
    obtain ⟨v, rfl, rv⟩ := reps1 r1
    split at p1
    · rename_i ts e1
      unfold S.enumA? at e1
      split at e1
      · cases e1
        obtain ⟨a, ws, rfl, rs, keep⟩ := tup_keep rv
        exact ⟨a, rfl, .inr (.inr ⟨ws, keep _ _ (Fut.refl _ _), p1 _ _ f1 so1 (src_enumT keep rs)⟩)⟩
      unfold S.enum? at e1
      split at e1
      · cases e1
        obtain ⟨a, ws, rfl, rs, keep⟩ := lst_keep rv
        exact ⟨a, rfl, .inl ⟨ws, keep _ _ (Fut.refl _ _), p1 _ _ f1 so1 (src_enum keep rs)⟩⟩
      · split at e1
        · rename_i dd fs eo
          split at e1
          · rename_i ed
            subst ed
            split at e1
            · rename_i zs el
              cases e1
              obtain ⟨a, dx, fvs, rfl, hin, rf⟩ := obj_of so1 rv eo
              obtain ⟨u, eu, ru⟩ := rf.lookup el
              obtain ⟨l, ws, rfl, rs, keep⟩ := lst_keep ru
              exact ⟨a, rfl, .inr (.inl ⟨dx, fvs, l, ws, hin, eu, keep _ _ (Fut.refl _ _), p1 _ _ f1 so1 (src_enum keep rs)⟩)⟩
            · cases e1
          · cases e1
        · cases e1
    · exact p1.elim
  · exact p1.elim
end
/-! ### sorted of ints -/
section
variable {X : Cx} {cl : CL}
def rSortI (K : PySem.W.Frag) : List V → Hp → VK → Prop := fun vs H Q => ∃ (a : Addr) (ns : List Int), vs = [V.ref a] ∧ SqL K H a (ns.map V.int) ∧ ∀ (ns' : List Int) (p : Addr), ns'.Perm ns → ns'.Pairwise (· ≤ ·) → H p = none → Q (.ref p) (upd H p (.lst (ns'.map V.int)))
theorem cr_sortI : CallR X (.builtin "sorted") (rSortI X.K) := by
  rintro pins s σ H vs us Q I r ⟨a, ns, rfl, hs, q⟩
  obtain ⟨its, rv, hl, hz⟩ := I.list hs
  cases Vals.ref1 r
  have fits : its.length ≤ sizeLine := by
    rw [← rv.length]
    exact hz
  refine PyProof.Rows.sorted_intsAny hl.isList rv.ints fits fun out ms h1 h2 h3 => ?_
  obtain ⟨ep, at_⟩ := PyProof.Rows.sortedAll_at s.heap its out
  have len : (ms.map V.int).length ≤ sizeLine := by
    have := hz
    simp only [List.length_map, h2.length_eq] at this ⊢
    exact this
  have I2 : Inv X pins σ (upd H (s.heap.objs.size + 1) (.lst (ms.map V.int))) { s with heap := PyProof.Rows.sortedAll s.heap its out } := I.laid (t' := s.toks) (fun _ _ => PyProof.Rows.sortedAll_old) (Nat.le_succ _) ⟨len, out.toList, ep, vals_of_ints h1, at_⟩
  exact ⟨.ref _, _, I2, rfl, q ms _ h2 h3 (I.hok.fresh (Nat.le_succ _))⟩
/-- the ints of a list in order -/
def insI (x : Int) : List Int → List Int
  | [] => [x]
  | y :: r => if x ≤ y then x :: y :: r else y :: insI x r
def sortI : List Int → List Int
  | [] => []
  | x :: r => insI x (sortI r)
theorem insI_perm (x : Int) : ∀ l : List Int, (insI x l).Perm (x :: l)
  | [] => .refl _
  | y :: r => by
    unfold insI
    split
    · exact .refl _
    · exact ((insI_perm x r).cons y).trans (.swap x y r)
theorem sortI_perm : ∀ l : List Int, (sortI l).Perm l
  | [] => .refl _
  | x :: r => (insI_perm x _).trans ((sortI_perm r).cons x)
theorem insI_ord (x : Int) : ∀ l : List Int, l.Pairwise (· ≤ ·) → (insI x l).Pairwise (· ≤ ·)
  | [], _ => by simp [insI]
  | y :: r, h => by
    obtain ⟨h1, h2⟩ := List.pairwise_cons.mp h
    unfold insI
    split
    · rename_i le
      refine List.pairwise_cons.mpr ⟨fun z hz => ?_, h⟩
      rcases List.mem_cons.mp hz with rfl | hz
      · exact le
      · exact Int.le_trans le (h1 z hz)
    · rename_i le
      refine List.pairwise_cons.mpr ⟨fun z hz => ?_, insI_ord x r h2⟩
      rcases List.mem_cons.mp ((insI_perm x r).mem_iff.mp hz) with rfl | hz
      · omega
      · exact h1 z hz
theorem sortI_ord : ∀ l : List Int, (sortI l).Pairwise (· ≤ ·)
  | [] => .nil
  | x :: r => insI_ord x _ (sortI_ord r)
theorem sorted_one {a b : List Int} (p : a.Perm b) (ha : a.Pairwise (· ≤ ·)) (hb : b.Pairwise (· ≤ ·)) : a = b := p.eq_of_pairwise (fun _ _ _ _ h1 h2 => Int.le_antisymm h1 h2) ha hb
def intsOf : List T → Option (List Int)
  | [] => some []
  | .int i :: r => (intsOf r).map (i :: ·)
  | _ => none
theorem intsOf_map : ∀ l : List Int, intsOf (l.map T.int) = some l
  | [] => rfl
  | i :: r => by simp only [List.map_cons, intsOf, intsOf_map r]; rfl
theorem Reps.intsOf {K : PySem.W.Frag} {Z : Addr → Prop} {s : S} {H : Hp} : ∀ {ts : List T} {vs : List V} {is : List Int}, Reps K cl Z s H vs ts → Mr.intsOf ts = some is → vs = is.map V.int
  | [], _, _, r, e => by
    cases r
    cases e
    rfl
  | .int i :: ts, _, _, r, e => by
    cases r with
    | cons r rs =>
      obtain ⟨l, e1, rfl⟩ := Option.map_eq_some_iff.mp (show (Mr.intsOf ts).map (i :: ·) = some _ from e)
      cases r
      rw [Reps.intsOf rs e1]
      rfl
  | .non :: _, _, _, _, e | .bl _ :: _, _, _, _, e | .str _ :: _, _, _, _, e | .lst _ :: _, _, _, _, e | .tup _ :: _, _, _, _, e | .dct _ :: _, _, _, _, e | .obj _ _ :: _, _, _, _, e | .err _ _ :: _, _, _, _, e
  | .cell _ :: _, _, _, _, e | .pen :: _, _, _, _, e | .ty _ :: _, _, _, _, e | .lam _ _ _ _ _ :: _, _, _, _, e => nomatch e
def sortO : ON
  | s, [x] => match s.lst? x with | some xs => (match intsOf xs with | some is => some (True, .lst ((sortI is).map T.int)) | none => none) | none => none
  | _, _ => none
theorem repsI {K : PySem.W.Frag} {Z : Addr → Prop} {s : S} {H : Hp} : ∀ l : List Int, Reps K cl Z s H (l.map V.int) (l.map T.int)
  | [] => .nil
  | i :: r => .cons (.int i) (repsI r)
theorem c_sortI : BC X cl (.builtin "sorted") sortO := by
  refine ⟨_, cr_sortI, fun Z H xs Q s ts c t r so e hc p => ?_⟩
  unfold sortO at e
  split at e
  · obtain ⟨v, rfl, rv⟩ := reps1 r
    split at e
    · rename_i e1
      split at e
      · rename_i is e2
        cases e
        obtain ⟨a, vs, rfl, hq, rs⟩ := lst_of so rv e1
        refine ⟨a, is, rfl, SqL.of (by rw [hq, rs.intsOf e2]), fun ms p1 hp ho hn => ?_⟩
        rw [sorted_one (hp.trans (sortI_perm is).symm) ho (sortI_ord is)]
        exact p _ _ (Fut.new hn) (.lst upd_same (so.nomut hn) (repsI _)) (so.new hn)
      · cases e
    · cases e
  · cases e
end
theorem rows_madeN : True := by
  have := @Mr.iEnumA.eq_1
  trivial
end Mr

/-! The mirror layer: return e, where e may be a list of the def's own. -/
namespace Mr
open PySem PySem.Spec PyProof.Rows L2 Tw
section
variable {X : Cx} {cl : CL} {W : WX} {e : Expr} {pos : Pos} {Fa : FE}
def fRetC (Fa : FE) : FS := fun τ s D => Fa τ s (fun t s1 => match t with | .cell a => (match s1.on a with | some (.lst xs) => D.rt (.lst xs) (s1.del a) | _ => False) | t => D.rt t s1) (xk τ D)
theorem js_retC (ha : JE X cl W e Fa) : JS X cl W (.Return (some e) pos) (fRetC Fa) := by
  refine ⟨fun τ s D D' le h => ha.mon _ _ _ _ _ _ (fun t s1 q => ?_) (fun _ _ q => le.xr _ _ _ q) h, PS.imp (ps_ret ha.pe) ?_⟩
  · split at q
    · split at q
      · exact le.rt _ _ q
      · exact q.elim
    · exact le.rt _ _ q
  rintro D σ H ⟨Z, τ, s, re, so, h⟩
  refine go ha.mon re so h (fun tx s1 v H1 p1 f1 re1 r1 so1 => ?_) fun _ _ q => xe_w re q
  split at p1
  · rename_i a
    cases r1
    split at p1
    · rename_i xs ho
      obtain ⟨vs, h1, h2⟩ := so1.cells _ _ ho
      exact p1 _ _ (f1.trans (Fut.del _ _ a)) (.lst h1 (nomut_del so1 ho) (h2.fut (Fut.del _ _ a))) (so1.del a)
    · exact p1.elim
  · exact p1 _ _ f1 r1 so1
theorem rows_madeO : True := by
  have := @Mr.fRetC.eq_1
  trivial
end
end Mr

namespace M07
open PySem PySem.Spec PyProof.Rows L2 Tw Mr
abbrev P : Program := PySem.Challenge.pw_twoheads_k07_bags_in_place
def top (i : Nat) : Stmt := PySem.Challenge.pw_twoheads_k07_bags_in_place.main.body.getD i (.Pass ⟨0, 0, 0, 0⟩)
/-! the text's classes by number: 0 HeadsError, 1 BadInput, 2 Refused, 3 BadItem, 4 BadPlace, 5 Disordered, 6 TooMany, 7 Item, 8 Row -/
abbrev s_XBadItem : Stmt := inClass (top 5) 0
abbrev s_XBadPlace : Stmt := inClass (top 6) 0
abbrev s_XDisordered : Stmt := inClass (top 7) 0
abbrev s_XTooMany : Stmt := inClass (top 8) 0
abbrev s_isint : Stmt := top 13
abbrev N_isint : List Str := ["value", "least", "most"]
theorem sc_isint : FnScope N_isint ["value", "least", "most"] (C8.fnScope s_isint) := ⟨rfl, rfl, rfl, by decide +kernel, rfl, by decide +kernel, by decide +kernel⟩
abbrev s_isrank : Stmt := top 14
abbrev N_isrank : List Str := ["value"]
theorem sc_isrank : FnScope N_isrank ["value"] (C8.fnScope s_isrank) := ⟨rfl, rfl, rfl, by decide +kernel, rfl, by decide +kernel, by decide +kernel⟩
abbrev s_isname : Stmt := top 15
abbrev N_isname : List Str := ["value", "sign"]
theorem sc_isname : FnScope N_isname ["value"] (C8.fnScope s_isname) := ⟨rfl, rfl, rfl, by decide +kernel, rfl, by decide +kernel, by decide +kernel⟩
abbrev s_Iinit : Stmt := inClass (top 16) 0
abbrev N_Iinit : List Str := ["self", "rank", "name"]
theorem sc_Iinit : FnScope N_Iinit ["self", "rank", "name"] (C8.fnScope s_Iinit) := ⟨rfl, rfl, rfl, by decide +kernel, rfl, by decide +kernel, by decide +kernel⟩
abbrev s_item_of : Stmt := top 19
abbrev N_item_of : List Str := ["value", "at"]
theorem sc_item_of : FnScope N_item_of ["value", "at"] (C8.fnScope s_item_of) := ⟨rfl, rfl, rfl, by decide +kernel, rfl, by decide +kernel, by decide +kernel⟩
abbrev s_need_few : Stmt := top 20
abbrev N_need_few : List Str := ["items"]
theorem sc_need_few : FnScope N_need_few ["items"] (C8.fnScope s_need_few) := ⟨rfl, rfl, rfl, by decide +kernel, rfl, by decide +kernel, by decide +kernel⟩
abbrev s_need_ascending : Stmt := top 21
abbrev N_need_ascending : List Str := ["items", "at"]
theorem sc_need_ascending : FnScope N_need_ascending ["items"] (C8.fnScope s_need_ascending) := ⟨rfl, rfl, rfl, by decide +kernel, rfl, by decide +kernel, by decide +kernel⟩
abbrev s_items_of : Stmt := top 22
abbrev N_items_of : List Str := ["values", "found", "at", "value"]
theorem sc_items_of : FnScope N_items_of ["values"] (C8.fnScope s_items_of) := ⟨rfl, rfl, rfl, by decide +kernel, rfl, by decide +kernel, by decide +kernel⟩
abbrev s_behind_block : Stmt := top 23
abbrev N_behind_block : List Str := ["items", "at", "rank", "item"]
theorem sc_behind_block : FnScope N_behind_block ["items", "at", "rank"] (C8.fnScope s_behind_block) := ⟨rfl, rfl, rfl, by decide +kernel, rfl, by decide +kernel, by decide +kernel⟩
abbrev s_chosen : Stmt := top 24
abbrev N_chosen : List Str := ["word", "mine", "theirs"]
theorem sc_chosen : FnScope N_chosen ["word", "mine", "theirs"] (C8.fnScope s_chosen) := ⟨rfl, rfl, rfl, by decide +kernel, rfl, by decide +kernel, by decide +kernel⟩
abbrev s_bag : Stmt := top 25
abbrev N_bag : List Str := ["word", "one", "other", "ones", "others", "found", "left", "right", "ranks", "items", "at", "rank", "behind_left", "behind_right"]
theorem sc_bag : FnScope N_bag ["word", "one", "other"] (C8.fnScope s_bag) := ⟨rfl, rfl, rfl, by decide +kernel, rfl, by decide +kernel, by decide +kernel⟩
abbrev s_Rinit : Stmt := inClass (top 26) 1
abbrev N_Rinit : List Str := ["self", "items"]
theorem sc_Rinit : FnScope N_Rinit ["self", "items"] (C8.fnScope s_Rinit) := ⟨rfl, rfl, rfl, by decide +kernel, rfl, by decide +kernel, by decide +kernel⟩
abbrev s_Rlisted : Stmt := inClass (top 26) 3
abbrev N_Rlisted : List Str := ["self"]
theorem sc_Rlisted : FnScope N_Rlisted ["self"] (C8.fnScope s_Rlisted) := ⟨rfl, rfl, rfl, by decide +kernel, rfl, by decide +kernel, by decide +kernel⟩
abbrev s_Riter : Stmt := inClass (top 26) 16
abbrev N_Riter : List Str := ["self"]
theorem sc_Riter : FnScope N_Riter ["self"] (C8.fnScope s_Riter) := ⟨rfl, rfl, rfl, by decide +kernel, rfl, by decide +kernel, by decide +kernel⟩
abbrev s_Riadd : Stmt := inClass (top 26) 31
abbrev N_Riadd : List Str := ["self", "other"]
theorem sc_Riadd : FnScope N_Riadd ["self", "other"] (C8.fnScope s_Riadd) := ⟨rfl, rfl, rfl, by decide +kernel, rfl, by decide +kernel, by decide +kernel⟩
abbrev s_Rior : Stmt := inClass (top 26) 32
abbrev N_Rior : List Str := ["self", "other"]
theorem sc_Rior : FnScope N_Rior ["self", "other"] (C8.fnScope s_Rior) := ⟨rfl, rfl, rfl, by decide +kernel, rfl, by decide +kernel, by decide +kernel⟩
abbrev s_Riand : Stmt := inClass (top 26) 33
abbrev N_Riand : List Str := ["self", "other"]
theorem sc_Riand : FnScope N_Riand ["self", "other"] (C8.fnScope s_Riand) := ⟨rfl, rfl, rfl, by decide +kernel, rfl, by decide +kernel, by decide +kernel⟩
abbrev s_Risub : Stmt := inClass (top 26) 34
abbrev N_Risub : List Str := ["self", "other"]
theorem sc_Risub : FnScope N_Risub ["self", "other"] (C8.fnScope s_Risub) := ⟨rfl, rfl, rfl, by decide +kernel, rfl, by decide +kernel, by decide +kernel⟩
abbrev s_Rixor : Stmt := inClass (top 26) 35
abbrev N_Rixor : List Str := ["self", "other"]
theorem sc_Rixor : FnScope N_Rixor ["self", "other"] (C8.fnScope s_Rixor) := ⟨rfl, rfl, rfl, by decide +kernel, rfl, by decide +kernel, by decide +kernel⟩
abbrev s_pen : Stmt := top 28
abbrev N_pen : List Str := ["_law_script"]
theorem sc_pen : FnScope N_pen ["_law_script"] (C8.fnScope s_pen) := ⟨rfl, rfl, rfl, by decide +kernel, rfl, by decide +kernel, by decide +kernel⟩
abbrev s_draw : Stmt := top 29
abbrev N_draw : List Str := ["_law_pen_here", "_law_many", "_law_digit", "_law_at", "_law_cell", "_law_great", "_law_mixed"]
theorem sc_draw : FnScope N_draw ["_law_pen_here", "_law_many"] (C8.fnScope s_draw) := ⟨rfl, rfl, rfl, by decide +kernel, rfl, by decide +kernel, by decide +kernel⟩
abbrev s_pick : Stmt := top 30
abbrev N_pick : List Str := ["_law_pen_here", "_law_some"]
theorem sc_pick : FnScope N_pick ["_law_pen_here", "_law_some"] (C8.fnScope s_pick) := ⟨rfl, rfl, rfl, by decide +kernel, rfl, by decide +kernel, by decide +kernel⟩
abbrev s_pairs : Stmt := top 31
abbrev N_pairs : List Str := ["_law_pen_here", "_law_most", "_law_rank", "_law_found", "_law_k"]
theorem sc_pairs : FnScope N_pairs ["_law_pen_here", "_law_most"] (C8.fnScope s_pairs) := ⟨rfl, rfl, rfl, by decide +kernel, rfl, by decide +kernel, by decide +kernel⟩
abbrev s_values : Stmt := top 32
abbrev N_values : List Str := ["_law_pen_here", "_law_pairs_here", "_law_found", "_law_rank", "_law_name"]
theorem sc_values : FnScope N_values ["_law_pen_here", "_law_pairs_here"] (C8.fnScope s_values) := ⟨rfl, rfl, rfl, by decide +kernel, rfl, by decide +kernel, by decide +kernel⟩
abbrev s_told : Stmt := top 33
abbrev N_told : List Str := ["_law_listed", "_law_item"]
theorem sc_told : FnScope N_told ["_law_listed"] (C8.fnScope s_told) := ⟨rfl, rfl, rfl, by decide +kernel, rfl, by decide +kernel, by decide +kernel⟩
abbrev s_heard : Stmt := top 34
abbrev N_heard : List Str := ["_law_ask", "_law_caught", "_law_found", "error"]
theorem sc_heard : FnScope N_heard ["_law_ask"] (C8.fnScope s_heard) := ⟨rfl, rfl, rfl, by decide +kernel, rfl, by decide +kernel, by decide +kernel⟩
abbrev s_lbag : Stmt := top 35
abbrev N_lbag : List Str := ["_law_word", "_law_ones", "_law_others", "_law_found", "_law_rank", "_law_pair", "_law_mine", "_law_theirs", "_law_both"]
theorem sc_lbag : FnScope N_lbag ["_law_word", "_law_ones", "_law_others"] (C8.fnScope s_lbag) := ⟨rfl, rfl, rfl, by decide +kernel, rfl, by decide +kernel, by decide +kernel⟩
abbrev s_change : Stmt := top 36
abbrev N_change : List Str := ["_law_word", "_law_row", "_law_other"]
theorem sc_change : FnScope N_change ["_law_word", "_law_row", "_law_other"] (C8.fnScope s_change) := ⟨rfl, rfl, rfl, by decide +kernel, rfl, by decide +kernel, by decide +kernel⟩
abbrev s_beside : Stmt := top 37
abbrev N_beside : List Str := ["_law_pen_here", "_law_pairs_here", "_law_found", "_law_rank", "_law_name", "_law_k"]
theorem sc_beside : FnScope N_beside ["_law_pen_here", "_law_pairs_here"] (C8.fnScope s_beside) := ⟨rfl, rfl, rfl, by decide +kernel, rfl, by decide +kernel, by decide +kernel⟩
abbrev s_refused : Stmt := top 38
abbrev N_refused : List Str := ["_law_pen_here", "_law_row", "_law_pairs_here", "_law_word", "_law_odd", "_law_heard_here", "_law_full", "_law_sign"]
theorem sc_refused : FnScope N_refused ["_law_pen_here", "_law_row", "_law_pairs_here"] (C8.fnScope s_refused) := ⟨rfl, rfl, rfl, by decide +kernel, rfl, by decide +kernel, by decide +kernel⟩
abbrev s_law : Stmt := top 39
abbrev N_law : List Str := ["_law_script", "_law_pen_here", "_law_turn", "_law_pairs_here", "_law_elder", "_law_held", "_law_row", "_law_second", "_law_deed", "_law_word", "_law_others", "_law_values_here", "_law_other", "_law_own"]
theorem sc_law : FnScope N_law ["_law_script"] (C8.fnScope s_law) := ⟨rfl, rfl, rfl, by decide +kernel, rfl, by decide +kernel, by decide +kernel⟩
def kkT : List ((Ty × Ty) × Bool) := [((.non, .own 7), false), ((.bool, .own 7), false), ((.int, .own 7), false), ((.str, .own 7), false), ((.list, .own 7), false), ((.tup, .own 7), false), ((.dict, .own 7), false), ((.own 3, .own 7), false), ((.own 4, .own 7), false), ((.own 5, .own 7), false), ((.own 6, .own 7), false), ((.own 7, .own 7), true), ((.own 8, .own 7), false), ((.non, .own 3), false), ((.bool, .own 3), false), ((.int, .own 3), false), ((.str, .own 3), false), ((.list, .own 3), false), ((.tup, .own 3), false), ((.dict, .own 3), false), ((.own 3, .own 3), true), ((.own 4, .own 3), false), ((.own 5, .own 3), false), ((.own 6, .own 3), false), ((.own 7, .own 3), false), ((.own 8, .own 3), false), ((.non, .own 4), false), ((.bool, .own 4), false), ((.int, .own 4), false), ((.str, .own 4), false), ((.list, .own 4), false), ((.tup, .own 4), false), ((.dict, .own 4), false), ((.own 3, .own 4), false), ((.own 4, .own 4), true), ((.own 5, .own 4), false), ((.own 6, .own 4), false), ((.own 7, .own 4), false), ((.own 8, .own 4), false), ((.non, .own 5), false), ((.bool, .own 5), false), ((.int, .own 5), false), ((.str, .own 5), false), ((.list, .own 5), false), ((.tup, .own 5), false), ((.dict, .own 5), false), ((.own 3, .own 5), false), ((.own 4, .own 5), false), ((.own 5, .own 5), true), ((.own 6, .own 5), false), ((.own 7, .own 5), false), ((.own 8, .own 5), false), ((.non, .own 6), false), ((.bool, .own 6), false), ((.int, .own 6), false), ((.str, .own 6), false), ((.list, .own 6), false), ((.tup, .own 6), false), ((.dict, .own 6), false), ((.own 3, .own 6), false), ((.own 4, .own 6), false), ((.own 5, .own 6), false), ((.own 6, .own 6), true), ((.own 7, .own 6), false), ((.own 8, .own 6), false), ((.non, .int), false), ((.bool, .int), true), ((.int, .int), true), ((.str, .int), false), ((.list, .int), false), ((.tup, .int), false), ((.dict, .int), false), ((.own 3, .int), false), ((.own 4, .int), false), ((.own 5, .int), false), ((.own 6, .int), false), ((.own 7, .int), false), ((.own 8, .int), false), ((.non, .str), false), ((.bool, .str), false), ((.int, .str), false), ((.str, .str), true), ((.list, .str), false), ((.tup, .str), false), ((.dict, .str), false), ((.own 3, .str), false), ((.own 4, .str), false), ((.own 5, .str), false), ((.own 6, .str), false), ((.own 7, .str), false), ((.own 8, .str), false), ((.non, .tup), false), ((.bool, .tup), false), ((.int, .tup), false), ((.str, .tup), false), ((.list, .tup), false), ((.tup, .tup), true), ((.dict, .tup), false), ((.own 3, .tup), false), ((.own 4, .tup), false), ((.own 5, .tup), false), ((.own 6, .tup), false), ((.own 7, .tup), false), ((.own 8, .tup), false), ((.non, .bool), false), ((.bool, .bool), true), ((.int, .bool), false), ((.str, .bool), false), ((.list, .bool), false), ((.tup, .bool), false), ((.dict, .bool), false), ((.own 3, .bool), false), ((.own 4, .bool), false), ((.own 5, .bool), false), ((.own 6, .bool), false), ((.own 7, .bool), false), ((.own 8, .bool), false), ((.non, .own 8), false), ((.bool, .own 8), false), ((.int, .own 8), false), ((.str, .own 8), false), ((.list, .own 8), false), ((.tup, .own 8), false), ((.dict, .own 8), false), ((.own 3, .own 8), false), ((.own 4, .own 8), false), ((.own 5, .own 8), false), ((.own 6, .own 8), false), ((.own 7, .own 8), false), ((.own 8, .own 8), true)]
theorem kkA : kkOf kkT (.non) (.own 7) = some false ∧ kkOf kkT (.bool) (.own 7) = some false ∧ kkOf kkT (.int) (.own 7) = some false ∧ kkOf kkT (.str) (.own 7) = some false ∧ kkOf kkT (.list) (.own 7) = some false ∧ kkOf kkT (.tup) (.own 7) = some false ∧ kkOf kkT (.dict) (.own 7) = some false ∧ kkOf kkT (.own 3) (.own 7) = some false ∧ kkOf kkT (.own 4) (.own 7) = some false ∧ kkOf kkT (.own 5) (.own 7) = some false ∧ kkOf kkT (.own 6) (.own 7) = some false ∧ kkOf kkT (.own 7) (.own 7) = some true ∧ kkOf kkT (.own 8) (.own 7) = some false ∧ kkOf kkT (.non) (.own 3) = some false ∧ kkOf kkT (.bool) (.own 3) = some false ∧ kkOf kkT (.int) (.own 3) = some false ∧ kkOf kkT (.str) (.own 3) = some false ∧ kkOf kkT (.list) (.own 3) = some false ∧ kkOf kkT (.tup) (.own 3) = some false ∧ kkOf kkT (.dict) (.own 3) = some false ∧ kkOf kkT (.own 3) (.own 3) = some true ∧ kkOf kkT (.own 4) (.own 3) = some false ∧ kkOf kkT (.own 5) (.own 3) = some false ∧ kkOf kkT (.own 6) (.own 3) = some false ∧ kkOf kkT (.own 7) (.own 3) = some false ∧ kkOf kkT (.own 8) (.own 3) = some false ∧ kkOf kkT (.non) (.own 4) = some false ∧ kkOf kkT (.bool) (.own 4) = some false ∧ kkOf kkT (.int) (.own 4) = some false ∧ kkOf kkT (.str) (.own 4) = some false ∧ kkOf kkT (.list) (.own 4) = some false ∧ kkOf kkT (.tup) (.own 4) = some false ∧ kkOf kkT (.dict) (.own 4) = some false ∧ kkOf kkT (.own 3) (.own 4) = some false ∧ kkOf kkT (.own 4) (.own 4) = some true ∧ kkOf kkT (.own 5) (.own 4) = some false ∧ kkOf kkT (.own 6) (.own 4) = some false ∧ kkOf kkT (.own 7) (.own 4) = some false ∧ kkOf kkT (.own 8) (.own 4) = some false ∧ kkOf kkT (.non) (.own 5) = some false ∧ kkOf kkT (.bool) (.own 5) = some false ∧ kkOf kkT (.int) (.own 5) = some false ∧ kkOf kkT (.str) (.own 5) = some false ∧ kkOf kkT (.list) (.own 5) = some false ∧ kkOf kkT (.tup) (.own 5) = some false ∧ kkOf kkT (.dict) (.own 5) = some false ∧ kkOf kkT (.own 3) (.own 5) = some false ∧ kkOf kkT (.own 4) (.own 5) = some false ∧ kkOf kkT (.own 5) (.own 5) = some true ∧ kkOf kkT (.own 6) (.own 5) = some false ∧ kkOf kkT (.own 7) (.own 5) = some false ∧ kkOf kkT (.own 8) (.own 5) = some false ∧ kkOf kkT (.non) (.own 6) = some false ∧ kkOf kkT (.bool) (.own 6) = some false ∧ kkOf kkT (.int) (.own 6) = some false ∧ kkOf kkT (.str) (.own 6) = some false ∧ kkOf kkT (.list) (.own 6) = some false ∧ kkOf kkT (.tup) (.own 6) = some false ∧ kkOf kkT (.dict) (.own 6) = some false ∧ kkOf kkT (.own 3) (.own 6) = some false ∧ kkOf kkT (.own 4) (.own 6) = some false ∧ kkOf kkT (.own 5) (.own 6) = some false ∧ kkOf kkT (.own 6) (.own 6) = some true ∧ kkOf kkT (.own 7) (.own 6) = some false ∧ kkOf kkT (.own 8) (.own 6) = some false ∧ kkOf kkT (.non) (.int) = some false ∧ kkOf kkT (.bool) (.int) = some true ∧ kkOf kkT (.int) (.int) = some true ∧ kkOf kkT (.str) (.int) = some false ∧ kkOf kkT (.list) (.int) = some false ∧ kkOf kkT (.tup) (.int) = some false ∧ kkOf kkT (.dict) (.int) = some false ∧ kkOf kkT (.own 3) (.int) = some false ∧ kkOf kkT (.own 4) (.int) = some false ∧ kkOf kkT (.own 5) (.int) = some false ∧ kkOf kkT (.own 6) (.int) = some false ∧ kkOf kkT (.own 7) (.int) = some false ∧ kkOf kkT (.own 8) (.int) = some false ∧ kkOf kkT (.non) (.str) = some false ∧ kkOf kkT (.bool) (.str) = some false ∧ kkOf kkT (.int) (.str) = some false ∧ kkOf kkT (.str) (.str) = some true ∧ kkOf kkT (.list) (.str) = some false ∧ kkOf kkT (.tup) (.str) = some false ∧ kkOf kkT (.dict) (.str) = some false ∧ kkOf kkT (.own 3) (.str) = some false ∧ kkOf kkT (.own 4) (.str) = some false ∧ kkOf kkT (.own 5) (.str) = some false ∧ kkOf kkT (.own 6) (.str) = some false ∧ kkOf kkT (.own 7) (.str) = some false ∧ kkOf kkT (.own 8) (.str) = some false ∧ kkOf kkT (.non) (.tup) = some false ∧ kkOf kkT (.bool) (.tup) = some false ∧ kkOf kkT (.int) (.tup) = some false ∧ kkOf kkT (.str) (.tup) = some false ∧ kkOf kkT (.list) (.tup) = some false ∧ kkOf kkT (.tup) (.tup) = some true ∧ kkOf kkT (.dict) (.tup) = some false ∧ kkOf kkT (.own 3) (.tup) = some false ∧ kkOf kkT (.own 4) (.tup) = some false ∧ kkOf kkT (.own 5) (.tup) = some false ∧ kkOf kkT (.own 6) (.tup) = some false ∧ kkOf kkT (.own 7) (.tup) = some false ∧ kkOf kkT (.own 8) (.tup) = some false ∧ kkOf kkT (.non) (.bool) = some false ∧ kkOf kkT (.bool) (.bool) = some true ∧ kkOf kkT (.int) (.bool) = some false ∧ kkOf kkT (.str) (.bool) = some false ∧ kkOf kkT (.list) (.bool) = some false ∧ kkOf kkT (.tup) (.bool) = some false ∧ kkOf kkT (.dict) (.bool) = some false ∧ kkOf kkT (.own 3) (.bool) = some false ∧ kkOf kkT (.own 4) (.bool) = some false ∧ kkOf kkT (.own 5) (.bool) = some false ∧ kkOf kkT (.own 6) (.bool) = some false ∧ kkOf kkT (.own 7) (.bool) = some false ∧ kkOf kkT (.own 8) (.bool) = some false ∧ kkOf kkT (.non) (.own 8) = some false ∧ kkOf kkT (.bool) (.own 8) = some false ∧ kkOf kkT (.int) (.own 8) = some false ∧ kkOf kkT (.str) (.own 8) = some false ∧ kkOf kkT (.list) (.own 8) = some false ∧ kkOf kkT (.tup) (.own 8) = some false ∧ kkOf kkT (.dict) (.own 8) = some false ∧ kkOf kkT (.own 3) (.own 8) = some false ∧ kkOf kkT (.own 4) (.own 8) = some false ∧ kkOf kkT (.own 5) (.own 8) = some false ∧ kkOf kkT (.own 6) (.own 8) = some false ∧ kkOf kkT (.own 7) (.own 8) = some false ∧ kkOf kkT (.own 8) (.own 8) = some true := ⟨rfl, rfl, rfl, rfl, rfl, rfl, rfl, rfl, rfl, rfl, rfl, rfl, rfl, rfl, rfl, rfl, rfl, rfl, rfl, rfl, rfl, rfl, rfl, rfl, rfl, rfl, rfl, rfl, rfl, rfl, rfl, rfl, rfl, rfl, rfl, rfl, rfl, rfl, rfl, rfl, rfl, rfl, rfl, rfl, rfl, rfl, rfl, rfl, rfl, rfl, rfl, rfl, rfl, rfl, rfl, rfl, rfl, rfl, rfl, rfl, rfl, rfl, rfl, rfl, rfl, rfl, rfl, rfl, rfl, rfl, rfl, rfl, rfl, rfl, rfl, rfl, rfl, rfl, rfl, rfl, rfl, rfl, rfl, rfl, rfl, rfl, rfl, rfl, rfl, rfl, rfl, rfl, rfl, rfl, rfl, rfl, rfl, rfl, rfl, rfl, rfl, rfl, rfl, rfl, rfl, rfl, rfl, rfl, rfl, rfl, rfl, rfl, rfl, rfl, rfl, rfl, rfl, rfl, rfl, rfl, rfl, rfl, rfl, rfl, rfl, rfl, rfl, rfl, rfl, rfl⟩
theorem lkA : (∀ v0 v1 : T, List.lookup (Str.ofString "rank") ([("rank", v0), ("name", v1)] : List (Str × T)) = some v0) ∧
  (∀ v0 v1 : T, List.lookup (Str.ofString "name") ([("rank", v0), ("name", v1)] : List (Str × T)) = some v1) ∧
  (∀ v0 v1 : T, List.lookup (Str.ofString "before") ([("rank", v0), ("name", v1)] : List (Str × T)) = none) ∧
  (∀ v0 v1 : T, List.lookup (Str.ofString "same") ([("rank", v0), ("name", v1)] : List (Str × T)) = none) ∧
  (∀ w : T, putT (Str.ofString "rank") w ([] : List (Str × T)) = ([("rank", w)] : List (Str × T))) ∧
  (∀ v0 v1 w : T, putT (Str.ofString "rank") w ([("rank", v0), ("name", v1)] : List (Str × T)) = ([("rank", w), ("name", v1)] : List (Str × T))) ∧
  (∀ v0 w : T, putT (Str.ofString "name") w ([("rank", v0)] : List (Str × T)) = ([("rank", v0), ("name", w)] : List (Str × T))) ∧
  (∀ v0 v1 w : T, putT (Str.ofString "name") w ([("rank", v0), ("name", v1)] : List (Str × T)) = ([("rank", v0), ("name", w)] : List (Str × T))) ∧
  (∀ v0 : T, List.lookup (Str.ofString "held") ([("held", v0)] : List (Str × T)) = some v0) ∧
  (∀ v0 : T, List.lookup (Str.ofString "attempt") ([("held", v0)] : List (Str × T)) = none) ∧
  (∀ v0 : T, List.lookup (Str.ofString "between") ([("held", v0)] : List (Str × T)) = none) ∧
  (∀ v0 : T, List.lookup (Str.ofString "blocks") ([("held", v0)] : List (Str × T)) = none) ∧
  (∀ v0 : T, List.lookup (Str.ofString "listed") ([("held", v0)] : List (Str × T)) = none) ∧
  (∀ v0 : T, List.lookup (Str.ofString "need_index") ([("held", v0)] : List (Str × T)) = none) ∧
  (∀ v0 : T, List.lookup (Str.ofString "number") ([("held", v0)] : List (Str × T)) = none) ∧
  (∀ v0 : T, List.lookup (Str.ofString "of") ([("held", v0)] : List (Str × T)) = none) ∧
  (∀ v0 : T, List.lookup (Str.ofString "ranks") ([("held", v0)] : List (Str × T)) = none) ∧
  (∀ v0 : T, List.lookup (Str.ofString "settle") ([("held", v0)] : List (Str × T)) = none) ∧
  (∀ v0 : T, List.lookup (Str.ofString "trial") ([("held", v0)] : List (Str × T)) = none) ∧
  (∀ v0 : T, List.lookup (Str.ofString "within") ([("held", v0)] : List (Str × T)) = none) ∧
  (∀ w : T, putT (Str.ofString "held") w ([] : List (Str × T)) = ([("held", w)] : List (Str × T))) ∧
  (∀ v0 w : T, putT (Str.ofString "held") w ([("held", v0)] : List (Str × T)) = ([("held", w)] : List (Str × T))) ∧
  (∀ v0 : T, List.lookup (Str.ofString "part") ([("part", v0)] : List (Str × T)) = some v0) ∧
  (∀ v0 : T, List.lookup (Str.ofString "at") ([("at", v0)] : List (Str × T)) = some v0) ∧
  (∀ v0 : T, List.lookup (Str.ofString "most") ([("most", v0)] : List (Str × T)) = some v0) := ⟨by intros; rfl, by intros; rfl, by intros; rfl, by intros; rfl, by intros; rfl, by intros; rfl, by intros; rfl, by intros; rfl, by intros; rfl, by intros; rfl, by intros; rfl, by intros; rfl, by intros; rfl, by intros; rfl, by intros; rfl, by intros; rfl, by intros; rfl, by intros; rfl, by intros; rfl, by intros; rfl, by intros; rfl, by intros; rfl, by intros; rfl, by intros; rfl, by intros; rfl⟩
def insL : List Nat := [7, 8]
def excL : List Nat := [3, 4, 5, 6]
structure Txt (K : PySem.W.Frag) (w : World) (mg : Str → Option Value) (cl : CL) (base : Heap) : Prop where
  n_len : mg "len" = none
  n_abs : mg "abs" = none
  n_int : mg "int" = none
  n_list : mg "list" = none
  n_tuple : mg "tuple" = none
  n_str : mg "str" = none
  n_range : mg "range" = none
  n_isinstance : mg "isinstance" = none
  n_all : mg "all" = none
  n_bool : mg "bool" = none
  n_sorted : mg "sorted" = none
  n_super : mg "super" = none
  n_enumerate : mg "enumerate" = none
  n_iter : mg "iter" = none
  n_ValueError : mg "ValueError" = none
  mx_HeadsError : mg "HeadsError" = some (.ref (cl 0))
  mx_BadInput : mg "BadInput" = some (.ref (cl 1))
  mx_Refused : mg "Refused" = some (.ref (cl 2))
  mx_BadItem : mg "BadItem" = some (.ref (cl 3))
  mx_BadPlace : mg "BadPlace" = some (.ref (cl 4))
  mx_Disordered : mg "Disordered" = some (.ref (cl 5))
  mx_TooMany : mg "TooMany" = some (.ref (cl 6))
  mx_Item : mg "Item" = some (.ref (cl 7))
  mx_Row : mg "Row" = some (.ref (cl 8))
  fld_rank : ∀ c ∈ [7], Cls K (cl c) ∧ NoAttr K (cl c) "rank"
  fld_name : ∀ c ∈ [7], Cls K (cl c) ∧ NoAttr K (cl c) "name"
  fld_held : ∀ c ∈ [8], Cls K (cl c) ∧ NoAttr K (cl c) "held"
  x_BadItem : Tw.XCall P K (cl 3) ["part"]
  oex_BadItem : OexC K (cl 3)
  xf_BadItem : XfC K (cl 3)
  na_BadItem_part : PySem.W.findIn K (.ref (cl 3)) "part" = some none
  x_BadPlace : Tw.XCall P K (cl 4) ["at"]
  oex_BadPlace : OexC K (cl 4)
  xf_BadPlace : XfC K (cl 4)
  na_BadPlace_at : PySem.W.findIn K (.ref (cl 4)) "at" = some none
  x_Disordered : Tw.XCall P K (cl 5) ["at"]
  oex_Disordered : OexC K (cl 5)
  xf_Disordered : XfC K (cl 5)
  na_Disordered_at : PySem.W.findIn K (.ref (cl 5)) "at" = some none
  x_TooMany : Tw.XCall P K (cl 6) ["most"]
  oex_TooMany : OexC K (cl 6)
  xf_TooMany : XfC K (cl 6)
  na_TooMany_most : PySem.W.findIn K (.ref (cl 6)) "most" = some none
  em_HeadsError : ∀ c, c ∈ [3, 4, 5, 6] → PySem.W.exmOne K (.ref (cl c)) (.ref (cl 0)) = some true
  wc : Wc K cl (kkOf kkT) insL excL
  g_LETTERS : ∃ u, mg "LETTERS" = some u ∧ RelV (.str "abcdefghijklmnopqrstuvwxyz") u
  g_MOST_LETTERS : ∃ u, mg "MOST_LETTERS" = some u ∧ RelV (.int (8)) u
  g_GREATEST : ∃ u, mg "GREATEST" = some u ∧ RelV (.int (999999999999999999999999999999)) u
  g_MOST_ITEMS : ∃ u, mg "MOST_ITEMS" = some u ∧ RelV (.int (200)) u
  d_isint : Tw.DefAt K mg "is_integer" s_isint ["value", "least", "most"] []
  d_isrank : Tw.DefAt K mg "is_rank" s_isrank ["value"] []
  d_isname : Tw.DefAt K mg "is_item_name" s_isname ["value"] []
  d_Iinit : Tw.MakAt K mg "Item" (cl 7) "Item.__init__" s_Iinit ["self", "rank", "name"] []
  d_item_of : Tw.DefAt K mg "item_of" s_item_of ["value", "at"] []
  d_need_few : Tw.DefAt K mg "need_few" s_need_few ["items"] []
  d_need_ascending : Tw.DefAt K mg "need_ascending" s_need_ascending ["items"] []
  d_items_of : Tw.DefAt K mg "items_of" s_items_of ["values"] []
  d_behind_block : Tw.DefAt K mg "behind_block" s_behind_block ["items", "at", "rank"] []
  d_chosen : Tw.DefAt K mg "chosen" s_chosen ["word", "mine", "theirs"] []
  d_bag : Tw.DefAt K mg "bag" s_bag ["word", "one", "other"] []
  d_Rinit : Tw.MakAt K mg "Row" (cl 8) "Row.__init__" s_Rinit ["self", "items"] []
  d_Rlisted : Tw.MetAt K (cl 8) "listed" "Row.listed" s_Rlisted ["self"] []
  d_Riter : Tw.MetAt K (cl 8) "__iter__" "Row.__iter__" s_Riter ["self"] []
  d_Riadd : Tw.MetAt K (cl 8) "__iadd__" "Row.__iadd__" s_Riadd ["self", "other"] []
  d_Rior : Tw.MetAt K (cl 8) "__ior__" "Row.__ior__" s_Rior ["self", "other"] []
  d_Riand : Tw.MetAt K (cl 8) "__iand__" "Row.__iand__" s_Riand ["self", "other"] []
  d_Risub : Tw.MetAt K (cl 8) "__isub__" "Row.__isub__" s_Risub ["self", "other"] []
  d_Rixor : Tw.MetAt K (cl 8) "__ixor__" "Row.__ixor__" s_Rixor ["self", "other"] []
  d_pen : Tw.DefAt K mg "_law_pen" s_pen ["_law_script"] []
  d_draw : Tw.DefAt K mg "_law_draw" s_draw ["_law_pen_here", "_law_many"] []
  d_pick : Tw.DefAt K mg "_law_pick" s_pick ["_law_pen_here", "_law_some"] []
  d_pairs : Tw.DefAt K mg "_law_pairs" s_pairs ["_law_pen_here", "_law_most"] []
  d_values : Tw.DefAt K mg "_law_values" s_values ["_law_pen_here", "_law_pairs_here"] []
  d_told : Tw.DefAt K mg "_law_told" s_told ["_law_listed"] []
  d_heard : Tw.DefAt K mg "_law_heard" s_heard ["_law_ask"] []
  d_lbag : Tw.DefAt K mg "_law_bag" s_lbag ["_law_word", "_law_ones", "_law_others"] []
  d_change : Tw.DefAt K mg "_law_change" s_change ["_law_word", "_law_row", "_law_other"] []
  d_beside : Tw.DefAt K mg "_law_beside" s_beside ["_law_pen_here", "_law_pairs_here"] []
  d_refused : DefAtC K mg "_law_refused" s_refused ["_law_pen_here", "_law_row", "_law_pairs_here"] [] (cl 9)
  d_law : Tw.DefAt K mg "law" s_law ["_law_script"] []
  d1_Iinit : Tw.MakAt K mg "Item" (cl 7) "Item.__init__" s_Iinit ["self", "rank", "name"] [.str ""]
  sf_Row : PySem.W.selfFirst K (cl 8) = true
  tb_refused : LamX.TabB base mg (cl 9) (cl 10)
  tm_refused : (cl 10, (envOfC "_law_refused" (C8.fnScope s_refused) 0 0 .none).qual ++ "<lambda>") ∈ cl.t
  tu_refused : ∀ p ∈ cl.t, p.1 = cl 10 → p.2 = (envOfC "_law_refused" (C8.fnScope s_refused) 0 0 .none).qual ++ "<lambda>"
local macro_rules | `(tactic| walk_at "mm") => `(tactic| simp -implicitDefEqProofs only [↓Mr.hold_cM, ↓Mr.hold_ite, ↓Mr.hold_for, ↓Mr.hold_lc, ↓Mr.hold_wh, ↓Mr.hold_act, ↓Mr.fRetC.eq_1, ↓Mr.hold_lam, ↓Mr.hold_lcX, ↓Mr.fLcX.eq_1, ↓Mr.fAug.eq_1, ↓Mr.gInp.eq_1, ↓Mr.gBag.eq_1, Mr.S.sq?, ↓Mr.iEnumA.eq_1, Mr.S.enumA?, Mr.sortO, Mr.intsOf, ↓Mr.fStar.eq_1, ↓Mr.fSetO.eq_1, ↓Mr.mCase.eq_1, ↓Mr.fMatch.eq_1, ↓Mr.iEnum.eq_1, Mr.S.enum?, Mr.maxO,  Mr.hIte_true, Mr.hIte_false, ↓Mr.startT.eq_1, ↓Mr.endsM.eq_1, ↓Mr.lawEnds.eq_1, ↓Mr.fSeq.eq_1, ↓Mr.fSkip.eq_1, ↓Mr.fRet.eq_1, ↓Mr.fRetN.eq_1, ↓Mr.fRetF.eq_1, ↓Mr.fDrop.eq_1, ↓Mr.fSet.eq_1, ↓Mr.fAsg.eq_1, ↓Mr.fPar.eq_1, ↓Mr.fFldS.eq_1, ↓Mr.fIfS.eq_1, ↓Mr.fRaise.eq_1, ↓Mr.fTry.eq_1, ↓Mr.fBrk.eq_1, ↓Mr.fCnt.eq_1, ↓Mr.gN.eq_1, ↓Mr.gT.eq_1, ↓Mr.gsNil.eq_1, ↓Mr.gsCons.eq_1, ↓Mr.xk,
  ↓Mr.fVar.eq_1, ↓Mr.fC.eq_1, ↓Mr.f2.eq_1, ↓Mr.f3.eq_1, ↓Mr.g2.eq_1, ↓Mr.kB.eq_1, ↓Mr.fTest.eq_1, ↓Mr.fTru.eq_1, ↓Mr.fAnd.eq_1, ↓Mr.fOr.eq_1, ↓Mr.fNot.eq_1, ↓Mr.fAndV.eq_1, ↓Mr.fOrV.eq_1, ↓Mr.fNotV.eq_1, ↓Mr.fIf.eq_1, ↓Mr.fUn.eq_1, ↓Mr.onO.eq_1, Mr.onB_bl, Mr.onB_non, Mr.onB_int, Mr.onB_str, Mr.onB_lst, Mr.onB_tup, Mr.onB_dct, ↓Mr.fNil.eq_1, ↓Mr.fCons.eq_1, ↓Mr.fLst.eq_1, ↓Mr.fTup.eq_1, ↓Mr.fLstC.eq_1, ↓Mr.fDct0.eq_1, ↓Mr.fDctC.eq_1, ↓Mr.fPar3.eq_1, ↓Mr.fSm0.eq_1, ↓Mr.fSm1.eq_1, ↓Mr.onS.eq_1, Mr.isS, Mr.eqF, List.all_cons, List.all_nil, List.any_cons, List.any_nil, Mr.upperO, Mr.lowerO, Mr.partO, Mr.isiT, Mr.tys, Mr.kkAny, Mr.reprX, Mr.S.datX, Mr.T.datX, Mr.datsX, Mr.datsK, Mr.kD, ↓Mr.fCB.eq_1, ↓Mr.fCall.eq_1, ↓Mr.fMk.eq_1, ↓Mr.fMkK.eq_1, ↓Mr.fMt.eq_1, ↓Mr.fMtK.eq_1, ↓Mr.fCallK.eq_1, ↓Mr.fErr.eq_1, ↓Mr.fStrO.eq_1, ↓Mr.fJs.eq_1, ↓Mr.jsT, ↓Mr.fSl.eq_1, ↓Mr.oNone.eq_1, ↓Mr.oSome.eq_1, ↓Mr.fLM.eq_1, ↓Mr.onL.eq_1,
  Mr.addO, Mr.intO, Mr.mulO, Mr.ltO, Mr.leO, Mr.gtO, Mr.geO, Mr.eqO, Mr.neO, Mr.isO, Mr.isnO, Mr.T.isN, Mr.negO, Mr.ixO, Mr.lenO, Mr.absO, Mr.intO1, Option.isSome_some, Option.isSome_none, Mr.S.put_pn, Mr.strO, Mr.strLO, Mr.listO, Mr.tupO, Mr.reprO, Mr.isiO, Mr.fldO, Mr.xgO, Mr.fmtO, Mr.joinO, Mr.slO, Mr.inO', Mr.ninO', Mr.inB, Mr.T.flat, Mr.S.put_same, Mr.S.put_put, Mr.S.pn_on, Mr.S.pn_pen, Mr.S.put_pen, Mr.S.pn_pn, ↓Mr.fLc.eq_1, ↓Mr.fYes.eq_1, ↓Mr.iSeq.eq_1, ↓Mr.iRange1.eq_1, ↓Mr.iRange2.eq_1, Mr.S.its?, Mr.okAt, Mr.wipeT, ↓Mr.fFor.eq_1, Mr.allO, Mr.anyO, ↓Mr.doneM.eq_1, Option.map_some, Option.map_none,  Mr.appO, Mr.revO, Mr.clrO, ↓Mr.gEqOwn.eq_1, ↓Mr.gOwn2.eq_1, ↓Mr.gOwnI_row, ↓Mr.gOwnR_row, ↓Mr.kObj.eq_1, ↓Mr.fNegO.eq_1, ↓Mr.fOwnC.eq_1, ↓Mr.fPro.eq_1, ↓Mr.gInK.eq_1, ↓Mr.gIxK.eq_1, ↓Mr.iKeyK.eq_1, Mr.eqE, Bool.true_xor, Bool.false_xor, ↓Mr.gNeOwn.eq_1,
  Mr.S.lst?, Mr.S.seq?, Mr.S.ty?, Mr.S.obj?, Mr.S.dat, Mr.T.dat, Mr.dats, Mr.atI_0, Mr.atI_1, Mr.atI_2, Mr.atI_3, Mr.atI_4, Mr.atI_5, Mr.atI_6, Mr.atI_7, Mr.atI_8, Mr.atI_9, Mr.atI_10, Mr.atI_11, Mr.atI_12, Mr.atI_13, PyData.eqv, PyData.eqvAll, Bool.and_true, Bool.true_and, beq_self_eq_true, Bool.and_self, decide_true, decide_false, Mr.okC,
  List.map_cons, List.map_nil, List.length_cons, List.length_nil, List.cons_append, List.nil_append, List.append_nil, List.replicate_succ, List.replicate_zero, List.getElem?_cons_zero, List.getElem?_cons_succ, List.set_cons_zero, List.set_cons_succ, List.getD_cons_zero, List.getD_cons_succ, L2.CPow, Int.reduceToNat, Int.reducePow, Int.reduceAbs, Int.reduceLE, Int.reduceLT, Int.reduceSub, Int.reduceAdd, Int.reduceNeg, Int.reduceMul, Int.reduceEq, Nat.reducePow, Nat.sub_self, Nat.reduceSub, Nat.reduceAdd, Nat.reduceLeDiff, Nat.reduceLT, Nat.reduceEqDiff, Nat.zero_add, Nat.add_zero, Nat.add_one_sub_one, Nat.sub_zero, Nat.zero_sub,
  true_and, and_true, ite_true, ite_false, if_true, if_false, Bool.false_eq_true, Bool.true_eq_false, ↓reduceIte, Bool.not_true, Bool.not_false, List.zip_cons_cons, List.zip_nil_left, List.zip_nil_right, M07.kkA, M07.lkA, M07.insL, M07.excL, List.mem_cons, List.not_mem_nil, or_false, or_true, true_or, false_or, reduceCtorEq, Bool.not_eq_true, Bool.not_eq_false, Bool.not_not])
local macro_rules | `(tactic| walk_at "sh") => `(tactic| exact Mr.sh (by first | (simp only [Mr.niceD, Mr.niceAll, Bool.and_true, Bool.and_eq_true, true_and, and_true]; done) | (simp only [Mr.niceD, Mr.niceAll, Bool.and_true, Bool.and_eq_true, true_and, and_true]; decide +kernel) | simp [Mr.niceD, Mr.niceAll, *]) (by simp [PyData.depth, PyData.depthAll]))
local macro_rules | `(tactic| walk_at "rp") => `(tactic| exact Mr.rp (by first | (simp only [Mr.niceD, Mr.niceAll, Bool.and_true, Bool.and_eq_true, true_and, and_true]; done) | (simp only [Mr.niceD, Mr.niceAll, Bool.and_true, Bool.and_eq_true, true_and, and_true]; decide +kernel) | simp [Mr.niceD, Mr.niceAll, *]) (by simp [PyData.depth, PyData.depthAll]) (by simp only [Mr.wD, Mr.wAll]; first | decide | omega))

end M07

namespace M07
open PySem PySem.Spec PyProof.Rows L2 Tw Mr
local macro_rules | `(tactic| walk_at "mm") => `(tactic| simp -implicitDefEqProofs only [↓Mr.hold_cM, ↓Mr.hold_ite, ↓Mr.hold_for, ↓Mr.hold_lc, ↓Mr.hold_wh, ↓Mr.hold_act, ↓Mr.fRetC.eq_1, ↓Mr.hold_lam, ↓Mr.hold_lcX, ↓Mr.fLcX.eq_1, ↓Mr.fAug.eq_1, ↓Mr.gInp.eq_1, ↓Mr.gBag.eq_1, Mr.S.sq?, ↓Mr.iEnumA.eq_1, Mr.S.enumA?, Mr.sortO, Mr.intsOf, ↓Mr.fStar.eq_1, ↓Mr.fSetO.eq_1, ↓Mr.mCase.eq_1, ↓Mr.fMatch.eq_1, ↓Mr.iEnum.eq_1, Mr.S.enum?, Mr.maxO,  Mr.hIte_true, Mr.hIte_false, ↓Mr.startT.eq_1, ↓Mr.endsM.eq_1, ↓Mr.lawEnds.eq_1, ↓Mr.fSeq.eq_1, ↓Mr.fSkip.eq_1, ↓Mr.fRet.eq_1, ↓Mr.fRetN.eq_1, ↓Mr.fRetF.eq_1, ↓Mr.fDrop.eq_1, ↓Mr.fSet.eq_1, ↓Mr.fAsg.eq_1, ↓Mr.fPar.eq_1, ↓Mr.fFldS.eq_1, ↓Mr.fIfS.eq_1, ↓Mr.fRaise.eq_1, ↓Mr.fTry.eq_1, ↓Mr.fBrk.eq_1, ↓Mr.fCnt.eq_1, ↓Mr.gN.eq_1, ↓Mr.gT.eq_1, ↓Mr.gsNil.eq_1, ↓Mr.gsCons.eq_1, ↓Mr.xk,
  ↓Mr.fVar.eq_1, ↓Mr.fC.eq_1, ↓Mr.f2.eq_1, ↓Mr.f3.eq_1, ↓Mr.g2.eq_1, ↓Mr.kB.eq_1, ↓Mr.fTest.eq_1, ↓Mr.fTru.eq_1, ↓Mr.fAnd.eq_1, ↓Mr.fOr.eq_1, ↓Mr.fNot.eq_1, ↓Mr.fAndV.eq_1, ↓Mr.fOrV.eq_1, ↓Mr.fNotV.eq_1, ↓Mr.fIf.eq_1, ↓Mr.fUn.eq_1, ↓Mr.onO.eq_1, Mr.onB_bl, Mr.onB_non, Mr.onB_int, Mr.onB_str, Mr.onB_lst, Mr.onB_tup, Mr.onB_dct, ↓Mr.fNil.eq_1, ↓Mr.fCons.eq_1, ↓Mr.fLst.eq_1, ↓Mr.fTup.eq_1, ↓Mr.fLstC.eq_1, ↓Mr.fDct0.eq_1, ↓Mr.fDctC.eq_1, ↓Mr.fPar3.eq_1, ↓Mr.fSm0.eq_1, ↓Mr.fSm1.eq_1, ↓Mr.onS.eq_1, Mr.isS, Mr.eqF, List.all_cons, List.all_nil, List.any_cons, List.any_nil, Mr.upperO, Mr.lowerO, Mr.partO, Mr.isiT, Mr.tys, Mr.kkAny, Mr.reprX, Mr.S.datX, Mr.T.datX, Mr.datsX, Mr.datsK, Mr.kD, ↓Mr.fCB.eq_1, ↓Mr.fCall.eq_1, ↓Mr.fMk.eq_1, ↓Mr.fMkK.eq_1, ↓Mr.fMt.eq_1, ↓Mr.fMtK.eq_1, ↓Mr.fCallK.eq_1, ↓Mr.fErr.eq_1, ↓Mr.fStrO.eq_1, ↓Mr.fJs.eq_1, ↓Mr.jsT, ↓Mr.fSl.eq_1, ↓Mr.oNone.eq_1, ↓Mr.oSome.eq_1, ↓Mr.fLM.eq_1, ↓Mr.onL.eq_1,
  Mr.addO, Mr.intO, Mr.mulO, Mr.ltO, Mr.leO, Mr.gtO, Mr.geO, Mr.eqO, Mr.neO, Mr.isO, Mr.isnO, Mr.T.isN, Mr.negO, Mr.ixO, Mr.lenO, Mr.absO, Mr.intO1, Option.isSome_some, Option.isSome_none, Mr.S.put_pn, Mr.strO, Mr.strLO, Mr.listO, Mr.tupO, Mr.reprO, Mr.isiO, Mr.fldO, Mr.xgO, Mr.fmtO, Mr.joinO, Mr.slO, Mr.inO', Mr.ninO', Mr.inB, Mr.T.flat, Mr.S.put_same, Mr.S.put_put, Mr.S.pn_on, Mr.S.pn_pen, Mr.S.put_pen, Mr.S.pn_pn, ↓Mr.fLc.eq_1, ↓Mr.fYes.eq_1, ↓Mr.iSeq.eq_1, ↓Mr.iRange1.eq_1, ↓Mr.iRange2.eq_1, Mr.S.its?, Mr.okAt, Mr.wipeT, ↓Mr.fFor.eq_1, Mr.allO, Mr.anyO, ↓Mr.doneM.eq_1, Option.map_some, Option.map_none,  Mr.appO, Mr.revO, Mr.clrO, ↓Mr.gEqOwn.eq_1, ↓Mr.gOwn2.eq_1, ↓Mr.gOwnI_row, ↓Mr.gOwnR_row, ↓Mr.kObj.eq_1, ↓Mr.fNegO.eq_1, ↓Mr.fOwnC.eq_1, ↓Mr.fPro.eq_1, ↓Mr.gInK.eq_1, ↓Mr.gIxK.eq_1, ↓Mr.iKeyK.eq_1, Mr.eqE, Bool.true_xor, Bool.false_xor, ↓Mr.gNeOwn.eq_1,
  Mr.S.lst?, Mr.S.seq?, Mr.S.ty?, Mr.S.obj?, Mr.S.dat, Mr.T.dat, Mr.dats, Mr.atI_0, Mr.atI_1, Mr.atI_2, Mr.atI_3, Mr.atI_4, Mr.atI_5, Mr.atI_6, Mr.atI_7, Mr.atI_8, Mr.atI_9, Mr.atI_10, Mr.atI_11, Mr.atI_12, Mr.atI_13, PyData.eqv, PyData.eqvAll, Bool.and_true, Bool.true_and, beq_self_eq_true, Bool.and_self, decide_true, decide_false, Mr.okC,
  List.map_cons, List.map_nil, List.length_cons, List.length_nil, List.cons_append, List.nil_append, List.append_nil, List.replicate_succ, List.replicate_zero, List.getElem?_cons_zero, List.getElem?_cons_succ, List.set_cons_zero, List.set_cons_succ, List.getD_cons_zero, List.getD_cons_succ, L2.CPow, Int.reduceToNat, Int.reducePow, Int.reduceAbs, Int.reduceLE, Int.reduceLT, Int.reduceSub, Int.reduceAdd, Int.reduceNeg, Int.reduceMul, Int.reduceEq, Nat.reducePow, Nat.sub_self, Nat.reduceSub, Nat.reduceAdd, Nat.reduceLeDiff, Nat.reduceLT, Nat.reduceEqDiff, Nat.zero_add, Nat.add_zero, Nat.add_one_sub_one, Nat.sub_zero, Nat.zero_sub,
  true_and, and_true, ite_true, ite_false, if_true, if_false, Bool.false_eq_true, Bool.true_eq_false, ↓reduceIte, Bool.not_true, Bool.not_false, List.zip_cons_cons, List.zip_nil_left, List.zip_nil_right, M07.kkA, M07.lkA, M07.insL, M07.excL, List.mem_cons, List.not_mem_nil, or_false, or_true, true_or, false_or, reduceCtorEq, Bool.not_eq_true, Bool.not_eq_false, Bool.not_not])
local macro_rules | `(tactic| walk_at "sh") => `(tactic| exact Mr.sh (by first | (simp only [Mr.niceD, Mr.niceAll, Bool.and_true, Bool.and_eq_true, true_and, and_true]; done) | (simp only [Mr.niceD, Mr.niceAll, Bool.and_true, Bool.and_eq_true, true_and, and_true]; decide +kernel) | simp [Mr.niceD, Mr.niceAll, *]) (by simp [PyData.depth, PyData.depthAll]))
local macro_rules | `(tactic| walk_at "rp") => `(tactic| exact Mr.rp (by first | (simp only [Mr.niceD, Mr.niceAll, Bool.and_true, Bool.and_eq_true, true_and, and_true]; done) | (simp only [Mr.niceD, Mr.niceAll, Bool.and_true, Bool.and_eq_true, true_and, and_true]; decide +kernel) | simp [Mr.niceD, Mr.niceAll, *]) (by simp [PyData.depth, PyData.depthAll]) (by simp only [Mr.wD, Mr.wAll]; first | decide | omega))

def G : Int := 999999999999999999999999999999
def plainT : Mr.T → Bool
  | .non | .bl _ | .int _ | .str _ | .lst _ | .tup _ | .dct _ => true
  | _ => false
def isIntB (v : Mr.T) (lo hi : Int) : Bool := match v with | .int i => decide (lo ≤ i) && decide (i ≤ hi) | _ => false
def F_isint : FD := fun ts s Q _ => ∃ v lo hi, ts = [v, .int lo, .int hi] ∧ plainT v = true ∧ Q (.bl (isIntB v lo hi)) s
def rankB (v : Mr.T) : Bool := isIntB v (-G) G
def F_isrank : FD := fun ts s Q _ => ∃ v, ts = [v] ∧ plainT v = true ∧ Q (.bl (rankB v)) s
def L : Str := "abcdefghijklmnopqrstuvwxyz"
def nameB (v : Mr.T) : Bool := match v with | .str z => decide (z.length ≤ 8) && z.cps.toList.all (fun c => occ L ⟨#[c]⟩) | _ => false
def F_isname : FD := fun ts s Q _ => ∃ z, ts = [.str z] ∧ z.length ≤ 100000 ∧ Q (.bl (nameB (.str z))) s
abbrev Pr := Int × Str
def itm (p : Pr) : Mr.T := .obj 7 [("rank", .int p.1), ("name", .str p.2)]
def okP (p : Pr) : Prop := rankB (.int p.1) = true ∧ nameB (.str p.2) = true
/-- Item(i, z), both right -/
def F_Iinit : FD := fun ts s Q _ => ∃ x i z, ts = [.cell x, .int i, .str z] ∧ s.on x = some (.obj 7 []) ∧ okP (i, z) ∧ Q .non (s.put x (itmC (i, z)))
  where itmC (p : Pr) : Cell := .obj 7 [("rank", .int p.1), ("name", .str p.2)]
/-- the pair that a value stands for -/
def toP : Mr.T → Option Pr
  | .obj 7 [(_, .int i), (_, .str z)] => some (i, z)
  | .int i => if rankB (.int i) = true then some (i, Str.ofString "") else none
  | _ => none
def okV (v : Mr.T) : Prop := plainT v = true ∨ ∃ p, v = itm p
def F_item_of : FD := fun ts s Q E => ∃ v i, ts = [v, .int i] ∧ okV v ∧ (match toP v with | some p => Q (itm p) s | none => E ⟨3, [("part", .int i)]⟩ s)
def F_need_few : FD := fun ts s Q E => ∃ xs, ts = [.lst xs] ∧ (if xs.length ≤ 200 then Q .non s else E ⟨6, [("most", .int 200)]⟩ s)
def rk (ps : List Pr) (k : Nat) : Int := (ps.getD k (0, "")).1
def pT (ps : List Pr) : Mr.T → Bool
  | .int i => decide (rk ps i.toNat < rk ps (i.toNat - 1))
  | _ => false
/-- the places at which a row falls -/
def FL (ps : List Pr) : List Mr.T := (rng 1 (ps.length - 1)).filter (pT ps)
def F_need_ascending : FD := fun ts s Q E => ∃ ps : List Pr, ts = [.lst (ps.map itm)] ∧ ps.length ≤ 100000 ∧ (match FL ps with | [] => Q .non s | t :: _ => E ⟨5, [("at", t)]⟩ s)
theorem toP_itm (p : Pr) : toP (itm p) = some p := rfl
theorem toP_int {i : Int} (h : rankB (.int i) = true) : toP (.int i) = some (i, Str.ofString "") := by
  show (if rankB (.int i) = true then _ else _) = _
  rw [h]
  rfl
theorem toP_none {v : Mr.T} (hp : plainT v = true) (h : rankB v = false) : toP v = none := by
  cases v <;> first | rfl | (cases hp; done) | skip
  show (if rankB _ = true then _ else _) = _
  rw [h]
  rfl
theorem allC (z : Str) : bools (z.cps.toList.map fun c => Mr.T.bl (occ L ⟨#[c]⟩)) = some (z.cps.toList.map fun c => occ L ⟨#[c]⟩) := by
  have := bools_map (z.cps.toList.map fun c => occ L ⟨#[c]⟩)
  rw [List.map_map] at this
  exact this
theorem name_len {z : Str} (h : nameB (.str z) = true) : z.length ≤ 8 := by
  unfold nameB at h
  exact of_decide_eq_true (Bool.and_eq_true_iff.mp h).1
theorem rank_of {i : Int} (h : rankB (.int i) = true) : -G ≤ i ∧ i ≤ G := by
  have h' : (decide (-G ≤ i) && decide (i ≤ G)) = true := h
  rw [Bool.and_eq_true] at h'
  exact ⟨of_decide_eq_true h'.1, of_decide_eq_true h'.2⟩
theorem of_rank {i : Int} (h1 : -G ≤ i) (h2 : i ≤ G) : rankB (.int i) = true := by
  show (decide (-G ≤ i) && decide (i ≤ G)) = true
  rw [decide_eq_true h1, decide_eq_true h2]
  rfl
theorem name_nil : nameB (.str (Str.ofString "")) = true := by decide +kernel
theorem mk_item {x : Addr} {s : S} {Q : KT} {E : KX} {i : Int} {z : Str} (hx : s.on x = none) (ok : okP (i, z)) (k : Q (itm (i, z)) s) : @hM F_Iinit [.cell x, .int i, .str z] (s.put x (.obj 7 [])) ⟨doneM true x Q⟩ ⟨E⟩ := by
  refine hM.of ⟨x, _, _, rfl, S.put_same _ _ _, ok, ?_⟩
  unfold F_Iinit.itmC
  walk_at "mm"
  rw [S.del_put hx]
  exact k
/-- an item of a list, by its place -/
theorem atI_ps {ps : List Pr} {f : Pr → Mr.T} {i : Int} (h0 : 0 ≤ i) (h1 : i < ps.length) : atI (ps.map f) i = some (f (ps.getD i.toNat (0, ""))) := by
  have hj : i.toNat < ps.length := by omega
  unfold L2.atI L2.ixN
  rw [if_pos h0, if_pos (by rw [List.length_map]; exact h1)]
  show (List.map f ps)[i.toNat]? = _
  rw [List.getElem?_map, List.getD_eq_getElem?_getD, List.getElem?_eq_getElem hj]
  rfl
section
variable {w : World} {K : PySem.W.Frag} {mg : Str → Option Value} {base : Heap} {cl : CL}
theorem fn_isint (T : Txt K w mg cl base) : ∀ {x : Str} {f : Addr} {fd : FuncData}, C8.Fun K x "is_integer" s_isint f fd → FnG P w K mg base 3 f fd ["value", "least", "most"] (spM K cl F_isint) := by
  refine fnM (k := 2) (N := N_isint) sc_isint ?len (fun f cdv A out s H E hr => (jss_one (js_ret (je_and (je_b (c_isi T.wc) (by rfl) T.n_isinstance (by decide +kernel) (ja_cons (je_var 0) (ja_cons (je_ty .int (by rfl) T.n_int (by decide +kernel)) ja_nil))) (je_and (je_not (je_b (c_isi T.wc) (by rfl) T.n_isinstance (by decide +kernel) (ja_cons (je_var 0) (ja_cons (je_ty .bool (by rfl) T.n_bool (by decide +kernel)) ja_nil)))) (je_one (je_chain o_le o_le (je_var 1) (je_var 0) (je_var 2)))))))) ?sem
  case len => rintro ts s Q E ⟨v, lo, hi, rfl, _⟩; rfl
  case sem =>
    rintro ts s Q E ⟨v, lo, hi, rfl, hp, k⟩
    cases v <;> first | cases hp; done | skip
    all_goals walk_at "mm"
    all_goals first | exact k | skip
    unfold isIntB at k
    by_cases h : lo ≤ ‹Int›
    all_goals (simp [h] at k ⊢; walk_at "mm"; exact k)
theorem ok_isint (T : Txt K w mg cl base) : CalM P w K mg base cl 3 "is_integer" F_isint [] := calOf T.d_isint (fun _ _ _ => .nil) (fn_isint T)
theorem fn_isrank (T : Txt K w mg cl base) : ∀ {x : Str} {f : Addr} {fd : FuncData}, C8.Fun K x "is_rank" s_isrank f fd → FnG P w K mg base 6 f fd ["value"] (spM K cl F_isrank) := by
  refine fnM (k := 5) (N := N_isrank) sc_isrank ?len (fun f cdv A out s H E hr => (jss_one (js_ret (je_call Tw.tk_cx (ok_isint T) hr (by decide) (by rfl) (ja_cons (je_var 0) (ja_cons (je_neg (je_glob (by rfl) T.g_GREATEST (fun _ _ _ => .int _))) (ja_cons (je_glob (by rfl) T.g_GREATEST (fun _ _ _ => .int _)) ja_nil))))))) ?sem
  case len => rintro ts s Q E ⟨v, rfl, _⟩; rfl
  case sem =>
    rintro ts s Q E ⟨v, rfl, hp, k⟩
    walk_at "mm"
    exact hM.of ⟨v, _, _, rfl, hp, k⟩
theorem ok_isrank (T : Txt K w mg cl base) : CalM P w K mg base cl 6 "is_rank" F_isrank [] := calOf T.d_isrank (fun _ _ _ => .nil) (fn_isrank T)
theorem fn_isname (T : Txt K w mg cl base) : ∀ {x : Str} {f : Addr} {fd : FuncData}, C8.Fun K x "is_item_name" s_isname f fd → FnG P w K mg base 3 f fd ["value"] (spM K cl F_isname) := by
  refine fnM (k := 2) (N := N_isname) sc_isname ?len (fun f cdv A out s H E hr => (jss_one (js_ret (je_and (je_b (c_isi T.wc) (by rfl) T.n_isinstance (by decide +kernel) (ja_cons (je_var 0) (ja_cons (je_ty .str (by rfl) T.n_str (by decide +kernel)) ja_nil))) (je_and (je_cmp o_le (je_b c_len (by rfl) T.n_len (by decide +kernel) (ja_cons (je_var 0) ja_nil)) (je_glob (by rfl) T.g_MOST_LETTERS (fun _ _ _ => .int _)) (nomark _)) (je_one (je_b (c_all rfl) (by rfl) T.n_all (by decide +kernel) (ja_cons (je_lc (own := [("sign", 1)]) (by rfl) sc_isname.nd (ji_seq (je_var 0)) (blkOk_by (own := [("sign", 1)]) (N := N_isname) (sc := C8.fnScope s_isname) (by decide +kernel)) (fun _ _ _ _ _ => (pg_name (i := 1) sc_isname.nd rfl (Or.inl rfl))) (gt_name (i := 1) (by decide))  (fun _ _ _ _ _ => (je_cmp (o_in hr) (je_var 1) (je_glob (by rfl) T.g_LETTERS (fun _ _ _ => .str _)) (by rfl)))) ja_nil)))))))) ?sem
  case len => rintro ts s Q E ⟨v, rfl, _⟩; rfl
  case sem =>
    rintro ts s Q E ⟨z, rfl, hs, k⟩
    walk_at "mm"
    refine ⟨Nat.le_trans hs (by decide), ?_⟩
    refine hIte.by (fun h => ?_) fun h => ?_
    · refine lc_map (fun t => match t with | .str w => .bl (occ L w) | t => t) ?_ ?_ ?_ trivial
      · intro t ht Q' k'
        obtain ⟨c, _, rfl⟩ := List.mem_map.mp ht
        walk_at "mm"
        exact k'
      · have := of_decide_eq_true h
        simp [Str.length] at this ⊢
        omega
      · walk_at "mm"
        rw [List.map_map, show ((fun t : Mr.T => match t with | .str w => .bl (occ L w) | t => t) ∘ fun c => Mr.T.str ⟨#[c]⟩) = fun c => Mr.T.bl (occ L ⟨#[c]⟩) from rfl, allC]
        walk_at "mm"
        have h' := of_decide_eq_true h
        have e : nameB (.str z) = (z.cps.toList.map fun c => occ L ⟨#[c]⟩).all fun b => b := by
          show (decide (z.length ≤ 8) && z.cps.toList.all fun c => occ L ⟨#[c]⟩) = _
          rw [decide_eq_true (show z.length ≤ 8 by omega), Bool.true_and, List.all_map]
          rfl
        rw [e] at k
        exact k
    · have h' := of_decide_eq_false h
      have e : nameB (.str z) = false := by
        show (decide (z.length ≤ 8) && z.cps.toList.all fun c => occ L ⟨#[c]⟩) = _
        rw [decide_eq_false (show ¬ z.length ≤ 8 by omega)]
        rfl
      rw [e] at k
      rw [h]
      exact k
theorem ok_isname (T : Txt K w mg cl base) : CalM P w K mg base cl 3 "is_item_name" F_isname [] := calOf T.d_isname (fun _ _ _ => .nil) (fn_isname T)
theorem fn_Iinit (T : Txt K w mg cl base) : ∀ {x : Str} {f : Addr} {fd : FuncData}, C8.Fun K x "Item.__init__" s_Iinit f fd → FnG P w K mg base 9 f fd ["self", "rank", "name"] (spM K cl F_Iinit) := by
  refine fnM (k := 8) (N := N_Iinit) sc_Iinit ?len (fun f cdv A out s H E hr => (jss_cons (js_if (jt_not (jt_val (je_call Tw.tk_cx (ok_isrank T) hr (by decide) (by rfl) (ja_cons (je_var 1) ja_nil)))) (jss_one (js_raise (by rfl) Tw.tk_cx T.x_BadItem T.oex_BadItem hr (by rfl) T.mx_BadItem (ja_cons je_str ja_nil))) jss_nil)
    (jss_cons (js_if (jt_not (jt_val (je_call Tw.tk_cx (ok_isname T) hr (by decide) (by rfl) (ja_cons (je_var 2) ja_nil)))) (jss_one (js_raise (by rfl) Tw.tk_cx T.x_BadItem T.oex_BadItem hr (by rfl) T.mx_BadItem (ja_cons je_str ja_nil))) jss_nil)
    (jss_cons (js_fld T.fld_rank (je_var 0) (je_var 1))
    (jss_one (js_fld T.fld_name (je_var 0) (je_var 2))))))) ?sem
  case len => rintro ts s Q E ⟨x, v, u, rfl, _⟩; rfl
  case sem =>
    rintro ts s Q E ⟨x, i, z, rfl, hx, ⟨hi, hz⟩, k⟩
    walk_at "mm"
    refine hM.of ⟨_, rfl, rfl, ?_⟩
    rw [hi]
    walk_at "mm"
    refine hM.of ⟨_, rfl, Nat.le_trans (name_len hz) (by decide), ?_⟩
    rw [hz]
    walk_at "mm"
    rw [hx]
    walk_at "mm"
    exact k
theorem mk_Iinit (T : Txt K w mg cl base) : MakM P w K mg base cl 9 "Item" 7 F_Iinit [] := makOf T.d_Iinit (fun _ _ _ => .nil) (fn_Iinit T)
theorem mk1_Iinit (T : Txt K w mg cl base) : MakM P w K mg base cl 9 "Item" 7 F_Iinit [.str ""] := makOf T.d1_Iinit (fun _ _ _ => (.cons (.str _) .nil)) (fn_Iinit T)
theorem fn_item_of (T : Txt K w mg cl base) : ∀ {x : Str} {f : Addr} {fd : FuncData}, C8.Fun K x "item_of" s_item_of f fd → FnG P w K mg base 12 f fd ["value", "at"] (spM K cl F_item_of) := by
  refine fnM (k := 11) (N := N_item_of) sc_item_of ?len (fun f cdv A out s H E hr => (jss_cons (js_if (jt_val (je_b (c_isi T.wc) (by rfl) T.n_isinstance (by decide +kernel) (ja_cons (je_var 0) (ja_cons (je_cls 7 (by rfl) T.mx_Item) ja_nil)))) (jss_one (js_ret (je_var 0))) jss_nil)
    (jss_cons (js_if (jt_not (jt_val (je_call Tw.tk_cx (ok_isrank T) hr (by decide) (by rfl) (ja_cons (je_var 0) ja_nil)))) (jss_one (js_raise (by rfl) Tw.tk_cx T.x_BadItem T.oex_BadItem hr (by rfl) T.mx_BadItem (ja_cons (je_var 1) ja_nil))) jss_nil)
    (jss_one (js_ret (je_mk true Tw.tk_cx (mk1_Iinit T) hr (by decide) (by rfl) (ja_cons (je_var 0) ja_nil))))))) ?sem
  case len => rintro ts s Q E ⟨_, _, rfl, _⟩; rfl
  case sem =>
    rintro ts s Q E ⟨v, i, rfl, hv, k⟩
    rcases hv with hp | ⟨p, rfl⟩
    · by_cases hb : rankB v = true
      · cases v <;> first | cases hb; done | skip
        rename_i j
        rw [toP_int hb] at k
        walk_at "mm"
        refine hM.of ⟨_, rfl, rfl, ?_⟩
        rw [hb]
        walk_at "mm"
        exact fun x hx => mk_item hx ⟨hb, name_nil⟩ k
      · rw [Bool.not_eq_true] at hb
        rw [toP_none hp hb] at k
        cases v <;> first | cases hp; done | skip
        all_goals walk_at "mm"
        all_goals refine hM.of ⟨_, rfl, rfl, ?_⟩
        all_goals rw [hb]
        all_goals walk_at "mm"
        all_goals exact k
    · rw [toP_itm] at k
      unfold itm
      walk_at "mm"
      exact k
theorem ok_item_of (T : Txt K w mg cl base) : CalM P w K mg base cl 12 "item_of" F_item_of [] := calOf T.d_item_of (fun _ _ _ => .nil) (fn_item_of T)
theorem fn_need_few (T : Txt K w mg cl base) : ∀ {x : Str} {f : Addr} {fd : FuncData}, C8.Fun K x "need_few" s_need_few f fd → FnG P w K mg base 3 f fd ["items"] (spM K cl F_need_few) := by
  refine fnM (k := 2) (N := N_need_few) sc_need_few ?len (fun f cdv A out s H E hr => (jss_one (js_if (jt_cmp o_gt (je_b c_len (by rfl) T.n_len (by decide +kernel) (ja_cons (je_var 0) ja_nil)) (je_glob (by rfl) T.g_MOST_ITEMS (fun _ _ _ => .int _)) (nomark _)) (jss_one (js_raise (by rfl) Tw.tk_cx T.x_TooMany T.oex_TooMany hr (by rfl) T.mx_TooMany (ja_cons (je_glob (by rfl) T.g_MOST_ITEMS (fun _ _ _ => .int _)) ja_nil))) jss_nil))) ?sem
  case len => rintro ts s Q E ⟨_, rfl, _⟩; rfl
  case sem =>
    rintro ts s Q E ⟨xs, rfl, k⟩
    walk_at "mm"
    refine hIte.by (fun h => ?_) fun h => ?_
    · have h := of_decide_eq_true h
      rw [if_neg (by omega)] at k
      walk_at "mm"
      exact k
    · have h := of_decide_eq_false h
      rw [if_pos (by omega)] at k
      walk_at "mm"
      exact k
theorem ok_need_few (T : Txt K w mg cl base) : CalM P w K mg base cl 3 "need_few" F_need_few [] := calOf T.d_need_few (fun _ _ _ => .nil) (fn_need_few T)
theorem fn_need_ascending (T : Txt K w mg cl base) : ∀ {x : Str} {f : Addr} {fd : FuncData}, C8.Fun K x "need_ascending" s_need_ascending f fd → FnG P w K mg base 3 f fd ["items"] (spM K cl F_need_ascending) := by
  refine fnM (k := 2) (N := N_need_ascending) sc_need_ascending ?len (fun f cdv A out s H E hr => (jss_one (js_for (L2.passes_of rfl) rfl (ji_range2 (by rfl) T.n_range (ja_cons je_int (ja_cons (je_b c_len (by rfl) T.n_len (by decide +kernel) (ja_cons (je_var 0) ja_nil)) ja_nil))) (jg_name (i := 1) sc_need_ascending.nd rfl (Or.inl rfl))
      (jss_one (js_if (jt_cmp o_lt (je_fld T.fld_rank (je_ix (je_var 0) (je_var 1) (fun _ _ => rfl))) (je_fld T.fld_rank (je_ix (je_var 0) (je_op o_sub (je_var 1) je_int) (fun _ _ => rfl))) (nomark _)) (jss_one (js_raise (by rfl) Tw.tk_cx T.x_Disordered T.oex_Disordered hr (by rfl) T.mx_Disordered (ja_cons (je_var 1) ja_nil))) jss_nil))))) ?sem
  case len => rintro ts s Q E ⟨_, rfl, _⟩; rfl
  case sem =>
    rintro ts s Q E ⟨ps, rfl, hl, k⟩
    walk_at "mm"
    rw [List.length_map, show ((ps.length : Int) - 1).toNat = ps.length - 1 by omega]
    refine ⟨⟨by omega, by omega⟩, ?_⟩
    refine for_ind (fun pre post τ s' => s' = s ∧ (∃ x, τ = [some (.lst (ps.map itm)), x]) ∧ pre.filter (pT ps) = []) ⟨rfl, ⟨_, rfl⟩, rfl⟩ (fun _ _ _ _ _ => trivial) ?_ ?_
    · rintro pre t post τ s' N e ⟨rfl, ⟨x, rfl⟩, hf⟩ k'
      obtain ⟨rfl, hp⟩ := rng_get e
      walk_at "mm"
      rw [atI_ps (by omega) (by omega)]
      unfold itm
      walk_at "mm"
      rw [show (fun p : Pr => Mr.T.obj 7 [(Str.ofString "rank", .int p.1), (Str.ofString "name", .str p.2)]) = itm from rfl, atI_ps (by omega) (by omega)]
      unfold itm
      walk_at "mm"
      have ep : pT ps (.int (1 + (pre.length : Int))) = decide ((ps.getD (1 + (pre.length : Int)).toNat (0, Str.ofString "")).1 < (ps.getD (1 + (pre.length : Int) - 1).toNat (0, Str.ofString "")).1) := by
        show decide (rk ps _ < rk ps _) = _
        unfold rk
        rw [show (1 + (pre.length : Int)).toNat - 1 = (1 + (pre.length : Int) - 1).toNat by omega]
      refine hIte.by (fun h => ?_) fun h => ?_
      · rw [h] at ep
        have ef : FL ps = .int (1 + (pre.length : Int)) :: post.filter (pT ps) := by
          unfold FL
          rw [e, List.filter_append, hf, List.filter_cons, if_pos ep]
          rfl
        rw [ef] at k
        walk_at "mm"
        exact k
      · rw [h] at ep
        walk_at "mm"
        refine k' _ _ ⟨rfl, ⟨_, rfl⟩, ?_⟩
        rw [List.filter_append, hf, List.filter_cons, if_neg (by rw [ep]; exact Bool.false_ne_true)]
        rfl
    · rintro τ s' ⟨rfl, ⟨x, rfl⟩, hf⟩
      rw [show FL ps = [] from hf] at k
      walk_at "mm"
      exact k
theorem ok_need_ascending (T : Txt K w mg cl base) : CalM P w K mg base cl 3 "need_ascending" F_need_ascending [] := calOf T.d_need_ascending (fun _ _ _ => .nil) (fn_need_ascending T)
theorem iter_Row (T : Txt K w mg cl base) : IterM P w K mg base cl 2 8 "held" := iterOf T.d_Riter sc_Riter (T.fld_held 8 (by decide)).2 T.n_iter rfl rfl (Or.inl rfl) (by decide) (by decide) rfl
end
end M07

local macro_rules | `(tactic| walk_at "hp") => `(tactic| first
  | assumption
  | (exact L2.upd_same)
  | (refine Tw.Same.tr (by assumption) ?_ <;> walk_at "hp")
  | ((refine' Tw.SP.tr (by assumption) ?hq ?hn); (case hq => walk_at "hp"); (case hn => first | rfl | exact Tw.isPen_ints _)))
local macro_rules | `(tactic| walk_at "pen") => `(tactic| first
  | assumption
  | ((refine' Tw.PenAt.same (by assumption) ?hq); (case hq => walk_at "pen")))
local macro_rules | `(tactic| walk_at "same") => `(tactic| first
  | assumption
  | exact L2.Same.refl _
  | ((refine' L2.Same.trans ?x ?y); (case y => assumption); (case x => walk_at "same")))
local macro_rules | `(tactic| walk_at "sp") => `(tactic| first
  | assumption
  | exact Tw.SP.refl _
  | ((refine' Tw.SP.trans ?x ?y); (case y => assumption); (case x => walk_at "sp"))
  | ((refine' Tw.SP.trans ?x (L2.Same.sp ?y)); (case y => assumption); (case x => walk_at "sp")))
local macro_rules | `(tactic| walk_at "len") => `(tactic| first
  | exact Nat.lt_of_le_of_lt (Nat.le_refl 0) (by decide)
  | exact Nat.lt_of_le_of_lt (Tw.put_len (Nat.le_refl 0)) (by decide)
  | exact Nat.lt_of_le_of_lt (Tw.put_len (Tw.put_len (Nat.le_refl 0))) (by decide)
  | exact Nat.lt_of_le_of_lt (Tw.put_len (Tw.put_len (Tw.put_len (Nat.le_refl 0)))) (by decide))
local macro_rules | `(tactic| walk_at "r1") => `(tactic| first
  | with_reducible refine Tw.u_seq ?_
  | with_reducible refine Tw.u_lcS ?_
  | with_reducible refine Tw.u_xr ?_
  | with_reducible refine Tw.u_js ?_
  | with_reducible refine Tw.u_js0 ?_
  | with_reducible refine Tw.u_fmt ?_
  | with_reducible refine Tw.u_xv ?_
  | with_reducible refine Tw.u_xg ?_
  | with_reducible refine Tw.u_mkW ?_
  | with_reducible refine Tw.u_lcL ?_
  | with_reducible refine Tw.u_lcR ?_
  | with_reducible refine Tw.k_str ?_
  | with_reducible refine Tw.u_asg ?_
  | with_reducible refine Tw.u_if ?_
  | with_reducible refine Tw.u_ret ?_
  | with_reducible refine Tw.u_op ?_
  | ((with_reducible refine' Tw.u_var ?e ?_); (case e => exact rfl))
  | with_reducible refine Tw.u_c ?_
  | with_reducible refine Tw.u_gname ?_
  | with_reducible refine Tw.u_test ?_
  | with_reducible refine Tw.k_bl ?_
  | with_reducible refine Tw.u_next ?_
  | with_reducible refine Tw.u_cb ?_
  | with_reducible refine Tw.u_cons ?_
  | with_reducible refine Tw.u_nil ?_
  | with_reducible refine Tw.r_I0 ?_
  | with_reducible refine Tw.u_and ?_
  | with_reducible refine Tw.u_or ?_
  | with_reducible refine Tw.u_not ?_
  | with_reducible refine Tw.u_B ?_
  | with_reducible refine Tw.u_un ?_
  | with_reducible refine Tw.r_U ?_
  | with_reducible refine Tw.r_int ?_
  | with_reducible refine Tw.r_intB ?_
  | with_reducible refine Tw.r_abs ?_
  | with_reducible refine Tw.u_gsub ?_
  | with_reducible refine Tw.u_drop ?_
  | with_reducible refine Tw.u_ifE ?_
  | with_reducible refine Tw.u_andV ?_
  | with_reducible refine Tw.u_orV ?_
  | with_reducible refine Tw.u_notV ?_
  | with_reducible refine Tw.u_call0 ?_
  | with_reducible refine Tw.u_call ?_
  | with_reducible refine Tw.u_sl ?_
  | with_reducible refine Tw.u_nopart ?_
  | with_reducible refine Tw.u_part ?_
  | with_reducible refine Tw.k_part ?_
  | with_reducible refine Tw.u_lstK ?_
  | with_reducible refine Tw.u_tupK ?_
  | ((with_reducible refine' Tw.k_lst ?z ?_); (case z => exact Nat.le_of_ble_eq_true rfl); intro _ _ _ _ _)
  | ((with_reducible refine' Tw.k_tup ?z ?_); (case z => exact Nat.le_of_ble_eq_true rfl); intro _ _ _ _ _)
  | with_reducible refine Tw.u_parK ?_
  | with_reducible refine Tw.k_par ?_
  | with_reducible refine Tw.u_fld ?_
  | with_reducible refine Tw.u_chain ?_
  | with_reducible refine Tw.u_meth0 ?_
  | with_reducible refine Tw.u_meth ?_
  | with_reducible refine Tw.r_eqI ?_
  | with_reducible refine Tw.r_neI ?_
  | with_reducible refine Tw.r_eqS ?_
  | with_reducible refine Tw.r_neS ?_
  | with_reducible refine Tw.r_eqB ?_
  | with_reducible refine Tw.r_neB ?_
  | with_reducible refine Tw.r_isB ?_
  | with_reducible refine Tw.r_notB ?_
  | with_reducible refine Tw.r_reprB ?_
  | ((with_reducible refine' Tw.r_reprBB ?a ?_); (case a => walk_at "hp"))
  | with_reducible refine Tw.u_forR ?_
  | with_reducible refine Tw.u_forL ?_
  | with_reducible refine Tw.u_forT ?_
  | with_reducible refine Tw.u_sfld ?_
  | with_reducible refine Tw.u_make0 ?_
  | with_reducible refine Tw.u_make ?_
  | with_reducible refine Tw.u_ownC ?_
  | with_reducible refine Tw.k_ownC ?_
  | with_reducible refine Tw.u_sm ?_
  | with_reducible refine Tw.k_sm0 ?_
  | with_reducible refine Tw.k_sm ?_
  | with_reducible refine Tw.u_gcons ?_
  | with_reducible refine Tw.u_gnil ?_
  | ((with_reducible refine' Tw.u_gtup ?a ?b ?_); (case a => exact L2.SqT.of (by walk_at "hp")); (case b => exact rfl))
  | ((with_reducible refine' Tw.k_ownC2 ?a ?_); (case a => walk_at "hp"))
  | ((with_reducible refine' Tw.r_own2 ?a ?b ?_); (case a => walk_at "hp"); (case b => walk_at "hp"))
  | ((with_reducible refine' Tw.r_ownI ?a ?_); (case a => walk_at "hp"))
  | ((with_reducible refine' Tw.r_ownR ?a ?_); (case a => walk_at "hp"))
  | ((with_reducible refine' Tw.r_own1 ?a ?_); (case a => walk_at "hp"))
  | ((with_reducible refine' Tw.k_meth ?a ?b ?_); (case a => walk_at "hp"); (case b => walk_at "lk"))
  | ((with_reducible refine' Tw.k_fld ?a ?b ?c ?d ?_); (case a => walk_at "hp"); (case b => assumption); (case c => assumption); (case d => walk_at "lk"))
  | ((with_reducible refine' Tw.k_set ?a ?b ?c ?d ?_); (case a => walk_at "hp"); (case b => assumption); (case c => assumption); (case d => walk_at "len"))
  | walk_at "c1"
  | with_reducible refine Tw.w_T ?_
  | with_reducible refine Tw.w_F ?_
  | with_reducible refine Tw.w_nT ?_
  | with_reducible refine Tw.w_nF ?_
  | ((with_reducible refine' Tw.r_mod ?a ?_); (case a => omega); intro _ _)
  | ((with_reducible refine' Tw.r_mul ?a ?_); (case a => first | exact Or.inl ⟨by omega, by omega⟩ | exact Or.inr ⟨by omega, by omega⟩))
  | ((with_reducible refine' Tw.r_div ?a ?b ?_); (case a => omega); (case b => omega))
  | ((with_reducible refine' Tw.r_pow ?a ?b ?c ?d ?_); (case a => omega); (case b => omega); (case c => exact ⟨by omega, by omega⟩); (case d => (simp only [Int.reduceToNat, Int.reducePow]; exact rfl)))
  | ((with_reducible refine' Tw.r_ixL' ?a ?b ?_); (case a => walk_at "hp"); (case b => exact rfl))
  | ((with_reducible refine' Tw.r_ixT' ?a ?b ?_); (case a => walk_at "hp"); (case b => exact rfl))
  | ((with_reducible refine' Tw.r_setL ?a ?b ?_); (case a => walk_at "hp"); (case b => exact rfl))
  | ((with_reducible refine' Tw.r_lenL ?a ?_); (case a => walk_at "hp")))
local macro_rules | `(tactic| walk_at "r") => `(tactic| repeat walk_at "r1")
local macro_rules | `(tactic| walk_at "lk") => `(tactic| fail)
local macro_rules | `(tactic| walk_at "c1") => `(tactic| fail)
namespace M07
open PySem PySem.Spec PyProof.Rows L2 Tw Mr
section
variable {w : World} {K : PySem.W.Frag} {mg : Str → Option Value} {base : Heap} {cl : CL}
theorem ok_draw0 (T : Txt K w mg cl base) : Cal P w K mg base 3 "_law_draw" spDrawX [] := by
  refine cal0 (k := 2) (N := N_draw) T.d_draw sc_draw (by rintro vs H Q E ⟨_, _, _, _, _, _, rfl, _⟩; rfl) ?_
  rintro f cdv A out s H vs Q E hr ⟨p, L, a, r, many, ns, rfl, hp, hL, ha0, han, hlen, hm1, hm2, k⟩
  refine ⟨_, (pss_cons (ps_if (pt_cmpR op_gt (pe_ix ix_list (pv 0) pe_int (fun _ _ => rfl)) pe_int (nomark _)) (pss_cons (ps_set (i := 2) sc_draw.nd rfl (Or.inl rfl) (pe_op op_mod (pe_callTy Tw.c_int (by rfl) T.n_int (by decide +kernel) (pa_cons (pe_ix ix_list (pv 0) pe_int (fun _ _ => rfl)) pa_nil)) (pv 1)))
      (pss_cons (ps_asg (pe_op op_fdivW (pe_callTy Tw.c_int (by rfl) T.n_int (by decide +kernel) (pa_cons (pe_ix ix_list (pv 0) pe_int (fun _ _ => rfl)) pa_nil)) (pv 1)) (pg_sub (pv 0) pe_int set_list))
      (pss_one (ps_ret (pv 2))))) pss_nil)
    (pss_cons (ps_set (i := 3) sc_draw.nd rfl (Or.inl rfl) (pe_ix ix_list (pv 0) pe_int (fun _ _ => rfl)))
    (pss_cons (ps_asg (pe_op op_add (pv 3) pe_int) (pg_sub (pv 0) pe_int set_list))
    (pss_cons (ps_set (i := 4) sc_draw.nd rfl (Or.inl rfl) (pe_op op_add (pe_op op_mul pe_int (pv 3)) pe_int))
    (C8.pss_cut (ps_if (pt_cmpR (op_neD hr.u) (pe_ix ix_list (pv 0) pe_int (fun _ _ => rfl)) (pe_lst pa_nil) (nomark _)) (pss_one (ps_set (i := 4) sc_draw.nd rfl (Or.inl rfl) (pe_ix ix_list (pe_ix ix_list (pv 0) pe_int (fun _ _ => rfl)) (pe_op op_mod (pe_callTy Tw.c_int (by rfl) T.n_int (by decide +kernel) (pa_cons (pv 3) pa_nil)) (pe_callB Tw.c_len (by rfl) T.n_len (by decide +kernel) (pa_cons (pe_ix ix_list (pv 0) pe_int (fun _ _ => rfl)) pa_nil))) (fun _ _ => rfl)))) pss_nil)
    (pss_cons (ps_if (PW.pt (pw_and (pt_cmpR op_lt (pv 3) (pe_callB Tw.c_len (by rfl) T.n_len (by decide +kernel) (pa_cons (pe_ix ix_list (pv 0) pe_int (fun _ _ => rfl)) pa_nil)) (nomark _)) (pw_and1 (pt_cmpR op_ge (pe_callB Tw.c_abs (by rfl) T.n_abs (by decide +kernel) (pa_cons (pv 4) pa_nil)) (pe_op op_pow pe_int pe_int) (nomark _))))) (pss_cons (ps_set (i := 5) sc_draw.nd rfl (Or.inl rfl) (pe_op op_add (pe_op op_mul pe_int (pe_op op_sub (pe_callB Tw.c_abs (by rfl) T.n_abs (by decide +kernel) (pa_cons (pv 4) pa_nil)) (pe_op op_pow pe_int pe_int))) (pe_callTy Tw.c_int (by rfl) T.n_int (by decide +kernel) (pa_cons (pe_cmpR op_lt (pv 4) pe_int (nomark _)) pa_nil))))
      (pss_cons (ps_asg (pe_op op_fdivW (pe_callTy Tw.c_int (by rfl) T.n_int (by decide +kernel) (pa_cons (pv 5) pa_nil)) (pv 1)) (pg_sub (pv 0) pe_int set_list))
      (pss_one (ps_ret (pe_op op_mod (pe_callTy Tw.c_int (by rfl) T.n_int (by decide +kernel) (pa_cons (pv 5) pa_nil)) (pv 1)))))) pss_nil)
    (pss_cons (ps_set (i := 6) sc_draw.nd rfl (Or.inl rfl) (pe_op op_mod (pe_callTy Tw.c_int (by rfl) T.n_int (by decide +kernel) (pa_cons (pe_op op_pow (pe_op op_add (pe_op op_add (pe_op op_mod (pe_callTy Tw.c_int (by rfl) T.n_int (by decide +kernel) (pa_cons (pv 4) pa_nil)) pe_int) (pe_op op_mul pe_int (pv 3))) pe_int) pe_int) pa_nil)) pe_int))
    (pss_cons (ps_set (i := 6) sc_draw.nd rfl (Or.inl rfl) (pe_op op_mod (pe_callTy Tw.c_int (by rfl) T.n_int (by decide +kernel) (pa_cons (pe_op op_pow (pe_op op_add (pe_op op_add (pe_op op_mul (pv 6) (pe_op op_add (pe_op op_mul pe_int (pv 3)) pe_int)) (pe_op op_mul (pe_op op_mul pe_int (pv 3)) (pv 3))) pe_int) pe_int) pa_nil)) pe_int))
    (pss_one (ps_ret (pe_op op_mod (pe_callTy Tw.c_int (by rfl) T.n_int (by decide +kernel) (pa_cons (pe_op op_fdivW (pv 6) pe_int) pa_nil)) (pv 1)))))))))))), ?_⟩
  try dsimp only [cxK]
  walk_at "r"
  refine w_dec (fun h => ?_) (fun h => ?_)
  · walk_at "r"
    exact k _ _ _ _ (by assumption) (by assumption) (fun b o n h => by rw [upd_ne n]; exact h) upd_same ha0 (by omega)
  · walk_at "r"
    have hp1 : upd H p (.lst [.ref L, .int (a + 1), .int r]) p = some (.lst [.ref L, .int (a + 1), .int r]) := upd_same
    have hL1 : upd H p (.lst [.ref L, .int (a + 1), .int r]) L = some (.lst (ns.map V.int)) := penL hp hL
    have S1 : ∀ b o, b ≠ p → H b = some o → upd H p (.lst [.ref L, .int (a + 1), .int r]) b = some o := fun b o n h => by rw [upd_ne n]; exact h
    show C8.tCut _ _ _ _ (upd H p (.lst [.ref L, .int (a + 1), .int r]))
    generalize upd H p (.lst [.ref L, .int (a + 1), .int r]) = H1 at hp1 hL1 S1 ⊢
    refine u_cut (fun σ' H' => ∃ c, σ' = [some (.ref p), some (.int many), none, some (.int a), some (.int c), none, none] ∧ Same H1 H') ?_ ?_
    · walk_at "r"
      refine r_ne0 (ns := ns) (by walk_at "hp") (by walk_at "hp") ?_
      walk_at "r"
      refine w_ndec (fun hne => ?_) (fun he => ?_)
      · walk_at "r"
        have hpos : 0 < ns.length := List.length_pos_iff.mpr hne
        refine r_mod (by rw [List.length_map]; omega) fun h0 h1 => ?_
        rw [List.length_map] at h0 h1 ⊢
        obtain ⟨c, hc⟩ := atI_ints h0 h1
        refine r_ixL' (by walk_at "hp") hc ?_
        walk_at "r"
        exact ⟨_, rfl, by assumption⟩
      · walk_at "r"
        exact ⟨_, rfl, by assumption⟩
    · rintro σ' H' ⟨c, rfl, S2⟩
      have hp2 := S2 _ _ hp1
      have hL2 := S2 _ _ hL1
      have S12 : ∀ b o, b ≠ p → H b = some o → H' b = some o := fun b o n h => S2 _ _ (S1 b o n h)
      walk_at "r"
      refine w_dec (fun h3 => ?_) (fun h3 => ?_)
      · walk_at "r"
        refine w_dec (fun h4 => ?_) (fun h4 => ?_)
        · walk_at "r"
          exact k _ _ _ _ (by assumption) (by assumption) (fun b o n h => by rw [upd_ne n]; exact S12 b o n h) upd_same (by omega) (by omega)
        · walk_at "r"
          refine r_pow (z := _) (by decide) (by decide) (drawB (by assumption) (by omega) (by omega) (by omega) ha0 (by omega) (by decide) (by decide) (by decide) (by decide)) rfl ?_
          walk_at "r"
          exact k _ _ _ _ (by assumption) (by assumption) S12 hp2 (by omega) (by omega)
      · walk_at "r"
        refine r_pow (z := _) (by decide) (by decide) (drawB (by assumption) (by omega) (by omega) (by omega) ha0 (by omega) (by decide) (by decide) (by decide) (by decide)) rfl ?_
        walk_at "r"
        exact k _ _ _ _ (by assumption) (by assumption) S12 hp2 (by omega) (by omega)
theorem ok_draw (T : Txt K w mg cl base) : CalM P w K mg base cl 3 "_law_draw" drawF [] := drawM (ok_draw0 T)
theorem ok_pen (T : Txt K w mg cl base) : Cal P w K mg base 3 "_law_pen" (spPenX K) [] := by
  refine cal0 (k := 2) (N := N_pen) T.d_pen sc_pen (by rintro vs H Q E ⟨_, _, rfl, _⟩; rfl) ?_
  rintro f cdv A out s H vs Q E hr ⟨a, ns, rfl, hS, hl, k⟩
  refine ⟨_, (pss_one (ps_ret (pe_lst (pa_cons (pe_callTy Tw.c_list (by rfl) T.n_list (by decide +kernel) (pa_cons (pe_slice sl_list (pv 0) po_none (po_some pe_int)) pa_nil)) (pa_cons pe_int (pa_cons pe_int pa_nil)))))), ?_⟩
  try dsimp only [cxK]
  walk_at "r"
  refine r_slL hS fun p H1 S1 hp _ => ?_
  walk_at "r"
  have e : cutV (ns.map V.int) none (some 63) = ns.map V.int := by
    exact (cutV_to (k := 63)).trans (List.take_of_length_le (by rw [List.length_map]; exact hl))
  rw [e] at hp
  refine r_listL (SqL.of hp) fun l H2 S2 hl2 hl0 => ?_
  walk_at "r"
  rename_i q H3 S3 hq hq0
  have n2 : H2 l ≠ none := by rw [hl2]; exact Option.some_ne_none _
  refine k q l H3 (S1.trans (S2.trans S3)) ?_ ?_ ?_ hq (S3 _ _ hl2)
  · cases e0 : H q with
    | none => rfl
    | some o => exact absurd (S2 _ _ (S1 _ _ e0)) (by rw [hq0]; exact nofun)
  · cases e0 : H l with
    | none => rfl
    | some o => exact absurd (S1 _ _ e0) (by rw [hl0]; exact nofun)
  · rintro rfl
    exact n2 hq0

end
end M07

namespace M07
open PySem PySem.Spec PyProof.Rows L2 Tw Mr
local macro_rules | `(tactic| walk_at "mm") => `(tactic| simp -implicitDefEqProofs only [↓Mr.hold_cM, ↓Mr.hold_ite, ↓Mr.hold_for, ↓Mr.hold_lc, ↓Mr.hold_wh, ↓Mr.hold_act, ↓Mr.fRetC.eq_1, ↓Mr.hold_lam, ↓Mr.hold_lcX, ↓Mr.fLcX.eq_1, ↓Mr.fAug.eq_1, ↓Mr.gInp.eq_1, ↓Mr.gBag.eq_1, Mr.S.sq?, ↓Mr.iEnumA.eq_1, Mr.S.enumA?, Mr.sortO, Mr.intsOf, ↓Mr.fStar.eq_1, ↓Mr.fSetO.eq_1, ↓Mr.mCase.eq_1, ↓Mr.fMatch.eq_1, ↓Mr.iEnum.eq_1, Mr.S.enum?, Mr.maxO,  Mr.hIte_true, Mr.hIte_false, ↓Mr.startT.eq_1, ↓Mr.endsM.eq_1, ↓Mr.lawEnds.eq_1, ↓Mr.fSeq.eq_1, ↓Mr.fSkip.eq_1, ↓Mr.fRet.eq_1, ↓Mr.fRetN.eq_1, ↓Mr.fRetF.eq_1, ↓Mr.fDrop.eq_1, ↓Mr.fSet.eq_1, ↓Mr.fAsg.eq_1, ↓Mr.fPar.eq_1, ↓Mr.fFldS.eq_1, ↓Mr.fIfS.eq_1, ↓Mr.fRaise.eq_1, ↓Mr.fTry.eq_1, ↓Mr.fBrk.eq_1, ↓Mr.fCnt.eq_1, ↓Mr.gN.eq_1, ↓Mr.gT.eq_1, ↓Mr.gsNil.eq_1, ↓Mr.gsCons.eq_1, ↓Mr.xk,
  ↓Mr.fVar.eq_1, ↓Mr.fC.eq_1, ↓Mr.f2.eq_1, ↓Mr.f3.eq_1, ↓Mr.g2.eq_1, ↓Mr.kB.eq_1, ↓Mr.fTest.eq_1, ↓Mr.fTru.eq_1, ↓Mr.fAnd.eq_1, ↓Mr.fOr.eq_1, ↓Mr.fNot.eq_1, ↓Mr.fAndV.eq_1, ↓Mr.fOrV.eq_1, ↓Mr.fNotV.eq_1, ↓Mr.fIf.eq_1, ↓Mr.fUn.eq_1, ↓Mr.onO.eq_1, Mr.onB_bl, Mr.onB_non, Mr.onB_int, Mr.onB_str, Mr.onB_lst, Mr.onB_tup, Mr.onB_dct, ↓Mr.fNil.eq_1, ↓Mr.fCons.eq_1, ↓Mr.fLst.eq_1, ↓Mr.fTup.eq_1, ↓Mr.fLstC.eq_1, ↓Mr.fDct0.eq_1, ↓Mr.fDctC.eq_1, ↓Mr.fPar3.eq_1, ↓Mr.fSm0.eq_1, ↓Mr.fSm1.eq_1, ↓Mr.onS.eq_1, Mr.isS, Mr.eqF, List.all_cons, List.all_nil, List.any_cons, List.any_nil, Mr.upperO, Mr.lowerO, Mr.partO, Mr.isiT, Mr.tys, Mr.kkAny, Mr.reprX, Mr.S.datX, Mr.T.datX, Mr.datsX, Mr.datsK, Mr.kD, ↓Mr.fCB.eq_1, ↓Mr.fCall.eq_1, ↓Mr.fMk.eq_1, ↓Mr.fMkK.eq_1, ↓Mr.fMt.eq_1, ↓Mr.fMtK.eq_1, ↓Mr.fCallK.eq_1, ↓Mr.fErr.eq_1, ↓Mr.fStrO.eq_1, ↓Mr.fJs.eq_1, ↓Mr.jsT, ↓Mr.fSl.eq_1, ↓Mr.oNone.eq_1, ↓Mr.oSome.eq_1, ↓Mr.fLM.eq_1, ↓Mr.onL.eq_1,
  Mr.addO, Mr.intO, Mr.mulO, Mr.ltO, Mr.leO, Mr.gtO, Mr.geO, Mr.eqO, Mr.neO, Mr.isO, Mr.isnO, Mr.T.isN, Mr.negO, Mr.ixO, Mr.lenO, Mr.absO, Mr.intO1, Option.isSome_some, Option.isSome_none, Mr.S.put_pn, Mr.strO, Mr.strLO, Mr.listO, Mr.tupO, Mr.reprO, Mr.isiO, Mr.fldO, Mr.xgO, Mr.fmtO, Mr.joinO, Mr.slO, Mr.inO', Mr.ninO', Mr.inB, Mr.T.flat, Mr.S.put_same, Mr.S.put_put, Mr.S.pn_on, Mr.S.pn_pen, Mr.S.put_pen, Mr.S.pn_pn, ↓Mr.fLc.eq_1, ↓Mr.fYes.eq_1, ↓Mr.iSeq.eq_1, ↓Mr.iRange1.eq_1, ↓Mr.iRange2.eq_1, Mr.S.its?, Mr.okAt, Mr.wipeT, ↓Mr.fFor.eq_1, Mr.allO, Mr.anyO, ↓Mr.doneM.eq_1, Option.map_some, Option.map_none,  Mr.appO, Mr.revO, Mr.clrO, ↓Mr.gEqOwn.eq_1, ↓Mr.gOwn2.eq_1, ↓Mr.gOwnI_row, ↓Mr.gOwnR_row, ↓Mr.kObj.eq_1, ↓Mr.fNegO.eq_1, ↓Mr.fOwnC.eq_1, ↓Mr.fPro.eq_1, ↓Mr.gInK.eq_1, ↓Mr.gIxK.eq_1, ↓Mr.iKeyK.eq_1, Mr.eqE, Bool.true_xor, Bool.false_xor, ↓Mr.gNeOwn.eq_1,
  Mr.S.lst?, Mr.S.seq?, Mr.S.ty?, Mr.S.obj?, Mr.S.dat, Mr.T.dat, Mr.dats, Mr.atI_0, Mr.atI_1, Mr.atI_2, Mr.atI_3, Mr.atI_4, Mr.atI_5, Mr.atI_6, Mr.atI_7, Mr.atI_8, Mr.atI_9, Mr.atI_10, Mr.atI_11, Mr.atI_12, Mr.atI_13, PyData.eqv, PyData.eqvAll, Bool.and_true, Bool.true_and, beq_self_eq_true, Bool.and_self, decide_true, decide_false, Mr.okC,
  List.map_cons, List.map_nil, List.length_cons, List.length_nil, List.cons_append, List.nil_append, List.append_nil, List.replicate_succ, List.replicate_zero, List.getElem?_cons_zero, List.getElem?_cons_succ, List.set_cons_zero, List.set_cons_succ, List.getD_cons_zero, List.getD_cons_succ, L2.CPow, Int.reduceToNat, Int.reducePow, Int.reduceAbs, Int.reduceLE, Int.reduceLT, Int.reduceSub, Int.reduceAdd, Int.reduceNeg, Int.reduceMul, Int.reduceEq, Nat.reducePow, Nat.sub_self, Nat.reduceSub, Nat.reduceAdd, Nat.reduceLeDiff, Nat.reduceLT, Nat.reduceEqDiff, Nat.zero_add, Nat.add_zero, Nat.add_one_sub_one, Nat.sub_zero, Nat.zero_sub,
  true_and, and_true, ite_true, ite_false, if_true, if_false, Bool.false_eq_true, Bool.true_eq_false, ↓reduceIte, Bool.not_true, Bool.not_false, List.zip_cons_cons, List.zip_nil_left, List.zip_nil_right, M07.kkA, M07.lkA, M07.insL, M07.excL, List.mem_cons, List.not_mem_nil, or_false, or_true, true_or, false_or, reduceCtorEq, Bool.not_eq_true, Bool.not_eq_false, Bool.not_not])
local macro_rules | `(tactic| walk_at "sh") => `(tactic| exact Mr.sh (by first | (simp only [Mr.niceD, Mr.niceAll, Bool.and_true, Bool.and_eq_true, true_and, and_true]; done) | (simp only [Mr.niceD, Mr.niceAll, Bool.and_true, Bool.and_eq_true, true_and, and_true]; decide +kernel) | simp [Mr.niceD, Mr.niceAll, *]) (by simp [PyData.depth, PyData.depthAll]))
local macro_rules | `(tactic| walk_at "rp") => `(tactic| exact Mr.rp (by first | (simp only [Mr.niceD, Mr.niceAll, Bool.and_true, Bool.and_eq_true, true_and, and_true]; done) | (simp only [Mr.niceD, Mr.niceAll, Bool.and_true, Bool.and_eq_true, true_and, and_true]; decide +kernel) | simp [Mr.niceD, Mr.niceAll, *]) (by simp [PyData.depth, PyData.depthAll]) (by simp only [Mr.wD, Mr.wAll]; first | decide | omega))

def rowC (ps : List Pr) : Cell := .obj 8 [("held", .lst (ps.map itm))]
/-- v is a list, a tuple or a row of the things xs -/
def src (s : S) (v : Mr.T) (xs : List Mr.T) : Prop := v = .lst xs ∨ v = .tup xs ∨ ∃ x, v = .cell x ∧ s.on x = some (.obj 8 [("held", .lst xs)])
theorem src_put {s : S} {v : Mr.T} {xs : List Mr.T} {y : Addr} {c : Cell} (hy : s.on y = none) (h : src s v xs) : src (s.put y c) v xs := by
  rcases h with h | h | ⟨x, h, hx⟩
  · exact .inl h
  · exact .inr (.inl h)
  · refine .inr (.inr ⟨x, h, ?_⟩)
    rw [S.put_ne (fun e => by rw [e, hy] at hx; cases hx)]
    exact hx
def toI (t : Mr.T) : Option Mr.T := (toP t).map itm
/-- what a row of the things xs is, or how it is refused -/
def rowOf (xs : List Mr.T) (Q : List Pr → Prop) (E : Er → Prop) : Prop := match badAt toI 0 xs with
  | some k => E ⟨3, [("part", .int (k : Int))]⟩
  | none => match FL (xs.filterMap toP) with
    | t :: _ => E ⟨5, [("at", t)]⟩
    | [] => if (xs.filterMap toP).length ≤ 200 then Q (xs.filterMap toP) else E ⟨6, [("most", .int 200)]⟩
theorem rowOf.mon {xs : List Mr.T} {Q Q' : List Pr → Prop} {E E' : Er → Prop} (hq : ∀ ps, Q ps → Q' ps) (he : ∀ e, E e → E' e) (h : rowOf xs Q E) : rowOf xs Q' E' := by
  unfold rowOf at h ⊢
  split at h
  · exact he _ h
  · split at h
    · exact he _ h
    · split at h
      · rename_i hl
        rw [if_pos hl]
        exact hq _ h
      · rename_i hl
        rw [if_neg hl]
        exact he _ h
theorem bad_itm : ∀ (ps : List Pr) (n : Nat), badAt toI n (ps.map itm) = none
  | [], _ => rfl
  | p :: r, n => bad_itm r (n + 1)
theorem all_itm : ∀ ps : List Pr, (ps.map itm).filterMap toP = ps
  | [] => rfl
  | p :: r => by
    rw [List.map_cons, List.filterMap_cons, toP_itm]
    simp only [all_itm r]
theorem okV_itm (ps : List Pr) : ∀ x ∈ ps.map itm, okV x := fun x hx => by
  obtain ⟨p, _, rfl⟩ := List.mem_map.mp hx
  exact .inr ⟨p, rfl⟩
/-- of items in order -/
theorem rowOf_itm {ps : List Pr} {Q : List Pr → Prop} {E : Er → Prop} (hf : FL ps = []) (k : if ps.length ≤ 200 then Q ps else E ⟨6, [("most", .int 200)]⟩) : rowOf (ps.map itm) Q E := by
  unfold rowOf
  simp only [bad_itm, all_itm, hf]
  exact k
theorem toI_map (xs : List Mr.T) : xs.filterMap toI = (xs.filterMap toP).map itm := by
  rw [List.map_filterMap]
  rfl
def F_items_of : FD := fun ts s Q E => ∃ v xs, ts = [v] ∧ src s v xs ∧ (∀ x ∈ xs, okV x) ∧ xs.length ≤ 1000 ∧ rowOf xs (fun ps => Q (.lst (ps.map itm)) s) (fun er => E er s)
def F_Rinit : FD := fun ts s Q E => ∃ y v xs, ts = [.cell y, v] ∧ s.on y = some (.obj 8 []) ∧ src s v xs ∧ (∀ x ∈ xs, okV x) ∧ xs.length ≤ 1000 ∧ rowOf xs (fun ps => Q .non (s.put y (rowC ps))) (fun er => E er s)
def F_Rlisted : FD := fun ts s Q _ => ∃ x ps, ts = [.cell x] ∧ s.on x = some (rowC ps) ∧ Q (.lst (ps.map itm)) s
theorem mk_row {y : Addr} {s : S} {Q : KT} {E : KX} {v : Mr.T} {xs : List Mr.T} (hy : s.on y = none) (hv : src s v xs) (ho : ∀ x ∈ xs, okV x) (hl : xs.length ≤ 1000)
    (k : rowOf xs (fun ps => Q (.cell y) (s.put y (rowC ps))) (fun er => E er (s.put y (.obj 8 [])))) : @hM F_Rinit [.cell y, v] (s.put y (.obj 8 [])) ⟨doneM false y Q⟩ ⟨E⟩ := by
  refine hM.of ⟨y, v, xs, rfl, S.put_same _ _ _, ?_, ho, hl, k.mon (fun ps q => ?_) fun _ q => q⟩
  · rcases hv with rfl | rfl | ⟨x, rfl, hx⟩
    · exact .inl rfl
    · exact .inr (.inl rfl)
    · refine .inr (.inr ⟨x, rfl, ?_⟩)
      rw [S.put_ne (fun e => by rw [e, hy] at hx; cases hx)]
      exact hx
  · walk_at "mm"
    exact q
section
variable {w : World} {K : PySem.W.Frag} {mg : Str → Option Value} {base : Heap} {cl : CL}
theorem fn_items_of (T : Txt K w mg cl base) : ∀ {x : Str} {f : Addr} {fd : FuncData}, C8.Fun K x "items_of" s_items_of f fd → FnG P w K mg base 15 f fd ["values"] (spM K cl F_items_of) := by
  refine fnM (k := 14) (N := N_items_of) sc_items_of ?len (fun f cdv A out s H E hr => (jss_cons (js_setLcX (i := 1) (own := [("at", 2), ("value", 3)]) rfl rfl Tw.tk_cx (by rfl) sc_items_of.nd rfl rfl (sw_true rfl rfl rfl (by decide +kernel)) (ji_enumA (iter_Row T) hr (by decide) (by rfl) T.n_enumerate (ja_cons (je_var 0) ja_nil)) (blkOk_by (own := [("at", 2), ("value", 3)]) (N := N_items_of) (sc := C8.fnScope s_items_of) (by decide +kernel)) (fun _ _ _ _ _ => (pg_tup (n := 2) (by rfl) (pgs_cons (pg_name (i := 2) sc_items_of.nd rfl (Or.inl rfl)) (pgs_cons (pg_name (i := 3) sc_items_of.nd rfl (Or.inl rfl)) pgs_nil)))) (gt_tup (gts_cons (gt_name (i := 2) (by decide)) (gts_cons (gt_name (i := 3) (by decide)) gts_nil))) (fun _ _ _ _ _ _ _ tkb => (je_call tkb (ok_item_of T) hr (by decide) (by rfl) (ja_cons (je_var 3) (ja_cons (je_var 2) ja_nil)))))
    (jss_cons (js_expr (je_call Tw.tk_cx (ok_need_ascending T) hr (by decide) (by rfl) (ja_cons (je_var 1) ja_nil)))
    (jss_cons (js_expr (je_call Tw.tk_cx (ok_need_few T) hr (by decide) (by rfl) (ja_cons (je_var 1) ja_nil)))
    (jss_one (js_ret (je_var 1))))))) ?sem
  case len => rintro ts s Q E ⟨_, _, rfl, _⟩; rfl
  case sem =>
    rintro ts s Q E ⟨v, xs, rfl, hv, hok, hl, k⟩
    rcases hv with rfl | rfl | ⟨x, rfl, hx⟩
    case' inr.inr =>
      walk_at "mm"
      rw [hx]
    all_goals walk_at "mm"
    all_goals (
      refine lcX_enum toI (fun k => ⟨3, [("part", .int (k : Int))]⟩) trivial ?_ (by simp; omega) ?_
      · intro k0 t ht Q' k'
        walk_at "mm"
        refine hM.of ⟨_, _, rfl, hok t ht, ?_⟩
        unfold toI at k'
        rcases e : toP t with _ | p
        · rw [e] at k'
          exact k'
        · rw [e] at k'
          exact k'
      unfold rowOf at k
      rcases eb : badAt toI 0 xs with _ | kb
      · rw [eb] at k
        simp only at k ⊢
        rw [List.nil_append, toI_map]
        have hlp : (xs.filterMap toP).length ≤ 1000 := Nat.le_trans (List.length_filterMap_le _ _) hl
        generalize xs.filterMap toP = ps at k hlp ⊢
        walk_at "mm"
        refine hM.of ⟨ps, rfl, by omega, ?_⟩
        rcases hf : FL ps with _ | ⟨t, r⟩
        · rw [hf] at k
          simp only at k ⊢
          walk_at "mm"
          refine hM.of ⟨_, rfl, ?_⟩
          rw [List.length_map]
          by_cases h2 : ps.length ≤ 200
          · rw [if_pos h2] at k ⊢
            walk_at "mm"
            exact k
          · rw [if_neg h2] at k ⊢
            walk_at "mm"
            exact k
        · rw [hf] at k
          simp only at k ⊢
          walk_at "mm"
          exact k
      · rw [eb] at k
        simp only at k ⊢
        walk_at "mm"
        exact k)
theorem ok_items_of (T : Txt K w mg cl base) : CalM P w K mg base cl 15 "items_of" F_items_of [] := calOf T.d_items_of (fun _ _ _ => .nil) (fn_items_of T)
theorem fn_Rinit (T : Txt K w mg cl base) : ∀ {x : Str} {f : Addr} {fd : FuncData}, C8.Fun K x "Row.__init__" s_Rinit f fd → FnG P w K mg base 18 f fd ["self", "items"] (spM K cl F_Rinit) := by
  refine fnM (k := 17) (N := N_Rinit) sc_Rinit ?len (fun f cdv A out s H E hr => (jss_one (js_fld T.fld_held (je_var 0) (je_call Tw.tk_cx (ok_items_of T) hr (by decide) (by rfl) (ja_cons (je_var 1) ja_nil))))) ?sem
  case len => rintro ts s Q E ⟨_, _, _, rfl, _⟩; rfl
  case sem =>
    rintro ts s Q E ⟨y, v, xs, rfl, hy, hv, hok, hl, k⟩
    walk_at "mm"
    refine hM.of ⟨_, _, rfl, hv, hok, hl, k.mon (fun ps q => ?_) fun er q => ?_⟩
    · walk_at "mm"
      rw [hy]
      walk_at "mm"
      exact q
    · walk_at "mm"
      exact q
theorem mk_Rinit (T : Txt K w mg cl base) : MakM P w K mg base cl 18 "Row" 8 F_Rinit [] := makOf T.d_Rinit (fun _ _ _ => .nil) (fn_Rinit T)
theorem fn_Rlisted (T : Txt K w mg cl base) : ∀ {x : Str} {f : Addr} {fd : FuncData}, C8.Fun K x "Row.listed" s_Rlisted f fd → FnG P w K mg base 3 f fd ["self"] (spM K cl F_Rlisted) := by
  refine fnM (k := 2) (N := N_Rlisted) sc_Rlisted ?len (fun f cdv A out s H E hr => (jss_one (js_ret (je_bt c_list (by rfl) T.n_list (by decide +kernel) (ja_cons (je_fld T.fld_held (je_var 0)) ja_nil))))) ?sem
  case len => rintro ts s Q E ⟨_, _, rfl, _⟩; rfl
  case sem =>
    rintro ts s Q E ⟨x, ps, rfl, hx, k⟩
    unfold rowC at hx
    walk_at "mm"
    rw [hx]
    walk_at "mm"
    exact k
theorem mt_Rlisted (T : Txt K w mg cl base) : MetM P w K mg base cl 3 8 "listed" F_Rlisted [] := metOf T.d_Rlisted (fun _ _ _ => .nil) (fn_Rlisted T)
end
end M07

namespace M07
open PySem PySem.Spec PyProof.Rows L2 Tw Mr
local macro_rules | `(tactic| walk_at "mm") => `(tactic| simp -implicitDefEqProofs only [↓Mr.hold_cM, ↓Mr.hold_ite, ↓Mr.hold_for, ↓Mr.hold_lc, ↓Mr.hold_wh, ↓Mr.hold_act, ↓Mr.fRetC.eq_1, ↓Mr.hold_lam, ↓Mr.hold_lcX, ↓Mr.fLcX.eq_1, ↓Mr.fAug.eq_1, ↓Mr.gInp.eq_1, ↓Mr.gBag.eq_1, Mr.S.sq?, ↓Mr.iEnumA.eq_1, Mr.S.enumA?, Mr.sortO, Mr.intsOf, ↓Mr.fStar.eq_1, ↓Mr.fSetO.eq_1, ↓Mr.mCase.eq_1, ↓Mr.fMatch.eq_1, ↓Mr.iEnum.eq_1, Mr.S.enum?, Mr.maxO,  Mr.hIte_true, Mr.hIte_false, ↓Mr.startT.eq_1, ↓Mr.endsM.eq_1, ↓Mr.lawEnds.eq_1, ↓Mr.fSeq.eq_1, ↓Mr.fSkip.eq_1, ↓Mr.fRet.eq_1, ↓Mr.fRetN.eq_1, ↓Mr.fRetF.eq_1, ↓Mr.fDrop.eq_1, ↓Mr.fSet.eq_1, ↓Mr.fAsg.eq_1, ↓Mr.fPar.eq_1, ↓Mr.fFldS.eq_1, ↓Mr.fIfS.eq_1, ↓Mr.fRaise.eq_1, ↓Mr.fTry.eq_1, ↓Mr.fBrk.eq_1, ↓Mr.fCnt.eq_1, ↓Mr.gN.eq_1, ↓Mr.gT.eq_1, ↓Mr.gsNil.eq_1, ↓Mr.gsCons.eq_1, ↓Mr.xk,
  ↓Mr.fVar.eq_1, ↓Mr.fC.eq_1, ↓Mr.f2.eq_1, ↓Mr.f3.eq_1, ↓Mr.g2.eq_1, ↓Mr.kB.eq_1, ↓Mr.fTest.eq_1, ↓Mr.fTru.eq_1, ↓Mr.fAnd.eq_1, ↓Mr.fOr.eq_1, ↓Mr.fNot.eq_1, ↓Mr.fAndV.eq_1, ↓Mr.fOrV.eq_1, ↓Mr.fNotV.eq_1, ↓Mr.fIf.eq_1, ↓Mr.fUn.eq_1, ↓Mr.onO.eq_1, Mr.onB_bl, Mr.onB_non, Mr.onB_int, Mr.onB_str, Mr.onB_lst, Mr.onB_tup, Mr.onB_dct, ↓Mr.fNil.eq_1, ↓Mr.fCons.eq_1, ↓Mr.fLst.eq_1, ↓Mr.fTup.eq_1, ↓Mr.fLstC.eq_1, ↓Mr.fDct0.eq_1, ↓Mr.fDctC.eq_1, ↓Mr.fPar3.eq_1, ↓Mr.fSm0.eq_1, ↓Mr.fSm1.eq_1, ↓Mr.onS.eq_1, Mr.isS, Mr.eqF, List.all_cons, List.all_nil, List.any_cons, List.any_nil, Mr.upperO, Mr.lowerO, Mr.partO, Mr.isiT, Mr.tys, Mr.kkAny, Mr.reprX, Mr.S.datX, Mr.T.datX, Mr.datsX, Mr.datsK, Mr.kD, ↓Mr.fCB.eq_1, ↓Mr.fCall.eq_1, ↓Mr.fMk.eq_1, ↓Mr.fMkK.eq_1, ↓Mr.fMt.eq_1, ↓Mr.fMtK.eq_1, ↓Mr.fCallK.eq_1, ↓Mr.fErr.eq_1, ↓Mr.fStrO.eq_1, ↓Mr.fJs.eq_1, ↓Mr.jsT, ↓Mr.fSl.eq_1, ↓Mr.oNone.eq_1, ↓Mr.oSome.eq_1, ↓Mr.fLM.eq_1, ↓Mr.onL.eq_1,
  Mr.addO, Mr.intO, Mr.mulO, Mr.ltO, Mr.leO, Mr.gtO, Mr.geO, Mr.eqO, Mr.neO, Mr.isO, Mr.isnO, Mr.T.isN, Mr.negO, Mr.ixO, Mr.lenO, Mr.absO, Mr.intO1, Option.isSome_some, Option.isSome_none, Mr.S.put_pn, Mr.strO, Mr.strLO, Mr.listO, Mr.tupO, Mr.reprO, Mr.isiO, Mr.fldO, Mr.xgO, Mr.fmtO, Mr.joinO, Mr.slO, Mr.inO', Mr.ninO', Mr.inB, Mr.T.flat, Mr.S.put_same, Mr.S.put_put, Mr.S.pn_on, Mr.S.pn_pen, Mr.S.put_pen, Mr.S.pn_pn, ↓Mr.fLc.eq_1, ↓Mr.fYes.eq_1, ↓Mr.iSeq.eq_1, ↓Mr.iRange1.eq_1, ↓Mr.iRange2.eq_1, Mr.S.its?, Mr.okAt, Mr.wipeT, ↓Mr.fFor.eq_1, Mr.allO, Mr.anyO, ↓Mr.doneM.eq_1, Option.map_some, Option.map_none,  Mr.appO, Mr.revO, Mr.clrO, ↓Mr.gEqOwn.eq_1, ↓Mr.gOwn2.eq_1, ↓Mr.gOwnI_row, ↓Mr.gOwnR_row, ↓Mr.kObj.eq_1, ↓Mr.fNegO.eq_1, ↓Mr.fOwnC.eq_1, ↓Mr.fPro.eq_1, ↓Mr.gInK.eq_1, ↓Mr.gIxK.eq_1, ↓Mr.iKeyK.eq_1, Mr.eqE, Bool.true_xor, Bool.false_xor, ↓Mr.gNeOwn.eq_1,
  Mr.S.lst?, Mr.S.seq?, Mr.S.ty?, Mr.S.obj?, Mr.S.dat, Mr.T.dat, Mr.dats, Mr.atI_0, Mr.atI_1, Mr.atI_2, Mr.atI_3, Mr.atI_4, Mr.atI_5, Mr.atI_6, Mr.atI_7, Mr.atI_8, Mr.atI_9, Mr.atI_10, Mr.atI_11, Mr.atI_12, Mr.atI_13, PyData.eqv, PyData.eqvAll, Bool.and_true, Bool.true_and, beq_self_eq_true, Bool.and_self, decide_true, decide_false, Mr.okC,
  List.map_cons, List.map_nil, List.length_cons, List.length_nil, List.cons_append, List.nil_append, List.append_nil, List.replicate_succ, List.replicate_zero, List.getElem?_cons_zero, List.getElem?_cons_succ, List.set_cons_zero, List.set_cons_succ, List.getD_cons_zero, List.getD_cons_succ, L2.CPow, Int.reduceToNat, Int.reducePow, Int.reduceAbs, Int.reduceLE, Int.reduceLT, Int.reduceSub, Int.reduceAdd, Int.reduceNeg, Int.reduceMul, Int.reduceEq, Nat.reducePow, Nat.sub_self, Nat.reduceSub, Nat.reduceAdd, Nat.reduceLeDiff, Nat.reduceLT, Nat.reduceEqDiff, Nat.zero_add, Nat.add_zero, Nat.add_one_sub_one, Nat.sub_zero, Nat.zero_sub,
  true_and, and_true, ite_true, ite_false, if_true, if_false, Bool.false_eq_true, Bool.true_eq_false, ↓reduceIte, Bool.not_true, Bool.not_false, List.zip_cons_cons, List.zip_nil_left, List.zip_nil_right, M07.kkA, M07.lkA, M07.insL, M07.excL, List.mem_cons, List.not_mem_nil, or_false, or_true, true_or, false_or, reduceCtorEq, Bool.not_eq_true, Bool.not_eq_false, Bool.not_not])
local macro_rules | `(tactic| walk_at "sh") => `(tactic| exact Mr.sh (by first | (simp only [Mr.niceD, Mr.niceAll, Bool.and_true, Bool.and_eq_true, true_and, and_true]; done) | (simp only [Mr.niceD, Mr.niceAll, Bool.and_true, Bool.and_eq_true, true_and, and_true]; decide +kernel) | simp [Mr.niceD, Mr.niceAll, *]) (by simp [PyData.depth, PyData.depthAll]))
local macro_rules | `(tactic| walk_at "rp") => `(tactic| exact Mr.rp (by first | (simp only [Mr.niceD, Mr.niceAll, Bool.and_true, Bool.and_eq_true, true_and, and_true]; done) | (simp only [Mr.niceD, Mr.niceAll, Bool.and_true, Bool.and_eq_true, true_and, and_true]; decide +kernel) | simp [Mr.niceD, Mr.niceAll, *]) (by simp [PyData.depth, PyData.depthAll]) (by simp only [Mr.wD, Mr.wAll]; first | decide | omega))

/-- the values xs stand for the pairs ps -/
def Vals' (xs : List Mr.T) (ps : List Pr) : Prop := xs.map toP = ps.map some ∧ ∀ x ∈ xs, okV x
theorem Vals'.len {xs : List Mr.T} {ps : List Pr} (h : Vals' xs ps) : xs.length = ps.length := by
  have := congrArg List.length h.1
  rwa [List.length_map, List.length_map] at this
theorem vals_bad : ∀ {xs : List Mr.T} {ps : List Pr} (n : Nat), xs.map toP = ps.map some → badAt toI n xs = none ∧ xs.filterMap toP = ps
  | [], [], _, _ => ⟨rfl, rfl⟩
  | [], _ :: _, _, h => by cases h
  | _ :: _, [], _, h => by cases h
  | x :: xs, p :: ps, n, h => by
    rw [List.map_cons, List.map_cons, List.cons.injEq] at h
    obtain ⟨h1, h2⟩ := vals_bad (n + 1) h.2
    refine ⟨?_, ?_⟩
    · unfold badAt toI
      rw [h.1]
      exact h1
    · rw [List.filterMap_cons, h.1]
      simp only [h2]
theorem rowOf_vals {xs : List Mr.T} {ps : List Pr} {Q : List Pr → Prop} {E : Er → Prop} (h : Vals' xs ps) (hf : FL ps = []) (hl : ps.length ≤ 200) (k : Q ps) : rowOf xs Q E := by
  obtain ⟨h1, h2⟩ := vals_bad 0 h.1
  unfold rowOf
  rw [h1, h2]
  simp only [hf]
  rw [if_pos hl]
  exact k
def pr (p : Pr) : Mr.T := .tup [.int p.1, .str p.2]
def F_pick : FD := fun ts s Q _ => ∃ v, ts = [.pen, v] ∧ s.pen ≤ 1000000 ∧ ∃ xs, v = .lst xs ∧ xs ≠ [] ∧ xs.length ≤ 1000 ∧ ∀ t ∈ xs, Q t (s.pn (s.pen + 1))
/-- pairs in order, of ranks within B -/
def Ok (B : Int) (ps : List Pr) : Prop := (∀ p ∈ ps, -B ≤ p.1 ∧ p.1 ≤ B ∧ nameB (.str p.2) = true) ∧ FL ps = []
def F_pairs : FD := fun ts s Q _ => ∃ m : Nat, ts = [.pen, .int m] ∧ m ≤ 100 ∧ s.pen ≤ 900000 ∧ ∀ (ps : List Pr) (n : Nat), ps.length ≤ m → Ok (100000000000000000000000000000 + 1000000000 * 100) ps → n ≤ s.pen + 2 + 2 * m → Q (.lst (ps.map pr)) (s.pn n)
def F_values : FD := fun ts s Q _ => ∃ ps B, ts = [.pen, .lst (ps.map pr)] ∧ ps.length ≤ 100 ∧ Ok B ps ∧ B ≤ G ∧ s.pen ≤ 900000 ∧ ∀ xs n, Vals' xs ps → n ≤ s.pen + ps.length → Q (.lst xs) (s.pn n)
def F_told : FD := fun ts s Q _ => ∃ ps : List Pr, ts = [.lst (ps.map itm)] ∧ ps.length ≤ 1000 ∧ Q (.lst (ps.map pr)) s
def heardR (er : Er) (t : Mr.T) : Prop := (∃ v, er = ⟨3, [("part", v)]⟩ ∧ t = .tup [.str "item", v]) ∨ (∃ v, er = ⟨4, [("at", v)]⟩ ∧ t = .tup [.str "place", v]) ∨ (∃ v, er = ⟨5, [("at", v)]⟩ ∧ t = .tup [.str "order", v]) ∨ ∃ v, er = ⟨6, [("most", v)]⟩ ∧ t = .tup [.str "many", v]
def F_heard : FH := fun φ s Q _ => φ s (fun t s1 => Q (.lst [t]) s1) (fun er s1 => ∃ t, heardR er t ∧ Q t s1)
theorem fl_of {ps : List Pr} (h : ps.Pairwise fun a b => a.1 ≤ b.1) : FL ps = [] := by
  refine List.filter_eq_nil_iff.mpr fun t ht => ?_
  obtain ⟨c, hc, rfl⟩ := List.mem_map.mp ht
  rw [List.mem_range] at hc
  show ¬ decide (rk ps _ < rk ps _) = true
  rw [decide_eq_true_eq]
  have h1 : (1 + (c : Int)).toNat = c + 1 := by omega
  rw [h1, Nat.add_sub_cancel]
  unfold rk
  rw [List.getD_eq_getElem?_getD, List.getD_eq_getElem?_getD, List.getElem?_eq_getElem (show c + 1 < ps.length by omega), List.getElem?_eq_getElem (show c < ps.length by omega)]
  have := List.pairwise_iff_getElem.mp h c (c + 1) (by omega) (by omega) (by omega)
  exact Int.not_lt.mpr this
theorem map_inj {f : Pr → Mr.T} (inj : ∀ p q : Pr, f p = f q → p = q) : ∀ ps qs : List Pr, ps.map f = qs.map f → ps = qs
  | [], [], _ => rfl
  | [], _ :: _, h => by simp at h
  | _ :: _, [], h => by simp at h
  | p :: ps, q :: qs, h => by
    simp only [List.map_cons, List.cons.injEq] at h
    rw [inj p q h.1, map_inj inj ps qs h.2]
def prd (p : Pr) : PyData := .tuple [.int p.1, .str p.2]
theorem pr_dats : ∀ ps : List Pr, dats (ps.map pr) = some (ps.map prd)
  | [] => rfl
  | p :: r => by
    have ih := pr_dats r
    simp only [List.map_cons, dats, ih]
    rfl
theorem occ_small (c : Nat) (h : occ L ⟨#[c]⟩ = true) : decide (c < 1114112) = true := by
  have e : occ L ⟨#[c]⟩ = decide (c ∈ L.cps.toList) := StrLaws.found_one L c
  rw [e] at h
  have a : ∀ d ∈ L.cps.toList, decide (d < 1114112) = true := by decide +kernel
  exact a c (of_decide_eq_true h)
theorem name_nice {z : Str} (hz : nameB (.str z) = true) : niceD (.str z) = true := by
  have hl := name_len hz
  rw [niceD, Bool.and_eq_true]
  refine ⟨?_, decide_eq_true (by omega)⟩
  have h : (decide (z.length ≤ 8) && z.cps.toList.all fun c => occ L ⟨#[c]⟩) = true := hz
  rw [Bool.and_eq_true] at h
  have h2 := h.2
  rw [← Array.all_toList]
  refine List.all_eq_true.mpr fun c hc => ?_
  have := List.all_eq_true.mp h2 c hc
  exact occ_small c this
theorem pr_nice {B : Int} (hB : B ≤ 10 ^ 40) {ps : List Pr} (h : ∀ p ∈ ps, -B ≤ p.1 ∧ p.1 ≤ B ∧ nameB (.str p.2) = true) : niceAll (ps.map prd) = true ∧ PyData.depthAll (ps.map prd) ≤ 3 := by
  induction ps with
  | nil => exact ⟨rfl, by simp [PyData.depthAll]⟩
  | cons p r ih =>
    obtain ⟨h1, h2⟩ := ih fun p hp => h p (List.mem_cons_of_mem _ hp)
    obtain ⟨b1, b2, hz⟩ := h p List.mem_cons_self
    rw [List.map_cons, niceAll, PyData.depthAll]
    refine ⟨?_, ?_⟩
    · rw [h1, prd, niceD, niceAll, niceAll, niceAll, name_nice hz, niceD, decide_eq_true (Nat.lt_of_le_of_lt (show p.1.natAbs ≤ 10 ^ 40 by omega) (by decide +kernel))]
      rfl
    · show max (PyData.depth (prd p)) (PyData.depthAll (r.map prd)) ≤ 3
      have : PyData.depth (prd p) ≤ 3 := by
        unfold prd
        simp only [PyData.depth, PyData.depthAll]
        omega
      omega
theorem pr_sh {B : Int} (hB : B ≤ 10 ^ 40) {ps : List Pr} (h : ∀ p ∈ ps, -B ≤ p.1 ∧ p.1 ≤ B ∧ nameB (.str p.2) = true) : SeqAt.shaped (.list (ps.map prd)) = true := by
  obtain ⟨h1, h2⟩ := pr_nice hB h
  refine sh (by rw [niceD]; exact h1) ?_
  simp only [PyData.depth]
  omega
theorem pr_eqv {B : Int} (hB : B ≤ 10 ^ 40) {ps : List Pr} (h : ∀ p ∈ ps, -B ≤ p.1 ∧ p.1 ≤ B ∧ nameB (.str p.2) = true) : PyData.eqvAll (ps.map prd) (ps.map prd) = true := eqvAll_self (pr_nice hB h).1
section
variable {w : World} {K : PySem.W.Frag} {mg : Str → Option Value} {base : Heap} {cl : CL}
theorem fn_pick (T : Txt K w mg cl base) : ∀ {x : Str} {f : Addr} {fd : FuncData}, C8.Fun K x "_law_pick" s_pick f fd → FnG P w K mg base 6 f fd ["_law_pen_here", "_law_some"] (spM K cl F_pick) := by
  refine fnM (k := 5) (N := N_pick) sc_pick ?len (fun f cdv A out s H E hr => (jss_one (js_ret (je_ix (je_var 1) (je_call Tw.tk_cx (ok_draw T) hr (by decide) (by rfl) (ja_cons (je_var 0) (ja_cons (je_b c_len (by rfl) T.n_len (by decide +kernel) (ja_cons (je_var 1) ja_nil)) ja_nil))) (fun _ _ => rfl))))) ?sem
  case len => rintro ts s Q E ⟨_, rfl, _⟩; rfl
  case sem =>
    rintro ts s Q E ⟨v, rfl, hn, xs, rfl, h0, h1, k⟩
    have hpos := List.length_pos_iff.mpr h0
    walk_at "mm"
    refine use_drawH (by omega) (by omega) hn fun j j0 j1 => ?_
    obtain ⟨t, e, m⟩ := atI_mem j0 j1
    walk_at "mm"
    rw [e]
    exact ⟨trivial, k t m⟩
theorem ok_pick (T : Txt K w mg cl base) : CalM P w K mg base cl 6 "_law_pick" F_pick [] := calOf T.d_pick (fun _ _ _ => .nil) (fn_pick T)
theorem lam_heard (T : Txt K w mg cl base) : LamOk P w K mg base cl 2 "_law_heard" F_heard := by
  refine lamOf T.d_heard sc_heard rfl (Or.inl rfl) (by decide) (by decide) fun φ t0 mφ => ⟨_, ?sem, fun g cdv A out s H E hr act => (jss_cons (js_set (i := 1) sc_heard.nd rfl (Or.inl rfl) je_non)
    (jss_cons (js_set (i := 2) sc_heard.nd rfl (Or.inl rfl) je_non)
    (jss_cons (js_try (i := 3) (j := 1) rfl rfl rfl sc_heard.nd rfl rfl rfl rfl ⟨by rfl, by decide, .inl T.mx_HeadsError⟩ T.em_HeadsError (by decide) (by decide) (Nat.le_of_ble_eq_true rfl) (fun W' pn xe tk => (jss_one (js_set (i := 2) sc_heard.nd rfl (Or.inl rfl) (act _ _ _ _ _ tk)))))
    (jss_cons (js_if (jt_val (je_b (c_isi T.wc) (by rfl) T.n_isinstance (by decide +kernel) (ja_cons (je_var 1) (ja_cons (je_cls 3 (by rfl) T.mx_BadItem) ja_nil)))) (jss_one (js_ret (je_tup (ja_cons je_str (ja_cons (je_xg T.xf_BadItem T.na_BadItem_part (je_var 1)) ja_nil))))) jss_nil)
    (jss_cons (js_if (jt_val (je_b (c_isi T.wc) (by rfl) T.n_isinstance (by decide +kernel) (ja_cons (je_var 1) (ja_cons (je_cls 4 (by rfl) T.mx_BadPlace) ja_nil)))) (jss_one (js_ret (je_tup (ja_cons je_str (ja_cons (je_xg T.xf_BadPlace T.na_BadPlace_at (je_var 1)) ja_nil))))) jss_nil)
    (jss_cons (js_if (jt_val (je_b (c_isi T.wc) (by rfl) T.n_isinstance (by decide +kernel) (ja_cons (je_var 1) (ja_cons (je_cls 5 (by rfl) T.mx_Disordered) ja_nil)))) (jss_one (js_ret (je_tup (ja_cons je_str (ja_cons (je_xg T.xf_Disordered T.na_Disordered_at (je_var 1)) ja_nil))))) jss_nil)
    (jss_cons (js_if (jt_val (je_b (c_isi T.wc) (by rfl) T.n_isinstance (by decide +kernel) (ja_cons (je_var 1) (ja_cons (je_cls 6 (by rfl) T.mx_TooMany) ja_nil)))) (jss_one (js_ret (je_tup (ja_cons je_str (ja_cons (je_xg T.xf_TooMany T.na_TooMany_most (je_var 1)) ja_nil))))) jss_nil)
    (jss_one (js_ret (je_if (jt_cmp o_is (je_var 1) je_non (nomark _)) (je_lst (ja_cons (je_var 2) ja_nil)) (je_tup (ja_cons je_str (ja_cons je_int ja_nil)))))))))))))⟩
  case sem =>
    intro s Q E k
    walk_at "mm"
    refine hP.of (mφ _ _ _ _ _ ?_ ?_ k)
    · intro t s1 k1
      walk_at "mm"
      exact k1
    · rintro er s1 ⟨t, hr, k1⟩
      rcases hr with ⟨v, rfl, rfl⟩ | ⟨v, rfl, rfl⟩ | ⟨v, rfl, rfl⟩ | ⟨v, rfl, rfl⟩
      all_goals walk_at "mm"
      all_goals exact k1
theorem fn_told (T : Txt K w mg cl base) : ∀ {x : Str} {f : Addr} {fd : FuncData}, C8.Fun K x "_law_told" s_told f fd → FnG P w K mg base 3 f fd ["_law_listed"] (spM K cl F_told) := by
  refine fnM (k := 2) (N := N_told) sc_told ?len (fun f cdv A out s H E hr => (jss_one (js_ret (je_lc (own := [("_law_item", 1)]) (by rfl) sc_told.nd (ji_seq (je_var 0)) (blkOk_by (own := [("_law_item", 1)]) (N := N_told) (sc := C8.fnScope s_told) (by decide +kernel)) (fun _ _ _ _ _ => (pg_name (i := 1) sc_told.nd rfl (Or.inl rfl))) (gt_name (i := 1) (by decide))  (fun _ _ _ _ _ => (je_tup (ja_cons (je_fld T.fld_rank (je_var 1)) (ja_cons (je_fld T.fld_name (je_var 1)) ja_nil)))))))) ?sem
  case len => rintro ts s Q E ⟨_, rfl, _⟩; rfl
  case sem =>
    rintro ts s Q E ⟨ps, rfl, hl, k⟩
    walk_at "mm"
    refine lc_map (fun t => match t with | .obj _ [(_, x), (_, y)] => .tup [x, y] | t => t) ?_ (by simp; omega) ?_ trivial
    · intro t ht Q' k'
      obtain ⟨p, _, rfl⟩ := List.mem_map.mp ht
      unfold itm
      walk_at "mm"
      exact k'
    rw [List.map_map]
    exact k
theorem ok_told (T : Txt K w mg cl base) : CalM P w K mg base cl 3 "_law_told" F_told [] := calOf T.d_told (fun _ _ _ => .nil) (fn_told T)
theorem fn_pairs (T : Txt K w mg cl base) : ∀ {x : Str} {f : Addr} {fd : FuncData}, C8.Fun K x "_law_pairs" s_pairs f fd → FnG P w K mg base 9 f fd ["_law_pen_here", "_law_most"] (spM K cl F_pairs) := by
  refine fnM (k := 8) (N := N_pairs) sc_pairs ?len (fun f cdv A out s H E hr => (jss_cons (js_set (i := 2) sc_pairs.nd rfl (Or.inl rfl) (je_call Tw.tk_cx (ok_pick T) hr (by decide) (by rfl) (ja_cons (je_var 0) (ja_cons (je_lst (ja_cons je_int (ja_cons (je_neg je_int) (ja_cons je_int (ja_cons (je_neg (je_op o_pow je_int je_int)) (ja_cons (je_op o_pow je_int je_int) ja_nil)))))) ja_nil))))
    (jss_cons (js_set (i := 3) sc_pairs.nd rfl (Or.inl rfl) (je_lstC ja_nil))
    (jss_cons (js_for (L2.passes_of rfl) rfl (ji_range1 (by rfl) T.n_range (ja_cons (je_call Tw.tk_cx (ok_draw T) hr (by decide) (by rfl) (ja_cons (je_var 0) (ja_cons (je_op o_add (je_var 1) je_int) ja_nil))) ja_nil)) (jg_name (i := 4) sc_pairs.nd rfl (Or.inl rfl))
      (jss_cons (js_set (i := 2) sc_pairs.nd rfl (Or.inl rfl) (je_op o_add (je_var 2) (je_call Tw.tk_cx (ok_pick T) hr (by decide) (by rfl) (ja_cons (je_var 0) (ja_cons (je_lst (ja_cons je_int (ja_cons je_int (ja_cons je_int (ja_cons je_int (ja_cons je_int (ja_cons je_int (ja_cons (je_op o_pow je_int je_int) ja_nil)))))))) ja_nil)))))
      (jss_one (js_expr (je_lm lm_append PySem.F.slot_list_append PySem.F.type_list_append (je_var 3) (ja_cons (je_tup (ja_cons (je_var 2) (ja_cons (je_call Tw.tk_cx (ok_pick T) hr (by decide) (by rfl) (ja_cons (je_var 0) (ja_cons (je_lst (ja_cons je_str (ja_cons je_str (ja_cons je_str (ja_cons je_str (ja_cons je_str (ja_cons je_str ja_nil))))))) ja_nil))) ja_nil))) ja_nil))))))
    (jss_one (js_retF (je_var 3))))))) ?sem
  case len => rintro ts s Q E ⟨_, rfl, _⟩; rfl
  case sem =>
    rintro ts s Q E ⟨m, rfl, hm, hn, k⟩
    walk_at "mm"
    refine hM.of ⟨_, rfl, by omega, _, rfl, by simp, by simp, fun t ht => ?_⟩
    obtain ⟨r0, rfl, r1, r2⟩ : ∃ r : Int, t = .int r ∧ -100000000000000000000000000000 ≤ r ∧ r ≤ 100000000000000000000000000000 := by
      simp only [List.mem_cons, List.not_mem_nil, or_false] at ht
      rcases ht with rfl | rfl | rfl | rfl | rfl
      all_goals exact ⟨_, rfl, by omega, by omega⟩
    walk_at "mm"
    intro a ha
    refine use_drawH (by omega) (by omega) (by simp only [S.put_pen, S.pn_pen]; omega) fun j j0 j1 => ?_
    walk_at "mm"
    refine ⟨⟨by omega, by omega⟩, ?_⟩
    refine for_ind (fun pre post τ s' => ∃ (ps : List Pr) (r : Int) (x4 : Option Mr.T) (n : Nat), s' = (s.pn n).put a (.lst (ps.map pr)) ∧ n ≤ s.pen + 2 + 2 * pre.length ∧ ps.length = pre.length ∧ pre.length + post.length = j.toNat ∧ ps.Pairwise (fun a b => a.1 ≤ b.1) ∧ (∀ p ∈ ps, -100000000000000000000000000000 ≤ p.1 ∧ p.1 ≤ r ∧ nameB (.str p.2) = true) ∧ -100000000000000000000000000000 ≤ r ∧ r ≤ 100000000000000000000000000000 + 1000000000 * pre.length ∧ τ = [some .pen, some (.int m), some (.int r), some (.cell a), x4]) ?_ (fun _ _ _ _ _ => trivial) ?_ ?_
    · exact ⟨[], r0, none, s.pen + 1 + 1, rfl, by simp, rfl, by rw [rng_len]; simp, List.Pairwise.nil, by simp, r1, by simp; omega, rfl⟩
    · rintro pre t post τ s' N e ⟨ps, r, x4, n, rfl, hn', hl, hj, hpw, hb, b1, b2, rfl⟩ k'
      rw [List.length_cons] at hj
      walk_at "mm"
      refine hM.of ⟨_, rfl, by simp only [S.put_pen, S.pn_pen]; omega, _, rfl, by simp, by simp, fun t ht => ?_⟩
      obtain ⟨d, rfl, d1, d2⟩ : ∃ d : Int, t = .int d ∧ 0 ≤ d ∧ d ≤ 1000000000 := by
        simp only [List.mem_cons, List.not_mem_nil, or_false] at ht
        rcases ht with rfl | rfl | rfl | rfl | rfl | rfl | rfl
        all_goals exact ⟨_, rfl, by omega, by omega⟩
      walk_at "mm"
      refine hM.of ⟨_, rfl, by simp only [S.put_pen, S.pn_pen]; omega, _, rfl, by simp, by simp, fun t ht => ?_⟩
      obtain ⟨z, rfl, hz⟩ : ∃ z : Str, t = .str z ∧ nameB (.str z) = true := by
        simp only [List.mem_cons, List.not_mem_nil, or_false] at ht
        rcases ht with rfl | rfl | rfl | rfl | rfl | rfl
        all_goals exact ⟨_, rfl, by decide +kernel⟩
      walk_at "mm"
      refine ⟨by simp at hj ⊢; omega, k' _ _ ⟨ps ++ [(r + d, z)], r + d, _, n + 1 + 1, by rw [List.map_append]; rfl, by simp; omega, by simp [hl], by simp; omega, ?_, ?_, by omega, by simp; omega, rfl⟩⟩
      · rw [List.pairwise_append]
        refine ⟨hpw, by simp, fun x hx y hy => ?_⟩
        rw [List.mem_singleton] at hy
        subst hy
        have := hb x hx
        show x.1 ≤ r + d
        omega
      · intro p hp
        rcases List.mem_append.mp hp with h | h
        · have := hb p h
          exact ⟨this.1, by omega, this.2.2⟩
        · rw [List.mem_singleton] at h
          subst h
          exact ⟨by show _ ≤ r + d; omega, Int.le_refl _, hz⟩
    · rintro τ s' ⟨ps, r, x4, n, rfl, hn', hl, hj, hpw, hb, b1, b2, rfl⟩
      walk_at "mm"
      rw [S.del_put (by exact ha)]
      refine k ps n (by rw [hl]; simp at hj; omega) ⟨fun p hp => ?_, fl_of hpw⟩ (by simp at hj; omega)
      have := hb p hp
      simp at hj
      exact ⟨by omega, by omega, this.2.2⟩
theorem ok_pairs (T : Txt K w mg cl base) : CalM P w K mg base cl 9 "_law_pairs" F_pairs [] := calOf T.d_pairs (fun _ _ _ => .nil) (fn_pairs T)
theorem fn_values (T : Txt K w mg cl base) : ∀ {x : Str} {f : Addr} {fd : FuncData}, C8.Fun K x "_law_values" s_values f fd → FnG P w K mg base 12 f fd ["_law_pen_here", "_law_pairs_here"] (spM K cl F_values) := by
  refine fnM (k := 11) (N := N_values) sc_values ?len (fun f cdv A out s H E hr => (jss_cons (js_set (i := 2) sc_values.nd rfl (Or.inl rfl) (je_lstC ja_nil))
    (jss_cons (js_for (L2.passes_of rfl) rfl (ji_seq (je_var 1)) (jg_tup (n := 2) (by rfl) (jgs_cons (jg_name (i := 3) sc_values.nd rfl (Or.inl rfl)) (jgs_cons (jg_name (i := 4) sc_values.nd rfl (Or.inl rfl)) jgs_nil)))
      (jss_one (js_expr (je_lm lm_append PySem.F.slot_list_append PySem.F.type_list_append (je_var 2) (ja_cons (je_if (JW.jt (jw_and (jt_cmp (o_eq hr) (je_var 4) je_str (nomark _)) (jw_and1 (jt_cmp (o_eq hr) (je_call Tw.tk_cx (ok_draw T) hr (by decide) (by rfl) (ja_cons (je_var 0) (ja_cons je_int ja_nil))) je_int (nomark _))))) (je_var 3) (je_mk true Tw.tk_cx (mk_Iinit T) hr (by decide) (by rfl) (ja_cons (je_var 3) (ja_cons (je_var 4) ja_nil)))) ja_nil)))))
    (jss_one (js_retF (je_var 2)))))) ?sem
  case len => rintro ts s Q E ⟨_, _, rfl, _⟩; rfl
  case sem =>
    rintro ts s Q E ⟨ps, B, rfl, hl, ⟨hok, _⟩, hB, hn, k⟩
    walk_at "mm"
    intro a ha
    refine for_ind (fun pre post τ s' => ∃ (qs : List Pr) (xs : List Mr.T) (x3 x4 : Option Mr.T) (n : Nat), s' = (s.pn n).put a (.lst xs) ∧ pre = qs.map pr ∧ Vals' xs qs ∧ n ≤ s.pen + pre.length ∧ pre.length + post.length = ps.length ∧ τ = [some .pen, some (.lst (ps.map pr)), some (.cell a), x3, x4]) ?_ (fun _ _ _ _ _ => trivial) ?_ ?_
    · exact ⟨[], [], none, none, s.pen, rfl, rfl, ⟨rfl, by simp⟩, by simp, by simp, rfl⟩
    · rintro pre t post τ s' N e ⟨qs, xs, x3, x4, n, rfl, rfl, hv, hn', hj, rfl⟩ k'
      rw [List.length_cons, List.length_map] at hj
      rw [List.length_map] at hn'
      have ht : t ∈ ps.map pr := by
        rw [e]
        exact List.mem_append_right _ List.mem_cons_self
      obtain ⟨⟨i, z⟩, hp, rfl⟩ := List.mem_map.mp ht
      have hxl : xs.length = qs.length := by
        have := congrArg List.length hv.1
        rwa [List.length_map, List.length_map] at this
      obtain ⟨b1, b2, hz⟩ := hok _ hp
      have okp : okP (i, z) := ⟨of_rank (by have : -B ≤ i := b1; omega) (by have : i ≤ B := b2; omega), hz⟩
      have step : ∀ y m', toP y = some (i, z) → okV y → m' ≤ s.pen + (qs.map pr).length + 1 → N [some .pen, some (.lst (ps.map pr)), some (.cell a), some (.int i), some (.str z)] ((s.pn m').put a (.lst (xs ++ [y]))) := by
        intro y m' hy hoy hm'
        refine k' _ _ ⟨qs ++ [(i, z)], xs ++ [y], _, _, m', rfl, by rw [List.map_append]; rfl, ⟨by rw [List.map_append, List.map_append, hv.1, List.map_singleton, hy]; rfl, fun x hx => ?_⟩, by simp at hm' ⊢; omega, by simp; omega, rfl⟩
        rcases List.mem_append.mp hx with h | h
        · exact hv.2 x h
        · rw [List.mem_singleton] at h
          subst h
          exact hoy
      have hlx : xs.length < 1000000 := by omega
      unfold pr
      walk_at "mm"
      refine hIte.by (fun h => ?_) fun h => ?_
      · have h := of_decide_eq_true h
        subst h
        walk_at "mm"
        refine use_drawH (by decide) (by decide) (by simp only [S.put_pen, S.pn_pen]; omega) fun j j0 j1 => ?_
        walk_at "mm"
        refine hIte.by (fun h2 => ?_) fun h2 => ?_
        · walk_at "mm"
          exact ⟨hlx, step _ (n + 1) (toP_int okp.1) (.inl rfl) (by simp; omega)⟩
        · walk_at "mm"
          refine fun x hx => mk_item hx okp ?_
          walk_at "mm"
          exact ⟨hlx, step _ (n + 1) rfl (.inr ⟨_, rfl⟩) (by simp; omega)⟩
      · walk_at "mm"
        refine fun x hx => mk_item hx okp ?_
        walk_at "mm"
        exact ⟨hlx, step _ n rfl (.inr ⟨_, rfl⟩) (by simp; omega)⟩
    · rintro τ s' ⟨qs, xs, x3, x4, n, rfl, hq, hv, hn', hj, rfl⟩
      walk_at "mm"
      rw [S.del_put (by exact ha)]
      have : ps = qs := by
        have inj : ∀ p q : Pr, pr p = pr q → p = q := fun p q h => by
          unfold pr at h
          simp at h
          exact Prod.ext h.1 h.2
        exact map_inj inj ps qs hq
      subst this
      exact k xs n hv (by simp at hn'; omega)
theorem ok_values (T : Txt K w mg cl base) : CalM P w K mg base cl 12 "_law_values" F_values [] := calOf T.d_values (fun _ _ _ => .nil) (fn_values T)
end
end M07

namespace M07
open PySem PySem.Spec PyProof.Rows L2 Tw Mr
/-! what a sum, a union and so on of two rows are: the plain law -/
def wd : Nat → Str
  | 0 => "sum" | 1 => "union" | 2 => "both" | 3 => "first" | _ => "one"
def chs (w : Nat) (ms ns : List Pr) : List Pr := match w with
  | 0 => ms ++ ns | 1 => ms ++ ns.drop ms.length | 2 => ms.take ns.length | 3 => ms.drop ns.length | _ => ms.drop ns.length ++ ns.drop ms.length
def fl (r : Int) (ps : List Pr) : List Pr := ps.filter fun p => decide (p.1 = r)
def stepB (w : Nat) (ps qs : List Pr) (found : List Pr) (t : Int) : List Pr := if found.getLast?.map (·.1) = some t then found else found ++ chs w (fl t ps) (fl t qs)
def allR (ps qs : List Pr) : List Int := sortI (ps.map (·.1) ++ qs.map (·.1))
def bagF (w : Nat) (ps qs : List Pr) : List Pr := (allR ps qs).foldl (stepB w ps qs) []
theorem chs_mem {w : Nat} {ms ns : List Pr} {p : Pr} (h : p ∈ chs w ms ns) : p ∈ ms ∨ p ∈ ns := by
  unfold chs at h
  split at h
  · exact List.mem_append.mp h
  · exact (List.mem_append.mp h).imp id List.mem_of_mem_drop
  · exact .inl (List.mem_of_mem_take h)
  · exact .inl (List.mem_of_mem_drop h)
  · exact (List.mem_append.mp h).imp List.mem_of_mem_drop List.mem_of_mem_drop
theorem chs_rank {w : Nat} {ps qs : List Pr} {t : Int} {p : Pr} (h : p ∈ chs w (fl t ps) (fl t qs)) : p.1 = t := by
  rcases chs_mem h with h | h
  all_goals exact of_decide_eq_true (List.mem_filter.mp h).2
theorem fold_mem {w : Nat} {ps qs : List Pr} {p : Pr} : ∀ (l : List Int) (found : List Pr), p ∈ l.foldl (stepB w ps qs) found → p ∈ found ∨ (p.1 ∈ l ∧ (p ∈ ps ∨ p ∈ qs))
  | [], _, h => .inl h
  | t :: l, found, h => by
    rcases fold_mem l _ h with h | ⟨h1, h2⟩
    · unfold stepB at h
      split at h
      · exact .inl h
      · rcases List.mem_append.mp h with h | h
        · exact .inl h
        · refine .inr ⟨?_, (chs_mem h).imp (fun z => (List.mem_filter.mp z).1) fun z => (List.mem_filter.mp z).1⟩
          rw [chs_rank h]
          exact List.mem_cons_self
    · exact .inr ⟨List.mem_cons_of_mem _ h1, h2⟩
theorem bag_mem {w : Nat} {ps qs : List Pr} {p : Pr} (h : p ∈ bagF w ps qs) : p ∈ ps ∨ p ∈ qs := by
  rcases fold_mem _ _ h with h | h
  · cases h
  · exact h.2
/-- the same rank again and again -/
theorem fold_rep {w : Nat} {ps qs found : List Pr} {t : Int} (h : ∀ p ∈ found, p.1 ≠ t) : ∀ n : Nat, (List.replicate (n + 1) t).foldl (stepB w ps qs) found = found ++ chs w (fl t ps) (fl t qs)
  | 0 => by
    show stepB w ps qs found t = _
    unfold stepB
    rw [if_neg]
    intro e
    obtain ⟨p, e1, e2⟩ := Option.map_eq_some_iff.mp e
    exact h p (List.mem_of_getLast? e1) e2
  | n + 1 => by
    rw [List.replicate_succ', List.foldl_append, fold_rep h n]
    show stepB w ps qs _ t = _
    unfold stepB
    rcases e : chs w (fl t ps) (fl t qs) with _ | ⟨c, cs⟩
    · rw [List.append_nil]
      split
      · rfl
      · rw [List.append_nil]
    · rw [if_pos]
      have e1 : (found ++ c :: cs).getLast? = some ((c :: cs).getLast (by simp)) := by
        rw [List.getLast?_append, List.getLast?_eq_some_getLast (by simp)]
        rfl
      rw [e1]
      refine congrArg some (chs_rank (w := w) (ps := ps) (qs := qs) ?_)
      rw [e]
      exact List.getLast_mem _
/-- of a list that ascends: what is let through by less, then the rest of what is let through by more -/
theorem filt_two {α : Type} {le : α → α → Prop} {p q : α → Bool} : ∀ {l : List α}, l.Pairwise le → (∀ x y, le x y → p y = true → p x = true) → (∀ x, p x = true → q x = true) → l.filter q = l.filter p ++ l.filter fun x => q x && !p x
  | [], _, _, _ => rfl
  | x :: r, h, dn, pq => by
    obtain ⟨h1, h2⟩ := List.pairwise_cons.mp h
    have ih := filt_two h2 dn pq
    by_cases hp : p x = true
    · rw [List.filter_cons_of_pos (pq x hp), List.filter_cons_of_pos hp, List.filter_cons_of_neg (by simp [hp]), ih]
      rfl
    · have none_ : r.filter p = [] := List.filter_eq_nil_iff.mpr fun y hy e => hp (dn x y (h1 y hy) e)
      rw [none_, List.nil_append] at ih
      rw [List.filter_cons_of_neg hp, none_, List.nil_append]
      by_cases hq : q x = true
      · rw [List.filter_cons_of_pos hq, List.filter_cons_of_pos (by simp [hq, hp]), ih]
      · rw [List.filter_cons_of_neg hq, List.filter_cons_of_neg (by simp [hq]), ih]
/-- ranks up to a bound -/
def upTo : Option Int → Int → Bool
  | none, _ => false
  | some r, x => decide (x ≤ r)
abbrev Asc (ps : List Pr) : Prop := ps.Pairwise fun a b => a.1 ≤ b.1
def done (b : Option Int) (ps : List Pr) : List Pr := ps.filter fun p => upTo b p.1
def rest (b : Option Int) (ps : List Pr) : List Pr := ps.filter fun p => !upTo b p.1
theorem upTo_dn {b : Option Int} {x y : Int} (h : x ≤ y) (e : upTo b y = true) : upTo b x = true := by
  cases b with
  | none => cases e
  | some r => exact decide_eq_true (Int.le_trans h (of_decide_eq_true e))
theorem split_at {b : Option Int} {ps : List Pr} (h : Asc ps) : ps = done b ps ++ rest b ps := by
  have := filt_two (p := fun p : Pr => upTo b p.1) (q := fun _ => true) h (fun x y le e => upTo_dn le e) (fun _ _ => rfl)
  simp only [Bool.true_and] at this
  rw [List.filter_eq_self.mpr (fun _ _ => rfl)] at this
  exact this
theorem drop_done {b : Option Int} {ps : List Pr} (h : Asc ps) : ps.drop (done b ps).length = rest b ps := by
  have := split_at (b := b) h
  calc ps.drop (done b ps).length = (done b ps ++ rest b ps).drop (done b ps).length := by rw [← this]
    _ = rest b ps := by simp
/-- r is the least rank that is left in both -/
structure Next (b : Option Int) (ps qs : List Pr) (r : Int) : Prop where
  l : ∀ p ∈ rest b ps, r ≤ p.1
  o : ∀ p ∈ rest b qs, r ≤ p.1
  is : (∃ p ∈ rest b ps, p.1 = r) ∨ ∃ p ∈ rest b qs, p.1 = r
theorem Next.not_up {b : Option Int} {ps qs : List Pr} {r : Int} (n : Next b ps qs r) : upTo b r = false := by
  rcases n.is with ⟨p, hp, rfl⟩ | ⟨p, hp, rfl⟩
  all_goals simpa using (List.mem_filter.mp hp).2
theorem Next.le_up {b : Option Int} {ps qs : List Pr} {r x : Int} (n : Next b ps qs r) (h : upTo b x = true) : x ≤ r := by
  have z := n.not_up
  cases b with
  | none => cases h
  | some c =>
    have h1 : x ≤ c := of_decide_eq_true h
    have h2 : ¬ r ≤ c := of_decide_eq_false z
    omega
/-- one more rank is done -/
theorem next_done {b : Option Int} {ps : List Pr} {r : Int} (h : Asc ps) (nu : upTo b r = false) (le : ∀ x, upTo b x = true → x ≤ r) (mn : ∀ p ∈ rest b ps, r ≤ p.1) : done (some r) ps = done b ps ++ fl r ps := by
  unfold done
  rw [filt_two (p := fun p : Pr => upTo b p.1) (q := fun p : Pr => upTo (some r) p.1) h (fun x y l e => upTo_dn l e) (fun x e => decide_eq_true (le _ e))]
  congr 1
  refine List.filter_congr fun p hp => ?_
  by_cases e : upTo b p.1 = true
  · have : ¬ p.1 = r := fun z => by rw [z, nu] at e; cases e
    rw [e, decide_eq_false this]
    simp
  · have e' : upTo b p.1 = false := by simpa using e
    have := mn p (List.mem_filter.mpr ⟨hp, by rw [e']; rfl⟩)
    rw [e']
    show (decide (p.1 ≤ r) && !false) = decide (p.1 = r)
    by_cases z : p.1 = r
    · simp [z]
    · rw [decide_eq_false (show ¬ p.1 ≤ r by omega), decide_eq_false z]
      rfl
/-- what the next step takes of a row -/
theorem take_next {b : Option Int} {ps : List Pr} {r : Int} (h : Asc ps) (nu : upTo b r = false) (le : ∀ x, upTo b x = true → x ≤ r) (mn : ∀ p ∈ rest b ps, r ≤ p.1) :
    (ps.take ((done b ps).length + (fl r ps).length)).drop (done b ps).length = fl r ps ∧ (ps.drop (done b ps).length).filter (fun p => decide (p.1 = r)) = fl r ps := by
  have s1 := split_at (b := some r) h
  rw [next_done h nu le mn] at s1
  refine ⟨?_, ?_⟩
  · rw [List.drop_take, Nat.add_sub_cancel_left, show ps.drop (done b ps).length = fl r ps ++ rest (some r) ps from ?_]
    · exact List.take_left' rfl
    · calc ps.drop (done b ps).length = (done b ps ++ fl r ps ++ rest (some r) ps).drop (done b ps).length := by rw [← s1]
        _ = _ := by rw [List.append_assoc]; simp
  · rw [drop_done h]
    unfold rest fl
    rw [List.filter_filter]
    refine List.filter_congr fun p _ => ?_
    by_cases z : p.1 = r
    · simp [z, nu]
    · simp [z]
theorem allR_mem {ps qs : List Pr} {x : Int} : x ∈ allR ps qs ↔ (∃ p ∈ ps, p.1 = x) ∨ ∃ p ∈ qs, p.1 = x := by
  unfold allR
  rw [(sortI_perm _).mem_iff, List.mem_append, List.mem_map, List.mem_map]
/-- the rows up to a bound -/
def upB (w : Nat) (b : Option Int) (ps qs : List Pr) : List Pr := ((allR ps qs).filter (upTo b)).foldl (stepB w ps qs) []
theorem up_none (w : Nat) (ps qs : List Pr) : upB w none ps qs = [] := by
  unfold upB
  rw [List.filter_eq_nil_iff.mpr (fun _ _ => by simp [upTo])]
  rfl
theorem up_step {w : Nat} {b : Option Int} {ps qs : List Pr} {r : Int} (n : Next b ps qs r) : upB w (some r) ps qs = upB w b ps qs ++ chs w (fl r ps) (fl r qs) := by
  unfold upB
  rw [filt_two (l := allR ps qs) (le := (· ≤ ·)) (p := upTo b) (q := upTo (some r)) (sortI_ord _) (fun x y l e => upTo_dn l e) (fun x e => decide_eq_true (n.le_up e)), List.foldl_append]
  have only : ∀ x ∈ (allR ps qs).filter (fun x => upTo (some r) x && !upTo b x), x = r := by
    intro x hx
    obtain ⟨h1, h2⟩ := List.mem_filter.mp hx
    rw [Bool.and_eq_true, Bool.not_eq_true'] at h2
    have le : x ≤ r := of_decide_eq_true h2.1
    have ge : r ≤ x := by
      rcases allR_mem.mp h1 with ⟨p, hp, rfl⟩ | ⟨p, hp, rfl⟩
      · exact n.l p (List.mem_filter.mpr ⟨hp, by rw [h2.2]; rfl⟩)
      · exact n.o p (List.mem_filter.mpr ⟨hp, by rw [h2.2]; rfl⟩)
    omega
  have isr : r ∈ (allR ps qs).filter (fun x => upTo (some r) x && !upTo b x) := by
    refine List.mem_filter.mpr ⟨allR_mem.mpr ?_, ?_⟩
    · exact n.is.imp (fun ⟨p, hp, e⟩ => ⟨p, (List.mem_filter.mp hp).1, e⟩) fun ⟨p, hp, e⟩ => ⟨p, (List.mem_filter.mp hp).1, e⟩
    · rw [n.not_up]
      simp [upTo]
  have rep := List.eq_replicate_of_mem only
  rcases k : ((allR ps qs).filter (fun x => upTo (some r) x && !upTo b x)).length with _ | m
  · rw [List.length_eq_zero_iff.mp k] at isr
    cases isr
  · rw [k] at rep
    rw [rep]
    refine fold_rep (fun p hp e => ?_) m
    rcases fold_mem _ _ hp with h | h
    · cases h
    · have := (List.mem_filter.mp h.1).2
      rw [e, n.not_up] at this
      cases this
theorem up_all {w : Nat} {b : Option Int} {ps qs : List Pr} (h1 : rest b ps = []) (h2 : rest b qs = []) : upB w b ps qs = bagF w ps qs := by
  unfold upB bagF
  rw [List.filter_eq_self.mpr]
  intro x hx
  rcases allR_mem.mp hx with ⟨p, hp, rfl⟩ | ⟨p, hp, rfl⟩
  · simpa using List.filter_eq_nil_iff.mp h1 p hp
  · simpa using List.filter_eq_nil_iff.mp h2 p hp
theorem fold_asc {w : Nat} {ps qs : List Pr} : ∀ (l : List Int) (found : List Pr), l.Pairwise (· ≤ ·) → (∀ p ∈ found, ∀ t ∈ l, p.1 ≤ t) → Asc found → Asc (l.foldl (stepB w ps qs) found)
  | [], _, _, _, h => h
  | t :: l, found, hl, hb, h => by
    obtain ⟨h1, h2⟩ := List.pairwise_cons.mp hl
    refine fold_asc l _ h2 ?_ ?_
    · intro p hp u hu
      unfold stepB at hp
      split at hp
      · exact hb p hp u (List.mem_cons_of_mem _ hu)
      · rcases List.mem_append.mp hp with hp | hp
        · exact hb p hp u (List.mem_cons_of_mem _ hu)
        · rw [chs_rank hp]
          exact h1 u hu
    · unfold stepB
      split
      · exact h
      · refine List.pairwise_append.mpr ⟨h, ?_, fun p hp q hq => ?_⟩
        · refine List.pairwise_iff_getElem.mpr fun i j hi hj _ => ?_
          rw [chs_rank (List.getElem_mem hi), chs_rank (List.getElem_mem hj)]
          exact Int.le_refl _
        · rw [chs_rank hq]
          exact hb p hp t List.mem_cons_self
theorem bag_asc (w : Nat) (ps qs : List Pr) : Asc (bagF w ps qs) := fold_asc _ _ (sortI_ord _) (fun _ h => nomatch h) .nil
theorem asc_of {ps : List Pr} (h : FL ps = []) : Asc ps := by
  have step : ∀ k (hk : k + 1 < ps.length), ps[k].1 ≤ ps[k + 1].1 := by
    intro k hk
    have z := List.filter_eq_nil_iff.mp h (.int (1 + (k : Int))) (List.mem_map.mpr ⟨k, List.mem_range.mpr (by omega), rfl⟩)
    have z : ¬ decide (rk ps (1 + (k : Int)).toNat < rk ps ((1 + (k : Int)).toNat - 1)) = true := z
    rw [decide_eq_true_eq, show (1 + (k : Int)).toNat = k + 1 by omega, Nat.add_sub_cancel] at z
    unfold rk at z
    rw [List.getD_eq_getElem?_getD, List.getD_eq_getElem?_getD, List.getElem?_eq_getElem hk, List.getElem?_eq_getElem (show k < ps.length by omega)] at z
    exact Int.not_lt.mp z
  refine List.pairwise_iff_getElem.mpr fun i j hi hj lt => ?_
  obtain ⟨d, rfl⟩ : ∃ d, j = i + 1 + d := ⟨j - i - 1, by omega⟩
  clear lt
  induction d with
  | zero => exact step i hj
  | succ d ih => exact Int.le_trans (ih (by omega)) (step (i + 1 + d) hj)
/-- the next rank, by the heads of what is left -/
theorem next_by {b : Option Int} {ps qs : List Pr} (hp : Asc ps) (hq : Asc qs) : 
    (∀ p A, rest b ps = p :: A → rest b qs = [] → Next b ps qs p.1) ∧ (∀ q B, rest b ps = [] → rest b qs = q :: B → Next b ps qs q.1) ∧
    ∀ p A q B, rest b ps = p :: A → rest b qs = q :: B → Next b ps qs (if p.1 ≤ q.1 then p.1 else q.1) := by
  have mp : ∀ {p A}, rest b ps = p :: A → ∀ x ∈ rest b ps, p.1 ≤ x.1 := fun e x hx => by
    have z : Asc (rest b ps) := hp.filter _
    rw [e] at z hx
    rcases List.mem_cons.mp hx with rfl | hx
    · exact Int.le_refl _
    · exact (List.pairwise_cons.mp z).1 x hx
  have mq : ∀ {p A}, rest b qs = p :: A → ∀ x ∈ rest b qs, p.1 ≤ x.1 := fun e x hx => by
    have z : Asc (rest b qs) := hq.filter _
    rw [e] at z hx
    rcases List.mem_cons.mp hx with rfl | hx
    · exact Int.le_refl _
    · exact (List.pairwise_cons.mp z).1 x hx
  refine ⟨fun p A e1 e2 => ⟨mp e1, by simp [e2], .inl ⟨p, by rw [e1]; exact List.mem_cons_self, rfl⟩⟩, fun q B e1 e2 => ⟨by simp [e1], mq e2, .inr ⟨q, by rw [e2]; exact List.mem_cons_self, rfl⟩⟩, fun p A q B e1 e2 => ?_⟩
  by_cases le : p.1 ≤ q.1
  · rw [if_pos le]
    exact ⟨mp e1, fun x hx => Int.le_trans le (mq e2 x hx), .inl ⟨p, by rw [e1]; exact List.mem_cons_self, rfl⟩⟩
  · rw [if_neg le]
    exact ⟨fun x hx => by have := mp e1 x hx; omega, mq e2, .inr ⟨q, by rw [e2]; exact List.mem_cons_self, rfl⟩⟩
theorem rowOf.asc {xs : List Mr.T} {Q : List Pr → Prop} {E : Er → Prop} (h : rowOf xs Q E) : rowOf xs (fun ps => Asc ps ∧ ps.length ≤ 200 ∧ Q ps) E := by
  unfold rowOf at h ⊢
  split at h
  · exact h
  · split at h
    · exact h
    · rename_i e
      split at h
      · rename_i hl
        rw [if_pos hl]
        exact ⟨asc_of e, hl, h⟩
      · rename_i hl
        rw [if_neg hl]
        exact h
theorem done_none (ps : List Pr) : done none ps = [] := List.filter_eq_nil_iff.mpr fun _ _ => by simp [upTo]
theorem done_len {b : Option Int} {ps : List Pr} (h : Asc ps) : (done b ps).length + (rest b ps).length = ps.length := by
  have := congrArg List.length (split_at (b := b) h)
  rw [List.length_append] at this
  exact this.symm
theorem chs_len (w : Nat) (ms ns : List Pr) : (chs w ms ns).length ≤ ms.length + ns.length := by
  unfold chs
  split <;> simp only [List.length_append, List.length_drop, List.length_take] <;> omega
end M07

namespace M07
open PySem PySem.Spec PyProof.Rows L2 Tw Mr
local macro_rules | `(tactic| walk_at "mm") => `(tactic| simp -implicitDefEqProofs only [↓Mr.hold_cM, ↓Mr.hold_ite, ↓Mr.hold_for, ↓Mr.hold_lc, ↓Mr.hold_wh, ↓Mr.hold_act, ↓Mr.fRetC.eq_1, ↓Mr.hold_lam, ↓Mr.hold_lcX, ↓Mr.fLcX.eq_1, ↓Mr.fAug.eq_1, ↓Mr.gInp.eq_1, ↓Mr.gBag.eq_1, Mr.S.sq?, ↓Mr.iEnumA.eq_1, Mr.S.enumA?, Mr.sortO, Mr.intsOf, ↓Mr.fStar.eq_1, ↓Mr.fSetO.eq_1, ↓Mr.mCase.eq_1, ↓Mr.fMatch.eq_1, ↓Mr.iEnum.eq_1, Mr.S.enum?, Mr.maxO,  Mr.hIte_true, Mr.hIte_false, ↓Mr.startT.eq_1, ↓Mr.endsM.eq_1, ↓Mr.lawEnds.eq_1, ↓Mr.fSeq.eq_1, ↓Mr.fSkip.eq_1, ↓Mr.fRet.eq_1, ↓Mr.fRetN.eq_1, ↓Mr.fRetF.eq_1, ↓Mr.fDrop.eq_1, ↓Mr.fSet.eq_1, ↓Mr.fAsg.eq_1, ↓Mr.fPar.eq_1, ↓Mr.fFldS.eq_1, ↓Mr.fIfS.eq_1, ↓Mr.fRaise.eq_1, ↓Mr.fTry.eq_1, ↓Mr.fBrk.eq_1, ↓Mr.fCnt.eq_1, ↓Mr.gN.eq_1, ↓Mr.gT.eq_1, ↓Mr.gsNil.eq_1, ↓Mr.gsCons.eq_1, ↓Mr.xk,
  ↓Mr.fVar.eq_1, ↓Mr.fC.eq_1, ↓Mr.f2.eq_1, ↓Mr.f3.eq_1, ↓Mr.g2.eq_1, ↓Mr.kB.eq_1, ↓Mr.fTest.eq_1, ↓Mr.fTru.eq_1, ↓Mr.fAnd.eq_1, ↓Mr.fOr.eq_1, ↓Mr.fNot.eq_1, ↓Mr.fAndV.eq_1, ↓Mr.fOrV.eq_1, ↓Mr.fNotV.eq_1, ↓Mr.fIf.eq_1, ↓Mr.fUn.eq_1, ↓Mr.onO.eq_1, Mr.onB_bl, Mr.onB_non, Mr.onB_int, Mr.onB_str, Mr.onB_lst, Mr.onB_tup, Mr.onB_dct, ↓Mr.fNil.eq_1, ↓Mr.fCons.eq_1, ↓Mr.fLst.eq_1, ↓Mr.fTup.eq_1, ↓Mr.fLstC.eq_1, ↓Mr.fDct0.eq_1, ↓Mr.fDctC.eq_1, ↓Mr.fPar3.eq_1, ↓Mr.fSm0.eq_1, ↓Mr.fSm1.eq_1, ↓Mr.onS.eq_1, Mr.isS, Mr.eqF, List.all_cons, List.all_nil, List.any_cons, List.any_nil, Mr.upperO, Mr.lowerO, Mr.partO, Mr.isiT, Mr.tys, Mr.kkAny, Mr.reprX, Mr.S.datX, Mr.T.datX, Mr.datsX, Mr.datsK, Mr.kD, ↓Mr.fCB.eq_1, ↓Mr.fCall.eq_1, ↓Mr.fMk.eq_1, ↓Mr.fMkK.eq_1, ↓Mr.fMt.eq_1, ↓Mr.fMtK.eq_1, ↓Mr.fCallK.eq_1, ↓Mr.fErr.eq_1, ↓Mr.fStrO.eq_1, ↓Mr.fJs.eq_1, ↓Mr.jsT, ↓Mr.fSl.eq_1, ↓Mr.oNone.eq_1, ↓Mr.oSome.eq_1, ↓Mr.fLM.eq_1, ↓Mr.onL.eq_1,
  Mr.addO, Mr.intO, Mr.mulO, Mr.ltO, Mr.leO, Mr.gtO, Mr.geO, Mr.eqO, Mr.neO, Mr.isO, Mr.isnO, Mr.T.isN, Mr.negO, Mr.ixO, Mr.lenO, Mr.absO, Mr.intO1, Option.isSome_some, Option.isSome_none, Mr.S.put_pn, Mr.strO, Mr.strLO, Mr.listO, Mr.tupO, Mr.reprO, Mr.isiO, Mr.fldO, Mr.xgO, Mr.fmtO, Mr.joinO, Mr.slO, Mr.inO', Mr.ninO', Mr.inB, Mr.T.flat, Mr.S.put_same, Mr.S.put_put, Mr.S.pn_on, Mr.S.pn_pen, Mr.S.put_pen, Mr.S.pn_pn, ↓Mr.fLc.eq_1, ↓Mr.fYes.eq_1, ↓Mr.iSeq.eq_1, ↓Mr.iRange1.eq_1, ↓Mr.iRange2.eq_1, Mr.S.its?, Mr.okAt, Mr.wipeT, ↓Mr.fFor.eq_1, Mr.allO, Mr.anyO, ↓Mr.doneM.eq_1, Option.map_some, Option.map_none,  Mr.appO, Mr.revO, Mr.clrO, ↓Mr.gEqOwn.eq_1, ↓Mr.gOwn2.eq_1, ↓Mr.gOwnI_row, ↓Mr.gOwnR_row, ↓Mr.kObj.eq_1, ↓Mr.fNegO.eq_1, ↓Mr.fOwnC.eq_1, ↓Mr.fPro.eq_1, ↓Mr.gInK.eq_1, ↓Mr.gIxK.eq_1, ↓Mr.iKeyK.eq_1, Mr.eqE, Bool.true_xor, Bool.false_xor, ↓Mr.gNeOwn.eq_1,
  Mr.S.lst?, Mr.S.seq?, Mr.S.ty?, Mr.S.obj?, Mr.S.dat, Mr.T.dat, Mr.dats, Mr.atI_0, Mr.atI_1, Mr.atI_2, Mr.atI_3, Mr.atI_4, Mr.atI_5, Mr.atI_6, Mr.atI_7, Mr.atI_8, Mr.atI_9, Mr.atI_10, Mr.atI_11, Mr.atI_12, Mr.atI_13, PyData.eqv, PyData.eqvAll, Bool.and_true, Bool.true_and, beq_self_eq_true, Bool.and_self, decide_true, decide_false, Mr.okC,
  List.map_cons, List.map_nil, List.length_cons, List.length_nil, List.cons_append, List.nil_append, List.append_nil, List.replicate_succ, List.replicate_zero, List.getElem?_cons_zero, List.getElem?_cons_succ, List.set_cons_zero, List.set_cons_succ, List.getD_cons_zero, List.getD_cons_succ, L2.CPow, Int.reduceToNat, Int.reducePow, Int.reduceAbs, Int.reduceLE, Int.reduceLT, Int.reduceSub, Int.reduceAdd, Int.reduceNeg, Int.reduceMul, Int.reduceEq, Nat.reducePow, Nat.sub_self, Nat.reduceSub, Nat.reduceAdd, Nat.reduceLeDiff, Nat.reduceLT, Nat.reduceEqDiff, Nat.zero_add, Nat.add_zero, Nat.add_one_sub_one, Nat.sub_zero, Nat.zero_sub,
  true_and, and_true, ite_true, ite_false, if_true, if_false, Bool.false_eq_true, Bool.true_eq_false, ↓reduceIte, Bool.not_true, Bool.not_false, List.zip_cons_cons, List.zip_nil_left, List.zip_nil_right, M07.kkA, M07.lkA, M07.insL, M07.excL, List.mem_cons, List.not_mem_nil, or_false, or_true, true_or, false_or, reduceCtorEq, Bool.not_eq_true, Bool.not_eq_false, Bool.not_not])
local macro_rules | `(tactic| walk_at "sh") => `(tactic| exact Mr.sh (by first | (simp only [Mr.niceD, Mr.niceAll, Bool.and_true, Bool.and_eq_true, true_and, and_true]; done) | (simp only [Mr.niceD, Mr.niceAll, Bool.and_true, Bool.and_eq_true, true_and, and_true]; decide +kernel) | simp [Mr.niceD, Mr.niceAll, *]) (by simp [PyData.depth, PyData.depthAll]))
local macro_rules | `(tactic| walk_at "rp") => `(tactic| exact Mr.rp (by first | (simp only [Mr.niceD, Mr.niceAll, Bool.and_true, Bool.and_eq_true, true_and, and_true]; done) | (simp only [Mr.niceD, Mr.niceAll, Bool.and_true, Bool.and_eq_true, true_and, and_true]; decide +kernel) | simp [Mr.niceD, Mr.niceAll, *]) (by simp [PyData.depth, PyData.depthAll]) (by simp only [Mr.wD, Mr.wAll]; first | decide | omega))

def F_behind_block : FD := fun ts s Q _ => ∃ (ps : List Pr) (a : Nat) (r : Int), ts = [.lst (ps.map itm), .int a, .int r] ∧ ps.length ≤ 1000 ∧ Q (.int ((a + ((ps.drop a).filter fun p => decide (p.1 = r)).length : Nat) : Int)) s
def F_chosen : FD := fun ts s Q _ => ∃ (w : Nat) (ms ns : List Pr), ts = [.str (wd w), .lst (ms.map itm), .lst (ns.map itm)] ∧ ms.length ≤ 1000 ∧ ns.length ≤ 1000 ∧ Q (.lst ((chs w ms ns).map itm)) s
/-- bag(word, one, other) -/
def bagOf (s : S) (w : Nat) (xs ys : List Mr.T) (Q : List Pr → Prop) (E : Er → Prop) : Prop :=
  rowOf xs (fun ps => rowOf ys (fun qs => if (bagF w ps qs).length ≤ 200 then Q (bagF w ps qs) else E ⟨6, [("most", .int 200)]⟩) E) E
def F_bag : FD := fun ts s Q E => ∃ (w : Nat) (one other : Mr.T) (xs ys : List Mr.T), ts = [.str (wd w), one, other] ∧ src s one xs ∧ src s other ys ∧ (∀ x ∈ xs, okV x) ∧ (∀ x ∈ ys, okV x) ∧ xs.length ≤ 1000 ∧ ys.length ≤ 1000 ∧
  bagOf s w xs ys (fun ps => ∀ r, s.on r = none → Q (.cell r) (s.put r (rowC ps))) (fun er => E er s)
theorem at_rest {b : Option Int} {ps : List Pr} {p : Pr} {A : List Pr} (h : Asc ps) (e : rest b ps = p :: A) : atI (ps.map itm) ((done b ps).length : Nat) = some (itm p) := by
  have s1 := split_at (b := b) h
  have hl := done_len (b := b) h
  rw [e, List.length_cons] at hl
  rw [atI_ps (f := itm) (by omega) (by omega), Int.toNat_natCast]
  congr 1
  rw [List.getD_eq_getElem?_getD]
  have : ps[(done b ps).length]? = some p := by
    calc ps[(done b ps).length]? = (done b ps ++ rest b ps)[(done b ps).length]? := by rw [← s1]
      _ = some p := by rw [e]; simp
  rw [this]
  rfl
section
variable {w : World} {K : PySem.W.Frag} {mg : Str → Option Value} {base : Heap} {cl : CL}
theorem fn_behind_block (T : Txt K w mg cl base) : ∀ {x : Str} {f : Addr} {fd : FuncData}, C8.Fun K x "behind_block" s_behind_block f fd → FnG P w K mg base 3 f fd ["items", "at", "rank"] (spM K cl F_behind_block) := by
  refine fnM (k := 2) (N := N_behind_block) sc_behind_block ?len (fun f cdv A out s H E hr => (jss_one (js_ret (je_op o_add (je_var 1) (je_b c_len (by rfl) T.n_len (by decide +kernel) (ja_cons (je_lcIf (own := [("item", 3)]) (by rfl) sc_behind_block.nd (ji_seq (je_slice (je_var 0) (jo_some (je_var 1)) jo_none)) (blkOk_by (own := [("item", 3)]) (N := N_behind_block) (sc := C8.fnScope s_behind_block) (by decide +kernel)) (fun _ _ _ _ _ => (pg_name (i := 3) sc_behind_block.nd rfl (Or.inl rfl))) (gt_name (i := 3) (by decide)) (fun _ _ _ _ _ => (jt_cmp (o_eq hr) (je_fld T.fld_rank (je_var 3)) (je_var 2) (nomark _))) (fun _ _ _ _ _ => (je_var 3))) ja_nil)))))) ?sem
  case len => rintro ts s Q E ⟨_, _, _, rfl, _⟩; rfl
  case sem =>
    rintro ts s Q E ⟨ps, a, r, rfl, hl, k⟩
    walk_at "mm"
    rw [cut_from (by omega), Int.toNat_natCast, ← List.map_drop]
    refine lc_filter (fun t => match t with | .obj _ ((_, .int i) :: _) => decide (i = r) | _ => false) (fun t => t) ?_ ?_ (by simp; omega) ?_ trivial
    · intro t ht Q' k'
      obtain ⟨p, _, rfl⟩ := List.mem_map.mp ht
      unfold itm
      walk_at "mm"
      exact k'
    · intro t ht _ Q' k'
      walk_at "mm"
      exact k'
    rw [List.nil_append, List.map_id', List.filter_map]
    walk_at "mm"
    rw [List.length_map, ← Int.natCast_add]
    exact k
theorem ok_behind_block (T : Txt K w mg cl base) : CalM P w K mg base cl 3 "behind_block" F_behind_block [] := calOf T.d_behind_block (fun _ _ _ => .nil) (fn_behind_block T)
theorem fn_chosen (T : Txt K w mg cl base) : ∀ {x : Str} {f : Addr} {fd : FuncData}, C8.Fun K x "chosen" s_chosen f fd → FnG P w K mg base 3 f fd ["word", "mine", "theirs"] (spM K cl F_chosen) := by
  refine fnM (k := 2) (N := N_chosen) sc_chosen ?len (fun f cdv A out s H E hr => (jss_cons (js_match (je_var 0) (jm_cons (jss_one (js_ret (je_op o_add (je_var 1) (je_var 2)))) (jm_cons (jss_one (js_ret (je_op o_add (je_var 1) (je_slice (je_var 2) (jo_some (je_b c_len (by rfl) T.n_len (by decide +kernel) (ja_cons (je_var 1) ja_nil))) jo_none)))) (jm_cons (jss_one (js_ret (je_slice (je_var 1) jo_none (jo_some (je_b c_len (by rfl) T.n_len (by decide +kernel) (ja_cons (je_var 2) ja_nil)))))) (jm_cons (jss_one (js_ret (je_slice (je_var 1) (jo_some (je_b c_len (by rfl) T.n_len (by decide +kernel) (ja_cons (je_var 2) ja_nil))) jo_none))) jm_nil)))))
    (jss_one (js_ret (je_op o_add (je_slice (je_var 1) (jo_some (je_b c_len (by rfl) T.n_len (by decide +kernel) (ja_cons (je_var 2) ja_nil))) jo_none) (je_slice (je_var 2) (jo_some (je_b c_len (by rfl) T.n_len (by decide +kernel) (ja_cons (je_var 1) ja_nil))) jo_none)))))) ?sem
  case len => rintro ts s Q E ⟨_, _, _, rfl, _⟩; rfl
  case sem =>
    rintro ts s Q E ⟨w, ms, ns, rfl, h1, h2, k⟩
    have cd : ∀ n : Nat, cutT (ns.map itm) (some (n : Int)) none = (ns.drop n).map itm := fun n => by rw [cut_from (by omega), Int.toNat_natCast, List.map_drop]
    have cm : ∀ n : Nat, cutT (ms.map itm) (some (n : Int)) none = (ms.drop n).map itm := fun n => by rw [cut_from (by omega), Int.toNat_natCast, List.map_drop]
    have ct : ∀ n : Nat, cutT (ms.map itm) none (some (n : Int)) = (ms.take n).map itm := fun n => by rw [cut_to (by omega), Int.toNat_natCast, List.map_take]
    unfold chs at k
    rcases w with _ | _ | _ | _ | w
    · walk_at "mm"
      refine hIte.by (fun _ => ?_) fun h => absurd h (by decide +kernel)
      walk_at "mm"
      rw [← List.map_append, List.length_map, List.length_map]
      exact ⟨by omega, k⟩
    · walk_at "mm"
      refine hIte.by (fun h => absurd h (by decide +kernel)) fun _ => ?_
      walk_at "mm"
      refine hIte.by (fun _ => ?_) fun h => absurd h (by decide +kernel)
      walk_at "mm"
      rw [List.length_map, cd, ← List.map_append, List.length_map, List.length_drop]
      exact ⟨by omega, k⟩
    · walk_at "mm"
      refine hIte.by (fun h => absurd h (by decide +kernel)) fun _ => ?_
      walk_at "mm"
      refine hIte.by (fun h => absurd h (by decide +kernel)) fun _ => ?_
      walk_at "mm"
      refine hIte.by (fun _ => ?_) fun h => absurd h (by decide +kernel)
      walk_at "mm"
      rw [List.length_map, ct]
      exact k
    · walk_at "mm"
      refine hIte.by (fun h => absurd h (by decide +kernel)) fun _ => ?_
      walk_at "mm"
      refine hIte.by (fun h => absurd h (by decide +kernel)) fun _ => ?_
      walk_at "mm"
      refine hIte.by (fun h => absurd h (by decide +kernel)) fun _ => ?_
      walk_at "mm"
      refine hIte.by (fun _ => ?_) fun h => absurd h (by decide +kernel)
      walk_at "mm"
      rw [List.length_map, cm]
      exact k
    · walk_at "mm"
      refine hIte.by (fun h => absurd h (by show ¬ decide (Str.ofString "one" = _) = true; decide +kernel)) fun _ => ?_
      walk_at "mm"
      refine hIte.by (fun h => absurd h (by show ¬ decide (Str.ofString "one" = _) = true; decide +kernel)) fun _ => ?_
      walk_at "mm"
      refine hIte.by (fun h => absurd h (by show ¬ decide (Str.ofString "one" = _) = true; decide +kernel)) fun _ => ?_
      walk_at "mm"
      refine hIte.by (fun h => absurd h (by show ¬ decide (Str.ofString "one" = _) = true; decide +kernel)) fun _ => ?_
      walk_at "mm"
      rw [List.length_map, List.length_map, cd, cm, ← List.map_append, List.length_map, List.length_map, List.length_drop, List.length_drop]
      exact ⟨by omega, k⟩
theorem ok_chosen (T : Txt K w mg cl base) : CalM P w K mg base cl 3 "chosen" F_chosen [] := calOf T.d_chosen (fun _ _ _ => .nil) (fn_chosen T)
theorem fn_bag (T : Txt K w mg cl base) : ∀ {x : Str} {f : Addr} {fd : FuncData}, C8.Fun K x "bag" s_bag f fd → FnG P w K mg base 21 f fd ["word", "one", "other"] (spM K cl F_bag) := by
  refine fnD (k := 20) (N := N_bag) sc_bag ?len (fun f cdv A out s H E hr => (jss_cons (js_par (i := 3) (j := 4) (by rfl) sc_bag.nd rfl rfl (by decide) rfl rfl (ja_cons (je_fld T.fld_held (je_mk false Tw.tk_cx (mk_Rinit T) hr (by decide) (by rfl) (ja_cons (je_var 1) ja_nil))) (ja_cons (je_fld T.fld_held (je_mk false Tw.tk_cx (mk_Rinit T) hr (by decide) (by rfl) (ja_cons (je_var 2) ja_nil))) ja_nil)))
    (jss_cons (js_set (i := 5) sc_bag.nd rfl (Or.inl rfl) (je_lst ja_nil))
    (jss_cons (js_asg (je_tup (ja_cons je_int (ja_cons je_int ja_nil))) (jg_tup (n := 2) (by rfl) (jgs_cons (jg_name (i := 6) sc_bag.nd rfl (Or.inl rfl)) (jgs_cons (jg_name (i := 7) sc_bag.nd rfl (Or.inl rfl)) jgs_nil))))
    (jss_cons (js_while (L2.passes_of rfl) (JW.jt (jw_or (jt_cmp o_lt (je_var 6) (je_b c_len (by rfl) T.n_len (by decide +kernel) (ja_cons (je_var 3) ja_nil)) (nomark _)) (jw_or1 (jt_cmp o_lt (je_var 7) (je_b c_len (by rfl) T.n_len (by decide +kernel) (ja_cons (je_var 4) ja_nil)) (nomark _))))) (jss_cons (js_setLcIf (i := 8) (own := [("items", 9), ("at", 10)]) (by rfl) sc_bag.nd rfl rfl (sw_true rfl rfl rfl (by decide +kernel)) (ji_seq (je_tup (ja_cons (je_tup (ja_cons (je_var 3) (ja_cons (je_var 6) ja_nil))) (ja_cons (je_tup (ja_cons (je_var 4) (ja_cons (je_var 7) ja_nil))) ja_nil)))) (blkOk_by (own := [("items", 9), ("at", 10)]) (N := N_bag) (sc := C8.fnScope s_bag) (by decide +kernel)) (fun _ _ _ _ _ => (pg_tup (n := 2) (by rfl) (pgs_cons (pg_name (i := 9) sc_bag.nd rfl (Or.inl rfl)) (pgs_cons (pg_name (i := 10) sc_bag.nd rfl (Or.inl rfl)) pgs_nil)))) (gt_tup (gts_cons (gt_name (i := 9) (by decide)) (gts_cons (gt_name (i := 10) (by decide)) gts_nil))) (fun _ _ _ _ _ => (jt_cmp o_lt (je_var 10) (je_b c_len (by rfl) T.n_len (by decide +kernel) (ja_cons (je_var 9) ja_nil)) (nomark _))) (fun _ _ _ _ _ => (je_fld T.fld_rank (je_ix (je_var 9) (je_var 10) (fun _ _ => rfl)))))
      (jss_cons (js_set (i := 11) sc_bag.nd rfl (Or.inl rfl) (je_if (jt_cmp o_le (je_ix (je_var 8) je_int (fun _ _ => rfl)) (je_ix (je_var 8) (je_neg je_int) (fun _ _ => rfl)) (nomark _)) (je_ix (je_var 8) je_int (fun _ _ => rfl)) (je_ix (je_var 8) (je_neg je_int) (fun _ _ => rfl))))
      (jss_cons (js_par (i := 12) (j := 13) (by rfl) sc_bag.nd rfl rfl (by decide) rfl rfl (ja_cons (je_call Tw.tk_cx (ok_behind_block T) hr (by decide) (by rfl) (ja_cons (je_var 3) (ja_cons (je_var 6) (ja_cons (je_var 11) ja_nil)))) (ja_cons (je_call Tw.tk_cx (ok_behind_block T) hr (by decide) (by rfl) (ja_cons (je_var 4) (ja_cons (je_var 7) (ja_cons (je_var 11) ja_nil)))) ja_nil)))
      (jss_cons (js_set (i := 5) sc_bag.nd rfl (Or.inl rfl) (je_op o_add (je_var 5) (je_call Tw.tk_cx (ok_chosen T) hr (by decide) (by rfl) (ja_cons (je_var 0) (ja_cons (je_slice (je_var 3) (jo_some (je_var 6)) (jo_some (je_var 12))) (ja_cons (je_slice (je_var 4) (jo_some (je_var 7)) (jo_some (je_var 13))) ja_nil))))))
      (jss_one (js_par (i := 6) (j := 7) (by rfl) sc_bag.nd rfl rfl (by decide) rfl rfl (ja_cons (je_var 12) (ja_cons (je_var 13) ja_nil)))))))))
    (jss_one (js_ret (je_mk false Tw.tk_cx (mk_Rinit T) hr (by decide) (by rfl) (ja_cons (je_var 5) ja_nil))))))))) ?sem
  case len => rintro ts s Q E ⟨_, _, _, _, _, rfl, _⟩; rfl
  case sem =>
    rintro ts s Q E ⟨w, one, other, xs, ys, rfl, h1, h2, o1, o2, l1, l2, k⟩
    unfold bagOf at k
    walk_at "mm"
    refine fun y1 hy1 => mk_row hy1 h1 o1 l1 ((rowOf.asc k).mon (fun ps k => ?_) fun er k => ?_)
    · obtain ⟨ap, z1, k⟩ := k
      unfold rowC
      walk_at "mm"
      refine fun y2 hy2 => mk_row hy2 (src_put hy1 h2) o2 l2 ((rowOf.asc k).mon (fun qs k => ?_) fun er k => ?_)
      · unfold rowC
        walk_at "mm"
        obtain ⟨aq, z2, k⟩ := k
        refine while_ind (fun τ s' => ∃ b x8 x9 x10 x11 x12 x13, s' = (s.put y1 (rowC ps)).put y2 (rowC qs) ∧ (upB w b ps qs).length ≤ (done b ps).length + (done b qs).length ∧ τ = [some (.str (wd w)), some one, some other, some (.lst (ps.map itm)), some (.lst (qs.map itm)), some (.lst ((upB w b ps qs).map itm)), some (.int ((done b ps).length : Nat)), some (.int ((done b qs).length : Nat)), x8, x9, x10, x11, x12, x13]) (fun τ _ => match τ with | _ :: _ :: _ :: _ :: _ :: _ :: some (.int a) :: some (.int c) :: _ => ps.length + qs.length - (a.toNat + c.toNat) | _ => 0) ?_ ?_
        · refine ⟨none, none, none, none, none, none, none, rfl, ?_, ?_⟩
          · rw [up_none]
            exact Nat.zero_le _
          · rw [up_none, done_none, done_none]
            rfl
        rintro τ s' N ⟨b, x8, x9, x10, x11, x12, x13, rfl, hu, rfl⟩ hN
        obtain ⟨nx1, nx2, nx3⟩ := next_by (b := b) ap aq
        have lp := done_len (b := b) ap
        have lq := done_len (b := b) aq
        rcases e1 : rest b ps with _ | ⟨p, A⟩
        all_goals rcases e2 : rest b qs with _ | ⟨q, B⟩
        all_goals rw [e1] at lp
        all_goals rw [e2] at lq
        all_goals simp only [List.length_nil, List.length_cons] at lp lq
        all_goals walk_at "mm"
        all_goals rw [List.length_map]
        case' nil.nil =>
          rw [show decide (((done b ps).length : Int) < ps.length) = false from decide_eq_false (by omega), hIte_false]
          walk_at "mm"
          rw [List.length_map, show decide (((done b qs).length : Int) < qs.length) = false from decide_eq_false (by omega), hIte_false]
          walk_at "mm"
          intro r hr
          have hr0 : s.on r = none := by
            have n2 : r ≠ y2 := fun e => by rw [e, S.put_same] at hr; cases hr
            rw [S.put_ne n2] at hr
            have n1 : r ≠ y1 := fun e => by rw [e, S.put_same] at hr; cases hr
            rwa [S.put_ne n1] at hr
          have eb := up_all (w := w) e1 e2
          refine mk_row hr (.inl rfl) (okV_itm _) (by rw [List.length_map]; omega) (rowOf_itm (fl_of (eb ▸ bag_asc w ps qs)) ?_)
          rw [eb]
          by_cases z3 : (bagF w ps qs).length ≤ 200
          · rw [if_pos z3] at k ⊢
            walk_at "mm"
            exact ⟨_, Shr.putB (.trans (Shr.put hy2) (Shr.put hy1)), k r hr0⟩
          · rw [if_neg z3] at k ⊢
            walk_at "mm"
            rw [S.del_put hr]
            exact ⟨s, .trans (Shr.put hy2) (Shr.put hy1), k⟩
        case' nil.cons =>
          rw [show decide (((done b ps).length : Int) < ps.length) = false from decide_eq_false (by omega), hIte_false]
          walk_at "mm"
          rw [List.length_map, show decide (((done b qs).length : Int) < qs.length) = true from decide_eq_true (by omega), hIte_true]
          walk_at "mm"
          have r := q.1
          have nx := nx2 q B e1 e2
          have at_q : atI (qs.map itm) ((done b qs).length : Nat) = some (itm q) := at_rest aq e2
          refine hLc.cons trivial (by decide) ?_
          walk_at "mm"
          rw [List.length_map, show decide (((done b ps).length : Int) < ps.length) = false from decide_eq_false (by omega), hIte_false]
          refine hLc.cons trivial (by decide) ?_
          walk_at "mm"
          rw [List.length_map, show decide (((done b qs).length : Int) < qs.length) = true from decide_eq_true (by omega), hIte_true]
          walk_at "mm"
          rw [at_q]
          unfold itm
          walk_at "mm"
          refine hLc.nil trivial ?_
          walk_at "mm"
          rw [show atI [Mr.T.int q.1] (-1) = some (.int q.1) from rfl]
          walk_at "mm"
          rw [show decide (q.1 ≤ q.1) = true from decide_eq_true (Int.le_refl _), hIte_true]
          walk_at "mm"
          generalize q.1 = r at nx
        case' cons.nil =>
          rw [show decide (((done b ps).length : Int) < ps.length) = true from decide_eq_true (by omega), hIte_true]
          walk_at "mm"
          have nx := nx1 p A e1 e2
          have at_p : atI (ps.map itm) ((done b ps).length : Nat) = some (itm p) := at_rest ap e1
          refine hLc.cons trivial (by decide) ?_
          walk_at "mm"
          rw [List.length_map, show decide (((done b ps).length : Int) < ps.length) = true from decide_eq_true (by omega), hIte_true]
          walk_at "mm"
          rw [at_p]
          unfold itm
          walk_at "mm"
          refine hLc.cons trivial (by simp) ?_
          walk_at "mm"
          rw [List.length_map, show decide (((done b qs).length : Int) < qs.length) = false from decide_eq_false (by omega), hIte_false]
          refine hLc.nil trivial ?_
          walk_at "mm"
          rw [show atI [Mr.T.int p.1] (-1) = some (.int p.1) from rfl]
          walk_at "mm"
          rw [show decide (p.1 ≤ p.1) = true from decide_eq_true (Int.le_refl _), hIte_true]
          walk_at "mm"
          generalize p.1 = r at nx
        case' cons.cons =>
          rw [show decide (((done b ps).length : Int) < ps.length) = true from decide_eq_true (by omega), hIte_true]
          walk_at "mm"
          have nx := nx3 p A q B e1 e2
          have at_p : atI (ps.map itm) ((done b ps).length : Nat) = some (itm p) := at_rest ap e1
          have at_q : atI (qs.map itm) ((done b qs).length : Nat) = some (itm q) := at_rest aq e2
          refine hLc.cons trivial (by decide) ?_
          walk_at "mm"
          rw [List.length_map, show decide (((done b ps).length : Int) < ps.length) = true from decide_eq_true (by omega), hIte_true]
          walk_at "mm"
          rw [at_p]
          unfold itm
          walk_at "mm"
          refine hLc.cons trivial (by simp) ?_
          walk_at "mm"
          rw [List.length_map, show decide (((done b qs).length : Int) < qs.length) = true from decide_eq_true (by omega), hIte_true]
          walk_at "mm"
          rw [show (fun p : Pr => Mr.T.obj 7 [("rank", .int p.1), ("name", .str p.2)]) = itm from rfl, at_q]
          unfold itm
          walk_at "mm"
          refine hLc.nil trivial ?_
          walk_at "mm"
          rw [show atI [Mr.T.int p.1, Mr.T.int q.1] (-1) = some (.int q.1) from rfl]
          walk_at "mm"
          by_cases le : p.1 ≤ q.1
          case' pos =>
            rw [if_pos le] at nx
            rw [decide_eq_true le, hIte_true]
            walk_at "mm"
            generalize p.1 = r at nx
          case' neg =>
            rw [if_neg le] at nx
            rw [decide_eq_false le, hIte_false]
            walk_at "mm"
            rw [show atI [Mr.T.int p.1, Mr.T.int q.1] (-1) = some (.int q.1) from rfl]
            walk_at "mm"
            generalize q.1 = r at nx
        all_goals rw [show (fun p : Pr => Mr.T.obj 7 [("rank", .int p.1), ("name", .str p.2)]) = itm from rfl]
        all_goals (
          obtain ⟨tp1, tp2⟩ := take_next ap nx.not_up (fun _ => nx.le_up) nx.l
          obtain ⟨tq1, tq2⟩ := take_next aq nx.not_up (fun _ => nx.le_up) nx.o
          have dp := congrArg List.length (next_done ap nx.not_up (fun _ => nx.le_up) nx.l)
          have dq := congrArg List.length (next_done aq nx.not_up (fun _ => nx.le_up) nx.o)
          rw [List.length_append] at dp dq
          have cp := done_len (b := some r) ap
          have cq := done_len (b := some r) aq
          refine hM.of ⟨ps, _, r, rfl, by omega, ?_⟩
          walk_at "mm"
          refine hM.of ⟨qs, _, r, rfl, by omega, ?_⟩
          walk_at "mm"
          rw [tp2, tq2, cut_both (by omega) (by omega), cut_both (by omega) (by omega), Int.toNat_natCast, Int.toNat_natCast, Int.toNat_natCast, Int.toNat_natCast, ← List.map_take, ← List.map_drop, ← List.map_take, ← List.map_drop, tp1, tq1]
          have hc := chs_len w (fl r ps) (fl r qs)
          have us := up_step (w := w) nx
          have fne : 0 < (fl r ps).length + (fl r qs).length := by
            rcases nx.is with ⟨z, hz, e⟩ | ⟨z, hz, e⟩
            · have : 0 < (fl r ps).length := List.length_pos_of_mem (List.mem_filter.mpr ⟨(List.mem_filter.mp hz).1, decide_eq_true e⟩)
              omega
            · have : 0 < (fl r qs).length := List.length_pos_of_mem (List.mem_filter.mpr ⟨(List.mem_filter.mp hz).1, decide_eq_true e⟩)
              omega
          refine hM.of ⟨w, fl r ps, fl r qs, rfl, by omega, by omega, ?_⟩
          walk_at "mm"
          refine ⟨by simp only [List.length_map]; omega, ?_⟩
          rw [← List.map_append, ← us, ← dp, ← dq]
          refine hN _ _ ⟨some r, _, _, _, _, _, _, rfl, by rw [us, List.length_append]; omega, rfl⟩ ?_
          simp only [Int.toNat_natCast]
          omega)
      · walk_at "mm"
        rw [S.del_put hy2]
        exact ⟨s, Shr.put hy1, k⟩
    · walk_at "mm"
      rw [S.del_put hy1]
      exact ⟨s, Shr.refl s, k⟩
theorem ok_bag (T : Txt K w mg cl base) : CalM P w K mg base cl 21 "bag" F_bag [] := calOf T.d_bag (fun _ _ _ => .nil) (fn_bag T)
end
end M07

namespace M07
open PySem PySem.Spec PyProof.Rows L2 Tw Mr
local macro_rules | `(tactic| walk_at "mm") => `(tactic| simp -implicitDefEqProofs only [↓Mr.hold_cM, ↓Mr.hold_ite, ↓Mr.hold_for, ↓Mr.hold_lc, ↓Mr.hold_wh, ↓Mr.hold_act, ↓Mr.fRetC.eq_1, ↓Mr.hold_lam, ↓Mr.hold_lcX, ↓Mr.fLcX.eq_1, ↓Mr.fAug.eq_1, ↓Mr.gInp.eq_1, ↓Mr.gBag.eq_1, Mr.S.sq?, ↓Mr.iEnumA.eq_1, Mr.S.enumA?, Mr.sortO, Mr.intsOf, ↓Mr.fStar.eq_1, ↓Mr.fSetO.eq_1, ↓Mr.mCase.eq_1, ↓Mr.fMatch.eq_1, ↓Mr.iEnum.eq_1, Mr.S.enum?, Mr.maxO,  Mr.hIte_true, Mr.hIte_false, ↓Mr.startT.eq_1, ↓Mr.endsM.eq_1, ↓Mr.lawEnds.eq_1, ↓Mr.fSeq.eq_1, ↓Mr.fSkip.eq_1, ↓Mr.fRet.eq_1, ↓Mr.fRetN.eq_1, ↓Mr.fRetF.eq_1, ↓Mr.fDrop.eq_1, ↓Mr.fSet.eq_1, ↓Mr.fAsg.eq_1, ↓Mr.fPar.eq_1, ↓Mr.fFldS.eq_1, ↓Mr.fIfS.eq_1, ↓Mr.fRaise.eq_1, ↓Mr.fTry.eq_1, ↓Mr.fBrk.eq_1, ↓Mr.fCnt.eq_1, ↓Mr.gN.eq_1, ↓Mr.gT.eq_1, ↓Mr.gsNil.eq_1, ↓Mr.gsCons.eq_1, ↓Mr.xk,
  ↓Mr.fVar.eq_1, ↓Mr.fC.eq_1, ↓Mr.f2.eq_1, ↓Mr.f3.eq_1, ↓Mr.g2.eq_1, ↓Mr.kB.eq_1, ↓Mr.fTest.eq_1, ↓Mr.fTru.eq_1, ↓Mr.fAnd.eq_1, ↓Mr.fOr.eq_1, ↓Mr.fNot.eq_1, ↓Mr.fAndV.eq_1, ↓Mr.fOrV.eq_1, ↓Mr.fNotV.eq_1, ↓Mr.fIf.eq_1, ↓Mr.fUn.eq_1, ↓Mr.onO.eq_1, Mr.onB_bl, Mr.onB_non, Mr.onB_int, Mr.onB_str, Mr.onB_lst, Mr.onB_tup, Mr.onB_dct, ↓Mr.fNil.eq_1, ↓Mr.fCons.eq_1, ↓Mr.fLst.eq_1, ↓Mr.fTup.eq_1, ↓Mr.fLstC.eq_1, ↓Mr.fDct0.eq_1, ↓Mr.fDctC.eq_1, ↓Mr.fPar3.eq_1, ↓Mr.fSm0.eq_1, ↓Mr.fSm1.eq_1, ↓Mr.onS.eq_1, Mr.isS, Mr.eqF, List.all_cons, List.all_nil, List.any_cons, List.any_nil, Mr.upperO, Mr.lowerO, Mr.partO, Mr.isiT, Mr.tys, Mr.kkAny, Mr.reprX, Mr.S.datX, Mr.T.datX, Mr.datsX, Mr.datsK, Mr.kD, ↓Mr.fCB.eq_1, ↓Mr.fCall.eq_1, ↓Mr.fMk.eq_1, ↓Mr.fMkK.eq_1, ↓Mr.fMt.eq_1, ↓Mr.fMtK.eq_1, ↓Mr.fCallK.eq_1, ↓Mr.fErr.eq_1, ↓Mr.fStrO.eq_1, ↓Mr.fJs.eq_1, ↓Mr.jsT, ↓Mr.fSl.eq_1, ↓Mr.oNone.eq_1, ↓Mr.oSome.eq_1, ↓Mr.fLM.eq_1, ↓Mr.onL.eq_1,
  Mr.addO, Mr.intO, Mr.mulO, Mr.ltO, Mr.leO, Mr.gtO, Mr.geO, Mr.eqO, Mr.neO, Mr.isO, Mr.isnO, Mr.T.isN, Mr.negO, Mr.ixO, Mr.lenO, Mr.absO, Mr.intO1, Option.isSome_some, Option.isSome_none, Mr.S.put_pn, Mr.strO, Mr.strLO, Mr.listO, Mr.tupO, Mr.reprO, Mr.isiO, Mr.fldO, Mr.xgO, Mr.fmtO, Mr.joinO, Mr.slO, Mr.inO', Mr.ninO', Mr.inB, Mr.T.flat, Mr.S.put_same, Mr.S.put_put, Mr.S.pn_on, Mr.S.pn_pen, Mr.S.put_pen, Mr.S.pn_pn, ↓Mr.fLc.eq_1, ↓Mr.fYes.eq_1, ↓Mr.iSeq.eq_1, ↓Mr.iRange1.eq_1, ↓Mr.iRange2.eq_1, Mr.S.its?, Mr.okAt, Mr.wipeT, ↓Mr.fFor.eq_1, Mr.allO, Mr.anyO, ↓Mr.doneM.eq_1, Option.map_some, Option.map_none,  Mr.appO, Mr.revO, Mr.clrO, ↓Mr.gEqOwn.eq_1, ↓Mr.gOwn2.eq_1, ↓Mr.gOwnI_row, ↓Mr.gOwnR_row, ↓Mr.kObj.eq_1, ↓Mr.fNegO.eq_1, ↓Mr.fOwnC.eq_1, ↓Mr.fPro.eq_1, ↓Mr.gInK.eq_1, ↓Mr.gIxK.eq_1, ↓Mr.iKeyK.eq_1, Mr.eqE, Bool.true_xor, Bool.false_xor, ↓Mr.gNeOwn.eq_1,
  Mr.S.lst?, Mr.S.seq?, Mr.S.ty?, Mr.S.obj?, Mr.S.dat, Mr.T.dat, Mr.dats, Mr.atI_0, Mr.atI_1, Mr.atI_2, Mr.atI_3, Mr.atI_4, Mr.atI_5, Mr.atI_6, Mr.atI_7, Mr.atI_8, Mr.atI_9, Mr.atI_10, Mr.atI_11, Mr.atI_12, Mr.atI_13, PyData.eqv, PyData.eqvAll, Bool.and_true, Bool.true_and, beq_self_eq_true, Bool.and_self, decide_true, decide_false, Mr.okC,
  List.map_cons, List.map_nil, List.length_cons, List.length_nil, List.cons_append, List.nil_append, List.append_nil, List.replicate_succ, List.replicate_zero, List.getElem?_cons_zero, List.getElem?_cons_succ, List.set_cons_zero, List.set_cons_succ, List.getD_cons_zero, List.getD_cons_succ, L2.CPow, Int.reduceToNat, Int.reducePow, Int.reduceAbs, Int.reduceLE, Int.reduceLT, Int.reduceSub, Int.reduceAdd, Int.reduceNeg, Int.reduceMul, Int.reduceEq, Nat.reducePow, Nat.sub_self, Nat.reduceSub, Nat.reduceAdd, Nat.reduceLeDiff, Nat.reduceLT, Nat.reduceEqDiff, Nat.zero_add, Nat.add_zero, Nat.add_one_sub_one, Nat.sub_zero, Nat.zero_sub,
  true_and, and_true, ite_true, ite_false, if_true, if_false, Bool.false_eq_true, Bool.true_eq_false, ↓reduceIte, Bool.not_true, Bool.not_false, List.zip_cons_cons, List.zip_nil_left, List.zip_nil_right, M07.kkA, M07.lkA, M07.insL, M07.excL, List.mem_cons, List.not_mem_nil, or_false, or_true, true_or, false_or, reduceCtorEq, Bool.not_eq_true, Bool.not_eq_false, Bool.not_not])
local macro_rules | `(tactic| walk_at "sh") => `(tactic| exact Mr.sh (by first | (simp only [Mr.niceD, Mr.niceAll, Bool.and_true, Bool.and_eq_true, true_and, and_true]; done) | (simp only [Mr.niceD, Mr.niceAll, Bool.and_true, Bool.and_eq_true, true_and, and_true]; decide +kernel) | simp [Mr.niceD, Mr.niceAll, *]) (by simp [PyData.depth, PyData.depthAll]))
local macro_rules | `(tactic| walk_at "rp") => `(tactic| exact Mr.rp (by first | (simp only [Mr.niceD, Mr.niceAll, Bool.and_true, Bool.and_eq_true, true_and, and_true]; done) | (simp only [Mr.niceD, Mr.niceAll, Bool.and_true, Bool.and_eq_true, true_and, and_true]; decide +kernel) | simp [Mr.niceD, Mr.niceAll, *]) (by simp [PyData.depth, PyData.depthAll]) (by simp only [Mr.wD, Mr.wAll]; first | decide | omega))

def sg : Nat → Str
  | 0 => "+" | 1 => "|" | 2 => "&" | 3 => "-" | _ => "^"
/-- a row of the pairs ps changed by the things ys -/
def inpOf (w : Nat) (ps : List Pr) (ys : List Mr.T) (Q : List Pr → Prop) (E : Er → Prop) : Prop := rowOf ys (fun qs => if (bagF w ps qs).length ≤ 200 then Q (bagF w ps qs) else E ⟨6, [("most", .int 200)]⟩) E
def F_inp (w : Nat) : FD := fun ts s Q E => ∃ x ps other ys, ts = [.cell x, other] ∧ s.on x = some (rowC ps) ∧ FL ps = [] ∧ ps.length ≤ 200 ∧ src s other ys ∧ (∀ y ∈ ys, okV y) ∧ ys.length ≤ 1000 ∧ inpOf w ps ys (fun rs => Q (.cell x) (s.put x (rowC rs))) (fun er => E er s)
def F_Riadd : FD := F_inp 0
def F_Rior : FD := F_inp 1
def F_Riand : FD := F_inp 2
def F_Risub : FD := F_inp 3
def F_Rixor : FD := F_inp 4
def F_change : FD := fun ts s Q E => ∃ w x ps other ys, ts = [.str (sg w), .cell x, other] ∧ s.on x = some (rowC ps) ∧ FL ps = [] ∧ ps.length ≤ 200 ∧ src s other ys ∧ (∀ y ∈ ys, okV y) ∧ ys.length ≤ 1000 ∧ inpOf w ps ys (fun rs => Q (.cell x) (s.put x (rowC rs))) (fun er => E er s)
theorem bagOf.mon {w : Nat} {xs ys : List Mr.T} {Q Q' : List Pr → Prop} {E E' : Er → Prop} {s : S} (hq : ∀ ps, Q ps → Q' ps) (he : ∀ e, E e → E' e) (h : bagOf s w xs ys Q E) : bagOf s w xs ys Q' E' := by
  unfold bagOf at h ⊢
  refine h.mon (fun ps h => h.mon (fun qs h => ?_) he) he
  split
  · rename_i z
    rw [if_pos z] at h
    exact hq _ h
  · rename_i z
    rw [if_neg z] at h
    exact he _ h
theorem inpOf.bag {w : Nat} {ps : List Pr} {ys : List Mr.T} {Q : List Pr → Prop} {E : Er → Prop} {s : S} (hf : FL ps = []) (hl : ps.length ≤ 200) (h : inpOf w ps ys Q E) : bagOf s w (ps.map itm) ys Q E := by
  unfold bagOf
  refine rowOf_itm hf ?_
  rw [if_pos hl]
  exact h
section
variable {w : World} {K : PySem.W.Frag} {mg : Str → Option Value} {base : Heap} {cl : CL}
theorem fn_Riadd (T : Txt K w mg cl base) : ∀ {x : Str} {f : Addr} {fd : FuncData}, C8.Fun K x "Row.__iadd__" s_Riadd f fd → FnG P w K mg base 24 f fd ["self", "other"] (spM K cl F_Riadd) := by
  refine fnD (k := 23) (N := N_Riadd) sc_Riadd ?len (fun f cdv A out s H E hr => (jss_cons (js_fld T.fld_held (je_var 0) (je_fld T.fld_held (je_call Tw.tk_cx (ok_bag T) hr (by decide) (by rfl) (ja_cons je_str (ja_cons (je_var 0) (ja_cons (je_var 1) ja_nil))))))
    (jss_one (js_ret (je_var 0))))) ?sem
  case len => rintro ts s Q E ⟨_, _, _, _, rfl, _⟩; rfl
  case sem =>
    rintro ts s Q E ⟨x, ps, other, ys, rfl, hx, hf, hl, hs, ho, hy, k⟩
    walk_at "mm"
    refine hM.of ⟨0, .cell x, other, ps.map itm, ys, rfl, .inr (.inr ⟨x, rfl, hx⟩), hs, okV_itm _, ho, by rw [List.length_map]; omega, hy, (k.bag (s := s) hf hl).mon (fun rs q r hr => ?_) fun er q => ?_⟩
    · have ne : x ≠ r := fun e => by
        rw [e] at hx
        cases hx.symm.trans hr
      unfold rowC at hx ⊢
      walk_at "mm"
      rw [S.put_ne ne, hx]
      walk_at "mm"
      exact ⟨_, Shr.putB (Shr.put hr), q⟩
    · walk_at "mm"
      exact ⟨s, Shr.refl s, q⟩
theorem mt_Riadd (T : Txt K w mg cl base) : MetM P w K mg base cl 24 8 "__iadd__" F_Riadd [] := metOf T.d_Riadd (fun _ _ _ => .nil) (fn_Riadd T)
theorem fn_Rior (T : Txt K w mg cl base) : ∀ {x : Str} {f : Addr} {fd : FuncData}, C8.Fun K x "Row.__ior__" s_Rior f fd → FnG P w K mg base 24 f fd ["self", "other"] (spM K cl F_Rior) := by
  refine fnD (k := 23) (N := N_Rior) sc_Rior ?len (fun f cdv A out s H E hr => (jss_cons (js_fld T.fld_held (je_var 0) (je_fld T.fld_held (je_call Tw.tk_cx (ok_bag T) hr (by decide) (by rfl) (ja_cons je_str (ja_cons (je_var 0) (ja_cons (je_var 1) ja_nil))))))
    (jss_one (js_ret (je_var 0))))) ?sem
  case len => rintro ts s Q E ⟨_, _, _, _, rfl, _⟩; rfl
  case sem =>
    rintro ts s Q E ⟨x, ps, other, ys, rfl, hx, hf, hl, hs, ho, hy, k⟩
    walk_at "mm"
    refine hM.of ⟨1, .cell x, other, ps.map itm, ys, rfl, .inr (.inr ⟨x, rfl, hx⟩), hs, okV_itm _, ho, by rw [List.length_map]; omega, hy, (k.bag (s := s) hf hl).mon (fun rs q r hr => ?_) fun er q => ?_⟩
    · have ne : x ≠ r := fun e => by
        rw [e] at hx
        cases hx.symm.trans hr
      unfold rowC at hx ⊢
      walk_at "mm"
      rw [S.put_ne ne, hx]
      walk_at "mm"
      exact ⟨_, Shr.putB (Shr.put hr), q⟩
    · walk_at "mm"
      exact ⟨s, Shr.refl s, q⟩
theorem mt_Rior (T : Txt K w mg cl base) : MetM P w K mg base cl 24 8 "__ior__" F_Rior [] := metOf T.d_Rior (fun _ _ _ => .nil) (fn_Rior T)
theorem fn_Riand (T : Txt K w mg cl base) : ∀ {x : Str} {f : Addr} {fd : FuncData}, C8.Fun K x "Row.__iand__" s_Riand f fd → FnG P w K mg base 24 f fd ["self", "other"] (spM K cl F_Riand) := by
  refine fnD (k := 23) (N := N_Riand) sc_Riand ?len (fun f cdv A out s H E hr => (jss_cons (js_fld T.fld_held (je_var 0) (je_fld T.fld_held (je_call Tw.tk_cx (ok_bag T) hr (by decide) (by rfl) (ja_cons je_str (ja_cons (je_var 0) (ja_cons (je_var 1) ja_nil))))))
    (jss_one (js_ret (je_var 0))))) ?sem
  case len => rintro ts s Q E ⟨_, _, _, _, rfl, _⟩; rfl
  case sem =>
    rintro ts s Q E ⟨x, ps, other, ys, rfl, hx, hf, hl, hs, ho, hy, k⟩
    walk_at "mm"
    refine hM.of ⟨2, .cell x, other, ps.map itm, ys, rfl, .inr (.inr ⟨x, rfl, hx⟩), hs, okV_itm _, ho, by rw [List.length_map]; omega, hy, (k.bag (s := s) hf hl).mon (fun rs q r hr => ?_) fun er q => ?_⟩
    · have ne : x ≠ r := fun e => by
        rw [e] at hx
        cases hx.symm.trans hr
      unfold rowC at hx ⊢
      walk_at "mm"
      rw [S.put_ne ne, hx]
      walk_at "mm"
      exact ⟨_, Shr.putB (Shr.put hr), q⟩
    · walk_at "mm"
      exact ⟨s, Shr.refl s, q⟩
theorem mt_Riand (T : Txt K w mg cl base) : MetM P w K mg base cl 24 8 "__iand__" F_Riand [] := metOf T.d_Riand (fun _ _ _ => .nil) (fn_Riand T)
theorem fn_Risub (T : Txt K w mg cl base) : ∀ {x : Str} {f : Addr} {fd : FuncData}, C8.Fun K x "Row.__isub__" s_Risub f fd → FnG P w K mg base 24 f fd ["self", "other"] (spM K cl F_Risub) := by
  refine fnD (k := 23) (N := N_Risub) sc_Risub ?len (fun f cdv A out s H E hr => (jss_cons (js_fld T.fld_held (je_var 0) (je_fld T.fld_held (je_call Tw.tk_cx (ok_bag T) hr (by decide) (by rfl) (ja_cons je_str (ja_cons (je_var 0) (ja_cons (je_var 1) ja_nil))))))
    (jss_one (js_ret (je_var 0))))) ?sem
  case len => rintro ts s Q E ⟨_, _, _, _, rfl, _⟩; rfl
  case sem =>
    rintro ts s Q E ⟨x, ps, other, ys, rfl, hx, hf, hl, hs, ho, hy, k⟩
    walk_at "mm"
    refine hM.of ⟨3, .cell x, other, ps.map itm, ys, rfl, .inr (.inr ⟨x, rfl, hx⟩), hs, okV_itm _, ho, by rw [List.length_map]; omega, hy, (k.bag (s := s) hf hl).mon (fun rs q r hr => ?_) fun er q => ?_⟩
    · have ne : x ≠ r := fun e => by
        rw [e] at hx
        cases hx.symm.trans hr
      unfold rowC at hx ⊢
      walk_at "mm"
      rw [S.put_ne ne, hx]
      walk_at "mm"
      exact ⟨_, Shr.putB (Shr.put hr), q⟩
    · walk_at "mm"
      exact ⟨s, Shr.refl s, q⟩
theorem mt_Risub (T : Txt K w mg cl base) : MetM P w K mg base cl 24 8 "__isub__" F_Risub [] := metOf T.d_Risub (fun _ _ _ => .nil) (fn_Risub T)
theorem fn_Rixor (T : Txt K w mg cl base) : ∀ {x : Str} {f : Addr} {fd : FuncData}, C8.Fun K x "Row.__ixor__" s_Rixor f fd → FnG P w K mg base 24 f fd ["self", "other"] (spM K cl F_Rixor) := by
  refine fnD (k := 23) (N := N_Rixor) sc_Rixor ?len (fun f cdv A out s H E hr => (jss_cons (js_fld T.fld_held (je_var 0) (je_fld T.fld_held (je_call Tw.tk_cx (ok_bag T) hr (by decide) (by rfl) (ja_cons je_str (ja_cons (je_var 0) (ja_cons (je_var 1) ja_nil))))))
    (jss_one (js_ret (je_var 0))))) ?sem
  case len => rintro ts s Q E ⟨_, _, _, _, rfl, _⟩; rfl
  case sem =>
    rintro ts s Q E ⟨x, ps, other, ys, rfl, hx, hf, hl, hs, ho, hy, k⟩
    walk_at "mm"
    refine hM.of ⟨4, .cell x, other, ps.map itm, ys, rfl, .inr (.inr ⟨x, rfl, hx⟩), hs, okV_itm _, ho, by rw [List.length_map]; omega, hy, (k.bag (s := s) hf hl).mon (fun rs q r hr => ?_) fun er q => ?_⟩
    · have ne : x ≠ r := fun e => by
        rw [e] at hx
        cases hx.symm.trans hr
      unfold rowC at hx ⊢
      walk_at "mm"
      rw [S.put_ne ne, hx]
      walk_at "mm"
      exact ⟨_, Shr.putB (Shr.put hr), q⟩
    · walk_at "mm"
      exact ⟨s, Shr.refl s, q⟩
theorem mt_Rixor (T : Txt K w mg cl base) : MetM P w K mg base cl 24 8 "__ixor__" F_Rixor [] := metOf T.d_Rixor (fun _ _ _ => .nil) (fn_Rixor T)
theorem fn_change (T : Txt K w mg cl base) : ∀ {x : Str} {f : Addr} {fd : FuncData}, C8.Fun K x "_law_change" s_change f fd → FnG P w K mg base 27 f fd ["_law_word", "_law_row", "_law_other"] (spM K cl F_change) := by
  refine fnM (k := 26) (N := N_change) sc_change ?len (fun f cdv A out s H E hr => (jss_cons (js_if (jt_cmp (o_eq hr) (je_var 0) je_str (nomark _)) (jss_one (js_aug (i := 1) (o_inp Tw.tk_cx (mt_Riadd T) T.sf_Row hr (by decide)) sc_change.nd rfl (Or.inl rfl) (je_var 2))) (jss_one (js_if (jt_cmp (o_eq hr) (je_var 0) je_str (nomark _)) (jss_one (js_aug (i := 1) (o_inp Tw.tk_cx (mt_Rior T) T.sf_Row hr (by decide)) sc_change.nd rfl (Or.inl rfl) (je_var 2))) (jss_one (js_if (jt_cmp (o_eq hr) (je_var 0) je_str (nomark _)) (jss_one (js_aug (i := 1) (o_inp Tw.tk_cx (mt_Riand T) T.sf_Row hr (by decide)) sc_change.nd rfl (Or.inl rfl) (je_var 2))) (jss_one (js_if (jt_cmp (o_eq hr) (je_var 0) je_str (nomark _)) (jss_one (js_aug (i := 1) (o_inp Tw.tk_cx (mt_Risub T) T.sf_Row hr (by decide)) sc_change.nd rfl (Or.inl rfl) (je_var 2))) (jss_one (js_aug (i := 1) (o_inp Tw.tk_cx (mt_Rixor T) T.sf_Row hr (by decide)) sc_change.nd rfl (Or.inl rfl) (je_var 2))))))))))
    (jss_one (js_ret (je_var 1))))) ?sem
  case len => rintro ts s Q E ⟨_, _, _, _, _, rfl, _⟩; rfl
  case sem =>
    rintro ts s Q E ⟨w, x, ps, other, ys, rfl, hx, hf, hl, hs, ho, hy, k⟩
    have hx' : s.on x = some (.obj 8 [("held", .lst (ps.map itm))]) := hx
    rcases w with _ | _ | _ | _ | w
    · walk_at "mm"
      refine hIte.by (fun _ => ?_) fun h => absurd h (by decide +kernel)
      walk_at "mm"
      rw [hx']
      refine ⟨rfl, hM.of ⟨x, ps, other, ys, rfl, hx, hf, hl, hs, ho, hy, k.mon (fun rs q => ?_) fun er q => ?_⟩⟩
      · walk_at "mm"
        exact q
      · walk_at "mm"
        exact q
    · walk_at "mm"
      refine hIte.by (fun h => absurd h (by decide +kernel)) fun _ => ?_
      walk_at "mm"
      refine hIte.by (fun _ => ?_) fun h => absurd h (by decide +kernel)
      walk_at "mm"
      rw [hx']
      refine ⟨rfl, hM.of ⟨x, ps, other, ys, rfl, hx, hf, hl, hs, ho, hy, k.mon (fun rs q => ?_) fun er q => ?_⟩⟩
      · walk_at "mm"
        exact q
      · walk_at "mm"
        exact q
    · walk_at "mm"
      refine hIte.by (fun h => absurd h (by decide +kernel)) fun _ => ?_
      walk_at "mm"
      refine hIte.by (fun h => absurd h (by decide +kernel)) fun _ => ?_
      walk_at "mm"
      refine hIte.by (fun _ => ?_) fun h => absurd h (by decide +kernel)
      walk_at "mm"
      rw [hx']
      refine ⟨rfl, hM.of ⟨x, ps, other, ys, rfl, hx, hf, hl, hs, ho, hy, k.mon (fun rs q => ?_) fun er q => ?_⟩⟩
      · walk_at "mm"
        exact q
      · walk_at "mm"
        exact q
    · walk_at "mm"
      refine hIte.by (fun h => absurd h (by decide +kernel)) fun _ => ?_
      walk_at "mm"
      refine hIte.by (fun h => absurd h (by decide +kernel)) fun _ => ?_
      walk_at "mm"
      refine hIte.by (fun h => absurd h (by decide +kernel)) fun _ => ?_
      walk_at "mm"
      refine hIte.by (fun _ => ?_) fun h => absurd h (by decide +kernel)
      walk_at "mm"
      rw [hx']
      refine ⟨rfl, hM.of ⟨x, ps, other, ys, rfl, hx, hf, hl, hs, ho, hy, k.mon (fun rs q => ?_) fun er q => ?_⟩⟩
      · walk_at "mm"
        exact q
      · walk_at "mm"
        exact q
    · walk_at "mm"
      refine hIte.by (fun h => absurd h (by show ¬ decide (Str.ofString "^" = _) = true; decide +kernel)) fun _ => ?_
      walk_at "mm"
      refine hIte.by (fun h => absurd h (by show ¬ decide (Str.ofString "^" = _) = true; decide +kernel)) fun _ => ?_
      walk_at "mm"
      refine hIte.by (fun h => absurd h (by show ¬ decide (Str.ofString "^" = _) = true; decide +kernel)) fun _ => ?_
      walk_at "mm"
      refine hIte.by (fun h => absurd h (by show ¬ decide (Str.ofString "^" = _) = true; decide +kernel)) fun _ => ?_
      walk_at "mm"
      rw [hx']
      refine ⟨rfl, hM.of ⟨x, ps, other, ys, rfl, hx, hf, hl, hs, ho, hy, k.mon (fun rs q => ?_) fun er q => ?_⟩⟩
      · walk_at "mm"
        exact q
      · walk_at "mm"
        exact q
theorem ok_change (T : Txt K w mg cl base) : CalM P w K mg base cl 27 "_law_change" F_change [] := calOf T.d_change (fun _ _ _ => .nil) (fn_change T)
end
end M07

namespace M07
open PySem PySem.Spec PyProof.Rows L2 Tw Mr
local macro_rules | `(tactic| walk_at "mm") => `(tactic| simp -implicitDefEqProofs only [↓Mr.hold_cM, ↓Mr.hold_ite, ↓Mr.hold_for, ↓Mr.hold_lc, ↓Mr.hold_wh, ↓Mr.hold_act, ↓Mr.fRetC.eq_1, ↓Mr.hold_lam, ↓Mr.hold_lcX, ↓Mr.fLcX.eq_1, ↓Mr.fAug.eq_1, ↓Mr.gInp.eq_1, ↓Mr.gBag.eq_1, Mr.S.sq?, ↓Mr.iEnumA.eq_1, Mr.S.enumA?, Mr.sortO, Mr.intsOf, ↓Mr.fStar.eq_1, ↓Mr.fSetO.eq_1, ↓Mr.mCase.eq_1, ↓Mr.fMatch.eq_1, ↓Mr.iEnum.eq_1, Mr.S.enum?, Mr.maxO,  Mr.hIte_true, Mr.hIte_false, ↓Mr.startT.eq_1, ↓Mr.endsM.eq_1, ↓Mr.lawEnds.eq_1, ↓Mr.fSeq.eq_1, ↓Mr.fSkip.eq_1, ↓Mr.fRet.eq_1, ↓Mr.fRetN.eq_1, ↓Mr.fRetF.eq_1, ↓Mr.fDrop.eq_1, ↓Mr.fSet.eq_1, ↓Mr.fAsg.eq_1, ↓Mr.fPar.eq_1, ↓Mr.fFldS.eq_1, ↓Mr.fIfS.eq_1, ↓Mr.fRaise.eq_1, ↓Mr.fTry.eq_1, ↓Mr.fBrk.eq_1, ↓Mr.fCnt.eq_1, ↓Mr.gN.eq_1, ↓Mr.gT.eq_1, ↓Mr.gsNil.eq_1, ↓Mr.gsCons.eq_1, ↓Mr.xk,
  ↓Mr.fVar.eq_1, ↓Mr.fC.eq_1, ↓Mr.f2.eq_1, ↓Mr.f3.eq_1, ↓Mr.g2.eq_1, ↓Mr.kB.eq_1, ↓Mr.fTest.eq_1, ↓Mr.fTru.eq_1, ↓Mr.fAnd.eq_1, ↓Mr.fOr.eq_1, ↓Mr.fNot.eq_1, ↓Mr.fAndV.eq_1, ↓Mr.fOrV.eq_1, ↓Mr.fNotV.eq_1, ↓Mr.fIf.eq_1, ↓Mr.fUn.eq_1, ↓Mr.onO.eq_1, Mr.onB_bl, Mr.onB_non, Mr.onB_int, Mr.onB_str, Mr.onB_lst, Mr.onB_tup, Mr.onB_dct, ↓Mr.fNil.eq_1, ↓Mr.fCons.eq_1, ↓Mr.fLst.eq_1, ↓Mr.fTup.eq_1, ↓Mr.fLstC.eq_1, ↓Mr.fDct0.eq_1, ↓Mr.fDctC.eq_1, ↓Mr.fPar3.eq_1, ↓Mr.fSm0.eq_1, ↓Mr.fSm1.eq_1, ↓Mr.onS.eq_1, Mr.isS, Mr.eqF, List.all_cons, List.all_nil, List.any_cons, List.any_nil, Mr.upperO, Mr.lowerO, Mr.partO, Mr.isiT, Mr.tys, Mr.kkAny, Mr.reprX, Mr.S.datX, Mr.T.datX, Mr.datsX, Mr.datsK, Mr.kD, ↓Mr.fCB.eq_1, ↓Mr.fCall.eq_1, ↓Mr.fMk.eq_1, ↓Mr.fMkK.eq_1, ↓Mr.fMt.eq_1, ↓Mr.fMtK.eq_1, ↓Mr.fCallK.eq_1, ↓Mr.fErr.eq_1, ↓Mr.fStrO.eq_1, ↓Mr.fJs.eq_1, ↓Mr.jsT, ↓Mr.fSl.eq_1, ↓Mr.oNone.eq_1, ↓Mr.oSome.eq_1, ↓Mr.fLM.eq_1, ↓Mr.onL.eq_1,
  Mr.addO, Mr.intO, Mr.mulO, Mr.ltO, Mr.leO, Mr.gtO, Mr.geO, Mr.eqO, Mr.neO, Mr.isO, Mr.isnO, Mr.T.isN, Mr.negO, Mr.ixO, Mr.lenO, Mr.absO, Mr.intO1, Option.isSome_some, Option.isSome_none, Mr.S.put_pn, Mr.strO, Mr.strLO, Mr.listO, Mr.tupO, Mr.reprO, Mr.isiO, Mr.fldO, Mr.xgO, Mr.fmtO, Mr.joinO, Mr.slO, Mr.inO', Mr.ninO', Mr.inB, Mr.T.flat, Mr.S.put_same, Mr.S.put_put, Mr.S.pn_on, Mr.S.pn_pen, Mr.S.put_pen, Mr.S.pn_pn, ↓Mr.fLc.eq_1, ↓Mr.fYes.eq_1, ↓Mr.iSeq.eq_1, ↓Mr.iRange1.eq_1, ↓Mr.iRange2.eq_1, Mr.S.its?, Mr.okAt, Mr.wipeT, ↓Mr.fFor.eq_1, Mr.allO, Mr.anyO, ↓Mr.doneM.eq_1, Option.map_some, Option.map_none,  Mr.appO, Mr.revO, Mr.clrO, ↓Mr.gEqOwn.eq_1, ↓Mr.gOwn2.eq_1, ↓Mr.gOwnI_row, ↓Mr.gOwnR_row, ↓Mr.kObj.eq_1, ↓Mr.fNegO.eq_1, ↓Mr.fOwnC.eq_1, ↓Mr.fPro.eq_1, ↓Mr.gInK.eq_1, ↓Mr.gIxK.eq_1, ↓Mr.iKeyK.eq_1, Mr.eqE, Bool.true_xor, Bool.false_xor, ↓Mr.gNeOwn.eq_1,
  Mr.S.lst?, Mr.S.seq?, Mr.S.ty?, Mr.S.obj?, Mr.S.dat, Mr.T.dat, Mr.dats, Mr.atI_0, Mr.atI_1, Mr.atI_2, Mr.atI_3, Mr.atI_4, Mr.atI_5, Mr.atI_6, Mr.atI_7, Mr.atI_8, Mr.atI_9, Mr.atI_10, Mr.atI_11, Mr.atI_12, Mr.atI_13, PyData.eqv, PyData.eqvAll, Bool.and_true, Bool.true_and, beq_self_eq_true, Bool.and_self, decide_true, decide_false, Mr.okC,
  List.map_cons, List.map_nil, List.length_cons, List.length_nil, List.cons_append, List.nil_append, List.append_nil, List.replicate_succ, List.replicate_zero, List.getElem?_cons_zero, List.getElem?_cons_succ, List.set_cons_zero, List.set_cons_succ, List.getD_cons_zero, List.getD_cons_succ, L2.CPow, Int.reduceToNat, Int.reducePow, Int.reduceAbs, Int.reduceLE, Int.reduceLT, Int.reduceSub, Int.reduceAdd, Int.reduceNeg, Int.reduceMul, Int.reduceEq, Nat.reducePow, Nat.sub_self, Nat.reduceSub, Nat.reduceAdd, Nat.reduceLeDiff, Nat.reduceLT, Nat.reduceEqDiff, Nat.zero_add, Nat.add_zero, Nat.add_one_sub_one, Nat.sub_zero, Nat.zero_sub,
  true_and, and_true, ite_true, ite_false, if_true, if_false, Bool.false_eq_true, Bool.true_eq_false, ↓reduceIte, Bool.not_true, Bool.not_false, List.zip_cons_cons, List.zip_nil_left, List.zip_nil_right, M07.kkA, M07.lkA, M07.insL, M07.excL, List.mem_cons, List.not_mem_nil, or_false, or_true, true_or, false_or, reduceCtorEq, Bool.not_eq_true, Bool.not_eq_false, Bool.not_not])
local macro_rules | `(tactic| walk_at "sh") => `(tactic| exact Mr.sh (by first | (simp only [Mr.niceD, Mr.niceAll, Bool.and_true, Bool.and_eq_true, true_and, and_true]; done) | (simp only [Mr.niceD, Mr.niceAll, Bool.and_true, Bool.and_eq_true, true_and, and_true]; decide +kernel) | simp [Mr.niceD, Mr.niceAll, *]) (by simp [PyData.depth, PyData.depthAll]))
local macro_rules | `(tactic| walk_at "rp") => `(tactic| exact Mr.rp (by first | (simp only [Mr.niceD, Mr.niceAll, Bool.and_true, Bool.and_eq_true, true_and, and_true]; done) | (simp only [Mr.niceD, Mr.niceAll, Bool.and_true, Bool.and_eq_true, true_and, and_true]; decide +kernel) | simp [Mr.niceD, Mr.niceAll, *]) (by simp [PyData.depth, PyData.depthAll]) (by simp only [Mr.wD, Mr.wAll]; first | decide | omega))

def F_lbag : FD := fun ts s Q _ => ∃ w ps qs, ts = [.str (sg w), .lst (ps.map pr), .lst (qs.map pr)] ∧ ps.length ≤ 300 ∧ qs.length ≤ 300 ∧ Q (.lst ((bagF w ps qs).map pr)) s
theorem take_min (ms ns : List Pr) : ms.take (min ms.length ns.length) = ms.take ns.length := by
  rcases Nat.le_total ms.length ns.length with h | h
  · rw [Nat.min_eq_left h, List.take_of_length_le (Nat.le_refl _), List.take_of_length_le h]
  · rw [Nat.min_eq_right h]
theorem drop_min (ms ns : List Pr) : ms.drop (min ms.length ns.length) = ms.drop ns.length := by
  rcases Nat.le_total ms.length ns.length with h | h
  · rw [Nat.min_eq_left h, List.drop_of_length_le (Nat.le_refl _), List.drop_of_length_le h]
  · rw [Nat.min_eq_right h]
theorem drop_min2 (ms ns : List Pr) : ns.drop (min ms.length ns.length) = ns.drop ms.length := by
  rw [Nat.min_comm]
  exact drop_min ns ms
theorem cut_neg1 (xs : List Mr.T) : cutT xs (some (-1)) none = xs.drop (xs.length - 1) := by
  unfold cutT
  have e : HT.sIx xs.length 0 (some (-1)) = xs.length - 1 := by
    unfold HT.sIx
    simp
    omega
  rw [HT.sIx_none, e]
  exact List.take_of_length_le (by rw [List.length_drop]; exact Nat.le_refl _)
section
variable {w : World} {K : PySem.W.Frag} {mg : Str → Option Value} {base : Heap} {cl : CL}
theorem fn_lbag (T : Txt K w mg cl base) : ∀ {x : Str} {f : Addr} {fd : FuncData}, C8.Fun K x "_law_bag" s_lbag f fd → FnG P w K mg base 3 f fd ["_law_word", "_law_ones", "_law_others"] (spM K cl F_lbag) := by
  refine fnM (k := 2) (N := N_lbag) sc_lbag ?len (fun f cdv A out s H E hr => (jss_cons (js_set (i := 3) sc_lbag.nd rfl (Or.inl rfl) (je_lst ja_nil))
    (jss_cons (js_for (L2.passes_of rfl) rfl (ji_seq (je_b c_sortI (by rfl) T.n_sorted (by decide +kernel) (ja_cons (je_lc (own := [("_law_pair", 5)]) (by rfl) sc_lbag.nd (ji_seq (je_op o_add (je_var 1) (je_var 2))) (blkOk_by (own := [("_law_pair", 5)]) (N := N_lbag) (sc := C8.fnScope s_lbag) (by decide +kernel)) (fun _ _ _ _ _ => (pg_name (i := 5) sc_lbag.nd rfl (Or.inl rfl))) (gt_name (i := 5) (by decide))  (fun _ _ _ _ _ => (je_bt c_int (by rfl) T.n_int (by decide +kernel) (ja_cons (je_ix (je_var 5) je_int (fun _ _ => rfl)) ja_nil)))) ja_nil))) (jg_name (i := 4) sc_lbag.nd rfl (Or.inr rfl))
      (jss_one (js_if (jt_cmp (o_nin hr) (je_var 4) (je_lc (own := [("_law_pair", 5)]) (by rfl) sc_lbag.nd (ji_seq (je_slice (je_var 3) (jo_some (je_neg je_int)) jo_none)) (blkOk_by (own := [("_law_pair", 5)]) (N := N_lbag) (sc := C8.fnScope s_lbag) (by decide +kernel)) (fun _ _ _ _ _ => (pg_name (i := 5) sc_lbag.nd rfl (Or.inl rfl))) (gt_name (i := 5) (by decide))  (fun _ _ _ _ _ => (je_ix (je_var 5) je_int (fun _ _ => rfl)))) (by rfl)) (jss_cons (js_setLcIf (i := 6) (own := [("_law_pair", 5)]) (by rfl) sc_lbag.nd rfl rfl (sw_true rfl rfl rfl (by decide +kernel)) (ji_seq (je_var 1)) (blkOk_by (own := [("_law_pair", 5)]) (N := N_lbag) (sc := C8.fnScope s_lbag) (by decide +kernel)) (fun _ _ _ _ _ => (pg_name (i := 5) sc_lbag.nd rfl (Or.inl rfl))) (gt_name (i := 5) (by decide)) (fun _ _ _ _ _ => (jt_cmp (o_eq hr) (je_ix (je_var 5) je_int (fun _ _ => rfl)) (je_var 4) (nomark _))) (fun _ _ _ _ _ => (je_var 5)))
        (jss_cons (js_setLcIf (i := 7) (own := [("_law_pair", 5)]) (by rfl) sc_lbag.nd rfl rfl (sw_true rfl rfl rfl (by decide +kernel)) (ji_seq (je_var 2)) (blkOk_by (own := [("_law_pair", 5)]) (N := N_lbag) (sc := C8.fnScope s_lbag) (by decide +kernel)) (fun _ _ _ _ _ => (pg_name (i := 5) sc_lbag.nd rfl (Or.inl rfl))) (gt_name (i := 5) (by decide)) (fun _ _ _ _ _ => (jt_cmp (o_eq hr) (je_ix (je_var 5) je_int (fun _ _ => rfl)) (je_var 4) (nomark _))) (fun _ _ _ _ _ => (je_var 5)))
        (jss_cons (js_set (i := 8) sc_lbag.nd rfl (Or.inl rfl) (je_ix (je_lst (ja_cons (je_b c_len (by rfl) T.n_len (by decide +kernel) (ja_cons (je_var 6) ja_nil)) (ja_cons (je_b c_len (by rfl) T.n_len (by decide +kernel) (ja_cons (je_var 7) ja_nil)) ja_nil))) (je_bt c_int (by rfl) T.n_int (by decide +kernel) (ja_cons (je_cmp o_lt (je_b c_len (by rfl) T.n_len (by decide +kernel) (ja_cons (je_var 7) ja_nil)) (je_b c_len (by rfl) T.n_len (by decide +kernel) (ja_cons (je_var 6) ja_nil)) (nomark _)) ja_nil)) (fun _ _ => rfl)))
        (jss_one (js_if (jt_cmp (o_eq hr) (je_var 0) je_str (nomark _)) (jss_one (js_set (i := 3) sc_lbag.nd rfl (Or.inl rfl) (je_op o_add (je_op o_add (je_var 3) (je_var 6)) (je_var 7)))) (jss_one (js_if (jt_cmp (o_eq hr) (je_var 0) je_str (nomark _)) (jss_one (js_set (i := 3) sc_lbag.nd rfl (Or.inl rfl) (je_op o_add (je_op o_add (je_var 3) (je_var 6)) (je_slice (je_var 7) (jo_some (je_b c_len (by rfl) T.n_len (by decide +kernel) (ja_cons (je_var 6) ja_nil))) jo_none)))) (jss_one (js_if (jt_cmp (o_eq hr) (je_var 0) je_str (nomark _)) (jss_one (js_set (i := 3) sc_lbag.nd rfl (Or.inl rfl) (je_op o_add (je_var 3) (je_slice (je_var 6) jo_none (jo_some (je_var 8)))))) (jss_one (js_if (jt_cmp (o_eq hr) (je_var 0) je_str (nomark _)) (jss_one (js_set (i := 3) sc_lbag.nd rfl (Or.inl rfl) (je_op o_add (je_var 3) (je_slice (je_var 6) (jo_some (je_var 8)) jo_none)))) (jss_one (js_set (i := 3) sc_lbag.nd rfl (Or.inl rfl) (je_op o_add (je_op o_add (je_var 3) (je_slice (je_var 6) (jo_some (je_var 8)) jo_none)) (je_slice (je_var 7) (jo_some (je_var 8)) jo_none))))))))))))))) jss_nil)))
    (jss_one (js_ret (je_var 3)))))) ?sem
  case len => rintro ts s Q E ⟨_, _, _, rfl, _⟩; rfl
  case sem =>
    rintro ts s Q E ⟨w, ps, qs, rfl, h1, h2, k⟩
    walk_at "mm"
    refine ⟨by simp; omega, ?_⟩
    rw [← List.map_append]
    refine lc_map (fun t => match t with | .tup [x, _] => x | t => t) ?_ (by simp; omega) ?_ trivial
    · intro t ht Q' k'
      obtain ⟨p, _, rfl⟩ := List.mem_map.mp ht
      unfold pr
      walk_at "mm"
      exact k'
    rw [List.nil_append, List.map_map, show ((fun t : Mr.T => match t with | .tup [x, _] => x | t => t) ∘ pr) = fun p : Pr => Mr.T.int p.1 from rfl, show (ps ++ qs).map (fun p : Pr => Mr.T.int p.1) = ((ps ++ qs).map (·.1)).map Mr.T.int by rw [List.map_map]; rfl]
    walk_at "mm"
    rw [intsOf_map, List.map_append]
    walk_at "mm"
    refine for_ind (fun pre post τ s' => ∃ (is : List Int) (x4 x5 x6 x7 x8 : Option Mr.T), s' = s ∧ pre = is.map Mr.T.int ∧ (is.foldl (stepB w ps qs) []).length ≤ 600 * is.length ∧ pre.length + post.length ≤ 600 ∧ τ = [some (.str (sg w)), some (.lst (ps.map pr)), some (.lst (qs.map pr)), some (.lst ((is.foldl (stepB w ps qs) []).map pr)), x4, x5, x6, x7, x8]) ?_ (fun _ _ _ _ _ => trivial) ?_ ?_
    · refine ⟨[], none, none, none, none, none, rfl, rfl, Nat.le_refl _, ?_, rfl⟩
      have := (sortI_perm (ps.map (·.1) ++ qs.map (·.1))).length_eq
      simp only [List.length_append, List.length_map, List.length_nil] at this ⊢
      omega
    · rintro pre t post τ s' N e ⟨is, x4, x5, x6, x7, x8, rfl, rfl, hl, hn, rfl⟩ k'
      obtain ⟨r, rfl⟩ : ∃ r : Int, t = .int r := by
        have ht : t ∈ (sortI (ps.map (·.1) ++ qs.map (·.1))).map Mr.T.int := by
          rw [e]
          exact List.mem_append_right _ List.mem_cons_self
        obtain ⟨r, _, rfl⟩ := List.mem_map.mp ht
        exact ⟨r, rfl⟩
      rw [List.length_map, List.length_cons] at hn
      have stepF : (is ++ [r]).foldl (stepB w ps qs) [] = stepB w ps qs (is.foldl (stepB w ps qs) []) r := by rw [List.foldl_append]; rfl
      have hlen := chs_len w (fl r ps) (fl r qs)
      have hfp : (fl r ps).length ≤ ps.length := List.length_filter_le _ _
      have hfq : (fl r qs).length ≤ qs.length := List.length_filter_le _ _
      generalize hf : is.foldl (stepB w ps qs) [] = f at hl stepF ⊢
      have lf : (stepB w ps qs f r).length ≤ 600 * (is.length + 1) := by
        unfold stepB
        split
        · omega
        · rw [List.length_append]; omega
      have go : ∀ x4 x5 x6 x7 x8, N [some (.str (sg w)), some (.lst (ps.map pr)), some (.lst (qs.map pr)), some (.lst ((stepB w ps qs f r).map pr)), x4, x5, x6, x7, x8] s' := fun x4 x5 x6 x7 x8 =>
        k' _ _ ⟨is ++ [r], x4, x5, x6, x7, x8, rfl, by rw [List.map_append]; rfl, by rw [stepF, List.length_append, List.length_singleton]; exact lf, by simp; omega, by rw [stepF]⟩
      walk_at "mm"
      have cl : cutT (f.map pr) (some (-1)) none = (f.drop (f.length - 1)).map pr := by
        rw [cut_neg1, List.length_map, List.map_drop]
      rw [cl]
      refine lc_map (fun t => match t with | .tup [x, _] => x | t => t) ?_ (by simp; omega) ?_ trivial
      · intro t ht Q' k2
        obtain ⟨p, _, rfl⟩ := List.mem_map.mp ht
        unfold pr
        walk_at "mm"
        exact k2
      rw [List.nil_append, List.map_map, show ((fun t : Mr.T => match t with | .tup [x, _] => x | t => t) ∘ pr) = fun p : Pr => Mr.T.int p.1 from rfl]
      walk_at "mm"
      have skip : f.getLast?.map (·.1) = some r → stepB w ps qs f r = f := fun z => if_pos z
      have take : f.getLast?.map (·.1) ≠ some r → stepB w ps qs f r = f ++ chs w (fl r ps) (fl r qs) := fun z => if_neg z
      have fil : ∀ (zs : List Pr), (zs.map pr).filter (fun t => match t with | .tup [.int x, _] => decide (x = r) | _ => false) = (fl r zs).map pr := fun zs => by
        rw [List.filter_map]
        rfl
      rcases List.eq_nil_or_concat f with rfl | ⟨f', p, rfl⟩
      case' inl =>
        have take := take (by simp)
        rw [show ([] : List Pr).drop (([] : List Pr).length - 1) = [] from rfl]
        walk_at "mm"
      case' inr =>
        rw [List.concat_eq_append] at *
        rw [show (f' ++ [p]).drop ((f' ++ [p]).length - 1) = [p] by simp]
        walk_at "mm"
        by_cases z : p.1 = r
        case' pos =>
          have skip := skip (by simp [z])
          rw [show (!(p.1 == r || false)) = false by simp [z], hIte_false]
          walk_at "mm"
          rw [skip] at go
          exact go _ _ _ _ _
        case' neg =>
          have take := take (by simp [z])
          rw [show (!(p.1 == r || false)) = true by simp [z], hIte_true]
          walk_at "mm"
      all_goals rw [take] at go lf
      all_goals (
        refine lc_filter (fun t => match t with | .tup [.int x, _] => decide (x = r) | _ => false) (fun t => t) ?_ ?_ (by simp; omega) ?_ trivial
        · intro t ht Q' k2
          obtain ⟨p, _, rfl⟩ := List.mem_map.mp ht
          unfold pr
          walk_at "mm"
          exact k2
        · intro t ht _ Q' k2
          walk_at "mm"
          exact k2
        rw [List.nil_append, List.map_id', fil]
        walk_at "mm"
        refine lc_filter (fun t => match t with | .tup [.int x, _] => decide (x = r) | _ => false) (fun t => t) ?_ ?_ (by simp; omega) ?_ trivial
        · intro t ht Q' k2
          obtain ⟨p, _, rfl⟩ := List.mem_map.mp ht
          unfold pr
          walk_at "mm"
          exact k2
        · intro t ht _ Q' k2
          walk_at "mm"
          exact k2
        rw [List.nil_append, List.map_id', fil]
        walk_at "mm"
        have eb : atI [Mr.T.int ((fl r ps).map pr).length, Mr.T.int ((fl r qs).map pr).length] (if decide ((((fl r qs).map pr).length : Int) < ((fl r ps).map pr).length) = true then 1 else 0) = some (.int ((min (fl r ps).length (fl r qs).length : Nat) : Int)) := by
          rw [List.length_map, List.length_map]
          by_cases z : (fl r qs).length < (fl r ps).length
          · rw [decide_eq_true (by omega), if_pos rfl, Nat.min_eq_right (by omega)]
            rfl
          · rw [decide_eq_false (by omega), if_neg (by simp), Nat.min_eq_left (by omega)]
            rfl
        rw [eb]
        walk_at "mm"
        have dm : ∀ (zs : List Pr) (n : Nat), cutT (zs.map pr) (some (n : Int)) none = (zs.drop n).map pr := fun zs n => by rw [cut_from (by omega), Int.toNat_natCast, List.map_drop]
        have tm : ∀ (zs : List Pr) (n : Nat), cutT (zs.map pr) none (some (n : Int)) = (zs.take n).map pr := fun zs n => by rw [cut_to (by omega), Int.toNat_natCast, List.map_take]
        simp only [List.length_append, List.length_singleton, List.length_nil] at hl
        have g := go (some (.int r)) x5 (some (.lst ((fl r ps).map pr))) (some (.lst ((fl r qs).map pr))) (some (.int ((min (fl r ps).length (fl r qs).length : Nat) : Int)))
        unfold chs at g
        rcases w with _ | _ | _ | _ | w
        · refine hIte.by (fun _ => ?_) fun h => absurd h (by decide +kernel)
          walk_at "mm"
          refine ⟨by first | omega | (simp; omega), by first | omega | (simp; omega), ?_⟩
          simp only [List.map_append, List.append_assoc, List.nil_append] at g ⊢
          exact g
        · refine hIte.by (fun h => absurd h (by decide +kernel)) fun _ => ?_
          walk_at "mm"
          refine hIte.by (fun _ => ?_) fun h => absurd h (by decide +kernel)
          walk_at "mm"
          rw [dm]
          simp only [List.length_map]
          refine ⟨by first | omega | (simp; omega), by first | omega | (simp; omega), ?_⟩
          simp only [List.map_append, List.append_assoc, List.nil_append] at g ⊢
          exact g
        · refine hIte.by (fun h => absurd h (by decide +kernel)) fun _ => ?_
          walk_at "mm"
          refine hIte.by (fun h => absurd h (by decide +kernel)) fun _ => ?_
          walk_at "mm"
          refine hIte.by (fun _ => ?_) fun h => absurd h (by decide +kernel)
          walk_at "mm"
          rw [tm, take_min]
          refine ⟨by first | omega | (simp; omega), ?_⟩
          simp only [List.map_append, List.append_assoc, List.nil_append] at g ⊢
          exact g
        · refine hIte.by (fun h => absurd h (by decide +kernel)) fun _ => ?_
          walk_at "mm"
          refine hIte.by (fun h => absurd h (by decide +kernel)) fun _ => ?_
          walk_at "mm"
          refine hIte.by (fun h => absurd h (by decide +kernel)) fun _ => ?_
          walk_at "mm"
          refine hIte.by (fun _ => ?_) fun h => absurd h (by decide +kernel)
          walk_at "mm"
          rw [dm, drop_min]
          refine ⟨by first | omega | (simp; omega), ?_⟩
          simp only [List.map_append, List.append_assoc, List.nil_append] at g ⊢
          exact g
        · refine hIte.by (fun h => absurd h (by show ¬ decide (Str.ofString "^" = _) = true; decide +kernel)) fun _ => ?_
          walk_at "mm"
          refine hIte.by (fun h => absurd h (by show ¬ decide (Str.ofString "^" = _) = true; decide +kernel)) fun _ => ?_
          walk_at "mm"
          refine hIte.by (fun h => absurd h (by show ¬ decide (Str.ofString "^" = _) = true; decide +kernel)) fun _ => ?_
          walk_at "mm"
          refine hIte.by (fun h => absurd h (by show ¬ decide (Str.ofString "^" = _) = true; decide +kernel)) fun _ => ?_
          walk_at "mm"
          rw [dm, dm, drop_min, drop_min2]
          refine ⟨by first | omega | (simp; omega), by first | omega | (simp; omega), ?_⟩
          simp only [List.map_append, List.append_assoc, List.nil_append] at g ⊢
          exact g)
    · rintro τ s' ⟨is, x4, x5, x6, x7, x8, rfl, e, hl, hn, rfl⟩
      have e2 : is = allR ps qs := (List.map_inj_right (fun _ _ z => Mr.T.int.inj z)).mp e.symm
      walk_at "mm"
      rw [e2]
      exact k
theorem ok_lbag (T : Txt K w mg cl base) : CalM P w K mg base cl 3 "_law_bag" F_lbag [] := calOf T.d_lbag (fun _ _ _ => .nil) (fn_lbag T)
end
end M07

namespace M07
open PySem PySem.Spec PyProof.Rows L2 Tw Mr
local macro_rules | `(tactic| walk_at "mm") => `(tactic| simp -implicitDefEqProofs only [↓Mr.hold_cM, ↓Mr.hold_ite, ↓Mr.hold_for, ↓Mr.hold_lc, ↓Mr.hold_wh, ↓Mr.hold_act, ↓Mr.fRetC.eq_1, ↓Mr.hold_lam, ↓Mr.hold_lcX, ↓Mr.fLcX.eq_1, ↓Mr.fAug.eq_1, ↓Mr.gInp.eq_1, ↓Mr.gBag.eq_1, Mr.S.sq?, ↓Mr.iEnumA.eq_1, Mr.S.enumA?, Mr.sortO, Mr.intsOf, ↓Mr.fStar.eq_1, ↓Mr.fSetO.eq_1, ↓Mr.mCase.eq_1, ↓Mr.fMatch.eq_1, ↓Mr.iEnum.eq_1, Mr.S.enum?, Mr.maxO,  Mr.hIte_true, Mr.hIte_false, ↓Mr.startT.eq_1, ↓Mr.endsM.eq_1, ↓Mr.lawEnds.eq_1, ↓Mr.fSeq.eq_1, ↓Mr.fSkip.eq_1, ↓Mr.fRet.eq_1, ↓Mr.fRetN.eq_1, ↓Mr.fRetF.eq_1, ↓Mr.fDrop.eq_1, ↓Mr.fSet.eq_1, ↓Mr.fAsg.eq_1, ↓Mr.fPar.eq_1, ↓Mr.fFldS.eq_1, ↓Mr.fIfS.eq_1, ↓Mr.fRaise.eq_1, ↓Mr.fTry.eq_1, ↓Mr.fBrk.eq_1, ↓Mr.fCnt.eq_1, ↓Mr.gN.eq_1, ↓Mr.gT.eq_1, ↓Mr.gsNil.eq_1, ↓Mr.gsCons.eq_1, ↓Mr.xk,
  ↓Mr.fVar.eq_1, ↓Mr.fC.eq_1, ↓Mr.f2.eq_1, ↓Mr.f3.eq_1, ↓Mr.g2.eq_1, ↓Mr.kB.eq_1, ↓Mr.fTest.eq_1, ↓Mr.fTru.eq_1, ↓Mr.fAnd.eq_1, ↓Mr.fOr.eq_1, ↓Mr.fNot.eq_1, ↓Mr.fAndV.eq_1, ↓Mr.fOrV.eq_1, ↓Mr.fNotV.eq_1, ↓Mr.fIf.eq_1, ↓Mr.fUn.eq_1, ↓Mr.onO.eq_1, Mr.onB_bl, Mr.onB_non, Mr.onB_int, Mr.onB_str, Mr.onB_lst, Mr.onB_tup, Mr.onB_dct, ↓Mr.fNil.eq_1, ↓Mr.fCons.eq_1, ↓Mr.fLst.eq_1, ↓Mr.fTup.eq_1, ↓Mr.fLstC.eq_1, ↓Mr.fDct0.eq_1, ↓Mr.fDctC.eq_1, ↓Mr.fPar3.eq_1, ↓Mr.fSm0.eq_1, ↓Mr.fSm1.eq_1, ↓Mr.onS.eq_1, Mr.isS, Mr.eqF, List.all_cons, List.all_nil, List.any_cons, List.any_nil, Mr.upperO, Mr.lowerO, Mr.partO, Mr.isiT, Mr.tys, Mr.kkAny, Mr.reprX, Mr.S.datX, Mr.T.datX, Mr.datsX, Mr.datsK, Mr.kD, ↓Mr.fCB.eq_1, ↓Mr.fCall.eq_1, ↓Mr.fMk.eq_1, ↓Mr.fMkK.eq_1, ↓Mr.fMt.eq_1, ↓Mr.fMtK.eq_1, ↓Mr.fCallK.eq_1, ↓Mr.fErr.eq_1, ↓Mr.fStrO.eq_1, ↓Mr.fJs.eq_1, ↓Mr.jsT, ↓Mr.fSl.eq_1, ↓Mr.oNone.eq_1, ↓Mr.oSome.eq_1, ↓Mr.fLM.eq_1, ↓Mr.onL.eq_1,
  Mr.addO, Mr.intO, Mr.mulO, Mr.ltO, Mr.leO, Mr.gtO, Mr.geO, Mr.eqO, Mr.neO, Mr.isO, Mr.isnO, Mr.T.isN, Mr.negO, Mr.ixO, Mr.lenO, Mr.absO, Mr.intO1, Option.isSome_some, Option.isSome_none, Mr.S.put_pn, Mr.strO, Mr.strLO, Mr.listO, Mr.tupO, Mr.reprO, Mr.isiO, Mr.fldO, Mr.xgO, Mr.fmtO, Mr.joinO, Mr.slO, Mr.inO', Mr.ninO', Mr.inB, Mr.T.flat, Mr.S.put_same, Mr.S.put_put, Mr.S.pn_on, Mr.S.pn_pen, Mr.S.put_pen, Mr.S.pn_pn, ↓Mr.fLc.eq_1, ↓Mr.fYes.eq_1, ↓Mr.iSeq.eq_1, ↓Mr.iRange1.eq_1, ↓Mr.iRange2.eq_1, Mr.S.its?, Mr.okAt, Mr.wipeT, ↓Mr.fFor.eq_1, Mr.allO, Mr.anyO, ↓Mr.doneM.eq_1, Option.map_some, Option.map_none,  Mr.appO, Mr.revO, Mr.clrO, ↓Mr.gEqOwn.eq_1, ↓Mr.gOwn2.eq_1, ↓Mr.gOwnI_row, ↓Mr.gOwnR_row, ↓Mr.kObj.eq_1, ↓Mr.fNegO.eq_1, ↓Mr.fOwnC.eq_1, ↓Mr.fPro.eq_1, ↓Mr.gInK.eq_1, ↓Mr.gIxK.eq_1, ↓Mr.iKeyK.eq_1, Mr.eqE, Bool.true_xor, Bool.false_xor, ↓Mr.gNeOwn.eq_1,
  Mr.S.lst?, Mr.S.seq?, Mr.S.ty?, Mr.S.obj?, Mr.S.dat, Mr.T.dat, Mr.dats, Mr.atI_0, Mr.atI_1, Mr.atI_2, Mr.atI_3, Mr.atI_4, Mr.atI_5, Mr.atI_6, Mr.atI_7, Mr.atI_8, Mr.atI_9, Mr.atI_10, Mr.atI_11, Mr.atI_12, Mr.atI_13, PyData.eqv, PyData.eqvAll, Bool.and_true, Bool.true_and, beq_self_eq_true, Bool.and_self, decide_true, decide_false, Mr.okC,
  List.map_cons, List.map_nil, List.length_cons, List.length_nil, List.cons_append, List.nil_append, List.append_nil, List.replicate_succ, List.replicate_zero, List.getElem?_cons_zero, List.getElem?_cons_succ, List.set_cons_zero, List.set_cons_succ, List.getD_cons_zero, List.getD_cons_succ, L2.CPow, Int.reduceToNat, Int.reducePow, Int.reduceAbs, Int.reduceLE, Int.reduceLT, Int.reduceSub, Int.reduceAdd, Int.reduceNeg, Int.reduceMul, Int.reduceEq, Nat.reducePow, Nat.sub_self, Nat.reduceSub, Nat.reduceAdd, Nat.reduceLeDiff, Nat.reduceLT, Nat.reduceEqDiff, Nat.zero_add, Nat.add_zero, Nat.add_one_sub_one, Nat.sub_zero, Nat.zero_sub,
  true_and, and_true, ite_true, ite_false, if_true, if_false, Bool.false_eq_true, Bool.true_eq_false, ↓reduceIte, Bool.not_true, Bool.not_false, List.zip_cons_cons, List.zip_nil_left, List.zip_nil_right, M07.kkA, M07.lkA, M07.insL, M07.excL, List.mem_cons, List.not_mem_nil, or_false, or_true, true_or, false_or, reduceCtorEq, Bool.not_eq_true, Bool.not_eq_false, Bool.not_not])
local macro_rules | `(tactic| walk_at "sh") => `(tactic| exact Mr.sh (by first | (simp only [Mr.niceD, Mr.niceAll, Bool.and_true, Bool.and_eq_true, true_and, and_true]; done) | (simp only [Mr.niceD, Mr.niceAll, Bool.and_true, Bool.and_eq_true, true_and, and_true]; decide +kernel) | simp [Mr.niceD, Mr.niceAll, *]) (by simp [PyData.depth, PyData.depthAll]))
local macro_rules | `(tactic| walk_at "rp") => `(tactic| exact Mr.rp (by first | (simp only [Mr.niceD, Mr.niceAll, Bool.and_true, Bool.and_eq_true, true_and, and_true]; done) | (simp only [Mr.niceD, Mr.niceAll, Bool.and_true, Bool.and_eq_true, true_and, and_true]; decide +kernel) | simp [Mr.niceD, Mr.niceAll, *]) (by simp [PyData.depth, PyData.depthAll]) (by simp only [Mr.wD, Mr.wAll]; first | decide | omega))

def B0 : Int := 100000000000000000000000000000 + 1000000000 * 100
def F_beside : FD := fun ts s Q _ => ∃ ps, ts = [.pen, .lst (ps.map pr)] ∧ Ok B0 ps ∧ ps.length ≤ 300 ∧ s.pen ≤ 800000 ∧ ∀ qs n, qs.length ≤ 24 → Ok B0 qs → n ≤ s.pen + 100 → Q (.lst (qs.map pr)) (s.pn n)
section
variable {w : World} {K : PySem.W.Frag} {mg : Str → Option Value} {base : Heap} {cl : CL}
theorem fn_beside (T : Txt K w mg cl base) : ∀ {x : Str} {f : Addr} {fd : FuncData}, C8.Fun K x "_law_beside" s_beside f fd → FnG P w K mg base 12 f fd ["_law_pen_here", "_law_pairs_here"] (spM K cl F_beside) := by
  refine fnD (k := 11) (N := N_beside) sc_beside ?len (fun f cdv A out s H E hr => (jss_cons (js_set (i := 2) sc_beside.nd rfl (Or.inl rfl) (je_lstC ja_nil))
    (jss_cons (js_for (L2.passes_of rfl) rfl (ji_seq (je_slice (je_var 1) jo_none (jo_some je_int))) (jg_tup (n := 2) (by rfl) (jgs_cons (jg_name (i := 3) sc_beside.nd rfl (Or.inl rfl)) (jgs_cons (jg_name (i := 4) sc_beside.nd rfl (Or.inl rfl)) jgs_nil)))
      (jss_one (js_for (L2.passes_of rfl) rfl (ji_range1 (by rfl) T.n_range (ja_cons (je_ix (je_lst (ja_cons je_int (ja_cons je_int (ja_cons je_int ja_nil)))) (je_call Tw.tk_cx (ok_draw T) hr (by decide) (by rfl) (ja_cons (je_var 0) (ja_cons je_int ja_nil))) (fun _ _ => rfl)) ja_nil)) (jg_name (i := 5) sc_beside.nd rfl (Or.inl rfl))
        (jss_one (js_expr (je_lm lm_append PySem.F.slot_list_append PySem.F.type_list_append (je_var 2) (ja_cons (je_tup (ja_cons (je_var 3) (ja_cons (je_call Tw.tk_cx (ok_pick T) hr (by decide) (by rfl) (ja_cons (je_var 0) (ja_cons (je_lst (ja_cons je_str (ja_cons je_str ja_nil))) ja_nil))) ja_nil))) ja_nil)))))))
    (jss_one (js_retC (je_ix (je_lst (ja_cons (je_var 2) (ja_cons (je_call Tw.tk_cx (ok_pairs T) hr (by decide) (by rfl) (ja_cons (je_var 0) (ja_cons je_int ja_nil))) ja_nil))) (je_call Tw.tk_cx (ok_draw T) hr (by decide) (by rfl) (ja_cons (je_var 0) (ja_cons je_int ja_nil))) (fun _ _ => rfl))))))) ?sem
  case len => rintro ts s Q E ⟨_, rfl, _⟩; rfl
  case sem =>
    rintro ts s Q E ⟨ps, rfl, hok, hl, hn, k⟩
    have asc := asc_of hok.2
    walk_at "mm"
    intro a ha
    rw [cut_to (by decide), show ((12 : Int)).toNat = 12 from rfl, ← List.map_take]
    refine for_ind (fun pre post τ s' => ∃ (zs rest qs : List Pr) (x3 x4 x5 : Option Mr.T) (n : Nat), s' = (s.pn n).put a (.lst (qs.map pr)) ∧ ps.take 12 = zs ++ rest ∧ post = rest.map pr ∧ zs.length = pre.length ∧ qs.length ≤ 2 * zs.length ∧ Asc qs ∧ (∀ q ∈ qs, nameB (.str q.2) = true ∧ ∃ z ∈ zs, q.1 = z.1) ∧ n ≤ s.pen + 3 * zs.length ∧ τ = [some .pen, some (.lst (ps.map pr)), some (.cell a), x3, x4, x5]) ?_ (fun _ _ _ _ _ => trivial) ?_ ?_
    · exact ⟨[], ps.take 12, [], none, none, none, s.pen, rfl, rfl, rfl, rfl, Nat.le_refl _, .nil, by simp, Nat.le_refl _, rfl⟩
    · rintro pre t post τ s' N e ⟨zs, rest, qs, x3, x4, x5, n, rfl, hz, hp, hzl, hql, hqa, hqm, hn', rfl⟩ k'
      obtain ⟨⟨r, nm⟩, rest, rfl, rfl, rfl⟩ := List.map_eq_cons_iff.mp hp.symm
      have h12 : zs.length + rest.length + 1 ≤ 12 := by
        have := congrArg List.length hz
        rw [List.length_append, List.length_cons, List.length_take] at this
        omega
      have ascz : Asc (zs ++ (r, nm) :: rest) := hz ▸ asc.sublist (List.take_sublist _ _)
      have below : ∀ z ∈ zs, z.1 ≤ r := fun z h => (List.pairwise_append.mp ascz).2.2 z h (r, nm) List.mem_cons_self
      unfold pr
      walk_at "mm"
      refine use_drawH (by decide) (by decide) (by simp only [S.put_pen, S.pn_pen]; omega) fun j j0 j1 => ?_
      obtain ⟨v, ev, v0, v1⟩ : ∃ v : Nat, atI [Mr.T.int 0, Mr.T.int 1, Mr.T.int 2] j = some (.int v) ∧ 0 ≤ v ∧ v ≤ 2 := by
        have : j = 0 ∨ j = 1 ∨ j = 2 := by omega
        rcases this with rfl | rfl | rfl
        · exact ⟨0, rfl, by omega, by omega⟩
        · exact ⟨1, rfl, by omega, by omega⟩
        · exact ⟨2, rfl, by omega, by omega⟩
      walk_at "mm"
      rw [ev]
      walk_at "mm"
      refine ⟨⟨by omega, by omega⟩, ?_⟩
      have le : ∀ q : Pr, (∃ z ∈ zs ++ [(r, nm)], q.1 = z.1) → q.1 ≤ r := by
        rintro q ⟨z, hz, e⟩
        rw [e]
        rcases List.mem_append.mp hz with h | h
        · exact below z h
        · cases List.mem_singleton.mp h
          exact Int.le_refl _
      refine for_ind (fun pre2 post2 τ2 s2 => ∃ (qs2 : List Pr) (x5 : Option Mr.T) (n2 : Nat), s2 = (s.pn n2).put a (.lst (qs2.map pr)) ∧ qs2.length ≤ qs.length + pre2.length ∧ pre2.length + post2.length = v ∧ Asc qs2 ∧ (∀ q ∈ qs2, nameB (.str q.2) = true ∧ ∃ z ∈ zs ++ [(r, nm)], q.1 = z.1) ∧ n2 ≤ n + 1 + pre2.length ∧ τ2 = [some .pen, some (.lst (ps.map pr)), some (.cell a), some (.int r), some (.str nm), x5]) ?_ (fun _ _ _ _ _ => trivial) ?_ ?_
      · refine ⟨qs, x5, n + 1, rfl, Nat.le_refl _, by rw [rng_len]; simp, hqa, fun q hq => ⟨(hqm q hq).1, ?_⟩, Nat.le_refl _, rfl⟩
        obtain ⟨z, hz, e⟩ := (hqm q hq).2
        exact ⟨z, List.mem_append_left _ hz, e⟩
      · rintro pre2 t2 post2 τ2 s2 N2 e2 ⟨qs2, x5, n2, rfl, hl2, hj2, ha2, hm2, hn2, rfl⟩ k2
        rw [List.length_cons] at hj2
        walk_at "mm"
        refine hM.of ⟨_, rfl, by simp only [S.put_pen, S.pn_pen]; omega, _, rfl, by simp, by simp, fun t ht => ?_⟩
        obtain ⟨c, rfl, hc⟩ : ∃ c : Str, t = .str c ∧ nameB (.str c) = true := by
          simp only [List.mem_cons, List.not_mem_nil, or_false] at ht
          rcases ht with rfl | rfl
          all_goals exact ⟨_, rfl, by decide +kernel⟩
        clear ht
        walk_at "mm"
        refine ⟨by simp; omega, k2 _ _ ⟨qs2 ++ [(r, c)], _, n2 + 1, by rw [List.map_append]; rfl, by simp; omega, by simp; omega, ?_, ?_, by simp; omega, rfl⟩⟩
        · refine List.pairwise_append.mpr ⟨ha2, by simp, fun x hx y hy => ?_⟩
          cases List.mem_singleton.mp hy
          exact le x (hm2 x hx).2
        · intro q hq
          rcases List.mem_append.mp hq with h | h
          · exact hm2 q h
          · cases List.mem_singleton.mp h
            exact ⟨hc, (r, nm), List.mem_append_right _ List.mem_cons_self, rfl⟩
      · rintro τ2 s2 ⟨qs2, x5, n2, rfl, hl2, hj2, ha2, hm2, hn2, rfl⟩
        rw [rng_len, Int.toNat_natCast] at hl2 hn2
        walk_at "mm"
        exact k' _ _ ⟨zs ++ [(r, nm)], rest, qs2, _, _, _, n2, rfl, by rw [List.append_assoc]; exact hz, rfl, by simp; omega, by simp; omega, ha2, hm2, by simp; omega, rfl⟩
    · rintro τ s' ⟨zs, rest, qs, x3, x4, x5, n, rfl, hz, hp, hzl, hql, hqa, hqm, hn', rfl⟩
      obtain rfl : rest = [] := by simpa using hp.symm
      rw [List.append_nil] at hz
      have h12 : zs.length ≤ 12 := by rw [← hz]; exact List.length_take_le _ _
      have okq : Ok B0 qs := ⟨fun q hq => by
        obtain ⟨h1, z, hz', e⟩ := hqm q hq
        have := hok.1 z (List.mem_of_mem_take (hz ▸ hz'))
        exact ⟨by omega, by omega, h1⟩, fl_of hqa⟩
      walk_at "mm"
      refine hM.of ⟨8, rfl, by decide, by simp only [S.put_pen, S.pn_pen]; omega, fun rs n3 hrl hrk hn3 => ?_⟩
      simp only [S.put_pen, S.pn_pen] at hn3
      walk_at "mm"
      refine use_drawH (by decide) (by decide) (by simp only [S.put_pen, S.pn_pen]; omega) fun j j0 j1 => ?_
      rcases (show j = 0 ∨ j = 1 by omega) with rfl | rfl
      · walk_at "mm"
        refine ⟨s.pn (n3 + 1), ?_, k qs (n3 + 1) (by omega) okq (by omega)⟩
        rw [S.del_put (s := s.pn (n3 + 1)) (by exact ha)]
        exact Shr.refl _
      · walk_at "mm"
        exact ⟨s.pn (n3 + 1), Shr.put (by exact ha), k rs (n3 + 1) (by omega) hrk (by omega)⟩
theorem ok_beside (T : Txt K w mg cl base) : CalM P w K mg base cl 12 "_law_beside" F_beside [] := calOf T.d_beside (fun _ _ _ => .nil) (fn_beside T)
end
end M07

namespace M07
open PySem PySem.Spec PyProof.Rows L2 Tw Mr
local macro_rules | `(tactic| walk_at "mm") => `(tactic| simp -implicitDefEqProofs only [↓Mr.hold_cM, ↓Mr.hold_ite, ↓Mr.hold_for, ↓Mr.hold_lc, ↓Mr.hold_wh, ↓Mr.hold_act, ↓Mr.fRetC.eq_1, ↓Mr.hold_lam, ↓Mr.hold_lcX, ↓Mr.fLcX.eq_1, ↓Mr.fAug.eq_1, ↓Mr.gInp.eq_1, ↓Mr.gBag.eq_1, Mr.S.sq?, ↓Mr.iEnumA.eq_1, Mr.S.enumA?, Mr.sortO, Mr.intsOf, ↓Mr.fStar.eq_1, ↓Mr.fSetO.eq_1, ↓Mr.mCase.eq_1, ↓Mr.fMatch.eq_1, ↓Mr.iEnum.eq_1, Mr.S.enum?, Mr.maxO,  Mr.hIte_true, Mr.hIte_false, ↓Mr.startT.eq_1, ↓Mr.endsM.eq_1, ↓Mr.lawEnds.eq_1, ↓Mr.fSeq.eq_1, ↓Mr.fSkip.eq_1, ↓Mr.fRet.eq_1, ↓Mr.fRetN.eq_1, ↓Mr.fRetF.eq_1, ↓Mr.fDrop.eq_1, ↓Mr.fSet.eq_1, ↓Mr.fAsg.eq_1, ↓Mr.fPar.eq_1, ↓Mr.fFldS.eq_1, ↓Mr.fIfS.eq_1, ↓Mr.fRaise.eq_1, ↓Mr.fTry.eq_1, ↓Mr.fBrk.eq_1, ↓Mr.fCnt.eq_1, ↓Mr.gN.eq_1, ↓Mr.gT.eq_1, ↓Mr.gsNil.eq_1, ↓Mr.gsCons.eq_1, ↓Mr.xk,
  ↓Mr.fVar.eq_1, ↓Mr.fC.eq_1, ↓Mr.f2.eq_1, ↓Mr.f3.eq_1, ↓Mr.g2.eq_1, ↓Mr.kB.eq_1, ↓Mr.fTest.eq_1, ↓Mr.fTru.eq_1, ↓Mr.fAnd.eq_1, ↓Mr.fOr.eq_1, ↓Mr.fNot.eq_1, ↓Mr.fAndV.eq_1, ↓Mr.fOrV.eq_1, ↓Mr.fNotV.eq_1, ↓Mr.fIf.eq_1, ↓Mr.fUn.eq_1, ↓Mr.onO.eq_1, Mr.onB_bl, Mr.onB_non, Mr.onB_int, Mr.onB_str, Mr.onB_lst, Mr.onB_tup, Mr.onB_dct, ↓Mr.fNil.eq_1, ↓Mr.fCons.eq_1, ↓Mr.fLst.eq_1, ↓Mr.fTup.eq_1, ↓Mr.fLstC.eq_1, ↓Mr.fDct0.eq_1, ↓Mr.fDctC.eq_1, ↓Mr.fPar3.eq_1, ↓Mr.fSm0.eq_1, ↓Mr.fSm1.eq_1, ↓Mr.onS.eq_1, Mr.isS, Mr.eqF, List.all_cons, List.all_nil, List.any_cons, List.any_nil, Mr.upperO, Mr.lowerO, Mr.partO, Mr.isiT, Mr.tys, Mr.kkAny, Mr.reprX, Mr.S.datX, Mr.T.datX, Mr.datsX, Mr.datsK, Mr.kD, ↓Mr.fCB.eq_1, ↓Mr.fCall.eq_1, ↓Mr.fMk.eq_1, ↓Mr.fMkK.eq_1, ↓Mr.fMt.eq_1, ↓Mr.fMtK.eq_1, ↓Mr.fCallK.eq_1, ↓Mr.fErr.eq_1, ↓Mr.fStrO.eq_1, ↓Mr.fJs.eq_1, ↓Mr.jsT, ↓Mr.fSl.eq_1, ↓Mr.oNone.eq_1, ↓Mr.oSome.eq_1, ↓Mr.fLM.eq_1, ↓Mr.onL.eq_1,
  Mr.addO, Mr.intO, Mr.mulO, Mr.ltO, Mr.leO, Mr.gtO, Mr.geO, Mr.eqO, Mr.neO, Mr.isO, Mr.isnO, Mr.T.isN, Mr.negO, Mr.ixO, Mr.lenO, Mr.absO, Mr.intO1, Option.isSome_some, Option.isSome_none, Mr.S.put_pn, Mr.strO, Mr.strLO, Mr.listO, Mr.tupO, Mr.reprO, Mr.isiO, Mr.fldO, Mr.xgO, Mr.fmtO, Mr.joinO, Mr.slO, Mr.inO', Mr.ninO', Mr.inB, Mr.T.flat, Mr.S.put_same, Mr.S.put_put, Mr.S.pn_on, Mr.S.pn_pen, Mr.S.put_pen, Mr.S.pn_pn, ↓Mr.fLc.eq_1, ↓Mr.fYes.eq_1, ↓Mr.iSeq.eq_1, ↓Mr.iRange1.eq_1, ↓Mr.iRange2.eq_1, Mr.S.its?, Mr.okAt, Mr.wipeT, ↓Mr.fFor.eq_1, Mr.allO, Mr.anyO, ↓Mr.doneM.eq_1, Option.map_some, Option.map_none,  Mr.appO, Mr.revO, Mr.clrO, ↓Mr.gEqOwn.eq_1, ↓Mr.gOwn2.eq_1, ↓Mr.gOwnI_row, ↓Mr.gOwnR_row, ↓Mr.kObj.eq_1, ↓Mr.fNegO.eq_1, ↓Mr.fOwnC.eq_1, ↓Mr.fPro.eq_1, ↓Mr.gInK.eq_1, ↓Mr.gIxK.eq_1, ↓Mr.iKeyK.eq_1, Mr.eqE, Bool.true_xor, Bool.false_xor, ↓Mr.gNeOwn.eq_1,
  Mr.S.lst?, Mr.S.seq?, Mr.S.ty?, Mr.S.obj?, Mr.S.dat, Mr.T.dat, Mr.dats, Mr.atI_0, Mr.atI_1, Mr.atI_2, Mr.atI_3, Mr.atI_4, Mr.atI_5, Mr.atI_6, Mr.atI_7, Mr.atI_8, Mr.atI_9, Mr.atI_10, Mr.atI_11, Mr.atI_12, Mr.atI_13, PyData.eqv, PyData.eqvAll, Bool.and_true, Bool.true_and, beq_self_eq_true, Bool.and_self, decide_true, decide_false, Mr.okC,
  List.map_cons, List.map_nil, List.length_cons, List.length_nil, List.cons_append, List.nil_append, List.append_nil, List.replicate_succ, List.replicate_zero, List.getElem?_cons_zero, List.getElem?_cons_succ, List.set_cons_zero, List.set_cons_succ, List.getD_cons_zero, List.getD_cons_succ, L2.CPow, Int.reduceToNat, Int.reducePow, Int.reduceAbs, Int.reduceLE, Int.reduceLT, Int.reduceSub, Int.reduceAdd, Int.reduceNeg, Int.reduceMul, Int.reduceEq, Nat.reducePow, Nat.sub_self, Nat.reduceSub, Nat.reduceAdd, Nat.reduceLeDiff, Nat.reduceLT, Nat.reduceEqDiff, Nat.zero_add, Nat.add_zero, Nat.add_one_sub_one, Nat.sub_zero, Nat.zero_sub,
  true_and, and_true, ite_true, ite_false, if_true, if_false, Bool.false_eq_true, Bool.true_eq_false, ↓reduceIte, Bool.not_true, Bool.not_false, List.zip_cons_cons, List.zip_nil_left, List.zip_nil_right, M07.kkA, M07.lkA, M07.insL, M07.excL, List.mem_cons, List.not_mem_nil, or_false, or_true, true_or, false_or, reduceCtorEq, Bool.not_eq_true, Bool.not_eq_false, Bool.not_not])
local macro_rules | `(tactic| walk_at "sh") => `(tactic| exact Mr.sh (by first | (simp only [Mr.niceD, Mr.niceAll, Bool.and_true, Bool.and_eq_true, true_and, and_true]; done) | (simp only [Mr.niceD, Mr.niceAll, Bool.and_true, Bool.and_eq_true, true_and, and_true]; decide +kernel) | simp [Mr.niceD, Mr.niceAll, *]) (by simp [PyData.depth, PyData.depthAll]))
local macro_rules | `(tactic| walk_at "rp") => `(tactic| exact Mr.rp (by first | (simp only [Mr.niceD, Mr.niceAll, Bool.and_true, Bool.and_eq_true, true_and, and_true]; done) | (simp only [Mr.niceD, Mr.niceAll, Bool.and_true, Bool.and_eq_true, true_and, and_true]; decide +kernel) | simp [Mr.niceD, Mr.niceAll, *]) (by simp [PyData.depth, PyData.depthAll]) (by simp only [Mr.wD, Mr.wAll]; first | decide | omega))

def F_refused : FD := fun ts s Q _ => ∃ x ps, ts = [.pen, .cell x, .lst (ps.map pr)] ∧ s.on x = some (rowC ps) ∧ Ok B0 ps ∧ ps.length ≤ 200 ∧ s.pen ≤ 800000 ∧ ∀ n, n ≤ s.pen + 3 → Q (.bl true) (s.pn n)
theorem odd_bad {v : Mr.T} (h : toP v = none) {w : Nat} {ps : List Pr} {Q : List Pr → Prop} {E : Er → Prop} (k : E ⟨3, [("part", .int 1)]⟩) : inpOf w ps [.int 4, v, .int 1] Q E := by
  have e : badAt toI 0 [.int 4, v, .int 1] = some 1 := by
    have e4 : toP (.int 4) = some (4, Str.ofString "") := toP_int (of_rank (by decide) (by decide))
    unfold badAt toI
    rw [e4]
    show badAt toI 1 [v, .int 1] = _
    unfold badAt toI
    rw [h]
    rfl
  unfold inpOf rowOf
  rw [e]
  exact k
theorem two_bad {w : Nat} {ps : List Pr} {Q : List Pr → Prop} {E : Er → Prop} (k : E ⟨5, [("at", .int 1)]⟩) : inpOf w ps [.int 2, .int 1] Q E := by
  have v : Vals' [.int 2, .int 1] [(2, Str.ofString ""), (1, Str.ofString "")] := ⟨by
    have e2 : toP (.int 2) = some (2, Str.ofString "") := toP_int (of_rank (by decide) (by decide))
    have e1 : toP (.int 1) = some (1, Str.ofString "") := toP_int (of_rank (by decide) (by decide))
    rw [List.map_cons, List.map_cons, e2, e1]
    rfl, fun x hx => .inl (by
      simp only [List.mem_cons, List.not_mem_nil, or_false] at hx
      rcases hx with rfl | rfl <;> rfl)⟩
  obtain ⟨h1, h2⟩ := vals_bad 0 v.1
  have f : FL [((2 : Int), Str.ofString ""), (1, Str.ofString "")] = [.int 1] := by rfl
  unfold inpOf rowOf
  rw [h1, h2, f]
  exact k
theorem rep_vals (r : Int) (n : Nat) (h : rankB (.int r) = true) : Vals' (List.replicate n (Mr.T.int r)) (List.replicate n (r, Str.ofString "")) := ⟨by
  rw [List.map_replicate, List.map_replicate, toP_int h], fun x hx => by
  rw [List.eq_of_mem_replicate hx]
  exact .inl rfl⟩
theorem rep_asc (r : Int) (z : Str) (n : Nat) : Asc (List.replicate n (r, z)) := List.pairwise_replicate.mpr (.inr (Int.le_refl _))
/-- two hundred items behind all others -/
theorem full_len {w : Nat} {ps : List Pr} {r : Int} {z : Str} (hw : w = 0 ∨ w = 1 ∨ w = 4) (hp : ∀ p ∈ ps, p.1 ≤ r) (hr : ∃ p ∈ ps, p.1 = r) : 200 < (bagF w ps (List.replicate 200 (r + 1, z))).length := by
  have up1 : ∀ b x : Int, upTo (some b) x = decide (x ≤ b) := fun _ _ => rfl
  have n1 : Next (some (r - 1)) ps (List.replicate 200 (r + 1, z)) r := ⟨fun p h => by
      have := (List.mem_filter.mp h).2
      simp only [up1, Bool.not_eq_true', decide_eq_false_iff_not] at this
      omega, fun p h => by
      rw [List.eq_of_mem_replicate (List.mem_filter.mp h).1]
      show r ≤ r + 1
      omega, .inl (by
      obtain ⟨p, h, e⟩ := hr
      exact ⟨p, List.mem_filter.mpr ⟨h, by simp only [up1, Bool.not_eq_true', decide_eq_false_iff_not]; omega⟩, e⟩)⟩
  have n2 : Next (some r) ps (List.replicate 200 (r + 1, z)) (r + 1) := ⟨fun p h => by
      have := (List.mem_filter.mp h).2
      have := hp p (List.mem_filter.mp h).1
      simp only [up1, Bool.not_eq_true', decide_eq_false_iff_not] at *
      omega, fun p h => by
      rw [List.eq_of_mem_replicate (List.mem_filter.mp h).1]
      exact Int.le_refl _, .inr ⟨(r + 1, z), List.mem_filter.mpr ⟨List.mem_replicate.mpr ⟨by decide, rfl⟩, by simp only [up1, Bool.not_eq_true', decide_eq_false_iff_not]; omega⟩, rfl⟩⟩
  have e : bagF w ps (List.replicate 200 (r + 1, z)) = upB w (some (r + 1)) ps (List.replicate 200 (r + 1, z)) := by
    refine (up_all ?_ ?_).symm
    · exact List.filter_eq_nil_iff.mpr fun p h => by
        have := hp p h
        simp only [up1, Bool.not_eq_true', decide_eq_false_iff_not]
        omega
    · exact List.filter_eq_nil_iff.mpr fun p h => by
        rw [List.eq_of_mem_replicate h]
        simp [up1]
  have f1 : fl (r + 1) ps = [] := List.filter_eq_nil_iff.mpr fun p h => by
    have := hp p h
    rw [decide_eq_true_eq]
    omega
  have f2 : fl (r + 1) (List.replicate 200 (r + 1, z)) = List.replicate 200 (r + 1, z) := List.filter_eq_self.mpr fun p h => by
    rw [List.eq_of_mem_replicate h]
    simp
  have f3 : fl r (List.replicate 200 (r + 1, z)) = [] := List.filter_eq_nil_iff.mpr fun p h => by
    rw [List.eq_of_mem_replicate h, decide_eq_true_eq]
    show ¬ r + 1 = r
    omega
  have pos : 0 < (fl r ps).length := by
    obtain ⟨p, h, e⟩ := hr
    exact List.length_pos_of_mem (List.mem_filter.mpr ⟨h, decide_eq_true e⟩)
  rw [e, up_step n2, up_step n1, f1, f2, f3]
  rcases hw with rfl | rfl | rfl
  all_goals
    unfold chs
    simp
    omega
theorem inp_one {w : Nat} {Q : List Pr → Prop} {E : Er → Prop} (k : E ⟨6, [("most", .int 200)]⟩) : inpOf w [] (List.replicate 201 (Mr.T.int 1)) Q E := by
  obtain ⟨h1, h2⟩ := vals_bad 0 (rep_vals 1 201 (of_rank (by decide) (by decide))).1
  unfold inpOf rowOf
  rw [h1, h2, fl_of (rep_asc 1 _ 201)]
  simp only
  rw [if_neg (by rw [List.length_replicate]; decide)]
  exact k
theorem inp_full {w : Nat} {qs : List Pr} {p : Pr} {Q : List Pr → Prop} {E : Er → Prop} (hw : w = 0 ∨ w = 1 ∨ w = 4) (hok : Ok B0 (qs ++ [p])) (k : E ⟨6, [("most", .int 200)]⟩) : inpOf w (qs ++ [p]) (List.replicate 200 (Mr.T.int (p.1 + 1))) Q E := by
  have hb := hok.1 p (List.mem_append_right _ List.mem_cons_self)
  have hv := rep_vals (p.1 + 1) 200 (of_rank (by have := hb.1; unfold B0 at this; unfold G; omega) (by have := hb.2.1; unfold B0 at this; unfold G; omega))
  have asc := asc_of hok.2
  have h := full_len (w := w) (ps := qs ++ [p]) (r := p.1) (z := Str.ofString "") hw (fun q hq => by
    rcases List.mem_append.mp hq with h | h
    · exact (List.pairwise_append.mp asc).2.2 q h p List.mem_cons_self
    · cases List.mem_singleton.mp h
      exact Int.le_refl _) ⟨p, List.mem_append_right _ List.mem_cons_self, rfl⟩
  unfold inpOf
  refine rowOf_vals hv (fl_of (rep_asc _ _ _)) (by rw [List.length_replicate]; decide) ?_
  rw [if_neg (by omega)]
  exact k
theorem atI_neg1 (xs : List Mr.T) (h : xs ≠ []) : atI xs (-1) = xs.getLast? := by
  have hl := List.length_pos_iff.mpr h
  unfold L2.atI L2.ixN
  rw [if_neg (by decide), if_pos (by omega), Option.bind_some, List.getLast?_eq_getElem?]
  congr 1
  omega
theorem atI_last (qs : List Pr) (p : Pr) : atI ((qs ++ [p]).map pr) (-1) = some (pr p) := by
  have := atI_neg1 ((qs ++ [p]).map pr) (by simp)
  rw [this]
  simp
section
variable {w : World} {K : PySem.W.Frag} {mg : Str → Option Value} {base : Heap} {cl : CL}
theorem fn_refused (T : Txt K w mg cl base) : ∀ {x : Str} {f : Addr} {fd : FuncData}, C8.Fun K x "_law_refused" s_refused f fd → fd.code = .ref (cl 9) → FnG P w K mg base 30 f fd ["_law_pen_here", "_law_row", "_law_pairs_here"] (spM K cl F_refused) := by
  refine fnDC (k := 29) (N := N_refused) sc_refused ?len (fun f A out s H E hr => (jss_cons (js_set (i := 3) sc_refused.nd rfl (Or.inr rfl) (je_call Tw.tk_cx (ok_pick T) hr (by decide) (by rfl) (ja_cons (je_var 0) (ja_cons (je_lst (ja_cons je_str (ja_cons je_str (ja_cons je_str (ja_cons je_str (ja_cons je_str ja_nil)))))) ja_nil))))
    (jss_cons (js_set (i := 4) sc_refused.nd rfl (Or.inr rfl) (je_call Tw.tk_cx (ok_pick T) hr (by decide) (by rfl) (ja_cons (je_var 0) (ja_cons (je_lst (ja_cons je_non (ja_cons je_bl (ja_cons je_str (ja_cons (je_op o_pow je_int je_int) ja_nil))))) ja_nil))))
    (jss_cons (js_set (i := 5) sc_refused.nd rfl (Or.inl rfl) (je_lstC (ja_cons (je_lam (k := 27) Tw.tk_cx (lam_heard T) hr (by decide) (by decide) (by rfl) T.tb_refused rfl T.tm_refused T.tu_refused (LamX.lamS_by (sc := C8.fnScope s_refused) (by decide +kernel)) (fun _ _ _ _ _ _ _ hr => (je_call tk_lam (ok_change T) hr (by decide) (by rfl) (ja_cons (je_var 3) (ja_cons (je_var 1) (ja_cons (je_lst (ja_cons je_int (ja_cons (je_var 4) (ja_cons je_int ja_nil)))) ja_nil)))))) ja_nil)))
    (jss_cons (js_expr (je_lm lm_append PySem.F.slot_list_append PySem.F.type_list_append (je_var 5) (ja_cons (je_lam (k := 27) Tw.tk_cx (lam_heard T) hr (by decide) (by decide) (by rfl) T.tb_refused rfl T.tm_refused T.tu_refused (LamX.lamS_by (sc := C8.fnScope s_refused) (by decide +kernel)) (fun _ _ _ _ _ _ _ hr => (je_call tk_lam (ok_change T) hr (by decide) (by rfl) (ja_cons (je_var 3) (ja_cons (je_var 1) (ja_cons (je_tup (ja_cons je_int (ja_cons je_int ja_nil))) ja_nil)))))) ja_nil)))
    (jss_cons (js_set (i := 6) sc_refused.nd rfl (Or.inr rfl) (je_if (jt_cmp (o_ne hr) (je_var 2) (je_lst ja_nil) (nomark _)) (je_op o_mul (je_lst (ja_cons (je_op o_add (je_ix (je_ix (je_var 2) (je_neg je_int) (fun _ _ => rfl)) je_int (fun _ _ => rfl)) je_int) ja_nil)) je_int) (je_op o_mul (je_lst (ja_cons je_int ja_nil)) je_int)))
    (jss_cons (js_set (i := 7) sc_refused.nd rfl (Or.inr rfl) (je_call Tw.tk_cx (ok_pick T) hr (by decide) (by rfl) (ja_cons (je_var 0) (ja_cons (je_lst (ja_cons je_str (ja_cons je_str (ja_cons je_str ja_nil)))) ja_nil))))
    (jss_cons (js_expr (je_lm lm_append PySem.F.slot_list_append PySem.F.type_list_append (je_var 5) (ja_cons (je_lam (k := 27) Tw.tk_cx (lam_heard T) hr (by decide) (by decide) (by rfl) T.tb_refused rfl T.tm_refused T.tu_refused (LamX.lamS_by (sc := C8.fnScope s_refused) (by decide +kernel)) (fun _ _ _ _ _ _ _ hr => (je_call tk_lam (ok_change T) hr (by decide) (by rfl) (ja_cons (je_var 7) (ja_cons (je_var 1) (ja_cons (je_ix (je_lst (ja_cons (je_var 6) (ja_cons (je_bt c_tup (by rfl) T.n_tuple (by decide +kernel) (ja_cons (je_var 6) ja_nil)) ja_nil))) (je_bt c_int (by rfl) T.n_int (by decide +kernel) (ja_cons (je_cmp (o_eq hr) (je_var 3) je_str (nomark _)) ja_nil)) (fun _ _ => rfl)) ja_nil)))))) ja_nil)))
    (jss_one (js_ret (je_and (je_cmp (o_eq hr) (je_var 5) (je_lst (ja_cons (je_tup (ja_cons je_str (ja_cons je_int ja_nil))) (ja_cons (je_tup (ja_cons je_str (ja_cons je_int ja_nil))) (ja_cons (je_tup (ja_cons je_str (ja_cons je_int ja_nil))) ja_nil)))) (nomark _)) (je_one (je_cmp (o_eq hr) (je_call Tw.tk_cx (ok_told T) hr (by decide) (by rfl) (ja_cons (je_mt0 Tw.tk_cx (one_met (mt_Rlisted T)) hr (by decide) (je_var 1)) ja_nil)) (je_var 2) (nomark _)))))))))))))) ?sem
  case len => rintro ts s Q E ⟨_, _, rfl, _⟩; rfl
  case sem =>
    rintro ts s Q E ⟨x, ps, rfl, hx, hok, hl, hn, k⟩
    walk_at "mm"
    refine hM.of ⟨_, rfl, by omega, _, rfl, by simp, by simp, fun t ht => ?_⟩
    obtain ⟨w, rfl⟩ : ∃ w, t = .str (sg w) := by
      simp only [List.mem_cons, List.not_mem_nil, or_false] at ht
      rcases ht with rfl | rfl | rfl | rfl | rfl
      · exact ⟨0, rfl⟩
      · exact ⟨1, rfl⟩
      · exact ⟨2, rfl⟩
      · exact ⟨3, rfl⟩
      · exact ⟨4, rfl⟩
    clear ht
    walk_at "mm"
    refine hM.of ⟨_, rfl, by simp only [S.pn_pen]; omega, _, rfl, by simp, by simp, fun v hv => ?_⟩
    have ho : okV v ∧ toP v = none := by
      simp only [List.mem_cons, List.not_mem_nil, or_false] at hv
      rcases hv with rfl | rfl | rfl | rfl
      all_goals exact ⟨.inl rfl, by first | rfl | decide +kernel⟩
    clear hv
    walk_at "mm"
    refine hH.of ?_
    unfold F_heard
    walk_at "mm"
    refine hM.of ⟨w, x, ps, _, _, rfl, hx, hok.2, hl, .inl rfl, ?_, by simp, odd_bad ho.2 ?_⟩
    · intro y hy
      simp only [List.mem_cons, List.not_mem_nil, or_false] at hy
      rcases hy with rfl | rfl | rfl
      · exact .inl rfl
      · exact ho.1
      · exact .inl rfl
    refine ⟨_, .inl ⟨_, rfl, rfl⟩, ?_⟩
    walk_at "mm"
    intro c hc
    have ne : x ≠ c := fun e => by
      rw [e] at hx
      cases hx.symm.trans hc
    refine hH.of ?_
    walk_at "mm"
    refine hM.of ⟨w, x, ps, .tup [.int 2, .int 1], _, rfl, ?_, hok.2, hl, .inr (.inl rfl), ?_, by simp, two_bad ?_⟩
    · exact (S.put_ne ne).trans hx
    · intro y hy
      simp only [List.mem_cons, List.not_mem_nil, or_false] at hy
      rcases hy with rfl | rfl
      · exact .inl rfl
      · exact .inl rfl
    refine ⟨_, .inr (.inr (.inl ⟨_, rfl, rfl⟩)), ?_⟩
    walk_at "mm"
    rw [pr_dats]
    have sE : SeqAt.shaped (.list []) = true := by walk_at "sh"
    have hs := pr_sh (show B0 ≤ 10 ^ 40 by decide) hok.1
    have hv2 := pr_eqv (show B0 ≤ 10 ^ 40 by decide) hok.1
    have hd := pr_dats ps
    rcases List.eq_nil_or_concat ps with rfl | ⟨qs, p, rfl⟩
    case' inl =>
      walk_at "mm"
      refine ⟨⟨sE, sE⟩, ?_⟩
    case' inr =>
      rw [List.concat_eq_append] at *
      have en : PyData.eqvAll ((qs ++ [p]).map prd) [] = false := by
        rcases qs with _ | ⟨q, qs⟩ <;> rfl
      walk_at "mm"
      refine ⟨⟨hs, sE⟩, ?_⟩
      rw [en]
      walk_at "mm"
      rw [show atI ((qs ++ [p]).map pr) (-1) = some (.tup [.int p.1, .str p.2]) from atI_last _ _]
      walk_at "mm"
    all_goals refine ⟨by decide, ?_⟩
    all_goals refine hM.of ⟨_, rfl, by simp only [S.put_pen, S.pn_pen]; omega, _, rfl, by simp, by simp, fun t ht => ?_⟩
    all_goals (
      obtain ⟨w2, rfl, hw2⟩ : ∃ w2, t = .str (sg w2) ∧ (w2 = 0 ∨ w2 = 1 ∨ w2 = 4) := by
        simp only [List.mem_cons, List.not_mem_nil, or_false] at ht
        rcases ht with rfl | rfl | rfl
        · exact ⟨0, rfl, .inl rfl⟩
        · exact ⟨1, rfl, .inr (.inl rfl)⟩
        · exact ⟨4, rfl, .inr (.inr rfl)⟩
      clear ht
      walk_at "mm"
      refine hH.of ?_
      walk_at "mm"
      generalize hF : (List.flatten _ : List Mr.T) = F
      obtain ⟨v2, ev, sv⟩ : ∃ v2, atI [Mr.T.lst F, Mr.T.tup F] (if decide (sg w = Str.ofString "+") = true then 1 else 0) = some v2 ∧ ∀ s, src s v2 F := by
        split
        · exact ⟨_, rfl, fun _ => .inr (.inl rfl)⟩
        · exact ⟨_, rfl, fun _ => .inl rfl⟩
      rw [ev]
      refine ⟨trivial, ?_⟩)
    case' inl =>
      have hF : F = List.replicate 201 (Mr.T.int 1) := hF.symm.trans (by rfl)
      have fl : ∀ {Q : List Pr → Prop} {E : Er → Prop}, E ⟨6, [("most", .int 200)]⟩ → inpOf w2 [] F Q E := fun k => hF ▸ inp_one k
    case' inr =>
      have hF : F = List.replicate 200 (Mr.T.int (p.1 + 1)) := hF.symm.trans (by rfl)
      have fl : ∀ {Q : List Pr → Prop} {E : Er → Prop}, E ⟨6, [("most", .int 200)]⟩ → inpOf w2 (qs ++ [p]) F Q E := fun k => hF ▸ inp_full hw2 hok k
    all_goals (
      have lF : F.length ≤ 1000 := by rw [hF, List.length_replicate]; decide
      have oF : ∀ y ∈ F, okV y := fun y hy => by
        rw [hF] at hy
        rw [List.eq_of_mem_replicate hy]
        exact .inl rfl
      refine hM.of ⟨w2, x, _, v2, F, rfl, (S.put_ne ne).trans hx, hok.2, hl, sv _, oF, lF, fl ?_⟩
      refine ⟨_, .inr (.inr (.inr ⟨_, rfl, rfl⟩)), ?_⟩
      walk_at "mm"
      rw [S.put_ne ne]
      refine ⟨⟨by walk_at "sh", by walk_at "sh"⟩, ?_⟩
      rw [show (s.pn (s.pen + 1 + 1 + 1)).on x = s.on x from rfl, hx]
      refine ⟨rfl, rfl, hM.of ⟨x, _, rfl, (S.put_ne ne).trans hx, ?_⟩⟩
      walk_at "mm")
    case' inl =>
      refine hM.of ⟨[], rfl, by simp, ?_⟩
      walk_at "mm"
    case' inr =>
      refine hM.of ⟨qs ++ [p], rfl, by omega, ?_⟩
      walk_at "mm"
      rw [hd]
      walk_at "mm"
      refine ⟨⟨hs, hs⟩, ?_⟩
      rw [hv2]
    case' inl => refine ⟨⟨sE, sE⟩, ?_⟩
    all_goals exact ⟨s.pn (s.pen + 1 + 1 + 1), Shr.put (by exact hc), k _ (by omega)⟩
theorem ok_refused (T : Txt K w mg cl base) : CalM P w K mg base cl 30 "_law_refused" F_refused [] := calOfC T.d_refused (fun _ _ _ => .nil) (fn_refused T)
end
end M07

namespace M07
open PySem PySem.Spec PyProof.Rows L2 Tw Mr
local macro_rules | `(tactic| walk_at "mm") => `(tactic| simp -implicitDefEqProofs only [↓Mr.hold_cM, ↓Mr.hold_ite, ↓Mr.hold_for, ↓Mr.hold_lc, ↓Mr.hold_wh, ↓Mr.hold_act, ↓Mr.fRetC.eq_1, ↓Mr.hold_lam, ↓Mr.hold_lcX, ↓Mr.fLcX.eq_1, ↓Mr.fAug.eq_1, ↓Mr.gInp.eq_1, ↓Mr.gBag.eq_1, Mr.S.sq?, ↓Mr.iEnumA.eq_1, Mr.S.enumA?, Mr.sortO, Mr.intsOf, ↓Mr.fStar.eq_1, ↓Mr.fSetO.eq_1, ↓Mr.mCase.eq_1, ↓Mr.fMatch.eq_1, ↓Mr.iEnum.eq_1, Mr.S.enum?, Mr.maxO,  Mr.hIte_true, Mr.hIte_false, ↓Mr.startT.eq_1, ↓Mr.endsM.eq_1, ↓Mr.lawEnds.eq_1, ↓Mr.fSeq.eq_1, ↓Mr.fSkip.eq_1, ↓Mr.fRet.eq_1, ↓Mr.fRetN.eq_1, ↓Mr.fRetF.eq_1, ↓Mr.fDrop.eq_1, ↓Mr.fSet.eq_1, ↓Mr.fAsg.eq_1, ↓Mr.fPar.eq_1, ↓Mr.fFldS.eq_1, ↓Mr.fIfS.eq_1, ↓Mr.fRaise.eq_1, ↓Mr.fTry.eq_1, ↓Mr.fBrk.eq_1, ↓Mr.fCnt.eq_1, ↓Mr.gN.eq_1, ↓Mr.gT.eq_1, ↓Mr.gsNil.eq_1, ↓Mr.gsCons.eq_1, ↓Mr.xk,
  ↓Mr.fVar.eq_1, ↓Mr.fC.eq_1, ↓Mr.f2.eq_1, ↓Mr.f3.eq_1, ↓Mr.g2.eq_1, ↓Mr.kB.eq_1, ↓Mr.fTest.eq_1, ↓Mr.fTru.eq_1, ↓Mr.fAnd.eq_1, ↓Mr.fOr.eq_1, ↓Mr.fNot.eq_1, ↓Mr.fAndV.eq_1, ↓Mr.fOrV.eq_1, ↓Mr.fNotV.eq_1, ↓Mr.fIf.eq_1, ↓Mr.fUn.eq_1, ↓Mr.onO.eq_1, Mr.onB_bl, Mr.onB_non, Mr.onB_int, Mr.onB_str, Mr.onB_lst, Mr.onB_tup, Mr.onB_dct, ↓Mr.fNil.eq_1, ↓Mr.fCons.eq_1, ↓Mr.fLst.eq_1, ↓Mr.fTup.eq_1, ↓Mr.fLstC.eq_1, ↓Mr.fDct0.eq_1, ↓Mr.fDctC.eq_1, ↓Mr.fPar3.eq_1, ↓Mr.fSm0.eq_1, ↓Mr.fSm1.eq_1, ↓Mr.onS.eq_1, Mr.isS, Mr.eqF, List.all_cons, List.all_nil, List.any_cons, List.any_nil, Mr.upperO, Mr.lowerO, Mr.partO, Mr.isiT, Mr.tys, Mr.kkAny, Mr.reprX, Mr.S.datX, Mr.T.datX, Mr.datsX, Mr.datsK, Mr.kD, ↓Mr.fCB.eq_1, ↓Mr.fCall.eq_1, ↓Mr.fMk.eq_1, ↓Mr.fMkK.eq_1, ↓Mr.fMt.eq_1, ↓Mr.fMtK.eq_1, ↓Mr.fCallK.eq_1, ↓Mr.fErr.eq_1, ↓Mr.fStrO.eq_1, ↓Mr.fJs.eq_1, ↓Mr.jsT, ↓Mr.fSl.eq_1, ↓Mr.oNone.eq_1, ↓Mr.oSome.eq_1, ↓Mr.fLM.eq_1, ↓Mr.onL.eq_1,
  Mr.addO, Mr.intO, Mr.mulO, Mr.ltO, Mr.leO, Mr.gtO, Mr.geO, Mr.eqO, Mr.neO, Mr.isO, Mr.isnO, Mr.T.isN, Mr.negO, Mr.ixO, Mr.lenO, Mr.absO, Mr.intO1, Option.isSome_some, Option.isSome_none, Mr.S.put_pn, Mr.strO, Mr.strLO, Mr.listO, Mr.tupO, Mr.reprO, Mr.isiO, Mr.fldO, Mr.xgO, Mr.fmtO, Mr.joinO, Mr.slO, Mr.inO', Mr.ninO', Mr.inB, Mr.T.flat, Mr.S.put_same, Mr.S.put_put, Mr.S.pn_on, Mr.S.pn_pen, Mr.S.put_pen, Mr.S.pn_pn, ↓Mr.fLc.eq_1, ↓Mr.fYes.eq_1, ↓Mr.iSeq.eq_1, ↓Mr.iRange1.eq_1, ↓Mr.iRange2.eq_1, Mr.S.its?, Mr.okAt, Mr.wipeT, ↓Mr.fFor.eq_1, Mr.allO, Mr.anyO, ↓Mr.doneM.eq_1, Option.map_some, Option.map_none,  Mr.appO, Mr.revO, Mr.clrO, ↓Mr.gEqOwn.eq_1, ↓Mr.gOwn2.eq_1, ↓Mr.gOwnI_row, ↓Mr.gOwnR_row, ↓Mr.kObj.eq_1, ↓Mr.fNegO.eq_1, ↓Mr.fOwnC.eq_1, ↓Mr.fPro.eq_1, ↓Mr.gInK.eq_1, ↓Mr.gIxK.eq_1, ↓Mr.iKeyK.eq_1, Mr.eqE, Bool.true_xor, Bool.false_xor, ↓Mr.gNeOwn.eq_1,
  Mr.S.lst?, Mr.S.seq?, Mr.S.ty?, Mr.S.obj?, Mr.S.dat, Mr.T.dat, Mr.dats, Mr.atI_0, Mr.atI_1, Mr.atI_2, Mr.atI_3, Mr.atI_4, Mr.atI_5, Mr.atI_6, Mr.atI_7, Mr.atI_8, Mr.atI_9, Mr.atI_10, Mr.atI_11, Mr.atI_12, Mr.atI_13, PyData.eqv, PyData.eqvAll, Bool.and_true, Bool.true_and, beq_self_eq_true, Bool.and_self, decide_true, decide_false, Mr.okC,
  List.map_cons, List.map_nil, List.length_cons, List.length_nil, List.cons_append, List.nil_append, List.append_nil, List.replicate_succ, List.replicate_zero, List.getElem?_cons_zero, List.getElem?_cons_succ, List.set_cons_zero, List.set_cons_succ, List.getD_cons_zero, List.getD_cons_succ, L2.CPow, Int.reduceToNat, Int.reducePow, Int.reduceAbs, Int.reduceLE, Int.reduceLT, Int.reduceSub, Int.reduceAdd, Int.reduceNeg, Int.reduceMul, Int.reduceEq, Nat.reducePow, Nat.sub_self, Nat.reduceSub, Nat.reduceAdd, Nat.reduceLeDiff, Nat.reduceLT, Nat.reduceEqDiff, Nat.zero_add, Nat.add_zero, Nat.add_one_sub_one, Nat.sub_zero, Nat.zero_sub,
  true_and, and_true, ite_true, ite_false, if_true, if_false, Bool.false_eq_true, Bool.true_eq_false, ↓reduceIte, Bool.not_true, Bool.not_false, List.zip_cons_cons, List.zip_nil_left, List.zip_nil_right, M07.kkA, M07.lkA, M07.insL, M07.excL, List.mem_cons, List.not_mem_nil, or_false, or_true, true_or, false_or, reduceCtorEq, Bool.not_eq_true, Bool.not_eq_false, Bool.not_not])
local macro_rules | `(tactic| walk_at "sh") => `(tactic| exact Mr.sh (by first | (simp only [Mr.niceD, Mr.niceAll, Bool.and_true, Bool.and_eq_true, true_and, and_true]; done) | (simp only [Mr.niceD, Mr.niceAll, Bool.and_true, Bool.and_eq_true, true_and, and_true]; decide +kernel) | simp [Mr.niceD, Mr.niceAll, *]) (by simp [PyData.depth, PyData.depthAll]))
local macro_rules | `(tactic| walk_at "rp") => `(tactic| exact Mr.rp (by first | (simp only [Mr.niceD, Mr.niceAll, Bool.and_true, Bool.and_eq_true, true_and, and_true]; done) | (simp only [Mr.niceD, Mr.niceAll, Bool.and_true, Bool.and_eq_true, true_and, and_true]; decide +kernel) | simp [Mr.niceD, Mr.niceAll, *]) (by simp [PyData.depth, PyData.depthAll]) (by simp only [Mr.wD, Mr.wAll]; first | decide | omega))

/-- where a deed stands -/
structure Fc (S4 : S) (x y : Addr) (rs ps : List Pr) (b : Nat) (v0 : Mr.T) (os1 : List Pr) : Prop where
  hx : S4.on x = some (rowC rs)
  hy : S4.on y = some (rowC ps)
  ok : Ok B0 rs
  len : rs.length ≤ 200
  pen : S4.pen ≤ b
  sv : ∃ vs', src S4 v0 vs' ∧ Vals' vs' os1
  oko : Ok B0 os1
  leno : os1.length ≤ 200
theorem bag_len_from {w : Nat} {ps qs : List Pr} (ap : Asc ps) (aq : Asc qs) : ∀ (n : Nat) (b : Option Int), (rest b ps).length + (rest b qs).length ≤ n → (upB w b ps qs).length ≤ (done b ps).length + (done b qs).length → (bagF w ps qs).length ≤ ps.length + qs.length := by
  intro n
  induction n with
  | zero =>
    intro b hn h
    have e1 : rest b ps = [] := List.length_eq_zero_iff.mp (by omega)
    have e2 : rest b qs = [] := List.length_eq_zero_iff.mp (by omega)
    have lp := done_len (b := b) ap
    have lq := done_len (b := b) aq
    rw [← up_all e1 e2]
    omega
  | succ n ih =>
    intro b hn h
    have lp := done_len (b := b) ap
    have lq := done_len (b := b) aq
    obtain ⟨nx1, nx2, nx3⟩ := next_by (b := b) ap aq
    have go : ∀ r, Next b ps qs r → (bagF w ps qs).length ≤ ps.length + qs.length := by
      intro r nx
      have dp := congrArg List.length (next_done ap nx.not_up (fun _ => nx.le_up) nx.l)
      have dq := congrArg List.length (next_done aq nx.not_up (fun _ => nx.le_up) nx.o)
      rw [List.length_append] at dp dq
      have cp := done_len (b := some r) ap
      have cq := done_len (b := some r) aq
      have hc := chs_len w (fl r ps) (fl r qs)
      have fne : 0 < (fl r ps).length + (fl r qs).length := by
        rcases nx.is with ⟨z, hz, e⟩ | ⟨z, hz, e⟩
        · have : 0 < (fl r ps).length := List.length_pos_of_mem (List.mem_filter.mpr ⟨(List.mem_filter.mp hz).1, decide_eq_true e⟩)
          omega
        · have : 0 < (fl r qs).length := List.length_pos_of_mem (List.mem_filter.mpr ⟨(List.mem_filter.mp hz).1, decide_eq_true e⟩)
          omega
      refine ih (some r) (by omega) ?_
      rw [up_step nx, List.length_append]
      omega
    rcases e1 : rest b ps with _ | ⟨p, A⟩
    all_goals rcases e2 : rest b qs with _ | ⟨q, B⟩
    · rw [← up_all e1 e2]
      omega
    · exact go _ (nx2 q B e1 e2)
    · exact go _ (nx1 p A e1 e2)
    · exact go _ (nx3 p A q B e1 e2)
theorem bag_len {w : Nat} {ps qs : List Pr} (hp : FL ps = []) (hq : FL qs = []) : (bagF w ps qs).length ≤ ps.length + qs.length := by
  refine bag_len_from (asc_of hp) (asc_of hq) _ none (Nat.le_refl _) ?_
  rw [up_none]
  exact Nat.zero_le _
theorem bag_ok {w : Nat} {ps qs : List Pr} (hp : Ok B0 ps) (hq : Ok B0 qs) : Ok B0 (bagF w ps qs) := ⟨fun p h => (bag_mem h).elim (hp.1 p) (hq.1 p), fl_of (bag_asc w ps qs)⟩
theorem src_keep {s : S} {v : Mr.T} {xs : List Mr.T} {x : Addr} {c : Cell} (n : v ≠ .cell x) (h : src s v xs) : src (s.put x c) v xs := by
  rcases h with h | h | ⟨z, h, hz⟩
  · exact .inl h
  · exact .inr (.inl h)
  · refine .inr (.inr ⟨z, h, ?_⟩)
    rw [S.put_ne (fun e => n (by rw [h, e]))]
    exact hz
theorem on_ne {s : S} {x z : Addr} {c : Cell} (h : s.on x = some c) (hz : s.on z = none) : x ≠ z := fun e => by
  rw [e, hz] at h
  cases h
theorem Fc.next {S3 : S} {x y : Addr} {qs ps os : List Pr} {b : Nat} {v : Mr.T} (F : Fc S3 x y qs ps b v os) (w : Nat) (ne : y ≠ x) (ho : Ok B0 qs) (hle : qs.length + os.length ≤ 200) (nx : v ≠ .cell x) : Fc (S3.put x (rowC (bagF w qs os))) x y (bagF w qs os) ps b v os :=
  ⟨S.put_same _ _ _, by rw [S.put_ne ne]; exact F.hy, bag_ok ho F.oko, Nat.le_trans (bag_len ho.2 F.oko.2) hle, F.pen, by
    obtain ⟨vs', g1, g2⟩ := F.sv
    exact ⟨vs', src_keep nx g1, g2⟩, F.oko, F.leno⟩
theorem Fc.self {S3 : S} {x y : Addr} {qs ps os : List Pr} {b : Nat} {v : Mr.T} (F : Fc S3 x y qs ps b v os) (w : Nat) (ne : y ≠ x) (ho : Ok B0 qs) (hle : qs.length + os.length ≤ 200) : Fc (S3.put x (rowC (bagF w qs os))) x y (bagF w qs os) ps b (.cell x) (bagF w qs os) :=
  have l := Nat.le_trans (bag_len (w := w) ho.2 F.oko.2) hle
  ⟨S.put_same _ _ _, by rw [S.put_ne ne]; exact F.hy, bag_ok ho F.oko, l, F.pen, ⟨_, .inr (.inr ⟨x, rfl, S.put_same _ _ _⟩), by rw [List.map_map]; rfl, okV_itm _⟩, bag_ok ho F.oko, l⟩
section
variable {w : World} {K : PySem.W.Frag} {mg : Str → Option Value} {base : Heap} {cl : CL}
theorem fn_law (T : Txt K w mg cl base) {f : Addr} {fd : FuncData} (F : C8.Fun K "law" "law" s_law f fd) : FnG P w K mg base 33 f fd ["_law_script"] (Mr.spLaw cl K) := by
  refine fnGX (k := 32) (N := N_law) F sc_law (by rintro vs H Q E ⟨_, _, rfl, _⟩; rfl) ?_
  rintro cdv A out s H vs Q E hr ⟨a, ns, rfl, hS, hl, hT, q⟩
  refine law_body (ps_set (i := 1) sc_law.nd rfl (Or.inl rfl) (pe_cW Tw.tk_cx (ok_pen T) hr (by decide) (by rfl) (pa_cons (pv 0) pa_nil))) (jss_cons (js_for (L2.passes_of rfl) rfl (ji_range1 (by rfl) T.n_range (ja_cons je_int ja_nil)) (jg_name (i := 2) sc_law.nd rfl (Or.inl rfl))
      (jss_cons (js_set (i := 3) sc_law.nd rfl (Or.inl rfl) (je_call Tw.tk_cx (ok_pairs T) hr (by decide) (by rfl) (ja_cons (je_var 1) (ja_cons je_int ja_nil))))
      (jss_cons (js_par (i := 4) (j := 5) (by rfl) sc_law.nd rfl rfl (by decide) rfl rfl (ja_cons (je_mk false Tw.tk_cx (mk_Rinit T) hr (by decide) (by rfl) (ja_cons (je_call Tw.tk_cx (ok_values T) hr (by decide) (by rfl) (ja_cons (je_var 1) (ja_cons (je_var 3) ja_nil))) ja_nil)) (ja_cons (je_var 3) ja_nil)))
      (jss_cons (js_set (i := 6) sc_law.nd rfl (Or.inl rfl) (je_mk false Tw.tk_cx (mk_Rinit T) hr (by decide) (by rfl) (ja_cons (je_var 4) ja_nil)))
      (jss_cons (js_set (i := 7) sc_law.nd rfl (Or.inl rfl) (je_var 6))
      (jss_cons (js_for (L2.passes_of rfl) rfl (ji_range1 (by rfl) T.n_range (ja_cons je_int ja_nil)) (jg_name (i := 8) sc_law.nd rfl (Or.inl rfl))
        (jss_cons (js_par (i := 9) (j := 10) (by rfl) sc_law.nd rfl rfl (by decide) rfl rfl (ja_cons (je_call Tw.tk_cx (ok_pick T) hr (by decide) (by rfl) (ja_cons (je_var 1) (ja_cons (je_lst (ja_cons je_str (ja_cons je_str (ja_cons je_str (ja_cons je_str (ja_cons je_str (ja_cons je_str ja_nil))))))) ja_nil))) (ja_cons (je_call Tw.tk_cx (ok_beside T) hr (by decide) (by rfl) (ja_cons (je_var 1) (ja_cons (je_var 3) ja_nil))) ja_nil)))
        (jss_cons (js_set (i := 11) sc_law.nd rfl (Or.inl rfl) (je_call Tw.tk_cx (ok_values T) hr (by decide) (by rfl) (ja_cons (je_var 1) (ja_cons (je_var 10) ja_nil))))
        (jss_cons (js_set (i := 12) sc_law.nd rfl (Or.inl rfl) (je_ix (je_lst (ja_cons (je_mk false Tw.tk_cx (mk_Rinit T) hr (by decide) (by rfl) (ja_cons (je_var 11) ja_nil)) (ja_cons (je_var 11) (ja_cons (je_bt c_tup (by rfl) T.n_tuple (by decide +kernel) (ja_cons (je_var 11) ja_nil)) (ja_cons (je_mk false Tw.tk_cx (mk_Rinit T) hr (by decide) (by rfl) (ja_cons (je_var 11) ja_nil)) ja_nil))))) (je_call Tw.tk_cx (ok_draw T) hr (by decide) (by rfl) (ja_cons (je_var 1) (ja_cons je_int ja_nil))) (fun _ _ => rfl)))
        (jss_cons (js_set (i := 13) sc_law.nd rfl (Or.inl rfl) (je_if (jt_cmp o_lt (je_b c_len (by rfl) T.n_len (by decide +kernel) (ja_cons (je_var 3) ja_nil)) je_int (nomark _)) (je_call Tw.tk_cx (ok_draw T) hr (by decide) (by rfl) (ja_cons (je_var 1) (ja_cons je_int ja_nil))) je_int))
        (jss_cons (js_if (jt_cmp o_lt (je_var 13) je_int (nomark _)) (jss_one (js_par (i := 10) (j := 12) (by rfl) sc_law.nd rfl rfl (by decide) rfl rfl (ja_cons (je_var 3) (ja_cons (je_ix (je_lst (ja_cons (je_mk false Tw.tk_cx (mk_Rinit T) hr (by decide) (by rfl) (ja_cons (je_var 6) ja_nil)) (ja_cons (je_var 6) ja_nil))) (je_var 13) (fun _ _ => rfl)) ja_nil)))) jss_nil)
        (jss_cons (js_if (jt_cmp o_le (je_op o_add (je_b c_len (by rfl) T.n_len (by decide +kernel) (ja_cons (je_var 3) ja_nil)) (je_b c_len (by rfl) T.n_len (by decide +kernel) (ja_cons (je_var 10) ja_nil))) je_int (nomark _)) (jss_cons (js_set (i := 3) sc_law.nd rfl (Or.inl rfl) (je_call Tw.tk_cx (ok_lbag T) hr (by decide) (by rfl) (ja_cons (je_var 9) (ja_cons (je_var 3) (ja_cons (je_var 10) ja_nil)))))
          (jss_one (js_set (i := 6) sc_law.nd rfl (Or.inl rfl) (je_call Tw.tk_cx (ok_change T) hr (by decide) (by rfl) (ja_cons (je_var 9) (ja_cons (je_var 6) (ja_cons (je_var 12) ja_nil))))))) jss_nil)
        (jss_cons (js_if (JW.jt (jw_or (jt_cmp (o_ne hr) (je_call Tw.tk_cx (ok_told T) hr (by decide) (by rfl) (ja_cons (je_mt0 Tw.tk_cx (one_met (mt_Rlisted T)) hr (by decide) (je_var 6)) ja_nil)) (je_var 3) (nomark _)) (jw_or1 (jt_cmp (o_ne hr) (je_call Tw.tk_cx (ok_told T) hr (by decide) (by rfl) (ja_cons (je_mt0 Tw.tk_cx (one_met (mt_Rlisted T)) hr (by decide) (je_var 7)) ja_nil)) (je_var 3) (nomark _))))) (jss_one (js_ret je_bl)) jss_nil)
        (jss_cons (js_set (i := 10) sc_law.nd rfl (Or.inl rfl) (je_if (jt_cmp (o_eq hr) (je_var 13) je_int (nomark _)) (je_var 3) (je_var 10)))
        (jss_cons (js_if (jt_cmp (o_ne hr) (je_call Tw.tk_cx (ok_told T) hr (by decide) (by rfl) (ja_cons (je_mt0 Tw.tk_cx (one_met (mt_Rlisted T)) hr (by decide) (je_mk false Tw.tk_cx (mk_Rinit T) hr (by decide) (by rfl) (ja_cons (je_var 12) ja_nil))) ja_nil)) (je_var 10) (nomark _)) (jss_one (js_ret je_bl)) jss_nil)
        (jss_one (js_if (jt_not (jt_val (je_call Tw.tk_cx (ok_refused T) hr (by decide) (by rfl) (ja_cons (je_var 1) (ja_cons (je_var 6) (ja_cons (je_var 3) ja_nil)))))) (jss_one (js_ret je_bl)) jss_nil))))))))))))
      (jss_one (js_if (jt_cmp (o_ne hr) (je_call Tw.tk_cx (ok_told T) hr (by decide) (by rfl) (ja_cons (je_mt0 Tw.tk_cx (one_met (mt_Rlisted T)) hr (by decide) (je_var 4)) ja_nil)) (je_var 5) (nomark _)) (jss_one (js_ret je_bl)) jss_nil))))))))
    (jss_one (js_ret je_bl))) (by decide) (fun σ H Q' e h => ⟨_, e, h⟩) hS hl hT q ?_
  clear hS hl hT q
  intro a p
  walk_at "mm"
  refine for_ind (fun pre post τ s' => s'.pen ≤ 2000 * pre.length ∧ pre.length + post.length = 4 ∧ ∃ x2 x3 x4 x5 x6 x7 x8 x9 x10 x11 x12 x13, τ = [some (.cell a), some .pen, x2, x3, x4, x5, x6, x7, x8, x9, x10, x11, x12, x13]) ⟨Nat.le_refl _, rfl, _, _, _, _, _, _, _, _, _, _, _, _, rfl⟩ (fun _ _ _ _ _ => trivial) ?_ ?_
  · rintro pre t post τ s' N e ⟨hn, hj, x2, x3, x4, x5, x6, x7, x8, x9, x10, x11, x12, x13, rfl⟩ k'
    rw [List.length_cons] at hj
    walk_at "mm"
    refine hM.of ⟨20, rfl, by decide, by omega, fun ps n hl hok hn2 => ?_⟩
    walk_at "mm"
    refine hM.of ⟨ps, _, rfl, by omega, hok, by decide, by simp only [S.pn_pen]; omega, fun zs n3 hv hn3 => ?_⟩
    have hn3' : n3 ≤ n + ps.length := hn3
    have lzs := hv.len
    walk_at "mm"
    refine fun y hy => mk_row hy (.inl rfl) hv.2 (by omega) (rowOf_vals hv hok.2 (by omega) ?_)
    walk_at "mm"
    refine fun x hx => mk_row hx (.inr (.inr ⟨y, rfl, S.put_same _ _ _⟩)) (okV_itm _) (by rw [List.length_map]; omega) (rowOf_itm hok.2 ?_)
    rw [if_pos (by omega)]
    have ne : y ≠ x := fun e => by
      rw [← e, S.put_same] at hx
      cases hx
    walk_at "mm"
    refine for_ind (fun pre post τ s2 => ∃ (qs : List Pr) (x8 x9 x10 x11 x12 x13 : Option Mr.T), s2.on x = some (rowC qs) ∧ s2.on y = some (rowC ps) ∧ Ok B0 qs ∧ qs.length ≤ 200 ∧ s2.pen ≤ n3 + 300 * pre.length ∧ pre.length + post.length = 4 ∧
      τ = [some (.cell a), some .pen, some t, some (.lst (qs.map pr)), some (.cell y), some (.lst (ps.map pr)), some (.cell x), some (.cell x), x8, x9, x10, x11, x12, x13]) ?_ (fun _ _ _ _ _ => trivial) ?_ ?_
    · exact ⟨ps, x8, x9, x10, x11, x12, x13, S.put_same _ _ _, by rw [S.put_ne ne, S.put_same], hok, by omega, Nat.le_refl _, rfl, rfl⟩
    · rintro pre2 t2 post2 τ s2 N2 e2 ⟨qs, x8, x9, x10, x11, x12, x13, ox, oy, ho, hql, hn4, hj2, rfl⟩ k2
      rw [List.length_cons] at hj2
      walk_at "mm"
      refine hM.of ⟨_, rfl, by omega, _, rfl, by simp, by simp, fun tw ht => ?_⟩
      obtain ⟨w, rfl⟩ : ∃ w, tw = .str (sg w) := by
        simp only [List.mem_cons, List.not_mem_nil, or_false] at ht
        rcases ht with rfl | rfl | rfl | rfl | rfl | rfl
        · exact ⟨0, rfl⟩
        · exact ⟨1, rfl⟩
        · exact ⟨2, rfl⟩
        · exact ⟨3, rfl⟩
        · exact ⟨4, rfl⟩
        · exact ⟨1, rfl⟩
      clear ht
      walk_at "mm"
      refine hM.of ⟨qs, rfl, ho, by omega, by simp only [S.pn_pen]; omega, fun os n5 hol hoo hn5 => ?_⟩
      simp only [S.pn_pen] at hn5
      walk_at "mm"
      refine hM.of ⟨os, B0, rfl, by omega, hoo, by decide, by simp only [S.pn_pen]; omega, fun vs n6 hv6 hn6 => ?_⟩
      simp only [S.pn_pen] at hn6
      have lvs := hv6.len
      walk_at "mm"
      refine fun y1 hy1 => mk_row hy1 (.inl rfl) hv6.2 (by omega) (rowOf_vals hv6 hoo.2 (by omega) ?_)
      walk_at "mm"
      refine fun y2 hy2 => mk_row hy2 (.inl rfl) hv6.2 (by omega) (rowOf_vals hv6 hoo.2 (by omega) ?_)
      walk_at "mm"
      refine use_drawH (by decide) (by decide) (by simp only [S.put_pen, S.pn_pen]; omega) fun j j0 j1 => ?_
      have m1 : x ≠ y1 := fun e => by rw [← e] at hy1; cases hy1.symm.trans ox
      have m2 : y ≠ y1 := fun e => by rw [← e] at hy1; cases hy1.symm.trans oy
      have hy2' : y2 ≠ y1 ∧ s2.on y2 = none := by
        have n1 : y2 ≠ y1 := fun e => by rw [e, S.put_same] at hy2; cases hy2
        rw [S.put_ne n1] at hy2
        exact ⟨n1, hy2⟩
      have m3 : x ≠ y2 := fun e => by rw [← e] at hy2'; cases hy2'.2.symm.trans ox
      have m4 : y ≠ y2 := fun e => by rw [← e] at hy2'; cases hy2'.2.symm.trans oy
      have vi : ∀ zs : List Pr, Vals' (zs.map itm) zs := fun zs => ⟨by rw [List.map_map]; rfl, okV_itm zs⟩
      obtain ⟨v, ev, sv, nv⟩ : ∃ v, atI [Mr.T.cell y1, .lst vs, .tup vs, .cell y2] j = some v ∧ (∀ s3 : S, s3.on y1 = some (rowC os) → s3.on y2 = some (rowC os) → ∃ vs', src s3 v vs' ∧ Vals' vs' os) ∧ v ≠ .cell x := by
        have : j = 0 ∨ j = 1 ∨ j = 2 ∨ j = 3 := by omega
        rcases this with rfl | rfl | rfl | rfl
        · exact ⟨_, rfl, fun s3 h1 _ => ⟨_, .inr (.inr ⟨y1, rfl, h1⟩), vi os⟩, fun e => m1 (by injection e with e; exact e.symm)⟩
        · exact ⟨_, rfl, fun s3 _ _ => ⟨_, .inl rfl, hv6⟩, nofun⟩
        · exact ⟨_, rfl, fun s3 _ _ => ⟨_, .inr (.inl rfl), hv6⟩, nofun⟩
        · exact ⟨_, rfl, fun s3 _ h2 => ⟨_, .inr (.inr ⟨y2, rfl, h2⟩), vi os⟩, fun e => m3 (by injection e with e; exact e.symm)⟩
      walk_at "mm"
      rw [ev]
      refine ⟨trivial, ?_⟩
      have q1 : (rowC os) = .obj 8 [("held", .lst (os.map itm))] := rfl
      refine hIte.by (fun h40 => ?gA) fun h40 => ?gB
      case' gA =>
        walk_at "mm"
        refine use_drawH (by decide) (by decide) (by simp only [S.put_pen, S.pn_pen]; omega) fun own ow0 ow1 => ?_
        walk_at "mm"
        refine hIte.by (fun h2 => ?gC) fun h2 => ?gD
      case' gC =>
        have h2 := of_decide_eq_true h2
        walk_at "mm"
        refine fun y3 hy3 => mk_row hy3 (.inr (.inr ⟨x, rfl, ?_⟩)) (okV_itm qs) (by rw [List.length_map]; omega) (rowOf_itm ho.2 ?_)
        · rw [S.put_ne m3, S.put_ne m1]
          exact ox
        rw [if_pos hql]
        walk_at "mm"
        have m5 : x ≠ y3 ∧ y ≠ y3 := by
          have n2 : y3 ≠ y2 := fun e => by rw [e, S.put_same] at hy3; cases hy3
          rw [S.put_ne n2] at hy3
          have n1 : y3 ≠ y1 := fun e => by rw [e, S.put_same] at hy3; cases hy3
          rw [S.put_ne n1] at hy3
          refine ⟨fun e => ?_, fun e => ?_⟩
          · rw [← e] at hy3
            cases hy3.symm.trans ox
          · rw [← e] at hy3
            cases hy3.symm.trans oy
        have : own = 0 ∨ own = 1 := by omega
        rcases this with rfl | rfl
        case' inl => rw [show atI [Mr.T.cell y3, Mr.T.cell x] 0 = some (.cell y3) from rfl]
        case' inr => rw [show atI [Mr.T.cell y3, Mr.T.cell x] 1 = some (.cell x) from rfl]
        all_goals walk_at "mm"
        case' inl => have F0 : Fc ((((s2.pn (n6 + 1 + 1)).put y1 (rowC os)).put y2 (rowC os)).put y3 (rowC qs)) x y qs ps (n6 + 2) (.cell y3) qs := ⟨by rw [S.put_ne m5.1, S.put_ne m3, S.put_ne m1]; exact ox, by rw [S.put_ne m5.2, S.put_ne m4, S.put_ne m2]; exact oy, ho, hql, by simp only [S.put_pen, S.pn_pen]; omega, ⟨_, .inr (.inr ⟨y3, rfl, S.put_same _ _ _⟩), vi qs⟩, ho, hql⟩; have nx0 : Mr.T.cell y3 ≠ .cell x := fun e => m5.1 (by injection e with e; exact e.symm)
        case' inr => have F0 : Fc ((((s2.pn (n6 + 1 + 1)).put y1 (rowC os)).put y2 (rowC os)).put y3 (rowC qs)) x y qs ps (n6 + 2) (.cell x) qs := ⟨by rw [S.put_ne m5.1, S.put_ne m3, S.put_ne m1]; exact ox, by rw [S.put_ne m5.2, S.put_ne m4, S.put_ne m2]; exact oy, ho, hql, by simp only [S.put_pen, S.pn_pen]; omega, ⟨_, .inr (.inr ⟨x, rfl, by rw [S.put_ne m5.1, S.put_ne m3, S.put_ne m1]; exact ox⟩), vi qs⟩, ho, hql⟩
        all_goals generalize ((((s2.pn (n6 + 1 + 1)).put y1 (rowC os)).put y2 (rowC os)).put y3 (rowC qs)) = S3 at F0 ⊢
      case' gD =>
        have h2 := of_decide_eq_false h2
        walk_at "mm"
        have F0 : Fc (((s2.pn (n6 + 1 + 1)).put y1 (rowC os)).put y2 (rowC os)) x y qs ps (n6 + 2) v os := ⟨by rw [S.put_ne m3, S.put_ne m1]; exact ox, by rw [S.put_ne m4, S.put_ne m2]; exact oy, ho, hql, by simp only [S.put_pen, S.pn_pen]; omega, sv _ (by rw [S.put_ne (Ne.symm hy2'.1), S.put_same]) (S.put_same _ _ _), hoo, by omega⟩
        have nx0 := nv
        generalize (((s2.pn (n6 + 1 + 1)).put y1 (rowC os)).put y2 (rowC os)) = S3 at F0 ⊢
      case' gB =>
        walk_at "mm"
        have F0 : Fc (((s2.pn (n6 + 1)).put y1 (rowC os)).put y2 (rowC os)) x y qs ps (n6 + 2) v os := ⟨by rw [S.put_ne m3, S.put_ne m1]; exact ox, by rw [S.put_ne m4, S.put_ne m2]; exact oy, ho, hql, by simp only [S.put_pen, S.pn_pen]; omega, sv _ (by rw [S.put_ne (Ne.symm hy2'.1), S.put_same]) (S.put_same _ _ _), hoo, by omega⟩
        have nx0 := nv
        generalize (((s2.pn (n6 + 1)).put y1 (rowC os)).put y2 (rowC os)) = S3 at F0 ⊢
      all_goals refine hIte.by (fun hle => ?_) fun hle => ?_
      case' gB.refine_1 | gD.refine_1 | gC.refine_2.inl.refine_1 | gC.refine_2.inr.refine_1 =>
        have hle := of_decide_eq_true hle
        simp only [List.length_map] at hle
        walk_at "mm"
        refine hM.of ⟨w, qs, _, rfl, by omega, by omega, ?_⟩
        walk_at "mm"
        obtain ⟨vs', g1, g2⟩ := F0.sv
        refine hM.of ⟨w, x, qs, _, vs', rfl, F0.hx, ho.2, hql, g1, g2.2, by have := g2.len; omega, ?_⟩
        refine rowOf_vals g2 F0.oko.2 F0.leno ?_
        rw [if_pos (Nat.le_trans (bag_len ho.2 F0.oko.2) (by omega))]
      case' gB.refine_1 | gD.refine_1 | gC.refine_2.inl.refine_1 =>
        have F4 := F0.next w ne ho (by omega) nx0
      case' gC.refine_2.inr.refine_1 =>
        have F4 := F0.self w ne ho (by omega)
      case' gB.refine_1 | gD.refine_1 | gC.refine_2.inl.refine_1 | gC.refine_2.inr.refine_1 => dsimp only
      case' gB.refine_1 | gD.refine_1 => generalize S3.put x (rowC (bagF w qs os)) = S4 at F4 ⊢
      case' gC.refine_2.inl.refine_1 | gC.refine_2.inr.refine_1 => generalize S3.put x (rowC (bagF w qs qs)) = S4 at F4 ⊢
      case' gB.refine_1 | gD.refine_1 => generalize bagF w qs os = rs at F4 ⊢
      case' gC.refine_2.inl.refine_1 | gC.refine_2.inr.refine_1 => generalize bagF w qs qs = rs at F4 ⊢
      case' gB.refine_2 | gD.refine_2 | gC.refine_2.inl.refine_2 | gC.refine_2.inr.refine_2 =>
        walk_at "mm"
        have F4 := F0
      case' gB.refine_1 | gD.refine_1 | gC.refine_2.inl.refine_1 | gC.refine_2.inr.refine_1 => walk_at "mm"
      all_goals rw [F4.hx]
      all_goals refine ⟨rfl, rfl, hM.of ⟨x, _, rfl, F4.hx, ?_⟩⟩
      all_goals walk_at "mm"
      all_goals have l4 := F4.len
      all_goals refine hM.of ⟨_, rfl, by omega, ?_⟩
      all_goals walk_at "mm"
      all_goals rw [pr_dats]
      all_goals walk_at "mm"
      all_goals have hs4 := pr_sh (B := B0) (by decide) F4.ok.1
      all_goals have he4 := pr_eqv (B := B0) (by decide) F4.ok.1
      all_goals refine ⟨⟨hs4, hs4⟩, ?_⟩
      all_goals rw [he4]
      all_goals walk_at "mm"
      all_goals rw [F4.hx]
      all_goals refine ⟨rfl, rfl, hM.of ⟨x, _, rfl, F4.hx, ?_⟩⟩
      all_goals walk_at "mm"
      all_goals refine hM.of ⟨_, rfl, by omega, ?_⟩
      all_goals walk_at "mm"
      all_goals rw [pr_dats]
      all_goals walk_at "mm"
      all_goals refine ⟨⟨hs4, hs4⟩, ?_⟩
      all_goals rw [he4]
      all_goals walk_at "mm"
      case' gD.refine_1 | gD.refine_2 =>
        refine hIte.by (fun h => absurd (of_decide_eq_true h) (by omega)) fun _ => ?_
        walk_at "mm"
      all_goals obtain ⟨vs4, g3, g4⟩ := F4.sv
      all_goals have l5 := g4.len
      all_goals have l6 := F4.leno
      all_goals refine fun z hz => mk_row hz g3 g4.2 (by omega) (rowOf_vals g4 F4.oko.2 F4.leno ?_)
      all_goals walk_at "mm"
      all_goals have nz := on_ne F4.hx hz
      all_goals have nz2 := on_ne F4.hy hz
      all_goals refine ⟨rfl, rfl, hM.of ⟨z, _, rfl, S.put_same _ _ _, ?_⟩⟩
      all_goals walk_at "mm"
      all_goals refine hM.of ⟨_, rfl, by omega, ?_⟩
      all_goals walk_at "mm"
      all_goals rw [pr_dats]
      all_goals walk_at "mm"
      all_goals have hs5 := pr_sh (B := B0) (by decide) F4.oko.1
      all_goals have he5 := pr_eqv (B := B0) (by decide) F4.oko.1
      all_goals refine ⟨⟨hs5, hs5⟩, ?_⟩
      all_goals rw [he5]
      all_goals walk_at "mm"
      all_goals have pn := F4.pen
      all_goals refine hM.of ⟨x, _, rfl, by rw [S.put_ne nz]; exact F4.hx, F4.ok, F4.len, by simp only [S.put_pen]; omega, fun n7 hn7 => ?_⟩
      all_goals simp only [S.put_pen] at hn7
      all_goals walk_at "mm"
      all_goals refine k2 _ _ ⟨_, _, _, _, _, _, _, by rw [S.put_ne nz]; exact F4.hx, by rw [S.put_ne nz2]; exact F4.hy, F4.ok, F4.len, ?_, by rw [List.length_append]; simp only [List.length_cons, List.length_nil]; omega, rfl⟩
      all_goals simp only [S.put_pen, S.pn_pen, List.length_append, List.length_cons, List.length_nil]
      all_goals omega
    · rintro τ s2 ⟨qs, x8, x9, x10, x11, x12, x13, ox, oy, ho, hql, hn4, hj2, rfl⟩
      walk_at "mm"
      rw [oy]
      refine ⟨rfl, rfl, hM.of ⟨y, _, rfl, oy, ?_⟩⟩
      walk_at "mm"
      refine hM.of ⟨_, rfl, by omega, ?_⟩
      walk_at "mm"
      rw [pr_dats]
      walk_at "mm"
      have hs6 := pr_sh (by decide) hok.1
      have he6 := pr_eqv (by decide) hok.1
      refine ⟨⟨hs6, hs6⟩, ?_⟩
      rw [he6]
      walk_at "mm"
      have lr : (rng 0 4).length = 4 := rfl
      refine k' _ _ ⟨?_, by rw [List.length_append]; simp only [List.length_cons, List.length_nil]; omega, _, _, _, _, _, _, _, _, _, _, _, _, rfl⟩
      simp only [List.length_append, List.length_cons, List.length_nil]
      omega
  · rintro τ s' ⟨hn, hj, x2, x3, x4, x5, x6, x7, x8, x9, x10, x11, x12, x13, rfl⟩
    walk_at "mm"
end
end M07

namespace M07
open PySem PySem.Spec PyProof.Rows L2 Tw Mr
theorem xc_BadItem {K : PySem.W.Frag} {C fI cc cda : Addr} (S : SupAt P K C s_XBadItem "BadItem.__init__" fI cc cda) (n0 : PySem.W.findIn K (.ref C) "part" = some none) : XCall P K C ["part"] := by
  refine' xcall1 (ar := argOf s_XBadItem) (y := "part") S ?X ?hb ?hbind ?ky ?yd ?yne n0
  case hb => exact rfl
  case X => exact ⟨rfl, rfl, rfl, rfl, by decide +kernel, rfl, rfl, rfl, by decide +kernel, fun _ => rfl, fun _ => ⟨_, rfl⟩, fun _ _ _ _ _ _ _ _ => rfl⟩
  case hbind => exact fun _ _ _ _ _ _ _ => rfl
  case ky => exact rfl
  case yd => decide
  case yne => decide +kernel
theorem xc_BadPlace {K : PySem.W.Frag} {C fI cc cda : Addr} (S : SupAt P K C s_XBadPlace "BadPlace.__init__" fI cc cda) (n0 : PySem.W.findIn K (.ref C) "at" = some none) : XCall P K C ["at"] := by
  refine' xcall1 (ar := argOf s_XBadPlace) (y := "at") S ?X ?hb ?hbind ?ky ?yd ?yne n0
  case hb => exact rfl
  case X => exact ⟨rfl, rfl, rfl, rfl, by decide +kernel, rfl, rfl, rfl, by decide +kernel, fun _ => rfl, fun _ => ⟨_, rfl⟩, fun _ _ _ _ _ _ _ _ => rfl⟩
  case hbind => exact fun _ _ _ _ _ _ _ => rfl
  case ky => exact rfl
  case yd => decide
  case yne => decide +kernel
theorem xc_Disordered {K : PySem.W.Frag} {C fI cc cda : Addr} (S : SupAt P K C s_XDisordered "Disordered.__init__" fI cc cda) (n0 : PySem.W.findIn K (.ref C) "at" = some none) : XCall P K C ["at"] := by
  refine' xcall1 (ar := argOf s_XDisordered) (y := "at") S ?X ?hb ?hbind ?ky ?yd ?yne n0
  case hb => exact rfl
  case X => exact ⟨rfl, rfl, rfl, rfl, by decide +kernel, rfl, rfl, rfl, by decide +kernel, fun _ => rfl, fun _ => ⟨_, rfl⟩, fun _ _ _ _ _ _ _ _ => rfl⟩
  case hbind => exact fun _ _ _ _ _ _ _ => rfl
  case ky => exact rfl
  case yd => decide
  case yne => decide +kernel
theorem xc_TooMany {K : PySem.W.Frag} {C fI cc cda : Addr} (S : SupAt P K C s_XTooMany "TooMany.__init__" fI cc cda) (n0 : PySem.W.findIn K (.ref C) "most" = some none) : XCall P K C ["most"] := by
  refine' xcall1 (ar := argOf s_XTooMany) (y := "most") S ?X ?hb ?hbind ?ky ?yd ?yne n0
  case hb => exact rfl
  case X => exact ⟨rfl, rfl, rfl, rfl, by decide +kernel, rfl, rfl, rfl, by decide +kernel, fun _ => rfl, fun _ => ⟨_, rfl⟩, fun _ _ _ _ _ _ _ _ => rfl⟩
  case hbind => exact fun _ _ _ _ _ _ _ => rfl
  case ky => exact rfl
  case yd => decide
  case yne => decide +kernel
set_option maxHeartbeats 4000000 in
theorem all_mk {w : World} {K : PySem.W.Frag} {h : Heap} {mg : Str → Option Value} {fa : Addr} {ts : List Addr} (X : K.In h) (G : h.Ns mainGlobals mg) (hfa : mg "law" = some (.ref fa)) (tY : ∀ P ∈ ts, h.get? P = some (PySem.W.tabObj #[]))
    {C_HeadsError : Addr}
    {C_BadInput : Addr}
    {C_Refused : Addr}
    {C_BadItem : Addr}
    {C_BadPlace : Addr}
    {C_Disordered : Addr}
    {C_TooMany : Addr}
    {C_Item : Addr}
    {C_Row : Addr}
    {nm_BadItem qq_BadItem : Str} {N_BadItem : Addr} {bs_BadItem bm_BadItem : List Value} {sn_BadItem : List Str} {sub_BadItem : List Value} {ab_BadItem : Bool} {col_BadItem : Option Bool} {dd_BadItem : Option Addr} {k0_BadItem k1_BadItem k2_BadItem k3_BadItem k5_BadItem : Option Value}
    {f_XBadItem cc_XBadItem cda_XBadItem : Addr} {od_XBadItem an_XBadItem : Option Addr} {osl_XBadItem : Array (Option Value)} {kV_XBadItem doc_XBadItem pm_XBadItem ct_XBadItem : Value}
    {ccl_XBadItem : Value} {cdd_XBadItem : Option Addr} {vs_XBadItem : Array Value} {ccs_XBadItem : Array (Option Value)} {fi_XBadItem : Str} {tf_XBadItem : Tok} {el_XBadItem : Value} {eld_XBadItem : Option Addr} {els_XBadItem : Array (Option Value)}
    {nm_BadPlace qq_BadPlace : Str} {N_BadPlace : Addr} {bs_BadPlace bm_BadPlace : List Value} {sn_BadPlace : List Str} {sub_BadPlace : List Value} {ab_BadPlace : Bool} {col_BadPlace : Option Bool} {dd_BadPlace : Option Addr} {k0_BadPlace k1_BadPlace k2_BadPlace k3_BadPlace k5_BadPlace : Option Value}
    {f_XBadPlace cc_XBadPlace cda_XBadPlace : Addr} {od_XBadPlace an_XBadPlace : Option Addr} {osl_XBadPlace : Array (Option Value)} {kV_XBadPlace doc_XBadPlace pm_XBadPlace ct_XBadPlace : Value}
    {ccl_XBadPlace : Value} {cdd_XBadPlace : Option Addr} {vs_XBadPlace : Array Value} {ccs_XBadPlace : Array (Option Value)} {fi_XBadPlace : Str} {tf_XBadPlace : Tok} {el_XBadPlace : Value} {eld_XBadPlace : Option Addr} {els_XBadPlace : Array (Option Value)}
    {nm_Disordered qq_Disordered : Str} {N_Disordered : Addr} {bs_Disordered bm_Disordered : List Value} {sn_Disordered : List Str} {sub_Disordered : List Value} {ab_Disordered : Bool} {col_Disordered : Option Bool} {dd_Disordered : Option Addr} {k0_Disordered k1_Disordered k2_Disordered k3_Disordered k5_Disordered : Option Value}
    {f_XDisordered cc_XDisordered cda_XDisordered : Addr} {od_XDisordered an_XDisordered : Option Addr} {osl_XDisordered : Array (Option Value)} {kV_XDisordered doc_XDisordered pm_XDisordered ct_XDisordered : Value}
    {ccl_XDisordered : Value} {cdd_XDisordered : Option Addr} {vs_XDisordered : Array Value} {ccs_XDisordered : Array (Option Value)} {fi_XDisordered : Str} {tf_XDisordered : Tok} {el_XDisordered : Value} {eld_XDisordered : Option Addr} {els_XDisordered : Array (Option Value)}
    {nm_TooMany qq_TooMany : Str} {N_TooMany : Addr} {bs_TooMany bm_TooMany : List Value} {sn_TooMany : List Str} {sub_TooMany : List Value} {ab_TooMany : Bool} {col_TooMany : Option Bool} {dd_TooMany : Option Addr} {k0_TooMany k1_TooMany k2_TooMany k3_TooMany k5_TooMany : Option Value}
    {f_XTooMany cc_XTooMany cda_XTooMany : Addr} {od_XTooMany an_XTooMany : Option Addr} {osl_XTooMany : Array (Option Value)} {kV_XTooMany doc_XTooMany pm_XTooMany ct_XTooMany : Value}
    {ccl_XTooMany : Value} {cdd_XTooMany : Option Addr} {vs_XTooMany : Array Value} {ccs_XTooMany : Array (Option Value)} {fi_XTooMany : Str} {tf_XTooMany : Tok} {el_XTooMany : Value} {eld_XTooMany : Option Addr} {els_XTooMany : Array (Option Value)}
    {tg_LETTERS : Tok}
    {tg_MOST_LETTERS : Tok}
    {tg_GREATEST : Tok}
    {tg_MOST_ITEMS : Tok}
    {f_isint : Addr} {oc_isint kV_isint doc_isint pm_isint cdv_isint ct_isint : Value} {od_isint an_isint : Option Addr} {osl_isint : Array (Option Value)}
    {f_isrank : Addr} {oc_isrank kV_isrank doc_isrank pm_isrank cdv_isrank ct_isrank : Value} {od_isrank an_isrank : Option Addr} {osl_isrank : Array (Option Value)}
    {f_isname : Addr} {oc_isname kV_isname doc_isname pm_isname cdv_isname ct_isname : Value} {od_isname an_isname : Option Addr} {osl_isname : Array (Option Value)}
    {f_Iinit : Addr} {oc_Iinit kV_Iinit doc_Iinit pm_Iinit cdv_Iinit ct_Iinit : Value} {od_Iinit an_Iinit : Option Addr} {osl_Iinit : Array (Option Value)}
    {D_Iinit : Addr}
    {t_Iinit0 : Tok}
    {od2_Iinit : Option Addr} {n2_Iinit : Nat} {sl2_Iinit : Array (Option Value)} {oc2_Iinit : Value}
    {f_item_of : Addr} {oc_item_of kV_item_of doc_item_of pm_item_of cdv_item_of ct_item_of : Value} {od_item_of an_item_of : Option Addr} {osl_item_of : Array (Option Value)}
    {f_need_few : Addr} {oc_need_few kV_need_few doc_need_few pm_need_few cdv_need_few ct_need_few : Value} {od_need_few an_need_few : Option Addr} {osl_need_few : Array (Option Value)}
    {f_need_ascending : Addr} {oc_need_ascending kV_need_ascending doc_need_ascending pm_need_ascending cdv_need_ascending ct_need_ascending : Value} {od_need_ascending an_need_ascending : Option Addr} {osl_need_ascending : Array (Option Value)}
    {f_items_of : Addr} {oc_items_of kV_items_of doc_items_of pm_items_of cdv_items_of ct_items_of : Value} {od_items_of an_items_of : Option Addr} {osl_items_of : Array (Option Value)}
    {f_behind_block : Addr} {oc_behind_block kV_behind_block doc_behind_block pm_behind_block cdv_behind_block ct_behind_block : Value} {od_behind_block an_behind_block : Option Addr} {osl_behind_block : Array (Option Value)}
    {f_chosen : Addr} {oc_chosen kV_chosen doc_chosen pm_chosen cdv_chosen ct_chosen : Value} {od_chosen an_chosen : Option Addr} {osl_chosen : Array (Option Value)}
    {f_bag : Addr} {oc_bag kV_bag doc_bag pm_bag cdv_bag ct_bag : Value} {od_bag an_bag : Option Addr} {osl_bag : Array (Option Value)}
    {f_Rinit : Addr} {oc_Rinit kV_Rinit doc_Rinit pm_Rinit cdv_Rinit ct_Rinit : Value} {od_Rinit an_Rinit : Option Addr} {osl_Rinit : Array (Option Value)}
    {D_Rinit : Addr}
    {e_Rinit0 : Addr}
    {od2_Rinit : Option Addr} {n2_Rinit : Nat} {sl2_Rinit : Array (Option Value)} {oc2_Rinit : Value}
    {f_Rlisted : Addr} {oc_Rlisted kV_Rlisted doc_Rlisted pm_Rlisted cdv_Rlisted ct_Rlisted : Value} {od_Rlisted an_Rlisted : Option Addr} {osl_Rlisted : Array (Option Value)}
    {f_Riter : Addr} {oc_Riter kV_Riter doc_Riter pm_Riter cdv_Riter ct_Riter : Value} {od_Riter an_Riter : Option Addr} {osl_Riter : Array (Option Value)}
    {f_Riadd : Addr} {oc_Riadd kV_Riadd doc_Riadd pm_Riadd cdv_Riadd ct_Riadd : Value} {od_Riadd an_Riadd : Option Addr} {osl_Riadd : Array (Option Value)}
    {f_Rior : Addr} {oc_Rior kV_Rior doc_Rior pm_Rior cdv_Rior ct_Rior : Value} {od_Rior an_Rior : Option Addr} {osl_Rior : Array (Option Value)}
    {f_Riand : Addr} {oc_Riand kV_Riand doc_Riand pm_Riand cdv_Riand ct_Riand : Value} {od_Riand an_Riand : Option Addr} {osl_Riand : Array (Option Value)}
    {f_Risub : Addr} {oc_Risub kV_Risub doc_Risub pm_Risub cdv_Risub ct_Risub : Value} {od_Risub an_Risub : Option Addr} {osl_Risub : Array (Option Value)}
    {f_Rixor : Addr} {oc_Rixor kV_Rixor doc_Rixor pm_Rixor cdv_Rixor ct_Rixor : Value} {od_Rixor an_Rixor : Option Addr} {osl_Rixor : Array (Option Value)}
    {f_pen : Addr} {oc_pen kV_pen doc_pen pm_pen cdv_pen ct_pen : Value} {od_pen an_pen : Option Addr} {osl_pen : Array (Option Value)}
    {f_draw : Addr} {oc_draw kV_draw doc_draw pm_draw cdv_draw ct_draw : Value} {od_draw an_draw : Option Addr} {osl_draw : Array (Option Value)}
    {f_pick : Addr} {oc_pick kV_pick doc_pick pm_pick cdv_pick ct_pick : Value} {od_pick an_pick : Option Addr} {osl_pick : Array (Option Value)}
    {f_pairs : Addr} {oc_pairs kV_pairs doc_pairs pm_pairs cdv_pairs ct_pairs : Value} {od_pairs an_pairs : Option Addr} {osl_pairs : Array (Option Value)}
    {f_values : Addr} {oc_values kV_values doc_values pm_values cdv_values ct_values : Value} {od_values an_values : Option Addr} {osl_values : Array (Option Value)}
    {f_told : Addr} {oc_told kV_told doc_told pm_told cdv_told ct_told : Value} {od_told an_told : Option Addr} {osl_told : Array (Option Value)}
    {f_heard : Addr} {oc_heard kV_heard doc_heard pm_heard cdv_heard ct_heard : Value} {od_heard an_heard : Option Addr} {osl_heard : Array (Option Value)}
    {f_lbag : Addr} {oc_lbag kV_lbag doc_lbag pm_lbag cdv_lbag ct_lbag : Value} {od_lbag an_lbag : Option Addr} {osl_lbag : Array (Option Value)}
    {f_change : Addr} {oc_change kV_change doc_change pm_change cdv_change ct_change : Value} {od_change an_change : Option Addr} {osl_change : Array (Option Value)}
    {f_beside : Addr} {oc_beside kV_beside doc_beside pm_beside cdv_beside ct_beside : Value} {od_beside an_beside : Option Addr} {osl_beside : Array (Option Value)}
    {f_refused cdv_refused pt_refused : Addr} {oc_refused kV_refused doc_refused pm_refused ct_refused : Value} {od_refused an_refused : Option Addr} {osl_refused : Array (Option Value)}
    {ocl_refused : Value} {ocd_refused : Option Addr} {ovs_refused : Array Value} {ocs_refused : Array (Option Value)}
    {f_law : Addr} {oc_law kV_law doc_law pm_law cdv_law ct_law : Value} {od_law an_law : Option Addr} {osl_law : Array (Option Value)}
    (z_len : PySem.W.nsIn K mainGlobals "len" = some none)
    (z_abs : PySem.W.nsIn K mainGlobals "abs" = some none)
    (z_int : PySem.W.nsIn K mainGlobals "int" = some none)
    (z_list : PySem.W.nsIn K mainGlobals "list" = some none)
    (z_tuple : PySem.W.nsIn K mainGlobals "tuple" = some none)
    (z_str : PySem.W.nsIn K mainGlobals "str" = some none)
    (z_range : PySem.W.nsIn K mainGlobals "range" = some none)
    (z_isinstance : PySem.W.nsIn K mainGlobals "isinstance" = some none)
    (z_all : PySem.W.nsIn K mainGlobals "all" = some none)
    (z_bool : PySem.W.nsIn K mainGlobals "bool" = some none)
    (z_sorted : PySem.W.nsIn K mainGlobals "sorted" = some none)
    (z_super : PySem.W.nsIn K mainGlobals "super" = some none)
    (z_enumerate : PySem.W.nsIn K mainGlobals "enumerate" = some none)
    (z_iter : PySem.W.nsIn K mainGlobals "iter" = some none)
    (z_ValueError : PySem.W.nsIn K mainGlobals "ValueError" = some none)
    (aC_HeadsError : PySem.W.nsIn K mainGlobals "HeadsError" = some (some (.ref C_HeadsError)))
    (aC_BadInput : PySem.W.nsIn K mainGlobals "BadInput" = some (some (.ref C_BadInput)))
    (aC_Refused : PySem.W.nsIn K mainGlobals "Refused" = some (some (.ref C_Refused)))
    (aC_BadItem : PySem.W.nsIn K mainGlobals "BadItem" = some (some (.ref C_BadItem)))
    (aC_BadPlace : PySem.W.nsIn K mainGlobals "BadPlace" = some (some (.ref C_BadPlace)))
    (aC_Disordered : PySem.W.nsIn K mainGlobals "Disordered" = some (some (.ref C_Disordered)))
    (aC_TooMany : PySem.W.nsIn K mainGlobals "TooMany" = some (some (.ref C_TooMany)))
    (aC_Item : PySem.W.nsIn K mainGlobals "Item" = some (some (.ref C_Item)))
    (aC_Row : PySem.W.nsIn K mainGlobals "Row" = some (some (.ref C_Row)))
    (bC_Item : insB K C_Item = true)
    (na_Item_rank : PySem.W.findIn K (.ref C_Item) "rank" = some none)
    (na_Item_name : PySem.W.findIn K (.ref C_Item) "name" = some none)
    (bC_Row : insB K C_Row = true)
    (na_Row_held : PySem.W.findIn K (.ref C_Row) "held" = some none)
    (lC_BadItem : K.lookup C_BadItem = some (excClassObj nm_BadItem qq_BadItem C_BadItem N_BadItem bs_BadItem bm_BadItem true sn_BadItem sub_BadItem ab_BadItem col_BadItem dd_BadItem k0_BadItem k1_BadItem k2_BadItem k3_BadItem k5_BadItem "ValueError.__new__"))
    (rv_BadItem : PySem.HandSPX.refsVE bm_BadItem = true)
    (ob_BadItem : oexB K C_BadItem = true)
    (eb_BadItem : excB K C_BadItem = true)
    (na_BadItem_part : PySem.W.findIn K (.ref C_BadItem) "part" = some none)
    (i_XBadItem : PySem.W.findIn K (.ref C_BadItem) "__init__" = some (some (.ref f_XBadItem)))
    (l_XBadItem : K.lookup f_XBadItem = some ⟨.type "function", od_XBadItem, .func (PySem.W.ksFn "__init__" "BadItem.__init__" (C8.fnArgs s_XBadItem) (C8.fnBody s_XBadItem) (C8.fnScope s_XBadItem) .none kV_XBadItem doc_XBadItem pm_XBadItem an_XBadItem (.ref cda_XBadItem) ct_XBadItem cc_XBadItem), osl_XBadItem⟩)
    (cd_XBadItem : PySem.W.codeIn K (.ref cda_XBadItem) "BadItem.__init__" = true)
    (lc_XBadItem : K.lookup cda_XBadItem = some ⟨ccl_XBadItem, cdd_XBadItem, .fields vs_XBadItem, ccs_XBadItem⟩)
    (v2_XBadItem : vs_XBadItem[2]? = some (.str fi_XBadItem tf_XBadItem))
    (fi_e_XBadItem : ((P.main.file : Str) == fi_XBadItem) = true)
    (le_XBadItem : K.lookup cc_XBadItem = some ⟨el_XBadItem, eld_XBadItem, .cell (some (.ref C_BadItem)), els_XBadItem⟩)
    (su_XBadItem : PySem.W.ks_superIn K C_BadItem C_BadItem "__init__" = some (some (.builtin "ValueError.__init__")))
    (iv_XBadItem : PySem.W.subIn K (.ref C_BadItem) (.type "ValueError") = some true)
    (me_XBadItem : PySem.W.mroIn K C_BadItem (.ref C_BadItem) = some true)
    (opq : PySem.W.nsIn K cStatics "thirdparty.any" = some none)
    (lC_BadPlace : K.lookup C_BadPlace = some (excClassObj nm_BadPlace qq_BadPlace C_BadPlace N_BadPlace bs_BadPlace bm_BadPlace true sn_BadPlace sub_BadPlace ab_BadPlace col_BadPlace dd_BadPlace k0_BadPlace k1_BadPlace k2_BadPlace k3_BadPlace k5_BadPlace "ValueError.__new__"))
    (rv_BadPlace : PySem.HandSPX.refsVE bm_BadPlace = true)
    (ob_BadPlace : oexB K C_BadPlace = true)
    (eb_BadPlace : excB K C_BadPlace = true)
    (na_BadPlace_at : PySem.W.findIn K (.ref C_BadPlace) "at" = some none)
    (i_XBadPlace : PySem.W.findIn K (.ref C_BadPlace) "__init__" = some (some (.ref f_XBadPlace)))
    (l_XBadPlace : K.lookup f_XBadPlace = some ⟨.type "function", od_XBadPlace, .func (PySem.W.ksFn "__init__" "BadPlace.__init__" (C8.fnArgs s_XBadPlace) (C8.fnBody s_XBadPlace) (C8.fnScope s_XBadPlace) .none kV_XBadPlace doc_XBadPlace pm_XBadPlace an_XBadPlace (.ref cda_XBadPlace) ct_XBadPlace cc_XBadPlace), osl_XBadPlace⟩)
    (cd_XBadPlace : PySem.W.codeIn K (.ref cda_XBadPlace) "BadPlace.__init__" = true)
    (lc_XBadPlace : K.lookup cda_XBadPlace = some ⟨ccl_XBadPlace, cdd_XBadPlace, .fields vs_XBadPlace, ccs_XBadPlace⟩)
    (v2_XBadPlace : vs_XBadPlace[2]? = some (.str fi_XBadPlace tf_XBadPlace))
    (fi_e_XBadPlace : ((P.main.file : Str) == fi_XBadPlace) = true)
    (le_XBadPlace : K.lookup cc_XBadPlace = some ⟨el_XBadPlace, eld_XBadPlace, .cell (some (.ref C_BadPlace)), els_XBadPlace⟩)
    (su_XBadPlace : PySem.W.ks_superIn K C_BadPlace C_BadPlace "__init__" = some (some (.builtin "ValueError.__init__")))
    (iv_XBadPlace : PySem.W.subIn K (.ref C_BadPlace) (.type "ValueError") = some true)
    (me_XBadPlace : PySem.W.mroIn K C_BadPlace (.ref C_BadPlace) = some true)
    (lC_Disordered : K.lookup C_Disordered = some (excClassObj nm_Disordered qq_Disordered C_Disordered N_Disordered bs_Disordered bm_Disordered true sn_Disordered sub_Disordered ab_Disordered col_Disordered dd_Disordered k0_Disordered k1_Disordered k2_Disordered k3_Disordered k5_Disordered "ValueError.__new__"))
    (rv_Disordered : PySem.HandSPX.refsVE bm_Disordered = true)
    (ob_Disordered : oexB K C_Disordered = true)
    (eb_Disordered : excB K C_Disordered = true)
    (na_Disordered_at : PySem.W.findIn K (.ref C_Disordered) "at" = some none)
    (i_XDisordered : PySem.W.findIn K (.ref C_Disordered) "__init__" = some (some (.ref f_XDisordered)))
    (l_XDisordered : K.lookup f_XDisordered = some ⟨.type "function", od_XDisordered, .func (PySem.W.ksFn "__init__" "Disordered.__init__" (C8.fnArgs s_XDisordered) (C8.fnBody s_XDisordered) (C8.fnScope s_XDisordered) .none kV_XDisordered doc_XDisordered pm_XDisordered an_XDisordered (.ref cda_XDisordered) ct_XDisordered cc_XDisordered), osl_XDisordered⟩)
    (cd_XDisordered : PySem.W.codeIn K (.ref cda_XDisordered) "Disordered.__init__" = true)
    (lc_XDisordered : K.lookup cda_XDisordered = some ⟨ccl_XDisordered, cdd_XDisordered, .fields vs_XDisordered, ccs_XDisordered⟩)
    (v2_XDisordered : vs_XDisordered[2]? = some (.str fi_XDisordered tf_XDisordered))
    (fi_e_XDisordered : ((P.main.file : Str) == fi_XDisordered) = true)
    (le_XDisordered : K.lookup cc_XDisordered = some ⟨el_XDisordered, eld_XDisordered, .cell (some (.ref C_Disordered)), els_XDisordered⟩)
    (su_XDisordered : PySem.W.ks_superIn K C_Disordered C_Disordered "__init__" = some (some (.builtin "ValueError.__init__")))
    (iv_XDisordered : PySem.W.subIn K (.ref C_Disordered) (.type "ValueError") = some true)
    (me_XDisordered : PySem.W.mroIn K C_Disordered (.ref C_Disordered) = some true)
    (lC_TooMany : K.lookup C_TooMany = some (excClassObj nm_TooMany qq_TooMany C_TooMany N_TooMany bs_TooMany bm_TooMany true sn_TooMany sub_TooMany ab_TooMany col_TooMany dd_TooMany k0_TooMany k1_TooMany k2_TooMany k3_TooMany k5_TooMany "ValueError.__new__"))
    (rv_TooMany : PySem.HandSPX.refsVE bm_TooMany = true)
    (ob_TooMany : oexB K C_TooMany = true)
    (eb_TooMany : excB K C_TooMany = true)
    (na_TooMany_most : PySem.W.findIn K (.ref C_TooMany) "most" = some none)
    (i_XTooMany : PySem.W.findIn K (.ref C_TooMany) "__init__" = some (some (.ref f_XTooMany)))
    (l_XTooMany : K.lookup f_XTooMany = some ⟨.type "function", od_XTooMany, .func (PySem.W.ksFn "__init__" "TooMany.__init__" (C8.fnArgs s_XTooMany) (C8.fnBody s_XTooMany) (C8.fnScope s_XTooMany) .none kV_XTooMany doc_XTooMany pm_XTooMany an_XTooMany (.ref cda_XTooMany) ct_XTooMany cc_XTooMany), osl_XTooMany⟩)
    (cd_XTooMany : PySem.W.codeIn K (.ref cda_XTooMany) "TooMany.__init__" = true)
    (lc_XTooMany : K.lookup cda_XTooMany = some ⟨ccl_XTooMany, cdd_XTooMany, .fields vs_XTooMany, ccs_XTooMany⟩)
    (v2_XTooMany : vs_XTooMany[2]? = some (.str fi_XTooMany tf_XTooMany))
    (fi_e_XTooMany : ((P.main.file : Str) == fi_XTooMany) = true)
    (le_XTooMany : K.lookup cc_XTooMany = some ⟨el_XTooMany, eld_XTooMany, .cell (some (.ref C_TooMany)), els_XTooMany⟩)
    (su_XTooMany : PySem.W.ks_superIn K C_TooMany C_TooMany "__init__" = some (some (.builtin "ValueError.__init__")))
    (iv_XTooMany : PySem.W.subIn K (.ref C_TooMany) (.type "ValueError") = some true)
    (me_XTooMany : PySem.W.mroIn K C_TooMany (.ref C_TooMany) = some true)
    (em_HeadsError : exmB K (⟨clL [C_HeadsError, C_BadInput, C_Refused, C_BadItem, C_BadPlace, C_Disordered, C_TooMany, C_Item, C_Row, cdv_refused, pt_refused], [(pt_refused, (envOfC "_law_refused" (C8.fnScope s_refused) 0 0 .none).qual ++ "<lambda>")]⟩) 0 [3, 4, 5, 6] = true)
    (kit : kitB' K (⟨clL [C_HeadsError, C_BadInput, C_Refused, C_BadItem, C_BadPlace, C_Disordered, C_TooMany, C_Item, C_Row, cdv_refused, pt_refused], [(pt_refused, (envOfC "_law_refused" (C8.fnScope s_refused) 0 0 .none).qual ++ "<lambda>")]⟩) kkT = true)
    (g_LETTERS : PySem.W.nsIn K mainGlobals "LETTERS" = some (some (.str "abcdefghijklmnopqrstuvwxyz" tg_LETTERS)))
    (g_MOST_LETTERS : PySem.W.nsIn K mainGlobals "MOST_LETTERS" = some (some (.int (8) tg_MOST_LETTERS)))
    (g_GREATEST : PySem.W.nsIn K mainGlobals "GREATEST" = some (some (.int (999999999999999999999999999999) tg_GREATEST)))
    (g_MOST_ITEMS : PySem.W.nsIn K mainGlobals "MOST_ITEMS" = some (some (.int (200) tg_MOST_ITEMS)))
    (a_isint : PySem.W.nsIn K mainGlobals "is_integer" = some (some (.ref f_isint)))
    (l_isint : K.lookup f_isint = some ⟨oc_isint, od_isint, .func (PySem.W.fnOf "is_integer" "is_integer" (C8.fnArgs s_isint) (C8.fnBody s_isint) (C8.fnScope s_isint) .none kV_isint doc_isint pm_isint an_isint cdv_isint ct_isint), osl_isint⟩)
    (cd_isint : PySem.W.codeIn K cdv_isint "is_integer" = true)
    (k_isint : PySem.W.keepIn K (.ref f_isint) = true)
    (a_isrank : PySem.W.nsIn K mainGlobals "is_rank" = some (some (.ref f_isrank)))
    (l_isrank : K.lookup f_isrank = some ⟨oc_isrank, od_isrank, .func (PySem.W.fnOf "is_rank" "is_rank" (C8.fnArgs s_isrank) (C8.fnBody s_isrank) (C8.fnScope s_isrank) .none kV_isrank doc_isrank pm_isrank an_isrank cdv_isrank ct_isrank), osl_isrank⟩)
    (cd_isrank : PySem.W.codeIn K cdv_isrank "is_rank" = true)
    (k_isrank : PySem.W.keepIn K (.ref f_isrank) = true)
    (a_isname : PySem.W.nsIn K mainGlobals "is_item_name" = some (some (.ref f_isname)))
    (l_isname : K.lookup f_isname = some ⟨oc_isname, od_isname, .func (PySem.W.fnOf "is_item_name" "is_item_name" (C8.fnArgs s_isname) (C8.fnBody s_isname) (C8.fnScope s_isname) .none kV_isname doc_isname pm_isname an_isname cdv_isname ct_isname), osl_isname⟩)
    (cd_isname : PySem.W.codeIn K cdv_isname "is_item_name" = true)
    (k_isname : PySem.W.keepIn K (.ref f_isname) = true)
    (a_Iinit : PySem.W.findIn K (.ref C_Item) "__init__" = some (some (.ref f_Iinit)))
    (i_Iinit : PySem.W.isFn K (.ref f_Iinit) = true)
    (l_Iinit : K.lookup f_Iinit = some ⟨oc_Iinit, od_Iinit, .func (PySem.W.fnOf "__init__" "Item.__init__" (C8.fnArgs s_Iinit) (C8.fnBody s_Iinit) (C8.fnScope s_Iinit) (.ref D_Iinit) kV_Iinit doc_Iinit pm_Iinit an_Iinit cdv_Iinit ct_Iinit), osl_Iinit⟩)
    (cd_Iinit : PySem.W.codeIn K cdv_Iinit "Item.__init__" = true)
    (k_Iinit : PySem.W.keepIn K (.ref f_Iinit) = true)
    (d_Iinit : K.lookup D_Iinit = some ⟨oc2_Iinit, od2_Iinit, .seq #[.str "" t_Iinit0] n2_Iinit, sl2_Iinit⟩)
    (mkC_Item : PySem.W.makesIn K C_Item = true)
    (kcC_Item : PySem.W.keepIn K (.ref C_Item) = true)
    (a_item_of : PySem.W.nsIn K mainGlobals "item_of" = some (some (.ref f_item_of)))
    (l_item_of : K.lookup f_item_of = some ⟨oc_item_of, od_item_of, .func (PySem.W.fnOf "item_of" "item_of" (C8.fnArgs s_item_of) (C8.fnBody s_item_of) (C8.fnScope s_item_of) .none kV_item_of doc_item_of pm_item_of an_item_of cdv_item_of ct_item_of), osl_item_of⟩)
    (cd_item_of : PySem.W.codeIn K cdv_item_of "item_of" = true)
    (k_item_of : PySem.W.keepIn K (.ref f_item_of) = true)
    (a_need_few : PySem.W.nsIn K mainGlobals "need_few" = some (some (.ref f_need_few)))
    (l_need_few : K.lookup f_need_few = some ⟨oc_need_few, od_need_few, .func (PySem.W.fnOf "need_few" "need_few" (C8.fnArgs s_need_few) (C8.fnBody s_need_few) (C8.fnScope s_need_few) .none kV_need_few doc_need_few pm_need_few an_need_few cdv_need_few ct_need_few), osl_need_few⟩)
    (cd_need_few : PySem.W.codeIn K cdv_need_few "need_few" = true)
    (k_need_few : PySem.W.keepIn K (.ref f_need_few) = true)
    (a_need_ascending : PySem.W.nsIn K mainGlobals "need_ascending" = some (some (.ref f_need_ascending)))
    (l_need_ascending : K.lookup f_need_ascending = some ⟨oc_need_ascending, od_need_ascending, .func (PySem.W.fnOf "need_ascending" "need_ascending" (C8.fnArgs s_need_ascending) (C8.fnBody s_need_ascending) (C8.fnScope s_need_ascending) .none kV_need_ascending doc_need_ascending pm_need_ascending an_need_ascending cdv_need_ascending ct_need_ascending), osl_need_ascending⟩)
    (cd_need_ascending : PySem.W.codeIn K cdv_need_ascending "need_ascending" = true)
    (k_need_ascending : PySem.W.keepIn K (.ref f_need_ascending) = true)
    (a_items_of : PySem.W.nsIn K mainGlobals "items_of" = some (some (.ref f_items_of)))
    (l_items_of : K.lookup f_items_of = some ⟨oc_items_of, od_items_of, .func (PySem.W.fnOf "items_of" "items_of" (C8.fnArgs s_items_of) (C8.fnBody s_items_of) (C8.fnScope s_items_of) .none kV_items_of doc_items_of pm_items_of an_items_of cdv_items_of ct_items_of), osl_items_of⟩)
    (cd_items_of : PySem.W.codeIn K cdv_items_of "items_of" = true)
    (k_items_of : PySem.W.keepIn K (.ref f_items_of) = true)
    (a_behind_block : PySem.W.nsIn K mainGlobals "behind_block" = some (some (.ref f_behind_block)))
    (l_behind_block : K.lookup f_behind_block = some ⟨oc_behind_block, od_behind_block, .func (PySem.W.fnOf "behind_block" "behind_block" (C8.fnArgs s_behind_block) (C8.fnBody s_behind_block) (C8.fnScope s_behind_block) .none kV_behind_block doc_behind_block pm_behind_block an_behind_block cdv_behind_block ct_behind_block), osl_behind_block⟩)
    (cd_behind_block : PySem.W.codeIn K cdv_behind_block "behind_block" = true)
    (k_behind_block : PySem.W.keepIn K (.ref f_behind_block) = true)
    (a_chosen : PySem.W.nsIn K mainGlobals "chosen" = some (some (.ref f_chosen)))
    (l_chosen : K.lookup f_chosen = some ⟨oc_chosen, od_chosen, .func (PySem.W.fnOf "chosen" "chosen" (C8.fnArgs s_chosen) (C8.fnBody s_chosen) (C8.fnScope s_chosen) .none kV_chosen doc_chosen pm_chosen an_chosen cdv_chosen ct_chosen), osl_chosen⟩)
    (cd_chosen : PySem.W.codeIn K cdv_chosen "chosen" = true)
    (k_chosen : PySem.W.keepIn K (.ref f_chosen) = true)
    (a_bag : PySem.W.nsIn K mainGlobals "bag" = some (some (.ref f_bag)))
    (l_bag : K.lookup f_bag = some ⟨oc_bag, od_bag, .func (PySem.W.fnOf "bag" "bag" (C8.fnArgs s_bag) (C8.fnBody s_bag) (C8.fnScope s_bag) .none kV_bag doc_bag pm_bag an_bag cdv_bag ct_bag), osl_bag⟩)
    (cd_bag : PySem.W.codeIn K cdv_bag "bag" = true)
    (k_bag : PySem.W.keepIn K (.ref f_bag) = true)
    (a_Rinit : PySem.W.findIn K (.ref C_Row) "__init__" = some (some (.ref f_Rinit)))
    (i_Rinit : PySem.W.isFn K (.ref f_Rinit) = true)
    (l_Rinit : K.lookup f_Rinit = some ⟨oc_Rinit, od_Rinit, .func (PySem.W.fnOf "__init__" "Row.__init__" (C8.fnArgs s_Rinit) (C8.fnBody s_Rinit) (C8.fnScope s_Rinit) (.ref D_Rinit) kV_Rinit doc_Rinit pm_Rinit an_Rinit cdv_Rinit ct_Rinit), osl_Rinit⟩)
    (cd_Rinit : PySem.W.codeIn K cdv_Rinit "Row.__init__" = true)
    (k_Rinit : PySem.W.keepIn K (.ref f_Rinit) = true)
    (d_Rinit : K.lookup D_Rinit = some ⟨oc2_Rinit, od2_Rinit, .seq #[.ref e_Rinit0] n2_Rinit, sl2_Rinit⟩)
    (mkC_Row : PySem.W.makesIn K C_Row = true)
    (kcC_Row : PySem.W.keepIn K (.ref C_Row) = true)
    (a_Rlisted : PySem.W.findIn K (.ref C_Row) "listed" = some (some (.ref f_Rlisted)))
    (i_Rlisted : PySem.W.isFn K (.ref f_Rlisted) = true)
    (l_Rlisted : K.lookup f_Rlisted = some ⟨oc_Rlisted, od_Rlisted, .func (PySem.W.fnOf "listed" "Row.listed" (C8.fnArgs s_Rlisted) (C8.fnBody s_Rlisted) (C8.fnScope s_Rlisted) .none kV_Rlisted doc_Rlisted pm_Rlisted an_Rlisted cdv_Rlisted ct_Rlisted), osl_Rlisted⟩)
    (cd_Rlisted : PySem.W.codeIn K cdv_Rlisted "Row.listed" = true)
    (k_Rlisted : PySem.W.keepIn K (.ref f_Rlisted) = true)
    (a_Riter : PySem.W.findIn K (.ref C_Row) "__iter__" = some (some (.ref f_Riter)))
    (i_Riter : PySem.W.isFn K (.ref f_Riter) = true)
    (l_Riter : K.lookup f_Riter = some ⟨oc_Riter, od_Riter, .func (PySem.W.fnOf "__iter__" "Row.__iter__" (C8.fnArgs s_Riter) (C8.fnBody s_Riter) (C8.fnScope s_Riter) .none kV_Riter doc_Riter pm_Riter an_Riter cdv_Riter ct_Riter), osl_Riter⟩)
    (cd_Riter : PySem.W.codeIn K cdv_Riter "Row.__iter__" = true)
    (k_Riter : PySem.W.keepIn K (.ref f_Riter) = true)
    (a_Riadd : PySem.W.findIn K (.ref C_Row) "__iadd__" = some (some (.ref f_Riadd)))
    (i_Riadd : PySem.W.isFn K (.ref f_Riadd) = true)
    (l_Riadd : K.lookup f_Riadd = some ⟨oc_Riadd, od_Riadd, .func (PySem.W.fnOf "__iadd__" "Row.__iadd__" (C8.fnArgs s_Riadd) (C8.fnBody s_Riadd) (C8.fnScope s_Riadd) .none kV_Riadd doc_Riadd pm_Riadd an_Riadd cdv_Riadd ct_Riadd), osl_Riadd⟩)
    (cd_Riadd : PySem.W.codeIn K cdv_Riadd "Row.__iadd__" = true)
    (k_Riadd : PySem.W.keepIn K (.ref f_Riadd) = true)
    (a_Rior : PySem.W.findIn K (.ref C_Row) "__ior__" = some (some (.ref f_Rior)))
    (i_Rior : PySem.W.isFn K (.ref f_Rior) = true)
    (l_Rior : K.lookup f_Rior = some ⟨oc_Rior, od_Rior, .func (PySem.W.fnOf "__ior__" "Row.__ior__" (C8.fnArgs s_Rior) (C8.fnBody s_Rior) (C8.fnScope s_Rior) .none kV_Rior doc_Rior pm_Rior an_Rior cdv_Rior ct_Rior), osl_Rior⟩)
    (cd_Rior : PySem.W.codeIn K cdv_Rior "Row.__ior__" = true)
    (k_Rior : PySem.W.keepIn K (.ref f_Rior) = true)
    (a_Riand : PySem.W.findIn K (.ref C_Row) "__iand__" = some (some (.ref f_Riand)))
    (i_Riand : PySem.W.isFn K (.ref f_Riand) = true)
    (l_Riand : K.lookup f_Riand = some ⟨oc_Riand, od_Riand, .func (PySem.W.fnOf "__iand__" "Row.__iand__" (C8.fnArgs s_Riand) (C8.fnBody s_Riand) (C8.fnScope s_Riand) .none kV_Riand doc_Riand pm_Riand an_Riand cdv_Riand ct_Riand), osl_Riand⟩)
    (cd_Riand : PySem.W.codeIn K cdv_Riand "Row.__iand__" = true)
    (k_Riand : PySem.W.keepIn K (.ref f_Riand) = true)
    (a_Risub : PySem.W.findIn K (.ref C_Row) "__isub__" = some (some (.ref f_Risub)))
    (i_Risub : PySem.W.isFn K (.ref f_Risub) = true)
    (l_Risub : K.lookup f_Risub = some ⟨oc_Risub, od_Risub, .func (PySem.W.fnOf "__isub__" "Row.__isub__" (C8.fnArgs s_Risub) (C8.fnBody s_Risub) (C8.fnScope s_Risub) .none kV_Risub doc_Risub pm_Risub an_Risub cdv_Risub ct_Risub), osl_Risub⟩)
    (cd_Risub : PySem.W.codeIn K cdv_Risub "Row.__isub__" = true)
    (k_Risub : PySem.W.keepIn K (.ref f_Risub) = true)
    (a_Rixor : PySem.W.findIn K (.ref C_Row) "__ixor__" = some (some (.ref f_Rixor)))
    (i_Rixor : PySem.W.isFn K (.ref f_Rixor) = true)
    (l_Rixor : K.lookup f_Rixor = some ⟨oc_Rixor, od_Rixor, .func (PySem.W.fnOf "__ixor__" "Row.__ixor__" (C8.fnArgs s_Rixor) (C8.fnBody s_Rixor) (C8.fnScope s_Rixor) .none kV_Rixor doc_Rixor pm_Rixor an_Rixor cdv_Rixor ct_Rixor), osl_Rixor⟩)
    (cd_Rixor : PySem.W.codeIn K cdv_Rixor "Row.__ixor__" = true)
    (k_Rixor : PySem.W.keepIn K (.ref f_Rixor) = true)
    (a_pen : PySem.W.nsIn K mainGlobals "_law_pen" = some (some (.ref f_pen)))
    (l_pen : K.lookup f_pen = some ⟨oc_pen, od_pen, .func (PySem.W.fnOf "_law_pen" "_law_pen" (C8.fnArgs s_pen) (C8.fnBody s_pen) (C8.fnScope s_pen) .none kV_pen doc_pen pm_pen an_pen cdv_pen ct_pen), osl_pen⟩)
    (cd_pen : PySem.W.codeIn K cdv_pen "_law_pen" = true)
    (k_pen : PySem.W.keepIn K (.ref f_pen) = true)
    (a_draw : PySem.W.nsIn K mainGlobals "_law_draw" = some (some (.ref f_draw)))
    (l_draw : K.lookup f_draw = some ⟨oc_draw, od_draw, .func (PySem.W.fnOf "_law_draw" "_law_draw" (C8.fnArgs s_draw) (C8.fnBody s_draw) (C8.fnScope s_draw) .none kV_draw doc_draw pm_draw an_draw cdv_draw ct_draw), osl_draw⟩)
    (cd_draw : PySem.W.codeIn K cdv_draw "_law_draw" = true)
    (k_draw : PySem.W.keepIn K (.ref f_draw) = true)
    (a_pick : PySem.W.nsIn K mainGlobals "_law_pick" = some (some (.ref f_pick)))
    (l_pick : K.lookup f_pick = some ⟨oc_pick, od_pick, .func (PySem.W.fnOf "_law_pick" "_law_pick" (C8.fnArgs s_pick) (C8.fnBody s_pick) (C8.fnScope s_pick) .none kV_pick doc_pick pm_pick an_pick cdv_pick ct_pick), osl_pick⟩)
    (cd_pick : PySem.W.codeIn K cdv_pick "_law_pick" = true)
    (k_pick : PySem.W.keepIn K (.ref f_pick) = true)
    (a_pairs : PySem.W.nsIn K mainGlobals "_law_pairs" = some (some (.ref f_pairs)))
    (l_pairs : K.lookup f_pairs = some ⟨oc_pairs, od_pairs, .func (PySem.W.fnOf "_law_pairs" "_law_pairs" (C8.fnArgs s_pairs) (C8.fnBody s_pairs) (C8.fnScope s_pairs) .none kV_pairs doc_pairs pm_pairs an_pairs cdv_pairs ct_pairs), osl_pairs⟩)
    (cd_pairs : PySem.W.codeIn K cdv_pairs "_law_pairs" = true)
    (k_pairs : PySem.W.keepIn K (.ref f_pairs) = true)
    (a_values : PySem.W.nsIn K mainGlobals "_law_values" = some (some (.ref f_values)))
    (l_values : K.lookup f_values = some ⟨oc_values, od_values, .func (PySem.W.fnOf "_law_values" "_law_values" (C8.fnArgs s_values) (C8.fnBody s_values) (C8.fnScope s_values) .none kV_values doc_values pm_values an_values cdv_values ct_values), osl_values⟩)
    (cd_values : PySem.W.codeIn K cdv_values "_law_values" = true)
    (k_values : PySem.W.keepIn K (.ref f_values) = true)
    (a_told : PySem.W.nsIn K mainGlobals "_law_told" = some (some (.ref f_told)))
    (l_told : K.lookup f_told = some ⟨oc_told, od_told, .func (PySem.W.fnOf "_law_told" "_law_told" (C8.fnArgs s_told) (C8.fnBody s_told) (C8.fnScope s_told) .none kV_told doc_told pm_told an_told cdv_told ct_told), osl_told⟩)
    (cd_told : PySem.W.codeIn K cdv_told "_law_told" = true)
    (k_told : PySem.W.keepIn K (.ref f_told) = true)
    (a_heard : PySem.W.nsIn K mainGlobals "_law_heard" = some (some (.ref f_heard)))
    (l_heard : K.lookup f_heard = some ⟨oc_heard, od_heard, .func (PySem.W.fnOf "_law_heard" "_law_heard" (C8.fnArgs s_heard) (C8.fnBody s_heard) (C8.fnScope s_heard) .none kV_heard doc_heard pm_heard an_heard cdv_heard ct_heard), osl_heard⟩)
    (cd_heard : PySem.W.codeIn K cdv_heard "_law_heard" = true)
    (k_heard : PySem.W.keepIn K (.ref f_heard) = true)
    (a_lbag : PySem.W.nsIn K mainGlobals "_law_bag" = some (some (.ref f_lbag)))
    (l_lbag : K.lookup f_lbag = some ⟨oc_lbag, od_lbag, .func (PySem.W.fnOf "_law_bag" "_law_bag" (C8.fnArgs s_lbag) (C8.fnBody s_lbag) (C8.fnScope s_lbag) .none kV_lbag doc_lbag pm_lbag an_lbag cdv_lbag ct_lbag), osl_lbag⟩)
    (cd_lbag : PySem.W.codeIn K cdv_lbag "_law_bag" = true)
    (k_lbag : PySem.W.keepIn K (.ref f_lbag) = true)
    (a_change : PySem.W.nsIn K mainGlobals "_law_change" = some (some (.ref f_change)))
    (l_change : K.lookup f_change = some ⟨oc_change, od_change, .func (PySem.W.fnOf "_law_change" "_law_change" (C8.fnArgs s_change) (C8.fnBody s_change) (C8.fnScope s_change) .none kV_change doc_change pm_change an_change cdv_change ct_change), osl_change⟩)
    (cd_change : PySem.W.codeIn K cdv_change "_law_change" = true)
    (k_change : PySem.W.keepIn K (.ref f_change) = true)
    (a_beside : PySem.W.nsIn K mainGlobals "_law_beside" = some (some (.ref f_beside)))
    (l_beside : K.lookup f_beside = some ⟨oc_beside, od_beside, .func (PySem.W.fnOf "_law_beside" "_law_beside" (C8.fnArgs s_beside) (C8.fnBody s_beside) (C8.fnScope s_beside) .none kV_beside doc_beside pm_beside an_beside cdv_beside ct_beside), osl_beside⟩)
    (cd_beside : PySem.W.codeIn K cdv_beside "_law_beside" = true)
    (k_beside : PySem.W.keepIn K (.ref f_beside) = true)
    (a_refused : PySem.W.nsIn K mainGlobals "_law_refused" = some (some (.ref f_refused)))
    (l_refused : K.lookup f_refused = some ⟨oc_refused, od_refused, .func (PySem.W.fnOf "_law_refused" "_law_refused" (C8.fnArgs s_refused) (C8.fnBody s_refused) (C8.fnScope s_refused) .none kV_refused doc_refused pm_refused an_refused (.ref cdv_refused) ct_refused), osl_refused⟩)
    (cd_refused : PySem.W.codeIn K (.ref cdv_refused) "_law_refused" = true)
    (lk_refused : K.lookup cdv_refused = some ⟨ocl_refused, ocd_refused, .fields ovs_refused, ocs_refused⟩)
    (v11_refused : ovs_refused[11]? = some (.ref pt_refused))
    (ch_refused : PySem.W.codeHdIn K cdv_refused pt_refused = true)
    (pn_refused : K.lookup pt_refused = none)
    (tm_refused : pt_refused ∈ ts)
    (k_refused : PySem.W.keepIn K (.ref f_refused) = true)
    (a_law : PySem.W.nsIn K mainGlobals "law" = some (some (.ref f_law)))
    (l_law : K.lookup f_law = some ⟨oc_law, od_law, .func (PySem.W.fnOf "law" "law" (C8.fnArgs s_law) (C8.fnBody s_law) (C8.fnScope s_law) .none kV_law doc_law pm_law an_law cdv_law ct_law), osl_law⟩)
    (cd_law : PySem.W.codeIn K cdv_law "law" = true)
    (k_law : PySem.W.keepIn K (.ref f_law) = true)
    (sf_Row : PySem.W.selfFirst K C_Row = true)
    (nodup : [pt_refused].Nodup)
    : ∃ (fd : FuncData) (tb : List (Addr × Addr)) (cl : CL), (∀ p ∈ tb, K.lookup p.2 = none ∧ PySem.W.CodeHd h p.1 p.2 ∧ h.get? p.2 = some { cls := .none, data := .fields #[] }) ∧ (∀ p ∈ cl.t, ∃ r ∈ tb, r.2 = p.1) ∧ (∀ (s : Shared) (v : Value), BindsTo s fd ⟨[v], []⟩ [("_law_script", v)]) ∧ ∀ base : Heap, (∀ p ∈ tb, LamX.TabB base mg p.1 p.2) → FnG P w K mg base 33 fa fd ["_law_script"] (Mr.spLaw cl K) := by
  have e := hfa.symm.trans (PySem.W.mg_of X G a_law)
  have ef : fa = f_law := by injection e with e; injection e
  rw [ef]
  have iC_Item : C8.InsC K C_Item := insB_ok bC_Item
  have cl_Item : Cls K C_Item := clsB_ok (Bool.and_eq_true_iff.mp bC_Item).1
  have iC_Row : C8.InsC K C_Row := insB_ok bC_Row
  have cl_Row : Cls K C_Row := clsB_ok (Bool.and_eq_true_iff.mp bC_Row).1
  have oe_BadItem : OexC K C_BadItem := oexB_ok ⟨_, _, _, _, _, _, _, _, _, _, _, _, _, _, _, lC_BadItem, rv_BadItem⟩ ob_BadItem
  have S_XBadItem : SupAt P K C_BadItem s_XBadItem "BadItem.__init__" f_XBadItem cc_XBadItem cda_XBadItem := ⟨oe_BadItem, z_super, i_XBadItem, ⟨_, _, _, _, _, _, _, l_XBadItem⟩, cd_XBadItem, ⟨_, _, _, _, _, _, lc_XBadItem, v2_XBadItem, fi_e_XBadItem⟩, ⟨_, _, _, le_XBadItem⟩, rfl, su_XBadItem, iv_XBadItem, me_XBadItem, opq⟩
  have oe_BadPlace : OexC K C_BadPlace := oexB_ok ⟨_, _, _, _, _, _, _, _, _, _, _, _, _, _, _, lC_BadPlace, rv_BadPlace⟩ ob_BadPlace
  have S_XBadPlace : SupAt P K C_BadPlace s_XBadPlace "BadPlace.__init__" f_XBadPlace cc_XBadPlace cda_XBadPlace := ⟨oe_BadPlace, z_super, i_XBadPlace, ⟨_, _, _, _, _, _, _, l_XBadPlace⟩, cd_XBadPlace, ⟨_, _, _, _, _, _, lc_XBadPlace, v2_XBadPlace, fi_e_XBadPlace⟩, ⟨_, _, _, le_XBadPlace⟩, rfl, su_XBadPlace, iv_XBadPlace, me_XBadPlace, opq⟩
  have oe_Disordered : OexC K C_Disordered := oexB_ok ⟨_, _, _, _, _, _, _, _, _, _, _, _, _, _, _, lC_Disordered, rv_Disordered⟩ ob_Disordered
  have S_XDisordered : SupAt P K C_Disordered s_XDisordered "Disordered.__init__" f_XDisordered cc_XDisordered cda_XDisordered := ⟨oe_Disordered, z_super, i_XDisordered, ⟨_, _, _, _, _, _, _, l_XDisordered⟩, cd_XDisordered, ⟨_, _, _, _, _, _, lc_XDisordered, v2_XDisordered, fi_e_XDisordered⟩, ⟨_, _, _, le_XDisordered⟩, rfl, su_XDisordered, iv_XDisordered, me_XDisordered, opq⟩
  have oe_TooMany : OexC K C_TooMany := oexB_ok ⟨_, _, _, _, _, _, _, _, _, _, _, _, _, _, _, lC_TooMany, rv_TooMany⟩ ob_TooMany
  have S_XTooMany : SupAt P K C_TooMany s_XTooMany "TooMany.__init__" f_XTooMany cc_XTooMany cda_XTooMany := ⟨oe_TooMany, z_super, i_XTooMany, ⟨_, _, _, _, _, _, _, l_XTooMany⟩, cd_XTooMany, ⟨_, _, _, _, _, _, lc_XTooMany, v2_XTooMany, fi_e_XTooMany⟩, ⟨_, _, _, le_XTooMany⟩, rfl, su_XTooMany, iv_XTooMany, me_XTooMany, opq⟩
  have F_isint : C8.Fun K "is_integer" "is_integer" s_isint f_isint (PySem.W.fnOf "is_integer" "is_integer" (C8.fnArgs s_isint) (C8.fnBody s_isint) (C8.fnScope s_isint) .none kV_isint doc_isint pm_isint an_isint cdv_isint ct_isint) := ⟨oc_isint, od_isint, _, _, _, _, _, _, _, _, rfl, l_isint, cd_isint⟩
  have b3_isint := F_isint.binds rfl (ps := ["value", "least", "most"]) fun _ _ _ _ _ _ us hl => match us, hl with | [_, _, _], _ => rfl
  have F_isrank : C8.Fun K "is_rank" "is_rank" s_isrank f_isrank (PySem.W.fnOf "is_rank" "is_rank" (C8.fnArgs s_isrank) (C8.fnBody s_isrank) (C8.fnScope s_isrank) .none kV_isrank doc_isrank pm_isrank an_isrank cdv_isrank ct_isrank) := ⟨oc_isrank, od_isrank, _, _, _, _, _, _, _, _, rfl, l_isrank, cd_isrank⟩
  have b1_isrank := F_isrank.binds rfl (ps := ["value"]) fun _ _ _ _ _ _ us hl => match us, hl with | [_], _ => rfl
  have F_isname : C8.Fun K "is_item_name" "is_item_name" s_isname f_isname (PySem.W.fnOf "is_item_name" "is_item_name" (C8.fnArgs s_isname) (C8.fnBody s_isname) (C8.fnScope s_isname) .none kV_isname doc_isname pm_isname an_isname cdv_isname ct_isname) := ⟨oc_isname, od_isname, _, _, _, _, _, _, _, _, rfl, l_isname, cd_isname⟩
  have b1_isname := F_isname.binds rfl (ps := ["value"]) fun _ _ _ _ _ _ us hl => match us, hl with | [_], _ => rfl
  have F_Iinit : C8.Fun K "__init__" "Item.__init__" s_Iinit f_Iinit (PySem.W.fnOf "__init__" "Item.__init__" (C8.fnArgs s_Iinit) (C8.fnBody s_Iinit) (C8.fnScope s_Iinit) (.ref D_Iinit) kV_Iinit doc_Iinit pm_Iinit an_Iinit cdv_Iinit ct_Iinit) := ⟨oc_Iinit, od_Iinit, _, _, _, _, _, _, _, _, rfl, l_Iinit, cd_Iinit⟩
  have FD_Iinit : FunD K "__init__" "Item.__init__" (C8.fnArgs s_Iinit) (C8.fnBody s_Iinit) (C8.fnScope s_Iinit) [.str ""] [] f_Iinit (PySem.W.fnOf "__init__" "Item.__init__" (C8.fnArgs s_Iinit) (C8.fnBody s_Iinit) (C8.fnScope s_Iinit) (.ref D_Iinit) kV_Iinit doc_Iinit pm_Iinit an_Iinit cdv_Iinit ct_Iinit) := ⟨⟨oc_Iinit, od_Iinit, _, _, _, _, _, _, _, _, rfl, l_Iinit, cd_Iinit, .inr ⟨by simp, D_Iinit, _, _, _, rfl, d_Iinit, rfl, (.cons ⟨_, rfl⟩ .nil)⟩, .inl rfl⟩, k_Iinit⟩
  obtain ⟨ds3_Iinit, v3_Iinit, b3_Iinit⟩ := FD_Iinit.binds1 (ps := ["self", "rank", "name"]) 3 1 (by simp) rfl fun _ _ _ _ _ _ _ us its hl hi => match us, its, hl, hi with | [_, _, _], [_], _, _ => ⟨_, rfl, rfl⟩
  obtain ⟨ds2_Iinit, v2_Iinit, b2_Iinit⟩ := FD_Iinit.binds1 (ps := ["self", "rank", "name"]) 2 0 (by simp) rfl fun _ _ _ _ _ _ _ us its hl hi => match us, its, hl, hi with | [_, _], [_], _, _ => ⟨_, rfl, rfl⟩
  have F_item_of : C8.Fun K "item_of" "item_of" s_item_of f_item_of (PySem.W.fnOf "item_of" "item_of" (C8.fnArgs s_item_of) (C8.fnBody s_item_of) (C8.fnScope s_item_of) .none kV_item_of doc_item_of pm_item_of an_item_of cdv_item_of ct_item_of) := ⟨oc_item_of, od_item_of, _, _, _, _, _, _, _, _, rfl, l_item_of, cd_item_of⟩
  have b2_item_of := F_item_of.binds rfl (ps := ["value", "at"]) fun _ _ _ _ _ _ us hl => match us, hl with | [_, _], _ => rfl
  have F_need_few : C8.Fun K "need_few" "need_few" s_need_few f_need_few (PySem.W.fnOf "need_few" "need_few" (C8.fnArgs s_need_few) (C8.fnBody s_need_few) (C8.fnScope s_need_few) .none kV_need_few doc_need_few pm_need_few an_need_few cdv_need_few ct_need_few) := ⟨oc_need_few, od_need_few, _, _, _, _, _, _, _, _, rfl, l_need_few, cd_need_few⟩
  have b1_need_few := F_need_few.binds rfl (ps := ["items"]) fun _ _ _ _ _ _ us hl => match us, hl with | [_], _ => rfl
  have F_need_ascending : C8.Fun K "need_ascending" "need_ascending" s_need_ascending f_need_ascending (PySem.W.fnOf "need_ascending" "need_ascending" (C8.fnArgs s_need_ascending) (C8.fnBody s_need_ascending) (C8.fnScope s_need_ascending) .none kV_need_ascending doc_need_ascending pm_need_ascending an_need_ascending cdv_need_ascending ct_need_ascending) := ⟨oc_need_ascending, od_need_ascending, _, _, _, _, _, _, _, _, rfl, l_need_ascending, cd_need_ascending⟩
  have b1_need_ascending := F_need_ascending.binds rfl (ps := ["items"]) fun _ _ _ _ _ _ us hl => match us, hl with | [_], _ => rfl
  have F_items_of : C8.Fun K "items_of" "items_of" s_items_of f_items_of (PySem.W.fnOf "items_of" "items_of" (C8.fnArgs s_items_of) (C8.fnBody s_items_of) (C8.fnScope s_items_of) .none kV_items_of doc_items_of pm_items_of an_items_of cdv_items_of ct_items_of) := ⟨oc_items_of, od_items_of, _, _, _, _, _, _, _, _, rfl, l_items_of, cd_items_of⟩
  have b1_items_of := F_items_of.binds rfl (ps := ["values"]) fun _ _ _ _ _ _ us hl => match us, hl with | [_], _ => rfl
  have F_behind_block : C8.Fun K "behind_block" "behind_block" s_behind_block f_behind_block (PySem.W.fnOf "behind_block" "behind_block" (C8.fnArgs s_behind_block) (C8.fnBody s_behind_block) (C8.fnScope s_behind_block) .none kV_behind_block doc_behind_block pm_behind_block an_behind_block cdv_behind_block ct_behind_block) := ⟨oc_behind_block, od_behind_block, _, _, _, _, _, _, _, _, rfl, l_behind_block, cd_behind_block⟩
  have b3_behind_block := F_behind_block.binds rfl (ps := ["items", "at", "rank"]) fun _ _ _ _ _ _ us hl => match us, hl with | [_, _, _], _ => rfl
  have F_chosen : C8.Fun K "chosen" "chosen" s_chosen f_chosen (PySem.W.fnOf "chosen" "chosen" (C8.fnArgs s_chosen) (C8.fnBody s_chosen) (C8.fnScope s_chosen) .none kV_chosen doc_chosen pm_chosen an_chosen cdv_chosen ct_chosen) := ⟨oc_chosen, od_chosen, _, _, _, _, _, _, _, _, rfl, l_chosen, cd_chosen⟩
  have b3_chosen := F_chosen.binds rfl (ps := ["word", "mine", "theirs"]) fun _ _ _ _ _ _ us hl => match us, hl with | [_, _, _], _ => rfl
  have F_bag : C8.Fun K "bag" "bag" s_bag f_bag (PySem.W.fnOf "bag" "bag" (C8.fnArgs s_bag) (C8.fnBody s_bag) (C8.fnScope s_bag) .none kV_bag doc_bag pm_bag an_bag cdv_bag ct_bag) := ⟨oc_bag, od_bag, _, _, _, _, _, _, _, _, rfl, l_bag, cd_bag⟩
  have b3_bag := F_bag.binds rfl (ps := ["word", "one", "other"]) fun _ _ _ _ _ _ us hl => match us, hl with | [_, _, _], _ => rfl
  have F_Rinit : C8.Fun K "__init__" "Row.__init__" s_Rinit f_Rinit (PySem.W.fnOf "__init__" "Row.__init__" (C8.fnArgs s_Rinit) (C8.fnBody s_Rinit) (C8.fnScope s_Rinit) (.ref D_Rinit) kV_Rinit doc_Rinit pm_Rinit an_Rinit cdv_Rinit ct_Rinit) := ⟨oc_Rinit, od_Rinit, _, _, _, _, _, _, _, _, rfl, l_Rinit, cd_Rinit⟩
  have FD_Rinit : FunD K "__init__" "Row.__init__" (C8.fnArgs s_Rinit) (C8.fnBody s_Rinit) (C8.fnScope s_Rinit) [.ref e_Rinit0] [] f_Rinit (PySem.W.fnOf "__init__" "Row.__init__" (C8.fnArgs s_Rinit) (C8.fnBody s_Rinit) (C8.fnScope s_Rinit) (.ref D_Rinit) kV_Rinit doc_Rinit pm_Rinit an_Rinit cdv_Rinit ct_Rinit) := ⟨⟨oc_Rinit, od_Rinit, _, _, _, _, _, _, _, _, rfl, l_Rinit, cd_Rinit, .inr ⟨by simp, D_Rinit, _, _, _, rfl, d_Rinit, rfl, (.cons rfl .nil)⟩, .inl rfl⟩, k_Rinit⟩
  obtain ⟨ds2_Rinit, v2_Rinit, b2_Rinit⟩ := FD_Rinit.binds1 (ps := ["self", "items"]) 2 1 (by simp) rfl fun _ _ _ _ _ _ _ us its hl hi => match us, its, hl, hi with | [_, _], [_], _, _ => ⟨_, rfl, rfl⟩
  have F_Rlisted : C8.Fun K "listed" "Row.listed" s_Rlisted f_Rlisted (PySem.W.fnOf "listed" "Row.listed" (C8.fnArgs s_Rlisted) (C8.fnBody s_Rlisted) (C8.fnScope s_Rlisted) .none kV_Rlisted doc_Rlisted pm_Rlisted an_Rlisted cdv_Rlisted ct_Rlisted) := ⟨oc_Rlisted, od_Rlisted, _, _, _, _, _, _, _, _, rfl, l_Rlisted, cd_Rlisted⟩
  have b1_Rlisted := F_Rlisted.binds rfl (ps := ["self"]) fun _ _ _ _ _ _ us hl => match us, hl with | [_], _ => rfl
  have F_Riter : C8.Fun K "__iter__" "Row.__iter__" s_Riter f_Riter (PySem.W.fnOf "__iter__" "Row.__iter__" (C8.fnArgs s_Riter) (C8.fnBody s_Riter) (C8.fnScope s_Riter) .none kV_Riter doc_Riter pm_Riter an_Riter cdv_Riter ct_Riter) := ⟨oc_Riter, od_Riter, _, _, _, _, _, _, _, _, rfl, l_Riter, cd_Riter⟩
  have b1_Riter := F_Riter.binds rfl (ps := ["self"]) fun _ _ _ _ _ _ us hl => match us, hl with | [_], _ => rfl
  have F_Riadd : C8.Fun K "__iadd__" "Row.__iadd__" s_Riadd f_Riadd (PySem.W.fnOf "__iadd__" "Row.__iadd__" (C8.fnArgs s_Riadd) (C8.fnBody s_Riadd) (C8.fnScope s_Riadd) .none kV_Riadd doc_Riadd pm_Riadd an_Riadd cdv_Riadd ct_Riadd) := ⟨oc_Riadd, od_Riadd, _, _, _, _, _, _, _, _, rfl, l_Riadd, cd_Riadd⟩
  have b2_Riadd := F_Riadd.binds rfl (ps := ["self", "other"]) fun _ _ _ _ _ _ us hl => match us, hl with | [_, _], _ => rfl
  have F_Rior : C8.Fun K "__ior__" "Row.__ior__" s_Rior f_Rior (PySem.W.fnOf "__ior__" "Row.__ior__" (C8.fnArgs s_Rior) (C8.fnBody s_Rior) (C8.fnScope s_Rior) .none kV_Rior doc_Rior pm_Rior an_Rior cdv_Rior ct_Rior) := ⟨oc_Rior, od_Rior, _, _, _, _, _, _, _, _, rfl, l_Rior, cd_Rior⟩
  have b2_Rior := F_Rior.binds rfl (ps := ["self", "other"]) fun _ _ _ _ _ _ us hl => match us, hl with | [_, _], _ => rfl
  have F_Riand : C8.Fun K "__iand__" "Row.__iand__" s_Riand f_Riand (PySem.W.fnOf "__iand__" "Row.__iand__" (C8.fnArgs s_Riand) (C8.fnBody s_Riand) (C8.fnScope s_Riand) .none kV_Riand doc_Riand pm_Riand an_Riand cdv_Riand ct_Riand) := ⟨oc_Riand, od_Riand, _, _, _, _, _, _, _, _, rfl, l_Riand, cd_Riand⟩
  have b2_Riand := F_Riand.binds rfl (ps := ["self", "other"]) fun _ _ _ _ _ _ us hl => match us, hl with | [_, _], _ => rfl
  have F_Risub : C8.Fun K "__isub__" "Row.__isub__" s_Risub f_Risub (PySem.W.fnOf "__isub__" "Row.__isub__" (C8.fnArgs s_Risub) (C8.fnBody s_Risub) (C8.fnScope s_Risub) .none kV_Risub doc_Risub pm_Risub an_Risub cdv_Risub ct_Risub) := ⟨oc_Risub, od_Risub, _, _, _, _, _, _, _, _, rfl, l_Risub, cd_Risub⟩
  have b2_Risub := F_Risub.binds rfl (ps := ["self", "other"]) fun _ _ _ _ _ _ us hl => match us, hl with | [_, _], _ => rfl
  have F_Rixor : C8.Fun K "__ixor__" "Row.__ixor__" s_Rixor f_Rixor (PySem.W.fnOf "__ixor__" "Row.__ixor__" (C8.fnArgs s_Rixor) (C8.fnBody s_Rixor) (C8.fnScope s_Rixor) .none kV_Rixor doc_Rixor pm_Rixor an_Rixor cdv_Rixor ct_Rixor) := ⟨oc_Rixor, od_Rixor, _, _, _, _, _, _, _, _, rfl, l_Rixor, cd_Rixor⟩
  have b2_Rixor := F_Rixor.binds rfl (ps := ["self", "other"]) fun _ _ _ _ _ _ us hl => match us, hl with | [_, _], _ => rfl
  have F_pen : C8.Fun K "_law_pen" "_law_pen" s_pen f_pen (PySem.W.fnOf "_law_pen" "_law_pen" (C8.fnArgs s_pen) (C8.fnBody s_pen) (C8.fnScope s_pen) .none kV_pen doc_pen pm_pen an_pen cdv_pen ct_pen) := ⟨oc_pen, od_pen, _, _, _, _, _, _, _, _, rfl, l_pen, cd_pen⟩
  have b1_pen := F_pen.binds rfl (ps := ["_law_script"]) fun _ _ _ _ _ _ us hl => match us, hl with | [_], _ => rfl
  have F_draw : C8.Fun K "_law_draw" "_law_draw" s_draw f_draw (PySem.W.fnOf "_law_draw" "_law_draw" (C8.fnArgs s_draw) (C8.fnBody s_draw) (C8.fnScope s_draw) .none kV_draw doc_draw pm_draw an_draw cdv_draw ct_draw) := ⟨oc_draw, od_draw, _, _, _, _, _, _, _, _, rfl, l_draw, cd_draw⟩
  have b2_draw := F_draw.binds rfl (ps := ["_law_pen_here", "_law_many"]) fun _ _ _ _ _ _ us hl => match us, hl with | [_, _], _ => rfl
  have F_pick : C8.Fun K "_law_pick" "_law_pick" s_pick f_pick (PySem.W.fnOf "_law_pick" "_law_pick" (C8.fnArgs s_pick) (C8.fnBody s_pick) (C8.fnScope s_pick) .none kV_pick doc_pick pm_pick an_pick cdv_pick ct_pick) := ⟨oc_pick, od_pick, _, _, _, _, _, _, _, _, rfl, l_pick, cd_pick⟩
  have b2_pick := F_pick.binds rfl (ps := ["_law_pen_here", "_law_some"]) fun _ _ _ _ _ _ us hl => match us, hl with | [_, _], _ => rfl
  have F_pairs : C8.Fun K "_law_pairs" "_law_pairs" s_pairs f_pairs (PySem.W.fnOf "_law_pairs" "_law_pairs" (C8.fnArgs s_pairs) (C8.fnBody s_pairs) (C8.fnScope s_pairs) .none kV_pairs doc_pairs pm_pairs an_pairs cdv_pairs ct_pairs) := ⟨oc_pairs, od_pairs, _, _, _, _, _, _, _, _, rfl, l_pairs, cd_pairs⟩
  have b2_pairs := F_pairs.binds rfl (ps := ["_law_pen_here", "_law_most"]) fun _ _ _ _ _ _ us hl => match us, hl with | [_, _], _ => rfl
  have F_values : C8.Fun K "_law_values" "_law_values" s_values f_values (PySem.W.fnOf "_law_values" "_law_values" (C8.fnArgs s_values) (C8.fnBody s_values) (C8.fnScope s_values) .none kV_values doc_values pm_values an_values cdv_values ct_values) := ⟨oc_values, od_values, _, _, _, _, _, _, _, _, rfl, l_values, cd_values⟩
  have b2_values := F_values.binds rfl (ps := ["_law_pen_here", "_law_pairs_here"]) fun _ _ _ _ _ _ us hl => match us, hl with | [_, _], _ => rfl
  have F_told : C8.Fun K "_law_told" "_law_told" s_told f_told (PySem.W.fnOf "_law_told" "_law_told" (C8.fnArgs s_told) (C8.fnBody s_told) (C8.fnScope s_told) .none kV_told doc_told pm_told an_told cdv_told ct_told) := ⟨oc_told, od_told, _, _, _, _, _, _, _, _, rfl, l_told, cd_told⟩
  have b1_told := F_told.binds rfl (ps := ["_law_listed"]) fun _ _ _ _ _ _ us hl => match us, hl with | [_], _ => rfl
  have F_heard : C8.Fun K "_law_heard" "_law_heard" s_heard f_heard (PySem.W.fnOf "_law_heard" "_law_heard" (C8.fnArgs s_heard) (C8.fnBody s_heard) (C8.fnScope s_heard) .none kV_heard doc_heard pm_heard an_heard cdv_heard ct_heard) := ⟨oc_heard, od_heard, _, _, _, _, _, _, _, _, rfl, l_heard, cd_heard⟩
  have b1_heard := F_heard.binds rfl (ps := ["_law_ask"]) fun _ _ _ _ _ _ us hl => match us, hl with | [_], _ => rfl
  have F_lbag : C8.Fun K "_law_bag" "_law_bag" s_lbag f_lbag (PySem.W.fnOf "_law_bag" "_law_bag" (C8.fnArgs s_lbag) (C8.fnBody s_lbag) (C8.fnScope s_lbag) .none kV_lbag doc_lbag pm_lbag an_lbag cdv_lbag ct_lbag) := ⟨oc_lbag, od_lbag, _, _, _, _, _, _, _, _, rfl, l_lbag, cd_lbag⟩
  have b3_lbag := F_lbag.binds rfl (ps := ["_law_word", "_law_ones", "_law_others"]) fun _ _ _ _ _ _ us hl => match us, hl with | [_, _, _], _ => rfl
  have F_change : C8.Fun K "_law_change" "_law_change" s_change f_change (PySem.W.fnOf "_law_change" "_law_change" (C8.fnArgs s_change) (C8.fnBody s_change) (C8.fnScope s_change) .none kV_change doc_change pm_change an_change cdv_change ct_change) := ⟨oc_change, od_change, _, _, _, _, _, _, _, _, rfl, l_change, cd_change⟩
  have b3_change := F_change.binds rfl (ps := ["_law_word", "_law_row", "_law_other"]) fun _ _ _ _ _ _ us hl => match us, hl with | [_, _, _], _ => rfl
  have F_beside : C8.Fun K "_law_beside" "_law_beside" s_beside f_beside (PySem.W.fnOf "_law_beside" "_law_beside" (C8.fnArgs s_beside) (C8.fnBody s_beside) (C8.fnScope s_beside) .none kV_beside doc_beside pm_beside an_beside cdv_beside ct_beside) := ⟨oc_beside, od_beside, _, _, _, _, _, _, _, _, rfl, l_beside, cd_beside⟩
  have b2_beside := F_beside.binds rfl (ps := ["_law_pen_here", "_law_pairs_here"]) fun _ _ _ _ _ _ us hl => match us, hl with | [_, _], _ => rfl
  have F_refused : C8.Fun K "_law_refused" "_law_refused" s_refused f_refused (PySem.W.fnOf "_law_refused" "_law_refused" (C8.fnArgs s_refused) (C8.fnBody s_refused) (C8.fnScope s_refused) .none kV_refused doc_refused pm_refused an_refused (.ref cdv_refused) ct_refused) := ⟨oc_refused, od_refused, _, _, _, _, _, _, _, _, rfl, l_refused, cd_refused⟩
  have b3_refused := F_refused.binds rfl (ps := ["_law_pen_here", "_law_row", "_law_pairs_here"]) fun _ _ _ _ _ _ us hl => match us, hl with | [_, _, _], _ => rfl
  have F_law : C8.Fun K "law" "law" s_law f_law (PySem.W.fnOf "law" "law" (C8.fnArgs s_law) (C8.fnBody s_law) (C8.fnScope s_law) .none kV_law doc_law pm_law an_law cdv_law ct_law) := ⟨oc_law, od_law, _, _, _, _, _, _, _, _, rfl, l_law, cd_law⟩
  have b1_law := F_law.binds rfl (ps := ["_law_script"]) fun _ _ _ _ _ _ us hl => match us, hl with | [_], _ => rfl
  have T : ∀ base : Heap, (∀ p ∈ ([(cdv_refused, pt_refused)] : List (Addr × Addr)), LamX.TabB base mg p.1 p.2) → Txt K w mg (⟨clL [C_HeadsError, C_BadInput, C_Refused, C_BadItem, C_BadPlace, C_Disordered, C_TooMany, C_Item, C_Row, cdv_refused, pt_refused], [(pt_refused, (envOfC "_law_refused" (C8.fnScope s_refused) 0 0 .none).qual ++ "<lambda>")]⟩) base := fun base TB => {
    n_len := PySem.W.mg_none_of X G z_len,
    n_abs := PySem.W.mg_none_of X G z_abs,
    n_int := PySem.W.mg_none_of X G z_int,
    n_list := PySem.W.mg_none_of X G z_list,
    n_tuple := PySem.W.mg_none_of X G z_tuple,
    n_str := PySem.W.mg_none_of X G z_str,
    n_range := PySem.W.mg_none_of X G z_range,
    n_isinstance := PySem.W.mg_none_of X G z_isinstance,
    n_all := PySem.W.mg_none_of X G z_all,
    n_bool := PySem.W.mg_none_of X G z_bool,
    n_sorted := PySem.W.mg_none_of X G z_sorted,
    n_super := PySem.W.mg_none_of X G z_super,
    n_enumerate := PySem.W.mg_none_of X G z_enumerate,
    n_iter := PySem.W.mg_none_of X G z_iter,
    n_ValueError := PySem.W.mg_none_of X G z_ValueError,
    mx_HeadsError := PySem.W.mg_of X G aC_HeadsError,
    mx_BadInput := PySem.W.mg_of X G aC_BadInput,
    mx_Refused := PySem.W.mg_of X G aC_Refused,
    mx_BadItem := PySem.W.mg_of X G aC_BadItem,
    mx_BadPlace := PySem.W.mg_of X G aC_BadPlace,
    mx_Disordered := PySem.W.mg_of X G aC_Disordered,
    mx_TooMany := PySem.W.mg_of X G aC_TooMany,
    mx_Item := PySem.W.mg_of X G aC_Item,
    mx_Row := PySem.W.mg_of X G aC_Row,
    fld_rank := (all_cons ⟨cl_Item, na_Item_rank⟩ all_nil),
    fld_name := (all_cons ⟨cl_Item, na_Item_name⟩ all_nil),
    fld_held := (all_cons ⟨cl_Row, na_Row_held⟩ all_nil),
    oex_BadItem := oe_BadItem,
    xf_BadItem := excB_xf eb_BadItem,
    na_BadItem_part := na_BadItem_part,
    x_BadItem := xc_BadItem S_XBadItem na_BadItem_part,
    oex_BadPlace := oe_BadPlace,
    xf_BadPlace := excB_xf eb_BadPlace,
    na_BadPlace_at := na_BadPlace_at,
    x_BadPlace := xc_BadPlace S_XBadPlace na_BadPlace_at,
    oex_Disordered := oe_Disordered,
    xf_Disordered := excB_xf eb_Disordered,
    na_Disordered_at := na_Disordered_at,
    x_Disordered := xc_Disordered S_XDisordered na_Disordered_at,
    oex_TooMany := oe_TooMany,
    xf_TooMany := excB_xf eb_TooMany,
    na_TooMany_most := na_TooMany_most,
    x_TooMany := xc_TooMany S_XTooMany na_TooMany_most,
    em_HeadsError := exm_all em_HeadsError,
    wc := ⟨kit_all kit, (all_cons iC_Item (all_cons iC_Row all_nil)), (all_cons (excB_ok eb_BadItem) (all_cons (excB_ok eb_BadPlace) (all_cons (excB_ok eb_Disordered) (all_cons (excB_ok eb_TooMany) all_nil))))⟩,
    g_LETTERS := ⟨_, PySem.W.mg_of X G g_LETTERS, ⟨_, rfl⟩⟩,
    g_MOST_LETTERS := ⟨_, PySem.W.mg_of X G g_MOST_LETTERS, ⟨_, rfl⟩⟩,
    g_GREATEST := ⟨_, PySem.W.mg_of X G g_GREATEST, ⟨_, rfl⟩⟩,
    g_MOST_ITEMS := ⟨_, PySem.W.mg_of X G g_MOST_ITEMS, ⟨_, rfl⟩⟩,
    d_isint := ⟨_, _, _, F_isint, PySem.W.mg_of X G a_isint, k_isint, b3_isint, .nil⟩,
    d_isrank := ⟨_, _, _, F_isrank, PySem.W.mg_of X G a_isrank, k_isrank, b1_isrank, .nil⟩,
    d_isname := ⟨_, _, _, F_isname, PySem.W.mg_of X G a_isname, k_isname, b1_isname, .nil⟩,
    d_Iinit := ⟨_, _, _, ⟨mkC_Item, a_Iinit, i_Iinit, kcC_Item⟩, F_Iinit, PySem.W.mg_of X G aC_Item, b3_Iinit, v3_Iinit⟩,
    d1_Iinit := ⟨_, _, _, ⟨mkC_Item, a_Iinit, i_Iinit, kcC_Item⟩, F_Iinit, PySem.W.mg_of X G aC_Item, b2_Iinit, v2_Iinit⟩,
    d_item_of := ⟨_, _, _, F_item_of, PySem.W.mg_of X G a_item_of, k_item_of, b2_item_of, .nil⟩,
    d_need_few := ⟨_, _, _, F_need_few, PySem.W.mg_of X G a_need_few, k_need_few, b1_need_few, .nil⟩,
    d_need_ascending := ⟨_, _, _, F_need_ascending, PySem.W.mg_of X G a_need_ascending, k_need_ascending, b1_need_ascending, .nil⟩,
    d_items_of := ⟨_, _, _, F_items_of, PySem.W.mg_of X G a_items_of, k_items_of, b1_items_of, .nil⟩,
    d_behind_block := ⟨_, _, _, F_behind_block, PySem.W.mg_of X G a_behind_block, k_behind_block, b3_behind_block, .nil⟩,
    d_chosen := ⟨_, _, _, F_chosen, PySem.W.mg_of X G a_chosen, k_chosen, b3_chosen, .nil⟩,
    d_bag := ⟨_, _, _, F_bag, PySem.W.mg_of X G a_bag, k_bag, b3_bag, .nil⟩,
    d_Rinit := ⟨_, _, _, ⟨mkC_Row, a_Rinit, i_Rinit, kcC_Row⟩, F_Rinit, PySem.W.mg_of X G aC_Row, b2_Rinit, v2_Rinit⟩,
    d_Rlisted := ⟨_, _, _, cl_Row, ⟨a_Rlisted, i_Rlisted, k_Rlisted⟩, F_Rlisted, b1_Rlisted, .nil⟩,
    d_Riter := ⟨_, _, _, cl_Row, ⟨a_Riter, i_Riter, k_Riter⟩, F_Riter, b1_Riter, .nil⟩,
    d_Riadd := ⟨_, _, _, cl_Row, ⟨a_Riadd, i_Riadd, k_Riadd⟩, F_Riadd, b2_Riadd, .nil⟩,
    d_Rior := ⟨_, _, _, cl_Row, ⟨a_Rior, i_Rior, k_Rior⟩, F_Rior, b2_Rior, .nil⟩,
    d_Riand := ⟨_, _, _, cl_Row, ⟨a_Riand, i_Riand, k_Riand⟩, F_Riand, b2_Riand, .nil⟩,
    d_Risub := ⟨_, _, _, cl_Row, ⟨a_Risub, i_Risub, k_Risub⟩, F_Risub, b2_Risub, .nil⟩,
    d_Rixor := ⟨_, _, _, cl_Row, ⟨a_Rixor, i_Rixor, k_Rixor⟩, F_Rixor, b2_Rixor, .nil⟩,
    d_pen := ⟨_, _, _, F_pen, PySem.W.mg_of X G a_pen, k_pen, b1_pen, .nil⟩,
    d_draw := ⟨_, _, _, F_draw, PySem.W.mg_of X G a_draw, k_draw, b2_draw, .nil⟩,
    d_pick := ⟨_, _, _, F_pick, PySem.W.mg_of X G a_pick, k_pick, b2_pick, .nil⟩,
    d_pairs := ⟨_, _, _, F_pairs, PySem.W.mg_of X G a_pairs, k_pairs, b2_pairs, .nil⟩,
    d_values := ⟨_, _, _, F_values, PySem.W.mg_of X G a_values, k_values, b2_values, .nil⟩,
    d_told := ⟨_, _, _, F_told, PySem.W.mg_of X G a_told, k_told, b1_told, .nil⟩,
    d_heard := ⟨_, _, _, F_heard, PySem.W.mg_of X G a_heard, k_heard, b1_heard, .nil⟩,
    d_lbag := ⟨_, _, _, F_lbag, PySem.W.mg_of X G a_lbag, k_lbag, b3_lbag, .nil⟩,
    d_change := ⟨_, _, _, F_change, PySem.W.mg_of X G a_change, k_change, b3_change, .nil⟩,
    d_beside := ⟨_, _, _, F_beside, PySem.W.mg_of X G a_beside, k_beside, b2_beside, .nil⟩,
    tb_refused := TB (cdv_refused, pt_refused) (.head _),
    tm_refused := (.head _),
    tu_refused := tab_one (.head _) nodup,
    d_refused := ⟨_, _, _, F_refused, PySem.W.mg_of X G a_refused, k_refused, b3_refused, .nil, rfl⟩,
    d_law := ⟨_, _, _, F_law, PySem.W.mg_of X G a_law, k_law, b1_law, .nil⟩,
    sf_Row := sf_Row }
  refine ⟨PySem.W.fnOf "law" "law" (C8.fnArgs s_law) (C8.fnBody s_law) (C8.fnScope s_law) .none kV_law doc_law pm_law an_law cdv_law ct_law, [(cdv_refused, pt_refused)], ⟨clL [C_HeadsError, C_BadInput, C_Refused, C_BadItem, C_BadPlace, C_Disordered, C_TooMany, C_Item, C_Row, cdv_refused, pt_refused], [(pt_refused, (envOfC "_law_refused" (C8.fnScope s_refused) 0 0 .none).qual ++ "<lambda>")]⟩, (List.forall_mem_cons.mpr ⟨⟨pn_refused, PySem.W.codeHd_of_K X ch_refused, tY _ tm_refused⟩, (fun _ h => nomatch h)⟩), (List.forall_mem_cons.mpr ⟨⟨_, (.head _), rfl⟩, (fun _ h => nomatch h)⟩), fun s v => .of_eq rfl, fun base TB => ?_⟩
  exact fn_law (base := base) (T base TB) F_law
end M07
open PySem PySem.W PyProof.Rows in
set_option maxRecDepth 100000 in
set_option maxHeartbeats 0 in
theorem PySem.Challenge.cw_twoheads_k07_bags_in_place_holds : PySem.Challenge.rw_twoheads_k07_bags_in_place.Holds := by
  w_on; o_law; k_head; (case hw => w_witness2)
  k_fill
  refine Mr.lawT (l := PySem.Challenge.rw_twoheads_k07_bags_in_place) (k := 33) (x := "_law_script") (n := 63) rfl (by decide) rfl (Tw.rm_caller (by decide) (by decide)) (fun w h Y => PySem.W.km_in_of Y) ?F
  case F =>
    intro w mg fa h Y KX G hmg
    refine' M07.all_mk KX G hmg (PySem.W.km_tabs_of Y) ?z_len ?z_abs ?z_int ?z_list ?z_tuple ?z_str ?z_range ?z_isinstance ?z_all ?z_bool ?z_sorted ?z_super ?z_enumerate ?z_iter ?z_ValueError ?aC_HeadsError ?aC_BadInput ?aC_Refused ?aC_BadItem ?aC_BadPlace ?aC_Disordered ?aC_TooMany ?aC_Item ?aC_Row ?bC_Item ?na_Item_rank ?na_Item_name ?bC_Row ?na_Row_held ?lC_BadItem ?rv_BadItem ?ob_BadItem ?eb_BadItem ?na_BadItem_part ?i_XBadItem ?l_XBadItem ?cd_XBadItem ?lc_XBadItem ?v2_XBadItem ?fi_e_XBadItem ?le_XBadItem ?su_XBadItem ?iv_XBadItem ?me_XBadItem ?opq ?lC_BadPlace ?rv_BadPlace ?ob_BadPlace ?eb_BadPlace ?na_BadPlace_at ?i_XBadPlace ?l_XBadPlace ?cd_XBadPlace ?lc_XBadPlace ?v2_XBadPlace ?fi_e_XBadPlace ?le_XBadPlace ?su_XBadPlace ?iv_XBadPlace ?me_XBadPlace ?lC_Disordered ?rv_Disordered ?ob_Disordered ?eb_Disordered ?na_Disordered_at ?i_XDisordered ?l_XDisordered ?cd_XDisordered ?lc_XDisordered ?v2_XDisordered ?fi_e_XDisordered ?le_XDisordered ?su_XDisordered ?iv_XDisordered ?me_XDisordered ?lC_TooMany ?rv_TooMany ?ob_TooMany ?eb_TooMany ?na_TooMany_most ?i_XTooMany ?l_XTooMany ?cd_XTooMany ?lc_XTooMany ?v2_XTooMany ?fi_e_XTooMany ?le_XTooMany ?su_XTooMany ?iv_XTooMany ?me_XTooMany ?em_HeadsError ?kit ?g_LETTERS ?g_MOST_LETTERS ?g_GREATEST ?g_MOST_ITEMS ?a_isint ?l_isint ?cd_isint ?k_isint ?a_isrank ?l_isrank ?cd_isrank ?k_isrank ?a_isname ?l_isname ?cd_isname ?k_isname ?a_Iinit ?i_Iinit ?l_Iinit ?cd_Iinit ?k_Iinit ?d_Iinit ?mkC_Item ?kcC_Item ?a_item_of ?l_item_of ?cd_item_of ?k_item_of ?a_need_few ?l_need_few ?cd_need_few ?k_need_few ?a_need_ascending ?l_need_ascending ?cd_need_ascending ?k_need_ascending ?a_items_of ?l_items_of ?cd_items_of ?k_items_of ?a_behind_block ?l_behind_block ?cd_behind_block ?k_behind_block ?a_chosen ?l_chosen ?cd_chosen ?k_chosen ?a_bag ?l_bag ?cd_bag ?k_bag ?a_Rinit ?i_Rinit ?l_Rinit ?cd_Rinit ?k_Rinit ?d_Rinit ?mkC_Row ?kcC_Row ?a_Rlisted ?i_Rlisted ?l_Rlisted ?cd_Rlisted ?k_Rlisted ?a_Riter ?i_Riter ?l_Riter ?cd_Riter ?k_Riter ?a_Riadd ?i_Riadd ?l_Riadd ?cd_Riadd ?k_Riadd ?a_Rior ?i_Rior ?l_Rior ?cd_Rior ?k_Rior ?a_Riand ?i_Riand ?l_Riand ?cd_Riand ?k_Riand ?a_Risub ?i_Risub ?l_Risub ?cd_Risub ?k_Risub ?a_Rixor ?i_Rixor ?l_Rixor ?cd_Rixor ?k_Rixor ?a_pen ?l_pen ?cd_pen ?k_pen ?a_draw ?l_draw ?cd_draw ?k_draw ?a_pick ?l_pick ?cd_pick ?k_pick ?a_pairs ?l_pairs ?cd_pairs ?k_pairs ?a_values ?l_values ?cd_values ?k_values ?a_told ?l_told ?cd_told ?k_told ?a_heard ?l_heard ?cd_heard ?k_heard ?a_lbag ?l_lbag ?cd_lbag ?k_lbag ?a_change ?l_change ?cd_change ?k_change ?a_beside ?l_beside ?cd_beside ?k_beside ?a_refused ?l_refused ?cd_refused ?lk_refused ?v11_refused ?ch_refused ?pn_refused ?tm_refused ?k_refused ?a_law ?l_law ?cd_law ?k_law ?sf_Row ?nodup
    (case z_len => k_is)
    (case z_abs => k_is)
    (case z_int => k_is)
    (case z_list => k_is)
    (case z_tuple => k_is)
    (case z_str => k_is)
    (case z_range => k_is)
    (case z_isinstance => k_is)
    (case z_all => k_is)
    (case z_bool => k_is)
    (case z_sorted => k_is)
    (case z_super => k_is)
    (case z_enumerate => k_is)
    (case z_iter => k_is)
    (case z_ValueError => k_is)
    (case aC_HeadsError => k_is)
    (case aC_BadInput => k_is)
    (case aC_Refused => k_is)
    (case aC_BadItem => k_is)
    (case aC_BadPlace => k_is)
    (case aC_Disordered => k_is)
    (case aC_TooMany => k_is)
    (case aC_Item => k_is)
    (case aC_Row => k_is)
    (case bC_Item => kernel_rfl)
    (case na_Item_rank => k_is)
    (case na_Item_name => k_is)
    (case bC_Row => kernel_rfl)
    (case na_Row_held => k_is)
    (case lC_BadItem => k_is)
    (case rv_BadItem => first | rfl | decide)
    (case ob_BadItem => kernel_rfl)
    (case eb_BadItem => kernel_rfl)
    (case na_BadItem_part => k_is)
    (case i_XBadItem => k_is)
    (case l_XBadItem => k_is)
    (case cd_XBadItem => k_is)
    (case lc_XBadItem => k_is)
    (case v2_XBadItem => rfl)
    (case fi_e_XBadItem => first | rfl | decide +kernel)
    (case le_XBadItem => k_is)
    (case su_XBadItem => kernel_rfl)
    (case iv_XBadItem => k_is)
    (case me_XBadItem => k_is)
    (case opq => k_is)
    (case lC_BadPlace => k_is)
    (case rv_BadPlace => first | rfl | decide)
    (case ob_BadPlace => kernel_rfl)
    (case eb_BadPlace => kernel_rfl)
    (case na_BadPlace_at => k_is)
    (case i_XBadPlace => k_is)
    (case l_XBadPlace => k_is)
    (case cd_XBadPlace => k_is)
    (case lc_XBadPlace => k_is)
    (case v2_XBadPlace => rfl)
    (case fi_e_XBadPlace => first | rfl | decide +kernel)
    (case le_XBadPlace => k_is)
    (case su_XBadPlace => kernel_rfl)
    (case iv_XBadPlace => k_is)
    (case me_XBadPlace => k_is)
    (case lC_Disordered => k_is)
    (case rv_Disordered => first | rfl | decide)
    (case ob_Disordered => kernel_rfl)
    (case eb_Disordered => kernel_rfl)
    (case na_Disordered_at => k_is)
    (case i_XDisordered => k_is)
    (case l_XDisordered => k_is)
    (case cd_XDisordered => k_is)
    (case lc_XDisordered => k_is)
    (case v2_XDisordered => rfl)
    (case fi_e_XDisordered => first | rfl | decide +kernel)
    (case le_XDisordered => k_is)
    (case su_XDisordered => kernel_rfl)
    (case iv_XDisordered => k_is)
    (case me_XDisordered => k_is)
    (case lC_TooMany => k_is)
    (case rv_TooMany => first | rfl | decide)
    (case ob_TooMany => kernel_rfl)
    (case eb_TooMany => kernel_rfl)
    (case na_TooMany_most => k_is)
    (case i_XTooMany => k_is)
    (case l_XTooMany => k_is)
    (case cd_XTooMany => k_is)
    (case lc_XTooMany => k_is)
    (case v2_XTooMany => rfl)
    (case fi_e_XTooMany => first | rfl | decide +kernel)
    (case le_XTooMany => k_is)
    (case su_XTooMany => kernel_rfl)
    (case iv_XTooMany => k_is)
    (case me_XTooMany => k_is)
    (case em_HeadsError => kernel_rfl)
    (case kit => kernel_rfl)
    (case g_LETTERS => k_is)
    (case g_MOST_LETTERS => k_is)
    (case g_GREATEST => k_is)
    (case g_MOST_ITEMS => k_is)
    (case a_isint => k_is)
    (case l_isint => k_is)
    (case cd_isint => k_is)
    (case k_isint => k_is)
    (case a_isrank => k_is)
    (case l_isrank => k_is)
    (case cd_isrank => k_is)
    (case k_isrank => k_is)
    (case a_isname => k_is)
    (case l_isname => k_is)
    (case cd_isname => k_is)
    (case k_isname => k_is)
    (case a_Iinit => k_is)
    (case i_Iinit => k_is)
    (case l_Iinit => k_is)
    (case cd_Iinit => k_is)
    (case k_Iinit => k_is)
    (case d_Iinit => k_is)
    (case mkC_Item => k_is)
    (case kcC_Item => k_is)
    (case a_item_of => k_is)
    (case l_item_of => k_is)
    (case cd_item_of => k_is)
    (case k_item_of => k_is)
    (case a_need_few => k_is)
    (case l_need_few => k_is)
    (case cd_need_few => k_is)
    (case k_need_few => k_is)
    (case a_need_ascending => k_is)
    (case l_need_ascending => k_is)
    (case cd_need_ascending => k_is)
    (case k_need_ascending => k_is)
    (case a_items_of => k_is)
    (case l_items_of => k_is)
    (case cd_items_of => k_is)
    (case k_items_of => k_is)
    (case a_behind_block => k_is)
    (case l_behind_block => k_is)
    (case cd_behind_block => k_is)
    (case k_behind_block => k_is)
    (case a_chosen => k_is)
    (case l_chosen => k_is)
    (case cd_chosen => k_is)
    (case k_chosen => k_is)
    (case a_bag => k_is)
    (case l_bag => k_is)
    (case cd_bag => k_is)
    (case k_bag => k_is)
    (case a_Rinit => k_is)
    (case i_Rinit => k_is)
    (case l_Rinit => k_is)
    (case cd_Rinit => k_is)
    (case k_Rinit => k_is)
    (case d_Rinit => k_is)
    (case mkC_Row => k_is)
    (case kcC_Row => k_is)
    (case a_Rlisted => k_is)
    (case i_Rlisted => k_is)
    (case l_Rlisted => k_is)
    (case cd_Rlisted => k_is)
    (case k_Rlisted => k_is)
    (case a_Riter => k_is)
    (case i_Riter => k_is)
    (case l_Riter => k_is)
    (case cd_Riter => k_is)
    (case k_Riter => k_is)
    (case a_Riadd => k_is)
    (case i_Riadd => k_is)
    (case l_Riadd => k_is)
    (case cd_Riadd => k_is)
    (case k_Riadd => k_is)
    (case a_Rior => k_is)
    (case i_Rior => k_is)
    (case l_Rior => k_is)
    (case cd_Rior => k_is)
    (case k_Rior => k_is)
    (case a_Riand => k_is)
    (case i_Riand => k_is)
    (case l_Riand => k_is)
    (case cd_Riand => k_is)
    (case k_Riand => k_is)
    (case a_Risub => k_is)
    (case i_Risub => k_is)
    (case l_Risub => k_is)
    (case cd_Risub => k_is)
    (case k_Risub => k_is)
    (case a_Rixor => k_is)
    (case i_Rixor => k_is)
    (case l_Rixor => k_is)
    (case cd_Rixor => k_is)
    (case k_Rixor => k_is)
    (case a_pen => k_is)
    (case l_pen => k_is)
    (case cd_pen => k_is)
    (case k_pen => k_is)
    (case a_draw => k_is)
    (case l_draw => k_is)
    (case cd_draw => k_is)
    (case k_draw => k_is)
    (case a_pick => k_is)
    (case l_pick => k_is)
    (case cd_pick => k_is)
    (case k_pick => k_is)
    (case a_pairs => k_is)
    (case l_pairs => k_is)
    (case cd_pairs => k_is)
    (case k_pairs => k_is)
    (case a_values => k_is)
    (case l_values => k_is)
    (case cd_values => k_is)
    (case k_values => k_is)
    (case a_told => k_is)
    (case l_told => k_is)
    (case cd_told => k_is)
    (case k_told => k_is)
    (case a_heard => k_is)
    (case l_heard => k_is)
    (case cd_heard => k_is)
    (case k_heard => k_is)
    (case a_lbag => k_is)
    (case l_lbag => k_is)
    (case cd_lbag => k_is)
    (case k_lbag => k_is)
    (case a_change => k_is)
    (case l_change => k_is)
    (case cd_change => k_is)
    (case k_change => k_is)
    (case a_beside => k_is)
    (case l_beside => k_is)
    (case cd_beside => k_is)
    (case k_beside => k_is)
    (case a_refused => k_is)
    (case l_refused => k_is)
    (case cd_refused => k_is)
    (case lk_refused => k_is)
    (case v11_refused => rfl)
    (case ch_refused => kernel_rfl)
    (case pn_refused => first | k_is | kernel_rfl | rfl)
    (case tm_refused => first | decide | k_mem | simp)
    (case k_refused => k_is)
    (case a_law => k_is)
    (case l_law => k_is)
    (case cd_law => k_is)
    (case k_law => k_is)
    (case sf_Row => first | k_is | kernel_rfl)
    (case nodup => decide)
