import PyProof.Rows.All
import Wide.All
import OpenK.AllK
import Wide.FinOn
import HandS.ForMost
import HandS.Codes
import HandS.Wide
import HandS.Flow
import HandS.IsInst
import HandS.OwnEq
import HandS.ForExc
import HandS.Star
import HandS.ClsMeth
import HandS.More
import HandS.Defaults
import HandS.Style
import PyProof.ReprRoads
import PyProof.Rows.ListMulR
import KE.KOpsOwn
import KE.KExcSuper
import HandS.ExcInit
import HandS.ExcField
import HandS.ExcIs
import HandS.ExcValue
import HandS.ExcOwn
import KE.KExcIs
import HandS.Comp
import HandS.Iter
import PyProof.InstNe
import KE.KCallOwn
import HandS.FStr
import HandS.TupAny
import HandS.Deep
import HandS.RaiseMore
import PyProof.StrLawsRepr
import HandS.Property
import HandS.DeepEq
import PySem.Challenge.RW_twoheads_k64_tallies
set_option Elab.async false
set_option linter.all false
set_option maxRecDepth 100000
set_option maxHeartbeats 4000000
set_option autoImplicit false
/-! The toolkit of these proofs: frames, readings step by step, the pen. -/
namespace Tw
open PySem PySem.Spec PyProof.Rows L2

/-! ### frames -/
/-- the pen: a list of a list and two ints -/
def isPen : HO → Bool
  | .lst [.ref _, .int _, .int _] => true
  | _ => false
/-- all but pens is kept -/
def SP (H H' : Hp) : Prop := (∀ b o, H b = some o → isPen o = false → H' b = some o) ∧ ∀ b L a r, H b = some (.lst [.ref L, .int a, .int r]) → ∃ a' r', H' b = some (.lst [.ref L, .int a', .int r'])
theorem SP.refl (H : Hp) : SP H H := ⟨fun _ _ h _ => h, fun _ _ a r h => ⟨a, r, h⟩⟩
theorem SP.trans {H H1 H2 : Hp} (a : SP H H1) (b : SP H1 H2) : SP H H2 := ⟨fun c o h n => b.1 c o (a.1 c o h n) n, fun c L x r h => by
  obtain ⟨x1, r1, h1⟩ := a.2 c L x r h
  exact b.2 c L x1 r1 h1⟩
theorem _root_.L2.Same.sp {H H' : Hp} (s : Same H H') : SP H H' := ⟨fun b o h _ => s b o h, fun b L a r h => ⟨a, r, s _ _ h⟩⟩
theorem SP.new {H : Hp} {D : Addr} {o : HO} (hD : H D = none) : SP H (upd H D o) := Same.sp fun y u h => by rw [upd_ne (ne_of_none h hD)]; exact h
theorem SP.tr {H H' : Hp} {b : Addr} {o : HO} (s : SP H H') (h : H b = some o) (n : isPen o = false) : H' b = some o := s.1 b o h n
theorem Same.tr {H H' : Hp} {b : Addr} {o : HO} (s : Same H H') (h : H b = some o) : H' b = some o := s b o h
theorem Same.new {H : Hp} {p : Addr} {o : HO} (h : H p = none) : Same H (upd H p o) := fun b u e => by
  rw [upd_ne (ne_of_none e h)]
  exact e
theorem isPen_ints (ns : List Int) : isPen (.lst (ns.map V.int)) = false := by
  cases ns with
  | nil => rfl
  | cons a r => rfl
theorem isPen_len {xs : List V} (h : xs.length ≠ 3) : isPen (.lst xs) = false := by
  unfold isPen
  split
  · rename_i e; cases e; exact absurd rfl h
  · rfl

/-! ### new objects -/
theorem al {H : Hp} {o : HO} {Q : VK} (h : ∀ p H', Same H H' → H' p = some o → H p = none → Q (.ref p) H') : ∀ p, H p = none → Q (.ref p) (upd H p o) :=
  fun p hp => h p _ (Same.new hp) upd_same hp

/-! ### readings, one step a lemma -/
section
variable {K : PySem.W.Frag} {σ : L2.St} {H : Hp} {D : Ends} {t u : TS} {ta tb te tc : TE} {c d : TT} {tA : TA} {Q : VK} {QB : Bool → Hp → Prop} {QL : List V → Hp → Prop} {QS : L2.St → Hp → Prop} {v x y : V} {i : Nat} {r : R2} {g : TG}
theorem u_seq (h : t { D with nx := u D } σ H) : tSeq t u D σ H := h
theorem u_cut (Mid : L2.St → Hp → Prop) (h : t { D with nx := Mid } σ H) (k : ∀ σ' H', Mid σ' H' → u D σ' H') : C8.tCut t u D σ H := ⟨Mid, h, k⟩
theorem u_next (h : D.nx σ H) : tNext D σ H := h
theorem u_drop (h : te σ H fun _ H1 => D.nx σ H1) : tDrop te D σ H := h
theorem u_ret (h : te σ H D.rt) : tRet te D σ H := h
theorem u_retN (h : D.rt .non H) : tRetN D σ H := h
theorem u_brk (h : D.bk σ H) : tBreak D σ H := h
theorem u_cont (h : D.ct σ H) : tCont D σ H := h
theorem u_if (h : c σ H fun b H1 => if b = true then t D σ H1 else u D σ H1) : tIfS c t u D σ H := h
theorem u_asg (h : te σ H fun x H1 => g x σ H1 D.nx) : tAsg te g D σ H := h
theorem u_gname (h : QS (σ.set i (some v)) H) : gName i v σ H QS := h
theorem u_var (e : σ[i]? = some (some v)) (h : Q v H) : tVar i σ H Q := ⟨v, e, h⟩
theorem u_c (h : Q v H) : tC v σ H Q := h
theorem u_op (h : ta σ H fun x H1 => tb σ H1 fun y H2 => r x y H2 Q) : tOp r ta tb σ H Q := h
def kUn (f : V → Hp → VK → Prop) (Q : VK) : VK := fun x H => f x H Q
theorem u_un {f : V → Hp → VK → Prop} (h : ta σ H fun x H1 => f x H1 Q) : tUn f ta σ H Q := h
theorem u_nil (h : QL [] H) : tNil σ H QL := h
theorem u_cons (h : ta σ H fun x H1 => tA σ H1 fun xs H2 => QL (x :: xs) H2) : tCons ta tA σ H QL := h
theorem u_cb {f : List V → Hp → VK → Prop} (h : tA σ H fun vs H1 => f vs H1 Q) : tCB f tA σ H Q := h
def kBl (QB : Bool → Hp → Prop) : VK := fun x H' => ∃ k, x = .bl k ∧ QB k H'
theorem k_bl {b : Bool} (h : QB b H) : kBl QB (.bl b) H := ⟨b, rfl, h⟩
theorem u_test (h : te σ H (kBl QB)) : tTest te σ H QB := h
theorem u_B (h : te σ H (kBl QB)) : tB te σ H QB := h
theorem u_not (h : c σ H fun b H1 => QB (!b) H1) : tNot c σ H QB := h
theorem u_and (h : c σ H fun b H1 => if b = true then d σ H1 QB else QB false H1) : tAnd c d σ H QB := h
theorem u_or (h : c σ H fun b H1 => if b = true then QB true H1 else d σ H1 QB) : tOr c d σ H QB := h
theorem u_andV (h : ta σ H (kBl fun c H1 => if c = true then tb σ H1 Q else Q (.bl false) H1)) : tAndV ta tb σ H Q := h
theorem u_orV (h : ta σ H (kBl fun c H1 => if c = true then Q (.bl true) H1 else tb σ H1 Q)) : tOrV ta tb σ H Q := h
theorem u_notV (h : ta σ H (kBl fun c H1 => Q (.bl (!c)) H1)) : tNotV ta σ H Q := h
theorem u_ifE (h : c σ H fun b H1 => if b = true then ta σ H1 Q else tb σ H1 Q) : tIf c ta tb σ H Q := h
theorem u_chain {r r' : R2} (h : ta σ H fun x H1 => tb σ H1 fun y H2 => r x y H2 (kBl fun k H3 => if k = true then tc σ H3 fun w' H4 => r' y w' H4 Q else Q (.bl false) H3)) : tChain r r' ta tb tc σ H Q := h
def kFld (K : PySem.W.Frag) (f : Str) (Q : VK) : VK := fun x H1 => ∃ a C dx fs v, x = .ref a ∧ H1 a = some (.ins C dx fs) ∧ Cls K C ∧ NoAttr K C f ∧ fs.lookup f = some v ∧ Q v H1
theorem u_fld {f : Str} (h : ta σ H (kFld K f Q)) : tFld K ta f σ H Q := h
theorem k_fld {f : Str} {a C dx : Addr} {fs : List (Str × V)} (ho : H a = some (.ins C dx fs)) (hc : Cls K C) (hn : NoAttr K C f) (hl : fs.lookup f = some v) (h : Q v H) : kFld K f Q (.ref a) H := ⟨a, C, dx, fs, v, rfl, ho, hc, hn, hl, h⟩
theorem u_tup (h : tA σ H fun xs H1 => xs.length ≤ sizeLine ∧ ∀ p, H1 p = none → Q (.ref p) (upd H1 p (.tup xs))) : tTup tA σ H Q := h
theorem u_lst (h : tA σ H fun xs H1 => xs.length ≤ sizeLine ∧ ∀ p, H1 p = none → Q (.ref p) (upd H1 p (.lst xs))) : tLst tA σ H Q := h
theorem u_call {sp : Sp} {dvs : List V} {E : XK} (h : tA σ H fun vs H1 => sp (vs ++ dvs) H1 Q E) : tCall sp dvs E tA σ H Q := h
def kMeth (C : Addr) (m : Str) (go : V → Hp → Prop) : VK := fun x H1 => ∃ a dx fs, x = .ref a ∧ H1 a = some (.ins C dx fs) ∧ fs.lookup m = none ∧ go x H1
theorem u_meth {C : Addr} {m : Str} {sp : Sp} {dvs : List V} {E : XK} (h : ta σ H (kMeth C m fun x H1 => tA σ H1 fun vs H2 => sp (x :: (vs ++ dvs)) H2 Q E)) : tMeth C m sp dvs E ta tA σ H Q := h
theorem k_meth {C a dx : Addr} {m : Str} {fs : List (Str × V)} {go : V → Hp → Prop} (ho : H a = some (.ins C dx fs)) (hl : fs.lookup m = none) (h : go (.ref a) H) : kMeth C m go (.ref a) H := ⟨a, dx, fs, rfl, ho, hl, h⟩
theorem u_make {C : Addr} {sp : Sp} {dvs : List V} {E : XK} (h : tA σ H fun vs H1 => ∀ x dx, H1 x = none → H1 dx = none → dx ≠ x → sp (.ref x :: (vs ++ dvs)) (upd (upd H1 dx (.own x)) x (.ins C dx [])) (fun v H2 => v = .non ∧ Q (.ref x) H2) E) : tMake C sp dvs E tA σ H Q := h
theorem u_par {j : Nat} {a b : V} (h : tA σ H fun vs H1 => ∃ v w, vs = [v, w] ∧ D.nx ((σ.set i (some v)).set j (some w)) H1) : tPar i j tA D σ H := h
def kIdx (K : PySem.W.Frag) (f : V → Hp → VK → Prop) (Q : VK) : VK := fun x H => f x H Q
/-! by values -/
theorem r_I0 {f : Int → Int → V} {i j : Int} (h : Q (f i j) H) : rI0 f (.int i) (.int j) H Q := ⟨i, j, rfl, rfl, h⟩
theorem r_I {C : Int → Int → Prop} {f : Int → Int → V} {i j : Int} (hc : C i j) (h : Q (f i j) H) : rI C f (.int i) (.int j) H Q := ⟨i, j, rfl, rfl, hc, h⟩
theorem r_U {f : Int → V} {i : Int} (h : Q (f i) H) : rU f (.int i) H Q := ⟨i, rfl, h⟩
theorem r_eqI {i j : Int} (h : Q (.bl (decide (i = j))) H) : rEq (.int i) (.int j) H Q := ⟨rfl, by
  have e : decide (V.int i = V.int j) = decide (i = j) := decide_eq_decide.mpr ⟨fun q => by injection q, fun q => by rw [q]⟩
  rw [e]; exact h⟩
theorem r_neI {i j : Int} (h : Q (.bl (!decide (i = j))) H) : rNe (.int i) (.int j) H Q := ⟨rfl, by
  have e : decide (V.int i = V.int j) = decide (i = j) := decide_eq_decide.mpr ⟨fun q => by injection q, fun q => by rw [q]⟩
  rw [e]; exact h⟩
theorem r_eqB {i j : Bool} (h : Q (.bl (decide (i = j))) H) : rEq (.bl i) (.bl j) H Q := ⟨rfl, by
  have e : decide (V.bl i = V.bl j) = decide (i = j) := decide_eq_decide.mpr ⟨fun q => by injection q, fun q => by rw [q]⟩
  rw [e]; exact h⟩
theorem r_neB {i j : Bool} (h : Q (.bl (!decide (i = j))) H) : rNe (.bl i) (.bl j) H Q := ⟨rfl, by
  have e : decide (V.bl i = V.bl j) = decide (i = j) := decide_eq_decide.mpr ⟨fun q => by injection q, fun q => by rw [q]⟩
  rw [e]; exact h⟩
theorem r_eqS {i j : Str} (h : Q (.bl (decide (i = j))) H) : rEq (.str i) (.str j) H Q := ⟨rfl, by
  have e : decide (V.str i = V.str j) = decide (i = j) := decide_eq_decide.mpr ⟨fun q => by injection q, fun q => by rw [q]⟩
  rw [e]; exact h⟩
theorem r_neS {i j : Str} (h : Q (.bl (!decide (i = j))) H) : rNe (.str i) (.str j) H Q := ⟨rfl, by
  have e : decide (V.str i = V.str j) = decide (i = j) := decide_eq_decide.mpr ⟨fun q => by injection q, fun q => by rw [q]⟩
  rw [e]; exact h⟩
theorem r_ixL {p : Addr} {xs : List V} {i : Int} (h0 : SqL K H p xs) (h1 : atI xs i = some v) (h : Q v H) : rIxL K (.ref p) (.int i) H Q := ⟨p, xs, i, v, rfl, rfl, h0, h1, h⟩
theorem r_ixT {p : Addr} {xs : List V} {i : Int} (h0 : SqT K H p xs) (h1 : atI xs i = some v) (h : Q v H) : rIxT K (.ref p) (.int i) H Q := ⟨p, xs, i, v, rfl, rfl, h0, h1, h⟩
theorem r_setL {p : Addr} {xs : List V} {k : Int} {j : Nat} {QH : Hp → Prop} (h0 : H p = some (.lst xs)) (h1 : ixN xs.length k = some j) (h : QH (upd H p (.lst (xs.set j v)))) : rSetL (.ref p) (.int k) v H QH := ⟨p, xs, k, j, rfl, rfl, h0, h1, h⟩
theorem u_gsub {to ti : TE} {ts : TSet} (h : to σ H fun o H1 => ti σ H1 fun i H2 => ts o i v H2 fun H3 => QS σ H3) : gSub to ti ts v σ H QS := h
/-! ways -/
theorem w_T {A B : Prop} (h : A) : if true = true then A else B := by rw [if_pos rfl]; exact h
theorem w_F {A B : Prop} (h : B) : if false = true then A else B := by rw [if_neg Bool.false_ne_true]; exact h
theorem w_nT {A B : Prop} (h : B) : if (!true) = true then A else B := by rw [Bool.not_true, if_neg Bool.false_ne_true]; exact h
theorem w_nF {A B : Prop} (h : A) : if (!false) = true then A else B := by rw [Bool.not_false, if_pos rfl]; exact h
theorem w_dec {p A B : Prop} [Decidable p] (h1 : p → A) (h2 : ¬ p → B) : if decide p = true then A else B := by
  by_cases h : p
  · rw [if_pos (decide_eq_true h)]; exact h1 h
  · rw [if_neg (by rw [decide_eq_false h]; exact Bool.false_ne_true)]; exact h2 h
theorem w_ndec {p A B : Prop} [Decidable p] (h1 : ¬ p → A) (h2 : p → B) : if (!decide p) = true then A else B := by
  by_cases h : p
  · rw [decide_eq_true h]; exact w_F (h2 h)
  · rw [decide_eq_false h]; exact w_T (h1 h)
theorem w_bool {b : Bool} {A B : Prop} (h1 : b = true → A) (h2 : b = false → B) : if b = true then A else B := by
  cases b with
  | true => exact w_T (h1 rfl)
  | false => exact w_F (h2 rfl)
theorem w_nbool {b : Bool} {A B : Prop} (h1 : b = false → A) (h2 : b = true → B) : if (!b) = true then A else B := by
  cases b with
  | true => exact w_F (h2 rfl)
  | false => exact w_T (h1 rfl)
end

/-! ### the pen -/
def PenAt (H : Hp) (p : Addr) (n : Nat) : Prop := ∃ (L : Addr) (a r : Int) (ns : List Int), H p = some (.lst [.ref L, .int a, .int r]) ∧ H L = some (.lst (ns.map V.int)) ∧ 0 ≤ a ∧ a ≤ n ∧ ns.length ≤ 63
theorem PenAt.same {H H' : Hp} {p : Addr} {n : Nat} (s : Same H H') (h : PenAt H p n) : PenAt H' p n := by
  obtain ⟨L, a, r, ns, h1, h2, h3⟩ := h
  exact ⟨L, a, r, ns, s _ _ h1, s _ _ h2, h3⟩
theorem PenAt.mono {H : Hp} {p : Addr} {n m : Nat} (h : PenAt H p n) (e : n ≤ m) : PenAt H p m := by
  obtain ⟨L, a, r, ns, h1, h2, h3, h4, h5⟩ := h
  exact ⟨L, a, r, ns, h1, h2, h3, by omega, h5⟩
/-- _law_draw(pen, many): a number from 0 on below many -/
def spDraw : Sp := fun vs H Q _ => ∃ (p : Addr) (n : Nat) (many : Int), vs = [.ref p, .int many] ∧ PenAt H p n ∧ 1 ≤ many ∧ many ≤ 1000000000000 ∧ n ≤ 1000000 ∧
  ∀ (k : Int) (H' : Hp), 0 ≤ k → k < many → SP H H' → PenAt H' p (n + 1) → Q (.int k) H'
/-- _law_pen(script) -/
def spPen (K : PySem.W.Frag) : Sp := fun vs H Q _ => ∃ (a : Addr) (ns : List Int), vs = [.ref a] ∧ SqL K H a (ns.map V.int) ∧ ns.length ≤ 63 ∧
  ∀ (p : Addr) (H' : Hp), Same H H' → PenAt H' p 0 → Q (.ref p) H'
/-- _law_pick(pen, some), some a list -/
def spPick (K : PySem.W.Frag) : Sp := fun vs H Q _ => ∃ (p a : Addr) (n : Nat) (xs : List V), vs = [.ref p, .ref a] ∧ PenAt H p n ∧ H a = some (.lst xs) ∧ isPen (.lst xs) = false ∧ 1 ≤ xs.length ∧ xs.length ≤ 1000000 ∧ n ≤ 1000000 ∧
  ∀ (k : Nat) (v : V) (H' : Hp), k < xs.length → xs[k]? = some v → SP H H' → PenAt H' p (n + 1) → Q v H'
theorem use_draw {H : Hp} {p : Addr} {many : Int} {Q : VK} {E : XK} (n : Nat) (h1 : PenAt H p n) (h2 : 1 ≤ many) (h3 : many ≤ 1000000000000) (h4 : n ≤ 1000000)
    (k : ∀ (k : Int) (H' : Hp), 0 ≤ k → k < many → SP H H' → PenAt H' p (n + 1) → Q (.int k) H') : spDraw [.ref p, .int many] H Q E := ⟨p, n, many, rfl, h1, h2, h3, h4, k⟩

/-! ### room for calls, nothing being shown -/
structure Rm (k : Nat) (A : Around) : Prop where
  room : Room k A
  gd : A.guards = some []
theorem Rm.mono {j k : Nat} {A : Around} (r : Rm k A) (h : j ≤ k) : Rm j A := ⟨r.room.mono h, r.gd⟩
theorem Rm.deeper {k : Nat} {A : Around} (r : Rm (k + 1) A) (env : Env) : Rm k (A.deeper env) := ⟨r.room.deeper env, r.gd⟩
theorem Rm.in1 {k : Nat} {A : Around} (r : Rm (k + 1) A) : Rm k A.in1 := ⟨r.room.in1, r.gd⟩
theorem Rm.make {k : Nat} {A : Around} (r : Rm (k + 1) A) (C : Addr) (us : List Value) (kw : List (Str × Value)) : Rm k (A.under (.builtin "type.__call__" ⟨.ref C :: us, kw⟩)) :=
  ⟨r.room.make C us kw, by
    have e := r.gd
    simpa [Around.under, Code.guards, Code.isGuard, guardIds, pushGuards] using e⟩
theorem Rm.u {k : Nat} {A : Around} (r : Rm k A) : A.units + 64 < cLine := r.room.units

/-- a def keeps its promise, where nothing is being shown -/
structure FnG (P : Program) (w : World) (K : PySem.W.Frag) (mg : Str → Option Value) (base : Heap) (k : Nat) (f : Addr) (fd : FuncData) (ps : List Str) (sp : Sp) : Prop where
  len : ∀ vs H Q E, sp vs H Q E → vs.length = ps.length
  run : ∀ (A : Around) (out : List Env) (s : Shared) (H : Hp) (args : Args) (us : List Value) (vs : List V) (Q : VK) (E : XK), Rm k A → Env0 P w K mg base A out s H →
    BindsTo s fd args (ps.zip us) → Vals vs us → sp vs H Q E → codeAny (model P w) A (.call (.ref f) args) (CR (L2.CX P w) out P w H s Q E) s
section
variable {P : Program} {w : World} {K : PySem.W.Frag} {mg : Str → Option Value} {base : Heap} {k : Nat} {f : Addr} {fd : FuncData} {ps N : List Str} {sp : Sp}
theorem FnG.imp {sp' : Sp} (F : FnG P w K mg base k f fd ps sp) (h : ∀ vs H Q E, sp' vs H Q E → sp vs H Q E) : FnG P w K mg base k f fd ps sp' :=
  ⟨fun vs H Q E q => F.len _ _ _ _ (h vs H Q E q), fun A out s H args us vs Q E hr e hb hv q => F.run A out s H args us vs Q E hr e hb hv (h vs H Q E q)⟩
/-- from the body -/
theorem fnG {name qual : Str} {pr : Arguments} {body : List Stmt} {sc : Scope} {dV kV doc pm cdv ct oc : Value} {an od : Option Addr} {osl : Array (Option Value)}
    (lk : K.lookup f = some ⟨oc, od, .func (PySem.W.fnOf name qual pr body sc dV kV doc pm an cdv ct), osl⟩) (hcd : PySem.W.codeIn K cdv qual = true) (S : FnScope N ps sc) (len : ∀ vs H Q E, sp vs H Q E → vs.length = ps.length)
    (hb : ∀ (A : Around) (out : List Env) (s : Shared) (H : Hp) (vs : List V) (Q : VK) (E : XK), Rm k (A.deeper (envOfC qual sc s.heap.objs.size f cdv)) → sp vs H Q E →
      ∃ t, PSs (cxOf (L2.CX P w) P w K mg base N qual sc f cdv A out s H E) body t ∧ t { nx := fun _ H' => Q .non H', rt := Q } (start N vs) H) :
    FnG P w K mg base (k + 1) f (PySem.W.fnOf name qual pr body sc dV kV doc pm an cdv ct) ps sp := by
  constructor
  · exact len
  intro A out s H args us vs Q E rm ev bd rel want
  have inK : K.In s.heap := ev.mod.kin.keeps fun b o q => (ev.bs b o q).1
  have nolim := ev.mod.nolimit.keeps fun b o q => (ev.bs b o q).1
  have kinds : ∀ z ∈ ps.zip us, sc.names.lookup z.1 = some .local ∨ (sc.names.lookup z.1 = some .cell ∧ ((cellsFrom (s.heap.objs.size + 1) sc.names []).lookup z.1).isSome = true) := by
    rintro ⟨n, v⟩ hz
    exact (S.par n (List.of_mem_zip hz).1).imp id fun q => ⟨q, PySem.W.cellsFrom_some _ _ _ (.inl q)⟩
  refine codeAny_call_function rm.room.depth (inK _ _ lk) rfl S.co S.gen rfl (PySem.W.codeRec_of inK hcd) (bd _ _ _ _ ?_)
  refine wpAny_newFunctionEnv_cells S.kind kinds ?_
  rintro env rfl s1 ic
  refine ⟨nolim.keeps ic.toInCall.keep, codeAny_func ?_⟩
  obtain ⟨t, der, rd⟩ := hb A out s H vs Q E (rm.deeper _) want
  have J := inv_start (CX := L2.CX P w) (P := P) (w := w) (K := K) (mg := mg) (base := base) (qual := qual) (f := f) (cd := cdv) (E := E) S rm.room.hd ev (len _ _ _ _ want) rel ic
  refine wpAny_mono (der.run [] s1 (start N vs) H _ J rd) ?_ fun _ _ z => z
  intro fl s' z
  cases fl with
  | ret u =>
    obtain ⟨v, _, H', I', r', q'⟩ := z
    exact ⟨v, H', I'.os, I'.bare, I'.base, I'.hok, r', q'⟩
  | next =>
    obtain ⟨_, H', I', q'⟩ := z
    exact ⟨.non, H', I'.os, I'.bare, I'.base, I'.hok, rfl, q'⟩
  | brk => exact z.elim fun _ z => z.elim fun _ z => z.2.elim
  | cont => exact z.elim fun _ z => z.elim fun _ z => z.2.elim
/-- .. of a def that lets nothing out -/
theorem fnG0 {x qual : Str} {st : Stmt} (F : C8.Fun K x qual st f fd) (S : FnScope N ps (C8.fnScope st)) (len : ∀ vs H Q E, sp vs H Q E → vs.length = ps.length)
    (hb : ∀ (cdv : Value) (A : Around) (out : List Env) (s : Shared) (H : Hp) (vs : List V) (Q : VK) (E : XK), Rm k (A.deeper (envOfC qual (C8.fnScope st) s.heap.objs.size f cdv)) → sp vs H Q E →
      ∃ t, PSs (cxOf (L2.CX P w) P w K mg base N qual (C8.fnScope st) f cdv A out s H E).nox (C8.fnBody st) t ∧ t { nx := fun _ H' => Q .non H', rt := Q } (start N vs) H) : FnG P w K mg base (k + 1) f fd ps sp := by
  obtain ⟨oc, od, dV, kV, doc, pm, an, cdv, ct, osl, rfl, lk, hcd⟩ := F.ex
  refine fnG lk hcd S len fun A out s H vs Q E rm want => ?_
  obtain ⟨t, der, rd⟩ := hb cdv A out s H vs Q E rm want
  exact ⟨t, der.nox, rd⟩
/-- .. of a def that may raise -/
theorem fnGX {x qual : Str} {st : Stmt} (F : C8.Fun K x qual st f fd) (S : FnScope N ps (C8.fnScope st)) (len : ∀ vs H Q E, sp vs H Q E → vs.length = ps.length)
    (hb : ∀ (cdv : Value) (A : Around) (out : List Env) (s : Shared) (H : Hp) (vs : List V) (Q : VK) (E : XK), Rm k (A.deeper (envOfC qual (C8.fnScope st) s.heap.objs.size f cdv)) → sp vs H Q E →
      ∃ t, PSs (cxOf (L2.CX P w) P w K mg base N qual (C8.fnScope st) f cdv A out s H E) (C8.fnBody st) t ∧ t { nx := fun _ H' => Q .non H', rt := Q } (start N vs) H) : FnG P w K mg base (k + 1) f fd ps sp := by
  obtain ⟨oc, od, dV, kV, doc, pm, an, cdv, ct, osl, rfl, lk, hcd⟩ := F.ex
  exact fnG lk hcd S len fun A out s H vs Q E rm want => hb cdv A out s H vs Q E rm want
end

/-! ### calls -/
section
variable {X : Cx} {k j : Nat} {f C : Addr} {fd : FuncData} {ps : List Str} {sp : Sp} {dvs : List V} {ds : List Value} {E : XK} {x m : Str} {p pos apos : Pos} {e o : Expr} {es : List Expr} {ta : TE} {t : TA}
/-- what a callee lets out is taken, at these pins and slots -/
def PassAt (X : Cx) (pins : List (Addr × Obj)) (σ : L2.St) (E : XK) : Prop := ∀ (H : Hp) (s : Shared) (e : Value) (s' : Shared), Inv X pins σ H s → L2.CX X.prog X.w X.stack H s E e s' → X.xe e s'
theorem goG {pins : List (Addr × Obj)} {σ : L2.St} {H : Hp} {s : Shared} {Q : VK} {us : List Value} {vs : List V} (F : FnG X.prog X.w X.K X.mg X.base k f fd ps sp) {A : Around} (hr : Rm k A) (fr : A.frames = X.A.frames) (hb : Binds X.K fd ps ds) (hd : Vals dvs ds) (hx : PassAt X pins σ E)
    (I : Inv X pins σ H s) (r : Vals vs us) (h : sp (vs ++ dvs) H Q E) : wpAny (model X.prog X.w) A (call (.ref f) us) (EP X pins σ Q) X.xe s := by
  have r2 : Vals (vs ++ dvs) (us ++ ds) := r.append hd
  have ev : Env0 X.prog X.w X.K X.mg X.base A X.stack s H := { I.env0 with frames := fr.trans I.env0.frames }
  have hl : (us ++ ds).length = ps.length := r2.length.symm.trans (F.len _ _ _ _ h)
  refine wpAny_call (codeAny_mono (F.run A X.stack s H ⟨us, []⟩ (us ++ ds) (vs ++ dvs) Q E hr ev (hb s us I.kIn hl) r2 h) ?_)
  intro res s' z
  match res, z with
  | .error e, z => exact hx H s e s' I z
  | .ok (.ret u), z => exact I.after z
  | .ok .next, z => exact False.elim z
  | .ok .brk, z => exact False.elim z
  | .ok .cont, z => exact False.elim z
theorem runG {pins : List (Addr × Obj)} {σ : L2.St} {H : Hp} {s : Shared} {Q : VK} {us : List Value} {vs : List V} (F : FnG X.prog X.w X.K X.mg X.base k f fd ps sp) (hr : Rm k X.A) (hb : Binds X.K fd ps ds) (hd : Vals dvs ds) (hx : PassAt X pins σ E)
    (I : Inv X pins σ H s) (r : Vals vs us) (h : sp (vs ++ dvs) H Q E) : wpAny (model X.prog X.w) X.A (call (.ref f) us) (EP X pins σ Q) X.xe s := goG F hr rfl hb hd hx I r h
theorem makeG {pins : List (Addr × Obj)} {σ : L2.St} {H : Hp} {s : Shared} {Q : VK} {us : List Value} {vs : List V} (M : Mk X.K C f) (F : FnG X.prog X.w X.K X.mg X.base k f fd ps sp) (hr : Rm (k + 1) X.A) (hb : Binds X.K fd ps ds) (hd : Vals dvs ds)
    (hx : PassAt X pins σ E) (I : Inv X pins σ H s) (r : Vals vs us)
    (h : ∀ x dx, H x = none → H dx = none → dx ≠ x → sp (.ref x :: (vs ++ dvs)) (upd (upd H dx (.own x)) x (.ins C dx [])) (fun v H2 => v = .non ∧ Q (.ref x) H2) E) :
    wpAny (model X.prog X.w) X.A (call (.ref C) us) (EP X pins σ Q) X.xe s := by
  have n := s.heap.objs.size
  have want := h (s.heap.objs.size + 1) s.heap.objs.size (I.hok.fresh (Nat.le_succ _)) (I.hok.fresh (Nat.le_refl _)) (Nat.ne_of_lt (Nat.lt_succ_self _))
  have I2 := Inv.made (C := C) I
  have rel : Vals (V.ref (s.heap.objs.size + 1) :: (vs ++ dvs)) (Value.ref (s.heap.objs.size + 1) :: (us ++ ds)) := Paired.cons rfl (r.append hd)
  have hl : (Value.ref (s.heap.objs.size + 1) :: us ++ ds).length = ps.length := by
    have e := rel.length.symm
    rw [F.len _ _ _ _ want] at e
    exact e
  refine wpAny_call (make_map (f := f) I.kIn M.makes M.init (beq_iff_eq.mp M.fn) (codeAny_mono (F.run _ X.stack _ _ ⟨Value.ref (s.heap.objs.size + 1) :: us, []⟩ (Value.ref (s.heap.objs.size + 1) :: (us ++ ds)) _ _ E (hr.make C us [])
    (I2.env0.make C us []) (hb _ (Value.ref (s.heap.objs.size + 1) :: us) I2.kIn hl) rel want) ?_))
  intro res s' z
  match res, z with
  | .error e, z => exact hx _ _ e s' I2 z
  | .ok (.ret u), z =>
    obtain ⟨v, H', I3, rv, ev, q3⟩ := I2.after z
    subst ev
    exact ⟨rv, V.ref (s.heap.objs.size + 1), H', I3, rfl, q3⟩
  | .ok .next, z => exact False.elim z
  | .ok .brk, z => exact False.elim z
  | .ok .cont, z => exact False.elim z
end

/-- a def that may be called by its name -/
structure Cal (P : Program) (w : World) (K : PySem.W.Frag) (mg : Str → Option Value) (base : Heap) (k : Nat) (x : Str) (sp : Sp) (dvs : List V) : Prop where
  ex : ∃ (f : Addr) (fd : FuncData) (ps : List Str) (ds : List Value), FnG P w K mg base k f fd ps sp ∧ mg x = some (.ref f) ∧ PySem.W.keepIn K (.ref f) = true ∧ Binds K fd ps ds ∧ Vals dvs ds
/-- a method of the class at C -/
structure Met (P : Program) (w : World) (K : PySem.W.Frag) (mg : Str → Option Value) (base : Heap) (k : Nat) (C : Addr) (m : Str) (sp : Sp) (dvs : List V) : Prop where
  ex : ∃ (f : Addr) (fd : FuncData) (ps : List Str) (ds : List Value), Cls K C ∧ Meth K C m f ∧ FnG P w K mg base k f fd ps sp ∧ Binds K fd ps ds ∧ Vals dvs ds
/-- a class that may be made by its name; sp: its __init__ -/
structure Mak (P : Program) (w : World) (K : PySem.W.Frag) (mg : Str → Option Value) (base : Heap) (k : Nat) (x : Str) (C : Addr) (sp : Sp) (dvs : List V) : Prop where
  ex : ∃ (f : Addr) (fd : FuncData) (ps : List Str) (ds : List Value), Mk K C f ∧ FnG P w K mg base k f fd ps sp ∧ mg x = some (.ref C) ∧ Binds K fd ps ds ∧ Vals dvs ds
/-- what the top has written of a def; of a method -/
structure DefAt (K : PySem.W.Frag) (mg : Str → Option Value) (x : Str) (st : Stmt) (ps : List Str) (dvs : List V) : Prop where
  ex : ∃ (f : Addr) (fd : FuncData) (ds : List Value), C8.Fun K x x st f fd ∧ mg x = some (.ref f) ∧ PySem.W.keepIn K (.ref f) = true ∧ Binds K fd ps ds ∧ Vals dvs ds
structure MetAt (K : PySem.W.Frag) (C : Addr) (m qual : Str) (st : Stmt) (ps : List Str) (dvs : List V) : Prop where
  ex : ∃ (f : Addr) (fd : FuncData) (ds : List Value), Cls K C ∧ Meth K C m f ∧ C8.Fun K m qual st f fd ∧ Binds K fd ps ds ∧ Vals dvs ds
structure MakAt (K : PySem.W.Frag) (mg : Str → Option Value) (x : Str) (C : Addr) (qual : Str) (st : Stmt) (ps : List Str) (dvs : List V) : Prop where
  ex : ∃ (f : Addr) (fd : FuncData) (ds : List Value), Mk K C f ∧ C8.Fun K "__init__" qual st f fd ∧ mg x = some (.ref C) ∧ Binds K fd ps ds ∧ Vals dvs ds
section
variable {P : Program} {w : World} {K : PySem.W.Frag} {mg : Str → Option Value} {base : Heap} {k : Nat} {C : Addr} {x m qual : Str} {st : Stmt} {ps N : List Str} {dvs : List V} {sp : Sp}
theorem cal0 (D : DefAt K mg x st ps dvs) (S : FnScope N ps (C8.fnScope st)) (len : ∀ vs H Q E, sp vs H Q E → vs.length = ps.length)
    (hb : ∀ (f : Addr) (cdv : Value) (A : Around) (out : List Env) (s : Shared) (H : Hp) (vs : List V) (Q : VK) (E : XK), Rm k (A.deeper (envOfC x (C8.fnScope st) s.heap.objs.size f cdv)) → sp vs H Q E →
      ∃ t, PSs (cxOf (L2.CX P w) P w K mg base N x (C8.fnScope st) f cdv A out s H E).nox (C8.fnBody st) t ∧ t { nx := fun _ H' => Q .non H', rt := Q } (start N vs) H) : Cal P w K mg base (k + 1) x sp dvs := by
  obtain ⟨f, fd, ds, F, g, kp, b, v⟩ := D.ex
  exact ⟨f, fd, ps, ds, fnG0 F S len (hb f), g, kp, b, v⟩
theorem calX (D : DefAt K mg x st ps dvs) (S : FnScope N ps (C8.fnScope st)) (len : ∀ vs H Q E, sp vs H Q E → vs.length = ps.length)
    (hb : ∀ (f : Addr) (cdv : Value) (A : Around) (out : List Env) (s : Shared) (H : Hp) (vs : List V) (Q : VK) (E : XK), Rm k (A.deeper (envOfC x (C8.fnScope st) s.heap.objs.size f cdv)) → sp vs H Q E →
      ∃ t, PSs (cxOf (L2.CX P w) P w K mg base N x (C8.fnScope st) f cdv A out s H E) (C8.fnBody st) t ∧ t { nx := fun _ H' => Q .non H', rt := Q } (start N vs) H) : Cal P w K mg base (k + 1) x sp dvs := by
  obtain ⟨f, fd, ds, F, g, kp, b, v⟩ := D.ex
  exact ⟨f, fd, ps, ds, fnGX F S len (hb f), g, kp, b, v⟩
theorem met0 (D : MetAt K C m qual st ps dvs) (S : FnScope N ps (C8.fnScope st)) (len : ∀ vs H Q E, sp vs H Q E → vs.length = ps.length)
    (hb : ∀ (f : Addr) (cdv : Value) (A : Around) (out : List Env) (s : Shared) (H : Hp) (vs : List V) (Q : VK) (E : XK), Rm k (A.deeper (envOfC qual (C8.fnScope st) s.heap.objs.size f cdv)) → sp vs H Q E →
      ∃ t, PSs (cxOf (L2.CX P w) P w K mg base N qual (C8.fnScope st) f cdv A out s H E).nox (C8.fnBody st) t ∧ t { nx := fun _ H' => Q .non H', rt := Q } (start N vs) H) : Met P w K mg base (k + 1) C m sp dvs := by
  obtain ⟨f, fd, ds, c, me, F, b, v⟩ := D.ex
  exact ⟨f, fd, ps, ds, c, me, fnG0 F S len (hb f), b, v⟩
theorem metX (D : MetAt K C m qual st ps dvs) (S : FnScope N ps (C8.fnScope st)) (len : ∀ vs H Q E, sp vs H Q E → vs.length = ps.length)
    (hb : ∀ (f : Addr) (cdv : Value) (A : Around) (out : List Env) (s : Shared) (H : Hp) (vs : List V) (Q : VK) (E : XK), Rm k (A.deeper (envOfC qual (C8.fnScope st) s.heap.objs.size f cdv)) → sp vs H Q E →
      ∃ t, PSs (cxOf (L2.CX P w) P w K mg base N qual (C8.fnScope st) f cdv A out s H E) (C8.fnBody st) t ∧ t { nx := fun _ H' => Q .non H', rt := Q } (start N vs) H) : Met P w K mg base (k + 1) C m sp dvs := by
  obtain ⟨f, fd, ds, c, me, F, b, v⟩ := D.ex
  exact ⟨f, fd, ps, ds, c, me, fnGX F S len (hb f), b, v⟩
theorem mak0 (D : MakAt K mg x C qual st ps dvs) (S : FnScope N ps (C8.fnScope st)) (len : ∀ vs H Q E, sp vs H Q E → vs.length = ps.length)
    (hb : ∀ (f : Addr) (cdv : Value) (A : Around) (out : List Env) (s : Shared) (H : Hp) (vs : List V) (Q : VK) (E : XK), Rm k (A.deeper (envOfC qual (C8.fnScope st) s.heap.objs.size f cdv)) → sp vs H Q E →
      ∃ t, PSs (cxOf (L2.CX P w) P w K mg base N qual (C8.fnScope st) f cdv A out s H E).nox (C8.fnBody st) t ∧ t { nx := fun _ H' => Q .non H', rt := Q } (start N vs) H) : Mak P w K mg base (k + 1) x C sp dvs := by
  obtain ⟨f, fd, ds, M, F, g, b, v⟩ := D.ex
  exact ⟨f, fd, ps, ds, M, fnG0 F S len (hb f), g, b, v⟩
theorem makX (D : MakAt K mg x C qual st ps dvs) (S : FnScope N ps (C8.fnScope st)) (len : ∀ vs H Q E, sp vs H Q E → vs.length = ps.length)
    (hb : ∀ (f : Addr) (cdv : Value) (A : Around) (out : List Env) (s : Shared) (H : Hp) (vs : List V) (Q : VK) (E : XK), Rm k (A.deeper (envOfC qual (C8.fnScope st) s.heap.objs.size f cdv)) → sp vs H Q E →
      ∃ t, PSs (cxOf (L2.CX P w) P w K mg base N qual (C8.fnScope st) f cdv A out s H E) (C8.fnBody st) t ∧ t { nx := fun _ H' => Q .non H', rt := Q } (start N vs) H) : Mak P w K mg base (k + 1) x C sp dvs := by
  obtain ⟨f, fd, ds, M, F, g, b, v⟩ := D.ex
  exact ⟨f, fd, ps, ds, M, fnGX F S len (hb f), g, b, v⟩
end
section
variable {X : Cx} {k j : Nat} {C : Addr} {x m : Str} {sp : Sp} {dvs : List V} {p pos apos : Pos} {e o : Expr} {es : List Expr} {ta : TE} {t : TA}
theorem pe_c (c : Cal X.prog X.w X.K X.mg X.base k x sp dvs) (hr : Rm j X.A) (hk : k ≤ j) (hg : Gl X x) (ha : PA X (e :: es) t) (hdb : (x == ("__debug__" : Str)) = false := by decide)
    (he : starEach (e :: es) X.env = (false, eval e X.env) :: starEach es X.env := by rfl) (hpl : (backTo pos (starEach es X.env)).any (·.1) = false := by rfl) : PE X (.Call (.Name x p) (e :: es) [] pos) (tCall sp dvs E0 t) := by
  obtain ⟨f, fd, ps, ds, F, hm, kp, b, d⟩ := c.ex
  constructor
  intro pins s σ H Q I h
  refine wpAny_Call_Name_kw (ld_glob I hg hm ?_ hdb)
  refine PySem.W.callWith_K (h₀ := X.base) I.ok.mod.kin kp (thn (ha.run pos pins s σ H _ I h) ?_) he hpl
  rintro us s1 ⟨vs, H1, I1, r, q⟩
  exact ⟨I1.kIn, runG F (hr.mono hk) b d (passL _ _) I1 r q⟩
theorem pe_c0 (c : Cal X.prog X.w X.K X.mg X.base k x sp dvs) (hr : Rm j X.A) (hk : k ≤ j) (hg : Gl X x) (hdb : (x == ("__debug__" : Str)) = false := by decide) : PE X (.Call (.Name x p) [] [] pos) (tCall sp dvs E0 tNil) := by
  obtain ⟨f, fd, ps, ds, F, hm, kp, b, d⟩ := c.ex
  constructor
  intro pins s σ H Q I h
  exact wpAny_Call_Name_kw (ld_glob I hg hm (PySem.W.callWith_K0 I.kIn kp (runG (us := []) (vs := []) F (hr.mono hk) b d (passL _ _) I .nil h)) hdb)
theorem pe_mk (c : Mak X.prog X.w X.K X.mg X.base k x C sp dvs) (hr : Rm j X.A) (hk : k + 1 ≤ j) (hg : Gl X x) (ha : PA X (e :: es) t) (hdb : (x == ("__debug__" : Str)) = false := by decide)
    (he : starEach (e :: es) X.env = (false, eval e X.env) :: starEach es X.env := by rfl) (hpl : (backTo pos (starEach es X.env)).any (·.1) = false := by rfl) : PE X (.Call (.Name x p) (e :: es) [] pos) (tMake C sp dvs E0 t) := by
  obtain ⟨f, fd, ps, ds, M, F, hm, b, d⟩ := c.ex
  constructor
  intro pins s σ H Q I h
  refine wpAny_Call_Name_kw (ld_glob I hg hm ?_ hdb)
  refine PySem.W.callWith_K (h₀ := X.base) I.ok.mod.kin M.kp (thn (ha.run pos pins s σ H _ I h) ?_) he hpl
  rintro us s1 ⟨vs, H1, I1, r, q⟩
  exact ⟨I1.kIn, makeG M F (hr.mono hk) b d (passL _ _) I1 r q⟩
theorem pe_mk0 (c : Mak X.prog X.w X.K X.mg X.base k x C sp dvs) (hr : Rm j X.A) (hk : k + 1 ≤ j) (hg : Gl X x) (hdb : (x == ("__debug__" : Str)) = false := by decide) : PE X (.Call (.Name x p) [] [] pos) (tMake C sp dvs E0 tNil) := by
  obtain ⟨f, fd, ps, ds, M, F, hm, b, d⟩ := c.ex
  constructor
  intro pins s σ H Q I h
  exact wpAny_Call_Name_kw (ld_glob I hg hm (PySem.W.callWith_K0 I.kIn M.kp (makeG (us := []) (vs := []) M F (hr.mono hk) b d (passL _ _) I .nil h)) hdb)
theorem pe_mt {pl : Sem Bool} (c : Met X.prog X.w X.K X.mg X.base k C m sp dvs) (hr : Rm j X.A) (hk : k ≤ j) (he : PE X o ta) (ha : PA X (e :: es) t)
    (hst : starEach (e :: es) X.env = (false, eval e X.env) :: starEach es X.env := by rfl) (hpl : (backTo pos (starEach es X.env)).any (·.1) = false := by rfl)
    (ht : eval (.Call (.Attribute o m apos) (e :: es) [] pos) X.env = (do
      let ov ← eval o X.env
      standAt apos.atName
      let (g, first) ← holding [ov] (getMethod ov m pl)
      callWith pos g first (backTo pos (starEach (e :: es) X.env)) (backToKw pos (keywordEach [] X.env))) := by rfl) : PE X (.Call (.Attribute o m apos) (e :: es) [] pos) (tMeth C m sp dvs E0 ta t) := by
  obtain ⟨f, fd, ps, ds, hc, hm, F, b, d⟩ := c.ex
  constructor
  intro pins s σ H Q I h
  refine PySem.W.methodCall_KW (pl := pl) (thn (he.run pins s σ H _ I h) ?_) ht
  rintro u s1 ⟨x, H1, I1, rx, a, dx, fs, rfl, ea, l, q⟩
  cases rx
  refine getmeth_ok I1 ea hc hm l ?_
  refine PySem.W.callWith_K (first := [.ref a]) (h₀ := X.base) I.ok.mod.kin hm.kp (thn (ha.run pos pins s1 σ H1 _ I1 q) ?_) hst hpl
  rintro us s2 ⟨vs, H2, I2, r, q2⟩
  exact ⟨I2.kIn, runG (us := .ref a :: us) (vs := .ref a :: vs) F (hr.mono hk) b d (passL _ _) I2 (Paired.cons rfl r) q2⟩
theorem pe_mt0 {pl : Sem Bool} (c : Met X.prog X.w X.K X.mg X.base k C m sp dvs) (hr : Rm j X.A) (hk : k ≤ j) (he : PE X o ta)
    (ht : eval (.Call (.Attribute o m apos) [] [] pos) X.env = (do
      let ov ← eval o X.env
      standAt apos.atName
      let (g, first) ← holding [ov] (getMethod ov m pl)
      callWith pos g first (backTo pos (starEach [] X.env)) (backToKw pos (keywordEach [] X.env))) := by rfl) : PE X (.Call (.Attribute o m apos) [] [] pos) (tMeth C m sp dvs E0 ta tNil) := by
  obtain ⟨f, fd, ps, ds, hc, hm, F, b, d⟩ := c.ex
  constructor
  intro pins s σ H Q I h
  refine PySem.W.methodCall_KW (pl := pl) (thn (he.run pins s σ H _ I h) ?_) ht
  rintro u s1 ⟨x, H1, I1, rx, a, dx, fs, rfl, ea, l, q⟩
  cases rx
  refine getmeth_ok I1 ea hc hm l ?_
  exact PySem.W.callWith_K0 (first := [.ref a]) I1.kIn hm.kp (runG (us := [.ref a]) (vs := [.ref a]) F (hr.mono hk) b d (passL _ _) I1 (Paired.cons rfl .nil) q)
end

/-! ### operators by the text's own methods -/
section
variable {X : Cx} {k j : Nat} {C : Addr} {m : Str} {sp : Sp}
theorem cmpBack_of {pins : List (Addr × Obj)} {σ : L2.St} {Q : VK} {u : Value} {s : Shared} (h : EP X pins σ Q u s) : PySem.W.CmpBack (EP X pins σ Q) u s := by
  obtain ⟨v, H', I, r, q⟩ := id h
  cases v <;> first | (cases r; exact h) | (obtain ⟨_, rfl⟩ := r; exact h)
/-- two instances of the class at C -/
def rOwn2 (C : Addr) (sp : Sp) : R2 := fun x y H Q => ∃ a b dx fs dy gs, x = .ref a ∧ y = .ref b ∧ H a = some (.ins C dx fs) ∧ H b = some (.ins C dy gs) ∧ sp [.ref a, .ref b] H Q E0
theorem op_own2 {op : Operator} (c : Met X.prog X.w X.K X.mg X.base k C m sp []) (hsf : PySem.W.selfFirst X.K C = true) (hr : Rm j X.A) (hk : k ≤ j) (hm : PySem.dunder op.info.2 = m := by rfl) : OpR X (binaryOp op) (rOwn2 C sp) := by
  intro pins s σ H x y v u Q I rx ry h
  obtain ⟨a, b, dx, fs, dy, gs, rfl, rfl, ha, hb, want⟩ := h
  cases rx; cases ry
  obtain ⟨f, fd, ps, ds, hc, me, F, bd, dv⟩ := c.ex
  obtain ⟨mA, J, _⟩ := ins_get I.hok ha
  obtain ⟨mB, J', _⟩ := ins_get I.hok hb
  obtain ⟨od, J, _⟩ := J.look
  obtain ⟨od', J', _⟩ := J'.look
  obtain ⟨mm, hF⟩ := I.fr
  subst hm
  refine PySem.W.binop_K hF I.ok.mod.kin J J'.type hsf me.at_ me.fn ?_
  refine wpAny_mono (runG (us := [.ref a, .ref b]) (vs := [.ref a, .ref b]) F (hr.mono hk) bd dv (passL _ _) I (.cons rfl (.cons rfl .nil)) ?_) (fun _ _ z => cmpBack_of z) fun _ _ z => z
  simpa using want
/-- what an int (and any such built-in) has of an operator -/
structure OpT (K : PySem.W.Frag) (C : Addr) (T : String) (op : Operator) : Prop where
  r : ∃ rc : Option Value, PySem.W.findIn K (.ref C) (dunderR op.info.2) = some rc ∧ (rc = none ∨ ∃ g : Addr, rc = some (.ref g))
  f : ∃ fo : Option Value, PySem.W.findIn K (.type T) (PySem.dunder op.info.2) = some fo
  g : ∃ ro : Option Value, PySem.W.findIn K (.type T) (dunderR op.info.2) = some ro
  s : PySem.W.subIn K (.type T) (.ref C) = some false
/-- an instance and an int -/
def rOwnI (C : Addr) (sp : Sp) : R2 := fun x y H Q => ∃ a dx fs i, x = .ref a ∧ y = .int i ∧ H a = some (.ins C dx fs) ∧ sp [.ref a, .int i] H Q E0
theorem op_ownI {op : Operator} (c : Met X.prog X.w X.K X.mg X.base k C m sp []) (hsf : PySem.W.selfFirst X.K C = true) (ht : OpT X.K C "int" op) (hr : Rm j X.A) (hk : k ≤ j) (hm : PySem.dunder op.info.2 = m := by rfl) : OpR X (binaryOp op) (rOwnI C sp) := by
  intro pins s σ H x y v u Q I rx ry h
  obtain ⟨a, dx, fs, i, rfl, rfl, ha, want⟩ := h
  cases rx; obtain ⟨tk, rfl⟩ := ry
  obtain ⟨f, fd, ps, ds, hc, me, F, bd, dv⟩ := c.ex
  obtain ⟨mA, J, _⟩ := ins_get I.hok ha
  obtain ⟨od, J, _⟩ := J.look
  obtain ⟨mm, hF⟩ := I.fr
  obtain ⟨⟨rc, h1, h2⟩, ⟨fo, h3⟩, ⟨ro, h4⟩, h5⟩ := ht
  subst hm
  refine PySem.W.ksp_binT (T := "int") hF I.ok.mod.kin J rfl hsf me.at_ me.fn h1 h2 h3 h4 h5 ?_
  refine wpAny_mono (runG (us := [.ref a, .int i tk]) (vs := [.ref a, .int i]) F (hr.mono hk) bd dv (passL _ _) I (.cons rfl (.cons ⟨tk, rfl⟩ .nil)) ?_) (fun _ _ z => cmpBack_of z) fun _ _ z => z
  simpa using want
/-- - of an instance -/
def rOwn1 (C : Addr) (sp : Sp) : V → Hp → VK → Prop := fun x H Q => ∃ a dx fs, x = .ref a ∧ H a = some (.ins C dx fs) ∧ sp [.ref a] H Q E0
theorem un_own (c : Met X.prog X.w X.K X.mg X.base k C "__neg__" sp []) (hr : Rm j X.A) (hk : k ≤ j) : UnR X (unaryOp .USub) (rOwn1 C sp) := by
  intro pins s σ H x v Q I rx h
  obtain ⟨a, dx, fs, rfl, ha, want⟩ := h
  cases rx
  obtain ⟨f, fd, ps, ds, hc, me, F, bd, dv⟩ := c.ex
  obtain ⟨mA, J, _⟩ := ins_get I.hok ha
  obtain ⟨od, J, _⟩ := J.look
  obtain ⟨mm, hF⟩ := I.fr
  refine PySem.W.ksp_neg hF I.ok.mod.kin J me.at_ me.fn ?_
  exact runG (us := [.ref a]) (vs := [.ref a]) F (hr.mono hk) bd dv (passL _ _) I (.cons rfl .nil) (by simpa using want)
end

/-! ### repr of data -/
section
variable {X : Cx} {j : Nat}
def rRepr (K : PySem.W.Frag) : List V → Hp → VK → Prop := fun xs H Q => ∃ (x : V) (d : PyData), xs = [x] ∧ Dp K H x d ∧ d.showable = true ∧ d.depth ≤ 60 ∧ d.shown.length ≤ sizeLine ∧ Q (.str d.shown) H
mutual
theorem noDict {K : PySem.W.Frag} {H : Hp} : ∀ {d : PyData} {x : V}, Dp K H x d → d.hasDict = false
  | _, _, .non => rfl
  | _, _, .bl _ => rfl
  | _, _, .int _ => rfl
  | _, _, .str _ => rfl
  | _, _, .lst _ h => by simpa [PyData.hasDict] using noDicts h
  | _, _, .tup _ h => by simpa [PyData.hasDict] using noDicts h
theorem noDicts {K : PySem.W.Frag} {H : Hp} : ∀ {ds : List PyData} {xs : List V}, DpAll K H xs ds → PyData.hasDictAll ds = false
  | _, _, .nil => rfl
  | _, _, .cons h r => by simp [PyData.hasDictAll, noDict h, noDicts r]
end
theorem call_repr (hr : Rm j X.A) : CallR X (.builtin "repr") (rRepr X.K) := by
  intro pins s σ H xs us Q I r h
  obtain ⟨x, d, rfl, hd, hs, hdp, hz, q⟩ := h
  obtain ⟨u, rfl, ru⟩ := vals1 r
  have un := hr.room.units
  cases hd with
  | non =>
    cases ru
    exact P.repr_of_none ⟨.str _, H, I.tok _, ⟨_, rfl⟩, q⟩
  | bl b =>
    cases ru
    refine P.repr_of_bool ⟨.str _, H, I.tok _, ⟨_, rfl⟩, ?_⟩
    simpa [PyData.shown] using q
  | int i =>
    obtain ⟨t, rfl⟩ := ru
    refine P.repr_of_int (by simpa [PyData.showable] using hs) ⟨.str _, H, I.tok _, ⟨_, rfl⟩, ?_⟩
    simpa [PyData.shown] using q
  | str x =>
    obtain ⟨t, rfl⟩ := ru
    refine P.repr_of_str ⟨.str _, H, I.tok _, ⟨_, rfl⟩, ?_⟩ (by simpa [PyData.shown] using hz)
    simpa [PyData.shown] using q
  | lst hsq ha =>
    have nd := noDict (.lst hsq ha)
    obtain ⟨as, rd⟩ := Dp.reads I _ _ _ (.lst hsq ha) ru
    cases ru
    refine repr_of_reads' rd hs (fun z => by rw [nd] at z; cases z) hr.gd (by omega) (fun _ _ z => z) (fun h' u tk k => ?_) hz
    exact ⟨.str _, H, I.kept k, ⟨_, rfl⟩, q⟩
  | tup hsq ha =>
    have nd := noDict (.tup hsq ha)
    obtain ⟨as, rd⟩ := Dp.reads I _ _ _ (.tup hsq ha) ru
    cases ru
    refine repr_of_reads' rd hs (fun z => by rw [nd] at z; cases z) hr.gd (by omega) (fun _ _ z => z) (fun h' u tk k => ?_) hz
    exact ⟨.str _, H, I.kept k, ⟨_, rfl⟩, q⟩
end

/-! ### built-in functions, by named readings -/
section
variable {X : Cx}
def rInt : List V → Hp → VK → Prop := fun xs H Q => (∃ i, xs = [.int i] ∧ Q (.int i) H) ∨ ∃ k, xs = [.bl k] ∧ Q (.int (if k then 1 else 0)) H
theorem c_int : CallR X (.type "int") rInt := call_int1
def rAbs : List V → Hp → VK → Prop := fun xs H Q => ∃ i, xs = [.int i] ∧ Q (.int (if i < 0 then -i else i)) H
theorem c_abs : CallR X (.builtin "abs") rAbs := call_abs
def rLenQ (K : PySem.W.Frag) : List V → Hp → VK → Prop := fun xs H Q => ∃ p ys, xs = [.ref p] ∧ (SqL K H p ys ∨ SqT K H p ys) ∧ Q (.int ys.length) H
theorem c_len : CallR X (.builtin "len") (rLenQ X.K) := call_len_seq
def rLenT : List V → Hp → VK → Prop := fun xs H Q => ∃ z, xs = [.str z] ∧ z.length ≤ sizeLine ∧ Q (.int z.length) H
theorem c_lenS : CallR X (.builtin "len") rLenT := call_len_str
def rListOf (K : PySem.W.Frag) : List V → Hp → VK → Prop := fun xs H Q => ∃ p ys, xs = [.ref p] ∧ (SqL K H p ys ∨ SqT K H p ys) ∧ ∀ l, H l = none → Q (.ref l) (upd H l (.lst ys))
theorem c_list : CallR X (.type "list") (rListOf X.K) := call_list_of
variable {K : PySem.W.Frag} {σ : L2.St} {H : Hp} {Q : VK}
theorem r_int {i : Int} (h : Q (.int i) H) : rInt [.int i] H Q := .inl ⟨i, rfl, h⟩
theorem r_intB {b : Bool} (h : Q (.int (if b then 1 else 0)) H) : rInt [.bl b] H Q := .inr ⟨b, rfl, h⟩
theorem r_abs {i : Int} (h : Q (.int (if i < 0 then -i else i)) H) : rAbs [.int i] H Q := ⟨i, rfl, h⟩
theorem r_lenL {p : Addr} {ys : List V} (h0 : H p = some (.lst ys)) (h : Q (.int ys.length) H) : rLenQ K [.ref p] H Q := ⟨p, ys, rfl, .inl (SqL.of h0), h⟩
theorem r_lenT {p : Addr} {ys : List V} (h0 : H p = some (.tup ys)) (h : Q (.int ys.length) H) : rLenQ K [.ref p] H Q := ⟨p, ys, rfl, .inr (SqT.of h0), h⟩
theorem r_lenSq {p : Addr} {ys : List V} (h0 : SqL K H p ys) (h : Q (.int ys.length) H) : rLenQ K [.ref p] H Q := ⟨p, ys, rfl, .inl h0, h⟩
theorem r_lenS {z : Str} (h0 : z.length ≤ sizeLine) (h : Q (.int z.length) H) : rLenT [.str z] H Q := ⟨z, rfl, h0, h⟩
theorem r_listL {p : Addr} {ys : List V} (h0 : SqL K H p ys) (h : ∀ l H', Same H H' → H' l = some (.lst ys) → H l = none → Q (.ref l) H') : rListOf K [.ref p] H Q := ⟨p, ys, rfl, .inl h0, al h⟩
theorem r_ixL' {p : Addr} {xs : List V} {i : Int} {v : V} (h0 : H p = some (.lst xs)) (h1 : atI xs i = some v) (h : Q v H) : rIxL K (.ref p) (.int i) H Q := r_ixL (SqL.of h0) h1 h
theorem r_ixT' {p : Addr} {xs : List V} {i : Int} {v : V} (h0 : H p = some (.tup xs)) (h1 : atI xs i = some v) (h : Q v H) : rIxT K (.ref p) (.int i) H Q := r_ixT (SqT.of h0) h1 h
theorem u_tup' {tA : TA} (h : tA σ H fun xs H1 => xs.length ≤ sizeLine ∧ ∀ p H', Same H1 H' → H' p = some (.tup xs) → H1 p = none → Q (.ref p) H') : ∀ (hm : ∀ (R R' : List V → Hp → Prop), (∀ xs H1, R xs H1 → R' xs H1) → tA σ H R → tA σ H R'), tTup tA σ H Q :=
  fun hm => hm _ _ (fun xs H1 z => ⟨z.1, al z.2⟩) h
def kLst (Q : VK) : List V → Hp → Prop := fun xs H1 => xs.length ≤ sizeLine ∧ ∀ p, H1 p = none → Q (.ref p) (upd H1 p (.lst xs))
def kTup (Q : VK) : List V → Hp → Prop := fun xs H1 => xs.length ≤ sizeLine ∧ ∀ p, H1 p = none → Q (.ref p) (upd H1 p (.tup xs))
theorem u_lstK {tA : TA} (h : tA σ H (kLst Q)) : tLst tA σ H Q := h
theorem u_tupK {tA : TA} (h : tA σ H (kTup Q)) : tTup tA σ H Q := h
theorem k_lst {xs : List V} (h0 : xs.length ≤ 1000) (h : ∀ p H', Same H H' → H' p = some (.lst xs) → H p = none → Q (.ref p) H') : kLst Q xs H := ⟨Nat.le_trans h0 (by decide), al h⟩
theorem k_tup {xs : List V} (h0 : xs.length ≤ 1000) (h : ∀ p H', Same H H' → H' p = some (.tup xs) → H p = none → Q (.ref p) H') : kTup Q xs H := ⟨Nat.le_trans h0 (by decide), al h⟩
def kPar (D : Ends) (σ : L2.St) (i j : Nat) : List V → Hp → Prop := fun vs H1 => ∃ v w, vs = [v, w] ∧ D.nx ((σ.set i (some v)).set j (some w)) H1
theorem u_parK {D : Ends} {tA : TA} {i j : Nat} (h : tA σ H (kPar D σ i j)) : tPar i j tA D σ H := h
theorem k_par {D : Ends} {i j : Nat} {v w : V} (h : D.nx ((σ.set i (some v)).set j (some w)) H) : kPar D σ i j [v, w] H := ⟨v, w, rfl, h⟩
end
/-- K of a body's context -/
theorem cxK (CX : CXT) (P : Program) (w : World) (K : PySem.W.Frag) (mg : Str → Option Value) (base : Heap) (N : List Str) (q : Str) (sc : Scope) (f : Addr) (cd : Value) (A : Around) (out : List Env) (s : Shared) (H : Hp) (E : XK) :
    (cxOf CX P w K mg base N q sc f cd A out s H E).nox.K = K := rfl
theorem cxK' (CX : CXT) (P : Program) (w : World) (K : PySem.W.Frag) (mg : Str → Option Value) (base : Heap) (N : List Str) (q : Str) (sc : Scope) (f : Addr) (cd : Value) (A : Around) (out : List Env) (s : Shared) (H : Hp) (E : XK) :
    (cxOf CX P w K mg base N q sc f cd A out s H E).K = K := rfl

/-! ### ints with conditions -/
section
variable {H : Hp} {Q : VK}
theorem r_mod {i j : Int} (h0 : 0 < j) (h : 0 ≤ i % j → i % j < j → Q (.int (i % j)) H) : rI (fun _ j => 0 < j) (fun i j => .int (i % j)) (.int i) (.int j) H Q :=
  ⟨i, j, rfl, rfl, h0, h (Int.emod_nonneg i (by omega)) (Int.emod_lt_of_pos i h0)⟩
theorem r_mul {i j : Int} (h0 : (-18446744073709551616 < i ∧ i < 18446744073709551616) ∨ (-18446744073709551616 < j ∧ j < 18446744073709551616)) (h : Q (.int (i * j)) H) : rI CMul (fun i j => .int (i * j)) (.int i) (.int j) H Q :=
  ⟨i, j, rfl, rfl, h0.imp (fun z => ⟨by omega, by omega⟩) (fun z => ⟨by omega, by omega⟩), h⟩
theorem r_div {i j : Int} (h0 : 0 < j) (h1 : j < 18446744073709551616) (h : Q (.int (i / j)) H) : rI CDivW (fun i j => .int (i / j)) (.int i) (.int j) H Q :=
  ⟨i, j, rfl, rfl, wide_div (b := 64) h0 (by omega) (by decide) (by decide), h⟩
theorem r_pow {i j z : Int} (h0 : 0 ≤ j) (h1 : j ≤ 1000000) (h2 : -18446744073709551616 < i ∧ i < 18446744073709551616) (hz : i ^ j.toNat = z) (h : Q (.int z) H) : rI CPow (fun i j => .int (i ^ j.toNat)) (.int i) (.int j) H Q :=
  ⟨i, j, rfl, rfl, ⟨h0, h1, by omega⟩, by dsimp only; rw [hz]; exact h⟩
theorem SP.pen {p L : Addr} {a r a' r' : Int} (hp : H p = some (.lst [.ref L, .int a, .int r])) : SP H (upd H p (.lst [.ref L, .int a', .int r'])) := by
  refine ⟨fun b u e n => ?_, fun b M x y e => ?_⟩
  · have : b ≠ p := fun q => by
      rw [q, hp] at e
      cases e
      cases n
    rw [upd_ne this]
    exact e
  · by_cases q : b = p
    · rw [q, hp] at e
      cases e
      exact ⟨a', r', by rw [q]; exact upd_same⟩
    · exact ⟨x, y, by rw [upd_ne q]; exact e⟩
theorem penL {p L : Addr} {a r a' r' : Int} {ns : List Int} (hp : H p = some (.lst [.ref L, .int a, .int r])) (hL : H L = some (.lst (ns.map V.int))) : upd H p (.lst [.ref L, .int a', .int r']) L = some (.lst (ns.map V.int)) :=
  (SP.pen hp).tr hL (isPen_ints ns)
/-- a new list beside the pen, later written -/
theorem PenAt.upd {H2 H4 : Hp} {p D : Addr} {n m : Nat} {o : HO} (hD : H2 D = none) (h2 : PenAt H2 p n) (s : SP H2 H4) (h4 : PenAt H4 p m) : PenAt (upd H4 D o) p m := by
  obtain ⟨L0, a0, r0, ns0, e0, l0, _⟩ := h2
  obtain ⟨L, a, r, ns, e1, l1, h⟩ := h4
  obtain ⟨a1, r1, e2⟩ := s.2 p L0 a0 r0 e0
  rw [e1] at e2
  cases e2
  exact ⟨_, _, _, ns, by rw [upd_ne (ne_of_none e0 hD)]; exact e1, by rw [upd_ne (ne_of_none l0 hD)]; exact l1, h⟩
end

/-! ### lists of ints as data -/
theorem canLay_ints : ∀ ns : List Int, PyData.canLayAll0 (ns.map PyData.int) = true
  | [] => rfl
  | a :: r => by simp [PyData.canLayAll0, PyData.canLay0, canLay_ints r]
theorem depth_ints : ∀ ns : List Int, PyData.depthAll (ns.map PyData.int) = 0
  | [] => rfl
  | a :: r => by simp [PyData.depthAll, PyData.depth, depth_ints r]
theorem shaped_ints (ns : List Int) : SeqAt.shaped (.list (ns.map PyData.int)) = true := by
  simp [SeqAt.shaped, PyData.canLay0, PyData.depth, canLay_ints, depth_ints]
theorem dp_ints {K : PySem.W.Frag} {H : Hp} : ∀ ns : List Int, DpAll K H (ns.map V.int) (ns.map PyData.int)
  | [] => .nil
  | a :: r => .cons (.int a) (dp_ints r)
theorem r_ne0 {K : PySem.W.Frag} {H : Hp} {Q : VK} {a b : Addr} {ns : List Int} (h1 : H a = some (.lst (ns.map V.int))) (h2 : H b = some (.lst [])) (h : Q (.bl (!decide (ns = []))) H) : rNeD K (.ref a) (.ref b) H Q := by
  refine ⟨.list (ns.map .int), .list [], .lst (SqL.of h1) (dp_ints ns), .lst (SqL.of h2) .nil, shaped_ints ns, rfl, ?_⟩
  cases ns with
  | nil => simpa [PyData.eqv, PyData.eqvAll] using h
  | cons a r => simpa [PyData.eqv, PyData.eqvAll] using h

/-! ### bounds of the draws -/
theorem mulB {x y X Y : Int} (h0 : 0 ≤ x) (h1 : x ≤ X) (h2 : 0 ≤ y) (h3 : y ≤ Y) : 0 ≤ x * y ∧ x * y ≤ X * Y :=
  ⟨Int.mul_nonneg h0 h2, Int.mul_le_mul h1 h3 h2 (Int.le_trans h0 h1)⟩
theorem drawB {m b c a d : Int} (hm0 : 0 ≤ m) (hm : m < 4294967296) (hb0 : 0 ≤ b) (hb : b ≤ 100000000) (ha0 : 0 ≤ a) (ha : a ≤ 1000001) (hc0 : 0 ≤ c) (hc : c ≤ 1000000) (hd0 : 0 ≤ d) (hd : d ≤ 1000000) :
    -18446744073709551616 < m * b + c * a * a + d ∧ m * b + c * a * a + d < 18446744073709551616 := by
  obtain ⟨h1, h2⟩ := mulB hm0 (Int.le_of_lt hm) hb0 hb
  obtain ⟨h3, h4⟩ := mulB hc0 hc ha0 ha
  obtain ⟨h5, h6⟩ := mulB h3 h4 ha0 ha
  omega
theorem atI_ints {ns : List Int} {a : Int} (h0 : 0 ≤ a) (h1 : a < (ns.length : Int)) : ∃ c, atI (ns.map V.int) a = some (.int c) := by
  have hj : a.toNat < ns.length := by omega
  refine ⟨ns[a.toNat], ?_⟩
  have e : a = ((a.toNat : Nat) : Int) := by omega
  have z := atI_nat (xs := ns.map V.int) (j := a.toNat) (v := .int ns[a.toNat]) (by rw [List.getElem?_map, List.getElem?_eq_getElem hj]; rfl)
  rw [← e] at z
  exact z

/-! ### instances compared and called; static methods -/
section
variable {X : Cx} {k j : Nat} {C p g : Addr} {m x : Str} {sp : Sp} {mc : Value}
theorem op_ownEq (c : Met X.prog X.w X.K X.mg X.base k C "__eq__" sp []) (hr : Rm j X.A) (hk : k ≤ j) : OpR X (compareOp .Eq) (rOwn2 C sp) := by
  intro pins s σ H x y v u Q I rx ry h
  obtain ⟨a, b, dx, fs, dy, gs, rfl, rfl, ha, hb, want⟩ := h
  cases rx; cases ry
  obtain ⟨f, fd, ps, ds, hc, me, F, bd, dv⟩ := c.ex
  obtain ⟨mA, J, _⟩ := ins_get I.hok ha
  obtain ⟨mB, J', _⟩ := ins_get I.hok hb
  obtain ⟨od, J, _⟩ := J.look
  obtain ⟨od', J', _⟩ := J'.look
  obtain ⟨mm, hF⟩ := I.fr
  show wpAny (model X.prog X.w) X.A (richCompare .Eq (.ref a) (.ref b)) (EP X pins σ Q) X.xe s
  refine PySem.W.cmp_K (op := .Eq) (tb := .ref C) hr.room.units0 hF I.ok.mod.kin J J'.type (by simp [PySem.W.notFirst]) me.at_ me.fn ?_
  refine wpAny_mono (runG (us := [.ref a, .ref b]) (vs := [.ref a, .ref b]) F (hr.mono hk) bd dv (passL _ _) I (.cons rfl (.cons rfl .nil)) ?_) (fun _ _ z => cmpBack_of z) fun _ _ z => z
  simpa using want
/-- f(e, ..), f an instance of the class at C -/
def tOwnC (C : Addr) (sp : Sp) (tf : TE) (t : TA) : TE := fun σ H Q => tf σ H fun y H1 => ∃ a, y = .ref a ∧ t σ H1 fun vs H2 => (∃ dx fs, H2 a = some (.ins C dx fs)) ∧ sp (.ref a :: vs) H2 Q E0
theorem goOwn {pins : List (Addr × Obj)} {σ : L2.St} {H : Hp} {s : Shared} {Q : VK} {a : Addr} {us : List Value} {vs : List V} (c : Met X.prog X.w X.K X.mg X.base k C "__call__" sp []) (fi : ∀ f, PySem.W.findIn X.K (.ref C) "__call__" = some (some (.ref f)) → PySem.W.fnIn X.K f = true)
    (hr : Rm j X.A) (hk : k ≤ j) (I : Inv X pins σ H s) (hi : ∃ dx fs, H a = some (.ins C dx fs)) (r : Vals vs us) (h : sp (.ref a :: vs) H Q E0) : wpAny (model X.prog X.w) X.A (call (.ref a) us) (EP X pins σ Q) X.xe s := by
  obtain ⟨f, fd, ps, ds, hc, me, F, bd, dv⟩ := c.ex
  obtain ⟨dx, fs, ha⟩ := hi
  obtain ⟨mA, J, _⟩ := ins_get I.hok ha
  obtain ⟨od, J, _⟩ := J.look
  have r2 : Vals (.ref a :: vs) (.ref a :: us) := Paired.cons rfl r
  have dn : ds = [] := by cases dv; rfl
  subst dn
  have hl : (Value.ref a :: us ++ []).length = ps.length := by
    rw [List.append_nil]
    exact r2.length.symm.trans (F.len _ _ _ _ h)
  have b2 := bd s (.ref a :: us) I.kIn hl
  rw [List.append_nil] at b2
  refine wpAny_call (PySem.W.kco_code I.kIn J rfl me.at_ me.fn (fi f me.at_) (codeAny_mono (F.run X.A X.stack s H ⟨.ref a :: us, []⟩ (.ref a :: us) (.ref a :: vs) Q E0 (hr.mono hk) I.env0 b2 r2 h) ?_))
  intro res s' z
  match res, z with
  | .error e, z => exact passL pins σ H s e s' I z
  | .ok (.ret u), z => exact I.after z
  | .ok .next, z => exact False.elim z
  | .ok .brk, z => exact False.elim z
  | .ok .cont, z => exact False.elim z
variable {e fe o : Expr} {es : List Expr} {tf ta : TE} {t : TA} {pp pos apos : Pos}
theorem pe_ownN (c : Met X.prog X.w X.K X.mg X.base k C "__call__" sp []) (fi : ∀ f, PySem.W.findIn X.K (.ref C) "__call__" = some (some (.ref f)) → PySem.W.fnIn X.K f = true) (hr : Rm j X.A) (hk : k ≤ j) (hf : PE X (.Name x pp) tf) (ha : PA X (e :: es) t)
    (he : starEach (e :: es) X.env = (false, eval e X.env) :: starEach es X.env := by rfl) (hpl : (backTo pos (starEach es X.env)).any (·.1) = false := by rfl) : PE X (.Call (.Name x pp) (e :: es) [] pos) (tOwnC C sp tf t) := by
  constructor
  intro pins s σ H Q I h
  refine wpAny_Call_Name_kw (thn (hf.run pins s σ H _ I h) ?_)
  rintro u s1 ⟨y, H1, I1, ry, a, rfl, q⟩
  cases ry
  refine StX.callO_with (thn (ha.run pos pins s1 σ H1 _ I1 q) ?_) he hpl
  rintro us s2 ⟨vs, H2, I2, r, hi, q2⟩
  obtain ⟨dx, fs, hh⟩ := id hi
  obtain ⟨mA, J, _⟩ := ins_get I2.hok hh
  obtain ⟨od, J, _⟩ := J.look
  exact ⟨⟨C, _, _, J, rfl⟩, goOwn c fi hr hk I2 hi r q2⟩
theorem pe_ownE (c : Met X.prog X.w X.K X.mg X.base k C "__call__" sp []) (fi : ∀ f, PySem.W.findIn X.K (.ref C) "__call__" = some (some (.ref f)) → PySem.W.fnIn X.K f = true) (hr : Rm j X.A) (hk : k ≤ j) (hf : PE X fe tf) (ha : PA X (e :: es) t)
    (ht : eval (.Call fe (e :: es) [] pos) X.env = (do callWith pos (← eval fe X.env) [] (backTo pos (starEach (e :: es) X.env)) (backToKw pos (keywordEach [] X.env))) := by rfl)
    (he : starEach (e :: es) X.env = (false, eval e X.env) :: starEach es X.env := by rfl) (hpl : (backTo pos (starEach es X.env)).any (·.1) = false := by rfl) : PE X (.Call fe (e :: es) [] pos) (tOwnC C sp tf t) := by
  constructor
  intro pins s σ H Q I h
  refine Call_ (thn (hf.run pins s σ H _ I h) ?_) ht
  rintro u s1 ⟨y, H1, I1, ry, a, rfl, q⟩
  cases ry
  refine StX.callO_with (thn (ha.run pos pins s1 σ H1 _ I1 q) ?_) he hpl
  rintro us s2 ⟨vs, H2, I2, r, hi, q2⟩
  obtain ⟨dx, fs, hh⟩ := id hi
  obtain ⟨mA, J, _⟩ := ins_get I2.hok hh
  obtain ⟨od, J, _⟩ := J.look
  exact ⟨⟨C, _, _, J, rfl⟩, goOwn c fi hr hk I2 hi r q2⟩
/-- C.m, a static method: its record at p, its def at g -/
structure SMet (K : PySem.W.Frag) (C : Addr) (mc : Value) (m : Str) (p g : Addr) : Prop where
  rd : PySem.W.readsIn K C mc = true
  ga : PySem.W.specialIn K (.ref C) "__getattribute__" = some (some (.builtin "type.__getattribute__"))
  at_ : PySem.W.findCls K (.ref C) mc m = some (.get (.builtin "staticmethod.__get__") (.ref p) .none (.ref C))
  rc : ∃ rest, PySem.W.recIn K p "staticmethod" = some (.ref g :: rest)
  kp : PySem.W.keepIn K (.ref g) = true
/-- a static method's promise -/
structure Sta (P : Program) (w : World) (K : PySem.W.Frag) (mg : Str → Option Value) (base : Heap) (k : Nat) (C : Addr) (m : Str) (sp : Sp) (dvs : List V) : Prop where
  ex : ∃ (mc : Value) (p g : Addr) (fd : FuncData) (ps : List Str) (ds : List Value), SMet K C mc m p g ∧ FnG P w K mg base k g fd ps sp ∧ Binds K fd ps ds ∧ Vals dvs ds
structure StaAt (K : PySem.W.Frag) (C : Addr) (m qual : Str) (st : Stmt) (ps : List Str) (dvs : List V) : Prop where
  ex : ∃ (mc : Value) (p g : Addr) (fd : FuncData) (ds : List Value), SMet K C mc m p g ∧ C8.Fun K m qual st g fd ∧ Binds K fd ps ds ∧ Vals dvs ds
def tSMeth (C : Addr) (sp : Sp) (dvs : List V) (E : XK) (ta : TE) (t : TA) : TE := fun σ H Q => ta σ H fun x H1 => x = .ref C ∧ t σ H1 fun vs H2 => sp (vs ++ dvs) H2 Q E
theorem pe_smE {dvs : List V} {E : XK} {pl : Sem Bool} (c : Sta X.prog X.w X.K X.mg X.base k C m sp dvs) (hr : Rm j X.A) (hk : k ≤ j) (hx : Passes (L2.CX X.prog X.w) X E) (ho : PE X o ta) (ha : PA X (e :: es) t)
    (hst : starEach (e :: es) X.env = (false, eval e X.env) :: starEach es X.env := by rfl) (hpl : (backTo pos (starEach es X.env)).any (·.1) = false := by rfl)
    (ht : eval (.Call (.Attribute o m apos) (e :: es) [] pos) X.env = (do
      let ov ← eval o X.env
      standAt apos.atName
      let (g, first) ← holding [ov] (getMethod ov m pl)
      callWith pos g first (backTo pos (starEach (e :: es) X.env)) (backToKw pos (keywordEach [] X.env))) := by rfl) : PE X (.Call (.Attribute o m apos) (e :: es) [] pos) (tSMeth C sp dvs E ta t) := by
  obtain ⟨mc, p, g, fd, ps, ds, S, F, bd, dv⟩ := c.ex
  constructor
  intro pins s σ H Q I h
  refine PySem.W.methodCall_KW (pl := pl) (thn (ho.run pins s σ H _ I h) ?_) ht
  rintro u s1 ⟨x, H1, I1, rx, rfl, q⟩
  cases rx
  obtain ⟨rest, hp⟩ := S.rc
  refine PySem.W.method_cls I1.kIn S.ga (PySem.W.cls_bind I1.kIn S.rd S.at_ (wpAny_call (PySem.W.sm_get (s := { s1 with toks := s1.toks + 1 }) I1.kIn hp (PySem.W.handed_on rfl ?_))))
  refine PySem.W.callWith_K (first := []) (h₀ := X.base) I.ok.mod.kin S.kp (thn (ha.run pos pins _ σ H1 _ (I1.tok _) q) ?_) hst hpl
  rintro us s2 ⟨vs, H2, I2, r, q2⟩
  exact ⟨I2.kIn, runG F (hr.mono hk) bd dv (hx _ _) I2 r q2⟩
theorem pe_sm {dvs : List V} {pl : Sem Bool} (c : Sta X.prog X.w X.K X.mg X.base k C m sp dvs) (hr : Rm j X.A) (hk : k ≤ j) (ho : PE X o ta) (ha : PA X (e :: es) t)
    (hst : starEach (e :: es) X.env = (false, eval e X.env) :: starEach es X.env := by rfl) (hpl : (backTo pos (starEach es X.env)).any (·.1) = false := by rfl)
    (ht : eval (.Call (.Attribute o m apos) (e :: es) [] pos) X.env = (do
      let ov ← eval o X.env
      standAt apos.atName
      let (g, first) ← holding [ov] (getMethod ov m pl)
      callWith pos g first (backTo pos (starEach (e :: es) X.env)) (backToKw pos (keywordEach [] X.env))) := by rfl) : PE X (.Call (.Attribute o m apos) (e :: es) [] pos) (tSMeth C sp dvs E0 ta t) :=
  pe_smE (pl := pl) c hr hk passL ho ha hst hpl ht
end
section
variable {P : Program} {w : World} {K : PySem.W.Frag} {mg : Str → Option Value} {base : Heap} {k : Nat} {C : Addr} {x m qual : Str} {st : Stmt} {ps N : List Str} {dvs : List V} {sp : Sp}
theorem sta0 (D : StaAt K C m qual st ps dvs) (S : FnScope N ps (C8.fnScope st)) (len : ∀ vs H Q E, sp vs H Q E → vs.length = ps.length)
    (hb : ∀ (f : Addr) (cdv : Value) (A : Around) (out : List Env) (s : Shared) (H : Hp) (vs : List V) (Q : VK) (E : XK), Rm k (A.deeper (envOfC qual (C8.fnScope st) s.heap.objs.size f cdv)) → sp vs H Q E →
      ∃ t, PSs (cxOf (L2.CX P w) P w K mg base N qual (C8.fnScope st) f cdv A out s H E).nox (C8.fnBody st) t ∧ t { nx := fun _ H' => Q .non H', rt := Q } (start N vs) H) : Sta P w K mg base (k + 1) C m sp dvs := by
  obtain ⟨mc, p, g, fd, ds, c, F, b, v⟩ := D.ex
  exact ⟨mc, p, g, fd, ps, ds, c, fnG0 F S len (hb g), b, v⟩
theorem staX (D : StaAt K C m qual st ps dvs) (S : FnScope N ps (C8.fnScope st)) (len : ∀ vs H Q E, sp vs H Q E → vs.length = ps.length)
    (hb : ∀ (f : Addr) (cdv : Value) (A : Around) (out : List Env) (s : Shared) (H : Hp) (vs : List V) (Q : VK) (E : XK), Rm k (A.deeper (envOfC qual (C8.fnScope st) s.heap.objs.size f cdv)) → sp vs H Q E →
      ∃ t, PSs (cxOf (L2.CX P w) P w K mg base N qual (C8.fnScope st) f cdv A out s H E) (C8.fnBody st) t ∧ t { nx := fun _ H' => Q .non H', rt := Q } (start N vs) H) : Sta P w K mg base (k + 1) C m sp dvs := by
  obtain ⟨mc, p, g, fd, ds, c, F, b, v⟩ := D.ex
  exact ⟨mc, p, g, fd, ps, ds, c, fnGX F S len (hb g), b, v⟩
end
/-! ### isinstance, by named readings -/
section
variable {K : PySem.W.Frag} {H : Hp} {Q : VK}
theorem r_isiS {z : Str} {c : V} {u : Value} {b : Bool} (hc : ClsV c u) (h0 : PySem.W.kitOne K (.type "str") u = some b) (h : Q (.bl b) H) : rIsi K [.str z, c] H Q := ⟨_, _, _, _, _, rfl, hc, .base (.str z), h0, h⟩
theorem kit_same (K : PySem.W.Frag) (t : Value) : PySem.W.kitOne K t t = some true := by unfold PySem.W.kitOne; rw [if_pos (beq_self_eq_true t)]
end

/-! ### an int times an instance -/
section
open PySem.W
theorem intmul_obj (a : Int) (t : Tok) (x C dx : Addr) :
    Meets (Builtin.«int.__mul__» ⟨[.int a t, .ref x], []⟩) (fun _ R s => s.heap.get? x = some (PySem.W.instObj C dx) ∧ R (.ok (.ret Value.notImplemented)) s) :=
  .of_wp fun prog w A R s h => by
    obtain ⟨hp, g, d, tk, os⟩ := s
    obtain ⟨hl, h⟩ := h
    unfold PySem.W.instObj at hl
    wp_walk
    exact ⟨_, rfl, h⟩
section
variable {prog : Program} {w : World} {A : Around} {E : Value → Shared → Prop} {s : Shared} {K : Frag} {x C dx L f g : Addr} {h₀ : Heap} {m : Str → Option Value} {od : Option Obj}
theorem intmul_call {i : Int} {t : Tok} {Q : Value → Shared → Prop} (I : s.heap.get? x = some (instObj C dx)) (h : Q .notImplemented s) : wpAny (model prog w) A (call (.builtin "int.__mul__") [.int i t, .ref x]) Q E s :=
  call_meets F.slot_int_mul (typeIs_int s i t) F.entry_int_mul (F.args_int_mul_2 _ _) (intmul_obj i t x C dx) ⟨I, h⟩
theorem intmul_try {i : Int} {t : Tok} {Q : Option Value → Shared → Prop} (I : s.heap.get? x = some (instObj C dx)) (h : Q none s) : wpAny (model prog w) A (tryMethod (.int i t) (PySem.dunder "mul") (.ref x)) Q E s := by
  exact @wpAny_tryMethod_declines (model prog w) A E s (.int i t) (.ref x) "int" (PySem.dunder "mul") "int.__mul__" Q (typeIs_int s i t) F.slot_int_mul (intmul_call I (And.intro rfl h))
theorem rmul1_K {i : Int} {t : Tok} {Q : Value → Shared → Prop} (X : K.In s.heap) (I : InstAt s.heap x (instObj C dx) C od) (hc : selfFirst K C = true)
    (hs : findIn K (.ref C) "__mul__" = some (some (.ref f))) (hr : findIn K (.ref C) "__rmul__" = some (some (.ref g))) (hg : isFn K (.ref g) = true) (hsub : subIn K (.ref C) (.type "int") = some false)
    (h : wpAny (model prog w) A (call (.ref g) [.ref x, .int i t]) (PySem.W.CmpBack Q) E s) : wpAny (model prog w) A (binaryOp1 "mul" (.int i t) (.ref x)) (fun r s' => ∃ v, r = some v ∧ Q v s') E s := by
  obtain ⟨cd, rest, hcd, hm⟩ := ksp_first hc
  have one := ksp_try X I hr hg h
  have L1 : Looks (model prog w) s.heap (typeOf (.ref x)) (.ref C) := I.type
  have L3 : Looks (model prog w) s.heap (fillsNumberSlot (.ref C) "mul") true := fills_K (nm := "mul") X hcd hm hs
  have L5 : Looks (model prog w) s.heap (isSubtype (.ref C) (.type "int")) false := looks_subIn X hsub
  have hne : (Value.type "int" == Value.ref C) = false := Bool.eq_false_iff.mpr fun q => by cases beq_iff_eq.mp q
  simp only [binaryOp1]
  refine wpAny_bind (wpAny_typeOf (typeIs_int s i t) (wpAny_bind (L1.here (wpAny_bind (wpAny_of_eq F.fills_int_mul ?_)))))
  simp only [hne, Bool.false_eq_true, if_false]
  refine wpAny_bind (L3.here ?_)
  simp only [Bool.and_self, if_true]
  refine wpAny_bind (L5.here ?_)
  have hpy : numberSlotInPython (.type "int") "mul" = pure false := rfl
  simp only [Bool.false_eq_true, if_false, pure_bind, Bool.not_false, Bool.and_self, if_true, hpy]
  refine wpAny_bind (intmul_try I.at_ ?_)
  show wpAny _ _ (tryMethod (.ref x) (dunderR "mul") (.int i t) >>= _) _ _ _
  refine wpAny_bind (wpAny_mono (Q := fun r s' => ∃ v, r = some v ∧ Q v s') one (fun r s' hr' => ?_) fun _ _ e => e)
  obtain ⟨v, rfl, hq⟩ := hr'
  exact wpAny_bind (wpAny_rule (wpAny_pure ⟨v, rfl, hq⟩))
theorem rmul_K {i : Int} {t : Tok} {Q : Value → Shared → Prop} (X : K.In s.heap) (I : InstAt s.heap x (instObj C dx) C od) (hc : selfFirst K C = true)
    (hs : findIn K (.ref C) "__mul__" = some (some (.ref f))) (hr : findIn K (.ref C) "__rmul__" = some (some (.ref g))) (hg : isFn K (.ref g) = true) (hsub : subIn K (.ref C) (.type "int") = some false)
    (h : wpAny (model prog w) A (call (.ref g) [.ref x, .int i t]) (PySem.W.CmpBack Q) E s) : wpAny (model prog w) A (binaryOp .Mult (.int i t) (.ref x)) Q E s := by
  have z := rmul1_K X I hc hs hr hg hsub h
  unfold binaryOp
  refine wpAny_holding (wpAny_bind (wpAny_mono (Q := fun r s' => ∃ v, r = some v ∧ Q v s') z (fun r s' hr' => ?_) fun _ _ e => e))
  obtain ⟨v, rfl, hq⟩ := hr'
  exact wpAny_pure hq
end
section
variable {X : Cx} {k j : Nat} {C : Addr} {sp : Sp}
/-- an int times an instance -/
def rOwnR (C : Addr) (sp : Sp) : R2 := fun x y H Q => ∃ a dx fs i, x = .int i ∧ y = .ref a ∧ H a = some (.ins C dx fs) ∧ sp [.ref a, .int i] H Q E0
theorem op_ownR (c : Met X.prog X.w X.K X.mg X.base k C "__rmul__" sp []) (hsf : selfFirst X.K C = true) (hs : ∃ f : Addr, findIn X.K (.ref C) "__mul__" = some (some (.ref f))) (hsub : subIn X.K (.ref C) (.type "int") = some false) (hr : Rm j X.A) (hk : k ≤ j) : OpR X (binaryOp .Mult) (rOwnR C sp) := by
  intro pins s σ H x y v u Q I rx ry h
  obtain ⟨a, dx, fs, i, rfl, rfl, ha, want⟩ := h
  cases ry; obtain ⟨tk, rfl⟩ := rx
  obtain ⟨f, fd, ps, ds, hc, me, F, bd, dv⟩ := c.ex
  obtain ⟨f0, hs⟩ := hs
  obtain ⟨mA, J, _⟩ := ins_get I.hok ha
  obtain ⟨od, J, _⟩ := J.look
  refine rmul_K I.kIn J hsf hs me.at_ me.fn hsub ?_
  refine wpAny_mono (runG (us := [.ref a, .int i tk]) (vs := [.ref a, .int i]) F (hr.mono hk) bd dv (passL _ _) I (.cons rfl (.cons ⟨tk, rfl⟩ .nil)) ?_) (fun _ _ z => cmpBack_of z) fun _ _ z => z
  simpa using want
end
end

theorem r_isB {a b : Bool} {H : Hp} {Q : VK} (h : Q (.bl (decide (a = b))) H) : rIsB (.bl a) (.bl b) H Q := ⟨a, b, rfl, rfl, h⟩
theorem r_notB {a b : Bool} {H : Hp} {Q : VK} (h : Q (.bl (!decide (a = b))) H) : rNotB (.bl a) (.bl b) H Q := ⟨a, b, rfl, rfl, h⟩
section
variable {K : PySem.W.Frag} {H : Hp} {Q : VK}
/-- repr of a bool, of a list of two bools -/
theorem r_reprB {b : Bool} (h : Q (.str (PyData.shown (.bool b))) H) : rRepr K [.bl b] H Q := ⟨_, .bool b, rfl, .bl b, rfl, by simp [PyData.depth], by cases b <;> decide, h⟩
theorem r_reprBB {p : Addr} {a b : Bool} (h0 : H p = some (.lst [.bl a, .bl b])) (h : Q (.str (PyData.shown (.list [.bool a, .bool b]))) H) : rRepr K [.ref p] H Q :=
  ⟨_, .list [.bool a, .bool b], rfl, .lst (SqL.of h0) (.cons (.bl a) (.cons (.bl b) .nil)), rfl, by simp [PyData.depth, PyData.depthAll], by cases a <;> cases b <;> decide +kernel, h⟩
theorem shown_bool_ne {a b : Bool} (h : a = b) : decide (PyData.shown (.bool a) = PyData.shown (.bool b)) = true := by rw [h]; simp
end

/-! ### loops and stores, by named readings -/
section
variable {K : PySem.W.Frag} {σ : L2.St} {H : Hp} {D : Ends} {tb : TS} {g : TG} {tA : TA} {ta tv tl : TE} {Q : VK} {v : V}
def kRng (g : TG) (tb : TS) (D : Ends) (σ : L2.St) : List V → Hp → Prop := fun vs H1 => ∃ j : Int, vs = [.int j] ∧ -(2 ^ 62) ≤ j ∧ j < 2 ^ 62 ∧ ∃ W : Nat → Nat → L2.St → Hp → Prop, (∃ m, W 0 m σ H1) ∧ ∀ i m σ H, W i m σ H →
  ((Itr 0 j.toNat).stop i H ∧ D.nx σ H) ∨ ((Itr 0 j.toNat).go i H ∧ ∃ N : L2.St → Hp → Prop, (∀ σ' H', N σ' H' → ∃ m', m' < m ∧ W (i + 1) m' σ' H') ∧ ∀ x H', (Itr 0 j.toNat).yld i H x H' → g x σ H' fun σ2 H2 => tb { D with nx := N, ct := N, bk := D.nx } σ2 H2)
theorem u_forR (h : tA σ H (kRng g tb D σ)) : tFor (iRng1 tA) g tb D σ H := h
theorem k_rng {j : Int} (n : Nat) (hn : j = n) (hz : n ≤ 1000000) (Pv : Nat → L2.St → Hp → Prop) (h0 : Pv 0 σ H) (hs : ∀ i σ H, i < n → Pv i σ H → g (.int (i : Int)) σ H fun σ2 H2 => tb { D with nx := Pv (i + 1), ct := Pv (i + 1), bk := D.nx } σ2 H2) (hd : ∀ σ H, Pv n σ H → D.nx σ H) :
    kRng g tb D σ [.int j] H := by
  subst hn
  refine ⟨n, rfl, by omega, by omega, ?_⟩
  rw [Int.toNat_natCast]
  refine for_range (lo := 0) (n := n) Pv h0 (fun i σ H hi hp => ?_) hd
  have e : (0 : Int) + i = i := by omega
  rw [e]
  exact hs i σ H hi hp
def kForL (K : PySem.W.Frag) (g : TG) (tb : TS) (D : Ends) (σ : L2.St) : VK := fun x H1 => ∃ a, x = .ref a ∧ (∃ xs, SqL K H1 a xs) ∧ ∃ W : Nat → Nat → L2.St → Hp → Prop, (∃ m, W 0 m σ H1) ∧ ∀ i m σ H, W i m σ H →
  ((Itl K a).stop i H ∧ D.nx σ H) ∨ ((Itl K a).go i H ∧ ∃ N : L2.St → Hp → Prop, (∀ σ' H', N σ' H' → ∃ m', m' < m ∧ W (i + 1) m' σ' H') ∧ ∀ x H', (Itl K a).yld i H x H' → g x σ H' fun σ2 H2 => tb { D with nx := N, ct := N, bk := D.nx } σ2 H2)
theorem u_forL (h : tl σ H (kForL K g tb D σ)) : tFor (iList K tl) g tb D σ H := h
theorem k_forL {a : Addr} {xs : List V} (hx : SqL K H a xs) (Pv : Nat → L2.St → Hp → Prop) (h0 : Pv 0 σ H) (hl : ∀ i σ H, i ≤ xs.length → Pv i σ H → SqL K H a xs)
    (hs : ∀ i x σ H, xs[i]? = some x → Pv i σ H → g x σ H fun σ2 H2 => tb { D with nx := Pv (i + 1), ct := Pv (i + 1), bk := D.nx } σ2 H2) (hd : ∀ σ H, Pv xs.length σ H → D.nx σ H) : kForL K g tb D σ (.ref a) H :=
  ⟨a, rfl, ⟨xs, hx⟩, for_list Pv h0 hl hs hd⟩
def kForT (K : PySem.W.Frag) (g : TG) (tb : TS) (D : Ends) (σ : L2.St) : VK := fun x H1 => ∃ a, x = .ref a ∧ (∃ xs, SqT K H1 a xs) ∧ ∃ W : Nat → Nat → L2.St → Hp → Prop, (∃ m, W 0 m σ H1) ∧ ∀ i m σ H, W i m σ H →
  ((Itt K a).stop i H ∧ D.nx σ H) ∨ ((Itt K a).go i H ∧ ∃ N : L2.St → Hp → Prop, (∀ σ' H', N σ' H' → ∃ m', m' < m ∧ W (i + 1) m' σ' H') ∧ ∀ x H', (Itt K a).yld i H x H' → g x σ H' fun σ2 H2 => tb { D with nx := N, ct := N, bk := D.nx } σ2 H2)
theorem u_forT (h : tl σ H (kForT K g tb D σ)) : tFor (iTup K tl) g tb D σ H := h
theorem k_forT {a : Addr} {xs : List V} (hx : SqT K H a xs) (Pv : Nat → L2.St → Hp → Prop) (h0 : Pv 0 σ H) (hl : ∀ i σ H, i ≤ xs.length → Pv i σ H → SqT K H a xs)
    (hs : ∀ i x σ H, xs[i]? = some x → Pv i σ H → g x σ H fun σ2 H2 => tb { D with nx := Pv (i + 1), ct := Pv (i + 1), bk := D.nx } σ2 H2) (hd : ∀ σ H, Pv xs.length σ H → D.nx σ H) : kForT K g tb D σ (.ref a) H :=
  ⟨a, rfl, ⟨xs, hx⟩, for_tup Pv h0 hl hs hd⟩
def kSet (K : PySem.W.Frag) (f : Str) (y : V) (D : Ends) (σ : L2.St) : VK := fun x H2 => ∃ a C dx fs, x = .ref a ∧ H2 a = some (.ins C dx fs) ∧ Cls K C ∧ NoAttr K C f ∧ fs.length < 1000 ∧ D.nx σ (upd H2 a (.ins C dx (putF f y fs)))
theorem u_sfld {f : Str} (h : tv σ H fun y H1 => ta σ H1 (kSet K f y D σ)) : sFld K ta tv f D σ H := h
theorem k_set {f : Str} {y : V} {a C dx : Addr} {fs : List (Str × V)} (ho : H a = some (.ins C dx fs)) (hc : Cls K C) (hn : NoAttr K C f) (hl : fs.length < 1000) (h : D.nx σ (upd H a (.ins C dx (putF f y fs)))) : kSet K f y D σ (.ref a) H :=
  ⟨a, C, dx, fs, rfl, ho, hc, hn, hl, h⟩
theorem put_len {f : Str} {w : V} {fs : List (Str × V)} {n : Nat} (h : fs.length ≤ n) : (putF f w fs).length ≤ n + 1 := Nat.le_trans (length_putF f w fs) (Nat.succ_le_succ h)
theorem r_own2 {C a b dx dy : Addr} {fs gs : List (Str × V)} {sp : Sp} (ha : H a = some (.ins C dx fs)) (hb : H b = some (.ins C dy gs)) (h : sp [.ref a, .ref b] H Q E0) : rOwn2 C sp (.ref a) (.ref b) H Q := ⟨a, b, dx, fs, dy, gs, rfl, rfl, ha, hb, h⟩
theorem r_ownI {C a dx : Addr} {fs : List (Str × V)} {i : Int} {sp : Sp} (ha : H a = some (.ins C dx fs)) (h : sp [.ref a, .int i] H Q E0) : rOwnI C sp (.ref a) (.int i) H Q := ⟨a, dx, fs, i, rfl, rfl, ha, h⟩
theorem r_ownR {C a dx : Addr} {fs : List (Str × V)} {i : Int} {sp : Sp} (ha : H a = some (.ins C dx fs)) (h : sp [.ref a, .int i] H Q E0) : rOwnR C sp (.int i) (.ref a) H Q := ⟨a, dx, fs, i, rfl, rfl, ha, h⟩
theorem r_own1 {C a dx : Addr} {fs : List (Str × V)} {sp : Sp} (ha : H a = some (.ins C dx fs)) (h : sp [.ref a] H Q E0) : rOwn1 C sp (.ref a) H Q := ⟨a, dx, fs, rfl, ha, h⟩
def kOwnC (C : Addr) (sp : Sp) (t : TA) (σ : L2.St) (Q : VK) : VK := fun y H1 => ∃ a, y = .ref a ∧ t σ H1 fun vs H2 => (∃ dx fs, H2 a = some (.ins C dx fs)) ∧ sp (.ref a :: vs) H2 Q E0
theorem u_ownC {C : Addr} {sp : Sp} (h : tl σ H (kOwnC C sp tA σ Q)) : tOwnC C sp tl tA σ H Q := h
def kOwnC2 (C a : Addr) (sp : Sp) (Q : VK) : List V → Hp → Prop := fun vs H2 => (∃ dx fs, H2 a = some (.ins C dx fs)) ∧ sp (.ref a :: vs) H2 Q E0
theorem k_ownC {C a : Addr} {sp : Sp} (h : tA σ H (kOwnC2 C a sp Q)) : kOwnC C sp tA σ Q (.ref a) H := ⟨a, rfl, h⟩
theorem k_ownC2 {C a dx : Addr} {sp : Sp} {vs : List V} {fs : List (Str × V)} (ha : H a = some (.ins C dx fs)) (h : sp (.ref a :: vs) H Q E0) : kOwnC2 C a sp Q vs H := ⟨⟨dx, fs, ha⟩, h⟩
def kSM (C : Addr) (sp : Sp) (dvs : List V) (E : XK) (t : TA) (σ : L2.St) (Q : VK) : VK := fun x H1 => x = .ref C ∧ t σ H1 fun vs H2 => sp (vs ++ dvs) H2 Q E
theorem u_sm {C : Addr} {sp : Sp} {dvs : List V} {E : XK} (h : tl σ H (kSM C sp dvs E tA σ Q)) : tSMeth C sp dvs E tl tA σ H Q := h
theorem k_sm {C : Addr} {sp : Sp} {dvs : List V} {E : XK} (h : tA σ H fun vs H2 => sp (vs ++ dvs) H2 Q E) : kSM C sp dvs E tA σ Q (.ref C) H := ⟨rfl, h⟩
theorem u_gtup {n : Nat} {t : TGs} {a : Addr} {xs : List V} {QS : L2.St → Hp → Prop} (h0 : SqT K H a xs) (h1 : xs.length = n) (h : t xs σ H QS) : gTup K n t (.ref a) σ H QS := ⟨a, xs, rfl, h0, h1, h⟩
theorem u_gcons {t : TG} {u : TGs} {r : List V} {QS : L2.St → Hp → Prop} (h : t v σ H fun σ' H' => u r σ' H' QS) : gCons t u (v :: r) σ H QS := ⟨v, r, rfl, h⟩
theorem u_gnil {QS : L2.St → Hp → Prop} (h : QS σ H) : gNil [] σ H QS := ⟨rfl, h⟩
end
theorem atI_all {xs : List V} {k : Int} {P : V → Prop} (h : ∀ x ∈ xs, P x) (h0 : 0 ≤ k) (h1 : k < (xs.length : Int)) : ∃ v, atI xs k = some v ∧ P v := by
  have hj : k.toNat < xs.length := by omega
  refine ⟨xs[k.toNat], ?_, h _ (List.getElem_mem hj)⟩
  have e : k = ((k.toNat : Nat) : Int) := by omega
  have z := atI_nat (xs := xs) (j := k.toNat) (v := xs[k.toNat]) (List.getElem?_eq_getElem hj)
  rw [← e] at z
  exact z

section
variable {K : PySem.W.Frag} {σ : L2.St} {H : Hp} {tA : TA} {ta te : TE} {Q : VK} {v : V}
theorem u_call0 {sp : Sp} {E : XK} (h : tA σ H fun vs H1 => sp vs H1 Q E) : tCall sp [] E tA σ H Q := by
  show tA σ H fun vs H1 => sp (vs ++ []) H1 Q E
  simp only [List.append_nil]
  exact h
theorem u_meth0 {C : Addr} {m : Str} {sp : Sp} {E : XK} (h : ta σ H (kMeth C m fun x H1 => tA σ H1 fun vs H2 => sp (x :: vs) H2 Q E)) : tMeth C m sp [] E ta tA σ H Q := by
  refine u_meth ?_
  simp only [List.append_nil]
  exact h
/-- what a new instance's __init__ is asked -/
def kMk (C : Addr) (sp : Sp) (Q : VK) (E : XK) : List V → Hp → Prop := fun vs H1 => ∀ x dx, H1 x = none → H1 dx = none → dx ≠ x → sp (.ref x :: vs) (upd (upd H1 dx (.own x)) x (.ins C dx [])) (fun v H2 => v = .non ∧ Q (.ref x) H2) E
theorem u_make0 {C : Addr} {sp : Sp} {E : XK} (h : tA σ H (kMk C sp Q E)) : tMake C sp [] E tA σ H Q := by
  refine u_make ?_
  simp only [List.append_nil]
  exact h
theorem k_sm0 {C : Addr} {sp : Sp} {E : XK} (h : tA σ H fun vs H2 => sp vs H2 Q E) : kSM C sp [] E tA σ Q (.ref C) H := by
  refine k_sm ?_
  simp only [List.append_nil]
  exact h
theorem u_sl {r : V → Option Int → Option Int → Hp → VK → Prop} {tl th : TO} (h : te σ H fun x H1 => tl σ H1 fun l H2 => th σ H2 fun u H3 => r x l u H3 Q) : tSl r te tl th σ H Q := h
theorem u_nopart {QO : Option Int → Hp → Prop} (h : QO none H) : tNoPart σ H QO := h
def kPart (QO : Option Int → Hp → Prop) : VK := fun x H1 => ∃ i, x = .int i ∧ QO (some i) H1
theorem u_part {QO : Option Int → Hp → Prop} (h : te σ H (kPart QO)) : tPart te σ H QO := h
theorem k_part {QO : Option Int → Hp → Prop} {i : Int} (h : QO (some i) H) : kPart QO (.int i) H := ⟨i, rfl, h⟩
theorem r_slL {a : Addr} {xs : List V} {lo hi : Option Int} (h0 : SqL K H a xs) (h : ∀ p H', Same H H' → H' p = some (.lst (cutV xs lo hi)) → H p = none → Q (.ref p) H') : rSlL K (.ref a) lo hi H Q := ⟨a, xs, rfl, h0, al h⟩
end

theorem cutV_to {xs : List V} {k : Nat} : cutV xs none (some (k : Int)) = xs.take k := by
  unfold cutV
  have h : ¬ ((k : Int) < 0) := by omega
  simp only [HT.sIx, h, if_false, List.drop_zero, Nat.sub_zero, Int.toNat_natCast]
  rw [List.take_eq_take_iff]
  omega
end Tw

namespace Tw
open PySem PySem.Spec PyProof.Rows L2
/-! ### the law's call, where nothing is being shown -/
section
variable {P : Program} {w : World} {K : PySem.W.Frag} {mg mb : Str → Option Value} {k : Nat} {fa a : Addr} {fd : FuncData} {x : Str} {sp : Sp} {s : Shared} {vs : List Value} {ns : List Int}
/-- what the call of the law must end with -/
def Done (s : Shared) (r : Result) (s' : Shared) : Prop := r = .ok (.ret (.bool true)) ∧ OldK s.heap s'.heap ∧ s'.os = s.os ∧ AllBare s'.gens
theorem lawG_from {H : Hp} {ob : Obj} (hK : K.In s.heap) (hm : s.heap.Ns mainGlobals mg) (hb : s.heap.Ns builtinsNs mb) (hbb : ∀ x : Str, x ≠ "__name__" → mb x = bootBuiltins x) (lim : s.heap.NoLimit) (gs : s.gens = #[])
    (hob : s.heap.get? a = some ob) (hseq : ∃ its n, ob.data = .seq its n) (ok : HOk P w H s.heap) (only : ∀ b u, H b = some u → b = a ∧ K.lookup a = none ∧ ∃ y, u = .frz ob y) (rm : Rm k callerA)
    (F : ∀ base : Heap, FnG P w K mg base k fa fd [x] sp) (bd : ∀ (s : Shared) (u : Value), BindsTo s fd ⟨[u], []⟩ [(x, u)]) (want : sp [.ref a] H (fun v _ => v = .bl true) fun _ _ _ => False) :
    codeAny (model P w) callerA (.call (.ref fa) ⟨[.ref a], []⟩) (Done s) s := by
  have plainAt : ∀ (b : Addr) (o : Obj), s.heap.get? b = some o → (∃ es n, o.data = .dict es n) → H b = none := by
    rintro b o g ⟨es, n, d⟩
    rcases q : H b with _ | u
    · rfl
    · obtain ⟨rfl, -, -⟩ := only b u q
      obtain ⟨its, j, d2⟩ := hseq
      rw [hob] at g
      injection g with g
      subst g
      rw [d2] at d
      cases d
  have stays : ∀ (b : Addr) (m : Str → Option Value), s.heap.Ns b m → (hidT s.heap H).Ns b m := by
    rintro b m ⟨o, es, n, g, d, r⟩
    exact ⟨o, es, n, hidT_get g (plainAt b o g ⟨es, n, d⟩), d, r⟩
  have inB : K.In (hidT s.heap H) := by
    intro b o g
    refine hidT_get (hK b o g) ?_
    rcases q : H b with _ | u
    · rfl
    · obtain ⟨rfl, z, -⟩ := only b u q
      rw [z] at g
      cases g
  have md : Mod K mg (hidT s.heap H) := by
    obtain ⟨mc, l1, l2⟩ := lim
    exact { kin := inB, glob := stays _ _ hm, blt := ⟨mb, stays _ _ hb, hbb⟩, nolimit := ⟨mc, stays _ _ l1, l2⟩ }
  have ev : Env0 P w K mg (hidT s.heap H) callerA [] s H :=
    { frames := rfl, mod := md, bs := fun _ _ g => of_hidT g, bsz := Nat.le_of_eq (hidT_size _ _), funs := trivial, frf := fun _ z => (nomatch z), hok := ok, bare := .of_eq gs }
  have go := (F (hidT s.heap H)).run callerA [] s H ⟨[.ref a], []⟩ [.ref a] [.ref a] _ _ rm ev (bd s (.ref a)) (Paired.cons rfl .nil) want
  refine codeAny_mono go ?_
  rintro (e | (_ | _ | _ | u)) s' h
  · obtain ⟨_, _, _, _, _, _, _, _, _, _, _, _, no⟩ := h
    exact no.elim
  · exact h.elim
  · exact h.elim
  · exact h.elim
  · obtain ⟨v, H', eo, eb, un, ok', rel, rfl⟩ := h
    have eu : u = Value.bool true := rel
    refine ⟨by rw [eu], OldK.of_keep ?_, eo, eb⟩
    intro b o g
    rcases q : H b with _ | y
    · exact un.keep b o g q (fun z => nomatch z) (fun z => nomatch z)
    · obtain ⟨rfl, -, y, rfl⟩ := only b y q
      rw [hob] at g
      injection g with g
      subst g
      exact (ok' b _ (un.frzs b _ _ q)).1
theorem lawG {n : Nat} {l : PySem.W.OpenLaw} {q : Program} {loose : List Str} {XP : (Str → Option Value) → Heap → Prop} {YP : World → Heap → Prop} {d : DefRec} {K : Params → PySem.W.Frag} {k : Nat} {sp : PySem.W.Frag → Sp}
    (hn : l.most = some n) (small : n ≤ sizeLine) (nodef : d.params.defaults = []) (rm : Rm k callerA) (hY : ∀ (w : World) (h : Heap), YP w h → (K w.params).In h)
    (F : ∀ (w : World) (mg : Str → Option Value) (fa : Addr) (h : Heap), (K w.params).In h → h.Ns mainGlobals mg → mg d.name = some (.ref fa) →
      ∃ fd : FuncData, (∀ (s : Shared) (u : Value), BindsTo s fd ⟨[u], []⟩ [(x, u)]) ∧ ∀ base : Heap, FnG l.prog w (K w.params) mg base k fa fd [x] (sp (K w.params)))
    (want : ∀ (K : PySem.W.Frag) (H : Hp) (a : Addr) (ns : List Int), ns.length ≤ n → SqL K H a (ns.map V.int) → sp K [.ref a] H (fun v _ => v = .bl true) fun _ _ _ => False) :
    PySem.W.WalkO q loose XP YP l.row.toRowW d [] (fun f vs => PySem.call f vs) := by
  refine Att.attach_call hn nodef ?_
  intro w s₀ s mg mb fa o pm cd doc a vs ns G Y ho hd hcd hmg hobj hints hlen hg
  have inK := hY w _ Y
  obtain ⟨fd, bd, hF⟩ := F w mg fa _ inK G.T.g hmg
  have rel := vals_ints hints
  have len : vs.length = ns.length := hints.length
  rcases lk : (K w.params).lookup a with _ | o1
  · let H : Hp := fun b => if b = a then some (.frz { cls := .type "list", data := .seq vs.toArray } (.lst (ns.map V.int))) else none
    have at_a : H a = some (.frz { cls := .type "list", data := .seq vs.toArray } (.lst (ns.map V.int))) := if_pos rfl
    have only : ∀ b u, H b = some u → b = a ∧ u = .frz { cls := .type "list", data := .seq vs.toArray } (.lst (ns.map V.int)) := by
      intro b u z
      by_cases e : b = a
      · subst e
        rw [at_a] at z
        injection z with z
        exact ⟨rfl, z.symm⟩
      · have z2 : H b = none := if_neg e
        rw [z2] at z
        cases z
    refine lawG_from (H := H) inK G.T.g G.T.b G.T.builtins G.T.nolimit hg hobj ⟨_, _, rfl⟩ ?_ ?_ rm hF bd (want _ _ _ _ hlen (.inl (.inr ⟨_, at_a⟩)))
    · intro b u z
      obtain ⟨rfl, rfl⟩ := only b u z
      exact ⟨hobj, by rw [List.length_map]; omega, vs, _, rel, hobj⟩
    · intro b u z
      obtain ⟨rfl, rfl⟩ := only b u z
      exact ⟨rfl, lk, _, rfl⟩
  · have g := inK a o1 lk
    rw [hobj] at g
    injection g with g
    subst g
    refine lawG_from (H := fun _ => none) inK G.T.g G.T.b G.T.builtins G.T.nolimit hg hobj ⟨_, _, rfl⟩ ?_ ?_ rm hF bd (want _ _ _ _ hlen (.inr ⟨_, vs.toArray, _, lk, rfl, rfl, rfl, ?_, ?_⟩))
    · intro b u z
      cases z
    · intro b u z
      cases z
    · rw [List.size_toArray]
      omega
    · rw [List.toList_toArray]
      exact rel
theorem rm_caller {k : Nat} (h1 : callerA.depth + 3 * k + 5 < recursionLimit) (h2 : callerA.units + 16 * k + 200 < cLine) : Rm k callerA := ⟨⟨rfl, h1, h2⟩, rfl⟩
end
end Tw

namespace Tw
open PySem PySem.Spec PyProof.Rows L2
/-! ### an own error class over ValueError whose __init__ says super().__init__(text), then stores its arguments -/
structure SupAt (prog : Program) (K : PySem.W.Frag) (C : Addr) (st : Stmt) (qual : Str) (fI cc cda : Addr) : Prop where
  oex : OexC K C
  sup0 : PySem.W.nsIn K mainGlobals "super" = some none
  init : PySem.W.findIn K (.ref C) "__init__" = some (some (.ref fI))
  fn : ∃ (od an : Option Addr) (osl : Array (Option Value)) (kV doc pm ct : Value), K.lookup fI = some ⟨.type "function", od, .func (PySem.W.ksFn "__init__" qual (C8.fnArgs st) (C8.fnBody st) (C8.fnScope st) .none kV doc pm an (.ref cda) ct cc), osl⟩
  cd : PySem.W.codeIn K (.ref cda) qual = true
  code : ∃ (ccl : Value) (cdd : Option Addr) (vs : Array Value) (ccs : Array (Option Value)) (file : Str) (tf : Tok), K.lookup cda = some ⟨ccl, cdd, .fields vs, ccs⟩ ∧ vs[2]? = some (.str file tf) ∧ ((prog.main.file : Str) == file) = true
  cell : ∃ (cl : Value) (cld : Option Addr) (csl : Array (Option Value)), K.lookup cc = some ⟨cl, cld, .cell (some (.ref C)), csl⟩
  top : (prog.main.scope.names.lookup ("super" : Str)).isSome = false
  sup : PySem.W.ks_superIn K C C "__init__" = some (some (.builtin "ValueError.__init__"))
  isV : PySem.W.subIn K (.ref C) (.type "ValueError") = some true
  me : PySem.W.mroIn K C (.ref C) = some true
  opq : PySem.W.nsIn K cStatics "thirdparty.any" = some none
section
open PySem.W
variable {prog : Program} {w : World} {K : PySem.W.Frag} {mg mb : Str → Option Value} {C fI cc cda x t0 L : Addr} {st : Stmt} {qual : Str} {A : Around} {E : Value → Shared → Prop} {h : Heap} {g : Array GenState} {d : Drawn} {t : Nat} {os : OsState} {m : Str → Option Value} {body : List Stmt}
theorem sup_first {pl : Sem Bool} {z : Str} {kk : Nat} {p0 p1 p2 p3 p4 p5 : Pos} {ar : Arg} {Q : Flow → Shared → Prop} (S : SupAt prog K C st qual fI cc cda) (hK : K.In h) (hm : h.Ns mainGlobals mg) (hb : h.Ns builtinsNs mb) (hbb : ∀ x : Str, x ≠ "__name__" → mb x = bootBuiltins x)
    (hx : h.get? x = some (HandSPX.excO C t0)) (hL : h.Ns L m) (hself : m ar.arg = some (.ref x)) (hp : ((C8.fnArgs st).posonlyargs ++ (C8.fnArgs st).args).head? = some ar)
    (ks : (C8.fnScope st).names.lookup ("super" : Str) = some .globalImplicit) (kc : (C8.fnScope st).names.lookup ("__class__" : Str) = some .free) (ka : (C8.fnScope st).names.lookup ar.arg = some .local) (kk0 : (C8.fnScope st).kind = .function)
    (hi : interactive (ksEnv qual (C8.fnScope st) L fI (.ref cda) cc) = false)
    (he : eval (.Call (.Attribute (.Call (.Name "super" p0) [] [] p1) "__init__" p2) [.Constant (.str z) kk p3] [] p4) (ksEnv qual (C8.fnScope st) L fI (.ref cda) cc) = (do
      let ov ← attributeBase (.Call (.Name "super" p0) [] [] p1) "__init__" (ksEnv qual (C8.fnScope st) L fI (.ref cda) cc) (eval (.Call (.Name "super" p0) [] [] p1) (ksEnv qual (C8.fnScope st) L fI (.ref cda) cc))
      standAt p2.atName
      let (f, first) ← holding [ov] (getMethod ov "__init__" pl)
      callWith p4 f first (backTo p4 (starEach [.Constant (.str z) kk p3] (ksEnv qual (C8.fnScope st) L fI (.ref cda) cc))) []))
    (hq : ∀ (h' : Heap) (t1 : Addr) (tk : Nat), (∀ b o, b ≠ x → h.get? b = some o → h'.get? b = some o) → h'.get? x = some (HandSPX.excO C t1) → Q .next ⟨h', g, d, tk, os⟩) :
    PySem.wpAt (model prog w) A (.func body (ksEnv qual (C8.fnScope st) L fI (.ref cda) cc)) (exec (.Expr (.Call (.Attribute (.Call (.Name "super" p0) [] [] p1) "__init__" p2) [.Constant (.str z) kk p3] [] p4) p5) (ksEnv qual (C8.fnScope st) L fI (.ref cda) cc)) Q E ⟨h, g, d, t, os⟩ := by
  obtain ⟨od, an, osl, kV, doc, pm, ct, lf⟩ := S.fn
  obtain ⟨ccl, cdd, vs, ccs, file, tf, lc, hvs, hfile⟩ := S.code
  obtain ⟨cl, cld, csl, lcell⟩ := S.cell
  obtain ⟨nm, q, N, bs, bm, sn, sub, ab, col, dd, k0, k1, k2, k3, k5, hC, hbm⟩ := S.oex.cls
  have hcl : PySem.W.clsIn K C = some { name := nm, bases := bs, mro := .ref C :: bm, ns := N, qualname := q, hasDict := true, slotNames := sn, subclasses := sub, abstract := ab, collection := col, hasDel := false } := by
    unfold PySem.W.clsIn
    rw [hC] <;> rfl
  have hC2 := hK _ _ hC
  refine ks_wpAt_Expr_any (ks_wpAt_MethodCall (pl := pl) ?_ he) hi
  refine ks_wpAt_super_base (env := ksEnv qual (C8.fnScope st) L fI (.ref cda) cc) ks kc (by decide +kernel) rfl (hK _ _ lf) rfl hp rfl (hK _ _ lc) rfl hvs hfile S.top ?_
  refine ks_loadName_global kk0 ks (Calls.loadGlobal_builtin (env := ksEnv qual (C8.fnScope st) L fI (.ref cda) cc) hm (mg_none_of hK hm S.sup0) hb ((hbb _ (by decide +kernel)).trans (show bootBuiltins "super" = some (.type "super") by boot_by_name)) ⟨rfl, ?_⟩)
  refine wpAny_loadName_free kk0 kc rfl ⟨_, hK _ _ lcell, rfl⟩ ?_
  refine wpAny_loadName_local kk0 ka hL hself ?_
  refine ks_wpAny_isType_cls hC2 rfl ⟨rfl, ?_⟩
  refine ks_wpAny_call_super hC2 rfl hx rfl (fun c e => by cases e) (looks_mroIn hK S.me) (fun h1 so keep1 => ?_)
  have K1 : K.In h1 := hK.keeps keep1
  have x1 := keep1 _ _ hx
  have I1 : InstAt h1 x (HandSPX.excO C t0) C none := ⟨x1, rfl, rfl, trivial⟩
  have sup := S.sup
  unfold ks_superIn at sup
  rw [hcl] at sup
  refine kxs_getMethod kxs_ValueError so (looks_opaque K1 S.opq) (l₀ := .ref C :: bm) ((looks_clsIn K1 hcl).andThen .now) rfl K1 sup (I1.type.andThen (looks_subIn K1 S.isV)) (ks_ne K1 I1 hcl) (by decide +kernel) ?_
  have mw : (h1.push (kxs_mw "ValueError.__init__" x)).get? h1.objs.size = some (kxs_mw "ValueError.__init__" x) := Heap.get?_push_at rfl rfl
  have x2 : (h1.push (kxs_mw "ValueError.__init__" x)).get? x = some (HandSPX.excO C t0) := Heap.get?_push_of_some _ x1
  refine kxs_callWith (i := "ValueError.__init__") (x := x) rfl ?_
  refine Calls.evalArgs_plain ?_
  refine spliced_more (env := ksEnv qual (C8.fnScope st) L fI (.ref cda) cc) (e := .Constant (.str z) kk p3) (rest := []) (pos := p4) ?_
  refine wpAny_Constant_str ?_
  refine spliced_none ?_
  refine ⟨mw, ?_⟩
  have C2 : (h1.push (kxs_mw "ValueError.__init__" x)).get? C = _ := Heap.get?_push_of_some _ (K1 _ _ hC)
  refine wpAny_call (codeAny_of_tree ?_)
  show wpAny _ A.in1 (callAny (.ref h1.objs.size) _) _ _ _
  unfold callAny
  refine wpAny_bind (wpAny_load mw ?_)
  dsimp only
  refine KFB.if_so (by decide) ?_
  refine wpAny_bind (check_bound_init F.excBase_ValueError.toExcCallFacts C2 x2 rfl ?_)
  refine wpAny_bind (wpAny_pure (wpAny_pure ?_))
  refine ⟨plainId_quiet F.excBase_ValueError.init.plain _, codeAny_builtin F.excBase_ValueError.initEntry ?_⟩
  refine exc_init_tree (cls := .ref C) (t0 := t0) (dv := none) (c2 := .none) (c3 := .none) (b4 := .bool false) x2 (by show 1 ≤ sizeLine; decide) fun h3 keep3 hx3 _ => ?_
  exact hq h3 _ _ (fun b o nb hbo => keep3 b o nb (Heap.get?_push_of_some _ (keep1 b o hbo))) hx3
theorem ns_ne {v : Array Value} {o : Obj} (hL : h.Ns L m) (hx : h.get? x = some o) (hd : o.data = .fields v) : L ≠ x := by
  rintro rfl
  obtain ⟨o2, es, ep, h1, h2, _⟩ := hL
  rw [hx] at h1
  injection h1 with h1
  subst h1
  rw [hd] at h2
  cases h2
theorem ns_keep {h' : Heap} (hL : h.Ns L m) (k : ∀ b o, b ≠ x → h.get? b = some o → h'.get? b = some o) (ne : L ≠ x) : h'.Ns L m := by
  obtain ⟨o2, es, ep, h1, h2, h3⟩ := hL
  exact ⟨o2, es, ep, k _ _ ne h1, h2, h3⟩
theorem kin_keep {h' : Heap} (hK : K.In h) (k : ∀ b o, b ≠ x → h.get? b = some o → h'.get? b = some o) (no : K.lookup x = none) : K.In h' := by
  intro b o e
  refine k b o ?_ (hK b o e)
  rintro rfl
  rw [no] at e
  cases e
/-- self.f = y, the first -/
theorem st_first {t1 : Addr} {f self y : Str} {v : Value} {pa pb pc pd : Pos} {Q : Flow → Shared → Prop} {sc : Scope} (T : OexC K C) (hK : K.In h) (hx : h.get? x = some (HandSPX.excO C t1)) (hL : h.Ns L m) (hself : m self = some (.ref x)) (hv : m y = some v)
    (kk0 : sc.kind = .function) (ka : sc.names.lookup self = some .local) (ky : sc.names.lookup y = some .local) (hno : PySem.W.findIn K (.ref C) f = some none) (d1 : (self == ("__debug__" : Str)) = false) (d2 : (y == ("__debug__" : Str)) = false)
    (hs : swapsWith (.Name y pc) (some (.Attribute (.Name self pa) f pb)) pd.line (ksEnv qual sc L fI (.ref cda) cc) = pure false)
    (hq : ∀ (h' : Heap) (tk : Nat) (dx : Addr), (∀ b o, b ≠ x → h.get? b = some o → h'.get? b = some o) → h.objs.size ≤ dx → dx ≠ x → h'.get? x = some { cls := .ref C, dict := some dx, data := .fields #[.ref t1, .none, .none, .none, .bool false, .none] } →
      h'.Ns1 dx (fun z => if z = f then some v else none) → Q .next ⟨h', g, d, tk, os⟩) :
    PySem.wpAt (model prog w) A (.func body (ksEnv qual sc L fI (.ref cda) cc)) (exec (.Assign [.Attribute (.Name self pa) f pb] (.Name y pc) pd) (ksEnv qual sc L fI (.ref cda) cc)) Q E ⟨h, g, d, t, os⟩ := by
  obtain ⟨nm, q, N, bs, bm, sn, sub, ab, col, dd, k0, k1, k2, k3, k5, hC, hbm⟩ := T.cls
  have hcl : PySem.W.clsIn K C = some { name := nm, bases := bs, mro := .ref C :: bm, ns := N, qualname := q, hasDict := true, slotNames := sn, subclasses := sub, abstract := ab, collection := col, hasDel := false } := by
    unfold PySem.W.clsIn
    rw [hC] <;> rfl
  refine ks_wpAt_Assign_Attr (wpAt_of_wpAny ?_) hs
  refine wpAny_Name (wpAny_loadName_local kk0 ky hL hv ?_) d2
  refine wpAny_Name (wpAny_loadName_local kk0 ka hL hself ?_) d1
  refine PySem.W.set_plain hK (ox := HandSPX.excO C t1) (od := none) ⟨hx, rfl, rfl, trivial⟩ T.sa ?_
  refine HandSPX.exc_osa hK hx hcl (show HandSPX.refsVE (.ref C :: bm) = true from hbm) rfl hno ?_
  intro h' tk' dx k dn dne hx' hn
  exact hq h' tk' dx k dn dne hx' hn
/-- self.f = y, a further one -/
theorem st_next {t1 dx : Addr} {f self y : Str} {v : Value} {pa pb pc pd : Pos} {m0 : Str → Option Value} {nl : List Str} {Q : Flow → Shared → Prop} {sc : Scope} (T : OexC K C) (hK : K.In h)
    (hx : h.get? x = some { cls := .ref C, dict := some dx, data := .fields #[.ref t1, .none, .none, .none, .bool false, .none] }) (hns : h.Ns1 dx m0) (hw : Within m0 nl) (hz : nl.length ≤ 1000) (hL : h.Ns L m) (hself : m self = some (.ref x)) (hv : m y = some v)
    (kk0 : sc.kind = .function) (ka : sc.names.lookup self = some .local) (ky : sc.names.lookup y = some .local) (hno : PySem.W.findIn K (.ref C) f = some none) (d1 : (self == ("__debug__" : Str)) = false) (d2 : (y == ("__debug__" : Str)) = false)
    (hs : swapsWith (.Name y pc) (some (.Attribute (.Name self pa) f pb)) pd.line (ksEnv qual sc L fI (.ref cda) cc) = pure false)
    (hq : ∀ (h' : Heap) (tk : Nat), (∀ b o, b ≠ dx → h.get? b = some o → h'.get? b = some o) → h'.Ns1 dx (fun z => if z = f then some v else m0 z) → Q .next ⟨h', g, d, tk, os⟩) :
    PySem.wpAt (model prog w) A (.func body (ksEnv qual sc L fI (.ref cda) cc)) (exec (.Assign [.Attribute (.Name self pa) f pb] (.Name y pc) pd) (ksEnv qual sc L fI (.ref cda) cc)) Q E ⟨h, g, d, t, os⟩ := by
  obtain ⟨nm, q, N, bs, bm, sn, sub, ab, col, dd, k0, k1, k2, k3, k5, hC, hbm⟩ := T.cls
  have hcl : PySem.W.clsIn K C = some { name := nm, bases := bs, mro := .ref C :: bm, ns := N, qualname := q, hasDict := true, slotNames := sn, subclasses := sub, abstract := ab, collection := col, hasDel := false } := by
    unfold PySem.W.clsIn
    rw [hC] <;> rfl
  obtain ⟨oD, _, _, hoD, _, _⟩ := hns.count hw
  refine ks_wpAt_Assign_Attr (wpAt_of_wpAny ?_) hs
  refine wpAny_Name (wpAny_loadName_local kk0 ky hL hv ?_) d2
  refine wpAny_Name (wpAny_loadName_local kk0 ka hL hself ?_) d1
  refine PySem.W.set_plain hK (ox := { cls := .ref C, dict := some dx, data := .fields #[.ref t1, .none, .none, .none, .bool false, .none] }) (od := some oD) ⟨hx, rfl, rfl, hoD⟩ T.sa ?_
  refine OEX.osa_old hK hx hns hw hz hcl (show HandSPX.refsVE (.ref C :: bm) = true from hbm) rfl hno ?_
  intro h' tk' k hn
  exact hq h' tk' k hn
/-- the statement super().__init__(z) -/
abbrev supSt (z : Str) (kk : Nat) (p0 p1 p2 p3 p4 p5 : Pos) : Stmt := .Expr (.Call (.Attribute (.Call (.Name "super" p0) [] [] p1) "__init__" p2) [.Constant (.str z) kk p3] [] p4) p5
/-- the statement self.f = y -/
abbrev selfSt (self f y : Str) (pa pb pc pd : Pos) : Stmt := .Assign [.Attribute (.Name self pa) f pb] (.Name y pc) pd
/-- what the text of such an __init__ says, at every frame -/
structure SupTx (st : Stmt) (qual : Str) (ar : Arg) (fI cda cc : Addr) (z : Str) (kk : Nat) (p0 p1 p2 p3 p4 : Pos) : Prop where
  hp : ((C8.fnArgs st).posonlyargs ++ (C8.fnArgs st).args).head? = some ar
  ks : (C8.fnScope st).names.lookup ("super" : Str) = some .globalImplicit
  kc : (C8.fnScope st).names.lookup ("__class__" : Str) = some .free
  ka : (C8.fnScope st).names.lookup ar.arg = some .local
  kd : (ar.arg == ("__debug__" : Str)) = false
  k0 : (C8.fnScope st).kind = .function
  co : (C8.fnScope st).isCoroutine = false
  gen : (C8.fnScope st).isGenerator = false
  nocell : ∀ x ∈ (C8.fnScope st).names, x.2 ≠ .cell
  hi : ∀ L, interactive (ksEnv qual (C8.fnScope st) L fI (.ref cda) cc) = false
  he : ∀ L : Addr, ∃ pl : Sem Bool, eval (.Call (.Attribute (.Call (.Name "super" p0) [] [] p1) "__init__" p2) [.Constant (.str z) kk p3] [] p4) (ksEnv qual (C8.fnScope st) L fI (.ref cda) cc) = (do
      let ov ← attributeBase (.Call (.Name "super" p0) [] [] p1) "__init__" (ksEnv qual (C8.fnScope st) L fI (.ref cda) cc) (eval (.Call (.Name "super" p0) [] [] p1) (ksEnv qual (C8.fnScope st) L fI (.ref cda) cc))
      standAt p2.atName
      let (f, first) ← holding [ov] (getMethod ov "__init__" pl)
      callWith p4 f first (backTo p4 (starEach [.Constant (.str z) kk p3] (ksEnv qual (C8.fnScope st) L fI (.ref cda) cc))) [])
  hs : ∀ (L : Addr) (f self y : Str) (pa pb pc pd : Pos), swapsWith (.Name y pc) (some (.Attribute (.Name self pa) f pb)) pd.line (ksEnv qual (C8.fnScope st) L fI (.ref cda) cc) = pure false
/-- the made error: its dict's map -/
def Made (C : Addr) (h : Heap) (x : Addr) (m0 : Str → Option Value) (h' : Heap) : Prop :=
  (∀ b o, b ≠ x → h.get? b = some o → h'.get? b = some o) ∧ ∃ t1 dx : Addr, h.get? dx = none ∧ dx ≠ x ∧ h'.get? x = some { cls := .ref C, dict := some dx, data := .fields #[.ref t1, .none, .none, .none, .bool false, .none] } ∧ h'.Ns1 dx m0
theorem get_above {b : Addr} (hb : h.objs.size ≤ b) : h.get? b = none := by
  cases q : h.get? b with
  | none => rfl
  | some o => exact absurd (Heap.lt_size q) (Nat.not_lt.mpr hb)
theorem init1 {R : Result → Shared → Prop} {ar : Arg} {f y z : Str} {kk : Nat} {p0 p1 p2 p3 p4 p5 pa pb pc pd : Pos} {u : Value} (S : SupAt prog K C st qual fI cc cda) (X : SupTx st qual ar fI cda cc z kk p0 p1 p2 p3 p4) (hbody : C8.fnBody st = [supSt z kk p0 p1 p2 p3 p4 p5, selfSt ar.arg f y pa pb pc pd])
    (hbind : ∀ (kV doc pm : Value) (an : Option Addr) (ct u1 u2 : Value), bindArgs (ksFn "__init__" qual (C8.fnArgs st) (C8.fnBody st) (C8.fnScope st) .none kV doc pm an (.ref cda) ct cc) ⟨[u1, u2], []⟩ = pure [(ar.arg, u1), (y, u2)])
    (ky : (C8.fnScope st).names.lookup y = some .local) (yd : (y == ("__debug__" : Str)) = false) (yne : y ≠ ar.arg) (hno : PySem.W.findIn K (.ref C) f = some none)
    (hroom : A.depth < recursionLimit) (lim : h.NoLimit) (hK : K.In h) (hm : h.Ns mainGlobals mg) (hb : h.Ns builtinsNs mb) (hbb : ∀ x : Str, x ≠ "__name__" → mb x = bootBuiltins x) (hx : h.get? x = some (HandSPX.excO C t0)) (xK : K.lookup x = none)
    (hq : ∀ h' tk, Made C h x (fun z => if z = f then some u else none) h' → R (.ok (.ret .none)) ⟨h', g, d, tk, os⟩) :
    codeAny (model prog w) A (.call (.ref fI) ⟨[.ref x, u], []⟩) R ⟨h, g, d, t, os⟩ := by
  obtain ⟨od, an, osl, kV, doc, pm, ct, lf⟩ := S.fn
  obtain ⟨pl, he⟩ := X.he h.objs.size
  refine ks_codeAny_call_defAt (fd := ksFn "__init__" qual (C8.fnArgs st) (C8.fnBody st) (C8.fnScope st) .none kV doc pm an (.ref cda) ct cc) (body := C8.fnBody st) (binds := [(ar.arg, .ref x), (y, u)]) hroom (hK _ _ lf) rfl lim (codeRec_of hK S.cd) rfl (.of_eq (hbind kV doc pm an ct (.ref x) u)) X.nocell ?_ ?_ X.co X.gen X.k0
  · intro p hp
    simp only [List.mem_cons, List.not_mem_nil, or_false] at hp
    rcases hp with rfl | rfl
    · exact X.ka
    · exact ky
  · intro h0 nsL keep0
    have K0 : K.In h0 := hK.keeps keep0
    have x0 := keep0 _ _ hx
    have nL : h.get? h.objs.size = none := get_above (Nat.le_refl _)
    have mself : (fun q => List.lookup q (List.reverse [(ar.arg, Value.ref x), (y, u)])) ar.arg = some (.ref x) := by
      show List.lookup ar.arg [(y, u), (ar.arg, Value.ref x)] = _
      rw [List.lookup_cons, show (ar.arg == y) = false from beq_eq_false_iff_ne.mpr (Ne.symm yne), List.lookup_cons, beq_self_eq_true]
    have my : (fun q => List.lookup q (List.reverse [(ar.arg, Value.ref x), (y, u)])) y = some u := by
      show List.lookup y [(y, u), (ar.arg, Value.ref x)] = _
      rw [List.lookup_cons, beq_self_eq_true]
    show PySem.wpAt (model prog w) _ (.func (C8.fnBody st) (ksEnv qual (C8.fnScope st) h.objs.size fI (.ref cda) cc)) (execs (C8.fnBody st) (ksEnv qual (C8.fnScope st) h.objs.size fI (.ref cda) cc)) _ _ _
    have eb : execs (C8.fnBody st) (ksEnv qual (C8.fnScope st) h.objs.size fI (.ref cda) cc) = execs [supSt z kk p0 p1 p2 p3 p4 p5, selfSt ar.arg f y pa pb pc pd] (ksEnv qual (C8.fnScope st) h.objs.size fI (.ref cda) cc) := by rw [hbody]
    rw [eb]
    have nex := ns_ne nsL x0 rfl
    refine ks_wpAt_execs_cons (sup_first S K0 (hm.keeps keep0) (hb.keeps keep0) hbb x0 nsL mself X.hp X.ks X.kc X.ka X.k0 (X.hi _) he ?_)
    intro h1 t1 tk1 k1 x1
    have ns1 := ns_keep nsL k1 nex
    refine ks_wpAt_execs_cons (st_first S.oex (kin_keep K0 k1 xK) x1 ns1 mself my X.k0 X.ka ky hno X.kd yd (X.hs _ _ _ _ _ _ _ _) ?_)
    intro h2 tk2 dx k2 dn dne x2 ns2
    refine wpAt_of_wpAny (wpAny_execs_nil ?_)
    have up : ∀ b o, b ≠ x → h.get? b = some o → h2.get? b = some o := fun b o nb e => k2 b o nb (k1 b o nb (keep0 b o e))
    refine hq h2 tk2 ⟨up, t1, dx, ?_, dne, x2, ns2⟩
    cases q : h.get? dx with
    | none => rfl
    | some o => exact absurd (Heap.lt_size (k1 dx o dne (keep0 dx o q))) (Nat.not_lt.mpr dn)
theorem init2 {R : Result → Shared → Prop} {ar : Arg} {f y f2 y2 z : Str} {kk : Nat} {p0 p1 p2 p3 p4 p5 pa pb pc pd qa qb qc qd : Pos} {u u2 : Value} (S : SupAt prog K C st qual fI cc cda) (X : SupTx st qual ar fI cda cc z kk p0 p1 p2 p3 p4)
    (hbody : C8.fnBody st = [supSt z kk p0 p1 p2 p3 p4 p5, selfSt ar.arg f y pa pb pc pd, selfSt ar.arg f2 y2 qa qb qc qd])
    (hbind : ∀ (kV doc pm : Value) (an : Option Addr) (ct u1 u2 u3 : Value), bindArgs (ksFn "__init__" qual (C8.fnArgs st) (C8.fnBody st) (C8.fnScope st) .none kV doc pm an (.ref cda) ct cc) ⟨[u1, u2, u3], []⟩ = pure [(ar.arg, u1), (y, u2), (y2, u3)])
    (ky : (C8.fnScope st).names.lookup y = some .local) (ky2 : (C8.fnScope st).names.lookup y2 = some .local) (yd : (y == ("__debug__" : Str)) = false) (yd2 : (y2 == ("__debug__" : Str)) = false) (yne : y ≠ ar.arg) (yne2 : y2 ≠ ar.arg) (yy : y ≠ y2)
    (hno : PySem.W.findIn K (.ref C) f = some none) (hno2 : PySem.W.findIn K (.ref C) f2 = some none)
    (hroom : A.depth < recursionLimit) (lim : h.NoLimit) (hK : K.In h) (hm : h.Ns mainGlobals mg) (hb : h.Ns builtinsNs mb) (hbb : ∀ x : Str, x ≠ "__name__" → mb x = bootBuiltins x) (hx : h.get? x = some (HandSPX.excO C t0)) (xK : K.lookup x = none)
    (hq : ∀ h' tk, Made C h x (fun z => if z = f2 then some u2 else if z = f then some u else none) h' → R (.ok (.ret .none)) ⟨h', g, d, tk, os⟩) :
    codeAny (model prog w) A (.call (.ref fI) ⟨[.ref x, u, u2], []⟩) R ⟨h, g, d, t, os⟩ := by
  obtain ⟨od, an, osl, kV, doc, pm, ct, lf⟩ := S.fn
  obtain ⟨pl, he⟩ := X.he h.objs.size
  refine ks_codeAny_call_defAt (fd := ksFn "__init__" qual (C8.fnArgs st) (C8.fnBody st) (C8.fnScope st) .none kV doc pm an (.ref cda) ct cc) (body := C8.fnBody st) (binds := [(ar.arg, .ref x), (y, u), (y2, u2)]) hroom (hK _ _ lf) rfl lim (codeRec_of hK S.cd) rfl (.of_eq (hbind kV doc pm an ct (.ref x) u u2)) X.nocell ?_ ?_ X.co X.gen X.k0
  · intro p hp
    simp only [List.mem_cons, List.not_mem_nil, or_false] at hp
    rcases hp with rfl | rfl | rfl
    · exact X.ka
    · exact ky
    · exact ky2
  · intro h0 nsL keep0
    have K0 : K.In h0 := hK.keeps keep0
    have x0 := keep0 _ _ hx
    have mself : (fun q => List.lookup q (List.reverse [(ar.arg, Value.ref x), (y, u), (y2, u2)])) ar.arg = some (.ref x) := by
      show List.lookup ar.arg [(y2, u2), (y, u), (ar.arg, Value.ref x)] = _
      rw [List.lookup_cons, show (ar.arg == y2) = false from beq_eq_false_iff_ne.mpr (Ne.symm yne2), List.lookup_cons, show (ar.arg == y) = false from beq_eq_false_iff_ne.mpr (Ne.symm yne), List.lookup_cons, beq_self_eq_true]
    have my : (fun q => List.lookup q (List.reverse [(ar.arg, Value.ref x), (y, u), (y2, u2)])) y = some u := by
      show List.lookup y [(y2, u2), (y, u), (ar.arg, Value.ref x)] = _
      rw [List.lookup_cons, show (y == y2) = false from beq_eq_false_iff_ne.mpr yy, List.lookup_cons, beq_self_eq_true]
    have my2 : (fun q => List.lookup q (List.reverse [(ar.arg, Value.ref x), (y, u), (y2, u2)])) y2 = some u2 := by
      show List.lookup y2 [(y2, u2), (y, u), (ar.arg, Value.ref x)] = _
      rw [List.lookup_cons, beq_self_eq_true]
    show PySem.wpAt (model prog w) _ (.func (C8.fnBody st) (ksEnv qual (C8.fnScope st) h.objs.size fI (.ref cda) cc)) (execs (C8.fnBody st) (ksEnv qual (C8.fnScope st) h.objs.size fI (.ref cda) cc)) _ _ _
    have eb : execs (C8.fnBody st) (ksEnv qual (C8.fnScope st) h.objs.size fI (.ref cda) cc) = execs [supSt z kk p0 p1 p2 p3 p4 p5, selfSt ar.arg f y pa pb pc pd, selfSt ar.arg f2 y2 qa qb qc qd] (ksEnv qual (C8.fnScope st) h.objs.size fI (.ref cda) cc) := by rw [hbody]
    rw [eb]
    have nex := ns_ne nsL x0 rfl
    refine ks_wpAt_execs_cons (sup_first S K0 (hm.keeps keep0) (hb.keeps keep0) hbb x0 nsL mself X.hp X.ks X.kc X.ka X.k0 (X.hi _) he ?_)
    intro h1 t1 tk1 k1 x1
    have ns1 := ns_keep nsL k1 nex
    have K1 := kin_keep K0 k1 xK
    refine ks_wpAt_execs_cons (st_first S.oex K1 x1 ns1 mself my X.k0 X.ka ky hno X.kd yd (X.hs _ _ _ _ _ _ _ _) ?_)
    intro h2 tk2 dx k2 dn dne x2 ns2
    have none1 : h1.get? dx = none := get_above dn
    have K2 := kin_keep K1 k2 xK
    have nd : h.objs.size ≠ dx := by
      rintro rfl
      obtain ⟨o, es, ep, e, _⟩ := ns1
      rw [none1] at e
      cases e
    refine ks_wpAt_execs_cons (st_next S.oex K2 x2 ns2 (Within.cons f u Within.nil) (by show 1 ≤ 1000; decide) (ns_keep ns1 k2 nex) mself my2 X.k0 X.ka ky2 hno2 X.kd yd2 (X.hs _ _ _ _ _ _ _ _) ?_)
    intro h3 tk3 k3 ns3
    refine wpAt_of_wpAny (wpAny_execs_nil ?_)
    have nodx : ∀ b o, h.get? b = some o → b ≠ x → b ≠ dx := by
      rintro b o e nb rfl
      have e1 := k1 b o nb (keep0 b o e)
      rw [none1] at e1
      cases e1
    have up : ∀ b o, b ≠ x → h.get? b = some o → h3.get? b = some o := fun b o nb e => k3 b o (nodx b o e nb) (k2 b o nb (k1 b o nb (keep0 b o e)))
    refine hq h3 tk3 ⟨up, t1, dx, ?_, dne, k3 _ _ (Ne.symm dne) x2, ns3⟩
    cases q : h.get? dx with
    | none => rfl
    | some o => exact absurd rfl (nodx dx o q dne)
/-- the call of such a class: a new error a, its fields in the dict at dx -/
def XCall (P : Program) (K : PySem.W.Frag) (C : Addr) (fs : List Str) : Prop := ∀ (w : World) (mg mb : Str → Option Value) (A : Around) (R : Result → Shared → Prop) (h : Heap) (g : Array GenState) (d : Drawn) (t : Nat) (os : OsState) (us : List Value),
  us.length = fs.length → Room 1 A → h.NoLimit → K.In h → h.Ns mainGlobals mg → h.Ns builtinsNs mb → (∀ x : Str, x ≠ "__name__" → mb x = bootBuiltins x) →
  (∀ (h' : Heap) (tk : Nat) (a dx t1 : Addr), (∀ b o, h.get? b = some o → h'.get? b = some o) → h.get? a = none → h.get? dx = none → dx ≠ a → h'.get? a = some { cls := .ref C, dict := some dx, data := .fields #[.ref t1, .none, .none, .none, .bool false, .none] } →
    h'.Ns1 dx (fun z => List.lookup z (fs.zip us)) → R (.ok (.ret (.ref a))) ⟨h', g, d, tk, os⟩) →
  codeAny (model P w) A (.call (.ref C) ⟨us, []⟩) R ⟨h, g, d, t, os⟩
theorem made_up {R : Result → Shared → Prop} {us : List Value} {m0 : Str → Option Value} {h' : Heap} {tk : Nat} (hM : Made C ((h.push (kdv_tup us)).push (HandSPX.excO C h.objs.size)) (h.objs.size + 1) m0 h')
    (hR : ∀ (a dx t1 : Addr), (∀ b o, h.get? b = some o → h'.get? b = some o) → h.get? a = none → h.get? dx = none → dx ≠ a → h'.get? a = some { cls := .ref C, dict := some dx, data := .fields #[.ref t1, .none, .none, .none, .bool false, .none] } → h'.Ns1 dx m0 → R (.ok (.ret (.ref a))) ⟨h', g, d, tk, os⟩) :
    R (.ok (.ret (.ref (h.objs.size + 1)))) ⟨h', g, d, tk, os⟩ := by
  obtain ⟨k, t1, dx, n1, n2, e1, e2⟩ := hM
  have up : ∀ b o, h.get? b = some o → ((h.push (kdv_tup us)).push (HandSPX.excO C h.objs.size)).get? b = some o := fun b o e => Heap.get?_push_of_some _ (Heap.get?_push_of_some _ e)
  refine hR _ dx t1 (fun b o e => k b o ?_ (up b o e)) (get_above (Nat.le_succ _)) ?_ n2 e1 e2
  · rintro rfl
    exact absurd (Heap.lt_size e) (Nat.not_lt.mpr (Nat.le_succ _))
  · cases q : h.get? dx with
    | none => rfl
    | some o =>
      have z := up dx o q
      rw [n1] at z
      cases z
theorem xcall1 {ar : Arg} {f y z : Str} {kk : Nat} {p0 p1 p2 p3 p4 p5 pa pb pc pd : Pos} (S : SupAt prog K C st qual fI cc cda) (X : SupTx st qual ar fI cda cc z kk p0 p1 p2 p3 p4) (hbody : C8.fnBody st = [supSt z kk p0 p1 p2 p3 p4 p5, selfSt ar.arg f y pa pb pc pd])
    (hbind : ∀ (kV doc pm : Value) (an : Option Addr) (ct u1 u2 : Value), bindArgs (ksFn "__init__" qual (C8.fnArgs st) (C8.fnBody st) (C8.fnScope st) .none kV doc pm an (.ref cda) ct cc) ⟨[u1, u2], []⟩ = pure [(ar.arg, u1), (y, u2)])
    (ky : (C8.fnScope st).names.lookup y = some .local) (yd : (y == ("__debug__" : Str)) = false) (yne : y ≠ ar.arg) (hno : PySem.W.findIn K (.ref C) f = some none) : XCall prog K C [f] := by
  intro w mg mb A R h g d t os us hl rm lim hK hm hb hbb hR
  match us, hl with
  | [u], _ =>
    obtain ⟨nm, q, N, bs, bm, sn, sub, ab, col, dd, k0, k1, k2, k3, k5, hC, hbm⟩ := S.oex.cls
    obtain ⟨od, an, osl, kV, doc, pm, ct, lf⟩ := S.fn
    have up : ∀ b o, h.get? b = some o → ((h.push (kdv_tup [u])).push (HandSPX.excO C h.objs.size)).get? b = some o := fun b o e => Heap.get?_push_of_some _ (Heap.get?_push_of_some _ e)
    have hget : ((h.push (kdv_tup [u])).push (HandSPX.excO C h.objs.size)).get? (h.objs.size + 1) = some (HandSPX.excO C h.objs.size) := by heap_get
    have xK : K.lookup (h.objs.size + 1) = none := by
      cases q : K.lookup (h.objs.size + 1) with
      | none => rfl
      | some o => exact absurd (Heap.lt_size (hK _ _ q)) (Nat.not_lt.mpr (Nat.le_succ _))
    refine HandSPX.call_own F.excBase_ValueError (fun Y => HandSPX.refsVE_contains Y bm hbm) (hK _ _ hC) (looks_findIn hK S.init) (fun self => exc_bind (hK _ _ lf) rfl self) (by show 1 ≤ sizeLine; decide) ?_
    refine init1 S X hbody hbind ky yd yne hno (rm.make C [u] []).depth (lim.keeps up) (hK.keeps up) (hm.keeps up) (hb.keeps up) hbb hget xK ?_
    intro h' tk hM
    refine ⟨rfl, made_up hM fun a dx t1 r1 r2 r3 r4 r5 r6 => hR h' tk a dx t1 r1 r2 r3 r4 r5 ?_⟩
    have em : (fun z => List.lookup z (List.zip [f] [u])) = fun z => if z = f then some u else none := by
      funext z
      show List.lookup z [(f, u)] = _
      rw [List.lookup_cons]
      by_cases e : z = f
      · rw [if_pos e, show (z == f) = true from beq_iff_eq.mpr e]
      · rw [if_neg e, show (z == f) = false from beq_eq_false_iff_ne.mpr e]
        rfl
    rw [em]
    exact r6
theorem xcall2 {ar : Arg} {f y f2 y2 z : Str} {kk : Nat} {p0 p1 p2 p3 p4 p5 pa pb pc pd qa qb qc qd : Pos} (S : SupAt prog K C st qual fI cc cda) (X : SupTx st qual ar fI cda cc z kk p0 p1 p2 p3 p4)
    (hbody : C8.fnBody st = [supSt z kk p0 p1 p2 p3 p4 p5, selfSt ar.arg f y pa pb pc pd, selfSt ar.arg f2 y2 qa qb qc qd])
    (hbind : ∀ (kV doc pm : Value) (an : Option Addr) (ct u1 u2 u3 : Value), bindArgs (ksFn "__init__" qual (C8.fnArgs st) (C8.fnBody st) (C8.fnScope st) .none kV doc pm an (.ref cda) ct cc) ⟨[u1, u2, u3], []⟩ = pure [(ar.arg, u1), (y, u2), (y2, u3)])
    (ky : (C8.fnScope st).names.lookup y = some .local) (ky2 : (C8.fnScope st).names.lookup y2 = some .local) (yd : (y == ("__debug__" : Str)) = false) (yd2 : (y2 == ("__debug__" : Str)) = false) (yne : y ≠ ar.arg) (yne2 : y2 ≠ ar.arg) (yy : y ≠ y2) (ff : f ≠ f2)
    (hno : PySem.W.findIn K (.ref C) f = some none) (hno2 : PySem.W.findIn K (.ref C) f2 = some none) : XCall prog K C [f, f2] := by
  intro w mg mb A R h g d t os us hl rm lim hK hm hb hbb hR
  match us, hl with
  | [u, u2], _ =>
    obtain ⟨nm, q, N, bs, bm, sn, sub, ab, col, dd, k0, k1, k2, k3, k5, hC, hbm⟩ := S.oex.cls
    obtain ⟨od, an, osl, kV, doc, pm, ct, lf⟩ := S.fn
    have up : ∀ b o, h.get? b = some o → ((h.push (kdv_tup [u, u2])).push (HandSPX.excO C h.objs.size)).get? b = some o := fun b o e => Heap.get?_push_of_some _ (Heap.get?_push_of_some _ e)
    have hget : ((h.push (kdv_tup [u, u2])).push (HandSPX.excO C h.objs.size)).get? (h.objs.size + 1) = some (HandSPX.excO C h.objs.size) := by heap_get
    have xK : K.lookup (h.objs.size + 1) = none := by
      cases q : K.lookup (h.objs.size + 1) with
      | none => rfl
      | some o => exact absurd (Heap.lt_size (hK _ _ q)) (Nat.not_lt.mpr (Nat.le_succ _))
    refine HandSPX.call_own F.excBase_ValueError (fun Y => HandSPX.refsVE_contains Y bm hbm) (hK _ _ hC) (looks_findIn hK S.init) (fun self => exc_bind (hK _ _ lf) rfl self) (by show 2 ≤ sizeLine; decide) ?_
    refine init2 S X hbody hbind ky ky2 yd yd2 yne yne2 yy hno hno2 (rm.make C [u, u2] []).depth (lim.keeps up) (hK.keeps up) (hm.keeps up) (hb.keeps up) hbb hget xK ?_
    intro h' tk hM
    refine ⟨rfl, made_up hM fun a dx t1 r1 r2 r3 r4 r5 r6 => hR h' tk a dx t1 r1 r2 r3 r4 r5 ?_⟩
    have em : (fun z => List.lookup z (List.zip [f, f2] [u, u2])) = fun z => if z = f2 then some u2 else if z = f then some u else none := by
      funext z
      show List.lookup z [(f, u), (f2, u2)] = _
      rw [List.lookup_cons]
      by_cases e : z = f
      · have e2 : z ≠ f2 := by rw [e]; exact ff
        rw [if_neg e2, if_pos e, show (z == f) = true from beq_iff_eq.mpr e]
      · rw [show (z == f) = false from beq_eq_false_iff_ne.mpr e, List.lookup_cons]
        by_cases e2 : z = f2
        · rw [if_pos e2, show (z == f2) = true from beq_iff_eq.mpr e2]
        · rw [if_neg e2, if_neg e, show (z == f2) = false from beq_eq_false_iff_ne.mpr e2]
          rfl
    rw [em]
    exact r6
end
theorem relO_zip : ∀ {fs : List Str} {vs : List V} {us : List Value}, Vals vs us → ∀ f : Str, RelO (List.lookup f (fs.zip vs)) (List.lookup f (fs.zip us))
  | [], _, _, _, f => by rw [List.zip_nil_left, List.zip_nil_left]; exact True.intro
  | _ :: _, _, _, .nil, f => by rw [List.zip_nil_right, List.zip_nil_right]; exact True.intro
  | g :: fs, _, _, .cons r rr, f => by
    rw [List.zip_cons_cons, List.zip_cons_cons, List.lookup_cons, List.lookup_cons]
    cases f == g with
    | true => exact r
    | false => exact relO_zip rr f
/-- an error of the class at C, its dict at d; whether it was raised is not said -/
def exV (C a d : Addr) : HO := .ext fun h => ∃ (oe : Obj) (vs : Array Value), h.get? a = some oe ∧ Zc (.ref C) (some d) oe ∧ oe.data = .fields vs
theorem exV_ok {P : Program} {w : World} {H : Hp} {h : Heap} {C a d : Addr} {oe : Obj} {vs : Array Value} (e : h.get? a = some oe) (z : Zc (.ref C) (some d) oe) (hd : oe.data = .fields vs) : ObjOk P w H h a (exV C a d) :=
  ⟨⟨oe, vs, e, z, hd⟩, ⟨oe, e⟩, fun h1 h2 ⟨oe, vs, e, z, hd⟩ k => ⟨oe, vs, k oe e, z, hd⟩⟩
theorem exV_at {P : Program} {w : World} {H : Hp} {h : Heap} {C a d : Addr} (ok : HOk P w H h) (e : H a = some (exV C a d)) : ∃ (oe : Obj) (vs : Array Value), h.get? a = some oe ∧ Zc (.ref C) (some d) oe ∧ oe.data = .fields vs := by
  obtain ⟨x, _, _⟩ := ok a _ e
  exact x
section
variable {X : Cx} {pins : List (Addr × Obj)} {σ : L2.St} {H : Hp} {s : Shared} {C : Addr} {fs : List Str} {vs : List V} {us : List Value}
theorem xnew {Q : Value → Shared → Prop} {E : Value → Shared → Prop} (hX : XCall X.prog X.K C fs) (rm : Room 1 X.A) (I : Inv X pins σ H s) (r : Vals vs us) (hl : vs.length = fs.length)
    (hq : ∀ (a dx t1 : Addr) (G : Heap) (s' : Shared), Inv X pins σ (upd H dx (.xd (fs.zip vs))) { s' with heap := G } → (∀ b o, G.get? b = some o → s'.heap.get? b = some o) → G.get? a = none → H a = none → H dx = none → dx ≠ a →
      s'.heap.get? a = some { cls := .ref C, dict := some dx, data := .fields #[.ref t1, .none, .none, .none, .bool false, .none] } → AllBare s'.gens → Q (.ref a) s') : wpAny (model X.prog X.w) X.A (call (.ref C) us) Q E s := by
  obtain ⟨hp, g, d, t, os⟩ := s
  obtain ⟨mb, hb, hbb⟩ := I.mod.blt
  refine wpAny_call (hX X.w X.mg mb X.A _ hp g d t os us (by rw [← hl]; exact (Paired.length r).symm) rm I.nolimit I.kIn (I.mod.glob.keeps I.bk) (hb.keeps I.bk) hbb ?_)
  intro h' tk a dx t1 k na nd ne ha hn
  obtain ⟨G, g1, g2⟩ := restrict h' fun b => decide (b ≠ a)
  have gk : ∀ b, b ≠ a → G.get? b = h'.get? b := fun b hb => g1 b (decide_eq_true hb)
  have ga : G.get? a = none := g2 a (by simp)
  have Ha : H a = none := I.hok.gone na
  have Hd : H dx = none := I.hok.gone nd
  have kG : ∀ b o, hp.get? b = some o → G.get? b = some o := fun b o e => by
    have nb : b ≠ a := by
      rintro rfl
      rw [na] at e
      cases e
    rw [gk b nb]
    exact k b o e
  have J : Inv X pins σ (upd H dx (.xd (fs.zip vs))) ⟨G, g, d, tk, os⟩ := by
    refine Inv.laidN (t' := tk) (h' := G) I kG nd Hd ?_
    obtain ⟨o, es, ep, e1, r1⟩ := hn
    exact ⟨_, ⟨o, es, ep, by rw [gk dx ne]; exact e1, r1⟩, relO_zip r⟩
  refine hq a dx t1 G ⟨h', g, d, tk, os⟩ J (fun b o e => ?_) ga Ha Hd ne ha I.bare
  have nb : b ≠ a := by
    rintro rfl
    rw [ga] at e
    cases e
  rw [← gk b nb]
  exact e
/-- C(e, ..) that is raised -/
def tXr (C : Addr) (fs : List Str) (ta : TA) : L2.St → Hp → XK → Prop := fun σ H Q => ta σ H fun vs H1 => vs.length = fs.length ∧ ∀ dx, H1 dx = none → Q (.ref C) (some dx) (upd H1 dx (.xd (fs.zip vs)))
/-- C(e, ..) as a value -/
def tXv (C : Addr) (fs : List Str) (ta : TA) : TE := fun σ H Q => ta σ H fun vs H1 => vs.length = fs.length ∧ ∀ a dx, H1 a = none → H1 dx = none → dx ≠ a → Q (.ref a) (upd (upd H1 dx (.xd (fs.zip vs))) a (exV C a dx))
variable {x : Str} {e : Expr} {es : List Expr} {ta : TA} {p pos : Pos}
theorem pmk_x {k : Nat} (hX : XCall X.prog X.K C fs) (T : OexC X.K C) (hr : Rm (k + 1) X.A) (hg : Gl X x) (hm : X.mg x = some (.ref C)) (ha : PA X (e :: es) ta)
    (hdb : (x == ("__debug__" : Str)) = false := by decide) (he : starEach (e :: es) X.env = (false, eval e X.env) :: starEach es X.env := by rfl) (hpl : (backTo pos (starEach es X.env)).any (·.1) = false := by rfl) :
    PMk X (.Call (.Name x p) (e :: es) [] pos) (tXr C fs ta) := by
  intro pins s σ H Q I h
  refine wpAny_Call_Name_kw (ld_glob I hg hm ?_ hdb)
  refine PySem.W.callWith_K (h₀ := X.base) I.ok.mod.kin T.kC (thn (ha.run pos pins s σ H _ I h) ?_) he hpl
  rintro us s1 ⟨vs, H1, I1, r1, hl, q1⟩
  refine ⟨I1.kIn, ?_⟩
  refine xnew hX (hr.room.mono (by omega)) I1 r1 hl ?_
  intro a dx t1 G s' J kG ga Ha Hd ne hget ag
  exact ⟨a, _, _, { s' with heap := G }, _, .ref C, some dx, rfl, J, kG, ga, hget, ⟨rfl, rfl⟩, rfl, rfl, by rw [upd_ne (Ne.symm ne)]; exact Ha, rfl, ag, raises_own T.exC T.tyC, q1 dx Hd⟩
theorem pe_x {k : Nat} (hX : XCall X.prog X.K C fs) (T : OexC X.K C) (hr : Rm (k + 1) X.A) (hg : Gl X x) (hm : X.mg x = some (.ref C)) (ha : PA X (e :: es) ta)
    (hdb : (x == ("__debug__" : Str)) = false := by decide) (he : starEach (e :: es) X.env = (false, eval e X.env) :: starEach es X.env := by rfl) (hpl : (backTo pos (starEach es X.env)).any (·.1) = false := by rfl) :
    PE X (.Call (.Name x p) (e :: es) [] pos) (tXv C fs ta) := by
  constructor
  intro pins s σ H Q I h
  refine wpAny_Call_Name_kw (ld_glob I hg hm ?_ hdb)
  refine PySem.W.callWith_K (h₀ := X.base) I.ok.mod.kin T.kC (thn (ha.run pos pins s σ H _ I h) ?_) he hpl
  rintro us s1 ⟨vs, H1, I1, r1, hl, q1⟩
  refine ⟨I1.kIn, ?_⟩
  refine xnew hX (hr.room.mono (by omega)) I1 r1 hl ?_
  intro a dx t1 G s' J kG ga Ha Hd ne hget ag
  refine ⟨.ref a, _, ?_, rfl, q1 a dx Ha Hd ne⟩
  exact Inv.laidN (s := { s' with heap := G }) (t' := s'.toks) (h' := s'.heap) J kG ga (by rw [upd_ne (Ne.symm ne)]; exact Ha) (exV_ok hget ⟨rfl, rfl⟩ rfl)
/-- e.f, e an error -/
def tXg (C : Addr) (f : Str) (te : TE) : TE := fun σ H Q => te σ H fun x H1 => ∃ (a d : Addr) (fs : List (Str × V)) (v : V), x = .ref a ∧ H1 a = some (exV C a d) ∧ H1 d = some (.xd fs) ∧ fs.lookup f = some v ∧ Q v H1
theorem pe_xg {f : Str} {te : TE} (T : XfC X.K C) (hno : PySem.W.findIn X.K (.ref C) f = some none) (he : PE X e te) (hb : attributeBase e f X.env (eval e X.env) = eval e X.env := by rfl) : PE X (.Attribute e f pos) (tXg C f te) := by
  constructor
  intro pins s σ H Q I h
  refine attr_of hb (thn (he.run pins s σ H _ I h) ?_)
  rintro u s1 ⟨x, H1, I1, rx, a, d, fs, v, rfl, ea, ed, l, q⟩
  obtain rfl : u = Value.ref a := rx
  obtain ⟨oe, vs, hget, hz, hd⟩ := exV_at I1.hok ea
  obtain ⟨mA, hns, hr⟩ := (show ObjOk X.prog X.w H1 s1.heap d (.xd fs) from I1.hok d _ ed)
  obtain ⟨od, ho, hl⟩ := lookIn_ns hns
  obtain ⟨u, hu, ru⟩ := RelO.some_of (v := v) (o := mA f) (by rw [← l]; exact hr f)
  have J : PySem.W.InstAt s1.heap a oe C (some od) := ⟨hget, hz.1, by unfold PySem.W.notCls; rw [hd] <;> rfl, by rw [hz.2]; exact ho⟩
  exact HandSPX.exc_get I1.kIn J T.ga T.gg T.exC (PySem.W.findObj_own T.hdC hno rfl (by rw [hl, hu])) (handed_of ru) ⟨v, H1, I1.tok _, ru, q⟩
/-- isinstance, also of errors -/
def TyE (K : PySem.W.Frag) (H : Hp) (x : V) (t : Value) : Prop := TyX K H x t ∨ ∃ (a d D : Addr) (fs : List (Str × V)), x = .ref a ∧ t = .ref D ∧ ExcC K D ∧ H a = some (exV D a d) ∧ H d = some (.xd fs)
def rIsX (K : PySem.W.Frag) : List V → Hp → VK → Prop := fun xs H Q => ∃ (x c : V) (t u : Value) (b : Bool), xs = [x, c] ∧ ClsV c u ∧ TyE K H x t ∧ PySem.W.kitOne K t u = some b ∧ Q (.bl b) H
theorem call_isX : CallR X (.builtin "isinstance") (rIsX X.K) := by
  intro pins s σ H xs us Q I r h
  obtain ⟨x, c, t, u, b, rfl, hc, ty, e, q⟩ := h
  rcases ty with ty | ⟨a, d, D, fs, rfl, rfl, T, ea, ed⟩
  · exact call_isi pins s σ H _ us Q I r ⟨x, c, t, u, b, rfl, hc, ty, e, q⟩
  · obtain ⟨u1, u2, rfl, r1, r2⟩ := vals2 r
    have e2 := hc.eq r2
    subst e2
    obtain rfl : u1 = Value.ref a := r1
    obtain ⟨oe, vs, hget, hz, hd⟩ := exV_at I.hok ea
    obtain ⟨mA, hns, hr⟩ := (show ObjOk X.prog X.w H s.heap d (.xd fs) from I.hok d _ ed)
    obtain ⟨od, ho, hl⟩ := lookIn_ns hns
    have J : PySem.W.InstAt s.heap a oe D (some od) := ⟨hget, hz.1, by unfold PySem.W.notCls; rw [hd] <;> rfl, by rw [hz.2]; exact ho⟩
    obtain ⟨cd, hcd, _⟩ := PySem.W.any_some T.hd
    exact PySem.W.kia_one (PySem.W.kitx_exc (by rw [hcd]; rfl) T.hg T.hk T.hs T.ha T.hn T.ht T.hm) I.kIn J e (fun z => nomatch z) fun tk => ⟨.bl b, H, I.tok tk, rfl, q⟩
end
/-! ### try: body, except x as n: v = n, the error kept under v -/
section
variable {X : Cx} {pins : List (Addr × Obj)} {σ : L2.St} {H : Hp} {s : Shared}
/-- an object that came up since the entry is tracked from now on -/
theorem Inv.track {C a d : Addr} {oe : Obj} {vs : Array Value} (I : Inv X pins σ H s) (he : s.heap.get? a = some oe) (hz : Zc (.ref C) (some d) oe) (hd : oe.data = .fields vs) (na : H a = none) (n0 : X.s_0.heap.get? a = none) (nL : a ≠ X.env.locals)
    (np : ∀ p ∈ X.pn ++ pins, p.1 ≠ a) : Inv X pins σ (upd H a (exV C a d)) s := by
  have off : ∀ {b : Addr} {o : HO}, H b = some o → upd H a (exV C a d) b = some o := fun {b o} e => by
    rw [upd_ne (ne_of_none e na)]
    exact e
  refine { ok := I.ok, os := I.os, bare := I.bare, base := ?_, loc := I.loc, cell := I.cell, free := ?_, freeC := ?_, pin := ?_, hok := ?_, len := I.len }
  · refine { keep := I.base.keep, slot := I.base.slot, free := ?_, there := I.base.there, tups := fun b xs e => off (I.base.tups b xs e), frzs := fun b o u e => off (I.base.frzs b o u e), tbls := ?_ }
    · intro b o e n hx
      have nb : b ≠ a := by
        rintro rfl
        rw [n0] at e
        cases e
      rw [upd_ne nb]
      exact I.base.free b o e n hx
    · intro b ps e
      obtain ⟨more, q⟩ := I.base.tbls b ps e
      exact ⟨more, off q⟩
  · rw [upd_ne (Ne.symm nL)]
    exact I.free
  · intro y c e
    have nc : c ≠ a := by
      rintro rfl
      obtain ⟨v, o, e1, e2⟩ := I.cell y c e
      rw [he] at e1
      injection e1 with e1
      subst e1
      rw [hd] at e2
      cases e2
    rw [upd_ne nc]
    exact I.freeC y c e
  · intro p hp
    obtain ⟨p1, p2, p3⟩ := I.pin p hp
    exact ⟨p1, by rw [upd_ne (np p hp)]; exact p2, p3⟩
  · intro b o e
    by_cases hb : b = a
    · subst hb
      rw [upd_same] at e
      injection e with e
      subst e
      exact exV_ok he hz hd
    · rw [upd_ne hb] at e
      exact (I.hok b o e).stay (fun _ _ _ z => z) (fun _ z => off z) (fun _ _ z => off z)
/-- what such a clause wishes of an error of the body -/
def wKeep (K : PySem.W.Frag) (c : Value) (i j : Nat) (D : Ends) : WX := fun cls d σ H =>
  ∃ C dd : Addr, cls = .ref C ∧ d = some dd ∧ PySem.W.exmOne K cls c = some true ∧ ∀ a, H a = none → D.nx (((σ.set i (some (.ref a))).set j (some (.ref a))).set i none) (upd H a (exV C a dd))
variable {x n v : Str} {c : Value} {i j : Nat} {body : List Stmt} {np vp xp ap hp0 pos : Pos} {tb : WX → TS}
theorem ps_try_keep (hs : X.stack = X.env :: X.outer) (hf : X.env.frame = some X.env.locals) (hex : X.ex = []) (hN : X.N.Nodup) (hi : X.N[i]? = some n) (hj : X.N[j]? = some v) (hln : X.env.kindOf n = some .local) (hlv : X.env.kindOf v = some .local) (hc : Names X x c)
    (nd : (n == ("__debug__" : Str)) = false) (ncd : (n == ("__classdict__" : Str)) = false) (hij : i < X.N.length)
    (hb : ∀ (W : WX) (pn : List (Addr × Obj)) (xe : Value → Shared → Prop), Takes (X.tr pn xe) W → PSs (X.tr pn xe) body (tb W))
    (hsw : swapsWith (.Name n xp) (some (.Name v vp)) ap.line X.env = pure false := by rfl) :
    PS X (.Try body [.ExceptHandler (some (.Name x np)) (some n) [.Assign [.Name v vp] (.Name n xp) ap] hp0] [] [] pos) (fun D σ H => tb (wKeep X.K c i j D) D σ H) := by
  constructor
  intro pins s σ H D I h
  have ok := I.ok
  have hfr : X.A.frames = some (X.env :: X.outer) := by rw [ok.frames, hs]
  refine wpAny_Try_except ?_
  have body_run := (hb (wKeep X.K c i j D) (X.pn ++ pins) (fun e s₁ => wpAny (model X.prog X.w) X.A (noteFrame e X.env) (fun _ s₂ => wpAny (model X.prog X.w) X.A (setFlight e none) (fun _ s₃ =>
    wpAny (model X.prog X.w) X.A (handleBy e X.env [.ExceptHandler (some (.Name x np)) (some n) [.Assign [.Name v vp] (.Name n xp) ap] hp0]) (L2.SP X pins D) X.xe s₃) X.xe s₂) X.xe s₁) ?take).run [] s σ H D (I.toTry _) h
  case take =>
    rintro _ s1 ⟨a, B, sI, pins1, σ1, H1, cls, d, rfl, J0, nb, up, sky, na, os, ag, C, dd, rfl, rfl, hmatch, next⟩
    have J : Inv X pins σ1 H1 sI := J0.ofTry ok
    rw [show (X.tr (X.pn ++ pins) _).stack = X.env :: X.outer from hs] at sky
    refine Sky.land Zc.steady hfr hf sky fun h3 fl3 up3 => ?_
    obtain ⟨oe3, vs3, he3, hz3, hd3⟩ := fl3.there
    have away : ∀ {o : Obj} {vs : Array Value}, h3.get? a = some o → o.data = .fields vs → a ∉ frs (X.env :: X.outer) := by
      intro o vs e dd hm
      obtain ⟨_, o1, e1, no⟩ := fl3.2.2.1.mem hm
      rw [e] at e1
      injection e1 with e1
      subst e1
      exact no _ dd
    have nfr := away he3 hd3
    have nL : a ≠ X.env.locals := by
      rintro rfl
      exact nfr (List.mem_filterMap.mpr ⟨X.env, List.mem_cons_self, hf⟩)
    have nF : a ∉ X.fs := by
      intro hm
      obtain ⟨e, m1, m2⟩ := List.mem_filterMap.mp hm
      exact nfr (List.mem_filterMap.mpr ⟨e, List.mem_cons_of_mem _ m1, m2⟩)
    have newI : sI.heap.get? a = none := by
      cases q : sI.heap.get? a with
      | none => rfl
      | some o =>
        have z := nb a o q (by show a ∉ frs X.stack; rw [hs]; exact nfr)
        rw [fl3.2.1] at z
        cases z
    have new0 : X.s_0.heap.get? a = none := by
      cases q : X.s_0.heap.get? a with
      | none => rfl
      | some o =>
        obtain ⟨o2, z⟩ := J.base.there a o q (by rw [hex]; exact fun z => nomatch z)
        rw [newI] at z
        cases z
    have newP : ∀ p ∈ X.pn ++ pins, p.1 ≠ a := by
      rintro p hp rfl
      have z := (J.pin p hp).1
      rw [newI] at z
      cases z
    have nb' : ∀ b o, sI.heap.get? b = some o → b ∉ frs X.stack → B.get? b = some o := nb
    have J3 : Inv X pins σ1 H1 { s1 with heap := h3 } := J.landed nb' fl3.1 (up.trans up3) os ag
    have S3 := J3.suite he3 hd3 na nL nF
    refine wpAny_handleBy_cons (codeAny_handlers_test ?_) (fun q => nomatch q)
    have LT : PySem.W.Looks (model X.prog X.w) h3 (typeOf (.ref a)) (.ref C) := by
      intro A Q E s k q
      refine wpAny_typeOf_ref (k _ _ he3) ?_
      rw [hz3.1]
      exact q
    have LM := PySem.W.exm_one (M := model X.prog X.w) J3.kIn LT hmatch
    have named : ∀ {Q : Value → Shared → Prop} {E : Value → Shared → Prop}, Q c { s1 with heap := h3 } → wpAny (model X.prog X.w) (X.A.mark (some (.ref a))) (eval (.Name x np) X.env) Q E { s1 with heap := h3 } := by
      intro Q E q
      obtain ⟨hg, hdbg, hm | ⟨hm, hv, hnn⟩⟩ := hc
      · exact ld_glob (X := X.suite a ((a, oe3) :: (X.pn ++ pins))) S3 hg hm q hdbg
      · exact ld_blt (X := X.suite a ((a, oe3) :: (X.pn ++ pins))) S3 hg hm hv q hnn hdbg
    refine named (LM.here ?_)
    refine codeAny_handlers_suite_as ?_
    refine HandSPX.lands_againZ fl3 fun h4 fl4 up4 => ?_
    have J4 : Inv X pins σ1 H1 { s1 with heap := h4 } := J.landed nb' fl4.1 ((up.trans up3).trans up4) os ag
    obtain ⟨oe4, vs4, he4, hz4, hd4⟩ := fl4.there
    have S4 := J4.suite he4 hd4 na nL nF
    refine store_ok (X := X.suite a ((a, oe4) :: (X.pn ++ pins))) (v := .ref a) S4 hN hi (.inl hln) rfl (fun s5 S5 => ?_) (.inr hln)
    have lenN : σ1.length = X.N.length := J.len
    have the_n : (σ1.set i (some (.ref a)))[i]? = some (some (V.ref a)) := by
      rw [List.getElem?_set_self (by rw [lenN]; exact hij)]
    have st : PSs (X.suite a ((a, oe4) :: (X.pn ++ pins))) [.Assign [.Name v vp] (.Name n xp) ap] (tAsg (tVar i) (gName j)) := pss_one (ps_set hN hj (.inl hlv) (pv i hi (.inl hln) nd ncd) hsw (.inr hlv))
    refine wpAny_mono (st.run [] s5 _ H1 { nx := fun σ' H' => σ' = (σ1.set i (some (.ref a))).set j (some (.ref a)) ∧ H' = H1, rt := fun _ _ => False } S5 (u_asg (u_var the_n ⟨rfl, rfl⟩))) ?_ (fun _ _ z => False.elim z)
    rintro (_ | _ | _ | u) s6 hsp
    · obtain ⟨σ6, H6, S6, rfl, rfl⟩ := hsp
      refine gone_ok (X := X.suite a ((a, oe4) :: (X.pn ++ pins))) S6 hN hi hln ?_
      intro s7 S7
      obtain ⟨p1, p2, _⟩ := S7.pin (a, oe4) (List.mem_append_left _ List.mem_cons_self)
      exact ⟨_, _, Inv.track (S7.unsuite ok) p1 hz4 hd4 p2 new0 nL newP, next a na⟩
    · obtain ⟨_, _, _, z⟩ := hsp
      exact False.elim z
    · obtain ⟨_, _, _, z⟩ := hsp
      exact False.elim z
    · obtain ⟨_, _, _, _, _, z⟩ := hsp
      exact False.elim z
  refine wpAny_mono body_run ?_ (fun e s1 he => he)
  rintro (_ | _ | _ | u) s1 hsp
  · obtain ⟨σ', H', J, q⟩ := hsp
    exact wpAny_execs_nil ⟨σ', H', J.ofTry ok, q⟩
  · obtain ⟨σ', H', J, q⟩ := hsp
    exact ⟨σ', H', J.ofTry ok, q⟩
  · obtain ⟨σ', H', J, q⟩ := hsp
    exact ⟨σ', H', J.ofTry ok, q⟩
  · obtain ⟨v, σ', H', J, r, q⟩ := hsp
    exact ⟨v, σ', H', J.ofTry ok, r, q⟩
end
/-! ### calls in a context that takes errors, by slots -/
section
variable {X : Cx} {W : WX} {k j : Nat} {C : Addr} {sp : Sp} {dvs : List V} {x m : Str} {p pos apos : Pos} {e o : Expr} {es : List Expr} {ta : TE} {t : TA}
theorem pass_tk {pins : List (Addr × Obj)} {σ : L2.St} (tk : Takes X W) : PassAt X pins σ (fun cls d H' => W cls d σ H') := fun _ _ e s' I c => tk e s' (XE.of_call I (fun _ _ _ h => h) c)
def tMkW (C : Addr) (sp : Sp) (dvs : List V) (W : WX) (t : TA) : TE := fun σ H Q => t σ H fun vs H1 => ∀ x dx, H1 x = none → H1 dx = none → dx ≠ x →
  sp (.ref x :: (vs ++ dvs)) (upd (upd H1 dx (.own x)) x (.ins C dx [])) (fun v H2 => v = .non ∧ Q (.ref x) H2) (fun cls d H' => W cls d σ H')
theorem pe_mkW (tk : Takes X W) (c : Mak X.prog X.w X.K X.mg X.base k x C sp dvs) (hr : Rm j X.A) (hk : k + 1 ≤ j) (hg : Gl X x) (ha : PA X (e :: es) t) (hdb : (x == ("__debug__" : Str)) = false := by decide)
    (he : starEach (e :: es) X.env = (false, eval e X.env) :: starEach es X.env := by rfl) (hpl : (backTo pos (starEach es X.env)).any (·.1) = false := by rfl) : PE X (.Call (.Name x p) (e :: es) [] pos) (tMkW C sp dvs W t) := by
  obtain ⟨f, fd, ps, ds, M, F, hm, b, d⟩ := c.ex
  constructor
  intro pins s σ H Q I h
  refine wpAny_Call_Name_kw (ld_glob I hg hm ?_ hdb)
  refine PySem.W.callWith_K (h₀ := X.base) I.ok.mod.kin M.kp (thn (ha.run pos pins s σ H _ I h) ?_) he hpl
  rintro us s1 ⟨vs, H1, I1, r, q⟩
  exact ⟨I1.kIn, makeG M F (hr.mono hk) b d (pass_tk tk) I1 r q⟩
def tCW (sp : Sp) (dvs : List V) (W : WX) (t : TA) : TE := fun σ H Q => t σ H fun vs H1 => sp (vs ++ dvs) H1 Q (fun cls d H' => W cls d σ H')
theorem pe_cW (tk : Takes X W) (c : Cal X.prog X.w X.K X.mg X.base k x sp dvs) (hr : Rm j X.A) (hk : k ≤ j) (hg : Gl X x) (ha : PA X (e :: es) t) (hdb : (x == ("__debug__" : Str)) = false := by decide)
    (he : starEach (e :: es) X.env = (false, eval e X.env) :: starEach es X.env := by rfl) (hpl : (backTo pos (starEach es X.env)).any (·.1) = false := by rfl) : PE X (.Call (.Name x p) (e :: es) [] pos) (tCW sp dvs W t) := by
  obtain ⟨f, fd, ps, ds, F, hm, kp, b, d⟩ := c.ex
  constructor
  intro pins s σ H Q I h
  refine wpAny_Call_Name_kw (ld_glob I hg hm ?_ hdb)
  refine PySem.W.callWith_K (h₀ := X.base) I.ok.mod.kin kp (thn (ha.run pos pins s σ H _ I h) ?_) he hpl
  rintro us s1 ⟨vs, H1, I1, r, q⟩
  exact ⟨I1.kIn, runG F (hr.mono hk) b d (pass_tk tk) I1 r q⟩
def tSMW (C : Addr) (sp : Sp) (dvs : List V) (W : WX) (ta : TE) (t : TA) : TE := fun σ H Q => ta σ H fun x H1 => x = .ref C ∧ t σ H1 fun vs H2 => sp (vs ++ dvs) H2 Q (fun cls d H' => W cls d σ H')
theorem pe_smW {pl : Sem Bool} (tk : Takes X W) (c : Sta X.prog X.w X.K X.mg X.base k C m sp dvs) (hr : Rm j X.A) (hk : k ≤ j) (ho : PE X o ta) (ha : PA X (e :: es) t)
    (hst : starEach (e :: es) X.env = (false, eval e X.env) :: starEach es X.env := by rfl) (hpl : (backTo pos (starEach es X.env)).any (·.1) = false := by rfl)
    (ht : eval (.Call (.Attribute o m apos) (e :: es) [] pos) X.env = (do
      let ov ← eval o X.env
      standAt apos.atName
      let (g, first) ← holding [ov] (getMethod ov m pl)
      callWith pos g first (backTo pos (starEach (e :: es) X.env)) (backToKw pos (keywordEach [] X.env))) := by rfl) : PE X (.Call (.Attribute o m apos) (e :: es) [] pos) (tSMW C sp dvs W ta t) := by
  obtain ⟨mc, p, g, fd, ps, ds, S, F, bd, dv⟩ := c.ex
  constructor
  intro pins s σ H Q I h
  refine PySem.W.methodCall_KW (pl := pl) (thn (ho.run pins s σ H _ I h) ?_) ht
  rintro u s1 ⟨y, H1, I1, ry, rfl, q⟩
  obtain rfl : u = Value.ref C := ry
  obtain ⟨rest, hp⟩ := S.rc
  refine PySem.W.method_cls I1.kIn S.ga (PySem.W.cls_bind I1.kIn S.rd S.at_ (wpAny_call (PySem.W.sm_get (s := { s1 with toks := s1.toks + 1 }) I1.kIn hp (PySem.W.handed_on rfl ?_))))
  refine PySem.W.callWith_K (first := []) (h₀ := X.base) I.ok.mod.kin S.kp (thn (ha.run pos pins _ σ H1 _ (I1.tok _) q) ?_) hst hpl
  rintro us s2 ⟨vs, H2, I2, r, q2⟩
  exact ⟨I2.kIn, runG F (hr.mono hk) bd dv (pass_tk tk) I2 r q2⟩
end
/-- a def's own wish about errors -/
theorem tk_cx {P : Program} {w : World} {K : PySem.W.Frag} {mg : Str → Option Value} {base : Heap} {N : List Str} {qual : Str} {sc : Scope} {f : Addr} {cdv : Value} {A : Around} {out : List Env} {s : Shared} {H : Hp} {E : XK} :
    Takes (cxOf (L2.CX P w) P w K mg base N qual sc f cdv A out s H E) (fun cls d _ H' => E cls d H') := takes_of rfl rfl rfl rfl
/-- the first parameter of a def's text -/
def argOf (st : Stmt) : Arg := (((C8.fnArgs st).posonlyargs ++ (C8.fnArgs st).args).head?).getD { arg := "", annotation := none, pos := ⟨0, 0, 0, 0⟩ }
section
variable {K : PySem.W.Frag} {H : Hp} {Q : VK}
theorem r_isX {x c : V} {t u : Value} {b : Bool} (hc : ClsV c u) (ty : TyE K H x t) (h0 : PySem.W.kitOne K t u = some b) (h : Q (.bl b) H) : rIsX K [x, c] H Q := ⟨x, c, t, u, b, rfl, hc, ty, h0, h⟩
theorem r_isT {x : V} {a n : String} (b : Bool) (ty : TyX K H x (.type a)) (h0 : kitB a n = some b) (h : Q (.bl b) H) : rIsX K [x, .ty n] H Q := r_isX (.ty n) (.inl ty) (kit_ty h0) h
end
end Tw

namespace Tw
open PySem PySem.Spec PyProof.Rows L2
/-! ### list comprehensions: readings by a word that stands at each turn -/
section
variable {K : PySem.W.Frag} {g : TG} {tt : TT} {te t0 : TE} {tA : TA} {vs : List Nat} {σ : L2.St} {H : Hp} {Q : VK}
/-- the rest, from where the source is known -/
def kLc (J : It) (g : TG) (tt : TT) (te : TE) (vs : List Nat) (σ : L2.St) (Q : VK) (H1 : Hp) : Prop := ∀ D, H1 D = none → ∃ W : Nat → Nat → Hp → Prop, (∃ m, W 0 m (upd H1 D (.lst []))) ∧ ∀ i m H, W i m H →
  (J.stop i H ∧ Q (.ref D) H) ∨ (J.go i H ∧ ∃ Nx : Hp → Prop, (∀ H', Nx H' → ∃ m', m' < m ∧ W (i + 1) m' H') ∧ ∀ x H', J.yld i H x H' → g x (wipe σ vs) H' fun σ2 H2 => wipe σ2 vs = wipe σ vs ∧ tt σ2 H2 fun b H3 =>
    if b = true then te σ2 H3 fun y H4 => ∃ acc, H4 D = some (.lst acc) ∧ acc.length < sizeLine ∧ Nx (upd H4 D (.lst (acc ++ [y]))) else Nx H3)
/-- one turn: what the block does with x while the list at D holds acc; nx: the word behind it -/
def Turn1 (D : Addr) (g : TG) (tt : TT) (te : TE) (vs : List Nat) (σ : L2.St) (x : V) (H : Hp) (nx : Hp → Prop) : Prop := g x (wipe σ vs) H fun σ2 H2 => wipe σ2 vs = wipe σ vs ∧ tt σ2 H2 fun b H3 =>
  if b = true then te σ2 H3 fun y H4 => ∃ acc, H4 D = some (.lst acc) ∧ acc.length < sizeLine ∧ nx (upd H4 D (.lst (acc ++ [y]))) else nx H3
def kLcStr (g : TG) (tt : TT) (te : TE) (vs : List Nat) (σ : L2.St) (Q : VK) : VK := fun v H1 => ∃ x, v = .str x ∧ kLc (Its x) g tt te vs σ Q H1
def kLcLst (K : PySem.W.Frag) (g : TG) (tt : TT) (te : TE) (vs : List Nat) (σ : L2.St) (Q : VK) : VK := fun v H1 => ∃ a, v = .ref a ∧ (∃ xs, SqL K H1 a xs) ∧ kLc (Itl K a) g tt te vs σ Q H1
def kLcRng (g : TG) (tt : TT) (te : TE) (vs : List Nat) (σ : L2.St) (Q : VK) : List V → Hp → Prop := fun ws H1 => ∃ j : Int, ws = [.int j] ∧ -(2 ^ 62) ≤ j ∧ j < 2 ^ 62 ∧ kLc (Itr 0 j.toNat) g tt te vs σ Q H1
theorem u_lcS (h : t0 σ H (kLcStr g tt te vs σ Q)) : tLc (iStr t0) g tt te vs σ H Q := h
theorem u_lcL (h : t0 σ H (kLcLst K g tt te vs σ Q)) : tLc (iList K t0) g tt te vs σ H Q := h
theorem u_lcR (h : tA σ H (kLcRng g tt te vs σ Q)) : tLc (iRng1 tA) g tt te vs σ H Q := h
theorem k_str {x : Str} (h : kLc (Its x) g tt te vs σ Q H) : kLcStr g tt te vs σ Q (.str x) H := ⟨x, rfl, h⟩
theorem k_lst1 {a : Addr} {xs : List V} (h0 : SqL K H a xs) (h : kLc (Itl K a) g tt te vs σ Q H) : kLcLst K g tt te vs σ Q (.ref a) H := ⟨a, rfl, ⟨xs, h0⟩, h⟩
theorem k_rng1 {j : Int} (n : Nat) (hn : j = n) (hz : n ≤ 1000000) (h : kLc (Itr 0 n) g tt te vs σ Q H) : kLcRng g tt te vs σ Q [.int j] H := by
  subst hn
  refine ⟨n, rfl, by omega, by omega, ?_⟩
  rw [Int.toNat_natCast]
  exact h
theorem u_turn {D : Addr} {i : Nat} {x : V} {nx : Hp → Prop} (hw : wipe ((wipe σ vs).set i (some x)) vs = wipe σ vs) (h : te ((wipe σ vs).set i (some x)) H fun y H4 => ∃ acc, H4 D = some (.lst acc) ∧ acc.length < sizeLine ∧ nx (upd H4 D (.lst (acc ++ [y])))) :
    Turn1 D (gName i) tYes te vs σ x H nx := ⟨hw, by
  dsimp only [tYes]
  first
    | exact w_T h
    | exact h⟩
theorem k_lcS {x : Str} {H1 : Hp} (Pv : Nat → Addr → Hp → Prop) (h0 : ∀ D, H1 D = none → Pv 0 D (upd H1 D (.lst []))) (hs : ∀ D i c H, x.cps[i]? = some c → Pv i D H → Turn1 D g tt te vs σ (.str ⟨#[c]⟩) H (Pv (i + 1) D)) (hd : ∀ D H, Pv x.cps.size D H → Q (.ref D) H) : kLc (Its x) g tt te vs σ Q H1 := by
  intro D hD
  refine ⟨fun i m H => m = x.cps.size - i ∧ i ≤ x.cps.size ∧ Pv i D H, ⟨_, rfl, Nat.zero_le _, h0 D hD⟩, ?_⟩
  rintro i m H ⟨rfl, hi, p⟩
  by_cases hlt : i < x.cps.size
  · refine .inr ⟨hlt, Pv (i + 1) D, fun H' q => ⟨x.cps.size - (i + 1), by omega, rfl, hlt, q⟩, ?_⟩
    rintro y H' ⟨rfl, c, hc, rfl⟩
    exact hs D i c _ hc p
  · have e : i = x.cps.size := by omega
    subst e
    exact .inl ⟨Nat.le_refl _, hd D H p⟩
theorem k_lcR {n : Nat} {H1 : Hp} (Pv : Nat → Addr → Hp → Prop) (h0 : ∀ D, H1 D = none → Pv 0 D (upd H1 D (.lst []))) (hs : ∀ D i H, i < n → Pv i D H → Turn1 D g tt te vs σ (.int (i : Int)) H (Pv (i + 1) D)) (hd : ∀ D H, Pv n D H → Q (.ref D) H) : kLc (Itr 0 n) g tt te vs σ Q H1 := by
  intro D hD
  refine ⟨fun i m H => m = n - i ∧ i ≤ n ∧ Pv i D H, ⟨_, rfl, Nat.zero_le _, h0 D hD⟩, ?_⟩
  rintro i m H ⟨rfl, hi, p⟩
  by_cases hlt : i < n
  · refine .inr ⟨hlt, Pv (i + 1) D, fun H' q => ⟨n - (i + 1), by omega, rfl, hlt, q⟩, ?_⟩
    rintro y H' ⟨rfl, rfl⟩
    have e : (0 : Int) + i = i := by omega
    rw [e]
    exact hs D i _ hlt p
  · have e : i = n := by omega
    subst e
    exact .inl ⟨Nat.le_refl _, hd D H p⟩
theorem k_lcL {a : Addr} {xs : List V} {H1 : Hp} (Pv : Nat → Addr → Hp → Prop) (h0 : ∀ D, H1 D = none → Pv 0 D (upd H1 D (.lst []))) (hl : ∀ D i H, i ≤ xs.length → Pv i D H → SqL K H a xs)
    (hs : ∀ D i x H, xs[i]? = some x → Pv i D H → Turn1 D g tt te vs σ x H (Pv (i + 1) D)) (hd : ∀ D H, Pv xs.length D H → Q (.ref D) H) : kLc (Itl K a) g tt te vs σ Q H1 := by
  intro D hD
  refine ⟨fun i m H => m = xs.length - i ∧ i ≤ xs.length ∧ Pv i D H, ⟨_, rfl, Nat.zero_le _, h0 D hD⟩, ?_⟩
  rintro i m H ⟨rfl, hi, p⟩
  have sq := hl D i H hi p
  by_cases hlt : i < xs.length
  · refine .inr ⟨⟨xs, xs[i], sq, List.getElem?_eq_getElem hlt⟩, Pv (i + 1) D, fun H' q => ⟨xs.length - (i + 1), by omega, rfl, hlt, q⟩, ?_⟩
    rintro y H' ⟨rfl, hy⟩
    exact hs D i y _ (hy xs sq) p
  · have e : i = xs.length := by omega
    subst e
    exact .inl ⟨⟨xs, sq, Nat.le_refl _⟩, hd D H p⟩
end
/-! ### errors: readings -/
section
variable {K : PySem.W.Frag} {tA : TA} {ta : TE} {σ : L2.St} {H : Hp} {Q : VK} {QX : XK} {C : Addr} {fs : List Str}
def kXr (C : Addr) (fs : List Str) (QX : XK) : List V → Hp → Prop := fun vs H1 => vs.length = fs.length ∧ ∀ dx, H1 dx = none → QX (.ref C) (some dx) (upd H1 dx (.xd (fs.zip vs)))
theorem u_xr (h : tA σ H (kXr C fs QX)) : tXr C fs tA σ H QX := h
theorem k_xr {vs : List V} (hl : vs.length = fs.length) (h : ∀ (dx : Addr) (H' : Hp), Same H H' → H' dx = some (.xd (fs.zip vs)) → QX (.ref C) (some dx) H') : kXr C fs QX vs H :=
  ⟨hl, fun dx hd => h dx _ (fun y o e => by rw [upd_ne (ne_of_none e hd)]; exact e) upd_same⟩
def kXv (C : Addr) (fs : List Str) (Q : VK) : List V → Hp → Prop := fun vs H1 => vs.length = fs.length ∧ ∀ a dx, H1 a = none → H1 dx = none → dx ≠ a → Q (.ref a) (upd (upd H1 dx (.xd (fs.zip vs))) a (exV C a dx))
theorem u_xv (h : tA σ H (kXv C fs Q)) : tXv C fs tA σ H Q := h
theorem k_xv {vs : List V} (hl : vs.length = fs.length) (h : ∀ (a dx : Addr) (H' : Hp), Same H H' → H' a = some (exV C a dx) → H' dx = some (.xd (fs.zip vs)) → Q (.ref a) H') : kXv C fs Q vs H :=
  ⟨hl, fun a dx ha hd ne => h a dx _ (fun y o e => by rw [upd_ne (ne_of_none e ha), upd_ne (ne_of_none e hd)]; exact e) upd_same (by rw [upd_ne ne]; exact upd_same)⟩
def kXg (C : Addr) (f : Str) (Q : VK) : VK := fun x H1 => ∃ (a d : Addr) (fs : List (Str × V)) (v : V), x = .ref a ∧ H1 a = some (exV C a d) ∧ H1 d = some (.xd fs) ∧ fs.lookup f = some v ∧ Q v H1
theorem u_xg {f : Str} (h : ta σ H (kXg C f Q)) : tXg C f ta σ H Q := h
theorem k_xg {f : Str} {a d : Addr} {fs : List (Str × V)} {v : V} (h1 : H a = some (exV C a d)) (h2 : H d = some (.xd fs)) (h3 : fs.lookup f = some v) (h : Q v H) : kXg C f Q (.ref a) H := ⟨a, d, fs, v, rfl, h1, h2, h3, h⟩
def kMkW (C : Addr) (sp : Sp) (dvs : List V) (W : WX) (σ : L2.St) (Q : VK) : List V → Hp → Prop := fun vs H1 => ∀ x dx, H1 x = none → H1 dx = none → dx ≠ x →
  sp (.ref x :: (vs ++ dvs)) (upd (upd H1 dx (.own x)) x (.ins C dx [])) (fun v H2 => v = .non ∧ Q (.ref x) H2) (fun cls d H' => W cls d σ H')
theorem u_mkW {sp : Sp} {dvs : List V} {W : WX} (h : tA σ H (kMkW C sp dvs W σ Q)) : tMkW C sp dvs W tA σ H Q := h
end
/-! ### instances compared -/
section
open PySem.W
variable {prog : Program} {w : World} {A : Around} {E : Value → Shared → Prop} {s : Shared} {K : Frag} {x C f : Addr} {ox : Obj} {od : Option Obj} {y : Value}
theorem objNe_run {Q : Fin → Shared → Prop} (X : K.In s.heap) (I : InstAt s.heap x ox C od) (heq : findIn K (.ref C) "__eq__" = some (some (.ref f))) (hf : isFn K (.ref f) = true) (hu : A.units < cLine)
    (h : wpAny (model prog w) A (call (.ref f) [.ref x, y]) (fun v s' => ∃ b, v = .bool b ∧ Q (.done (.ret (.bool (!b)))) s') E s) : wpAny (model prog w) A (Builtin.«object.__ne__» ⟨[.ref x, y], []⟩) Q E s := by
  unfold Builtin.«object.__ne__»
  refine wpAny_bind (wpAny_of_eq (a := ((Value.ref x : Value), [y])) (by first | rfl | (simp only [slotArgs]; rfl)) ?_)
  dsimp only
  refine wpAny_bind (wpAny_cRoomFor hu ?_)
  refine wpAny_bind (ifBound_K X I heq hf (wpAny_mono h (fun r s' hr => ?_) fun _ _ e => e))
  obtain ⟨b, rfl, hq⟩ := hr
  dsimp only
  exact wpAny_bind (wpAny_truthy_bool (wpAny_pure hq))
theorem ne_own {Q : Value → Shared → Prop} (X : K.In s.heap) (I : InstAt s.heap x ox C od) (hy : Looks (model prog w) s.heap (typeOf y) (.ref C)) (hne : findIn K (.ref C) "__ne__" = some (some (.builtin "object.__ne__"))) (heq : findIn K (.ref C) "__eq__" = some (some (.ref f))) (hf : isFn K (.ref f) = true)
    (hm : mroIn K C (.type "object") = some true) (hu : A.units + 1 < cLine)
    (h : wpAny (model prog w) A.in1 (call (.ref f) [.ref x, y]) (fun v s' => ∃ b, v = .bool b ∧ Q (.bool (!b)) s') E s) : wpAny (model prog w) A (richCompare .NotEq (.ref x) y) Q E s := by
  have one : wpAny (model prog w) A (tryCompare (.ref x) "__ne__" y) (fun r s' => ∃ v, r = some v ∧ Q v s') E s := by
    have fin : wpAny (model prog w) A (call (.builtin "object.__ne__") [.ref x, y]) (fun v s' => ∃ b, v = .bool b ∧ Q (.bool b) s') E s := by
      refine wpAny_call (codeAny_call_builtin F.slot_object_ne.plain F.cmpEntry_ne (check_slot F.cmpKind_ne F.cmpSplit_ne (I.type.andThen (looks_mroIn X hm)) (F.cmpArgs_ne _ _) ?_))
      refine objNe_run X I heq hf hu (wpAny_mono h (fun v s' hv => ?_) fun _ _ e => e)
      obtain ⟨b, rfl, hq⟩ := hv
      exact ⟨b, rfl, ⟨!b, rfl, hq⟩⟩
    have cs : wpAny (model prog w) A (callSpecialIfBound? (.ref x) "__ne__" [y]) (fun r s' => ∃ b, r = some (.bool b) ∧ Q (.bool b) s') E s := by
      simp only [callSpecialIfBound?, bindSpecialIfBound?]
      refine wpAny_holding (wpAny_bind (wpAny_bind (wpAny_bind (I.type.here ((looks_findIn X hne).here ?_)))))
      refine wpAny_bind (wpAny_askSetting (wpAny_ite ?_))
      have bnd : Looks (model prog w) s.heap (bindSpecial (.builtin "object.__ne__") (.ref x)) (.builtin "object.__ne__", [.ref x]) := Looks.of_pure (F.slot_object_ne.bind _)
      have fin2 : wpAny (model prog w) A (call (.builtin "object.__ne__") ([.ref x] ++ [y]) >>= fun v => pure (some v)) (fun r s' => ∃ b, r = some (.bool b) ∧ Q (.bool b) s') E s := by
        refine wpAny_bind (wpAny_mono fin (fun v s' hv => ?_) fun _ _ e => e)
        obtain ⟨b, rfl, hq⟩ := hv
        exact wpAny_pure ⟨b, rfl, hq⟩
      split
      · exact wpAny_bind (bnd.here (wpAny_pure (by exact fin2)))
      · exact wpAny_tryCatch (wpAny_bind (bnd.here (wpAny_pure (by exact fin2))))
    unfold tryCompare
    refine wpAny_bind (wpAny_mono cs (fun r s' hr => ?_) fun _ _ e => e)
    obtain ⟨b, rfl, hq⟩ := hr
    exact wpAny_pure ⟨_, rfl, hq⟩
  unfold richCompare
  simp only [oneThing_ref]
  refine wpAny_holding (wpAny_bind (wpAny_cRoomFor (by omega) ?_))
  refine wpAny_bind (I.type.here (wpAny_bind (hy.here ?_)))
  rw [show (Value.ref C != Value.ref C) = false from by simp]
  simp only [Bool.false_eq_true, if_false]
  refine wpAny_bind (wpAny_pure ?_)
  simp only [Bool.false_eq_true, if_false]
  refine wpAny_bind (wpAny_mono one (fun r s' z => ?_) fun _ _ e => e)
  obtain ⟨v, rfl, hq⟩ := z
  exact wpAny_pure hq
end
section
variable {X : Cx} {k j : Nat} {C : Addr} {sp : Sp}
/-- instances compared by !=, the class has __eq__ alone -/
def rOwnNe (C : Addr) (sp : Sp) : R2 := fun x y H Q => ∃ a b dx fs dy gs, x = .ref a ∧ y = .ref b ∧ H a = some (.ins C dx fs) ∧ H b = some (.ins C dy gs) ∧ sp [.ref a, .ref b] H (fun v H' => ∃ c, v = .bl c ∧ Q (.bl (!c)) H') E0
theorem op_ownNe (c : Met X.prog X.w X.K X.mg X.base k C "__eq__" sp []) (hne : PySem.W.findIn X.K (.ref C) "__ne__" = some (some (.builtin "object.__ne__"))) (hm : PySem.W.mroIn X.K C (.type "object") = some true) (hr : Rm (j + 1) X.A) (hk : k ≤ j) : OpR X (compareOp .NotEq) (rOwnNe C sp) := by
  intro pins s σ H x y v u Q I rx ry h
  obtain ⟨a, b, dx, fs, dy, gs, rfl, rfl, ha, hb, want⟩ := h
  cases rx; cases ry
  obtain ⟨f, fd, ps, ds, hc, me, F, bd, dv⟩ := c.ex
  obtain ⟨mA, J, _⟩ := ins_get I.hok ha
  obtain ⟨mB, J', _⟩ := ins_get I.hok hb
  obtain ⟨od, J, _⟩ := J.look
  obtain ⟨od', J', _⟩ := J'.look
  show wpAny (model X.prog X.w) X.A (richCompare .NotEq (.ref a) (.ref b)) (EP X pins σ Q) X.xe s
  have hu := hr.u
  refine ne_own I.kIn J J'.type hne me.at_ me.fn hm (by omega) ?_
  refine wpAny_mono (goG (Q := fun v H' => ∃ c, v = .bl c ∧ Q (.bl (!c)) H') (us := [.ref a, .ref b]) (vs := [.ref a, .ref b]) (dvs := []) F ((hr.in1).mono hk) rfl bd dv (passL _ _) I (.cons rfl (.cons rfl .nil)) (by rw [List.append_nil]; exact want)) (fun v s' hv => ?_) fun _ _ e => e
  obtain ⟨v1, H1, I1, r1, c1, e1, q⟩ := hv
  subst e1
  obtain rfl : v = Value.bool c1 := r1
  exact ⟨c1, rfl, .bl (!c1), H1, I1, rfl, q⟩
end
section
variable {X : Cx} {k j : Nat} {C : Addr} {sp : Sp}
/-- an instance and anything, compared by == -/
def rOwnEqA (K : PySem.W.Frag) (C : Addr) (sp : Sp) : R2 := fun x y H Q => ∃ a dx fs t, x = .ref a ∧ H a = some (.ins C dx fs) ∧ TyE K H y t ∧ PySem.W.notFirst K C t = true ∧ sp [.ref a, y] H Q E0
theorem op_ownEqA (c : Met X.prog X.w X.K X.mg X.base k C "__eq__" sp []) (hr : Rm j X.A) (hk : k ≤ j) : OpR X (compareOp .Eq) (rOwnEqA X.K C sp) := by
  intro pins s σ H x y v u Q I rx ry h
  obtain ⟨a, dx, fs, t, rfl, ha, ty, nf, want⟩ := h
  cases rx
  obtain ⟨f, fd, ps, ds, hc, me, F, bd, dv⟩ := c.ex
  obtain ⟨mA, J, _⟩ := ins_get I.hok ha
  obtain ⟨od, J, _⟩ := J.look
  obtain ⟨mm, hF⟩ := I.fr
  have lt : PySem.W.Looks (model X.prog X.w) s.heap (typeOf u) t := by
    rcases ty with ty | ⟨b, d, D, gs, rfl, rfl, T, eb, ed⟩
    · obtain ⟨P, Z, p, _⟩ := kit_of I ry ty
      exact Z.ty (model X.prog X.w) s.heap I.kIn p
    · obtain rfl : u = Value.ref b := ry
      obtain ⟨oe, vs, hget, hz, hd⟩ := exV_at I.hok eb
      intro A Q E s k q
      refine wpAny_typeOf_ref (k _ _ hget) ?_
      rw [hz.1]
      exact q
  show wpAny (model X.prog X.w) X.A (richCompare .Eq (.ref a) u) (EP X pins σ Q) X.xe s
  refine PySem.W.cmp_K (op := .Eq) hr.room.units0 hF I.ok.mod.kin J lt nf me.at_ me.fn ?_
  refine wpAny_mono (runG (us := [.ref a, u]) (vs := [.ref a, y]) F (hr.mono hk) bd dv (passL _ _) I (.cons rfl (.cons ry .nil)) ?_) (fun _ _ z => cmpBack_of z) fun _ _ z => z
  simpa using want
end
section
variable {X : Cx} {k j : Nat} {C : Addr} {sp : Sp}
/-- str(x), x an instance whose class has __str__ -/
def rStrO (C : Addr) (sp : Sp) : List V → Hp → VK → Prop := fun xs H Q => ∃ a dx fs, xs = [.ref a] ∧ H a = some (.ins C dx fs) ∧ sp [.ref a] H (fun v H' => ∃ z, v = .str z ∧ Q (.str z) H') E0
theorem call_strO (c : Met X.prog X.w X.K X.mg X.base k C "__str__" sp []) (hr : Rm (j + 2) X.A) (hk : k ≤ j) : CallR X (.type "str") (rStrO C sp) := by
  intro pins s σ H xs us Q I r h
  obtain ⟨a, dx, fs, rfl, ha, want⟩ := h
  obtain ⟨u, rfl, ru⟩ := vals1 r
  obtain rfl : u = Value.ref a := ru
  obtain ⟨f, fd, ps, ds, hc, me, F, bd, dv⟩ := c.ex
  obtain ⟨mA, J, _⟩ := ins_get I.hok ha
  obtain ⟨od, J, _⟩ := J.look
  have hu := hr.u
  refine PySem.W.kso_call (by show X.A.units + 1 + 1 < cLine; omega) I.kIn J me.at_ me.fn ?_
  refine wpAny_mono (goG (Q := fun v H' => ∃ z, v = .str z ∧ Q (.str z) H') (us := [.ref a]) (vs := [.ref a]) (dvs := []) F (((hr.in1).in1).mono hk) rfl bd dv (passL _ _) I (.cons rfl .nil) (by rw [List.append_nil]; exact want)) (fun v s' hv => ?_) fun _ _ e => e
  obtain ⟨v1, H1, I1, r1, z, e1, q⟩ := hv
  subst e1
  obtain ⟨tk, rfl⟩ := r1
  exact ⟨.str z, H1, I1, ⟨tk, rfl⟩, q⟩
end
/-! ### f-strings -/
section
variable {σ : L2.St} {H : Hp} {Q : VK} {QS : Str → Hp → Prop} {te : TE} {ts : List TE} {acc y : Str} {i : Int}
def kJs (ts : List TE) (acc : Str) (σ : L2.St) (QS : Str → Hp → Prop) : VK := fun x H1 => ∃ y : Str, x = .str y ∧ (acc ++ y).length ≤ sizeLine ∧ tJs ts (acc ++ y) σ H1 QS
def kFmt (Q : VK) : VK := fun x H1 => (∃ y : Str, x = .str y ∧ y.length ≤ sizeLine ∧ Q (.str y) H1) ∨ ∃ i : Int, x = .int i ∧ i.natAbs.log2 < 1920 ∧ Q (.str (toString i)) H1
theorem u_js (h : te σ H (kJs ts acc σ QS)) : tJs (te :: ts) acc σ H QS := h
theorem u_js0 (h : QS acc H) : tJs [] acc σ H QS := h
theorem u_fmt (h : te σ H (kFmt Q)) : tFmt te σ H Q := h
theorem k_fmtS (h0 : y.length ≤ sizeLine) (h : Q (.str y) H) : kFmt Q (.str y) H := .inl ⟨y, rfl, h0, h⟩
theorem k_fmtI (h0 : i.natAbs.log2 < 1920) (h : Q (.str (toString i)) H) : kFmt Q (.int i) H := .inr ⟨i, rfl, h0, h⟩
theorem k_js (h0 : (acc ++ y).length ≤ sizeLine) (h : tJs ts (acc ++ y) σ H QS) : kJs ts acc σ QS (.str y) H := ⟨y, rfl, h0, h⟩
theorem log_small (h : i.natAbs < 2 ^ 128) : i.natAbs.log2 < 1920 := by
  by_cases z : i.natAbs = 0
  · rw [z]; decide
  · exact Nat.lt_trans ((Nat.log2_lt z).mpr h) (by decide)
theorem text_len (h : i.natAbs < 10 ^ 40) : (Str.ofString (toString i)).length ≤ 41 := by
  rw [PySem.ofString_length]
  exact int_text_length_le10 (k := 40) (by decide) h
end
/-! ### either of two rules -/
section
variable {X : Cx}
theorem ix_or {A B : R2} (h1 : IxR X A) (h2 : IxR X B) : IxR X (fun x y H Q => A x y H Q ∨ B x y H Q) := by
  intro value slice pins s σ H x y v u Q I rx ry h hs
  rcases h with h | h
  · exact h1 value slice pins s σ H x y v u Q I rx ry h hs
  · exact h2 value slice pins s σ H x y v u Q I rx ry h hs
theorem call_or {f : Value} {A B : List V → Hp → VK → Prop} (h1 : CallR X f A) (h2 : CallR X f B) : CallR X f (fun xs H Q => A xs H Q ∨ B xs H Q) := by
  intro pins s σ H xs us Q I r h
  rcases h with h | h
  · exact h1 pins s σ H xs us Q I r h
  · exact h2 pins s σ H xs us Q I r h
theorem op_or {f : Value → Value → Sem Value} {A B : R2} (h1 : OpR X f A) (h2 : OpR X f B) : OpR X f (fun x y H Q => A x y H Q ∨ B x y H Q) := by
  intro pins s σ H x y v u Q I rx ry h
  rcases h with h | h
  · exact h1 pins s σ H x y v u Q I rx ry h
  · exact h2 pins s σ H x y v u Q I rx ry h
end
end Tw

/-! The mirror layer: values as trees, what may change as cells; readings over trees. -/
namespace Mr
open PySem PySem.Spec PyProof.Rows L2 Tw

/-- kinds of values: built-in ones, own classes by number -/
inductive Ty where
  | non | bool | int | str | list | tup | dict | own (c : Nat) | vex
  deriving DecidableEq
def Ty.v (cl : Nat → Addr) : Ty → V
  | .non => .ty "NoneType" | .bool => .ty "bool" | .int => .ty "int" | .str => .ty "str" | .list => .ty "list" | .tup => .ty "tuple" | .dict => .ty "dict" | .own c => .ref (cl c) | .vex => .ty "ValueError"
def Ty.u (cl : Nat → Addr) : Ty → Value
  | .non => .type "NoneType" | .bool => .type "bool" | .int => .type "int" | .str => .type "str" | .list => .type "list" | .tup => .type "tuple" | .dict => .type "dict" | .own c => .ref (cl c) | .vex => .type "ValueError"
theorem Ty.cls (cl : Nat → Addr) : ∀ k : Ty, ClsV (k.v cl) (k.u cl)
  | .non => .ty _ | .bool => .ty _ | .int => .ty _ | .str => .ty _ | .list => .ty _ | .tup => .ty _ | .dict => .ty _ | .own _ => .own _ | .vex => .ty _
/-- a value as a tree; what may change later is a cell -/
inductive T where
  | non | bl (b : Bool) | int (i : Int) | str (z : Str)
  | lst (xs : List T) | tup (xs : List T) | dct (kvs : List (Key × T))
  | obj (c : Nat) (fs : List (Str × T)) | err (c : Nat) (fs : List (Str × T))
  | cell (a : Addr) | pen | ty (k : Ty)
inductive Cell where
  | lst (xs : List T) | obj (c : Nat) (fs : List (Str × T)) | dct (kvs : List (Key × T))
/-- the pen's place and how far it is, the cells -/
structure S where
  pa : Option Addr
  pen : Nat
  on : Addr → Option Cell
def S.mut (s : S) (a : Addr) : Prop := s.pa = some a ∨ s.on a ≠ none
def S.put (s : S) (a : Addr) (c : Cell) : S := { s with on := fun b => if b = a then some c else s.on b }
def S.del (s : S) (a : Addr) : S := { s with on := fun b => if b = a then none else s.on b }
def S.pn (s : S) (n : Nat) : S := { s with pen := n }
/-- an error: its class, its fields -/
structure Er where
  c : Nat
  fs : List (Str × T)

theorem S.put_same (s : S) (a : Addr) (c : Cell) : (s.put a c).on a = some c := if_pos rfl
theorem S.put_ne {s : S} {a b : Addr} {c : Cell} (h : b ≠ a) : (s.put a c).on b = s.on b := if_neg h
theorem S.del_put {s : S} {a : Addr} {c : Cell} (h : s.on a = none) : (s.put a c).del a = s := by
  unfold S.put S.del
  cases s with
  | mk p n o =>
    congr 1
    funext b
    show (if b = a then none else if b = a then some c else o b) = o b
    by_cases e : b = a
    · rw [if_pos e, e]
      exact h.symm
    · rw [if_neg e, if_neg e]
theorem S.put_put (s : S) (a : Addr) (c d : Cell) : (s.put a c).put a d = s.put a d := by
  unfold S.put
  congr 1
  funext b
  show (if b = a then some d else if b = a then some c else s.on b) = _
  by_cases e : b = a
  · rw [if_pos e, if_pos e]
  · rw [if_neg e, if_neg e, if_neg e]
theorem S.put_pn (s : S) (a : Addr) (c : Cell) (n : Nat) : (s.put a c).pn n = (s.pn n).put a c := rfl
theorem S.pn_pn (s : S) (n m : Nat) : (s.pn n).pn m = s.pn m := rfl
theorem S.pn_on (s : S) (n : Nat) : (s.pn n).on = s.on := rfl
theorem S.pn_pen (s : S) (n : Nat) : (s.pn n).pen = n := rfl
theorem S.put_pen (s : S) (a : Addr) (c : Cell) : (s.put a c).pen = s.pen := rfl
theorem S.pn_self (s : S) : s.pn s.pen = s := rfl

/-- a thing at a never changes: no cell, not hidden -/
def Fz (Z : Addr → Prop) (s : S) (a : Addr) : Prop := ¬ s.mut a ∧ ¬ Z a
section
variable (K : PySem.W.Frag) (cl : Nat → Addr) (Z : Addr → Prop)
mutual
/-- the value v of the heap is the tree t -/
inductive Rep (s : S) (H : Hp) : V → T → Prop
  | non : Rep s H .non .non
  | bl (b : Bool) : Rep s H (.bl b) (.bl b)
  | int (i : Int) : Rep s H (.int i) (.int i)
  | str (z : Str) : Rep s H (.str z) (.str z)
  | lst {a : Addr} {vs : List V} {xs : List T} : H a = some (.lst vs) → Fz Z s a → Reps s H vs xs → Rep s H (.ref a) (.lst xs)
  | tup {a : Addr} {vs : List V} {xs : List T} : H a = some (.tup vs) → Fz Z s a → Reps s H vs xs → Rep s H (.ref a) (.tup xs)
  | tupK {a : Addr} {vs : List V} {xs : List T} {o : Obj} {its : Array Value} {n : Nat} : K.lookup a = some o → o.cls = .type "tuple" → o.data = .seq its n → its.size ≤ sizeLine → Vals vs its.toList → Reps s H vs xs → Rep s H (.ref a) (.tup xs)
  | dct {a : Addr} {kvv : List (Key × V)} {kvs : List (Key × T)} : H a = some (.dK kvv) → Fz Z s a → RepK s H kvv kvs → Rep s H (.ref a) (.dct kvs)
  | obj {a dx : Addr} {c : Nat} {fvs : List (Str × V)} {fs : List (Str × T)} : H a = some (.ins (cl c) dx fvs) → Fz Z s a → RepF s H fvs fs → Rep s H (.ref a) (.obj c fs)
  | err {a d : Addr} {c : Nat} {fvs : List (Str × V)} {fs : List (Str × T)} : H a = some (exV (cl c) a d) → Fz Z s a → H d = some (.xd fvs) → Fz Z s d → RepF s H fvs fs → Rep s H (.ref a) (.err c fs)
  | cell (a : Addr) : Rep s H (.ref a) (.cell a)
  | pen {a : Addr} : s.pa = some a → Rep s H (.ref a) .pen
  | ty (k : Ty) : Rep s H (k.v cl) (.ty k)
inductive Reps (s : S) (H : Hp) : List V → List T → Prop
  | nil : Reps s H [] []
  | cons {v : V} {t : T} {vs : List V} {ts : List T} : Rep s H v t → Reps s H vs ts → Reps s H (v :: vs) (t :: ts)
inductive RepF (s : S) (H : Hp) : List (Str × V) → List (Str × T) → Prop
  | nil : RepF s H [] []
  | cons {f : Str} {v : V} {t : T} {vs : List (Str × V)} {ts : List (Str × T)} : Rep s H v t → RepF s H vs ts → RepF s H ((f, v) :: vs) ((f, t) :: ts)
inductive RepK (s : S) (H : Hp) : List (Key × V) → List (Key × T) → Prop
  | nil : RepK s H [] []
  | cons {k : Key} {v : V} {t : T} {vs : List (Key × V)} {ts : List (Key × T)} : Rep s H v t → RepK s H vs ts → RepK s H ((k, v) :: vs) ((k, t) :: ts)
end

/-- from (s, H) on to (s', H'): what may not change stands -/
structure Fut (s : S) (H : Hp) (s' : S) (H' : Hp) : Prop where
  keep : ∀ b o, H b = some o → ¬ s.mut b → H' b = some o ∧ ¬ s'.mut b
  pa : ∀ a, s.pa = some a → s'.pa = some a
theorem Fut.refl (s : S) (H : Hp) : Fut s H s H := ⟨fun _ _ h n => ⟨h, n⟩, fun _ h => h⟩
theorem Fut.trans {s s1 s2 : S} {H H1 H2 : Hp} (a : Fut s H s1 H1) (b : Fut s1 H1 s2 H2) : Fut s H s2 H2 :=
  ⟨fun c o h n => by
    obtain ⟨h1, n1⟩ := a.keep c o h n
    exact b.keep c o h1 n1, fun c h => b.pa c (a.pa c h)⟩
variable {K cl Z}
theorem Fz.fut {s s' : S} {H H' : Hp} {a : Addr} {u : HO} (n : Fz Z s a) (f : Fut s H s' H') (h : H a = some u) : Fz Z s' a := ⟨(f.keep a _ h n.1).2, n.2⟩
mutual
theorem Rep.fut {s s' : S} {H H' : Hp} (f : Fut s H s' H') : ∀ {v : V} {t : T}, Rep K cl Z s H v t → Rep K cl Z s' H' v t
  | _, _, .non => .non
  | _, _, .bl b => .bl b
  | _, _, .int i => .int i
  | _, _, .str z => .str z
  | _, _, .lst h n r => .lst (f.keep _ _ h n.1).1 (n.fut f h) (r.fut f)
  | _, _, .tup h n r => .tup (f.keep _ _ h n.1).1 (n.fut f h) (r.fut f)
  | _, _, .tupK a b d e g r => .tupK a b d e g (r.fut f)
  | _, _, .dct h n r => .dct (f.keep _ _ h n.1).1 (n.fut f h) (r.fut f)
  | _, _, .obj h n r => .obj (f.keep _ _ h n.1).1 (n.fut f h) (r.fut f)
  | _, _, .err h n h2 n2 r => .err (f.keep _ _ h n.1).1 (n.fut f h) (f.keep _ _ h2 n2.1).1 (n2.fut f h2) (r.fut f)
  | _, _, .cell a => .cell a
  | _, _, .pen h => .pen (f.pa _ h)
  | _, _, .ty n => .ty n
theorem Reps.fut {s s' : S} {H H' : Hp} (f : Fut s H s' H') : ∀ {vs : List V} {ts : List T}, Reps K cl Z s H vs ts → Reps K cl Z s' H' vs ts
  | _, _, .nil => .nil
  | _, _, .cons h r => .cons (h.fut f) (r.fut f)
theorem RepF.fut {s s' : S} {H H' : Hp} (f : Fut s H s' H') : ∀ {vs : List (Str × V)} {ts : List (Str × T)}, RepF K cl Z s H vs ts → RepF K cl Z s' H' vs ts
  | _, _, .nil => .nil
  | _, _, .cons h r => .cons (h.fut f) (r.fut f)
theorem RepK.fut {s s' : S} {H H' : Hp} (f : Fut s H s' H') : ∀ {vs : List (Key × V)} {ts : List (Key × T)}, RepK K cl Z s H vs ts → RepK K cl Z s' H' vs ts
  | _, _, .nil => .nil
  | _, _, .cons h r => .cons (h.fut f) (r.fut f)
end
theorem Reps.length {s : S} {H : Hp} : ∀ {vs : List V} {ts : List T}, Reps K cl Z s H vs ts → vs.length = ts.length
  | _, _, .nil => rfl
  | _, _, .cons _ r => congrArg (· + 1) r.length
theorem Reps.append {s : S} {H : Hp} {vs' : List V} {ts' : List T} : ∀ {vs : List V} {ts : List T}, Reps K cl Z s H vs ts → Reps K cl Z s H vs' ts' → Reps K cl Z s H (vs ++ vs') (ts ++ ts')
  | _, _, .nil, q => q
  | _, _, .cons h r, q => .cons h (Reps.append r q)
theorem Reps.get {s : S} {H : Hp} : ∀ {vs : List V} {ts : List T} (i : Nat) {t : T}, Reps K cl Z s H vs ts → ts[i]? = some t → ∃ v, vs[i]? = some v ∧ Rep K cl Z s H v t
  | _, _, i, _, .nil, e => by simp at e
  | _, _, 0, _, .cons h _, e => by
    rw [List.getElem?_cons_zero] at e
    cases e
    exact ⟨_, List.getElem?_cons_zero, h⟩
  | _, _, i + 1, _, .cons _ r, e => by
    rw [List.getElem?_cons_succ] at e
    obtain ⟨v, e1, h1⟩ := r.get i e
    exact ⟨v, by rw [List.getElem?_cons_succ]; exact e1, h1⟩
theorem Reps.getV {s : S} {H : Hp} : ∀ {vs : List V} {ts : List T} (i : Nat) {v : V}, Reps K cl Z s H vs ts → vs[i]? = some v → ∃ t, ts[i]? = some t ∧ Rep K cl Z s H v t
  | _, _, i, _, .nil, e => by simp at e
  | _, _, 0, _, .cons h _, e => by
    rw [List.getElem?_cons_zero] at e
    cases e
    exact ⟨_, List.getElem?_cons_zero, h⟩
  | _, _, i + 1, _, .cons _ r, e => by
    rw [List.getElem?_cons_succ] at e
    obtain ⟨v, e1, h1⟩ := r.getV i e
    exact ⟨v, by rw [List.getElem?_cons_succ]; exact e1, h1⟩
theorem Reps.take {s : S} {H : Hp} : ∀ {vs : List V} {ts : List T} (n : Nat), Reps K cl Z s H vs ts → Reps K cl Z s H (vs.take n) (ts.take n)
  | _, _, 0, _ => by rw [List.take_zero, List.take_zero]; exact .nil
  | _, _, _ + 1, .nil => .nil
  | _, _, n + 1, .cons h r => .cons h (r.take n)
theorem Reps.drop {s : S} {H : Hp} : ∀ {vs : List V} {ts : List T} (n : Nat), Reps K cl Z s H vs ts → Reps K cl Z s H (vs.drop n) (ts.drop n)
  | _, _, 0, r => r
  | _, _, _ + 1, .nil => .nil
  | _, _, n + 1, .cons _ r => r.drop n
theorem Reps.set {s : S} {H : Hp} {v : V} {t : T} (q : Rep K cl Z s H v t) : ∀ {vs : List V} {ts : List T} (n : Nat), Reps K cl Z s H vs ts → Reps K cl Z s H (vs.set n v) (ts.set n t)
  | _, _, _, .nil => .nil
  | _, _, 0, .cons _ r => .cons q r
  | _, _, n + 1, .cons h r => .cons h (r.set q n)
theorem Reps.reverse {s : S} {H : Hp} : ∀ {vs : List V} {ts : List T}, Reps K cl Z s H vs ts → Reps K cl Z s H vs.reverse ts.reverse
  | _, _, .nil => .nil
  | _, _, .cons h r => by
    rw [List.reverse_cons, List.reverse_cons]
    exact Reps.append r.reverse (.cons h .nil)
theorem Reps.replicate {s : S} {H : Hp} {v : V} {t : T} (q : Rep K cl Z s H v t) : ∀ n : Nat, Reps K cl Z s H (List.replicate n v) (List.replicate n t)
  | 0 => .nil
  | n + 1 => by rw [List.replicate_succ, List.replicate_succ]; exact .cons q (Reps.replicate q n)
theorem RepF.lookup {s : S} {H : Hp} : ∀ {vs : List (Str × V)} {ts : List (Str × T)} {f : Str} {t : T}, RepF K cl Z s H vs ts → ts.lookup f = some t → ∃ v, vs.lookup f = some v ∧ Rep K cl Z s H v t
  | _, _, f, _, .nil, e => by simp at e
  | _, _, f, _, .cons (f := g) h r, e => by
    rw [List.lookup_cons] at e ⊢
    by_cases q : (f == g) = true
    · rw [q] at e ⊢
      cases e
      exact ⟨_, rfl, h⟩
    · rw [Bool.not_eq_true] at q
      rw [q] at e ⊢
      exact r.lookup e
theorem RepF.lookup0 {s : S} {H : Hp} : ∀ {vs : List (Str × V)} {ts : List (Str × T)} {f : Str}, RepF K cl Z s H vs ts → ts.lookup f = none → vs.lookup f = none
  | _, _, f, .nil, _ => rfl
  | _, _, f, .cons (f := g) h r, e => by
    rw [List.lookup_cons] at e ⊢
    by_cases q : (f == g) = true
    · rw [q] at e
      cases e
    · rw [Bool.not_eq_true] at q
      rw [q] at e ⊢
      exact r.lookup0 e
def putT (f : Str) (t : T) : List (Str × T) → List (Str × T)
  | [] => [(f, t)]
  | (g, x) :: r => if g = f then (g, t) :: r else (g, x) :: putT f t r
theorem RepF.put {s : S} {H : Hp} {f : Str} {v : V} {t : T} (q : Rep K cl Z s H v t) : ∀ {vs : List (Str × V)} {ts : List (Str × T)}, RepF K cl Z s H vs ts → RepF K cl Z s H (putF f v vs) (putT f t ts)
  | _, _, .nil => .cons q .nil
  | _, _, .cons (f := g) h r => by
    unfold putF putT
    by_cases e : g = f
    · rw [if_pos e, if_pos e]
      exact .cons q r
    · rw [if_neg e, if_neg e]
      exact .cons h (r.put q)
theorem RepF.length {s : S} {H : Hp} : ∀ {vs : List (Str × V)} {ts : List (Str × T)}, RepF K cl Z s H vs ts → vs.length = ts.length
  | _, _, .nil => rfl
  | _, _, .cons _ r => congrArg (· + 1) r.length
theorem RepF.zip {s : S} {H : Hp} : ∀ {fs : List Str} {vs : List V} {ts : List T}, Reps K cl Z s H vs ts → RepF K cl Z s H (fs.zip vs) (fs.zip ts)
  | [], _, _, _ => by rw [List.zip_nil_left, List.zip_nil_left]; exact .nil
  | _ :: _, _, _, .nil => .nil
  | _ :: _, _, _, .cons h r => .cons h (RepF.zip r)

/-! ### the store -/
def PenOk (Z : Addr → Prop) (s : S) (H : Hp) (p : Addr) (n : Nat) : Prop := ∃ (L : Addr) (a r : Int) (ns : List Int), H p = some (.lst [.ref L, .int a, .int r]) ∧ H L = some (.lst (ns.map V.int)) ∧ Fz Z s L ∧ 0 ≤ a ∧ a ≤ n ∧ ns.length ≤ 63
def CRep (K : PySem.W.Frag) (cl : Nat → Addr) (Z : Addr → Prop) (s : S) (H : Hp) (a : Addr) : Cell → Prop
  | .lst xs => ∃ vs, H a = some (.lst vs) ∧ Reps K cl Z s H vs xs
  | .obj c fs => ∃ dx fvs, H a = some (.ins (cl c) dx fvs) ∧ RepF K cl Z s H fvs fs
  | .dct kvs => ∃ kvv, H a = some (.dK kvv) ∧ RepK K cl Z s H kvv kvs
theorem CRep.some {s : S} {H : Hp} {a : Addr} {c : Cell} (h : CRep K cl Z s H a c) : ∃ o, H a = some o := by
  cases c with
  | lst xs => exact ⟨_, h.choose_spec.1⟩
  | obj c fs => exact ⟨_, h.choose_spec.choose_spec.1⟩
  | dct kvs => exact ⟨_, h.choose_spec.1⟩
theorem CRep.at {s s' : S} {H H' : Hp} {a : Addr} {c : Cell} (f : Fut s H s' H') (e : H' a = H a) (h : CRep K cl Z s H a c) : CRep K cl Z s' H' a c := by
  cases c with
  | lst xs =>
    obtain ⟨vs, h1, h2⟩ := h
    exact ⟨vs, e.trans h1, h2.fut f⟩
  | obj c fs =>
    obtain ⟨dx, fvs, h1, h2⟩ := h
    exact ⟨dx, fvs, e.trans h1, h2.fut f⟩
  | dct kvs =>
    obtain ⟨kvv, h1, h2⟩ := h
    exact ⟨kvv, e.trans h1, h2.fut f⟩
structure Sto (K : PySem.W.Frag) (cl : Nat → Addr) (Z : Addr → Prop) (s : S) (H : Hp) : Prop where
  pen : ∀ p, s.pa = some p → PenOk Z s H p s.pen
  cells : ∀ a c, s.on a = some c → CRep K cl Z s H a c
  apart : ∀ p, s.pa = some p → s.on p = none
  hid : ∀ b, Z b → ¬ s.mut b ∧ ∃ o, H b = some o
theorem Sto.ne {s : S} {H : Hp} {p a : Addr} (so : Sto K cl Z s H) (hp : H p = none) (hm : s.mut a) : a ≠ p := by
  intro e
  subst e
  rcases hm with h | h
  · obtain ⟨L, x, r, ns, h1, _⟩ := so.pen a h
    rw [hp] at h1
    cases h1
  · obtain ⟨c, hc⟩ := Option.ne_none_iff_exists'.mp h
    obtain ⟨o, ho⟩ := (so.cells a c hc).some
    rw [hp] at ho
    cases ho
/-- a new thing that will not change -/
theorem Fut.new {s : S} {H : Hp} {p : Addr} {o : HO} (hp : H p = none) : Fut s H s (upd H p o) :=
  ⟨fun b u h n => ⟨by rw [upd_ne (ne_of_none h hp)]; exact h, n⟩, fun _ h => h⟩
theorem Sto.new {s : S} {H : Hp} {p : Addr} {o : HO} (so : Sto K cl Z s H) (hp : H p = none) : Sto K cl Z s (upd H p o) where
  pen := fun q hq => by
    obtain ⟨L, a, r, ns, h1, h2, h3, h4⟩ := so.pen q hq
    exact ⟨L, a, r, ns, by rw [upd_ne (ne_of_none h1 hp)]; exact h1, by rw [upd_ne (ne_of_none h2 hp)]; exact h2, h3, h4⟩
  cells := fun a c h => (so.cells a c h).at (Fut.new hp) (upd_ne (so.ne hp (.inr (by rw [h]; exact Option.some_ne_none c))))
  apart := so.apart
  hid := fun b hb => by
    obtain ⟨n, o, ho⟩ := so.hid b hb
    exact ⟨n, o, by rw [upd_ne (ne_of_none ho hp)]; exact ho⟩
theorem Sto.nomut {s : S} {H : Hp} {p : Addr} (so : Sto K cl Z s H) (hp : H p = none) : Fz Z s p := ⟨fun m => so.ne hp m rfl, fun z => by
  obtain ⟨_, o, ho⟩ := so.hid p z
  rw [hp] at ho
  cases ho⟩
theorem mut_put {s : S} {a b : Addr} {c : Cell} (h : b ≠ a) : (s.put a c).mut b ↔ s.mut b := by
  unfold S.mut
  rw [S.put_ne h]
  exact Iff.rfl
/-- a new cell -/
theorem Fut.newC {s : S} {H : Hp} {p : Addr} {o : HO} {c : Cell} (hp : H p = none) : Fut s H (s.put p c) (upd H p o) :=
  ⟨fun b u h n => ⟨by rw [upd_ne (ne_of_none h hp)]; exact h, fun m => n ((mut_put (ne_of_none h hp)).mp m)⟩, fun _ h => h⟩
theorem Sto.newC {s : S} {H : Hp} {p : Addr} {o : HO} {c : Cell} (so : Sto K cl Z s H) (hp : H p = none) (hc : CRep K cl Z (s.put p c) (upd H p o) p c) : Sto K cl Z (s.put p c) (upd H p o) where
  pen := fun q hq => by
    obtain ⟨L, a, r, ns, h1, h2, h3, h4⟩ := so.pen q hq
    exact ⟨L, a, r, ns, by rw [upd_ne (ne_of_none h1 hp)]; exact h1, by rw [upd_ne (ne_of_none h2 hp)]; exact h2, ⟨fun m => h3.1 ((mut_put (ne_of_none h2 hp)).mp m), h3.2⟩, h4⟩
  cells := fun a c' h => by
    by_cases e : a = p
    · subst e
      rw [S.put_same] at h
      cases h
      exact hc
    · rw [S.put_ne e] at h
      exact (so.cells a c' h).at (Fut.newC hp) (upd_ne e)
  apart := fun q hq => by
    have n : q ≠ p := so.ne hp (.inl hq)
    rw [S.put_ne n]
    exact so.apart q hq
  hid := fun b hb => by
    obtain ⟨n, o, ho⟩ := so.hid b hb
    have e := ne_of_none ho hp
    exact ⟨fun m => n ((mut_put e).mp m), o, by rw [upd_ne e]; exact ho⟩
/-- a cell changes -/
theorem Fut.cell {s : S} {H : Hp} {a : Addr} {o : HO} {c : Cell} (h : s.on a ≠ none) : Fut s H (s.put a c) (upd H a o) :=
  ⟨fun b u hb n => by
    have e : b ≠ a := fun e => n (.inr (by rw [e]; exact h))
    exact ⟨by rw [upd_ne e]; exact hb, fun m => n ((mut_put e).mp m)⟩, fun _ h => h⟩
theorem Sto.cell {s : S} {H : Hp} {a : Addr} {o : HO} {c : Cell} (so : Sto K cl Z s H) (h : s.on a ≠ none) (hc : CRep K cl Z (s.put a c) (upd H a o) a c) : Sto K cl Z (s.put a c) (upd H a o) where
  pen := fun q hq => by
    obtain ⟨L, x, r, ns, h1, h2, h3, h4⟩ := so.pen q hq
    have e1 : q ≠ a := fun e => h (by rw [← e]; exact so.apart q hq)
    have e2 : L ≠ a := fun e => h3.1 (.inr (by rw [e]; exact h))
    exact ⟨L, x, r, ns, by rw [upd_ne e1]; exact h1, by rw [upd_ne e2]; exact h2, ⟨fun m => h3.1 ((mut_put e2).mp m), h3.2⟩, h4⟩
  cells := fun b c' hb => by
    by_cases e : b = a
    · subst e
      rw [S.put_same] at hb
      cases hb
      exact hc
    · rw [S.put_ne e] at hb
      exact (so.cells b c' hb).at (Fut.cell h) (upd_ne e)
  apart := fun q hq => by
    have n : q ≠ a := fun e => h (by rw [← e]; exact so.apart q hq)
    rw [S.put_ne n]
    exact so.apart q hq
  hid := fun b hb => by
    obtain ⟨n, o, ho⟩ := so.hid b hb
    have e : b ≠ a := fun e => n (.inr (by rw [e]; exact h))
    exact ⟨fun m => n ((mut_put e).mp m), o, by rw [upd_ne e]; exact ho⟩
/-- a cell is no cell any more -/
theorem mut_del {s : S} {a b : Addr} (m : (s.del a).mut b) : s.mut b := by
  rcases m with m | m
  · exact .inl m
  · refine .inr fun e => m ?_
    show (if b = a then none else s.on b) = none
    rw [e]
    split <;> rfl
theorem Fut.del (s : S) (H : Hp) (a : Addr) : Fut s H (s.del a) H := ⟨fun _ _ h n => ⟨h, fun m => n (mut_del m)⟩, fun _ h => h⟩
theorem del_on {s : S} {a b : Addr} {c : Cell} (h : (s.del a).on b = some c) : s.on b = some c ∧ b ≠ a := by
  have h' : (if b = a then none else s.on b) = some c := h
  by_cases e : b = a
  · rw [if_pos e] at h'
    cases h'
  · rw [if_neg e] at h'
    exact ⟨h', e⟩
theorem Sto.del {s : S} {H : Hp} (so : Sto K cl Z s H) (a : Addr) : Sto K cl Z (s.del a) H where
  pen := fun q hq => by
    obtain ⟨L, x, r, ns, h1, h2, h3, h4⟩ := so.pen q hq
    exact ⟨L, x, r, ns, h1, h2, ⟨fun m => h3.1 (mut_del m), h3.2⟩, h4⟩
  cells := fun b c hb => (so.cells b c (del_on hb).1).at (Fut.del s H a) rfl
  apart := fun q hq => by
    show (if q = a then none else s.on q) = none
    rw [so.apart q hq]
    split <;> rfl
  hid := fun b hb => ⟨fun m => (so.hid b hb).1 (mut_del m), (so.hid b hb).2⟩
theorem nomut_del {s : S} {H : Hp} {a : Addr} {c : Cell} (so : Sto K cl Z s H) (h : s.on a = some c) : Fz Z (s.del a) a := by
  refine ⟨?_, fun z => (so.hid a z).1 (.inr (by rw [h]; exact Option.some_ne_none c))⟩
  rintro (m | m)
  · have e := so.apart a m
    rw [h] at e
    cases e
  · exact m (if_pos rfl)
/-- the pen goes on -/
theorem Fut.pen {s : S} {H H' : Hp} {p : Addr} {n : Nat} (hp : s.pa = some p) (k : ∀ b o, b ≠ p → H b = some o → H' b = some o) : Fut s H (s.pn n) H' :=
  ⟨fun b o h m => ⟨k b o (fun e => m (.inl (by rw [e]; exact hp))) h, m⟩, fun _ h => h⟩
theorem Sto.pnn {s : S} {H H' : Hp} {p : Addr} {n : Nat} (so : Sto K cl Z s H) (hp : s.pa = some p) (k : ∀ b o, b ≠ p → H b = some o → H' b = some o)
    (h : ∃ (L : Addr) (a r : Int) (ns : List Int), H' p = some (.lst [.ref L, .int a, .int r]) ∧ H L = some (.lst (ns.map V.int)) ∧ L ≠ p ∧ Fz Z s L ∧ 0 ≤ a ∧ a ≤ n ∧ ns.length ≤ 63) : Sto K cl Z (s.pn n) H' where
  pen := fun q hq => by
    have e : p = q := by
      have z := hp.symm.trans hq
      injection z
    subst e
    obtain ⟨L, a, r, ns, h1, h2, h3, h4, h5⟩ := h
    exact ⟨L, a, r, ns, h1, k _ _ h3 h2, h4, h5⟩
  cells := fun b c hb => by
    have nb : b ≠ p := fun e => by
      have z := so.apart p hp
      rw [← e] at z
      have hb' : s.on b = some c := hb
      rw [z] at hb'
      cases hb'
    obtain ⟨o, ho⟩ := (so.cells b c hb).some
    exact (so.cells b c hb).at (Fut.pen hp k) ((k b o nb ho).trans ho.symm)
  apart := so.apart
  hid := fun b hb => by
    obtain ⟨n, o, ho⟩ := so.hid b hb
    exact ⟨n, o, k b o (fun e => n (.inl (by rw [e]; exact hp))) ho⟩
/-! ### what is hidden -/
abbrev Hide (Z : Addr → Prop) (D : Addr) : Addr → Prop := fun b => Z b ∨ b = D
mutual
theorem Rep.hide {s : S} {H H' : Hp} {D : Addr} (hD : H D = none) (k : ∀ b o, b ≠ D → H b = some o → H' b = some o) : ∀ {v : V} {t : T}, Rep K cl Z s H v t → Rep K cl (Hide Z D) s H' v t
  | _, _, .non => .non
  | _, _, .bl b => .bl b
  | _, _, .int i => .int i
  | _, _, .str z => .str z
  | _, _, .lst h n r => .lst (k _ _ (ne_of_none h hD) h) ⟨n.1, fun z => z.elim n.2 (ne_of_none h hD)⟩ (r.hide hD k)
  | _, _, .tup h n r => .tup (k _ _ (ne_of_none h hD) h) ⟨n.1, fun z => z.elim n.2 (ne_of_none h hD)⟩ (r.hide hD k)
  | _, _, .tupK a b d e g r => .tupK a b d e g (r.hide hD k)
  | _, _, .dct h n r => .dct (k _ _ (ne_of_none h hD) h) ⟨n.1, fun z => z.elim n.2 (ne_of_none h hD)⟩ (r.hide hD k)
  | _, _, .obj h n r => .obj (k _ _ (ne_of_none h hD) h) ⟨n.1, fun z => z.elim n.2 (ne_of_none h hD)⟩ (r.hide hD k)
  | _, _, .err h n h2 n2 r => .err (k _ _ (ne_of_none h hD) h) ⟨n.1, fun z => z.elim n.2 (ne_of_none h hD)⟩ (k _ _ (ne_of_none h2 hD) h2) ⟨n2.1, fun z => z.elim n2.2 (ne_of_none h2 hD)⟩ (r.hide hD k)
  | _, _, .cell a => .cell a
  | _, _, .pen h => .pen h
  | _, _, .ty n => .ty n
theorem Reps.hide {s : S} {H H' : Hp} {D : Addr} (hD : H D = none) (k : ∀ b o, b ≠ D → H b = some o → H' b = some o) : ∀ {vs : List V} {ts : List T}, Reps K cl Z s H vs ts → Reps K cl (Hide Z D) s H' vs ts
  | _, _, .nil => .nil
  | _, _, .cons h r => .cons (h.hide hD k) (r.hide hD k)
theorem RepF.hide {s : S} {H H' : Hp} {D : Addr} (hD : H D = none) (k : ∀ b o, b ≠ D → H b = some o → H' b = some o) : ∀ {vs : List (Str × V)} {ts : List (Str × T)}, RepF K cl Z s H vs ts → RepF K cl (Hide Z D) s H' vs ts
  | _, _, .nil => .nil
  | _, _, .cons h r => .cons (h.hide hD k) (r.hide hD k)
theorem RepK.hide {s : S} {H H' : Hp} {D : Addr} (hD : H D = none) (k : ∀ b o, b ≠ D → H b = some o → H' b = some o) : ∀ {vs : List (Key × V)} {ts : List (Key × T)}, RepK K cl Z s H vs ts → RepK K cl (Hide Z D) s H' vs ts
  | _, _, .nil => .nil
  | _, _, .cons h r => .cons (h.hide hD k) (r.hide hD k)
end
/-! the hidden thing at D changes -/
mutual
theorem Rep.turn {Z1 Z2 : Addr → Prop} {s : S} {H H' : Hp} (z : ∀ b, Z2 b → Z1 b) (k : ∀ b o, ¬ Z1 b → H b = some o → H' b = some o) : ∀ {v : V} {t : T}, Rep K cl Z1 s H v t → Rep K cl Z2 s H' v t
  | _, _, .non => .non
  | _, _, .bl b => .bl b
  | _, _, .int i => .int i
  | _, _, .str z => .str z
  | _, _, .lst h n r => .lst (k _ _ n.2 h) ⟨n.1, fun q => n.2 (z _ q)⟩ (r.turn z k)
  | _, _, .tup h n r => .tup (k _ _ n.2 h) ⟨n.1, fun q => n.2 (z _ q)⟩ (r.turn z k)
  | _, _, .tupK a b d e g r => .tupK a b d e g (r.turn z k)
  | _, _, .dct h n r => .dct (k _ _ n.2 h) ⟨n.1, fun q => n.2 (z _ q)⟩ (r.turn z k)
  | _, _, .obj h n r => .obj (k _ _ n.2 h) ⟨n.1, fun q => n.2 (z _ q)⟩ (r.turn z k)
  | _, _, .err h n h2 n2 r => .err (k _ _ n.2 h) ⟨n.1, fun q => n.2 (z _ q)⟩ (k _ _ n2.2 h2) ⟨n2.1, fun q => n2.2 (z _ q)⟩ (r.turn z k)
  | _, _, .cell a => .cell a
  | _, _, .pen h => .pen h
  | _, _, .ty n => .ty n
theorem Reps.turn {Z1 Z2 : Addr → Prop} {s : S} {H H' : Hp} (z : ∀ b, Z2 b → Z1 b) (k : ∀ b o, ¬ Z1 b → H b = some o → H' b = some o) : ∀ {vs : List V} {ts : List T}, Reps K cl Z1 s H vs ts → Reps K cl Z2 s H' vs ts
  | _, _, .nil => .nil
  | _, _, .cons h r => .cons (h.turn z k) (r.turn z k)
theorem RepF.turn {Z1 Z2 : Addr → Prop} {s : S} {H H' : Hp} (z : ∀ b, Z2 b → Z1 b) (k : ∀ b o, ¬ Z1 b → H b = some o → H' b = some o) : ∀ {vs : List (Str × V)} {ts : List (Str × T)}, RepF K cl Z1 s H vs ts → RepF K cl Z2 s H' vs ts
  | _, _, .nil => .nil
  | _, _, .cons h r => .cons (h.turn z k) (r.turn z k)
theorem RepK.turn {Z1 Z2 : Addr → Prop} {s : S} {H H' : Hp} (z : ∀ b, Z2 b → Z1 b) (k : ∀ b o, ¬ Z1 b → H b = some o → H' b = some o) : ∀ {vs : List (Key × V)} {ts : List (Key × T)}, RepK K cl Z1 s H vs ts → RepK K cl Z2 s H' vs ts
  | _, _, .nil => .nil
  | _, _, .cons h r => .cons (h.turn z k) (r.turn z k)
end
theorem CRep.move {Z2 : Addr → Prop} {s : S} {H H' : Hp} {a : Addr} {c : Cell} (e : H' a = H a) (h : CRep K cl Z s H a c) (i : ∀ {vs : List V} {ts : List T}, Reps K cl Z s H vs ts → Reps K cl Z2 s H' vs ts)
    (j : ∀ {vs : List (Str × V)} {ts : List (Str × T)}, RepF K cl Z s H vs ts → RepF K cl Z2 s H' vs ts) (l : ∀ {vs : List (Key × V)} {ts : List (Key × T)}, RepK K cl Z s H vs ts → RepK K cl Z2 s H' vs ts) : CRep K cl Z2 s H' a c := by
  cases c with
  | lst xs =>
    obtain ⟨vs, h1, h2⟩ := h
    exact ⟨vs, e.trans h1, i h2⟩
  | obj c fs =>
    obtain ⟨dx, fvs, h1, h2⟩ := h
    exact ⟨dx, fvs, e.trans h1, j h2⟩
  | dct kvs =>
    obtain ⟨kvv, h1, h2⟩ := h
    exact ⟨kvv, e.trans h1, l h2⟩
/-- a new hidden thing -/
theorem Sto.hide {s : S} {H : Hp} {D : Addr} {o : HO} (so : Sto K cl Z s H) (hD : H D = none) : Sto K cl (Hide Z D) s (upd H D o) := by
  have k : ∀ b u, b ≠ D → H b = some u → upd H D o b = some u := fun b u n h => by rw [upd_ne n]; exact h
  have s1 := so.new (o := o) hD
  refine ⟨fun p hp => ?_, fun a c h => ?_, s1.apart, fun b hb => ?_⟩
  · obtain ⟨L, a, r, ns, h1, h2, h3, h4⟩ := so.pen p hp
    exact ⟨L, a, r, ns, k _ _ (ne_of_none h1 hD) h1, k _ _ (ne_of_none h2 hD) h2, ⟨h3.1, fun z => z.elim h3.2 (ne_of_none h2 hD)⟩, h4⟩
  · exact (so.cells a c h).move (upd_ne (so.ne hD (.inr (by rw [h]; exact Option.some_ne_none c)))) (Reps.hide hD k) (RepF.hide hD k) (RepK.hide hD k)
  · rcases hb with hb | rfl
    · exact s1.hid b hb
    · exact ⟨(so.nomut hD).1, o, upd_same⟩
/-- it changes -/
theorem Sto.turn {s : S} {H : Hp} {D : Addr} {o : HO} (so : Sto K cl (Hide Z D) s H) : Sto K cl (Hide Z D) s (upd H D o) := by
  have nD := so.hid D (.inr rfl)
  have k : ∀ b u, ¬ Hide Z D b → H b = some u → upd H D o b = some u := fun b u n h => by rw [upd_ne (fun e => n (.inr e))]; exact h
  refine ⟨fun p hp => ?_, fun a c h => ?_, so.apart, fun b hb => ?_⟩
  · obtain ⟨L, a, r, ns, h1, h2, h3, h4⟩ := so.pen p hp
    have e1 : p ≠ D := fun e => nD.1 (.inl (by rw [← e]; exact hp))
    refine ⟨L, a, r, ns, by rw [upd_ne e1]; exact h1, ?_, h3, h4⟩
    by_cases e2 : L = D
    · exact absurd (.inr e2) h3.2
    · rw [upd_ne e2]
      exact h2
  · have e1 : a ≠ D := fun e => nD.1 (.inr (by rw [← e, h]; exact Option.some_ne_none c))
    exact (so.cells a c h).move (upd_ne e1) (Reps.turn (fun _ q => q) k) (RepF.turn (fun _ q => q) k) (RepK.turn (fun _ q => q) k)
  · by_cases e : b = D
    · subst e
      exact ⟨nD.1, o, upd_same⟩
    · obtain ⟨n, u, hu⟩ := so.hid b hb
      exact ⟨n, u, by rw [upd_ne e]; exact hu⟩
/-- it is hidden no more -/
theorem Sto.bare {s : S} {H : Hp} {D : Addr} (so : Sto K cl (Hide Z D) s H) : Sto K cl Z s H := by
  have k : ∀ b u, ¬ Hide Z D b → H b = some u → H b = some u := fun b u n h => h
  refine ⟨fun p hp => ?_, fun a c h => ?_, so.apart, fun b hb => so.hid b (.inl hb)⟩
  · obtain ⟨L, a, r, ns, h1, h2, h3, h4⟩ := so.pen p hp
    exact ⟨L, a, r, ns, h1, h2, ⟨h3.1, fun z => h3.2 (.inl z)⟩, h4⟩
  · exact (so.cells a c h).move rfl (Reps.turn (fun _ q => .inl q) k) (RepF.turn (fun _ q => .inl q) k) (RepK.turn (fun _ q => .inl q) k)
end
end Mr

/-! The mirror layer: judgements. -/
namespace Mr
open PySem PySem.Spec PyProof.Rows L2 Tw

abbrev Env := List (Option T)
abbrev KT := T → S → Prop
abbrev KX := Er → S → Prop
abbrev FE := Env → S → KT → KX → Prop
abbrev FT := Env → S → (Bool → S → Prop) → KX → Prop
abbrev FA := Env → S → (List T → S → Prop) → KX → Prop
structure DS where
  nx : Env → S → Prop
  rt : KT
  bk : Env → S → Prop
  ct : Env → S → Prop
  xr : Er → Env → S → Prop
abbrev FS := Env → S → DS → Prop
/-- what a def does, by its arguments -/
abbrev FD := List T → S → KT → KX → Prop
structure DS.Le (D D' : DS) : Prop where
  nx : ∀ τ s, D.nx τ s → D'.nx τ s
  rt : ∀ t s, D.rt t s → D'.rt t s
  bk : ∀ τ s, D.bk τ s → D'.bk τ s
  ct : ∀ τ s, D.ct τ s → D'.ct τ s
  xr : ∀ e τ s, D.xr e τ s → D'.xr e τ s

section
variable (K : PySem.W.Frag) (cl : Nat → Addr) (Z : Addr → Prop)
inductive REnv (s : S) (H : Hp) : L2.St → Env → Prop
  | nil : REnv s H [] []
  | c0 {σ : L2.St} {τ : Env} : REnv s H σ τ → REnv s H (none :: σ) (none :: τ)
  | c1 {v : V} {t : T} {σ : L2.St} {τ : Env} : Rep K cl Z s H v t → REnv s H σ τ → REnv s H (some v :: σ) (some t :: τ)
variable {K cl Z}
theorem REnv.fut {s s' : S} {H H' : Hp} (f : Fut s H s' H') : ∀ {σ : L2.St} {τ : Env}, REnv K cl Z s H σ τ → REnv K cl Z s' H' σ τ
  | _, _, .nil => .nil
  | _, _, .c0 r => .c0 (r.fut f)
  | _, _, .c1 h r =>   .c1 (h.fut f) (r.fut f)
theorem REnv.get {s : S} {H : Hp} : ∀ {σ : L2.St} {τ : Env} (i : Nat) {t : T}, REnv K cl Z s H σ τ → τ[i]? = some (some t) → ∃ v, σ[i]? = some (some v) ∧ Rep K cl Z s H v t
  | _, _, i, _, .nil, e => by simp at e
  | _, _, 0, _, .c0 _, e => by simp at e
  | _, _, 0, _, .c1 h _, e => by
    rw [List.getElem?_cons_zero] at e
    cases e
    exact ⟨_, List.getElem?_cons_zero, h⟩
  | _, _, i + 1, _, .c0 r, e => by
    rw [List.getElem?_cons_succ] at e
    obtain ⟨v, e1, h1⟩ := r.get i e
    exact ⟨v, by rw [List.getElem?_cons_succ]; exact e1, h1⟩
  | _, _, i + 1, _, .c1 _ r, e => by
    rw [List.getElem?_cons_succ] at e
    obtain ⟨v, e1, h1⟩ := r.get i e
    exact ⟨v, by rw [List.getElem?_cons_succ]; exact e1, h1⟩
theorem REnv.set {s : S} {H : Hp} {v : V} {t : T} (q : Rep K cl Z s H v t) : ∀ {σ : L2.St} {τ : Env} (i : Nat), REnv K cl Z s H σ τ → REnv K cl Z s H (σ.set i (some v)) (τ.set i (some t))
  | _, _, _, .nil => .nil
  | _, _, 0, .c0 r => .c1 q r
  | _, _, 0, .c1 _ r => .c1 q r
  | _, _, i + 1, .c0 r => .c0 (r.set q i)
  | _, _, i + 1, .c1 h r => .c1 h (r.set q i)
theorem REnv.set0 {s : S} {H : Hp} : ∀ {σ : L2.St} {τ : Env} (i : Nat), REnv K cl Z s H σ τ → REnv K cl Z s H (σ.set i none) (τ.set i none)
  | _, _, _, .nil => .nil
  | _, _, 0, .c0 r => .c0 r
  | _, _, 0, .c1 _ r => .c0 r
  | _, _, i + 1, .c0 r => .c0 (r.set0 i)
  | _, _, i + 1, .c1 h r => .c1 h (r.set0 i)
theorem REnv.nones {s : S} {H : Hp} : ∀ n : Nat, REnv K cl Z s H (List.replicate n none) (List.replicate n none)
  | 0 => .nil
  | n + 1 => by rw [List.replicate_succ, List.replicate_succ]; exact .c0 (REnv.nones n)
def startT (N : List Str) (ts : List T) : Env := ts.map some ++ List.replicate (N.length - ts.length) none
theorem REnv.start {s : S} {H : Hp} {N : List Str} {vs : List V} {ts : List T} (r : Reps K cl Z s H vs ts) : REnv K cl Z s H (L2.start N vs) (startT N ts) := by
  unfold L2.start startT
  rw [r.length]
  generalize N.length - ts.length = n
  induction r using Reps.rec (motive_1 := fun _ _ _ => True) (motive_3 := fun _ _ _ => True) (motive_4 := fun _ _ _ => True) with
  | nil => exact REnv.nones n
  | cons h _ _ ih => exact .c1 h ih
  | _ => trivial

/-- what is to hold behind, seen from (s, H) -/
def post (K : PySem.W.Frag) (cl : Nat → Addr) (Z : Addr → Prop) (s : S) (H : Hp) (Q : VK) : KT := fun t s' => ∀ v H', Fut s H s' H' → Rep K cl Z s' H' v t → Sto K cl Z s' H' → Q v H'
def postB (K : PySem.W.Frag) (cl : Nat → Addr) (Z : Addr → Prop) (s : S) (H : Hp) (Q : Bool → Hp → Prop) : Bool → S → Prop := fun b s' => ∀ H', Fut s H s' H' → Sto K cl Z s' H' → Q b H'
def postA (K : PySem.W.Frag) (cl : Nat → Addr) (Z : Addr → Prop) (s : S) (H : Hp) (Q : List V → Hp → Prop) : List T → S → Prop := fun ts s' => ∀ vs H', Fut s H s' H' → Reps K cl Z s' H' vs ts → Sto K cl Z s' H' → Q vs H'
def postX (K : PySem.W.Frag) (cl : Nat → Addr) (Z : Addr → Prop) (s : S) (H : Hp) (Q : XK) : KX := fun er s' => ∀ d fvs H', Fut s H s' H' → H' d = some (.xd fvs) → Fz Z s' d → RepF K cl Z s' H' fvs er.fs → Sto K cl Z s' H' → Q (.ref (cl er.c)) (some d) H'
def postW (K : PySem.W.Frag) (cl : Nat → Addr) (Z : Addr → Prop) (s : S) (H : Hp) (σ : L2.St) (W : WX) : KX := postX K cl Z s H fun c d H' => W c d σ H'
def postE (K : PySem.W.Frag) (cl : Nat → Addr) (Z : Addr → Prop) (s : S) (H : Hp) (Q : L2.St → Hp → Prop) : Env → S → Prop := fun τ s' => ∀ σ H', Fut s H s' H' → REnv K cl Z s' H' σ τ → Sto K cl Z s' H' → Q σ H'
def postXE (K : PySem.W.Frag) (cl : Nat → Addr) (Z : Addr → Prop) (s : S) (H : Hp) (W : WX) : Er → Env → S → Prop := fun er τ s' => ∀ d fvs σ H', Fut s H s' H' → H' d = some (.xd fvs) → Fz Z s' d → RepF K cl Z s' H' fvs er.fs → REnv K cl Z s' H' σ τ → Sto K cl Z s' H' → W (.ref (cl er.c)) (some d) σ H'
def postD (K : PySem.W.Frag) (cl : Nat → Addr) (Z : Addr → Prop) (s : S) (H : Hp) (W : WX) (D : Ends) : DS :=
  ⟨postE K cl Z s H D.nx, post K cl Z s H D.rt, postE K cl Z s H D.bk, postE K cl Z s H D.ct, postXE K cl Z s H W⟩
section
variable {s s1 s2 : S} {H H1 : Hp} {Q : VK} {W : WX} {σ : L2.St} {t : T} {er : Er} {D : Ends}
theorem post.up (f : Fut s H s1 H1) (h : post K cl Z s H Q t s2) : post K cl Z s1 H1 Q t s2 := fun v H' f' r so => h v H' (f.trans f') r so
theorem postB.up {QB : Bool → Hp → Prop} {b : Bool} (f : Fut s H s1 H1) (h : postB K cl Z s H QB b s2) : postB K cl Z s1 H1 QB b s2 := fun H' f' so => h H' (f.trans f') so
theorem postX.up {QX : XK} (f : Fut s H s1 H1) (h : postX K cl Z s H QX er s2) : postX K cl Z s1 H1 QX er s2 := fun d fvs H' f' e m r so => h d fvs H' (f.trans f') e m r so
theorem postW.up (f : Fut s H s1 H1) (h : postW K cl Z s H σ W er s2) : postW K cl Z s1 H1 σ W er s2 := postX.up f h
theorem postE.up {QE : L2.St → Hp → Prop} {τ : Env} (f : Fut s H s1 H1) (h : postE K cl Z s H QE τ s2) : postE K cl Z s1 H1 QE τ s2 := fun σ H' f' r so => h σ H' (f.trans f') r so
theorem postXE.up {τ : Env} (f : Fut s H s1 H1) (h : postXE K cl Z s H W er τ s2) : postXE K cl Z s1 H1 W er τ s2 := fun d fvs σ H' f' e m r re so => h d fvs σ H' (f.trans f') e m r re so
theorem postD.up (f : Fut s H s1 H1) : DS.Le (postD K cl Z s H W D) (postD K cl Z s1 H1 W D) := ⟨fun _ _ => postE.up f, fun _ _ => post.up f, fun _ _ => postE.up f, fun _ _ => postE.up f, fun _ _ _ => postXE.up f⟩
end

def tT (K : PySem.W.Frag) (cl : Nat → Addr) (W : WX) (F : FE) : TE := fun σ H Q => ∃ Z τ s, REnv K cl Z s H σ τ ∧ Sto K cl Z s H ∧ F τ s (post K cl Z s H Q) (postW K cl Z s H σ W)
def tTT (K : PySem.W.Frag) (cl : Nat → Addr) (W : WX) (F : FT) : TT := fun σ H Q => ∃ Z τ s, REnv K cl Z s H σ τ ∧ Sto K cl Z s H ∧ F τ s (postB K cl Z s H Q) (postW K cl Z s H σ W)
def tTA (K : PySem.W.Frag) (cl : Nat → Addr) (W : WX) (F : FA) : TA := fun σ H Q => ∃ Z τ s, REnv K cl Z s H σ τ ∧ Sto K cl Z s H ∧ F τ s (postA K cl Z s H Q) (postW K cl Z s H σ W)
def tTS (K : PySem.W.Frag) (cl : Nat → Addr) (W : WX) (F : FS) : TS := fun D σ H => ∃ Z τ s, REnv K cl Z s H σ τ ∧ Sto K cl Z s H ∧ F τ s (postD K cl Z s H W D)
end

def MonE (F : FE) : Prop := ∀ τ s (Q Q' : KT) (E E' : KX), (∀ t s, Q t s → Q' t s) → (∀ e s, E e s → E' e s) → F τ s Q E → F τ s Q' E'
def MonT (F : FT) : Prop := ∀ τ s (Q Q' : Bool → S → Prop) (E E' : KX), (∀ t s, Q t s → Q' t s) → (∀ e s, E e s → E' e s) → F τ s Q E → F τ s Q' E'
def MonA (F : FA) : Prop := ∀ τ s (Q Q' : List T → S → Prop) (E E' : KX), (∀ t s, Q t s → Q' t s) → (∀ e s, E e s → E' e s) → F τ s Q E → F τ s Q' E'
def MonS (F : FS) : Prop := ∀ τ s (D D' : DS), D.Le D' → F τ s D → F τ s D'
structure JE (X : Cx) (cl : Nat → Addr) (W : WX) (e : Expr) (F : FE) : Prop where
  mon : MonE F
  pe : PE X e (tT X.K cl W F)
structure JT (X : Cx) (cl : Nat → Addr) (W : WX) (e : Expr) (F : FT) : Prop where
  mon : MonT F
  pt : PT X e (tTT X.K cl W F)
structure JW (X : Cx) (cl : Nat → Addr) (W : WX) (e : Expr) (F : FT) : Prop where
  mon : MonT F
  pw : PW X e (tTT X.K cl W F)
structure JA (X : Cx) (cl : Nat → Addr) (W : WX) (es : List Expr) (F : FA) : Prop where
  mon : MonA F
  pa : PA X es (tTA X.K cl W F)
structure JS (X : Cx) (cl : Nat → Addr) (W : WX) (st : Stmt) (F : FS) : Prop where
  mon : MonS F
  ps : PS X st (tTS X.K cl W F)
structure JSs (X : Cx) (cl : Nat → Addr) (W : WX) (sts : List Stmt) (F : FS) : Prop where
  mon : MonS F
  pss : PSs X sts (tTS X.K cl W F)

section
variable {X : Cx} {cl : Nat → Addr} {W : WX} {e a b c : Expr} {es : List Expr} {F Fa Fb Fc : FE} {G Ga Gb : FT} {A : FA} {st : Stmt} {sts : List Stmt} {B B1 B2 : FS} {pos p : Pos}
theorem PE.imp {t t' : TE} (h : PE X e t) (i : ∀ σ H Q, t' σ H Q → t σ H Q) : PE X e t' := ⟨fun pins s σ H Q I z => h.run pins s σ H Q I (i σ H Q z)⟩
theorem PT.imp {t t' : TT} (h : PT X e t) (i : ∀ σ H Q, t' σ H Q → t σ H Q) : PT X e t' := ⟨fun pins s σ H Q I z => h.run pins s σ H Q I (i σ H Q z)⟩
theorem PW.imp {t t' : TT} (h : PW X e t) (i : ∀ σ H Q, t' σ H Q → t σ H Q) : PW X e t' := ⟨fun wh pins s σ H Q I z => h.run wh pins s σ H Q I (i σ H Q z)⟩
theorem PA.imp {t t' : TA} (h : PA X es t) (i : ∀ σ H Q, t' σ H Q → t σ H Q) : PA X es t' := ⟨fun pos pins s σ H Q I z => h.run pos pins s σ H Q I (i σ H Q z)⟩
theorem PS.imp {t t' : TS} (h : PS X st t) (i : ∀ D σ H, t' D σ H → t D σ H) : PS X st t' := ⟨fun pins s σ H D I z => h.run pins s σ H D I (i D σ H z)⟩
theorem PSs.imp {t t' : TS} (h : PSs X sts t) (i : ∀ D σ H, t' D σ H → t D σ H) : PSs X sts t' := ⟨fun pins s σ H D I z => h.run pins s σ H D I (i D σ H z)⟩

section
variable {Z : Addr → Prop} {σ : L2.St} {τ : Env} {H : Hp} {s : S} {P : KT} {E : KX} {Q : VK}
/-- to use a reading -/
theorem go (mon : MonE F) (re : REnv X.K cl Z s H σ τ) (so : Sto X.K cl Z s H) (h : F τ s P E)
    (hP : ∀ t s1 v H1, P t s1 → Fut s H s1 H1 → REnv X.K cl Z s1 H1 σ τ → Rep X.K cl Z s1 H1 v t → Sto X.K cl Z s1 H1 → Q v H1) (hE : ∀ er s1, E er s1 → postW X.K cl Z s H σ W er s1) : tT X.K cl W F σ H Q :=
  ⟨Z, τ, s, re, so, mon _ _ _ _ _ _ (fun t s1 p v H1 f r so1 => hP t s1 v H1 p f (re.fut f) r so1) hE h⟩
theorem goT {P : Bool → S → Prop} {Q : Bool → Hp → Prop} (mon : MonT G) (re : REnv X.K cl Z s H σ τ) (so : Sto X.K cl Z s H) (h : G τ s P E)
    (hP : ∀ t s1 H1, P t s1 → Fut s H s1 H1 → REnv X.K cl Z s1 H1 σ τ → Sto X.K cl Z s1 H1 → Q t H1) (hE : ∀ er s1, E er s1 → postW X.K cl Z s H σ W er s1) : tTT X.K cl W G σ H Q :=
  ⟨Z, τ, s, re, so, mon _ _ _ _ _ _ (fun t s1 p H1 f so1 => hP t s1 H1 p f (re.fut f) so1) hE h⟩
theorem goA {P : List T → S → Prop} {Q : List V → Hp → Prop} (mon : MonA A) (re : REnv X.K cl Z s H σ τ) (so : Sto X.K cl Z s H) (h : A τ s P E)
    (hP : ∀ ts s1 vs H1, P ts s1 → Fut s H s1 H1 → REnv X.K cl Z s1 H1 σ τ → Reps X.K cl Z s1 H1 vs ts → Sto X.K cl Z s1 H1 → Q vs H1) (hE : ∀ er s1, E er s1 → postW X.K cl Z s H σ W er s1) : tTA X.K cl W A σ H Q :=
  ⟨Z, τ, s, re, so, mon _ _ _ _ _ _ (fun t s1 p v H1 f r so1 => hP t s1 v H1 p f (re.fut f) r so1) hE h⟩
theorem goS {D : DS} {D' : Ends} (mon : MonS B) (re : REnv X.K cl Z s H σ τ) (so : Sto X.K cl Z s H) (h : B τ s D) (le : D.Le (postD X.K cl Z s H W D')) : tTS X.K cl W B D' σ H :=
  ⟨Z, τ, s, re, so, mon _ _ _ _ le h⟩
end

/-! ### names and constants -/
def fVar (i : Nat) : FE := fun τ s Q _ => match τ[i]? with | some (some t) => Q t s | _ => False
theorem mon_var (i : Nat) : MonE (fVar i) := by
  intro τ s Q Q' E E' hq _ h
  unfold fVar at h ⊢
  split at h
  · exact hq _ _ h
  · exact h.elim
theorem je_var (i : Nat) {x : Str} (hN : X.N[i]? = some x := by rfl) (hv : Vis X.env.scope x := by first | exact Or.inl rfl | exact Or.inr (Or.inl rfl) | exact Or.inr (Or.inr rfl)) (hd : (x == ("__debug__" : Str)) = false := by decide)
    (hcd : (x == ("__classdict__" : Str)) = false := by decide) : JE X cl W (.Name x pos) (fVar i) := by
  refine ⟨mon_var i, PE.imp (pe_var hN hv hd hcd) ?_⟩
  rintro σ H Q ⟨Z, τ, s, re, so, h⟩
  unfold fVar at h
  split at h
  · rename_i t e
    obtain ⟨v, e1, r⟩ := re.get i e
    exact ⟨v, e1, h v H (Fut.refl _ _) r so⟩
  · exact h.elim
/-- a value that is at hand -/
def fC (t : T) : FE := fun _ s Q _ => Q t s
theorem mon_c (t : T) : MonE (fC t) := fun _ _ _ _ _ _ hq _ h => hq _ _ h
theorem je_c {v : V} {t : T} (h : PE X e (tC v)) (r : ∀ Z s H, Rep X.K cl Z s H v t) : JE X cl W e (fC t) := by
  refine ⟨mon_c t, PE.imp h ?_⟩
  rintro σ H Q ⟨Z, τ, s, re, so, h⟩
  exact h v H (Fut.refl _ _) (r Z s H) so
theorem je_int {i : Int} {j : Nat} : JE X cl W (.Constant (.int i) j pos) (fC (.int i)) := je_c pe_int fun _ _ _ => .int i
theorem je_bl {i : Bool} {j : Nat} : JE X cl W (.Constant (.bool i) j pos) (fC (.bl i)) := je_c pe_bl fun _ _ _ => .bl i
theorem je_non {j : Nat} : JE X cl W (.Constant .none j pos) (fC .non) := je_c pe_non fun _ _ _ => .non
theorem je_str {z : Str} {j : Nat} : JE X cl W (.Constant (.str z) j pos) (fC (.str z)) := je_c pe_str fun _ _ _ => .str z
theorem je_glob {x : Str} {v : V} {t : T} (hg : Gl X x) (h : ∃ u, X.mg x = some u ∧ RelV v u) (r : ∀ Z s H, Rep X.K cl Z s H v t) (hd : (x == ("__debug__" : Str)) = false := by decide) : JE X cl W (.Name x pos) (fC t) := je_c (C8.pe_gc hg h hd) r
theorem Ty.rel (cl : Nat → Addr) : ∀ k : Ty, RelV (k.v cl) (k.u cl)
  | .non => rfl | .bool => rfl | .int => rfl | .str => rfl | .list => rfl | .tup => rfl | .dict => rfl | .own _ => rfl | .vex => rfl
/-- a built-in class by its name -/
theorem je_ty (k : Ty) {x : Str} (hg : Gl X x) (hm : X.mg x = none) (hv : bootBuiltins x = some (k.u fun _ => 0)) (he : (k.u fun _ => 0) = k.u cl := by rfl) (hn : x ≠ "__name__" := by decide) (hd : (x == ("__debug__" : Str)) = false := by decide) : JE X cl W (.Name x pos) (fC (.ty k)) :=
  je_c (pe_bltn (v := k.v cl) hg hm (he ▸ hv) (k.rel cl) hn hd) fun _ _ _ => .ty k
/-- an own class by its name -/
theorem je_cls (c : Nat) {x : Str} (hg : Gl X x) (hm : X.mg x = some (.ref (cl c))) (hd : (x == ("__debug__" : Str)) = false := by decide) : JE X cl W (.Name x pos) (fC (.ty (.own c))) :=
  je_glob (v := .ref (cl c)) hg ⟨_, hm, rfl⟩ (fun _ _ _ => .ty (.own c)) hd

/-! ### operators -/
def Mon2 (g : S → T → T → KT → KX → Prop) : Prop := ∀ s x y (Q Q' : KT) (E E' : KX), (∀ t s, Q t s → Q' t s) → (∀ e s, E e s → E' e s) → g s x y Q E → g s x y Q' E'
structure OpT (X : Cx) (cl : Nat → Addr) (W : WX) (f : Value → Value → Sem Value) (g : S → T → T → KT → KX → Prop) : Prop where
  mon : Mon2 g
  run : ∀ (Z : Addr → Prop) (pins : List (Addr × Obj)) (sh : Shared) (σ : L2.St) (H : Hp) (x y : V) (v u : Value) (Q : VK) (s : S) (tx ty : T), Inv X pins σ H sh → RelV x v → RelV y u → Rep X.K cl Z s H x tx → Rep X.K cl Z s H y ty → Sto X.K cl Z s H →
    g s tx ty (post X.K cl Z s H Q) (postW X.K cl Z s H σ W) → wpAny (model X.prog X.w) X.A (f v u) (EP X pins σ Q) X.xe sh
theorem OpT.of {f : Value → Value → Sem Value} {g : S → T → T → KT → KX → Prop} {r : R2} (mon : Mon2 g) (h : OpR X f r)
    (i : ∀ (Z : Addr → Prop) (H : Hp) (x y : V) (Q : VK) (s : S) (tx ty : T) (E : KX), Rep X.K cl Z s H x tx → Rep X.K cl Z s H y ty → Sto X.K cl Z s H → g s tx ty (post X.K cl Z s H Q) E → r x y H Q) : OpT X cl W f g :=
  ⟨mon, fun Z pins sh σ H x y v u Q s tx ty I rx ry px py so q => h pins sh σ H x y v u Q I rx ry (i Z H x y Q s tx ty _ px py so q)⟩
def f2 (g : S → T → T → KT → KX → Prop) (Fa Fb : FE) : FE := fun τ s Q E => Fa τ s (fun x s1 => Fb τ s1 (fun y s2 => g s2 x y Q E) E) E
theorem mon_2 {g : S → T → T → KT → KX → Prop} (mg : Mon2 g) (ma : MonE Fa) (mb : MonE Fb) : MonE (f2 g Fa Fb) :=
  fun τ s Q Q' E E' hq he h => ma τ s _ _ _ _ (fun x s1 h1 => mb τ s1 _ _ _ _ (fun y s2 h2 => mg s2 x y _ _ _ _ hq he h2) he h1) he h
def R2T (X : Cx) (cl : Nat → Addr) (W : WX) (σ : L2.St) (g : S → T → T → KT → KX → Prop) (Q : VK) : V → V → Hp → Prop := fun x y H2 => ∃ Z s2 tx ty, Rep X.K cl Z s2 H2 x tx ∧ Rep X.K cl Z s2 H2 y ty ∧ Sto X.K cl Z s2 H2 ∧ g s2 tx ty (post X.K cl Z s2 H2 Q) (postW X.K cl Z s2 H2 σ W)
theorem two {Z : Addr → Prop} {g : S → T → T → KT → KX → Prop} {σ : L2.St} {τ : Env} {H : Hp} {s : S} {Q : VK} (mg : Mon2 g) (ma : MonE Fa) (mb : MonE Fb) (re : REnv X.K cl Z s H σ τ) (so : Sto X.K cl Z s H) (h : f2 g Fa Fb τ s (post X.K cl Z s H Q) (postW X.K cl Z s H σ W)) :
    tT X.K cl W Fa σ H fun x H1 => tT X.K cl W Fb σ H1 fun y H2 => R2T X cl W σ g Q x y H2 := by
  refine go ma re so h (fun tx s1 x H1 p1 f1 re1 r1 so1 => ?_) fun _ _ q => q
  refine go mb re1 so1 p1 (fun ty s2 y H2 p2 f2 re2 r2 so2 => ?_) fun _ _ q => postW.up f1 q
  exact ⟨Z, s2, tx, ty, r1.fut f2, r2, so2, mg _ _ _ _ _ _ _ (fun _ _ q => post.up (f1.trans f2) q) (fun _ _ q => postW.up (f1.trans f2) q) p2⟩
theorem je_op {op : Operator} {g : S → T → T → KT → KX → Prop} (ho : OpT X cl W (binaryOp op) g) (ha : JE X cl W a Fa) (hb : JE X cl W b Fb) : JE X cl W (.BinOp a op b pos) (f2 g Fa Fb) := by
  refine ⟨mon_2 ho.mon ha.mon hb.mon, ⟨fun pins sh σ H Q I h => ?_⟩⟩
  obtain ⟨Z, τ, s, re, so, h⟩ := h
  refine wpAny_BinOp (binT ha.pe hb.pe I (two ho.mon ha.mon hb.mon re so h) fun v u s2 x y H2 I2 rx ry q => ?_)
  obtain ⟨Z3, s3, tx, ty, p1, p2, so2, q⟩ := q
  exact ho.run Z3 pins s2 σ H2 x y v u Q s3 tx ty I2 rx ry p1 p2 so2 q
/-- as a rule of values -/
theorem OpT.opr {f : Value → Value → Sem Value} {g : S → T → T → KT → KX → Prop} (ho : OpT X cl W f g) (pins : List (Addr × Obj)) (sh : Shared) (σ : L2.St) (H : Hp) (x y : V) (v u : Value) (Q : VK) (I : Inv X pins σ H sh) (rx : RelV x v) (ry : RelV y u) (q : R2T X cl W σ g Q x y H) :
    wpAny (model X.prog X.w) X.A (f v u) (EP X pins σ Q) X.xe sh := by
  obtain ⟨Z3, s3, tx, ty, p1, p2, so2, q⟩ := q
  exact ho.run Z3 pins sh σ H x y v u Q s3 tx ty I rx ry p1 p2 so2 q
theorem je_cmp {op : CmpOp} {g : S → T → T → KT → KX → Prop} (ho : OpT X cl W (compareOp op) g) (ha : JE X cl W a Fa) (hb : JE X cl W b Fb) (hm : behindInMarks op b = false) : JE X cl W (.Compare a [op] [b] pos) (f2 g Fa Fb) := by
  refine ⟨mon_2 ho.mon ha.mon hb.mon, ⟨fun pins sh σ H Q I h => ?_⟩⟩
  obtain ⟨Z, τ, s, re, so, h⟩ := h
  exact wpAny_Compare1 (binT ha.pe hb.pe I (two ho.mon ha.mon hb.mon re so h) fun v u s2 x y H2 I2 rx ry q => ho.opr pins s2 σ H2 x y v u Q I2 rx ry q) hm
end
end Mr

/-! The mirror layer: operators, displays, tests. -/
namespace Mr
open PySem PySem.Spec PyProof.Rows L2 Tw

/-! ### lists and tuples that are read -/
def S.lst? (s : S) : T → Option (List T)
  | .lst xs => some xs
  | .cell a => match s.on a with | some (.lst xs) => some xs | _ => none
  | _ => none
/-- a list (true) or a tuple (false) -/
def S.seq? (s : S) : T → Option (Bool × List T)
  | .lst xs => some (true, xs)
  | .tup xs => some (false, xs)
  | .cell a => match s.on a with | some (.lst xs) => some (true, xs) | _ => none
  | _ => none
section
variable {K : PySem.W.Frag} {cl : Nat → Addr} {Z : Addr → Prop} {s s' : S} {H : Hp} {v : V} {t : T} {xs : List T} {Q : VK}
theorem lst_of (so : Sto K cl Z s H) (r : Rep K cl Z s H v t) (e : s.lst? t = some xs) : ∃ a vs, v = .ref a ∧ H a = some (.lst vs) ∧ Reps K cl Z s H vs xs := by
  cases r with
  | lst h n q =>
    cases e
    exact ⟨_, _, rfl, h, q⟩
  | cell a =>
    unfold S.lst? at e
    dsimp only at e
    split at e
    · rename_i ys ho
      cases e
      obtain ⟨vs, h1, h2⟩ := so.cells a _ ho
      exact ⟨a, vs, rfl, h1, h2⟩
    · cases e
  | _ => cases e
theorem tup_of (r : Rep K cl Z s H v (.tup xs)) : ∃ a vs, v = .ref a ∧ SqT K H a vs ∧ Reps K cl Z s H vs xs := by
  cases r with
  | tup h n q => exact ⟨_, _, rfl, SqT.of h, q⟩
  | tupK a b c d e q => exact ⟨_, _, rfl, .inr ⟨_, _, _, a, b, c, d, e⟩, q⟩
theorem seq_of {b : Bool} (so : Sto K cl Z s H) (r : Rep K cl Z s H v t) (e : s.seq? t = some (b, xs)) : ∃ a vs, v = .ref a ∧ (if b = true then H a = some (.lst vs) else SqT K H a vs) ∧ Reps K cl Z s H vs xs := by
  cases t with
  | lst ys =>
    cases e
    obtain ⟨a, vs, h1, h2, h3⟩ := lst_of so r rfl
    exact ⟨a, vs, h1, by rw [if_pos rfl]; exact h2, h3⟩
  | tup ys =>
    cases e
    obtain ⟨a, vs, h1, h2, h3⟩ := tup_of r
    exact ⟨a, vs, h1, by rw [if_neg Bool.false_ne_true]; exact h2, h3⟩
  | cell a =>
    unfold S.seq? at e
    dsimp only at e
    split at e
    · rename_i ys ho
      cases e
      obtain ⟨a, vs, h1, h2, h3⟩ := lst_of (xs := xs) so r (by unfold S.lst?; dsimp only; rw [ho])
      exact ⟨a, vs, h1, by rw [if_pos rfl]; exact h2, h3⟩
    · cases e
  | _ => cases e
theorem seq_sq {b : Bool} (so : Sto K cl Z s H) (r : Rep K cl Z s H v t) (e : s.seq? t = some (b, xs)) : ∃ a vs, v = .ref a ∧ (SqL K H a vs ∨ SqT K H a vs) ∧ Reps K cl Z s H vs xs := by
  obtain ⟨a, vs, h1, h2, h3⟩ := seq_of so r e
  cases b with
  | true =>
    rw [if_pos rfl] at h2
    exact ⟨a, vs, h1, .inl (SqL.of h2), h3⟩
  | false =>
    rw [if_neg Bool.false_ne_true] at h2
    exact ⟨a, vs, h1, .inr h2, h3⟩
theorem post.here (p : post K cl Z s H Q t s) (r : Rep K cl Z s H v t) (so : Sto K cl Z s H) : Q v H := p v H (Fut.refl _ _) r so
theorem post.newL {vs : List V} (p : post K cl Z s H Q (.lst xs) s) (so : Sto K cl Z s H) (r : Reps K cl Z s H vs xs) : ∀ a, H a = none → Q (.ref a) (upd H a (.lst vs)) :=
  fun a ha => p _ _ (Fut.new ha) (.lst upd_same (so.nomut ha) (r.fut (Fut.new ha))) (so.new ha)
theorem post.newT {vs : List V} (p : post K cl Z s H Q (.tup xs) s) (so : Sto K cl Z s H) (r : Reps K cl Z s H vs xs) : ∀ a, H a = none → Q (.ref a) (upd H a (.tup vs)) :=
  fun a ha => p _ _ (Fut.new ha) (.tup upd_same (so.nomut ha) (r.fut (Fut.new ha))) (so.new ha)
theorem post.newLC {vs : List V} {F : T → S → Prop} (p : ∀ a, s.on a = none → post K cl Z s H Q (.cell a) (s.put a (.lst xs))) (so : Sto K cl Z s H) (r : Reps K cl Z s H vs xs) : ∀ a, H a = none → Q (.ref a) (upd H a (.lst vs)) := fun a ha => by
  have n := (so.nomut ha).1
  have e : s.on a = none := by
    cases q : s.on a with
    | none => rfl
    | some c => exact absurd (.inr (by rw [q]; exact Option.some_ne_none c)) n
  exact p a e _ _ (Fut.newC ha) (.cell a) (so.newC ha ⟨vs, upd_same, r.fut (Fut.newC ha)⟩)
theorem on_none {a : Addr} (so : Sto K cl Z s H) (ha : H a = none) : s.on a = none := by
  have n := (so.nomut ha).1
  cases q : s.on a with
  | none => rfl
  | some c => exact absurd (.inr (by rw [q]; exact Option.some_ne_none c)) n
end

/-! ### operators that give a value and change nothing -/
abbrev O2 := S → T → T → Option (Prop × T)
def g2 (o : O2) : S → T → T → KT → KX → Prop := fun s x y Q _ => match o s x y with | some (c, t) => c ∧ Q t s | none => False
theorem mon_g2 (o : O2) : Mon2 (g2 o) := by
  intro s x y Q Q' E E' hq _ h
  unfold g2 at h ⊢
  split at h
  · exact ⟨h.1, hq _ _ h.2⟩
  · exact h
section
variable {X : Cx} {cl : Nat → Addr} {W : WX}
theorem OpT.pure {f : Value → Value → Sem Value} {o : O2} {r : R2} (h : OpR X f r)
    (i : ∀ (Z : Addr → Prop) (H : Hp) (x y : V) (Q : VK) (s : S) (tx ty : T) (c : Prop) (t : T), Rep X.K cl Z s H x tx → Rep X.K cl Z s H y ty → Sto X.K cl Z s H → o s tx ty = some (c, t) → c → post X.K cl Z s H Q t s → r x y H Q) : OpT X cl W f (g2 o) := by
  refine OpT.of (mon_g2 o) h fun Z H x y Q s tx ty E px py so q => ?_
  unfold g2 at q
  split at q
  · rename_i c t e
    exact i Z H x y Q s tx ty c t px py so e q.1 q.2
  · exact q.elim
theorem opr_or {f : Value → Value → Sem Value} {r r' : R2} (h : OpR X f r) (h' : OpR X f r') : OpR X f (fun x y H Q => r x y H Q ∨ r' x y H Q) := by
  intro pins s σ H x y v u Q I rx ry q
  rcases q with q | q
  · exact h pins s σ H x y v u Q I rx ry q
  · exact h' pins s σ H x y v u Q I rx ry q
def addO : O2
  | _, .int i, .int j => some (True, .int (i + j))
  | _, .str a, .str b => some (a.length + b.length ≤ 1000000, .str (a ++ b))
  | _, .tup xs, .tup ys => some (xs.length + ys.length ≤ 1000000, .tup (xs ++ ys))
  | s, x, y => match s.lst? x, s.lst? y with | some xs, some ys => some (xs.length + ys.length ≤ 1000000, .lst (xs ++ ys)) | _, _ => none
theorem rep_i {K : PySem.W.Frag} {Z : Addr → Prop} {s : S} {H : Hp} {v : V} {i : Int} (r : Rep K cl Z s H v (.int i)) : v = .int i := by cases r; rfl
theorem rep_b {K : PySem.W.Frag} {Z : Addr → Prop} {s : S} {H : Hp} {v : V} {i : Bool} (r : Rep K cl Z s H v (.bl i)) : v = .bl i := by cases r; rfl
theorem rep_s {K : PySem.W.Frag} {Z : Addr → Prop} {s : S} {H : Hp} {v : V} {i : Str} (r : Rep K cl Z s H v (.str i)) : v = .str i := by cases r; rfl
theorem rep_n {K : PySem.W.Frag} {Z : Addr → Prop} {s : S} {H : Hp} {v : V} (r : Rep K cl Z s H v .non) : v = .non := by cases r; rfl
theorem o_add : OpT X cl W (binaryOp .Add) (g2 addO) := by
  refine OpT.pure (opr_or op_add (opr_or op_add_str (opr_or op_catA op_cat))) fun Z H x y Q s tx ty c t px py so e hc p => ?_
  unfold addO at e
  split at e
  · cases e
    cases rep_i px
    cases rep_i py
    exact .inl ⟨_, _, rfl, rfl, p.here (.int _) so⟩
  · cases e
    cases rep_s px
    cases rep_s py
    exact .inr (.inl ⟨_, _, rfl, rfl, Nat.le_trans hc (by decide), p.here (.str _) so⟩)
  · cases e
    obtain ⟨a, vs, rfl, h1, r1⟩ := tup_of px
    obtain ⟨b, ws, rfl, h2, r2⟩ := tup_of py
    refine .inr (.inr (.inl ⟨a, b, vs, ws, rfl, rfl, h1, h2, by rw [r1.length, r2.length]; exact Nat.le_trans hc (by decide), fun z => ?_, fun _ z => ?_, fun _ _ => p.newT so (Reps.append r1 r2)⟩))
    · subst z
      cases r1
      exact p.here py so
    · subst z
      cases r2
      rw [List.append_nil] at p
      exact p.here px so
  · split at e
    · rename_i e1 e2
      cases e
      obtain ⟨a, vs, rfl, h1, r1⟩ := lst_of so px e1
      obtain ⟨b, ws, rfl, h2, r2⟩ := lst_of so py e2
      exact .inr (.inr (.inr ⟨a, b, vs, ws, rfl, rfl, h1, h2, by rw [r1.length, r2.length]; exact Nat.le_trans hc (by decide), p.newL so (Reps.append r1 r2)⟩))
    · cases e
/-- an int operator -/
def intO (c : Int → Int → Prop) (f : Int → Int → T) : O2
  | _, .int i, .int j => some (c i j, f i j)
  | _, _, _ => none
theorem o_int {f : Value → Value → Sem Value} {c : Int → Int → Prop} {g : Int → Int → V} {gt : Int → Int → T} (h : OpR X f (rI c g)) (hg : ∀ i j Z s H, Rep X.K cl Z s H (g i j) (gt i j)) : OpT X cl W f (g2 (intO c gt)) := by
  refine OpT.pure h fun Z H x y Q s tx ty c' t px py so e hc p => ?_
  unfold intO at e
  split at e
  · cases e
    cases rep_i px
    cases rep_i py
    exact ⟨_, _, rfl, rfl, hc, p.here (hg _ _ _ _ _) so⟩
  · cases e
theorem opr_I0 {f : Value → Value → Sem Value} {g : Int → Int → V} (h : OpR X f (rI0 g)) : OpR X f (rI (fun _ _ => True) g) := fun pins s σ H x y v u Q I rx ry ⟨i, j, e1, e2, _, q⟩ => h pins s σ H x y v u Q I rx ry ⟨i, j, e1, e2, q⟩
theorem o_sub : OpT X cl W (binaryOp .Sub) (g2 (intO (fun _ _ => True) fun i j => .int (i - j))) := o_int (opr_I0 op_sub) fun _ _ _ _ _ => .int _
theorem o_fdiv : OpT X cl W (binaryOp .FloorDiv) (g2 (intO CDivW fun i j => .int (i / j))) := o_int op_fdivW fun _ _ _ _ _ => .int _
theorem o_mod : OpT X cl W (binaryOp .Mod) (g2 (intO (fun _ j => 0 < j) fun i j => .int (i % j))) := o_int op_mod fun _ _ _ _ _ => .int _
theorem o_pow : OpT X cl W (binaryOp .Pow) (g2 (intO CPow fun i j => .int (i ^ j.toNat))) := o_int op_pow fun _ _ _ _ _ => .int _
def repS (z : Str) (n : Nat) : Str := ⟨(List.replicate n z.cps).foldl (· ++ ·) #[]⟩
def mulO : O2
  | _, .int i, .int j => some (CMul i j, .int (i * j))
  | _, .str z, .int k => some (0 ≤ k ∧ k ≤ 1000 ∧ z.length ≤ 1000, .str (repS z k.toNat))
  | s, x, .int k => match s.lst? x with | some xs => some (-(2 ^ 63) ≤ k ∧ k < 2 ^ 63 ∧ xs.length * k.toNat ≤ 1000000, .lst (List.replicate k.toNat xs).flatten) | _ => none
  | _, _, _ => none
theorem Reps.flat {K : PySem.W.Frag} {Z : Addr → Prop} {s : S} {H : Hp} {vs : List V} {xs : List T} (r : Reps K cl Z s H vs xs) : ∀ n : Nat, Reps K cl Z s H (List.replicate n vs).flatten (List.replicate n xs).flatten
  | 0 => .nil
  | n + 1 => by
    rw [List.replicate_succ, List.replicate_succ, List.flatten_cons, List.flatten_cons]
    exact Reps.append r (Reps.flat r n)
/-- comparisons of ints and of texts -/
def ltO : O2
  | _, .int i, .int j => some (True, .bl (decide (i < j)))
  | _, .str i, .str j => some (True, .bl (decide (i.cps.toList < j.cps.toList)))
  | _, _, _ => none
def leO : O2
  | _, .int i, .int j => some (True, .bl (decide (i ≤ j)))
  | _, .str i, .str j => some (True, .bl (!decide (j.cps.toList < i.cps.toList)))
  | _, _, _ => none
def gtO : O2
  | _, .int i, .int j => some (True, .bl (decide (j < i)))
  | _, .str i, .str j => some (True, .bl (decide (j.cps.toList < i.cps.toList)))
  | _, _, _ => none
def geO : O2
  | _, .int i, .int j => some (True, .bl (decide (j ≤ i)))
  | _, .str i, .str j => some (True, .bl (!decide (i.cps.toList < j.cps.toList)))
  | _, _, _ => none
theorem o_lt : OpT X cl W (compareOp .Lt) (g2 ltO) := by
  refine OpT.pure (opr_or op_lt op_lt_str) fun Z H x y Q s tx ty c t px py so e hc p => ?_
  unfold ltO at e
  split at e
  · cases e
    cases rep_i px
    cases rep_i py
    exact .inl ⟨_, _, rfl, rfl, p.here (.bl _) so⟩
  · cases e
    cases rep_s px
    cases rep_s py
    exact .inr ⟨_, _, rfl, rfl, p.here (.bl _) so⟩
  · cases e
theorem o_le : OpT X cl W (compareOp .LtE) (g2 leO) := by
  refine OpT.pure (opr_or op_le op_le_str) fun Z H x y Q s tx ty c t px py so e hc p => ?_
  unfold leO at e
  split at e
  · cases e
    cases rep_i px
    cases rep_i py
    exact .inl ⟨_, _, rfl, rfl, p.here (.bl _) so⟩
  · cases e
    cases rep_s px
    cases rep_s py
    exact .inr ⟨_, _, rfl, rfl, p.here (.bl _) so⟩
  · cases e
theorem o_gt : OpT X cl W (compareOp .Gt) (g2 gtO) := by
  refine OpT.pure (opr_or op_gt op_gt_str) fun Z H x y Q s tx ty c t px py so e hc p => ?_
  unfold gtO at e
  split at e
  · cases e
    cases rep_i px
    cases rep_i py
    exact .inl ⟨_, _, rfl, rfl, p.here (.bl _) so⟩
  · cases e
    cases rep_s px
    cases rep_s py
    exact .inr ⟨_, _, rfl, rfl, p.here (.bl _) so⟩
  · cases e
theorem o_ge : OpT X cl W (compareOp .GtE) (g2 geO) := by
  refine OpT.pure (opr_or op_ge op_ge_str) fun Z H x y Q s tx ty c t px py so e hc p => ?_
  unfold geO at e
  split at e
  · cases e
    cases rep_i px
    cases rep_i py
    exact .inl ⟨_, _, rfl, rfl, p.here (.bl _) so⟩
  · cases e
    cases rep_s px
    cases rep_s py
    exact .inr ⟨_, _, rfl, rfl, p.here (.bl _) so⟩
  · cases e
end

/-! ### data -/
mutual
def T.dat : T → Option PyData
  | .non => some .none
  | .bl b => some (.bool b)
  | .int i => some (.int i)
  | .str z => some (.str z)
  | .lst xs => (dats xs).map .list
  | .tup xs => (dats xs).map .tuple
  | _ => none
def dats : List T → Option (List PyData)
  | [] => some []
  | x :: xs => match x.dat, dats xs with | some d, some ds => some (d :: ds) | _, _ => none
end
def S.dat (s : S) (t : T) : Option PyData :=
  match t with
  | .cell a => match s.on a with | some (.lst xs) => (dats xs).map .list | _ => none
  | t => t.dat
section
variable {K : PySem.W.Frag} {cl : Nat → Addr} {Z : Addr → Prop} {s : S} {H : Hp}
mutual
theorem Rep.dp (so : Sto K cl Z s H) : ∀ {v : V} {t : T} {d : PyData}, Rep K cl Z s H v t → t.dat = some d → Dp K H v d
  | _, .non, _, r, e => by
    cases r
    rw [T.dat] at e
    cases e
    exact .non
  | _, .bl b, _, r, e => by
    cases r
    rw [T.dat] at e
    cases e
    exact .bl b
  | _, .int b, _, r, e => by
    cases r
    rw [T.dat] at e
    cases e
    exact .int b
  | _, .str b, _, r, e => by
    cases r
    rw [T.dat] at e
    cases e
    exact .str b
  | _, .lst xs, _, r, e => by
    obtain ⟨a, vs, rfl, h, q⟩ := lst_of so r rfl
    rw [T.dat] at e
    obtain ⟨ds, e1, rfl⟩ := Option.map_eq_some_iff.mp e
    exact .lst (SqL.of h) (Reps.dp so q e1)
  | _, .tup xs, _, r, e => by
    obtain ⟨a, vs, rfl, h, q⟩ := tup_of r
    rw [T.dat] at e
    obtain ⟨ds, e1, rfl⟩ := Option.map_eq_some_iff.mp e
    exact .tup h (Reps.dp so q e1)
  | _, .dct _, _, _, e => by rw [T.dat] at e <;> first | cases e | (intros; intro h; cases h)
  | _, .obj _ _, _, _, e => by rw [T.dat] at e <;> first | cases e | (intros; intro h; cases h)
  | _, .err _ _, _, _, e => by rw [T.dat] at e <;> first | cases e | (intros; intro h; cases h)
  | _, .cell _, _, _, e => by rw [T.dat] at e <;> first | cases e | (intros; intro h; cases h)
  | _, .pen, _, _, e => by rw [T.dat] at e <;> first | cases e | (intros; intro h; cases h)
  | _, .ty _, _, _, e => by rw [T.dat] at e <;> first | cases e | (intros; intro h; cases h)
theorem Reps.dp (so : Sto K cl Z s H) : ∀ {vs : List V} {ts : List T} {ds : List PyData}, Reps K cl Z s H vs ts → dats ts = some ds → DpAll K H vs ds
  | _, [], _, r, e => by
    cases r
    rw [dats] at e
    cases e
    exact .nil
  | _, t :: ts, _, r, e => by
    cases r with
    | cons h q =>
      rw [dats] at e
      split at e
      · rename_i d ds e1 e2
        cases e
        exact .cons (Rep.dp so h e1) (Reps.dp so q e2)
      · cases e
end
theorem Rep.sdp {v : V} {t : T} {d : PyData} (so : Sto K cl Z s H) (r : Rep K cl Z s H v t) (e : s.dat t = some d) : Dp K H v d := by
  unfold S.dat at e
  split at e
  · split at e
    · rename_i ho
      cases r
      obtain ⟨vs, h1, h2⟩ := so.cells _ _ ho
      obtain ⟨ds, e1, rfl⟩ := Option.map_eq_some_iff.mp e
      exact .lst (SqL.of h1) (Reps.dp so h2 e1)
    · cases e
  · exact Rep.dp so r e
end
def eqO : O2
  | _, .int i, .int j => some (True, .bl (decide (i = j)))
  | _, .str i, .str j => some (True, .bl (decide (i = j)))
  | _, .bl i, .bl j => some (True, .bl (decide (i = j)))
  | s, x, y => match s.dat x, s.dat y with | some d, some e => some (SeqAt.shaped d = true ∧ SeqAt.shaped e = true, .bl (PyData.eqv d e)) | _, _ => none
def neO : O2
  | _, .int i, .int j => some (True, .bl (!decide (i = j)))
  | _, .str i, .str j => some (True, .bl (!decide (i = j)))
  | _, .bl i, .bl j => some (True, .bl (!decide (i = j)))
  | s, x, y => match s.dat x, s.dat y with | some d, some e => some (SeqAt.shaped d = true ∧ SeqAt.shaped e = true, .bl (!PyData.eqv d e)) | _, _ => none
section
variable {X : Cx} {cl : Nat → Addr} {W : WX} {k : Nat}
theorem o_eq (hr : Rm k X.A) : OpT X cl W (compareOp .Eq) (g2 eqO) := by
  refine OpT.pure (opr_or op_eq (op_eqD hr.u)) fun Z H x y Q s tx ty c t px py so e hc p => ?_
  unfold eqO at e
  split at e
  · cases e
    cases rep_i px
    cases rep_i py
    exact .inl (r_eqI (p.here (.bl _) so))
  · cases e
    cases rep_s px
    cases rep_s py
    exact .inl (r_eqS (p.here (.bl _) so))
  · cases e
    cases rep_b px
    cases rep_b py
    exact .inl (r_eqB (p.here (.bl _) so))
  · split at e
    · rename_i e1 e2
      cases e
      exact .inr ⟨_, _, px.sdp so e1, py.sdp so e2, hc.1, hc.2, p.here (.bl _) so⟩
    · cases e
theorem o_ne (hr : Rm k X.A) : OpT X cl W (compareOp .NotEq) (g2 neO) := by
  refine OpT.pure (opr_or op_ne (op_neD hr.u)) fun Z H x y Q s tx ty c t px py so e hc p => ?_
  unfold neO at e
  split at e
  · cases e
    cases rep_i px
    cases rep_i py
    exact .inl (r_neI (p.here (.bl _) so))
  · cases e
    cases rep_s px
    cases rep_s py
    exact .inl (r_neS (p.here (.bl _) so))
  · cases e
    cases rep_b px
    cases rep_b py
    exact .inl (r_neB (p.here (.bl _) so))
  · split at e
    · rename_i e1 e2
      cases e
      exact .inr ⟨_, _, px.sdp so e1, py.sdp so e2, hc.1, hc.2, p.here (.bl _) so⟩
    · cases e
def T.isN : T → Bool
  | .non => true
  | _ => false
theorem isN_of {K : PySem.W.Frag} {Z : Addr → Prop} {s : S} {H : Hp} {v : V} {t : T} (r : Rep K cl Z s H v t) : decide (v = .non) = t.isN := by
  cases r with
  | ty k => cases k <;> rfl
  | _ => rfl
def isO : O2
  | _, x, .non => some (True, .bl x.isN)
  | _, _, _ => none
def isnO : O2
  | _, x, .non => some (True, .bl (!x.isN))
  | _, _, _ => none
theorem o_is : OpT X cl W (compareOp .Is) (g2 isO) := by
  refine OpT.pure op_isN fun Z H x y Q s tx ty c t px py so e hc p => ?_
  unfold isO at e
  split at e
  · cases e
    cases py
    refine ⟨rfl, ?_⟩
    rw [isN_of px]
    exact p.here (.bl _) so
  · cases e
theorem o_isn : OpT X cl W (compareOp .IsNot) (g2 isnO) := by
  refine OpT.pure op_notN fun Z H x y Q s tx ty c t px py so e hc p => ?_
  unfold isnO at e
  split at e
  · cases e
    cases py
    refine ⟨rfl, ?_⟩
    rw [isN_of px]
    exact p.here (.bl _) so
  · cases e
/-- in: a text in a text; data in a list of data -/
def occ (z w : Str) : Bool := !(Builtin.Str.occurrences z w 0 z.length 1).isEmpty
def inO : O2
  | _, .str w, .str z => some (True, .bl (occ z w))
  | s, x, y => match s.dat x, s.dat y with | some d, some (.list ds) => some (SeqAt.shaped d = true ∧ SeqAt.shaped (.list ds) = true, .bl (ds.any fun z => PyData.eqv z d)) | _, _ => none
def ninO : O2
  | _, .str w, .str z => some (True, .bl (!occ z w))
  | s, x, y => match s.dat x, s.dat y with | some d, some (.list ds) => some (SeqAt.shaped d = true ∧ SeqAt.shaped (.list ds) = true, .bl (!ds.any fun z => PyData.eqv z d)) | _, _ => none
end
end Mr

/-! The mirror layer: tests, displays, subscripts, calls. -/
namespace Mr
open PySem PySem.Spec PyProof.Rows L2 Tw

/-! ### truth -/
def truO (s : S) : T → Option (Prop × Bool)
  | .non => some (True, false)
  | .bl b => some (True, b)
  | .int i => some (True, i != 0)
  | .str z => some (z.length ≤ 1000000, (z.length : Int) != 0)
  | .lst xs => some (True, !xs.isEmpty)
  | .tup xs => some (True, !xs.isEmpty)
  | .dct xs => some (True, !xs.isEmpty)
  | .cell a => match s.on a with | some (.lst xs) => some (True, !xs.isEmpty) | some (.dct xs) => some (True, !xs.isEmpty) | _ => none
  | _ => none
theorem size6 : (1000000 : Nat) ≤ sizeLine := by decide
section
variable {K : PySem.W.Frag} {cl : Nat → Addr} {Z : Addr → Prop} {s : S} {H : Hp}
theorem Reps.emp {vs : List V} {xs : List T} (r : Reps K cl Z s H vs xs) : vs.isEmpty = xs.isEmpty := by cases r <;> rfl
theorem RepK.emp {vs : List (Key × V)} {xs : List (Key × T)} (r : RepK K cl Z s H vs xs) : vs.isEmpty = xs.isEmpty := by cases r <;> rfl
theorem tru_of {v : V} {t : T} {c : Prop} {b : Bool} (so : Sto K cl Z s H) (r : Rep K cl Z s H v t) (e : truO s t = some (c, b)) (hc : c) : TruV K v H b := by
  cases t with
  | non => cases r; cases e; exact rfl
  | bl x => cases r; cases e; exact rfl
  | int x => cases r; cases e; exact rfl
  | str x => cases r; cases e; exact ⟨Nat.le_trans hc size6, rfl⟩
  | lst xs =>
    obtain ⟨a, vs, rfl, h, q⟩ := lst_of so r rfl
    cases e
    exact .inl ⟨vs, SqL.of h, by rw [q.emp]⟩
  | tup xs =>
    obtain ⟨a, vs, rfl, h, q⟩ := tup_of r
    cases e
    exact .inr (.inl ⟨vs, h, by rw [q.emp]⟩)
  | dct xs =>
    cases r with
    | dct h n q =>
      cases e
      exact .inr (.inr ⟨_, h, by rw [q.emp]⟩)
  | cell a =>
    cases r
    unfold truO at e
    dsimp only at e
    split at e
    · rename_i ho
      obtain ⟨vs, h1, h2⟩ := so.cells _ _ ho
      cases e
      exact .inl ⟨vs, SqL.of h1, by rw [h2.emp]⟩
    · rename_i ho
      obtain ⟨vs, h1, h2⟩ := so.cells _ _ ho
      cases e
      exact .inr (.inr ⟨vs, h1, by rw [h2.emp]⟩)
    · cases e
  | _ => cases e
end
def onB (s : S) (t : T) (Q : Bool → Prop) : Prop := match truO s t with | some (c, b) => c ∧ Q b | none => False
theorem onB.mon {s : S} {t : T} {Q Q' : Bool → Prop} (i : ∀ b, Q b → Q' b) (h : onB s t Q) : onB s t Q' := by
  unfold onB at h ⊢
  split at h
  · exact ⟨h.1, i _ h.2⟩
  · exact h
theorem onB.tru {K : PySem.W.Frag} {cl : Nat → Addr} {Z : Addr → Prop} {s : S} {H : Hp} {v : V} {t : T} {Q : Bool → Prop} (so : Sto K cl Z s H) (r : Rep K cl Z s H v t) (h : onB s t Q) : ∃ b, TruV K v H b ∧ Q b := by
  unfold onB at h
  split at h
  · rename_i c b e
    exact ⟨b, tru_of so r e h.1, h.2⟩
  · exact h.elim
def kB (Q : Bool → S → Prop) : KT := fun t s => match t with | .bl b => Q b s | _ => False
theorem kB.mon {Q Q' : Bool → S → Prop} (i : ∀ b s, Q b s → Q' b s) {t : T} {s : S} (h : kB Q t s) : kB Q' t s := by
  unfold kB at h ⊢
  split at h
  · exact i _ _ h
  · exact h
section
variable {X : Cx} {cl : Nat → Addr} {W : WX} {e a b c : Expr} {es : List Expr} {F Fa Fb Fc : FE} {G Ga Gb : FT} {A : FA} {pos p : Pos} {rest : List Expr}
/-! ### tests -/
def fTru (Fa : FE) : FT := fun τ s Q E => Fa τ s (fun x s1 => onB s1 x fun b => Q b s1) E
theorem jt_val (ha : JE X cl W a Fa) (he : ∀ whole, isTrue a X.env whole = (do let v ← whole; standAt a.pos; holding [v] (truthy v)) := by intro _; rfl) : JT X cl W a (fTru Fa) := by
  refine ⟨fun τ s Q Q' E E' hq he h => ha.mon _ _ _ _ _ _ (fun x s1 h1 => h1.mon fun b => hq b s1) he h, PT.imp (pt_truth ha.pe he) ?_⟩
  rintro σ H Q ⟨Z, τ, s, re, so, h⟩
  refine go ha.mon re so h (fun tx s1 x H1 p1 f1 re1 r1 so1 => ?_) fun _ _ q => q
  obtain ⟨b, t, q⟩ := p1.tru so1 r1
  exact ⟨b, t, q H1 f1 so1⟩
def fTest (F : FE) : FT := fun τ s Q E => F τ s (kB Q) E
theorem mon_test (m : MonE F) : MonT (fTest F) := fun τ s Q Q' E E' hq he h => m _ _ _ _ _ _ (fun t s1 h1 => kB.mon hq h1) he h
theorem test_post {K : PySem.W.Frag} {Z : Addr → Prop} {s s1 : S} {H : Hp} {QB : Bool → Hp → Prop} {t : T} (h : kB (postB K cl Z s H QB) t s1) : post K cl Z s H (fun x H' => ∃ k, x = .bl k ∧ QB k H') t s1 := by
  intro v H' f r so
  unfold kB at h
  split at h
  · cases r
    exact ⟨_, rfl, h H' f so⟩
  · exact h.elim
theorem jt_cmp {op : CmpOp} {g : S → T → T → KT → KX → Prop} (ho : OpT X cl W (compareOp op) g) (ha : JE X cl W a Fa) (hb : JE X cl W b Fb) (hm : behindInMarks op b = false) : JT X cl W (.Compare a [op] [b] pos) (fTest (f2 g Fa Fb)) := by
  refine ⟨mon_test (mon_2 ho.mon ha.mon hb.mon), ⟨fun pins sh σ H Q I h => ?_⟩⟩
  obtain ⟨Z, τ, s, re, so, h⟩ := h
  have h' := two ho.mon ha.mon hb.mon re so (mon_2 ho.mon ha.mon hb.mon _ _ _ _ _ _ (fun _ _ => test_post) (fun _ _ q => q) h)
  refine wpAny_isTrue_Compare1 (thn (ha.pe.run pins sh σ H _ I h') fun v s1 ⟨x, H1, I1, r1, q1⟩ => thn (hb.pe.run pins s1 σ H1 _ I1 q1) fun u s2 ⟨y, H2, I2, r2, q2⟩ =>
    thn (ho.opr pins s2 σ H2 x y v u _ I2 r1 r2 q2) fun c s3 ⟨z, H3, I3, r3, k, e, q3⟩ => ?_) hm
  subst e
  cases r3
  exact wpAny_truthy_bool ⟨H3, I3, q3⟩
/-- a op1 b op2 c -/
def f3 (g g' : S → T → T → KT → KX → Prop) (Fa Fb Fc : FE) : FE := fun τ s Q E => Fa τ s (fun x s1 => Fb τ s1 (fun y s2 => g s2 x y (kB fun k s3 => if k = true then Fc τ s3 (fun z s4 => g' s4 y z Q E) E else Q (.bl false) s3) E) E) E
theorem mon_3 {g g' : S → T → T → KT → KX → Prop} (mg : Mon2 g) (mg' : Mon2 g') (ma : MonE Fa) (mb : MonE Fb) (mc : MonE Fc) : MonE (f3 g g' Fa Fb Fc) := fun τ s Q Q' E E' hq he h =>
  ma _ _ _ _ _ _ (fun x s1 h1 => mb _ _ _ _ _ _ (fun y s2 h2 => mg _ _ _ _ _ _ _ (fun z s3 h3 => kB.mon (fun k s4 h4 => by
    cases k with
    | true => exact w_T (mc _ _ _ _ _ _ (fun z s5 h5 => mg' _ _ _ _ _ _ _ hq he h5) he (by rw [if_pos rfl] at h4; exact h4))
    | false => exact w_F (hq _ _ (by rw [if_neg Bool.false_ne_true] at h4; exact h4))) h3) he h2) he h1) he h
theorem chain_go {Z : Addr → Prop} {g g' : S → T → T → KT → KX → Prop} {σ : L2.St} {τ : Env} {H : Hp} {s : S} {Q : VK} (mg : Mon2 g) (mg' : Mon2 g') (ma : MonE Fa) (mb : MonE Fb) (mc : MonE Fc) (re : REnv X.K cl Z s H σ τ) (so : Sto X.K cl Z s H)
    (h : f3 g g' Fa Fb Fc τ s (post X.K cl Z s H Q) (postW X.K cl Z s H σ W)) :
    tT X.K cl W Fa σ H fun x H1 => tT X.K cl W Fb σ H1 fun y H2 => R2T X cl W σ g (fun z H3 => ∃ k, z = .bl k ∧ (if k = true then tT X.K cl W Fc σ H3 fun w H4 => R2T X cl W σ g' Q y w H4 else Q (.bl false) H3)) x y H2 := by
  refine go ma re so h (fun tx s1 x H1 p1 f1 re1 r1 so1 => ?_) fun _ _ q => q
  refine go mb re1 so1 p1 (fun ty s2 y H2 p2 f2 re2 r2 so2 => ?_) fun _ _ q => postW.up f1 q
  refine ⟨Z, s2, tx, ty, r1.fut f2, r2, so2, mg _ _ _ _ _ _ _ (fun t s3 h3 => ?_) (fun _ _ q => postW.up (f1.trans f2) q) p2⟩
  intro v H3 f3 r3 so3
  unfold kB at h3
  split at h3
  · cases r3
    rename_i k
    refine ⟨k, rfl, ?_⟩
    cases k with
    | false =>
      refine w_F ?_
      rw [if_neg Bool.false_ne_true] at h3
      exact h3 _ _ (f1.trans (f2.trans f3)) (.bl false) so3
    | true =>
      refine w_T ?_
      rw [if_pos rfl] at h3
      refine go mc (re2.fut f3) so3 h3 (fun tz s4 z H4 p4 f4 re4 r4 so4 => ?_) fun _ _ q => postW.up (f1.trans (f2.trans f3)) q
      exact ⟨Z, s4, ty, tz, (r2.fut f3).fut f4, r4, so4, mg' _ _ _ _ _ _ _ (fun _ _ q => post.up (f1.trans (f2.trans (f3.trans f4))) q) (fun _ _ q => postW.up (f1.trans (f2.trans (f3.trans f4))) q) p4⟩
  · exact h3.elim
theorem je_chain {op op' : CmpOp} {g g' : S → T → T → KT → KX → Prop} (ho : OpT X cl W (compareOp op) g) (ho' : OpT X cl W (compareOp op') g') (ha : JE X cl W a Fa) (hb : JE X cl W b Fb) (hc : JE X cl W c Fc)
    (hm : lastMarks [op, op'] [b, c] = false := by with_unfolding_all rfl) : JE X cl W (.Compare a [op, op'] [b, c] pos) (f3 g g' Fa Fb Fc) := by
  refine ⟨mon_3 ho.mon ho'.mon ha.mon hb.mon hc.mon, ⟨fun pins s σ H Q I h => ?_⟩⟩
  obtain ⟨Z, τ, st, re, so, h⟩ := h
  have h' := chain_go ho.mon ho'.mon ha.mon hb.mon hc.mon re so h
  refine Compare_chain (thn (ha.pe.run pins s σ H _ I h') fun v s1 ⟨x, H1, I1, r1, q1⟩ => chain_link (thn (hb.pe.run pins s1 σ H1 _ I1 q1) fun u s2 ⟨y, H2, I2, r2, q2⟩ =>
    thn (ho.opr pins s2 σ H2 x y v u _ I2 r1 r2 q2) fun d s3 ⟨z, H3, I3, r3, k, e, q3⟩ => ?_)) hm
  subst e
  cases r3
  refine wpAny_truthy_bool ?_
  cases k with
  | false => exact ite_ff ⟨.bl false, H3, I3, rfl, q3⟩
  | true => exact ite_tt (chain_last (thn (hc.pe.run pins s3 σ H3 _ I3 q3) fun w' s4 ⟨z', H4, I4, r4, q4⟩ => ho'.opr pins s4 σ H4 y z' u w' Q I4 r2 r4 q4))
theorem jt_chain {op op' : CmpOp} {g g' : S → T → T → KT → KX → Prop} (ho : OpT X cl W (compareOp op) g) (ho' : OpT X cl W (compareOp op') g') (ha : JE X cl W a Fa) (hb : JE X cl W b Fb) (hc : JE X cl W c Fc)
    (hm : lastMarks [op, op'] [b, c] = false := by with_unfolding_all rfl) : JT X cl W (.Compare a [op, op'] [b, c] pos) (fTest (f3 g g' Fa Fb Fc)) := by
  refine ⟨mon_test (mon_3 ho.mon ho'.mon ha.mon hb.mon hc.mon), ⟨fun pins s σ H Q I h => ?_⟩⟩
  obtain ⟨Z, τ, st, re, so, h⟩ := h
  have h' := chain_go ho.mon ho'.mon ha.mon hb.mon hc.mon re so (mon_3 ho.mon ho'.mon ha.mon hb.mon hc.mon _ _ _ _ _ _ (fun _ _ => test_post) (fun _ _ q => q) h)
  refine isTrue_chain (thn (ha.pe.run pins s σ H _ I h') fun v s1 ⟨x, H1, I1, r1, q1⟩ => test_link (thn (hb.pe.run pins s1 σ H1 _ I1 q1) fun u s2 ⟨y, H2, I2, r2, q2⟩ =>
    thn (ho.opr pins s2 σ H2 x y v u _ I2 r1 r2 q2) fun d s3 ⟨z, H3, I3, r3, k, e, q3⟩ => ?_)) hm
  subst e
  cases r3
  refine wpAny_truthy_bool ?_
  cases k with
  | false =>
    obtain ⟨k', e', q'⟩ := q3
    cases e'
    exact ite_ff ⟨H3, I3, q'⟩
  | true =>
    refine ite_tt (test_last (thn (hc.pe.run pins s3 σ H3 _ I3 q3) fun w' s4 ⟨z', H4, I4, r4, q4⟩ => thn (ho'.opr pins s4 σ H4 y z' u w' _ I4 r2 r4 q4) fun d' s5 ⟨z2, H5, I5, r5, k2, e2, q5⟩ => ?_))
    subst e2
    cases r5
    exact wpAny_truthy_bool ⟨H5, I5, q5⟩
/-! and, or, not -/
def fAnd (Ga Gb : FT) : FT := fun τ s Q E => Ga τ s (fun b s1 => if b = true then Gb τ s1 Q E else Q false s1) E
def fOr (Ga Gb : FT) : FT := fun τ s Q E => Ga τ s (fun b s1 => if b = true then Q true s1 else Gb τ s1 Q E) E
def fNot (Ga : FT) : FT := fun τ s Q E => Ga τ s (fun b s1 => Q (!b) s1) E
theorem w_ite {b : Bool} {A B A' B' : Prop} (h : if b = true then A else B) (i : A → A') (j : B → B') : if b = true then A' else B' := by
  cases b with
  | true => exact w_T (i (by rw [if_pos rfl] at h; exact h))
  | false => exact w_F (j (by rw [if_neg Bool.false_ne_true] at h; exact h))
theorem mon_and (ma : MonT Ga) (mb : MonT Gb) : MonT (fAnd Ga Gb) := fun τ s Q Q' E E' hq he h => ma _ _ _ _ _ _ (fun b s1 h1 => w_ite h1 (mb _ _ _ _ _ _ hq he) (hq _ _)) he h
theorem mon_or (ma : MonT Ga) (mb : MonT Gb) : MonT (fOr Ga Gb) := fun τ s Q Q' E E' hq he h => ma _ _ _ _ _ _ (fun b s1 h1 => w_ite h1 (hq _ _) (mb _ _ _ _ _ _ hq he)) he h
theorem jw_and1 (ha : JT X cl W a Ga) : JW X cl W (.BoolOp .And [a] pos) Ga := ⟨ha.mon, pw_and1 ha.pt⟩
theorem jw_or1 (ha : JT X cl W a Ga) : JW X cl W (.BoolOp .Or [a] pos) Ga := ⟨ha.mon, pw_or1 ha.pt⟩
theorem jw_and (ha : JT X cl W a Ga) (hb : JW X cl W (.BoolOp .And (b :: rest) pos) Gb) : JW X cl W (.BoolOp .And (a :: b :: rest) pos) (fAnd Ga Gb) := by
  refine ⟨mon_and ha.mon hb.mon, PW.imp (pw_and ha.pt hb.pw) ?_⟩
  rintro σ H Q ⟨Z, τ, s, re, so, h⟩
  refine goT ha.mon re so h (fun b s1 H1 p1 f1 re1 so1 => w_ite p1 (fun q => ?_) (fun q => q H1 f1 so1)) fun _ _ q => q
  exact goT hb.mon re1 so1 q (fun b s2 H2 p2 f2 re2 so2 => p2 H2 (f1.trans f2) so2) fun _ _ q => postW.up f1 q
theorem jw_or (ha : JT X cl W a Ga) (hb : JW X cl W (.BoolOp .Or (b :: rest) pos) Gb) : JW X cl W (.BoolOp .Or (a :: b :: rest) pos) (fOr Ga Gb) := by
  refine ⟨mon_or ha.mon hb.mon, PW.imp (pw_or ha.pt hb.pw) ?_⟩
  rintro σ H Q ⟨Z, τ, s, re, so, h⟩
  refine goT ha.mon re so h (fun b s1 H1 p1 f1 re1 so1 => w_ite p1 (fun q => q H1 f1 so1) (fun q => ?_)) fun _ _ q => q
  exact goT hb.mon re1 so1 q (fun b s2 H2 p2 f2 re2 so2 => p2 H2 (f1.trans f2) so2) fun _ _ q => postW.up f1 q
theorem JW.jt (h : JW X cl W e G) : JT X cl W e G := ⟨h.mon, h.pw.pt⟩
theorem jt_not (ha : JT X cl W a Ga) : JT X cl W (.UnaryOp .Not a pos) (fNot Ga) := by
  refine ⟨fun τ s Q Q' E E' hq he h => ha.mon _ _ _ _ _ _ (fun b s1 h1 => hq _ _ h1) he h, PT.imp (pt_not ha.pt) ?_⟩
  rintro σ H Q ⟨Z, τ, s, re, so, h⟩
  exact goT ha.mon re so h (fun b s1 H1 p1 f1 re1 so1 => p1 H1 f1 so1) fun _ _ q => q
/-! .. as values -/
def fAndV (Fa Fb : FE) : FE := fun τ s Q E => Fa τ s (fun x s1 => onB s1 x fun b => if b = true then Fb τ s1 Q E else Q x s1) E
def fOrV (Fa Fb : FE) : FE := fun τ s Q E => Fa τ s (fun x s1 => onB s1 x fun b => if b = true then Q x s1 else Fb τ s1 Q E) E
def fNotV (Fa : FE) : FE := fun τ s Q E => Fa τ s (fun x s1 => onB s1 x fun b => Q (.bl (!b)) s1) E
theorem je_one {op : BoolOp} (ha : JE X cl W a Fa) : JE X cl W (.BoolOp op [a] pos) Fa := ⟨ha.mon, pe_one ha.pe⟩
theorem je_and (ha : JE X cl W a Fa) (hb : JE X cl W (.BoolOp .And (b :: rest) pos) Fb) : JE X cl W (.BoolOp .And (a :: b :: rest) pos) (fAndV Fa Fb) := by
  refine ⟨fun τ s Q Q' E E' hq he h => ha.mon _ _ _ _ _ _ (fun x s1 h1 => h1.mon fun b h2 => w_ite h2 (hb.mon _ _ _ _ _ _ hq he) (hq _ _)) he h, PE.imp (pe_andT ha.pe hb.pe) ?_⟩
  rintro σ H Q ⟨Z, τ, s, re, so, h⟩
  refine go ha.mon re so h (fun tx s1 x H1 p1 f1 re1 r1 so1 => ?_) fun _ _ q => q
  obtain ⟨b, t, q⟩ := p1.tru so1 r1
  refine ⟨b, t, w_ite q (fun q => ?_) fun q => q _ _ f1 r1 so1⟩
  exact go hb.mon re1 so1 q (fun ty s2 y H2 p2 f2 re2 r2 so2 => p2 _ _ (f1.trans f2) r2 so2) fun _ _ q => postW.up f1 q
theorem je_or (ha : JE X cl W a Fa) (hb : JE X cl W (.BoolOp .Or (b :: rest) pos) Fb) : JE X cl W (.BoolOp .Or (a :: b :: rest) pos) (fOrV Fa Fb) := by
  refine ⟨fun τ s Q Q' E E' hq he h => ha.mon _ _ _ _ _ _ (fun x s1 h1 => h1.mon fun b h2 => w_ite h2 (hq _ _) (hb.mon _ _ _ _ _ _ hq he)) he h, PE.imp (pe_orT ha.pe hb.pe) ?_⟩
  rintro σ H Q ⟨Z, τ, s, re, so, h⟩
  refine go ha.mon re so h (fun tx s1 x H1 p1 f1 re1 r1 so1 => ?_) fun _ _ q => q
  obtain ⟨b, t, q⟩ := p1.tru so1 r1
  refine ⟨b, t, w_ite q (fun q => q _ _ f1 r1 so1) fun q => ?_⟩
  exact go hb.mon re1 so1 q (fun ty s2 y H2 p2 f2 re2 r2 so2 => p2 _ _ (f1.trans f2) r2 so2) fun _ _ q => postW.up f1 q
theorem je_not (ha : JE X cl W a Fa) : JE X cl W (.UnaryOp .Not a pos) (fNotV Fa) := by
  refine ⟨fun τ s Q Q' E E' hq he h => ha.mon _ _ _ _ _ _ (fun x s1 h1 => h1.mon fun b h2 => hq _ _ h2) he h, PE.imp (pe_notT ha.pe) ?_⟩
  rintro σ H Q ⟨Z, τ, s, re, so, h⟩
  refine go ha.mon re so h (fun tx s1 x H1 p1 f1 re1 r1 so1 => ?_) fun _ _ q => q
  obtain ⟨b, t, q⟩ := p1.tru so1 r1
  exact ⟨b, t, q _ _ f1 (.bl _) so1⟩
def fIf (G : FT) (Fa Fb : FE) : FE := fun τ s Q E => G τ s (fun b s1 => if b = true then Fa τ s1 Q E else Fb τ s1 Q E) E
theorem je_if (hc : JT X cl W c G) (ha : JE X cl W a Fa) (hb : JE X cl W b Fb) : JE X cl W (.IfExp c a b pos) (fIf G Fa Fb) := by
  refine ⟨fun τ s Q Q' E E' hq he h => hc.mon _ _ _ _ _ _ (fun b s1 h1 => w_ite h1 (ha.mon _ _ _ _ _ _ hq he) (hb.mon _ _ _ _ _ _ hq he)) he h, PE.imp (pe_ifExp hc.pt ha.pe hb.pe) ?_⟩
  rintro σ H Q ⟨Z, τ, s, re, so, h⟩
  refine goT hc.mon re so h (fun b s1 H1 p1 f1 re1 so1 => w_ite p1 (fun q => ?_) (fun q => ?_)) fun _ _ q => q
  · exact go ha.mon re1 so1 q (fun ty s2 y H2 p2 f2 re2 r2 so2 => p2 _ _ (f1.trans f2) r2 so2) fun _ _ q => postW.up f1 q
  · exact go hb.mon re1 so1 q (fun ty s2 y H2 p2 f2 re2 r2 so2 => p2 _ _ (f1.trans f2) r2 so2) fun _ _ q => postW.up f1 q
/-! ### one operand -/
abbrev O1 := S → T → Option (Prop × T)
def onO (s : S) (o : Option (Prop × T)) (Q : KT) : Prop := match o with | some (c, t) => c ∧ Q t s | none => False
theorem onO.mon {s : S} {o : Option (Prop × T)} {Q Q' : KT} (i : ∀ t s, Q t s → Q' t s) (h : onO s o Q) : onO s o Q' := by
  unfold onO at h ⊢
  split at h
  · exact ⟨h.1, i _ _ h.2⟩
  · exact h
def fUn (o : O1) (Fa : FE) : FE := fun τ s Q E => Fa τ s (fun x s1 => onO s1 (o s1 x) Q) E
theorem mon_un {o : O1} (ma : MonE Fa) : MonE (fUn o Fa) := fun τ s Q Q' E E' hq he h => ma _ _ _ _ _ _ (fun x s1 h1 => h1.mon hq) he h
theorem je_un1 {t : TE → TE} {o : O1} {r : V → Hp → VK → Prop} (ht : ∀ te, t te = fun σ H Q => te σ H fun x H1 => r x H1 Q) (h : PE X e (t (tT X.K cl W Fa))) (ma : MonE Fa)
    (i : ∀ (Z : Addr → Prop) (H : Hp) (x : V) (Q : VK) (s : S) (tx : T) (c : Prop) (t : T), Rep X.K cl Z s H x tx → Sto X.K cl Z s H → o s tx = some (c, t) → c → post X.K cl Z s H Q t s → r x H Q) : JE X cl W e (fUn o Fa) := by
  rw [ht] at h
  refine ⟨mon_un ma, PE.imp h ?_⟩
  rintro σ H Q ⟨Z, τ, s, re, so, h⟩
  refine go ma re so h (fun tx s1 x H1 p1 f1 re1 r1 so1 => ?_) fun _ _ q => q
  unfold onO at p1
  split at p1
  · rename_i c t e1
    exact i Z H1 x Q s1 tx c t r1 so1 e1 p1.1 (post.up f1 p1.2)
  · exact p1.elim
def negO : O1
  | _, .int i => some (True, .int (-i))
  | _, _ => none
theorem je_neg (ha : JE X cl W a Fa) : JE X cl W (.UnaryOp .USub a pos) (fUn negO Fa) := by
  refine je_un1 (t := tUn _) (r := rU fun i => .int (-i)) (fun te => rfl) (pe_un un_neg ha.pe) ha.mon fun Z H x Q s tx c t px so e hc p => ?_
  unfold negO at e
  split at e
  · cases e
    cases rep_i px
    exact ⟨_, rfl, p.here (.int _) so⟩
  · cases e
/-! ### argument lists, displays -/
def fNil : FA := fun _ s Q _ => Q [] s
def fCons (Fa : FE) (A : FA) : FA := fun τ s Q E => Fa τ s (fun x s1 => A τ s1 (fun xs s2 => Q (x :: xs) s2) E) E
theorem ja_nil : JA X cl W [] fNil := by
  refine ⟨fun τ s Q Q' E E' hq he h => hq _ _ h, PA.imp pa_nil ?_⟩
  rintro σ H Q ⟨Z, τ, s, re, so, h⟩
  exact h [] H (Fut.refl _ _) .nil so
theorem ja_cons (ha : JE X cl W e Fa) (hr : JA X cl W es A) (hs : starEach (e :: es) X.env = (false, eval e X.env) :: starEach es X.env := by rfl) : JA X cl W (e :: es) (fCons Fa A) := by
  refine ⟨fun τ s Q Q' E E' hq he h => ha.mon _ _ _ _ _ _ (fun x s1 h1 => hr.mon _ _ _ _ _ _ (fun xs s2 h2 => hq _ _ h2) he h1) he h, PA.imp (pa_cons ha.pe hr.pa hs) ?_⟩
  rintro σ H Q ⟨Z, τ, s, re, so, h⟩
  refine go ha.mon re so h (fun tx s1 x H1 p1 f1 re1 r1 so1 => ?_) fun _ _ q => q
  exact goA hr.mon re1 so1 p1 (fun ts s2 vs H2 p2 f2 re2 r2 so2 => p2 _ _ (f1.trans f2) (.cons (r1.fut f2) r2) so2) fun _ _ q => postW.up f1 q
def fLst (A : FA) : FE := fun τ s Q E => A τ s (fun ts s1 => ts.length ≤ 1000 ∧ Q (.lst ts) s1) E
def fTup (A : FA) : FE := fun τ s Q E => A τ s (fun ts s1 => ts.length ≤ 1000 ∧ Q (.tup ts) s1) E
def fLstC (A : FA) : FE := fun τ s Q E => A τ s (fun ts s1 => ts.length ≤ 1000 ∧ ∀ a, s1.on a = none → Q (.cell a) (s1.put a (.lst ts))) E
theorem je_lst (ha : JA X cl W es A) : JE X cl W (.List es pos) (fLst A) := by
  refine ⟨fun τ s Q Q' E E' hq he h => ha.mon _ _ _ _ _ _ (fun x s1 h1 => ⟨h1.1, hq _ _ h1.2⟩) he h, PE.imp (pe_lst ha.pa) ?_⟩
  rintro σ H Q ⟨Z, τ, s, re, so, h⟩
  refine goA ha.mon re so h (fun ts s1 vs H1 p1 f1 re1 r1 so1 => ⟨?_, post.newL (post.up f1 p1.2) so1 r1⟩) fun _ _ q => q
  rw [r1.length]
  exact Nat.le_trans p1.1 (by decide)
theorem je_tup {x1} (ha : JA X cl W es A) : JE X cl W (.Tuple es x1 pos) (fTup A) := by
  refine ⟨fun τ s Q Q' E E' hq he h => ha.mon _ _ _ _ _ _ (fun x s1 h1 => ⟨h1.1, hq _ _ h1.2⟩) he h, PE.imp (pe_tup ha.pa) ?_⟩
  rintro σ H Q ⟨Z, τ, s, re, so, h⟩
  refine goA ha.mon re so h (fun ts s1 vs H1 p1 f1 re1 r1 so1 => ⟨?_, post.newT (post.up f1 p1.2) so1 r1⟩) fun _ _ q => q
  rw [r1.length]
  exact Nat.le_trans p1.1 (by decide)
theorem je_lstC (ha : JA X cl W es A) : JE X cl W (.List es pos) (fLstC A) := by
  refine ⟨fun τ s Q Q' E E' hq he h => ha.mon _ _ _ _ _ _ (fun x s1 h1 => ⟨h1.1, fun a z => hq _ _ (h1.2 a z)⟩) he h, PE.imp (pe_lst ha.pa) ?_⟩
  rintro σ H Q ⟨Z, τ, s, re, so, h⟩
  refine goA ha.mon re so h (fun ts s1 vs H1 p1 f1 re1 r1 so1 => ⟨?_, fun a ha => ?_⟩) fun _ _ q => q
  · rw [r1.length]
    exact Nat.le_trans p1.1 (by decide)
  · exact p1.2 a (on_none so1 ha) _ _ (f1.trans (Fut.newC ha)) (.cell a) (so1.newC ha ⟨vs, upd_same, r1.fut (Fut.newC ha)⟩)
/-! ### subscripts -/
def ixO : O2
  | _, .str z, .int i => match atI z.cps.toList i with | some c => some (z.length ≤ 1000000, .str ⟨#[c]⟩) | none => none
  | s, x, .int i => match s.seq? x with | some (_, xs) => (match atI xs i with | some t => some (True, t) | none => none) | none => none
  | _, _, _ => none
theorem ixN_len {α β : Type} {xs : List α} {ys : List β} (h : xs.length = ys.length) (i : Int) : ixN xs.length i = ixN ys.length i := by rw [h]
theorem Reps.atI {K : PySem.W.Frag} {Z : Addr → Prop} {s : S} {H : Hp} {vs : List V} {ts : List T} {i : Int} {t : T} (r : Reps K cl Z s H vs ts) (e : L2.atI ts i = some t) : ∃ v, L2.atI vs i = some v ∧ Rep K cl Z s H v t := by
  unfold L2.atI at e ⊢
  rw [r.length]
  cases q : ixN ts.length i with
  | none => rw [q] at e; cases e
  | some j =>
    rw [q] at e
    exact r.get j e
theorem je_ix (ha : JE X cl W a Fa) (hb : JE X cl W b Fb) (hs : PlainIx b) : JE X cl W (.Subscript a b pos) (f2 (g2 ixO) Fa Fb) := by
  refine ⟨mon_2 (mon_g2 _) ha.mon hb.mon, PE.imp (pe_ix ix_seq ha.pe hb.pe hs) ?_⟩
  rintro σ H Q ⟨Z, τ, s, re, so, h⟩
  refine go ha.mon re so h (fun tx s1 x H1 p1 f1 re1 r1 so1 => ?_) fun _ _ q => q
  refine go hb.mon re1 so1 p1 (fun ty s2 y H2 p2 f2 re2 r2 so2 => ?_) fun _ _ q => postW.up f1 q
  have r1' := r1.fut f2
  unfold g2 at p2
  split at p2
  · rename_i c t e
    have p := post.up (f1.trans f2) p2.2
    unfold ixO at e
    split at e
    · cases rep_s r1'
      cases rep_i r2
      split at e
      · rename_i c' e'
        cases e
        exact .inr (.inr ⟨_, _, _, rfl, rfl, Nat.le_trans p2.1 size6, e', p.here (.str _) so2⟩)
      · cases e
    · cases rep_i r2
      split at e
      · rename_i b xs e1
        split at e
        · rename_i t' e2
          cases e
          obtain ⟨a', vs, rfl, hq, rs⟩ := seq_sq so2 r1' e1
          obtain ⟨v, e3, rv⟩ := rs.atI e2
          rcases hq with hq | hq
          · exact .inl ⟨a', vs, _, v, rfl, rfl, hq, e3, p.here rv so2⟩
          · exact .inr (.inl ⟨a', vs, _, v, rfl, rfl, hq, e3, p.here rv so2⟩)
        · cases e
      · cases e
    · cases e
  · exact p2.elim
end
end Mr

/-! The mirror layer: built-in calls, attributes, defs, classes. -/
namespace Mr
open PySem PySem.Spec PyProof.Rows L2 Tw

/-! ### built-in functions of values that change nothing -/
abbrev ON := S → List T → Option (Prop × T)
structure BC (X : Cx) (cl : Nat → Addr) (f : Value) (o : ON) : Prop where
  ex : ∃ r, CallR X f r ∧ ∀ (Z : Addr → Prop) (H : Hp) (xs : List V) (Q : VK) (s : S) (ts : List T) (c : Prop) (t : T), Reps X.K cl Z s H xs ts → Sto X.K cl Z s H → o s ts = some (c, t) → c → post X.K cl Z s H Q t s → r xs H Q
def fCB (o : ON) (A : FA) : FE := fun τ s Q E => A τ s (fun ts s1 => onO s1 (o s1 ts) Q) E
section
variable {X : Cx} {cl : Nat → Addr} {W : WX} {e a b c : Expr} {es : List Expr} {F Fa Fb Fc : FE} {G Ga Gb : FT} {A : FA} {pos p apos : Pos} {rest : List Expr} {o : ON} {id : String} {x : Str} {k j : Nat}
theorem cb_imp {r : List V → Hp → VK → Prop} (ma : MonA A) (i : ∀ (Z : Addr → Prop) (H : Hp) (xs : List V) (Q : VK) (s : S) (ts : List T) (c : Prop) (t : T), Reps X.K cl Z s H xs ts → Sto X.K cl Z s H → o s ts = some (c, t) → c → post X.K cl Z s H Q t s → r xs H Q)
    (h : PE X e (tCB r (tTA X.K cl W A))) : JE X cl W e (fCB o A) := by
  refine ⟨fun τ s Q Q' E E' hq he h => ma _ _ _ _ _ _ (fun ts s1 h1 => h1.mon hq) he h, PE.imp h ?_⟩
  rintro σ H Q ⟨Z, τ, s, re, so, h⟩
  refine goA ma re so h (fun ts s1 vs H1 p1 f1 re1 r1 so1 => ?_) fun _ _ q => q
  unfold onO at p1
  split at p1
  · rename_i c t e1
    exact i Z H1 vs Q s1 ts c t r1 so1 e1 p1.1 (post.up f1 p1.2)
  · exact p1.elim
theorem je_b (hc : BC X cl (.builtin id) o) (hg : Gl X x) (hm : X.mg x = none) (hv : bootBuiltins x = some (.builtin id)) (ha : JA X cl W (e :: es) A) (hn : x ≠ "__name__" := by decide) (hdb : (x == ("__debug__" : Str)) = false := by decide)
    (he : starEach (e :: es) X.env = (false, eval e X.env) :: starEach es X.env := by rfl) (hpl : (backTo pos (starEach es X.env)).any (·.1) = false := by rfl) : JE X cl W (.Call (.Name x p) (e :: es) [] pos) (fCB o A) := by
  obtain ⟨r, h1, h2⟩ := hc.ex
  exact cb_imp ha.mon h2 (pe_callB h1 hg hm hv ha.pa hn hdb he hpl)
theorem je_bt {n : String} (hc : BC X cl (.type n) o) (hg : Gl X x) (hm : X.mg x = none) (hv : bootBuiltins x = some (.type n)) (ha : JA X cl W (e :: es) A) (hn : x ≠ "__name__" := by decide) (hdb : (x == ("__debug__" : Str)) = false := by decide)
    (he : starEach (e :: es) X.env = (false, eval e X.env) :: starEach es X.env := by rfl) (hpl : (backTo pos (starEach es X.env)).any (·.1) = false := by rfl) : JE X cl W (.Call (.Name x p) (e :: es) [] pos) (fCB o A) := by
  obtain ⟨r, h1, h2⟩ := hc.ex
  exact cb_imp ha.mon h2 (pe_callTy h1 hg hm hv ha.pa hn hdb he hpl)
theorem reps1 {K : PySem.W.Frag} {Z : Addr → Prop} {s : S} {H : Hp} {vs : List V} {t : T} (r : Reps K cl Z s H vs [t]) : ∃ v, vs = [v] ∧ Rep K cl Z s H v t := by
  cases r with
  | cons h q => cases q; exact ⟨_, rfl, h⟩
theorem reps2 {K : PySem.W.Frag} {Z : Addr → Prop} {s : S} {H : Hp} {vs : List V} {t u : T} (r : Reps K cl Z s H vs [t, u]) : ∃ v w, vs = [v, w] ∧ Rep K cl Z s H v t ∧ Rep K cl Z s H w u := by
  cases r with
  | cons h q =>
    obtain ⟨w, rfl, q2⟩ := reps1 q
    exact ⟨_, w, rfl, h, q2⟩
def lenO : ON
  | _, [.str z] => some (z.length ≤ 1000000, .int z.length)
  | s, [x] => match s.seq? x with | some (_, xs) => some (True, .int xs.length) | none => none
  | _, _ => none
theorem c_len : BC X cl (.builtin "len") lenO := by
  refine ⟨_, call_or Tw.c_len Tw.c_lenS, fun Z H xs Q s ts c t r so e hc p => ?_⟩
  unfold lenO at e
  split at e
  · cases e
    obtain ⟨v, rfl, rv⟩ := reps1 r
    cases rep_s rv
    exact .inr ⟨_, rfl, Nat.le_trans hc size6, p.here (.int _) so⟩
  · obtain ⟨v, rfl, rv⟩ := reps1 r
    split at e
    · rename_i e1
      cases e
      obtain ⟨a, vs, rfl, hq, rs⟩ := seq_sq so rv e1
      exact .inl ⟨a, vs, rfl, hq, p.here (by rw [rs.length]; exact .int _) so⟩
    · cases e
  · cases e
def absO : ON
  | _, [.int i] => some (True, .int (if i < 0 then -i else i))
  | _, _ => none
theorem c_abs : BC X cl (.builtin "abs") absO := by
  refine ⟨_, call_abs, fun Z H xs Q s ts c t r so e hc p => ?_⟩
  unfold absO at e
  split at e
  · cases e
    obtain ⟨v, rfl, rv⟩ := reps1 r
    cases rep_i rv
    exact ⟨_, rfl, p.here (.int _) so⟩
  · cases e
def intO1 : ON
  | _, [.int i] => some (True, .int i)
  | _, [.bl b] => some (True, .int (if b then 1 else 0))
  | _, _ => none
theorem c_int : BC X cl (.type "int") intO1 := by
  refine ⟨_, call_int1, fun Z H xs Q s ts c t r so e hc p => ?_⟩
  unfold intO1 at e
  split at e
  · cases e
    obtain ⟨v, rfl, rv⟩ := reps1 r
    cases rep_i rv
    exact .inl ⟨_, rfl, p.here (.int _) so⟩
  · cases e
    obtain ⟨v, rfl, rv⟩ := reps1 r
    cases rep_b rv
    exact .inr ⟨_, rfl, p.here (.int _) so⟩
  · cases e
def strO : ON
  | _, [.int i] => some (i.natAbs < 2 ^ 128, .str (Str.ofString (toString i)))
  | _, [.str z] => some (True, .str z)
  | _, _ => none
theorem c_str : BC X cl (.type "str") strO := by
  refine ⟨_, call_or L2.call_str_int SkE.call_str_str, fun Z H xs Q s ts c t r so e hc p => ?_⟩
  unfold strO at e
  split at e
  · cases e
    obtain ⟨v, rfl, rv⟩ := reps1 r
    cases rep_i rv
    exact .inl ⟨_, rfl, log_small hc, p.here (.str _) so⟩
  · cases e
    obtain ⟨v, rfl, rv⟩ := reps1 r
    cases rep_s rv
    exact .inr ⟨_, rfl, p.here (.str _) so⟩
  · cases e
def listO : ON
  | s, [x] => match s.seq? x with | some (_, xs) => some (True, .lst xs) | none => none
  | _, _ => none
theorem c_list : BC X cl (.type "list") listO := by
  refine ⟨_, call_list_of, fun Z H xs Q s ts c t r so e hc p => ?_⟩
  unfold listO at e
  split at e
  · obtain ⟨v, rfl, rv⟩ := reps1 r
    split at e
    · rename_i e1
      cases e
      obtain ⟨a, vs, rfl, hq, rs⟩ := seq_sq so rv e1
      exact ⟨a, vs, rfl, hq, p.newL so rs⟩
    · cases e
  · cases e
theorem seq_tup {s : S} {x : T} {xs : List T} (e : s.seq? x = some (false, xs)) : x = .tup xs := by
  cases x with
  | tup zs => cases e; rfl
  | lst zs => cases e
  | cell q =>
    unfold S.seq? at e
    dsimp only at e
    split at e <;> cases e
  | _ => cases e
def tupO : ON
  | s, [x] => match s.seq? x with | some (_, xs) => some (True, .tup xs) | none => none
  | _, _ => none
theorem c_tup : BC X cl (.type "tuple") tupO := by
  refine ⟨_, call_tuple_of, fun Z H xs Q s ts c t r so e hc p => ?_⟩
  unfold tupO at e
  split at e
  · obtain ⟨v, rfl, rv⟩ := reps1 r
    split at e
    · rename_i b ys e1
      cases e
      obtain ⟨a, vs, rfl, hq, rs⟩ := seq_of so rv e1
      cases b with
      | true =>
        rw [if_pos rfl] at hq
        exact ⟨a, vs, rfl, .inl ⟨SqL.of hq, p.newT so rs⟩⟩
      | false =>
        rw [if_neg Bool.false_ne_true] at hq
        refine ⟨a, vs, rfl, .inr ⟨hq, p.here ?_ so⟩⟩
        rw [← seq_tup e1]
        exact rv
    · cases e
  · cases e
def reprO : ON
  | s, [x] => match s.dat x with | some d => some (d.showable = true ∧ d.depth ≤ 60 ∧ d.shown.length ≤ 1000000, .str d.shown) | none => none
  | _, _ => none
theorem c_repr (hr : Rm j X.A) : BC X cl (.builtin "repr") reprO := by
  refine ⟨_, call_repr hr, fun Z H xs Q s ts c t r so e hc p => ?_⟩
  unfold reprO at e
  split at e
  · obtain ⟨v, rfl, rv⟩ := reps1 r
    split at e
    · rename_i d e1
      cases e
      exact ⟨v, d, rfl, rv.sdp so e1, hc.1, hc.2.1, Nat.le_trans hc.2.2 size6, p.here (.str _) so⟩
    · cases e
  · cases e
def bools : List T → Option (List Bool)
  | [] => some []
  | .bl b :: r => (bools r).map (b :: ·)
  | _ => none
theorem Reps.bools {K : PySem.W.Frag} {Z : Addr → Prop} {s : S} {H : Hp} : ∀ {vs : List V} {ts : List T} {bs : List Bool}, Reps K cl Z s H vs ts → Mr.bools ts = some bs → vs = bs.map V.bl
  | _, [], _, r, e => by cases r; cases e; rfl
  | _, t :: ts, _, r, e => by
    cases r with
    | cons h q =>
      unfold Mr.bools at e
      split at e
      · rename_i e0
        cases e0
      · rename_i b r' e0
        injection e0 with e1 e2
        subst e1 e2
        obtain ⟨l, e3, rfl⟩ := Option.map_eq_some_iff.mp e
        cases rep_b h
        rw [List.map_cons, q.bools e3]
      · cases e
theorem bools_map (bs : List Bool) : bools (bs.map T.bl) = some bs := by
  induction bs with
  | nil => rfl
  | cons b r ih => rw [List.map_cons]; unfold bools; rw [ih]; rfl
def allO : ON
  | s, [x] => match s.lst? x with | some xs => (match bools xs with | some bs => some (True, .bl (bs.all fun b => b)) | none => none) | none => none
  | _, _ => none
def anyO : ON
  | s, [x] => match s.lst? x with | some xs => (match bools xs with | some bs => some (True, .bl (bs.any fun b => b)) | none => none) | none => none
  | _, _ => none
theorem c_all (hcm : X.calm = true) : BC X cl (.builtin "all") allO := by
  refine ⟨_, cr_all hcm, fun Z H xs Q s ts c t r so e hc p => ?_⟩
  unfold allO at e
  split at e
  · obtain ⟨v, rfl, rv⟩ := reps1 r
    split at e
    · rename_i e1
      split at e
      · rename_i bs e2
        cases e
        obtain ⟨a, vs, rfl, hq, rs⟩ := lst_of so rv e1
        exact ⟨a, bs, rfl, SqL.of (by rw [hq, rs.bools e2]), p.here (.bl _) so⟩
      · cases e
    · cases e
  · cases e
theorem c_any (hcm : X.calm = true) : BC X cl (.builtin "any") anyO := by
  refine ⟨_, cr_any hcm, fun Z H xs Q s ts c t r so e hc p => ?_⟩
  unfold anyO at e
  split at e
  · obtain ⟨v, rfl, rv⟩ := reps1 r
    split at e
    · rename_i e1
      split at e
      · rename_i bs e2
        cases e
        obtain ⟨a, vs, rfl, hq, rs⟩ := lst_of so rv e1
        exact ⟨a, bs, rfl, SqL.of (by rw [hq, rs.bools e2]), p.here (.bl _) so⟩
      · cases e
    · cases e
  · cases e
/-! isinstance -/
/-- what a value is; whether it is an error -/
def S.ty? (s : S) : T → Option (Ty × Bool)
  | .non => some (.non, false) | .bl _ => some (.bool, false) | .int _ => some (.int, false) | .str _ => some (.str, false) | .lst _ => some (.list, false) | .tup _ => some (.tup, false) | .dct _ => some (.dict, false)
  | .obj c _ => some (.own c, false)
  | .err c _ => some (.own c, true)
  | .cell a => match s.on a with | some (.lst _) => some (.list, false) | some (.obj c _) => some (.own c, false) | some (.dct _) => some (.dict, false) | none => none
  | _ => none
/-- what is known of own classes -/
structure Wc (K : PySem.W.Frag) (cl : Nat → Addr) (kk : Ty → Ty → Option Bool) (ins exc : List Nat) : Prop where
  kit : ∀ a b r, kk a b = some r → PySem.W.kitOne K (a.u cl) (b.u cl) = some r
  hi : ∀ c ∈ ins, C8.InsC K (cl c)
  he : ∀ c ∈ exc, ExcC K (cl c)
def okC (ins exc : List Nat) : Ty → Bool → Prop
  | .own c, true => c ∈ exc
  | .own c, false => c ∈ ins
  | _, _ => True
theorem ty_of {K : PySem.W.Frag} {kk : Ty → Ty → Option Bool} {ins exc : List Nat} {Z : Addr → Prop} {s : S} {H : Hp} {v : V} {t : T} {y : Ty} {g : Bool} (w : Wc K cl kk ins exc) (so : Sto K cl Z s H) (r : Rep K cl Z s H v t) (e : s.ty? t = some (y, g)) (h : okC ins exc y g) : TyE K H v (y.u cl) := by
  cases t with
  | non => cases r; cases e; exact .inl (.base .non)
  | bl b => cases r; cases e; exact .inl (.base (.bl b))
  | int b => cases r; cases e; exact .inl (.base (.int b))
  | str b => cases r; cases e; exact .inl (.base (.str b))
  | lst xs => obtain ⟨a, vs, rfl, hq, rs⟩ := lst_of so r rfl; cases e; exact .inl (.base (.lst hq))
  | tup xs =>
    cases e
    cases r with
    | tup h _ _ => exact .inl (.base (.tup h))
    | tupK a b _ _ _ _ => exact .inl (.kTuple a b)
  | dct xs =>
    cases e
    cases r with
    | dct h _ _ => exact .inl (.base (.dK h))
  | obj c fs =>
    cases e
    have i := w.hi c h
    cases r with
    | obj ho _ _ => exact .inl (.base (.ins ho i.cl i.ha i.hn i.htk i.hm))
  | err c fs =>
    cases e
    have i := w.he c h
    cases r with
    | err h1 _ h2 _ _ => exact .inr ⟨_, _, _, _, rfl, rfl, i, h1, h2⟩
  | cell a =>
    cases r
    unfold S.ty? at e
    dsimp only at e
    split at e
    · rename_i ho
      cases e
      obtain ⟨vs, h1, h2⟩ := so.cells _ _ ho
      exact .inl (.base (.lst h1))
    · rename_i c fs ho
      cases e
      obtain ⟨dx, vs, h1, h2⟩ := so.cells _ _ ho
      have i := w.hi c h
      exact .inl (.base (.ins h1 i.cl i.ha i.hn i.htk i.hm))
    · rename_i ho
      cases e
      obtain ⟨vs, h1, h2⟩ := so.cells _ _ ho
      exact .inl (.base (.dK h1))
    · cases e
  | _ => cases e
def isiO (kk : Ty → Ty → Option Bool) (ins exc : List Nat) : ON
  | s, [x, .ty b] => match s.ty? x with | some (a, g) => (match kk a b with | some r => some (okC ins exc a g, .bl r) | none => none) | none => none
  | _, _ => none
theorem c_isi {kk : Ty → Ty → Option Bool} {ins exc : List Nat} (w : Wc X.K cl kk ins exc) : BC X cl (.builtin "isinstance") (isiO kk ins exc) := by
  refine ⟨_, call_isX, fun Z H xs Q s ts c t r so e hc p => ?_⟩
  unfold isiO at e
  split at e
  · obtain ⟨v, u, rfl, rv, ru⟩ := reps2 r
    cases ru
    split at e
    · rename_i a g e1
      split at e
      · rename_i q e2
        cases e
        exact r_isX (Ty.cls cl _) (ty_of w so rv e1 hc) (w.kit _ _ _ e2) (p.here (.bl _) so)
      · cases e
    · cases e
  · cases e
/-! ### attributes -/
def S.obj? (s : S) : T → Option (Nat × List (Str × T))
  | .obj c fs => some (c, fs)
  | .cell a => match s.on a with | some (.obj c fs) => some (c, fs) | _ => none
  | _ => none
theorem obj_of {K : PySem.W.Frag} {Z : Addr → Prop} {s : S} {H : Hp} {v : V} {t : T} {n : Nat} {fs : List (Str × T)} (so : Sto K cl Z s H) (r : Rep K cl Z s H v t) (e : s.obj? t = some (n, fs)) :
    ∃ a dx fvs, v = .ref a ∧ H a = some (.ins (cl n) dx fvs) ∧ RepF K cl Z s H fvs fs := by
  cases t with
  | obj c fs =>
    cases e
    cases r with
    | obj h _ q => exact ⟨_, _, _, rfl, h, q⟩
  | cell a =>
    cases r
    unfold S.obj? at e
    dsimp only at e
    split at e
    · rename_i ho
      cases e
      obtain ⟨dx, fvs, h1, h2⟩ := so.cells _ _ ho
      exact ⟨a, dx, fvs, rfl, h1, h2⟩
    · cases e
  | _ => cases e
def fldO (cs : List Nat) (f : Str) : O1 := fun s x => match s.obj? x with | some (c, fs) => (match fs.lookup f with | some t => some (c ∈ cs, t) | none => none) | none => none
theorem je_fld {cs : List Nat} {f : Str} (hc : ∀ c ∈ cs, Cls X.K (cl c) ∧ NoAttr X.K (cl c) f) (ha : JE X cl W a Fa) (hb : attributeBase a f X.env (eval a X.env) = eval a X.env := by rfl) : JE X cl W (.Attribute a f pos) (fUn (fldO cs f) Fa) := by
  refine je_un1 (t := fun te => tFld X.K te f) (r := fun x H1 Q => ∃ a C dx fs v, x = .ref a ∧ H1 a = some (.ins C dx fs) ∧ Cls X.K C ∧ NoAttr X.K C f ∧ fs.lookup f = some v ∧ Q v H1) (fun te => rfl) (pe_fld ha.pe hb) ha.mon fun Z H x Q s tx c t px so e hcc p => ?_
  unfold fldO at e
  split at e
  · rename_i n fs e1
    split at e
    · rename_i t' e2
      cases e
      obtain ⟨a, dx, fvs, rfl, h1, rf⟩ := obj_of so px e1
      obtain ⟨v, e3, rv⟩ := rf.lookup e2
      exact ⟨a, _, dx, fvs, v, rfl, h1, (hc n hcc).1, (hc n hcc).2, e3, p.here rv so⟩
    · cases e
  · cases e
/-- a field of an error -/
def xgO (c : Nat) (f : Str) : O1
  | _, .err k fs => match fs.lookup f with | some t => some (k = c, t) | none => none
  | _, _ => none
def rXg (C : Addr) (f : Str) : V → Hp → VK → Prop := fun x H1 Q => ∃ (a d : Addr) (fs : List (Str × V)) (v : V), x = .ref a ∧ H1 a = some (exV C a d) ∧ H1 d = some (.xd fs) ∧ fs.lookup f = some v ∧ Q v H1
theorem je_xg {c : Nat} {f : Str} (hT : XfC X.K (cl c)) (hno : PySem.W.findIn X.K (.ref (cl c)) f = some none) (ha : JE X cl W a Fa) (hb : attributeBase a f X.env (eval a X.env) = eval a X.env := by rfl) : JE X cl W (.Attribute a f pos) (fUn (xgO c f) Fa) := by
  refine je_un1 (t := tXg (cl c) f) (r := rXg (cl c) f) (fun te => rfl) (pe_xg hT hno ha.pe hb) ha.mon fun Z H x Q s tx c' t px so e hcc p => ?_
  unfold xgO at e
  split at e
  · split at e
    · rename_i e2
      cases e
      cases hcc
      cases px with
      | err h1 _ h2 _ rf =>
        obtain ⟨v, e3, rv⟩ := rf.lookup e2
        exact ⟨_, _, _, v, rfl, h1, h2, e3, p.here rv so⟩
    · cases e
  · cases e
end
end Mr

/-! The mirror layer: defs, classes, statements. -/
namespace Mr
open PySem PySem.Spec PyProof.Rows L2 Tw

/-! ### what a def does -/
/-- as F does, or less -/
def cM (F : FD) : FD := fun ts s Q E => ∃ (Q0 : KT) (E0 : KX), F ts s Q0 E0 ∧ (∀ t s, Q0 t s → Q t s) ∧ ∀ e s, E0 e s → E e s
theorem cM.of {F : FD} {ts : List T} {s : S} {Q : KT} {E : KX} (h : F ts s Q E) : cM F ts s Q E := ⟨Q, E, h, fun _ _ q => q, fun _ _ q => q⟩
theorem cM.mon {F : FD} {ts : List T} {s : S} {Q Q' : KT} {E E' : KX} (hq : ∀ t s, Q t s → Q' t s) (he : ∀ e s, E e s → E' e s) (h : cM F ts s Q E) : cM F ts s Q' E' := by
  obtain ⟨Q0, E0, h1, h2, h3⟩ := h
  exact ⟨Q0, E0, h1, fun t s q => hq _ _ (h2 t s q), fun e s q => he _ _ (h3 e s q)⟩
def spM (K : PySem.W.Frag) (cl : Nat → Addr) (F : FD) : Sp := fun vs H Q E => ∃ Z ts s, Reps K cl Z s H vs ts ∧ Sto K cl Z s H ∧ cM F ts s (post K cl Z s H Q) (postX K cl Z s H E)
structure CalM (P : Program) (w : World) (K : PySem.W.Frag) (mg : Str → Option Value) (base : Heap) (cl : Nat → Addr) (k : Nat) (x : Str) (F : FD) (dts : List T) : Prop where
  ex : ∃ dvs, Cal P w K mg base k x (spM K cl F) dvs ∧ ∀ Z s H, Reps K cl Z s H dvs dts
structure MetM (P : Program) (w : World) (K : PySem.W.Frag) (mg : Str → Option Value) (base : Heap) (cl : Nat → Addr) (k : Nat) (c : Nat) (m : Str) (F : FD) (dts : List T) : Prop where
  ex : ∃ dvs, Met P w K mg base k (cl c) m (spM K cl F) dvs ∧ ∀ Z s H, Reps K cl Z s H dvs dts
structure MakM (P : Program) (w : World) (K : PySem.W.Frag) (mg : Str → Option Value) (base : Heap) (cl : Nat → Addr) (k : Nat) (x : Str) (c : Nat) (F : FD) (dts : List T) : Prop where
  ex : ∃ dvs, Mak P w K mg base k x (cl c) (spM K cl F) dvs ∧ ∀ Z s H, Reps K cl Z s H dvs dts
/-- the ends of a def's body -/
def endsM (Q : KT) (E : KX) : DS := ⟨fun _ s => Q .non s, Q, fun _ _ => False, fun _ _ => False, fun e _ s => E e s⟩
theorem spM.len {K : PySem.W.Frag} {cl : Nat → Addr} {F : FD} {n : Nat} (h : ∀ ts s Q E, F ts s Q E → ts.length = n) : ∀ vs H Q E, spM K cl F vs H Q E → vs.length = n := by
  rintro vs H Q E ⟨Z, ts, s, r, _, Q0, E0, h1, _⟩
  rw [r.length]
  exact h _ _ _ _ h1
theorem body_go {P : Program} {w : World} {K : PySem.W.Frag} {mg : Str → Option Value} {base : Heap} {cl : Nat → Addr} {N : List Str} {qual : Str} {sc : Scope} {f : Addr} {cdv : Value} {A : Around} {out : List PySem.Env} {sh : Shared} {H : Hp} {E : XK} {vs : List V} {Q : VK} {F : FD} {B : FS} {body : List Stmt}
    (hB : JSs (cxOf (L2.CX P w) P w K mg base N qual sc f cdv A out sh H E) cl (fun cls d _ H' => E cls d H') body B) (hF : ∀ ts s Q E, F ts s Q E → B (startT N ts) s (endsM Q E)) (h : spM K cl F vs H Q E) :
    ∃ t, PSs (cxOf (L2.CX P w) P w K mg base N qual sc f cdv A out sh H E) body t ∧ t { nx := fun _ H' => Q .non H', rt := Q } (L2.start N vs) H := by
  obtain ⟨Z, ts, s, r, so, Q0, E0, h1, h2, h3⟩ := h
  refine ⟨_, hB.pss, Z, startT N ts, s, REnv.start r, so, hB.mon _ _ _ _ ?_ (hF _ _ _ _ h1)⟩
  refine ⟨fun τ s' q σ H' f _ so' => h2 _ _ q _ _ f .non so', fun t s' q => h2 _ _ q, fun τ s' q => q.elim, fun τ s' q => q.elim, fun er τ s' q d fvs σ H' f e m rf _ so' => h3 _ _ q d fvs H' f e m rf so'⟩
section
variable {P : Program} {w : World} {K : PySem.W.Frag} {mg : Str → Option Value} {base : Heap} {cl : Nat → Addr} {k c : Nat} {x m qual : Str} {st : Stmt} {ps N : List Str} {dvs : List V} {dts : List T} {F : FD} {B : FS}
theorem calM (D : DefAt K mg x st ps dvs) (hd : ∀ Z s H, Reps K cl Z s H dvs dts) (S : FnScope N ps (C8.fnScope st)) (len : ∀ ts s Q E, F ts s Q E → ts.length = ps.length)
    (hB : ∀ (f : Addr) (cdv : Value) (A : Around) (out : List PySem.Env) (s : Shared) (H : Hp) (E : XK), Rm k (A.deeper (envOfC x (C8.fnScope st) s.heap.objs.size f cdv)) →
      JSs (cxOf (L2.CX P w) P w K mg base N x (C8.fnScope st) f cdv A out s H E) cl (fun cls d _ H' => E cls d H') (C8.fnBody st) B)
    (hF : ∀ ts s Q E, F ts s Q E → B (startT N ts) s (endsM Q E)) : CalM P w K mg base cl (k + 1) x F dts :=
  ⟨dvs, calX D S (spM.len len) fun f cdv A out s H vs Q E hr h => body_go (hB f cdv A out s H E hr) hF h, hd⟩
theorem metM (D : MetAt K (cl c) m qual st ps dvs) (hd : ∀ Z s H, Reps K cl Z s H dvs dts) (S : FnScope N ps (C8.fnScope st)) (len : ∀ ts s Q E, F ts s Q E → ts.length = ps.length)
    (hB : ∀ (f : Addr) (cdv : Value) (A : Around) (out : List PySem.Env) (s : Shared) (H : Hp) (E : XK), Rm k (A.deeper (envOfC qual (C8.fnScope st) s.heap.objs.size f cdv)) →
      JSs (cxOf (L2.CX P w) P w K mg base N qual (C8.fnScope st) f cdv A out s H E) cl (fun cls d _ H' => E cls d H') (C8.fnBody st) B)
    (hF : ∀ ts s Q E, F ts s Q E → B (startT N ts) s (endsM Q E)) : MetM P w K mg base cl (k + 1) c m F dts :=
  ⟨dvs, metX D S (spM.len len) fun f cdv A out s H vs Q E hr h => body_go (hB f cdv A out s H E hr) hF h, hd⟩
theorem makM (D : MakAt K mg x (cl c) qual st ps dvs) (hd : ∀ Z s H, Reps K cl Z s H dvs dts) (S : FnScope N ps (C8.fnScope st)) (len : ∀ ts s Q E, F ts s Q E → ts.length = ps.length)
    (hB : ∀ (f : Addr) (cdv : Value) (A : Around) (out : List PySem.Env) (s : Shared) (H : Hp) (E : XK), Rm k (A.deeper (envOfC qual (C8.fnScope st) s.heap.objs.size f cdv)) →
      JSs (cxOf (L2.CX P w) P w K mg base N qual (C8.fnScope st) f cdv A out s H E) cl (fun cls d _ H' => E cls d H') (C8.fnBody st) B)
    (hF : ∀ ts s Q E, F ts s Q E → B (startT N ts) s (endsM Q E)) : MakM P w K mg base cl (k + 1) x c F dts :=
  ⟨dvs, makX D S (spM.len len) fun f cdv A out s H vs Q E hr h => body_go (hB f cdv A out s H E hr) hF h, hd⟩
end
section
variable {X : Cx} {cl : Nat → Addr} {W : WX} {e a b c o : Expr} {es : List Expr} {F Fa Fb Fc Fo : FE} {G Ga Gb : FT} {A : FA} {pos p apos : Pos} {rest : List Expr} {x m : Str} {k j n : Nat} {D : FD} {dts : List T}
/-! ### calls -/
def fCall (D : FD) (dts : List T) (A : FA) : FE := fun τ s Q E => A τ s (fun ts s1 => cM D (ts ++ dts) s1 Q E) E
theorem mon_call (ma : MonA A) : MonE (fCall D dts A) := fun τ s Q Q' E E' hq he h => ma _ _ _ _ _ _ (fun ts s1 h1 => h1.mon hq he) he h
theorem sp_of {Z : Addr → Prop} {σ : L2.St} {s s1 : S} {H H1 : Hp} {Q : VK} {vs dvs : List V} {ts : List T} (f1 : Fut s H s1 H1) (r : Reps X.K cl Z s1 H1 vs ts) (hd : ∀ Z s H, Reps X.K cl Z s H dvs dts) (so : Sto X.K cl Z s1 H1)
    (h : cM D (ts ++ dts) s1 (post X.K cl Z s H Q) (postW X.K cl Z s H σ W)) : spM X.K cl D (vs ++ dvs) H1 Q (fun cls d H' => W cls d σ H') :=
  ⟨Z, ts ++ dts, s1, Reps.append r (hd _ _ _), so, h.mon (fun _ _ q => post.up f1 q) fun _ _ q => postX.up f1 q⟩
theorem je_call (tk : Takes X W) (d : CalM X.prog X.w X.K X.mg X.base cl k x D dts) (hr : Rm j X.A) (hk : k ≤ j) (hg : Gl X x) (ha : JA X cl W (e :: es) A) (hdb : (x == ("__debug__" : Str)) = false := by decide)
    (he : starEach (e :: es) X.env = (false, eval e X.env) :: starEach es X.env := by rfl) (hpl : (backTo pos (starEach es X.env)).any (·.1) = false := by rfl) : JE X cl W (.Call (.Name x p) (e :: es) [] pos) (fCall D dts A) := by
  obtain ⟨dvs, d, hd⟩ := d.ex
  refine ⟨mon_call ha.mon, PE.imp (pe_cW tk d hr hk hg ha.pa hdb he hpl) ?_⟩
  rintro σ H Q ⟨Z, τ, s, re, so, h⟩
  exact goA ha.mon re so h (fun ts s1 vs H1 p1 f1 re1 r1 so1 => sp_of f1 r1 hd so1 p1) fun _ _ q => q
theorem pe_cW0 {sp : Sp} {dvs : List V} (tk : Takes X W) (c : Cal X.prog X.w X.K X.mg X.base k x sp dvs) (hr : Rm j X.A) (hk : k ≤ j) (hg : Gl X x) (hdb : (x == ("__debug__" : Str)) = false := by decide) : PE X (.Call (.Name x p) [] [] pos) (tCW sp dvs W tNil) := by
  obtain ⟨f, fd, ps, ds, F, hm, kp, b, d⟩ := c.ex
  constructor
  intro pins s σ H Q I h
  exact wpAny_Call_Name_kw (ld_glob I hg hm (PySem.W.callWith_K0 I.kIn kp (runG (us := []) (vs := []) F (hr.mono hk) b d (pass_tk tk) I .nil h)) hdb)
theorem je_call0 (tk : Takes X W) (d : CalM X.prog X.w X.K X.mg X.base cl k x D dts) (hr : Rm j X.A) (hk : k ≤ j) (hg : Gl X x) (hdb : (x == ("__debug__" : Str)) = false := by decide) : JE X cl W (.Call (.Name x p) [] [] pos) (fCall D dts fNil) := by
  obtain ⟨dvs, d, hd⟩ := d.ex
  refine ⟨mon_call (ja_nil (X := X) (cl := cl) (W := W)).mon, PE.imp (pe_cW0 tk d hr hk hg hdb) ?_⟩
  rintro σ H Q ⟨Z, τ, s, re, so, h⟩
  exact sp_of (ts := []) (vs := []) (Fut.refl _ _) .nil hd so h
/-! an own class, called -/
/-- behind __init__: the instance as a tree (fz) or as a cell -/
def doneM (fz : Bool) (x : Addr) (Q : KT) : KT := fun t s => t = .non ∧ if fz = true then (match s.on x with | some (.obj c fs) => Q (.obj c fs) (s.del x) | _ => False) else Q (.cell x) s
def fMk (fz : Bool) (n : Nat) (D : FD) (dts : List T) (A : FA) : FE := fun τ s Q E => A τ s (fun ts s1 => ∀ x, s1.on x = none → cM D (.cell x :: (ts ++ dts)) (s1.put x (.obj n [])) (doneM fz x Q) (fun er s2 => E er (s2.del x))) E
theorem doneM.mon {fz : Bool} {x : Addr} {Q Q' : KT} (hq : ∀ t s, Q t s → Q' t s) {t : T} {s : S} (h : doneM fz x Q t s) : doneM fz x Q' t s := by
  refine ⟨h.1, ?_⟩
  have h2 := h.2
  refine w_ite h2 (fun q => ?_) (hq _ _)
  split at q
  · exact hq _ _ q
  · exact q.elim
theorem mon_mk {fz : Bool} (ma : MonA A) : MonE (fMk fz n D dts A) := fun τ s Q Q' E E' hq he h => ma _ _ _ _ _ _ (fun ts s1 h1 x hx => (h1 x hx).mon (fun _ _ q => q.mon hq) fun _ _ q => he _ _ q) he h
theorem mk_go {fz : Bool} {Z : Addr → Prop} {σ : L2.St} {s s1 : S} {H H1 : Hp} {Q : VK} {vs dvs : List V} {ts : List T} (f1 : Fut s H s1 H1) (r : Reps X.K cl Z s1 H1 vs ts) (hd : ∀ Z s H, Reps X.K cl Z s H dvs dts) (so : Sto X.K cl Z s1 H1)
    (h : ∀ x, s1.on x = none → cM D (.cell x :: (ts ++ dts)) (s1.put x (.obj n [])) (doneM fz x (post X.K cl Z s H Q)) (fun er s2 => postW X.K cl Z s H σ W er (s2.del x))) :
    ∀ x dx, H1 x = none → H1 dx = none → dx ≠ x → spM X.K cl D (.ref x :: (vs ++ dvs)) (upd (upd H1 dx (.own x)) x (.ins (cl n) dx [])) (fun v H2 => v = .non ∧ Q (.ref x) H2) (fun cls d H' => W cls d σ H') := by
  intro x dx hx hdx ne
  have so2 := so.new (o := .own x) hdx
  have fu2 : Fut s1 H1 s1 (upd H1 dx (.own x)) := Fut.new hdx
  have hx2 : upd H1 dx (.own x) x = none := by rw [upd_ne (Ne.symm ne)]; exact hx
  have fu3 : Fut s1 (upd H1 dx (.own x)) (s1.put x (.obj n [])) (upd (upd H1 dx (.own x)) x (.ins (cl n) dx [])) := Fut.newC hx2
  have so3 : Sto X.K cl Z (s1.put x (.obj n [])) (upd (upd H1 dx (.own x)) x (.ins (cl n) dx [])) := so2.newC hx2 ⟨dx, [], upd_same, .nil⟩
  have fu : Fut s H (s1.put x (.obj n [])) (upd (upd H1 dx (.own x)) x (.ins (cl n) dx [])) := f1.trans (fu2.trans fu3)
  refine ⟨Z, .cell x :: (ts ++ dts), s1.put x (.obj n []), .cons (.cell x) (Reps.append ((r.fut fu2).fut fu3) (hd _ _ _)), so3, (h x (on_none so hx)).mon (fun t s2 q => ?_) fun er s2 q => ?_⟩
  · obtain ⟨rfl, q⟩ := q
    intro v H2 f4 r4 so4
    cases r4
    refine ⟨rfl, ?_⟩
    cases fz with
    | false =>
      rw [if_neg Bool.false_ne_true] at q
      exact q _ _ (fu.trans f4) (.cell x) so4
    | true =>
      rw [if_pos rfl] at q
      split at q
      · rename_i c fs ho
        obtain ⟨dx2, fvs, h1, h2⟩ := so4.cells _ _ ho
        exact q _ _ (fu.trans (f4.trans (Fut.del _ _ x))) (.obj h1 (nomut_del so4 ho) (h2.fut (Fut.del _ _ x))) (so4.del x)
      · exact q.elim
  · intro d fvs H2 f4 hd2 m2 rf so4
    exact q d fvs H2 (fu.trans (f4.trans (Fut.del _ _ x))) hd2 ⟨fun m => m2.1 (mut_del m), m2.2⟩ (rf.fut (Fut.del _ _ x)) (so4.del x)
theorem je_mk (fz : Bool) (tk : Takes X W) (d : MakM X.prog X.w X.K X.mg X.base cl k x n D dts) (hr : Rm j X.A) (hk : k + 1 ≤ j) (hg : Gl X x) (ha : JA X cl W (e :: es) A) (hdb : (x == ("__debug__" : Str)) = false := by decide)
    (he : starEach (e :: es) X.env = (false, eval e X.env) :: starEach es X.env := by rfl) (hpl : (backTo pos (starEach es X.env)).any (·.1) = false := by rfl) : JE X cl W (.Call (.Name x p) (e :: es) [] pos) (fMk fz n D dts A) := by
  obtain ⟨dvs, d, hd⟩ := d.ex
  refine ⟨mon_mk ha.mon, PE.imp (pe_mkW tk d hr hk hg ha.pa hdb he hpl) ?_⟩
  rintro σ H Q ⟨Z, τ, s, re, so, h⟩
  exact goA ha.mon re so h (fun ts s1 vs H1 p1 f1 re1 r1 so1 => mk_go f1 r1 hd so1 p1) fun _ _ q => q
theorem pe_mkW0 {sp : Sp} {dvs : List V} {C : Addr} (tk : Takes X W) (c : Mak X.prog X.w X.K X.mg X.base k x C sp dvs) (hr : Rm j X.A) (hk : k + 1 ≤ j) (hg : Gl X x) (hdb : (x == ("__debug__" : Str)) = false := by decide) : PE X (.Call (.Name x p) [] [] pos) (tMkW C sp dvs W tNil) := by
  obtain ⟨f, fd, ps, ds, M, F, hm, b, d⟩ := c.ex
  constructor
  intro pins s σ H Q I h
  exact wpAny_Call_Name_kw (ld_glob I hg hm (PySem.W.callWith_K0 I.kIn M.kp (makeG (us := []) (vs := []) M F (hr.mono hk) b d (pass_tk tk) I .nil h)) hdb)
theorem je_mk0 (fz : Bool) (tk : Takes X W) (d : MakM X.prog X.w X.K X.mg X.base cl k x n D dts) (hr : Rm j X.A) (hk : k + 1 ≤ j) (hg : Gl X x) (hdb : (x == ("__debug__" : Str)) = false := by decide) : JE X cl W (.Call (.Name x p) [] [] pos) (fMk fz n D dts fNil) := by
  obtain ⟨dvs, d, hd⟩ := d.ex
  refine ⟨mon_mk (ja_nil (X := X) (cl := cl) (W := W)).mon, PE.imp (pe_mkW0 tk d hr hk hg hdb) ?_⟩
  rintro σ H Q ⟨Z, τ, s, re, so, h⟩
  exact mk_go (ts := []) (vs := []) (Fut.refl _ _) .nil hd so h
/-! a method -/
def fMt (cs : List Nat) (m : Str) (D : Nat → FD) (dts : Nat → List T) (Fo : FE) (A : FA) : FE := fun τ s Q E => Fo τ s (fun x s1 => match s1.obj? x with | some (c, fs) => c ∈ cs ∧ fs.lookup m = none ∧ A τ s1 (fun ts s2 => cM (D c) (x :: (ts ++ dts c)) s2 Q E) E | none => False) E
theorem je_mt {cs : List Nat} {D : Nat → FD} {dts : Nat → List T} {pl : Sem Bool} (tk : Takes X W) (d : ∀ c ∈ cs, MetM X.prog X.w X.K X.mg X.base cl k c m (D c) (dts c)) (hr : Rm j X.A) (hk : k ≤ j) (ho : JE X cl W o Fo) (ha : JA X cl W (e :: es) A)
    (hst : starEach (e :: es) X.env = (false, eval e X.env) :: starEach es X.env := by rfl) (hpl : (backTo pos (starEach es X.env)).any (·.1) = false := by rfl)
    (ht : eval (.Call (.Attribute o m apos) (e :: es) [] pos) X.env = (do
      let ov ← eval o X.env
      standAt apos.atName
      let (g, first) ← holding [ov] (getMethod ov m pl)
      callWith pos g first (backTo pos (starEach (e :: es) X.env)) (backToKw pos (keywordEach [] X.env))) := by rfl) : JE X cl W (.Call (.Attribute o m apos) (e :: es) [] pos) (fMt cs m D dts Fo A) := by
  refine ⟨fun τ s Q Q' E E' hq he h => ho.mon _ _ _ _ _ _ (fun x s1 h1 => ?_) he h, ⟨fun pins sh σ H Q I h => ?_⟩⟩
  · split at h1
    · exact ⟨h1.1, h1.2.1, ha.mon _ _ _ _ _ _ (fun ts s2 h2 => h2.mon hq he) he h1.2.2⟩
    · exact h1
  obtain ⟨Z, τ, s, re, so, h⟩ := h
  have h' : tT X.K cl W Fo σ H fun x H1 => ∃ c dx fs a, c ∈ cs ∧ x = .ref a ∧ H1 a = some (.ins (cl c) dx fs) ∧ fs.lookup m = none ∧ tTA X.K cl W A σ H1 fun vs H2 => ∀ dvs, (∀ Z s H, Reps X.K cl Z s H dvs (dts c)) → spM X.K cl (D c) (.ref a :: (vs ++ dvs)) H2 Q (fun cls d H' => W cls d σ H') := by
    refine go ho.mon re so h (fun tx s1 x H1 p1 f1 re1 r1 so1 => ?_) fun _ _ q => q
    split at p1
    · rename_i c fs e1
      obtain ⟨a, dx, fvs, rfl, h1, rf⟩ := obj_of so1 r1 e1
      refine ⟨c, dx, fvs, a, p1.1, rfl, h1, rf.lookup0 p1.2.1, goA ha.mon re1 so1 p1.2.2 (fun ts s2 vs H2 p2 f2 re2 r2 so2 dvs hd => ?_) fun _ _ q => postW.up f1 q⟩
      exact ⟨Z, tx :: (ts ++ dts c), s2, .cons (r1.fut f2) (Reps.append r2 (hd _ _ _)), so2, p2.mon (fun _ _ q => post.up (f1.trans f2) q) fun _ _ q => postX.up (f1.trans f2) q⟩
    · exact p1.elim
  refine PySem.W.methodCall_KW (pl := pl) (thn (ho.pe.run pins sh σ H _ I h') ?_) ht
  rintro u s1 ⟨x, H1, I1, rx, c, dx, fs, a, hc, rfl, ea, l, q⟩
  obtain ⟨dvs, dd, hd⟩ := (d c hc).ex
  obtain ⟨f, fd, ps, ds, hcl, hm, F, b, dv⟩ := dd.ex
  cases rx
  refine getmeth_ok I1 ea hcl hm l ?_
  refine PySem.W.callWith_K (first := [.ref a]) (h₀ := X.base) I.ok.mod.kin hm.kp (thn (ha.pa.run pos pins s1 σ H1 _ I1 q) ?_) hst hpl
  rintro us s2 ⟨vs, H2, I2, r, q2⟩
  exact ⟨I2.kIn, runG (us := .ref a :: us) (vs := .ref a :: vs) F (hr.mono hk) b dv (pass_tk tk) I2 (Paired.cons rfl r) (q2 dvs hd)⟩
theorem je_mt0 {cs : List Nat} {D : Nat → FD} {dts : Nat → List T} {pl : Sem Bool} (tk : Takes X W) (d : ∀ c ∈ cs, MetM X.prog X.w X.K X.mg X.base cl k c m (D c) (dts c)) (hr : Rm j X.A) (hk : k ≤ j) (ho : JE X cl W o Fo)
    (ht : eval (.Call (.Attribute o m apos) [] [] pos) X.env = (do
      let ov ← eval o X.env
      standAt apos.atName
      let (g, first) ← holding [ov] (getMethod ov m pl)
      callWith pos g first (backTo pos (starEach [] X.env)) (backToKw pos (keywordEach [] X.env))) := by rfl) : JE X cl W (.Call (.Attribute o m apos) [] [] pos) (fMt cs m D dts Fo fNil) := by
  refine ⟨fun τ s Q Q' E E' hq he h => ho.mon _ _ _ _ _ _ (fun x s1 h1 => ?_) he h, ⟨fun pins sh σ H Q I h => ?_⟩⟩
  · split at h1
    · exact ⟨h1.1, h1.2.1, h1.2.2.mon hq he⟩
    · exact h1
  obtain ⟨Z, τ, s, re, so, h⟩ := h
  have h' : tT X.K cl W Fo σ H fun x H1 => ∃ c dx fs a, c ∈ cs ∧ x = .ref a ∧ H1 a = some (.ins (cl c) dx fs) ∧ fs.lookup m = none ∧ ∀ dvs, (∀ Z s H, Reps X.K cl Z s H dvs (dts c)) → spM X.K cl (D c) (.ref a :: dvs) H1 Q (fun cls d H' => W cls d σ H') := by
    refine go ho.mon re so h (fun tx s1 x H1 p1 f1 re1 r1 so1 => ?_) fun _ _ q => q
    split at p1
    · rename_i c fs e1
      obtain ⟨a, dx, fvs, rfl, h1, rf⟩ := obj_of so1 r1 e1
      refine ⟨c, dx, fvs, a, p1.1, rfl, h1, rf.lookup0 p1.2.1, fun dvs hd => ?_⟩
      exact ⟨Z, tx :: dts c, s1, .cons r1 (hd _ _ _), so1, cM.mon (fun _ _ q => post.up f1 q) (fun _ _ q => postX.up f1 q) p1.2.2⟩
    · exact p1.elim
  refine PySem.W.methodCall_KW (pl := pl) (thn (ho.pe.run pins sh σ H _ I h') ?_) ht
  rintro u s1 ⟨x, H1, I1, rx, c, dx, fs, a, hc, rfl, ea, l, q⟩
  obtain ⟨dvs, dd, hd⟩ := (d c hc).ex
  obtain ⟨f, fd, ps, ds, hcl, hm, F, b, dv⟩ := dd.ex
  cases rx
  refine getmeth_ok I1 ea hcl hm l ?_
  exact PySem.W.callWith_K0 (first := [.ref a]) I1.kIn hm.kp (runG (us := [.ref a]) (vs := [.ref a]) F (hr.mono hk) b dv (pass_tk tk) I1 (Paired.cons rfl .nil) (q dvs hd))
/-! an error as a value -/
def fErr (n : Nat) (fs : List Str) (A : FA) : FE := fun τ s Q E => A τ s (fun ts s1 => ts.length = fs.length ∧ Q (.err n (fs.zip ts)) s1) E
theorem je_err {fs : List Str} (hX : XCall X.prog X.K (cl n) fs) (hT : OexC X.K (cl n)) (hr : Rm (k + 1) X.A) (hg : Gl X x) (hm : X.mg x = some (.ref (cl n))) (ha : JA X cl W (e :: es) A)
    (hdb : (x == ("__debug__" : Str)) = false := by decide) (he : starEach (e :: es) X.env = (false, eval e X.env) :: starEach es X.env := by rfl) (hpl : (backTo pos (starEach es X.env)).any (·.1) = false := by rfl) :
    JE X cl W (.Call (.Name x p) (e :: es) [] pos) (fErr n fs A) := by
  refine ⟨fun τ s Q Q' E E' hq he h => ha.mon _ _ _ _ _ _ (fun ts s1 h1 => ⟨h1.1, hq _ _ h1.2⟩) he h, PE.imp (pe_x hX hT hr hg hm ha.pa hdb he hpl) ?_⟩
  rintro σ H Q ⟨Z, τ, s, re, so, h⟩
  refine goA ha.mon re so h (fun ts s1 vs H1 p1 f1 re1 r1 so1 => ⟨by rw [r1.length]; exact p1.1, fun a dx ha hdx ne => ?_⟩) fun _ _ q => q
  have so2 := so1.new (o := .xd (fs.zip vs)) hdx
  have ha2 : upd H1 dx (.xd (fs.zip vs)) a = none := by rw [upd_ne (Ne.symm ne)]; exact ha
  have so3 := so2.new (o := exV (cl n) a dx) ha2
  have fu : Fut s1 H1 s1 (upd (upd H1 dx (.xd (fs.zip vs))) a (exV (cl n) a dx)) := (Fut.new hdx).trans (Fut.new ha2)
  exact p1.2 _ _ (f1.trans fu) (.err upd_same (so1.nomut ha) (by rw [upd_ne ne]; exact upd_same) (so1.nomut hdx) ((RepF.zip r1).fut fu)) so3
end
end Mr

/-! The mirror layer: statements. -/
namespace Mr
open PySem PySem.Spec PyProof.Rows L2 Tw
section
variable {X : Cx} {cl : Nat → Addr} {W : WX} {e a b c o : Expr} {es : List Expr} {F Fa Fb Fc Fo : FE} {G Ga Gb : FT} {A : FA} {pos p apos pos' : Pos} {rest : List Expr} {x m : Str} {k j n i : Nat} {st : Stmt} {sts : List Stmt} {B B1 B2 : FS}
abbrev xk (τ : Env) (D : DS) : KX := fun er s => D.xr er τ s
theorem xe_w {K : PySem.W.Frag} {Z : Addr → Prop} {s s1 : S} {H : Hp} {σ : L2.St} {τ : Env} {er : Er} (re : REnv K cl Z s H σ τ) (h : postXE K cl Z s H W er τ s1) : postW K cl Z s H σ W er s1 := fun d fvs H' f e m rf so => h d fvs σ H' f e m rf (re.fut f) so
theorem DS.Le.refl (D : DS) : D.Le D := ⟨fun _ _ q => q, fun _ _ q => q, fun _ _ q => q, fun _ _ q => q, fun _ _ _ q => q⟩
/-! ### blocks -/
def fSkip : FS := fun τ s D => D.nx τ s
def fSeq (B1 B2 : FS) : FS := fun τ s D => B1 τ s { D with nx := fun τ' s' => B2 τ' s' D }
theorem jss_nil : JSs X cl W [] fSkip := by
  refine ⟨fun τ s D D' le h => le.nx _ _ h, PSs.imp pss_nil ?_⟩
  rintro D σ H ⟨Z, τ, s, re, so, h⟩
  exact h σ H (Fut.refl _ _) re so
theorem mon_seq (m1 : MonS B1) (m2 : MonS B2) : MonS (fSeq B1 B2) := fun τ s D D' le h => by
  unfold fSeq at h ⊢
  refine m1 _ _ _ _ ?_ h
  exact ⟨fun τ' s' q => m2 _ _ _ _ le q, le.rt, le.bk, le.ct, le.xr⟩
theorem jss_cons (h1 : JS X cl W st B1) (h2 : JSs X cl W sts B2) : JSs X cl W (st :: sts) (fSeq B1 B2) := by
  refine ⟨mon_seq h1.mon h2.mon, PSs.imp (pss_cons h1.ps h2.pss) ?_⟩
  rintro D σ H ⟨Z, τ, s, re, so, h⟩
  refine goS h1.mon re so h ⟨fun τ' s' q σ' H' f re' so' => ?_, fun _ _ q => q, fun _ _ q => q, fun _ _ q => q, fun _ _ _ q => q⟩
  exact goS h2.mon re' so' q (postD.up f)
theorem jss_one (h1 : JS X cl W st B) : JSs X cl W [st] B := ⟨h1.mon, pss_one h1.ps⟩
theorem js_pass : JS X cl W (.Pass pos) fSkip := by
  refine ⟨fun τ s D D' le h => le.nx _ _ h, PS.imp ps_pass ?_⟩
  rintro D σ H ⟨Z, τ, s, re, so, h⟩
  exact h σ H (Fut.refl _ _) re so
def fBrk : FS := fun τ s D => D.bk τ s
def fCnt : FS := fun τ s D => D.ct τ s
theorem js_break : JS X cl W (.Break pos) fBrk := by
  refine ⟨fun τ s D D' le h => le.bk _ _ h, PS.imp ps_break ?_⟩
  rintro D σ H ⟨Z, τ, s, re, so, h⟩
  exact h σ H (Fut.refl _ _) re so
theorem js_continue : JS X cl W (.Continue pos) fCnt := by
  refine ⟨fun τ s D D' le h => le.ct _ _ h, PS.imp ps_continue ?_⟩
  rintro D σ H ⟨Z, τ, s, re, so, h⟩
  exact h σ H (Fut.refl _ _) re so
/-- code that is not come to -/
def fNever : FS := fun _ _ _ => False
theorem js_never : JS X cl W st fNever := ⟨fun _ _ _ _ _ h => h, PS.imp ps_never fun D σ H ⟨_, _, _, _, _, h⟩ => h⟩
def fDrop (Fa : FE) : FS := fun τ s D => Fa τ s (fun _ s1 => D.nx τ s1) (xk τ D)
theorem js_expr (ha : JE X cl W e Fa) (hs : swapsWith e none pos.line X.env = pure false := by rfl) : JS X cl W (.Expr e pos) (fDrop Fa) := by
  refine ⟨fun τ s D D' le h => ha.mon _ _ _ _ _ _ (fun _ _ q => le.nx _ _ q) (fun _ _ q => le.xr _ _ _ q) h, PS.imp (ps_expr ha.pe hs) ?_⟩
  rintro D σ H ⟨Z, τ, s, re, so, h⟩
  exact go ha.mon re so h (fun tx s1 v H1 p1 f1 re1 r1 so1 => p1 σ H1 f1 re1 so1) fun _ _ q => xe_w re q
def fRet (Fa : FE) : FS := fun τ s D => Fa τ s D.rt (xk τ D)
theorem js_ret (ha : JE X cl W e Fa) : JS X cl W (.Return (some e) pos) (fRet Fa) := by
  refine ⟨fun τ s D D' le h => ha.mon _ _ _ _ _ _ (fun _ _ q => le.rt _ _ q) (fun _ _ q => le.xr _ _ _ q) h, PS.imp (ps_ret ha.pe) ?_⟩
  rintro D σ H ⟨Z, τ, s, re, so, h⟩
  exact go ha.mon re so h (fun tx s1 v H1 p1 f1 re1 r1 so1 => p1 v H1 f1 r1 so1) fun _ _ q => xe_w re q
def fRetN : FS := fun _ s D => D.rt .non s
theorem js_retN : JS X cl W (.Return none pos) fRetN := by
  refine ⟨fun τ s D D' le h => le.rt _ _ h, PS.imp ps_retN ?_⟩
  rintro D σ H ⟨Z, τ, s, re, so, h⟩
  exact h _ H (Fut.refl _ _) .non so
/-- what is handed back is no cell any more -/
def fRetF (Fa : FE) : FS := fun τ s D => Fa τ s (fun t s1 => match t with | .cell a => (match s1.on a with | some (.lst xs) => D.rt (.lst xs) (s1.del a) | some (.obj c fs) => D.rt (.obj c fs) (s1.del a) | _ => False) | _ => False) (xk τ D)
theorem js_retF (ha : JE X cl W e Fa) : JS X cl W (.Return (some e) pos) (fRetF Fa) := by
  refine ⟨fun τ s D D' le h => ha.mon _ _ _ _ _ _ (fun t s1 q => ?_) (fun _ _ q => le.xr _ _ _ q) h, PS.imp (ps_ret ha.pe) ?_⟩
  · split at q
    · split at q
      · exact le.rt _ _ q
      · exact le.rt _ _ q
      · exact q.elim
    · exact q.elim
  rintro D σ H ⟨Z, τ, s, re, so, h⟩
  refine go ha.mon re so h (fun tx s1 v H1 p1 f1 re1 r1 so1 => ?_) fun _ _ q => xe_w re q
  split at p1
  · rename_i a
    cases r1
    split at p1
    · rename_i xs ho
      obtain ⟨vs, h1, h2⟩ := so1.cells _ _ ho
      exact p1 _ _ (f1.trans (Fut.del _ _ a)) (.lst h1 (nomut_del so1 ho) (h2.fut (Fut.del _ _ a))) (so1.del a)
    · rename_i c fs ho
      obtain ⟨dx, fvs, h1, h2⟩ := so1.cells _ _ ho
      exact p1 _ _ (f1.trans (Fut.del _ _ a)) (.obj h1 (nomut_del so1 ho) (h2.fut (Fut.del _ _ a))) (so1.del a)
    · exact p1.elim
  · exact p1.elim
def fIfS (G : FT) (B1 B2 : FS) : FS := fun τ s D => G τ s (fun b s1 => if b = true then B1 τ s1 D else B2 τ s1 D) (xk τ D)
theorem js_if {ss ts : List Stmt} (hc : JT X cl W c G) (h1 : JSs X cl W ss B1) (h2 : JSs X cl W ts B2) : JS X cl W (.If c ss ts pos) (fIfS G B1 B2) := by
  refine ⟨fun τ s D D' le h => hc.mon _ _ _ _ _ _ (fun b s1 q => w_ite q (h1.mon _ _ _ _ le) (h2.mon _ _ _ _ le)) (fun _ _ q => le.xr _ _ _ q) h, PS.imp (ps_if hc.pt h1.pss h2.pss) ?_⟩
  rintro D σ H ⟨Z, τ, s, re, so, h⟩
  refine goT hc.mon re so h (fun b s1 H1 p1 f1 re1 so1 => w_ite p1 (fun q => ?_) fun q => ?_) fun _ _ q => xe_w re q
  · exact goS h1.mon re1 so1 q (postD.up f1)
  · exact goS h2.mon re1 so1 q (postD.up f1)
/-! ### assignments -/
def fSet (i : Nat) (Fa : FE) : FS := fun τ s D => Fa τ s (fun t s1 => D.nx (τ.set i (some t)) s1) (xk τ D)
theorem js_set (hN : X.N.Nodup) (hi : X.N[i]? = some x) (hx : Loc X.env.scope x) (he : JE X cl W e Fa) (hs : swapsWith e (some (.Name x pos')) pos.line X.env = pure false := by rfl) (hf : X.fn x = true ∨ X.env.scope.names.lookup x = some .local := by first | exact .inl rfl | exact .inr rfl | assumption) :
    JS X cl W (.Assign [.Name x pos'] e pos) (fSet i Fa) := by
  refine ⟨fun τ s D D' le h => he.mon _ _ _ _ _ _ (fun _ _ q => le.nx _ _ q) (fun _ _ q => le.xr _ _ _ q) h, PS.imp (ps_set hN hi hx he.pe hs hf) ?_⟩
  rintro D σ H ⟨Z, τ, s, re, so, h⟩
  exact go he.mon re so h (fun tx s1 v H1 p1 f1 re1 r1 so1 => p1 _ H1 f1 (re1.set r1 i) so1) fun _ _ q => xe_w re q
/-- a target -/
abbrev FG := T → Env → S → (Env → S → Prop) → Prop
abbrev FGs := List T → Env → S → (Env → S → Prop) → Prop
structure JG (X : Cx) (cl : Nat → Addr) (tg : Expr) (G : FG) : Prop where
  mon : ∀ t τ s (Q Q' : Env → S → Prop), (∀ τ s, Q τ s → Q' τ s) → G t τ s Q → G t τ s Q'
  ex : ∃ g, PG X tg g ∧ ∀ (Z : Addr → Prop) (t : T) (v : V) (σ : L2.St) (τ : Env) (H : Hp) (s : S) (Q : L2.St → Hp → Prop), Rep X.K cl Z s H v t → REnv X.K cl Z s H σ τ → Sto X.K cl Z s H → G t τ s (postE X.K cl Z s H Q) → g v σ H Q
structure JGs (X : Cx) (cl : Nat → Addr) (tgs : List Expr) (G : FGs) : Prop where
  mon : ∀ ts τ s (Q Q' : Env → S → Prop), (∀ τ s, Q τ s → Q' τ s) → G ts τ s Q → G ts τ s Q'
  ex : ∃ g, PGs X tgs g ∧ ∀ (Z : Addr → Prop) (ts : List T) (vs : List V) (σ : L2.St) (τ : Env) (H : Hp) (s : S) (Q : L2.St → Hp → Prop), Reps X.K cl Z s H vs ts → REnv X.K cl Z s H σ τ → Sto X.K cl Z s H → G ts τ s (postE X.K cl Z s H Q) → g vs σ H Q
def gN (i : Nat) : FG := fun t τ s Q => Q (τ.set i (some t)) s
theorem jg_name (hN : X.N.Nodup) (hi : X.N[i]? = some x) (hx : Loc X.env.scope x) (hf : X.fn x = true ∨ X.env.scope.names.lookup x = some .local := by first | exact .inl rfl | exact .inr rfl | assumption) : JG X cl (.Name x pos) (gN i) :=
  ⟨fun _ _ _ _ _ hq h => hq _ _ h, _, pg_name hN hi hx hf, fun Z t v σ τ H s Q r re so h => h _ H (Fut.refl _ _) (re.set r i) so⟩
def gsNil : FGs := fun ts τ s Q => match ts with | [] => Q τ s | _ => False
def gsCons (g : FG) (gs : FGs) : FGs := fun ts τ s Q => match ts with | t :: r => g t τ s fun τ1 s1 => gs r τ1 s1 Q | [] => False
theorem jgs_nil : JGs X cl [] gsNil := by
  refine ⟨fun ts τ s Q Q' hq h => ?_, _, pgs_nil, fun Z ts vs σ τ H s Q r re so h => ?_⟩
  · unfold gsNil at h ⊢
    split at h
    · exact hq _ _ h
    · exact h
  · unfold gsNil at h
    split at h
    · cases r
      exact ⟨rfl, h _ H (Fut.refl _ _) re so⟩
    · exact h.elim
theorem jgs_cons {g : FG} {gs : FGs} (h1 : JG X cl e g) (h2 : JGs X cl es gs) (hs : (assignEach (e :: es) X.env).map (·.2) = assign e X.env :: (assignEach es X.env).map (·.2) := by rfl) : JGs X cl (e :: es) (gsCons g gs) := by
  obtain ⟨g1, p1, i1⟩ := h1.ex
  obtain ⟨g2, p2, i2⟩ := h2.ex
  refine ⟨fun ts τ s Q Q' hq h => ?_, _, pgs_cons p1 p2 hs, fun Z ts vs σ τ H s Q r re so h => ?_⟩
  · unfold gsCons at h ⊢
    split at h
    · exact h1.mon _ _ _ _ _ (fun _ _ q => h2.mon _ _ _ _ _ hq q) h
    · exact h
  · unfold gsCons at h
    split at h
    · cases r with
      | cons r rs =>
        refine ⟨_, _, rfl, i1 Z _ _ σ τ H s _ r re so (h1.mon _ _ _ _ _ (fun τ1 s1 q σ1 H1 f re1 so1 => ?_) h)⟩
        exact i2 Z _ _ σ1 τ1 H1 s1 Q (rs.fut f) re1 so1 (h2.mon _ _ _ _ _ (fun _ _ q => postE.up f q) q)
    · exact h.elim
def gT (n : Nat) (gs : FGs) : FG := fun t τ s Q => match t with | .tup xs => xs.length = n ∧ gs xs τ s Q | _ => False
theorem jg_tup {gs : FGs} {kk : Nat} (hc : X.calm = true) (h : JGs X cl es gs) (hn : (assignEach es X.env).length = n := by rfl) (hst : (assignEach es X.env).findIdx? (·.1) = none := by rfl) : JG X cl (.Tuple es kk pos) (gT n gs) := by
  obtain ⟨g1, p1, i1⟩ := h.ex
  refine ⟨fun ts τ s Q Q' hq q => ?_, _, pg_tup hc p1 hn hst, fun Z ts vs σ τ H s Q r re so q => ?_⟩
  · unfold gT at q ⊢
    split at q
    · exact ⟨q.1, h.mon _ _ _ _ _ hq q.2⟩
    · exact q
  · unfold gT at q
    split at q
    · obtain ⟨a, vs, rfl, ht, rs⟩ := tup_of r
      exact ⟨a, vs, rfl, ht, by rw [rs.length]; exact q.1, i1 Z _ _ σ τ H s Q rs re so q.2⟩
    · exact q.elim
def fAsg (Fa : FE) (g : FG) : FS := fun τ s D => Fa τ s (fun t s1 => g t τ s1 D.nx) (xk τ D)
theorem js_asg {g : FG} {tg : Expr} (he : JE X cl W e Fa) (hg : JG X cl tg g) (hs : swapsWithSole [tg] e pos.line X.env = pure false := by rfl) (hw : swappedStores [tg] e X.env = pure none := by rfl)
    (h1 : (assignEach [tg] X.env).map (·.2) = [assign tg X.env] := by rfl) : JS X cl W (.Assign [tg] e pos) (fAsg Fa g) := by
  obtain ⟨g1, p1, i1⟩ := hg.ex
  refine ⟨fun τ s D D' le h => he.mon _ _ _ _ _ _ (fun _ _ q => hg.mon _ _ _ _ _ le.nx q) (fun _ _ q => le.xr _ _ _ q) h, PS.imp (ps_asg he.pe p1 hs hw h1) ?_⟩
  rintro D σ H ⟨Z, τ, s, re, so, h⟩
  exact go he.mon re so h (fun tx s1 v H1 p f1 re1 r1 so1 => i1 Z _ _ σ τ H1 s1 _ r1 re1 so1 (hg.mon _ _ _ _ _ (fun _ _ q => postE.up f1 q) p)) fun _ _ q => xe_w re q
/-- a, b = x, y -/
def fPar (i j : Nat) (A : FA) : FS := fun τ s D => A τ s (fun ts s1 => match ts with | [t, u] => D.nx ((τ.set i (some t)).set j (some u)) s1 | _ => False) (xk τ D)
theorem js_par {x y : Str} {px py pt : Pos} {kt k2 pt2} (hc : X.calm = true) (hN : X.N.Nodup) (hi : X.N[i]? = some x) (hj : X.N[j]? = some y) (hij : i ≠ j)
    (hx : X.env.scope.names.lookup x = some .local) (hy : X.env.scope.names.lookup y = some .local) (ha : JA X cl W [a, b] A) (hsw : swappedStores [.Tuple [.Name x px, .Name y py] kt pt] (.Tuple [a, b] k2 pt2) X.env = pure (some [x, y]) := by rfl) :
    JS X cl W (.Assign [.Tuple [.Name x px, .Name y py] kt pt] (.Tuple [a, b] k2 pt2) pos) (fPar i j A) := by
  refine ⟨fun τ s D D' le h => ha.mon _ _ _ _ _ _ (fun ts s1 q => ?_) (fun _ _ q => le.xr _ _ _ q) h, PS.imp (ps_par hc hN hi hj hij hx hy ha.pa hsw) ?_⟩
  · split at q
    · exact le.nx _ _ q
    · exact q.elim
  rintro D σ H ⟨Z, τ, s, re, so, h⟩
  refine goA ha.mon re so h (fun ts s1 vs H1 p f1 re1 r1 so1 => ?_) fun _ _ q => xe_w re q
  split at p
  · obtain ⟨v, w, rfl, rv, rw⟩ := reps2 r1
    exact ⟨v, w, rfl, p _ H1 f1 ((re1.set rv i).set rw j) so1⟩
  · exact p.elim
/-- o.f = e, o an instance that may change -/
def fFldS (cs : List Nat) (f : Str) (Fo Fa : FE) : FS := fun τ s D => Fa τ s (fun t s1 => Fo τ s1 (fun y s2 => match y with | .cell a => (match s2.on a with | some (.obj c fs) => c ∈ cs ∧ fs.length < 1000 ∧ D.nx τ (s2.put a (.obj c (putT f t fs))) | _ => False) | _ => False) (xk τ D)) (xk τ D)
theorem js_fld {cs : List Nat} {f : Str} (hcs : ∀ c ∈ cs, Cls X.K (cl c) ∧ NoAttr X.K (cl c) f) (ho : JE X cl W o Fo) (he : JE X cl W e Fa) (hs : swapsWith e (some (.Attribute o f pos')) pos.line X.env = pure false := by rfl) : JS X cl W (.Assign [.Attribute o f pos'] e pos) (fFldS cs f Fo Fa) := by
  refine ⟨fun τ s D D' le h => he.mon _ _ _ _ _ _ (fun t s1 q => ho.mon _ _ _ _ _ _ (fun y s2 q2 => ?_) (fun _ _ q => le.xr _ _ _ q) q) (fun _ _ q => le.xr _ _ _ q) h, PS.imp (ps_fld ho.pe he.pe hs) ?_⟩
  · split at q2
    · split at q2
      · exact ⟨q2.1, q2.2.1, le.nx _ _ q2.2.2⟩
      · exact q2.elim
    · exact q2.elim
  rintro D σ H ⟨Z, τ, s, re, so, h⟩
  refine go he.mon re so h (fun tx s1 v H1 p1 f1 re1 r1 so1 => ?_) fun _ _ q => xe_w re q
  refine go ho.mon re1 so1 p1 (fun ty s2 y H2 p2 f2 re2 r2 so2 => ?_) fun _ _ q => postW.up f1 (xe_w re q)
  split at p2
  · rename_i a
    cases r2
    split at p2
    · rename_i c fs hon
      obtain ⟨dx, fvs, h1, h2⟩ := so2.cells _ _ hon
      have hne : s2.on a ≠ none := by rw [hon]; exact Option.some_ne_none _
      refine ⟨a, _, dx, fvs, rfl, h1, (hcs c p2.1).1, (hcs c p2.1).2, by rw [h2.length]; exact p2.2.1, ?_⟩
      have fu : Fut s2 H2 (s2.put a (.obj c (putT f tx fs))) (upd H2 a (.ins (cl c) dx (putF f v fvs))) := Fut.cell hne
      exact p2.2.2 σ _ (f1.trans (f2.trans fu)) (re2.fut fu) (so2.cell hne ⟨dx, _, upd_same, (RepF.put (r1.fut f2) h2).fut fu⟩)
    · exact p2.elim
  · exact p2.elim
/-! ### errors -/
def fRaise (n : Nat) (fs : List Str) (A : FA) : FS := fun τ s D => A τ s (fun ts s1 => ts.length = fs.length ∧ D.xr ⟨n, fs.zip ts⟩ τ s1) (xk τ D)
theorem js_raise {fs : List Str} (hc : X.calm = true) (tk : Takes X W) (hX : XCall X.prog X.K (cl n) fs) (hT : OexC X.K (cl n)) (hr : Rm (k + 1) X.A) (hg : Gl X x) (hm : X.mg x = some (.ref (cl n))) (ha : JA X cl W (e :: es) A)
    (hdb : (x == ("__debug__" : Str)) = false := by decide) (he : starEach (e :: es) X.env = (false, eval e X.env) :: starEach es X.env := by rfl) (hpl : (backTo pos' (starEach es X.env)).any (·.1) = false := by rfl) :
    JS X cl W (.Raise (some (.Call (.Name x p) (e :: es) [] pos')) none pos) (fRaise n fs A) := by
  refine ⟨fun τ s D D' le h => ha.mon _ _ _ _ _ _ (fun ts s1 h1 => ⟨h1.1, le.xr _ _ _ h1.2⟩) (fun _ _ q => le.xr _ _ _ q) h, PS.imp (L2.ps_raise hc tk (pmk_x hX hT hr hg hm ha.pa hdb he hpl)) ?_⟩
  rintro D σ H ⟨Z, τ, s, re, so, h⟩
  refine goA ha.mon re so h (fun ts s1 vs H1 p1 f1 re1 r1 so1 => ⟨by rw [r1.length]; exact p1.1, fun dx hdx => ?_⟩) fun _ _ q => xe_w re q
  have fu : Fut s1 H1 s1 (upd H1 dx (.xd (fs.zip vs))) := Fut.new hdx
  exact p1.2 dx _ σ _ (f1.trans fu) upd_same (so1.nomut hdx) ((RepF.zip r1).fut fu) (re1.fut fu) (so1.new hdx)
/-- try: body except X as n: v = n -/
def fTry (ok : Nat → Prop) (i j : Nat) (B : FS) : FS := fun τ s D => B τ s { D with xr := fun er τ1 s1 => ok er.c ∧ D.nx (((τ1.set i (some (.err er.c er.fs))).set j (some (.err er.c er.fs))).set i none) s1 }
theorem js_try {body : List Stmt} {ok : Nat → Prop} {cc : Nat} {n v : Str} {np vp xp ap hp0 : Pos} (hs : X.stack = X.env :: X.outer) (hf : X.env.frame = some X.env.locals) (hex : X.ex = []) (hN : X.N.Nodup) (hi : X.N[i]? = some n) (hj : X.N[j]? = some v) (hln : X.env.kindOf n = some .local) (hlv : X.env.kindOf v = some .local) (hc : Names X x (.ref (cl cc)))
    (hok : ∀ c, ok c → PySem.W.exmOne X.K (.ref (cl c)) (.ref (cl cc)) = some true)
    (nd : (n == ("__debug__" : Str)) = false) (ncd : (n == ("__classdict__" : Str)) = false) (hij : i < X.N.length)
    (hb : ∀ (W' : WX) (pn : List (Addr × Obj)) (xe : Value → Shared → Prop), Takes (X.tr pn xe) W' → JSs (X.tr pn xe) cl W' body B)
    (hsw : swapsWith (.Name n xp) (some (.Name v vp)) ap.line X.env = pure false := by rfl) :
    JS X cl W (.Try body [.ExceptHandler (some (.Name x np)) (some n) [.Assign [.Name v vp] (.Name n xp) ap] hp0] [] [] pos) (fTry ok i j B) := by
  have mB : MonS B := (hb (fun _ _ _ _ => True) [] (fun _ _ => True) (fun _ _ _ => trivial)).mon
  refine ⟨fun τ s D D' le h => by
    unfold fTry at h ⊢
    refine mB _ _ _ _ ?_ h
    exact ⟨le.nx, le.rt, le.bk, le.ct, fun er τ1 s1 q => ⟨q.1, le.nx _ _ q.2⟩⟩, PS.imp (ps_try_keep (tb := fun W' => tTS X.K cl W' B) hs hf hex hN hi hj hln hlv hc nd ncd hij (fun W' pn xe tk => (hb W' pn xe tk).pss) hsw) ?_⟩
  rintro D σ H ⟨Z, τ, s, re, so, h⟩
  refine goS mB re so h ⟨fun _ _ q => q, fun _ _ q => q, fun _ _ q => q, fun _ _ q => q, fun er τ1 s1 q => ?_⟩
  intro d fvs σ1 H1 f1 hd m1 rf re1 so1
  refine ⟨_, d, rfl, rfl, hok _ q.1, fun a ha => ?_⟩
  have fu : Fut s1 H1 s1 (upd H1 a (exV (cl er.c) a d)) := Fut.new ha
  have rr : Rep X.K cl Z s1 (upd H1 a (exV (cl er.c) a d)) (.ref a) (.err er.c er.fs) := .err upd_same (so1.nomut ha) (by rw [upd_ne (ne_of_none hd ha)]; exact hd) m1 (rf.fut fu)
  exact q.2 _ _ (f1.trans fu) ((((re1.fut fu).set rr i).set rr j).set0 i) (so1.new ha)
end
end Mr

/-! The mirror layer: what loops and comprehensions walk. -/
namespace Mr
open PySem PySem.Spec PyProof.Rows L2 Tw
section
variable {K : PySem.W.Frag} {cl : Nat → Addr} {Z Z' : Addr → Prop} {s s' : S} {H H' : Hp}
theorem Fz.futz {a : Addr} {u : HO} (n : Fz Z s a) (f : Fut s H s' H') (z : ∀ b, Z' b → Z b ∨ H b = none) (h : H a = some u) : Fz Z' s' a := ⟨(f.keep a _ h n.1).2, fun q => (z a q).elim n.2 fun e => by rw [h] at e; cases e⟩
mutual
theorem Rep.futz (f : Fut s H s' H') (z : ∀ b, Z' b → Z b ∨ H b = none) : ∀ {v : V} {t : T}, Rep K cl Z s H v t → Rep K cl Z' s' H' v t
  | _, _, .non => .non
  | _, _, .bl b => .bl b
  | _, _, .int i => .int i
  | _, _, .str z => .str z
  | _, _, .lst h n r => .lst (f.keep _ _ h n.1).1 (n.futz f z h) (r.futz f z)
  | _, _, .tup h n r => .tup (f.keep _ _ h n.1).1 (n.futz f z h) (r.futz f z)
  | _, _, .tupK a b d e g r => .tupK a b d e g (r.futz f z)
  | _, _, .dct h n r => .dct (f.keep _ _ h n.1).1 (n.futz f z h) (r.futz f z)
  | _, _, .obj h n r => .obj (f.keep _ _ h n.1).1 (n.futz f z h) (r.futz f z)
  | _, _, .err h n h2 n2 r => .err (f.keep _ _ h n.1).1 (n.futz f z h) (f.keep _ _ h2 n2.1).1 (n2.futz f z h2) (r.futz f z)
  | _, _, .cell a => .cell a
  | _, _, .pen h => .pen (f.pa _ h)
  | _, _, .ty n => .ty n
theorem Reps.futz (f : Fut s H s' H') (z : ∀ b, Z' b → Z b ∨ H b = none) : ∀ {vs : List V} {ts : List T}, Reps K cl Z s H vs ts → Reps K cl Z' s' H' vs ts
  | _, _, .nil => .nil
  | _, _, .cons h r => .cons (h.futz f z) (r.futz f z)
theorem RepF.futz (f : Fut s H s' H') (z : ∀ b, Z' b → Z b ∨ H b = none) : ∀ {vs : List (Str × V)} {ts : List (Str × T)}, RepF K cl Z s H vs ts → RepF K cl Z' s' H' vs ts
  | _, _, .nil => .nil
  | _, _, .cons h r => .cons (h.futz f z) (r.futz f z)
theorem RepK.futz (f : Fut s H s' H') (z : ∀ b, Z' b → Z b ∨ H b = none) : ∀ {vs : List (Key × V)} {ts : List (Key × T)}, RepK K cl Z s H vs ts → RepK K cl Z' s' H' vs ts
  | _, _, .nil => .nil
  | _, _, .cons h r => .cons (h.futz f z) (r.futz f z)
end
theorem REnv.futz (f : Fut s H s' H') (z : ∀ b, Z' b → Z b ∨ H b = none) : ∀ {σ : L2.St} {τ : Env}, REnv K cl Z s H σ τ → REnv K cl Z' s' H' σ τ
  | _, _, .nil => .nil
  | _, _, .c0 r => .c0 (r.futz f z)
  | _, _, .c1 h r => .c1 (h.futz f z) (r.futz f z)
def wipeT (τ : Env) : List Nat → Env
  | [] => τ
  | v :: vs => (wipeT τ vs).set v none
theorem REnv.wipe {σ : L2.St} {τ : Env} (r : REnv K cl Z s H σ τ) : ∀ vs : List Nat, REnv K cl Z s H (L2.wipe σ vs) (wipeT τ vs)
  | [] => r
  | v :: vs => (REnv.wipe r vs).set0 v
end
/-- the source J gives the items ts one by one, as long as ok holds -/
structure Src (K : PySem.W.Frag) (cl : Nat → Addr) (Z : Addr → Prop) (J : It) (ts : List T) (ok : S → Prop) (s0 : S) (H0 : Hp) : Prop where
  go : ∀ (Z' : Addr → Prop) (s : S) (H : Hp) (i : Nat) (t : T), Fut s0 H0 s H → (∀ b, Z' b → Z b ∨ H0 b = none) → ok s → Sto K cl Z' s H → ts[i]? = some t → J.go i H ∧ ∀ x H', J.yld i H x H' → Fut s H s H' ∧ Sto K cl Z' s H' ∧ Rep K cl Z' s H' x t
  stop : ∀ (Z' : Addr → Prop) (s : S) (H : Hp) (i : Nat), Fut s0 H0 s H → (∀ b, Z' b → Z b ∨ H0 b = none) → ok s → Sto K cl Z' s H → ts.length ≤ i → J.stop i H
abbrev FI := Env → S → (List T → (S → Prop) → S → Prop) → KX → Prop
def tTI (K : PySem.W.Frag) (cl : Nat → Addr) (W : WX) (I : FI) : TI := fun σ H R => ∃ Z τ s, REnv K cl Z s H σ τ ∧ Sto K cl Z s H ∧ I τ s (fun ts ok s1 => ∀ J H1, Fut s H s1 H1 → Sto K cl Z s1 H1 → Src K cl Z J ts ok s1 H1 → R J H1) (postW K cl Z s H σ W)
def MonI (I : FI) : Prop := ∀ τ s (Q Q' : List T → (S → Prop) → S → Prop) (E E' : KX), (∀ ts ok s, Q ts ok s → Q' ts ok s) → (∀ e s, E e s → E' e s) → I τ s Q E → I τ s Q' E'
structure JI (X : Cx) (cl : Nat → Addr) (W : WX) (tg iter : Expr) (I : FI) : Prop where
  mon : MonI I
  pi : PI X tg iter (tTI X.K cl W I)
section
variable {X : Cx} {cl : Nat → Addr} {W : WX} {tg e a b c o : Expr} {es : List Expr} {F Fa Fb Fc Fo : FE} {G Ga Gb : FT} {A : FA} {pos p apos pos' : Pos} {rest : List Expr} {x m : Str} {k j n i : Nat} {st : Stmt} {sts : List Stmt} {B B1 B2 : FS} {I : FI}
theorem PI.imp {iter : Expr} {w w' : TI} (h : PI X tg iter w) (i : ∀ σ H R, w' σ H R → w σ H R) : PI X tg iter w' := ⟨fun pins s σ H R I z => h.run pins s σ H R I (i σ H R z)⟩
/-- a list, a tuple or a text, as it comes -/
def iAny (K : PySem.W.Frag) (te : TE) : TI := fun σ H R => te σ H fun x H1 => (∃ a, x = .ref a ∧ (∃ xs, SqL K H1 a xs) ∧ R (Itl K a) H1) ∨ (∃ a, x = .ref a ∧ (∃ xs, SqT K H1 a xs) ∧ R (Itt K a) H1) ∨ ∃ z, x = .str z ∧ R (Its z) H1
theorem pi_any {te : TE} (he : PE X e te) : PI X tg e (iAny X.K te) := by
  refine ⟨fun pins s σ H R I h => ?_⟩
  refine thn (he.run pins s σ H _ I h) fun v s1 ⟨x, H1, I1, r1, q1⟩ => ?_
  rcases q1 with ⟨a, rfl, ⟨xs, hq⟩, q⟩ | ⟨a, rfl, ⟨xs, hq⟩, q⟩ | ⟨z, rfl, q⟩
  · cases r1
    obtain ⟨its, rv, p, hz⟩ := I1.list hq
    refine wpAny_pyIter_list p.isList ?_
    refine ⟨s1.heap.objs.size, [s1.heap.objs.size], _, _, H1, rfl, I1.kept (t' := s1.toks) fun b o e => Heap.get?_push_of_some _ e, turn_list a _, ⟨_, Heap.get?_push_size _ rfl, rfl, rfl⟩, fun b hb => ?_, q⟩
    have e : b = s1.heap.objs.size := by simpa using hb
    subst e
    exact I1.fpOk (Nat.le_refl _) (I1.hok.fresh (Nat.le_refl _))
  · cases r1
    obtain ⟨its, rv, p, hz⟩ := I1.tuple hq
    refine wpAny_pyIter_tuple (show s1.heap.IsTuple a its.toArray from p) ?_
    refine ⟨s1.heap.objs.size, [s1.heap.objs.size], _, _, H1, rfl, I1.kept (t' := s1.toks) fun b o e => Heap.get?_push_of_some _ e, turn_tuple a _, ⟨_, Heap.get?_push_size _ rfl, rfl, rfl⟩, fun b hb => ?_, q⟩
    have e : b = s1.heap.objs.size := by simpa using hb
    subst e
    exact I1.fpOk (Nat.le_refl _) (I1.hok.fresh (Nat.le_refl _))
  · obtain ⟨t, rfl⟩ := r1
    cases ha : z.cps.all (· < 128)
    · exact wpAny_pyIter_wide ha (pi_one (tk := s1.toks) I1 _ (turn_str _ z t "str_iterator" (.inr rfl)) ⟨_, Heap.get?_push_size _ rfl, rfl, rfl⟩ q)
    · exact wpAny_pyIter_ascii ha (pi_one (tk := s1.toks) I1 _ (turn_str _ z t "str_ascii_iterator" (.inl rfl)) ⟨_, Heap.get?_push_size _ rfl, rfl, rfl⟩ q)
def okAt (t : T) (xs : List T) : S → Prop := match t with | .cell a => fun s => s.on a = some (.lst xs) | _ => fun _ => True
/-- the items of what is walked -/
def S.its? (s : S) : T → Option (List T)
  | .str z => some (z.cps.toList.map fun c => .str ⟨#[c]⟩)
  | t => (s.seq? t).map (·.2)
def iSeq (Fa : FE) : FI := fun τ s Q E => Fa τ s (fun x s1 => match s1.its? x with | some ts => Q ts (okAt x ts) s1 | none => False) E
theorem src_str {K : PySem.W.Frag} {Z : Addr → Prop} {s : S} {H : Hp} (z : Str) (ok : S → Prop) : Src K cl Z (Its z) (z.cps.toList.map fun c => .str ⟨#[c]⟩) ok s H where
  go := fun Z' s H i t f zz ok so e => by
    rw [List.getElem?_map, Array.getElem?_toList] at e
    obtain ⟨c, e1, rfl⟩ := Option.map_eq_some_iff.mp e
    refine ⟨?_, ?_⟩
    · show i < z.cps.size
      by_cases q : i < z.cps.size
      · exact q
      · rw [Array.getElem?_eq_none (by omega)] at e1
        cases e1
    · rintro x H' ⟨rfl, d, hd, rfl⟩
      rw [e1] at hd
      cases hd
      exact ⟨Fut.refl _ _, so, .str _⟩
  stop := fun Z' s H i f zz ok so h => by
    rw [List.length_map, Array.length_toList] at h
    exact h
theorem tup_keep {K : PySem.W.Frag} {Z : Addr → Prop} {s : S} {H : Hp} {v : V} {xs : List T} (r : Rep K cl Z s H v (.tup xs)) : ∃ a vs, v = .ref a ∧ Reps K cl Z s H vs xs ∧ ∀ s' H', Fut s H s' H' → SqT K H' a vs := by
  cases r with
  | tup h n q => exact ⟨_, _, rfl, q, fun s' H' f => SqT.of (f.keep _ _ h n.1).1⟩
  | tupK a b c d e q => exact ⟨_, _, rfl, q, fun _ _ _ => .inr ⟨_, _, _, a, b, c, d, e⟩⟩
theorem ji_seq (ha : JE X cl W e Fa) : JI X cl W tg e (iSeq Fa) := by
  refine ⟨fun τ s Q Q' E E' hq he h => ha.mon _ _ _ _ _ _ (fun x s1 h1 => ?_) he h, PI.imp (pi_any ha.pe) ?_⟩
  · split at h1
    · exact hq _ _ _ h1
    · exact h1
  rintro σ H R ⟨Z, τ, s, re, so, h⟩
  refine go ha.mon re so h (fun tx s1 x H1 p1 f1 re1 r1 so1 => ?_) fun _ _ q => q
  split at p1
  · rename_i ts e1
    unfold S.its? at e1
    split at e1
    · rename_i z
      cases e1
      cases rep_s r1
      exact .inr (.inr ⟨z, rfl, p1 _ _ f1 so1 (src_str z _)⟩)
    · obtain ⟨⟨b, ys⟩, e2, rfl⟩ := Option.map_eq_some_iff.mp e1
      cases tx with
      | lst zs =>
        cases e2
        cases r1 with
        | lst h n rs =>
          refine .inl ⟨_, rfl, ⟨_, SqL.of h⟩, p1 _ _ f1 so1 ⟨fun Z' s2 H2 i t f zz ok so2 e => ?_, fun Z' s2 H2 i f zz ok so2 e => ?_⟩⟩
          · have h2 := (f.keep _ _ h n.1).1
            obtain ⟨v, ev, rv⟩ := rs.get i e
            refine ⟨⟨_, v, SqL.of h2, ev⟩, ?_⟩
            rintro y H' ⟨rfl, hy⟩
            have ey := hy _ (SqL.of h2)
            rw [ev] at ey
            cases ey
            exact ⟨Fut.refl _ _, so2, rv.futz f zz⟩
          · have h2 := (f.keep _ _ h n.1).1
            exact ⟨_, SqL.of h2, by rw [rs.length]; exact e⟩
      | tup zs =>
        cases e2
        obtain ⟨a, vs, rfl, rs, keep⟩ := tup_keep r1
        refine .inr (.inl ⟨a, rfl, ⟨vs, keep _ _ (Fut.refl _ _)⟩, p1 _ _ f1 so1 ⟨fun Z' s2 H2 i t f zz ok so2 e => ?_, fun Z' s2 H2 i f zz ok so2 e => ?_⟩⟩)
        · obtain ⟨v, ev, rv⟩ := rs.get i e
          refine ⟨⟨_, v, keep _ _ f, ev⟩, ?_⟩
          rintro y H' ⟨rfl, hy⟩
          have ey := hy _ (keep _ _ f)
          rw [ev] at ey
          cases ey
          exact ⟨Fut.refl _ _, so2, rv.futz f zz⟩
        · exact ⟨_, keep _ _ f, by rw [rs.length]; exact e⟩
      | cell a =>
        cases r1
        have e2' := e2
        unfold S.seq? at e2
        dsimp only at e2
        split at e2
        · rename_i zs ho
          cases e2
          obtain ⟨vs, h1, h2⟩ := so1.cells _ _ ho
          refine .inl ⟨_, rfl, ⟨_, SqL.of h1⟩, p1 _ _ f1 so1 ⟨fun Z' s2 H2 i t f zz ok so2 e => ?_, fun Z' s2 H2 i f zz ok so2 e => ?_⟩⟩
          · obtain ⟨ws, h3, h4⟩ := so2.cells _ _ (show s2.on a = some (.lst ys) from ok)
            obtain ⟨v, ev, rv⟩ := h4.get i e
            refine ⟨⟨_, v, SqL.of h3, ev⟩, ?_⟩
            rintro y H' ⟨rfl, hy⟩
            have ey := hy _ (SqL.of h3)
            rw [ev] at ey
            cases ey
            exact ⟨Fut.refl _ _, so2, rv⟩
          · obtain ⟨ws, h3, h4⟩ := so2.cells _ _ (show s2.on a = some (.lst ys) from ok)
            exact ⟨_, SqL.of h3, by rw [h4.length]; exact e⟩
        · cases e2
      | _ => cases e2
  · exact p1.elim
end
end Mr

/-! The mirror layer: loops, comprehensions, texts. -/
namespace Mr
open PySem PySem.Spec PyProof.Rows L2 Tw
section
variable {X : Cx} {cl : Nat → Addr} {W : WX} {tg e a b c o : Expr} {es : List Expr} {F Fa Fb Fc Fo : FE} {G Ga Gb : FT} {A : FA} {pos p apos pos' : Pos} {rest : List Expr} {x m : Str} {k j n i : Nat} {st : Stmt} {sts : List Stmt} {B B1 B2 : FS} {I : FI}
/-! ### ranges -/
def rng (lo : Int) (n : Nat) : List T := (List.range n).map fun k : Nat => .int (lo + (k : Int))
theorem src_rng {K : PySem.W.Frag} {Z : Addr → Prop} {s : S} {H : Hp} (lo : Int) (n : Nat) : Src K cl Z (Itr lo n) (rng lo n) (fun _ => True) s H where
  go := fun Z' s H i t f zz ok so e => by
    unfold rng at e
    rw [List.getElem?_map] at e
    obtain ⟨c, e1, rfl⟩ := Option.map_eq_some_iff.mp e
    have hlt : i < n := by
      have := (List.getElem?_eq_some_iff.mp e1).1
      rw [List.length_range] at this
      exact this
    rw [List.getElem?_range hlt] at e1
    cases e1
    refine ⟨hlt, ?_⟩
    rintro x H' ⟨rfl, rfl⟩
    exact ⟨Fut.refl _ _, so, .int _⟩
  stop := fun Z' s H i f zz ok so h => by
    unfold rng at h
    rw [List.length_map, List.length_range] at h
    exact h
def iRange1 (A : FA) : FI := fun τ s Q E => A τ s (fun ts s1 => match ts with | [.int j] => (-(2 ^ 62) ≤ j ∧ j < 2 ^ 62) ∧ Q (rng 0 j.toNat) (fun _ => True) s1 | _ => False) E
def iRange2 (A : FA) : FI := fun τ s Q E => A τ s (fun ts s1 => match ts with | [.int i, .int j] => (-(2 ^ 62) ≤ i ∧ i < 2 ^ 62 ∧ -(2 ^ 62) ≤ j ∧ j < 2 ^ 62) ∧ Q (rng i (j - i).toNat) (fun _ => True) s1 | _ => False) E
theorem ji_range1 (hg : Gl X "range") (hm : X.mg "range" = none) (ha : JA X cl W [a] A) (hs : starEach [a] X.env = [(false, eval a X.env)] := by rfl) : JI X cl W tg (.Call (.Name "range" p) [a] [] pos) (iRange1 A) := by
  refine ⟨fun τ s Q Q' E E' hq he h => ha.mon _ _ _ _ _ _ (fun ts s1 h1 => ?_) he h, PI.imp (pi_range1 hg hm ha.pa hs) ?_⟩
  · split at h1
    · exact ⟨h1.1, hq _ _ _ h1.2⟩
    · exact h1
  rintro σ H R ⟨Z, τ, s, re, so, h⟩
  refine goA ha.mon re so h (fun ts s1 vs H1 p1 f1 re1 r1 so1 => ?_) fun _ _ q => q
  split at p1
  · obtain ⟨v, rfl, rv⟩ := reps1 r1
    cases rep_i rv
    exact ⟨_, rfl, p1.1.1, p1.1.2, p1.2 _ _ f1 so1 (src_rng _ _)⟩
  · exact p1.elim
theorem ji_range2 (hg : Gl X "range") (hm : X.mg "range" = none) (ha : JA X cl W [a, b] A) (hs : starEach [a, b] X.env = [(false, eval a X.env), (false, eval b X.env)] := by rfl) (hs2 : starEach [b] X.env = [(false, eval b X.env)] := by rfl) : JI X cl W tg (.Call (.Name "range" p) [a, b] [] pos) (iRange2 A) := by
  refine ⟨fun τ s Q Q' E E' hq he h => ha.mon _ _ _ _ _ _ (fun ts s1 h1 => ?_) he h, PI.imp (pi_range2 hg hm ha.pa hs hs2) ?_⟩
  · split at h1
    · exact ⟨h1.1, hq _ _ _ h1.2⟩
    · exact h1
  rintro σ H R ⟨Z, τ, s, re, so, h⟩
  refine goA ha.mon re so h (fun ts s1 vs H1 p1 f1 re1 r1 so1 => ?_) fun _ _ q => q
  split at p1
  · obtain ⟨v, w, rfl, rv, rw⟩ := reps2 r1
    cases rep_i rv
    cases rep_i rw
    exact ⟨_, _, rfl, p1.1, p1.2 _ _ f1 so1 (src_rng _ _)⟩
  · exact p1.elim
/-! ### for -/
def forT (ok : S → Prop) (g : FG) (B : FS) : List T → Env → S → DS → Prop
  | [], τ, s, D => ok s ∧ D.nx τ s
  | t :: ts, τ, s, D => ok s ∧ g t τ s fun τ1 s1 => B τ1 s1 ⟨fun τ2 s2 => forT ok g B ts τ2 s2 D, D.rt, D.nx, fun τ2 s2 => forT ok g B ts τ2 s2 D, D.xr⟩
def fFor (I : FI) (g : FG) (B : FS) : FS := fun τ s D => I τ s (fun ts ok s1 => forT ok g B ts τ s1 D) (xk τ D)
theorem mon_forT {ok : S → Prop} {g : FG} (mg : ∀ t τ s (Q Q' : Env → S → Prop), (∀ τ s, Q τ s → Q' τ s) → g t τ s Q → g t τ s Q') (mB : MonS B) : ∀ (ts : List T) (τ : Env) (s : S) (D D' : DS), D.Le D' → forT ok g B ts τ s D → forT ok g B ts τ s D'
  | [], τ, s, D, D', le, h => ⟨h.1, le.nx _ _ h.2⟩
  | t :: ts, τ, s, D, D', le, h => by
    refine ⟨h.1, mg _ _ _ _ _ (fun τ1 s1 q => ?_) h.2⟩
    refine mB _ _ _ _ ?_ q
    exact ⟨fun _ _ q => mon_forT mg mB ts _ _ _ _ le q, le.rt, le.nx, fun _ _ q => mon_forT mg mB ts _ _ _ _ le q, le.xr⟩
theorem js_for {iter : Expr} {body : List Stmt} {g : FG} (hp : PassesOwn (model X.prog X.w) X.A X.env X.xe) (hc : X.calm = true) (hi : JI X cl W tg iter I) (hg : JG X cl tg g) (hb : JSs X cl W body B)
    (hs : ∀ x, foldedSetIterable iter X.env x = pure x := by intro _; rfl) : JS X cl W (.For tg iter body [] pos) (fFor I g B) := by
  obtain ⟨g1, pg, i1⟩ := hg.ex
  refine ⟨fun τ s D D' le h => hi.mon _ _ _ _ _ _ (fun ts ok s1 h1 => mon_forT hg.mon hb.mon _ _ _ _ _ le h1) (fun _ _ q => le.xr _ _ _ q) h, PS.imp (ps_for hp hc hi.pi pg hb.pss hs) ?_⟩
  rintro D σ H ⟨Z, τ, s, re, so, h⟩
  refine ⟨Z, τ, s, re, so, hi.mon _ _ _ _ _ _ (fun ts ok s1 h1 J H1 f1 so1 src => ?_) (fun _ _ q => xe_w re q) h⟩
  refine ⟨fun i m σ' H' => ∃ τ' s', m = ts.length - i ∧ i ≤ ts.length ∧ Fut s1 H1 s' H' ∧ REnv X.K cl Z s' H' σ' τ' ∧ Sto X.K cl Z s' H' ∧ forT ok g B (ts.drop i) τ' s' (postD X.K cl Z s H W D), ⟨_, τ, s1, rfl, Nat.zero_le _, Fut.refl _ _, re.fut f1, so1, h1⟩, ?_⟩
  rintro i m σ' H' ⟨τ', s', rfl, hi', f', re', so', h'⟩
  by_cases hlt : i < ts.length
  · rw [List.drop_eq_getElem_cons hlt] at h'
    obtain ⟨hok, h'⟩ := h'
    obtain ⟨jg, jy⟩ := src.go Z s' H' i _ f' (fun b q => .inl q) hok so' (List.getElem?_eq_getElem hlt)
    refine .inr ⟨jg, fun σ2 H2 => ∃ τ2 s2, Fut s1 H1 s2 H2 ∧ REnv X.K cl Z s2 H2 σ2 τ2 ∧ Sto X.K cl Z s2 H2 ∧ forT ok g B (ts.drop (i + 1)) τ2 s2 (postD X.K cl Z s H W D), ?_, fun y H2 yl => ?_⟩
    · rintro σ2 H2 ⟨τ2, s2, f2, re2, so2, h2⟩
      exact ⟨ts.length - (i + 1), by omega, τ2, s2, rfl, hlt, f2, re2, so2, h2⟩
    · obtain ⟨fy, soy, ry⟩ := jy y H2 yl
      refine i1 Z _ _ σ' τ' H2 s' _ ry (re'.fut fy) soy (hg.mon _ _ _ _ _ (fun τ3 s3 q σ3 H3 f3 re3 so3 => ?_) h')
      refine goS hb.mon re3 so3 q ?_
      have fu := f'.trans (fy.trans f3)
      exact ⟨fun τ4 s4 q4 σ4 H4 f4 re4 so4 => ⟨τ4, s4, fu.trans f4, re4, so4, q4⟩, fun t s4 q4 => post.up (f1.trans fu) q4, fun τ4 s4 q4 => postE.up (f1.trans fu) q4, fun τ4 s4 q4 σ4 H4 f4 re4 so4 => ⟨τ4, s4, fu.trans f4, re4, so4, q4⟩, fun er τ4 s4 q4 => postXE.up (f1.trans fu) q4⟩
  · have e : i = ts.length := by omega
    subst e
    rw [List.drop_length] at h'
    exact .inl ⟨src.stop Z s' H' _ f' (fun b q => .inl q) h'.1 so' (Nat.le_refl _), h'.2 σ' H' (f1.trans f') re' so'⟩
/-! ### while, by a bound on its turns -/
def whT (G : FT) (B : FS) : Nat → Env → S → DS → Prop
  | 0, _, _, _ => False
  | m + 1, τ, s, D => G τ s (fun b s1 => if b = true then B τ s1 ⟨fun τ2 s2 => whT G B m τ2 s2 D, D.rt, D.nx, fun τ2 s2 => whT G B m τ2 s2 D, D.xr⟩ else D.nx τ s1) (xk τ D)
def fWhile (G : FT) (B : FS) : FS := fun τ s D => ∃ m, whT G B m τ s D
theorem mon_whT (mG : MonT G) (mB : MonS B) : ∀ (m : Nat) (τ : Env) (s : S) (D D' : DS), D.Le D' → whT G B m τ s D → whT G B m τ s D'
  | 0, _, _, _, _, _, h => h
  | m + 1, τ, s, D, D', le, h => by
    refine mG _ _ _ _ _ _ (fun b s1 q => w_ite q (fun q => ?_) (le.nx _ _)) (fun _ _ q => le.xr _ _ _ q) h
    refine mB _ _ _ _ ?_ q
    exact ⟨fun _ _ q => mon_whT mG mB m _ _ _ _ le q, le.rt, le.nx, fun _ _ q => mon_whT mG mB m _ _ _ _ le q, le.xr⟩
theorem js_while {body : List Stmt} (hp : PassesOwn (model X.prog X.w) X.A X.env X.xe) (hc : JT X cl W c G) (hb : JSs X cl W body B) : JS X cl W (.While c body [] pos) (fWhile G B) := by
  refine ⟨fun τ s D D' le ⟨m, h⟩ => ⟨m, mon_whT hc.mon hb.mon m _ _ _ _ le h⟩, PS.imp (ps_while hp hc.pt hb.pss) ?_⟩
  rintro D σ H ⟨Z, τ, s, re, so, m, h⟩
  refine ⟨fun m σ' H' => ∃ τ' s', Fut s H s' H' ∧ REnv X.K cl Z s' H' σ' τ' ∧ Sto X.K cl Z s' H' ∧ whT G B m τ' s' (postD X.K cl Z s H W D), ⟨m, τ, s, Fut.refl _ _, re, so, h⟩, ?_⟩
  rintro m σ' H' ⟨τ', s', f', re', so', h'⟩
  cases m with
  | zero => exact h'.elim
  | succ m =>
    refine goT hc.mon re' so' h' (fun b s1 H1 p1 f1 re1 so1 => w_ite p1 (fun q => ?_) fun q => q σ' H1 (f'.trans f1) re1 so1) fun _ _ q => xe_w re' (postXE.up f' q)
    refine ⟨fun σ2 H2 => ∃ τ2 s2, Fut s H s2 H2 ∧ REnv X.K cl Z s2 H2 σ2 τ2 ∧ Sto X.K cl Z s2 H2 ∧ whT G B m τ2 s2 (postD X.K cl Z s H W D), fun σ2 H2 q2 => ⟨m, Nat.lt_succ_self m, q2⟩, ?_⟩
    refine goS hb.mon re1 so1 q ?_
    have fu := f'.trans f1
    exact ⟨fun τ4 s4 q4 σ4 H4 f4 re4 so4 => ⟨τ4, s4, fu.trans f4, re4, so4, q4⟩, fun t s4 q4 => post.up fu q4, fun τ4 s4 q4 => postE.up fu q4, fun τ4 s4 q4 σ4 H4 f4 re4 so4 => ⟨τ4, s4, fu.trans f4, re4, so4, q4⟩, fun er τ4 s4 q4 => postXE.up fu q4⟩
/-! ### list comprehensions (no error leaves them) -/
/-- a comprehension's target: its slots are among vs -/
structure GT (K : PySem.W.Frag) (cl : Nat → Addr) (vs : List Nat) (g : TG) (G : FG) : Prop where
  mv : ∀ v σ H (Q Q' : L2.St → Hp → Prop), (∀ σ H, Q σ H → Q' σ H) → g v σ H Q → g v σ H Q'
  mon : ∀ t τ s (Q Q' : Env → S → Prop), (∀ τ s, Q τ s → Q' τ s) → G t τ s Q → G t τ s Q'
  go : ∀ (Z : Addr → Prop) (t : T) (v : V) (σ : L2.St) (τ : Env) (H : Hp) (s : S) (Q : L2.St → Hp → Prop), Rep K cl Z s H v t → REnv K cl Z s H σ τ → Sto K cl Z s H → G t τ s (postE K cl Z s H Q) → g v σ H fun σ2 H2 => L2.wipe σ2 vs = L2.wipe σ vs ∧ Q σ2 H2
structure GTs (K : PySem.W.Frag) (cl : Nat → Addr) (vs : List Nat) (g : TGs) (G : FGs) : Prop where
  mv : ∀ ws σ H (Q Q' : L2.St → Hp → Prop), (∀ σ H, Q σ H → Q' σ H) → g ws σ H Q → g ws σ H Q'
  mon : ∀ t τ s (Q Q' : Env → S → Prop), (∀ τ s, Q τ s → Q' τ s) → G t τ s Q → G t τ s Q'
  go : ∀ (Z : Addr → Prop) (ts : List T) (ws : List V) (σ : L2.St) (τ : Env) (H : Hp) (s : S) (Q : L2.St → Hp → Prop), Reps K cl Z s H ws ts → REnv K cl Z s H σ τ → Sto K cl Z s H → G ts τ s (postE K cl Z s H Q) → g ws σ H fun σ2 H2 => L2.wipe σ2 vs = L2.wipe σ vs ∧ Q σ2 H2
theorem wipe_comm (σ : L2.St) (i : Nat) (x : Option V) : ∀ vs : List Nat, i ∈ vs → L2.wipe (σ.set i x) vs = L2.wipe σ vs
  | [], h => by cases h
  | v :: vs, h => by
    show (L2.wipe (σ.set i x) vs).set v none = (L2.wipe σ vs).set v none
    by_cases hv : i ∈ vs
    · rw [wipe_comm σ i x vs hv]
    · have e : i = v := (List.mem_cons.mp h).resolve_right hv
      subst e
      have out : ∀ (vs : List Nat), i ∉ vs → L2.wipe (σ.set i x) vs = (L2.wipe σ vs).set i x := by
        intro vs
        induction vs with
        | nil => intro _; rfl
        | cons w ws ih =>
          intro hn
          show (L2.wipe (σ.set i x) ws).set w none = ((L2.wipe σ ws).set w none).set i x
          rw [ih (fun q => hn (List.mem_cons_of_mem _ q)), List.set_comm _ _ (fun q => hn (by rw [q]; exact List.mem_cons_self))]
      rw [out vs hv, List.set_set]
theorem wipe_wipe (σ : L2.St) : ∀ vs : List Nat, L2.wipe (L2.wipe σ vs) vs = L2.wipe σ vs
  | [] => rfl
  | v :: vs => by
    show L2.wipe ((L2.wipe σ vs).set v none) (v :: vs) = (L2.wipe σ vs).set v none
    rw [wipe_comm _ v none (v :: vs) List.mem_cons_self]
    show (L2.wipe (L2.wipe σ vs) vs).set v none = _
    rw [wipe_wipe σ vs]
theorem gt_name {K : PySem.W.Frag} {vs : List Nat} (h : i ∈ vs) : GT K cl vs (gName i) (gN i) :=
  ⟨fun _ _ _ _ _ hq h => hq _ _ h, fun _ _ _ _ _ hq h => hq _ _ h, fun Z t v σ τ H s Q r re so q => ⟨wipe_comm σ i _ vs h, q _ H (Fut.refl _ _) (re.set r i) so⟩⟩
theorem gts_nil {K : PySem.W.Frag} {vs : List Nat} : GTs K cl vs gNil gsNil := by
  refine ⟨fun _ _ _ _ _ hq h => ⟨h.1, hq _ _ h.2⟩, fun ts τ s Q Q' hq h => ?_, fun Z ts ws σ τ H s Q r re so h => ?_⟩
  · unfold gsNil at h ⊢
    split at h
    · exact hq _ _ h
    · exact h
  · unfold gsNil at h
    split at h
    · cases r
      exact ⟨rfl, rfl, h _ H (Fut.refl _ _) re so⟩
    · exact h.elim
theorem gts_cons {K : PySem.W.Frag} {vs : List Nat} {g : TG} {gs : TGs} {G : FG} {Gs : FGs} (h1 : GT K cl vs g G) (h2 : GTs K cl vs gs Gs) : GTs K cl vs (gCons g gs) (gsCons G Gs) := by
  have mg := h1.mv
  have ms := h2.mv
  refine ⟨fun ws σ H Q Q' hq ⟨v, r, e, h⟩ => ⟨v, r, e, mg _ _ _ _ _ (fun σ1 H1 q => ms _ _ _ _ _ hq q) h⟩, fun ts τ s Q Q' hq h => ?_, fun Z ts ws σ τ H s Q r re so h => ?_⟩
  · unfold gsCons at h ⊢
    split at h
    · exact h1.mon _ _ _ _ _ (fun _ _ q => h2.mon _ _ _ _ _ hq q) h
    · exact h
  · unfold gsCons at h
    split at h
    · cases r with
      | @cons v0 t0 vs0 ts0 r rs =>
        have q1 : g v0 σ H fun σ1 H1 => L2.wipe σ1 vs = L2.wipe σ vs ∧ gs vs0 σ1 H1 fun σ2 H2 => L2.wipe σ2 vs = L2.wipe σ1 vs ∧ Q σ2 H2 := by
          refine h1.go Z _ _ σ τ H s _ r re so (h1.mon _ _ _ _ _ ?_ h)
          intro τ1 s1 q σ1 H1 f re1 so1
          exact h2.go Z _ _ σ1 τ1 H1 s1 Q (rs.fut f) re1 so1 (h2.mon _ _ _ _ _ (fun _ _ q => postE.up f q) q)
        exact ⟨_, _, rfl, mg _ _ _ _ _ (fun σ1 H1 q => ms _ _ _ _ _ (fun σ2 H2 q2 => ⟨q2.1.trans q.1, q2.2⟩) q.2) q1⟩
    · exact h.elim
theorem gt_tup {K : PySem.W.Frag} {vs : List Nat} {gs : TGs} {Gs : FGs} (h : GTs K cl vs gs Gs) : GT K cl vs (gTup K n gs) (gT n Gs) := by
  refine ⟨fun v σ H Q Q' hq ⟨a, xs, e, h1, h2, h3⟩ => ⟨a, xs, e, h1, h2, h.mv _ _ _ _ _ hq h3⟩, fun ts τ s Q Q' hq q => ?_, fun Z t v σ τ H s Q r re so q => ?_⟩
  · unfold gT at q ⊢
    split at q
    · exact ⟨q.1, h.mon _ _ _ _ _ hq q.2⟩
    · exact q
  · unfold gT at q
    split at q
    · obtain ⟨a, ws, rfl, ht, rs⟩ := tup_of r
      exact ⟨a, ws, rfl, ht, by rw [rs.length]; exact q.1, h.go Z _ _ σ τ H s Q rs re so q.2⟩
    · exact q.elim
abbrev W0 : WX := fun _ _ _ _ => False
abbrev noX : KX := fun _ _ => False
def lcT (ok : S → Prop) (g : FG) (tt : FT) (te : FE) (τ : Env) : List T → List T → S → (List T → S → Prop) → Prop
  | [], acc, s, Q => ok s ∧ Q acc s
  | t :: ts, acc, s, Q => ok s ∧ acc.length < 1000000 ∧ g t τ s fun τ1 s1 => tt τ1 s1 (fun b s2 => if b = true then te τ1 s2 (fun y s3 => lcT ok g tt te τ ts (acc ++ [y]) s3 Q) noX else lcT ok g tt te τ ts acc s2 Q) noX
def fLc (I : FI) (g : FG) (tt : FT) (te : FE) (vs : List Nat) : FE := fun τ s Q E => I τ s (fun ts ok s1 => lcT ok g tt te (wipeT τ vs) ts [] s1 fun ys s2 => Q (.lst ys) s2) E
theorem mon_lcT {ok : S → Prop} {g : FG} {tt : FT} {te : FE} {τ : Env} (mg : ∀ t τ s (Q Q' : Env → S → Prop), (∀ τ s, Q τ s → Q' τ s) → g t τ s Q → g t τ s Q') (mt : MonT tt) (me : MonE te) : ∀ (ts acc : List T) (s : S) (Q Q' : List T → S → Prop), (∀ ys s, Q ys s → Q' ys s) → lcT ok g tt te τ ts acc s Q → lcT ok g tt te τ ts acc s Q'
  | [], acc, s, Q, Q', hq, h => ⟨h.1, hq _ _ h.2⟩
  | t :: ts, acc, s, Q, Q', hq, h => ⟨h.1, h.2.1, mg _ _ _ _ _ (fun τ1 s1 q => mt _ _ _ _ _ _ (fun b s2 q2 => w_ite q2 (me _ _ _ _ _ _ (fun y s3 q3 => mon_lcT mg mt me ts _ _ _ _ hq q3) fun _ _ q => q) (mon_lcT mg mt me ts _ _ _ _ hq)) (fun _ _ q => q) q) h.2.2⟩
/-- the tests of a clause -/
def fYes : FT := fun _ s Q _ => Q true s
theorem mon_yes : MonT fYes := fun _ _ _ _ _ _ hq _ h => hq _ _ h
theorem yes_go {K : PySem.W.Frag} {W : WX} {σ : L2.St} {H : Hp} {Q : Bool → Hp → Prop} (h : tTT K cl W fYes σ H Q) : tYes σ H Q := by
  obtain ⟨Z, τ, s, re, so, h⟩ := h
  exact h H (Fut.refl _ _) so
theorem lc_imp {K : PySem.W.Frag} {vs : List Nat} {g : TG} {g' : FG} {ttV : TT} {tt : FT} {te : FE} (mi : MonI I) (hG : GT K cl vs g g') (mt : MonT tt) (ht : ∀ σ H Q, tTT K cl W0 tt σ H Q → ttV σ H Q) (me : MonE te)
    {σ : L2.St} {H : Hp} {Q : VK} (h : tT K cl W (fLc I g' tt te vs) σ H Q) : tLc (tTI K cl W I) g ttV (tT K cl W0 te) vs σ H Q := by
  obtain ⟨Z, τ, s, re, so, h⟩ := h
  refine ⟨Z, τ, s, re, so, mi _ _ _ _ _ _ (fun ts ok s1 h1 J H1 f1 so1 src D hD => ?_) (fun _ _ q => q) h⟩
  have k1 : Fut s1 H1 s1 (upd H1 D (.lst [])) := Fut.new hD
  have zz : ∀ b, Hide Z D b → Z b ∨ H1 b = none := fun b q => q.imp id fun e => by rw [e]; exact hD
  have reW : REnv K cl Z s1 H1 (L2.wipe σ vs) (wipeT τ vs) := (re.fut f1).wipe vs
  refine ⟨fun i m H' => ∃ s' acc av, m = ts.length - i ∧ i ≤ ts.length ∧ Fut s1 H1 s' H' ∧ Sto K cl (Hide Z D) s' H' ∧ H' D = some (.lst av) ∧ Reps K cl (Hide Z D) s' H' av acc ∧ lcT ok g' tt te (wipeT τ vs) (ts.drop i) acc s' (fun ys s2 => post K cl Z s H Q (.lst ys) s2), ⟨_, s1, [], [], rfl, Nat.zero_le _, k1, so1.hide hD, upd_same, .nil, h1⟩, ?_⟩
  rintro i m H' ⟨s', acc, av, rfl, hi', f', so', hDa, ra, h'⟩
  by_cases hlt : i < ts.length
  · rw [List.drop_eq_getElem_cons hlt] at h'
    obtain ⟨hok, hz, h'⟩ := h'
    obtain ⟨jg, jy⟩ := src.go (Hide Z D) s' H' i _ f' zz hok so' (List.getElem?_eq_getElem hlt)
    refine .inr ⟨jg, fun H2 => ∃ s2 acc2 av2, Fut s1 H1 s2 H2 ∧ Sto K cl (Hide Z D) s2 H2 ∧ H2 D = some (.lst av2) ∧ Reps K cl (Hide Z D) s2 H2 av2 acc2 ∧ lcT ok g' tt te (wipeT τ vs) (ts.drop (i + 1)) acc2 s2 (fun ys s2 => post K cl Z s H Q (.lst ys) s2), ?_, fun y H2 yl => ?_⟩
    · rintro H2 ⟨s2, acc2, av2, h1, h2, h3, h4, h5⟩
      exact ⟨ts.length - (i + 1), by omega, s2, acc2, av2, rfl, hlt, h1, h2, h3, h4, h5⟩
    · obtain ⟨fy, soy, ry⟩ := jy y H2 yl
      have reY : REnv K cl (Hide Z D) s' H2 (L2.wipe σ vs) (wipeT τ vs) := (reW.futz f' zz).fut fy
      have noD : ∀ s3 H3, Sto K cl (Hide Z D) s3 H3 → ¬ s3.mut D := fun s3 H3 so3 => (so3.hid D (.inr rfl)).1
      refine hG.mv _ _ _ _ _ ?_ (hG.go (Hide Z D) _ _ _ _ H2 s' (fun σ3 H3 => ∃ τ3 s3, Fut s' H2 s3 H3 ∧ REnv K cl (Hide Z D) s3 H3 σ3 τ3 ∧ Sto K cl (Hide Z D) s3 H3 ∧ tt τ3 s3 (fun b s2 => if b = true then te τ3 s2 (fun y s3 => lcT ok g' tt te (wipeT τ vs) (ts.drop (i + 1)) (acc ++ [y]) s3 (fun ys s2 => post K cl Z s H Q (.lst ys) s2)) noX else lcT ok g' tt te (wipeT τ vs) (ts.drop (i + 1)) acc s2 (fun ys s2 => post K cl Z s H Q (.lst ys) s2)) noX) ry reY soy (hG.mon _ _ _ _ _ (fun τ3 s3 q σ3 H3 f3 re3 so3 => ⟨τ3, s3, f3, re3, so3, q⟩) h'))
      rintro σ3 H3 ⟨ew, τ3, s3, f3, re3, so3, h3⟩
      refine ⟨ew.trans (wipe_wipe σ vs), ht _ _ _ ⟨Hide Z D, τ3, s3, re3, so3, mt _ _ _ _ _ _ (fun b s4 q4 H4 f4 so4 => ?_) (fun _ _ q => q.elim) h3⟩⟩
      have hD4 : H4 D = some (.lst av) := (f4.keep D _ (f3.keep D _ (fy.keep D _ hDa (noD _ _ so')).1 (noD _ _ soy)).1 (noD _ _ so3)).1
      have ra4 : Reps K cl (Hide Z D) s4 H4 av acc := ((ra.fut fy).fut f3).fut f4
      have fu4 : Fut s1 H1 s4 H4 := f'.trans (fy.trans (f3.trans f4))
      refine w_ite q4 (fun q => ?_) fun q => ⟨s4, acc, av, fu4, so4, hD4, ra4, q⟩
      refine ⟨Hide Z D, τ3, s4, re3.fut f4, so4, me _ _ _ _ _ _ (fun ty s5 q5 yv H5 f5 r5 so5 => ?_) (fun _ _ q => q.elim) q⟩
      have hD5 : H5 D = some (.lst av) := (f5.keep D _ hD4 (noD _ _ so4)).1
      have kk : ∀ b u, ¬ Hide Z D b → H5 b = some u → upd H5 D (.lst (av ++ [yv])) b = some u := fun b u n h => by rw [upd_ne (fun e => n (.inr e))]; exact h
      refine ⟨av, hD5, ?_, s5, acc ++ [ty], av ++ [yv], ?_, so5.turn, upd_same, ?_, q5⟩
      · rw [ra4.length]
        exact Nat.lt_of_lt_of_le hz size6
      · have fu5 : Fut s1 H1 s5 H5 := fu4.trans f5
        exact ⟨fun b u hb n => ⟨by rw [upd_ne (ne_of_none hb hD)]; exact (fu5.keep b u hb n).1, (fu5.keep b u hb n).2⟩, fu5.pa⟩
      · exact (Reps.append (ra4.fut f5) (.cons r5 .nil)).turn (fun _ q => q) kk
  · have e : i = ts.length := by omega
    subst e
    rw [List.drop_length] at h'
    refine .inl ⟨src.stop (Hide Z D) s' H' _ f' zz h'.1 so' (Nat.le_refl _), ?_⟩
    have noD := so'.hid D (.inr rfl)
    have nz : ¬ Z D := fun q => by
      obtain ⟨_, o, ho⟩ := so1.hid D q
      rw [hD] at ho
      cases ho
    exact h'.2 _ _ (f1.trans f') (.lst hDa ⟨noD.1, nz⟩ (ra.turn (fun _ q => .inl q) fun _ _ _ h => h)) so'.bare
end
end Mr

/-! The mirror layer: comprehensions as values, texts, own operators, keywords. -/
namespace Mr
open PySem PySem.Spec PyProof.Rows L2 Tw
section
variable {X : Cx} {cl : Nat → Addr} {W : WX} {tg e a b c o : Expr} {es : List Expr} {F Fa Fb Fc Fo : FE} {G Ga Gb : FT} {A : FA} {pos p apos pos' : Pos} {rest : List Expr} {x m : Str} {k j n i : Nat} {st : Stmt} {sts : List Stmt} {B B1 B2 : FS} {I : FI}
theorem je_lc {elt iter : Expr} {scope : Scope} {own : List (Str × Nat)} {g : TG} {g' : FG} {te : FE} (hc : X.calm = true) (hN : X.N.Nodup) (hi : JI X cl W tg iter I) (ok : BlkOk X.N X.env.scope scope own)
    (hg : ∀ (s : Shared) (H : Hp) (C : Addr) (cl : List (Str × Addr)) (fp : List Addr), PG (X.blk s H scope (compEnvC scope cl C X.env) fp) tg g) (hG : GT X.K cl (own.map (·.2)) g g')
    (he : ∀ (s : Shared) (H : Hp) (C : Addr) (cl' : List (Str × Addr)) (fp : List Addr), JE (X.blk s H scope (compEnvC scope cl' C X.env) fp) cl W0 elt te) (hs : ∀ x, foldedSetIterable iter X.env x = pure x := by intro _; rfl) :
    JE X cl W (.ListComp elt [⟨tg, iter, [], 0⟩] scope pos) (fLc I g' fYes te (own.map (·.2))) := by
  have me : MonE te := (he X.s_0 (fun _ => none) 0 [] []).mon
  refine ⟨fun τ s Q Q' E E' hq he h => hi.mon _ _ _ _ _ _ (fun ts ok s1 h1 => mon_lcT hG.mon mon_yes me _ _ _ _ _ (fun ys s2 q => hq _ _ q) h1) he h, ?_⟩
  exact PE.imp (pe_lc (te := tT X.K cl W0 te) hc hN hi.pi ok hg (fun _ _ _ _ _ => pts_nil) (fun s H C cl' fp => (he s H C cl' fp).pe) hs) fun σ H Q h => lc_imp hi.mon hG mon_yes (fun _ _ _ q => yes_go q) me h
theorem je_lcIf {elt iter : Expr} {scope : Scope} {own : List (Str × Nat)} {g : TG} {g' : FG} {te : FE} {tt : FT} (hc : X.calm = true) (hN : X.N.Nodup) (hi : JI X cl W tg iter I) (ok : BlkOk X.N X.env.scope scope own)
    (hg : ∀ (s : Shared) (H : Hp) (C : Addr) (cl : List (Str × Addr)) (fp : List Addr), PG (X.blk s H scope (compEnvC scope cl C X.env) fp) tg g) (hG : GT X.K cl (own.map (·.2)) g g')
    (ht : ∀ (s : Shared) (H : Hp) (C : Addr) (cl' : List (Str × Addr)) (fp : List Addr), JT (X.blk s H scope (compEnvC scope cl' C X.env) fp) cl W0 c tt)
    (he : ∀ (s : Shared) (H : Hp) (C : Addr) (cl' : List (Str × Addr)) (fp : List Addr), JE (X.blk s H scope (compEnvC scope cl' C X.env) fp) cl W0 elt te) (hs : ∀ x, foldedSetIterable iter X.env x = pure x := by intro _; rfl) :
    JE X cl W (.ListComp elt [⟨tg, iter, [c], 0⟩] scope pos) (fLc I g' tt te (own.map (·.2))) := by
  have me : MonE te := (he X.s_0 (fun _ => none) 0 [] []).mon
  have mt : MonT tt := (ht X.s_0 (fun _ => none) 0 [] []).mon
  refine ⟨fun τ s Q Q' E E' hq he h => hi.mon _ _ _ _ _ _ (fun ts ok s1 h1 => mon_lcT hG.mon mt me _ _ _ _ _ (fun ys s2 q => hq _ _ q) h1) he h, ?_⟩
  exact PE.imp (pe_lc (te := tT X.K cl W0 te) (tt := tTT X.K cl W0 tt) hc hN hi.pi ok hg (fun s H C cl' fp => pts_one (ht s H C cl' fp).pt) (fun s H C cl' fp => (he s H C cl' fp).pe) hs) fun σ H Q h => lc_imp hi.mon hG mt (fun _ _ _ q => q) me h
theorem setlc_imp {fl : FE} {ml : MonE fl} {tl : TE} (h : ∀ σ H Q, tT X.K cl W fl σ H Q → tl σ H Q) {D : Ends} {σ : L2.St} {H : Hp} (q : tTS X.K cl W (fSet i fl) D σ H) : tAsg tl (gName i) D σ H := by
  obtain ⟨Z, τ, s, re, so, q⟩ := q
  exact h _ _ _ (go ml re so q (fun tx s1 v H1 p1 f1 re1 r1 so1 => p1 _ H1 f1 (re1.set r1 i) so1) fun _ _ q => xe_w re q)
theorem js_setLc {y : Str} {py : Pos} {elt iter : Expr} {scope : Scope} {own : List (Str × Nat)} {spos : Pos} {g : TG} {g' : FG} {te : FE} (hc : X.calm = true) (hN : X.N.Nodup) (hy : X.N[i]? = some y) (hyl : X.env.scope.names.lookup y = some .local)
    (hsw : swapsWith (.ListComp elt [⟨tg, iter, [], 0⟩] scope pos) (some (.Name y py)) spos.line X.env = pure true) (hi : JI X cl W tg iter I) (ok : BlkOk X.N X.env.scope scope own)
    (hg : ∀ (s : Shared) (H : Hp) (C : Addr) (cl : List (Str × Addr)) (fp : List Addr), PG (X.blk s H scope (compEnvC scope cl C X.env) fp) tg g) (hG : GT X.K cl (own.map (·.2)) g g')
    (he : ∀ (s : Shared) (H : Hp) (C : Addr) (cl' : List (Str × Addr)) (fp : List Addr), JE (X.blk s H scope (compEnvC scope cl' C X.env) fp) cl W0 elt te) (hs : ∀ x, foldedSetIterable iter X.env x = pure x := by intro _; rfl) :
    JS X cl W (.Assign [.Name y py] (.ListComp elt [⟨tg, iter, [], 0⟩] scope pos) spos) (fSet i (fLc I g' fYes te (own.map (·.2)))) := by
  have me : MonE te := (he X.s_0 (fun _ => none) 0 [] []).mon
  have ml : MonE (fLc I g' fYes te (own.map (·.2))) := fun τ s Q Q' E E' hq he h => hi.mon _ _ _ _ _ _ (fun ts ok s1 h1 => mon_lcT hG.mon mon_yes me _ _ _ _ _ (fun ys s2 q => hq _ _ q) h1) he h
  refine ⟨fun τ s D D' le h => ml _ _ _ _ _ _ (fun _ _ q => le.nx _ _ q) (fun _ _ q => le.xr _ _ _ q) h, ?_⟩
  exact PS.imp (ps_setLc (te := tT X.K cl W0 te) hc hN hy hyl hsw hi.pi ok hg (fun _ _ _ _ _ => pts_nil) (fun s H C cl' fp => (he s H C cl' fp).pe) hs) fun D σ H h => setlc_imp (ml := ml) (fun σ H Q h => lc_imp hi.mon hG mon_yes (fun _ _ _ q => yes_go q) me h) h
theorem js_setLcIf {y : Str} {py : Pos} {elt iter : Expr} {scope : Scope} {own : List (Str × Nat)} {spos : Pos} {g : TG} {g' : FG} {te : FE} {tt : FT} (hc : X.calm = true) (hN : X.N.Nodup) (hy : X.N[i]? = some y) (hyl : X.env.scope.names.lookup y = some .local)
    (hsw : swapsWith (.ListComp elt [⟨tg, iter, [c], 0⟩] scope pos) (some (.Name y py)) spos.line X.env = pure true) (hi : JI X cl W tg iter I) (ok : BlkOk X.N X.env.scope scope own)
    (hg : ∀ (s : Shared) (H : Hp) (C : Addr) (cl : List (Str × Addr)) (fp : List Addr), PG (X.blk s H scope (compEnvC scope cl C X.env) fp) tg g) (hG : GT X.K cl (own.map (·.2)) g g')
    (ht : ∀ (s : Shared) (H : Hp) (C : Addr) (cl' : List (Str × Addr)) (fp : List Addr), JT (X.blk s H scope (compEnvC scope cl' C X.env) fp) cl W0 c tt)
    (he : ∀ (s : Shared) (H : Hp) (C : Addr) (cl' : List (Str × Addr)) (fp : List Addr), JE (X.blk s H scope (compEnvC scope cl' C X.env) fp) cl W0 elt te) (hs : ∀ x, foldedSetIterable iter X.env x = pure x := by intro _; rfl) :
    JS X cl W (.Assign [.Name y py] (.ListComp elt [⟨tg, iter, [c], 0⟩] scope pos) spos) (fSet i (fLc I g' tt te (own.map (·.2)))) := by
  have me : MonE te := (he X.s_0 (fun _ => none) 0 [] []).mon
  have mt : MonT tt := (ht X.s_0 (fun _ => none) 0 [] []).mon
  have ml : MonE (fLc I g' tt te (own.map (·.2))) := fun τ s Q Q' E E' hq he h => hi.mon _ _ _ _ _ _ (fun ts ok s1 h1 => mon_lcT hG.mon mt me _ _ _ _ _ (fun ys s2 q => hq _ _ q) h1) he h
  refine ⟨fun τ s D D' le h => ml _ _ _ _ _ _ (fun _ _ q => le.nx _ _ q) (fun _ _ q => le.xr _ _ _ q) h, ?_⟩
  exact PS.imp (ps_setLc (te := tT X.K cl W0 te) (tt := tTT X.K cl W0 tt) hc hN hy hyl hsw hi.pi ok hg (fun s H C cl' fp => pts_one (ht s H C cl' fp).pt) (fun s H C cl' fp => (he s H C cl' fp).pe) hs) fun D σ H h => setlc_imp (ml := ml) (fun σ H Q h => lc_imp hi.mon hG mt (fun _ _ _ q => q) me h) h
/-! ### f-strings, join -/
def fmtO : O1
  | _, .str y => some (y.length ≤ 1000000, .str y)
  | _, .int i => some (i.natAbs < 2 ^ 128, .str (Str.ofString (toString i)))
  | _, _ => none
theorem je_fmt (ha : JE X cl W a Fa) : JE X cl W (.FormattedValue a (-1) none pos) (fUn fmtO Fa) := by
  refine je_un1 (t := tFmt) (r := fun x H1 Q => (∃ y : Str, x = .str y ∧ y.length ≤ sizeLine ∧ Q (.str y) H1) ∨ ∃ i : Int, x = .int i ∧ i.natAbs.log2 < 1920 ∧ Q (.str (toString i)) H1) (fun te => rfl) (pe_fmt ha.pe) ha.mon fun Z H x Q s tx c t px so e hc p => ?_
  unfold fmtO at e
  split at e
  · cases e
    cases rep_s px
    exact .inl ⟨_, rfl, Nat.le_trans hc size6, p.here (.str _) so⟩
  · cases e
    cases rep_i px
    exact .inr ⟨_, rfl, log_small hc, p.here (.str _) so⟩
  · cases e
inductive JJ (X : Cx) (cl : Nat → Addr) (W : WX) : List Expr → List FE → Prop where
  | nil : JJ X cl W [] []
  | cons {e : Expr} {F : FE} {es : List Expr} {Fs : List FE} (h : JE X cl W e F) (r : JJ X cl W es Fs) : JJ X cl W (e :: es) (F :: Fs)
def jsT : List FE → Str → Env → S → (Str → S → Prop) → KX → Prop
  | [], acc, _, s, Q, _ => Q acc s
  | F :: Fs, acc, τ, s, Q, E => F τ s (fun x s1 => match x with | .str y => acc.length + y.length ≤ 1000000 ∧ jsT Fs (acc ++ y) τ s1 Q E | _ => False) E
def fJs (Fs : List FE) : FE := fun τ s Q E => jsT Fs Str.empty τ s (fun z s1 => Q (.str z) s1) E
theorem JJ.pj {Fs : List FE} : ∀ {es : List Expr}, JJ X cl W es Fs → PJ X es (Fs.map (tT X.K cl W))
  | _, .nil => .nil
  | _, .cons h r => .cons h.pe r.pj
theorem mon_jsT {Fs : List FE} (h : ∀ F ∈ Fs, MonE F) : ∀ (acc : Str) (τ : Env) (s : S) (Q Q' : Str → S → Prop) (E E' : KX), (∀ z s, Q z s → Q' z s) → (∀ e s, E e s → E' e s) → jsT Fs acc τ s Q E → jsT Fs acc τ s Q' E' := by
  induction Fs with
  | nil => intro acc τ s Q Q' E E' hq _ h; exact hq _ _ h
  | cons F Fs ih =>
    intro acc τ s Q Q' E E' hq he q
    refine h F List.mem_cons_self _ _ _ _ _ _ (fun x s1 q1 => ?_) he q
    split at q1
    · exact ⟨q1.1, ih (fun F hF => h F (List.mem_cons_of_mem _ hF)) _ _ _ _ _ _ _ hq he q1.2⟩
    · exact q1
theorem JJ.mon {Fs : List FE} : ∀ {es : List Expr}, JJ X cl W es Fs → ∀ F ∈ Fs, MonE F
  | _, .nil, F, h => by cases h
  | _, .cons h r, F, hF => by
    rcases List.mem_cons.mp hF with rfl | hF
    · exact h.mon
    · exact r.mon F hF
theorem js_go {Z : Addr → Prop} {Fs : List FE} (hm : ∀ F ∈ Fs, MonE F) {σ : L2.St} {τ : Env} {s0 : S} {H0 : Hp} {Q : VK} : ∀ (acc : Str) (s : S) (H : Hp), Fut s0 H0 s H → REnv X.K cl Z s H σ τ → Sto X.K cl Z s H →
    jsT Fs acc τ s (fun z s1 => post X.K cl Z s0 H0 Q (.str z) s1) (postW X.K cl Z s0 H0 σ W) → tJs (Fs.map (tT X.K cl W)) acc σ H fun out H1 => Q (.str out) H1 := by
  induction Fs with
  | nil => intro acc s H f re so h; exact h _ _ f (.str _) so
  | cons F Fs ih =>
    intro acc s H f re so h
    refine go (hm F List.mem_cons_self) re so h (fun tx s1 x H1 p1 f1 re1 r1 so1 => ?_) fun _ _ q => postW.up f q
    split at p1
    · cases rep_s r1
      exact ⟨_, rfl, by rw [Str.length_append]; exact Nat.le_trans p1.1 size6, ih (fun F hF => hm F (List.mem_cons_of_mem _ hF)) _ s1 H1 (f.trans f1) re1 so1 p1.2⟩
    · exact p1.elim
theorem je_js {v1 v2 : Expr} {Fs : List FE} (h : JJ X cl W (v1 :: v2 :: rest) Fs) : JE X cl W (.JoinedStr (v1 :: v2 :: rest) pos) (fJs Fs) := by
  refine ⟨fun τ s Q Q' E E' hq he q => mon_jsT h.mon _ _ _ _ _ _ _ (fun z s1 q => hq _ _ q) he q, PE.imp (pe_joined h.pj) ?_⟩
  rintro σ H Q ⟨Z, τ, s, re, so, q⟩
  exact js_go h.mon Str.empty s H (Fut.refl _ _) re so q
theorem je_js1 (h : JE X cl W e Fa) : JE X cl W (.JoinedStr [e] pos) Fa := ⟨h.mon, pe_joined1 h.pe⟩
def txts : List T → Option (List Str)
  | [] => some []
  | .str b :: r => (txts r).map (b :: ·)
  | _ => none
theorem Reps.txts {K : PySem.W.Frag} {Z : Addr → Prop} {s : S} {H : Hp} : ∀ {vs : List V} {ts : List T} {bs : List Str}, Reps K cl Z s H vs ts → Mr.txts ts = some bs → vs = bs.map V.str
  | _, [], _, r, e => by cases r; cases e; rfl
  | _, t :: ts, _, r, e => by
    cases r with
    | cons h q =>
      unfold Mr.txts at e
      split at e
      · rename_i e0
        cases e0
      · rename_i b r' e0
        injection e0 with e1 e2
        subst e1 e2
        obtain ⟨l, e3, rfl⟩ := Option.map_eq_some_iff.mp e
        cases rep_s h
        rw [List.map_cons, q.txts e3]
      · cases e
theorem txts_map (bs : List Str) : txts (bs.map T.str) = some bs := by
  induction bs with
  | nil => rfl
  | cons b r ih => rw [List.map_cons]; unfold txts; rw [ih]; rfl
def joinO : O2
  | s, .str a, y => match s.seq? y with | some (_, xs) => (match txts xs with | some ys => some ((ys.map (·.length)).sum + ys.length * a.length ≤ 1000000, .str (Txt.join a ys)) | none => none) | none => none
  | _, _, _ => none
theorem je_join (ho : JE X cl W o Fa) (he : JE X cl W e Fb) (hs : starEach [e] X.env = [(false, eval e X.env)] := by rfl) (hbase : attributeBase o "join" X.env (eval o X.env) = eval o X.env := by rfl) (hline : (apos.endLine == pos.line) = true := by rfl) :
    JE X cl W (.Call (.Attribute o "join" apos) [e] [] pos) (fun τ s Q E => Fa τ s (fun x s1 => (match x with | .str _ => True | _ => False) ∧ Fb τ s1 (fun y s2 => g2 joinO s2 x y Q E) E) E) := by
  refine ⟨fun τ s Q Q' E E' hq hE h => ho.mon _ _ _ _ _ _ (fun x s1 h1 => ⟨h1.1, he.mon _ _ _ _ _ _ (fun y s2 h2 => mon_g2 _ _ _ _ _ _ _ _ hq hE h2) hE h1.2⟩) hE h, PE.imp (pe_join ho.pe he.pe hs hbase hline) ?_⟩
  rintro σ H Q ⟨Z, τ, s, re, so, h⟩
  refine go ho.mon re so h (fun tx s1 x H1 p1 f1 re1 r1 so1 => ⟨?_, ?_⟩) fun _ _ q => q
  · have := p1.1
    split at this
    · cases rep_s r1
      exact ⟨_, rfl⟩
    · exact this.elim
  refine go he.mon re1 so1 p1.2 (fun ty s2 y H2 p2 f2 re2 r2 so2 => ?_) fun _ _ q => postW.up f1 q
  unfold g2 at p2
  split at p2
  · rename_i c t e1
    have p := post.up (f1.trans f2) p2.2
    unfold joinO at e1
    split at e1
    · cases rep_s r1
      split at e1
      · rename_i e2
        split at e1
        · rename_i ys e3
          cases e1
          obtain ⟨q, vs, rfl, hq, rs⟩ := seq_sq so2 r2 e2
          rw [rs.txts e3] at hq
          exact ⟨_, q, ys, rfl, rfl, hq, Nat.le_trans p2.1 (by decide), p.here (.str _) so2⟩
        · cases e1
      · cases e1
    · cases e1
  · exact p2.elim
/-! ### own operators -/
def gEqOwn (cc : Nat) (ins exc : List Nat) (nfs : List Ty) (D : FD) : S → T → T → KT → KX → Prop := fun s x y Q _ => match s.obj? x, s.ty? y with | some (c, _), some (t, g) => c = cc ∧ okC ins exc t g ∧ t ∈ nfs ∧ cM D [x, y] s Q noX | _, _ => False
theorem noX_post {K : PySem.W.Frag} {Z : Addr → Prop} {s : S} {H : Hp} {E : XK} {er : Er} {s1 : S} (h : noX er s1) : postX K cl Z s H E er s1 := h.elim
theorem o_eqOwn {cc : Nat} {ins exc : List Nat} {kk : Ty → Ty → Option Bool} {nfs : List Ty} {D : FD} (w : Wc X.K cl kk ins exc) (d : MetM X.prog X.w X.K X.mg X.base cl k cc "__eq__" D []) (hn : ∀ t ∈ nfs, PySem.W.notFirst X.K (cl cc) (t.u cl) = true) (hr : Rm j X.A) (hk : k ≤ j) :
    OpT X cl W (compareOp .Eq) (gEqOwn cc ins exc nfs D) := by
  obtain ⟨dvs, d, hd⟩ := d.ex
  have e0 : dvs = [] := by
    have := hd (fun _ => False) ⟨none, 0, fun _ => none⟩ (fun _ => none)
    cases this
    rfl
  subst e0
  refine OpT.of ?_ (op_ownEqA d hr hk) fun Z H x y Q s tx ty E px py so q => ?_
  · intro s x y Q Q' E E' hq he h
    unfold gEqOwn at h ⊢
    split at h
    · exact ⟨h.1, h.2.1, h.2.2.1, h.2.2.2.mon hq fun _ _ q => q⟩
    · exact h
  · unfold gEqOwn at q
    split at q
    · rename_i c fs t g e1 e2
      obtain ⟨rfl, h1, h2, h3⟩ := q
      obtain ⟨a, dx, fvs, rfl, h4, rf⟩ := obj_of so px e1
      exact ⟨a, dx, fvs, t.u cl, rfl, h4, ty_of w so py e2 h1, hn t h2, Z, [tx, ty], s, .cons px (.cons py .nil), so, h3.mon (fun _ _ q => q) fun _ _ q => noX_post q⟩
    · exact q.elim
def gNeOwn (cc : Nat) (D : FD) : S → T → T → KT → KX → Prop := fun s x y Q _ => match s.obj? x, s.obj? y with | some (c, _), some (c', _) => c = cc ∧ c' = cc ∧ cM D [x, y] s (fun t s1 => match t with | .bl b => Q (.bl (!b)) s1 | _ => False) noX | _, _ => False
theorem o_neOwn {cc : Nat} {D : FD} (d : MetM X.prog X.w X.K X.mg X.base cl k cc "__eq__" D []) (hne : PySem.W.findIn X.K (.ref (cl cc)) "__ne__" = some (some (.builtin "object.__ne__"))) (hm : PySem.W.mroIn X.K (cl cc) (.type "object") = some true) (hr : Rm (j + 1) X.A) (hk : k ≤ j) :
    OpT X cl W (compareOp .NotEq) (gNeOwn cc D) := by
  obtain ⟨dvs, d, hd⟩ := d.ex
  have e0 : dvs = [] := by
    have := hd (fun _ => False) ⟨none, 0, fun _ => none⟩ (fun _ => none)
    cases this
    rfl
  subst e0
  refine OpT.of ?_ (op_ownNe d hne hm hr hk) fun Z H x y Q s tx ty E px py so q => ?_
  · intro s x y Q Q' E E' hq he h
    unfold gNeOwn at h ⊢
    split at h
    · refine ⟨h.1, h.2.1, h.2.2.mon (fun t s1 q => ?_) fun _ _ q => q⟩
      split at q
      · exact hq _ _ q
      · exact q
    · exact h
  · unfold gNeOwn at q
    split at q
    · rename_i c fs c' fs' e1 e2
      obtain ⟨rfl, rfl, h3⟩ := q
      obtain ⟨a, dx, fvs, rfl, h4, rf⟩ := obj_of so px e1
      obtain ⟨b, dy, gvs, rfl, h5, rg⟩ := obj_of so py e2
      refine ⟨a, b, dx, fvs, dy, gvs, rfl, rfl, h4, h5, Z, [tx, ty], s, .cons px (.cons py .nil), so, h3.mon (fun t s1 q v H1 f r so1 => ?_) fun _ _ q => noX_post q⟩
      split at q
      · cases r
        exact ⟨_, rfl, q _ _ f (.bl _) so1⟩
      · exact q.elim
    · exact q.elim
/-- str(x), x an instance whose class has __str__ -/
def fStrO (cc : Nat) (D : FD) (A : FA) : FE := fun τ s Q E => A τ s (fun ts s1 => match ts with | [x] => (match s1.obj? x with | some (c, _) => c = cc ∧ cM D [x] s1 (fun t s2 => match t with | .str z => Q (.str z) s2 | _ => False) noX | none => False) | _ => False) E
theorem je_strO {cc : Nat} {D : FD} (d : MetM X.prog X.w X.K X.mg X.base cl k cc "__str__" D []) (hr : Rm (j + 2) X.A) (hk : k ≤ j) (hg : Gl X x) (hm : X.mg x = none) (hv : bootBuiltins x = some (.type "str")) (ha : JA X cl W (e :: es) A) (hn : x ≠ "__name__" := by decide) (hdb : (x == ("__debug__" : Str)) = false := by decide)
    (he : starEach (e :: es) X.env = (false, eval e X.env) :: starEach es X.env := by rfl) (hpl : (backTo pos (starEach es X.env)).any (·.1) = false := by rfl) : JE X cl W (.Call (.Name x p) (e :: es) [] pos) (fStrO cc D A) := by
  obtain ⟨dvs, d, hd⟩ := d.ex
  have e0 : dvs = [] := by
    have := hd (fun _ => False) ⟨none, 0, fun _ => none⟩ (fun _ => none)
    cases this
    rfl
  subst e0
  refine ⟨fun τ s Q Q' E E' hq hE h => ha.mon _ _ _ _ _ _ (fun ts s1 h1 => ?_) hE h, PE.imp (pe_callTy (call_strO d hr hk) hg hm hv ha.pa hn hdb he hpl) ?_⟩
  · split at h1
    · split at h1
      · refine ⟨h1.1, h1.2.mon (fun t s2 q => ?_) fun _ _ q => q⟩
        split at q
        · exact hq _ _ q
        · exact q
      · exact h1
    · exact h1
  rintro σ H Q ⟨Z, τ, s, re, so, h⟩
  refine goA ha.mon re so h (fun ts s1 vs H1 p1 f1 re1 r1 so1 => ?_) fun _ _ q => q
  split at p1
  · obtain ⟨v, rfl, rv⟩ := reps1 r1
    split at p1
    · rename_i c fs e1
      obtain ⟨rfl, h3⟩ := p1
      obtain ⟨a, dx, fvs, rfl, h4, rf⟩ := obj_of so1 rv e1
      refine ⟨a, dx, fvs, rfl, h4, Z, [_], s1, .cons rv .nil, so1, h3.mon (fun t s2 q v H2 f r so2 => ?_) fun _ _ q => noX_post q⟩
      split at q
      · cases r
        exact ⟨_, rfl, q _ _ (f1.trans f) (.str _) so2⟩
      · exact q.elim
    · exact p1.elim
  · exact p1.elim
end
end Mr

/-! The mirror layer: more operators; lists that change; slices. -/
namespace Mr
open PySem PySem.Spec PyProof.Rows L2 Tw
section
variable {X : Cx} {cl : Nat → Addr} {W : WX} {tg e a b c o : Expr} {es : List Expr} {F Fa Fb Fc Fo : FE} {G Ga Gb : FT} {A : FA} {pos p apos pos' p2 : Pos} {rest : List Expr} {x m : Str} {k j n i : Nat} {st : Stmt} {sts : List Stmt} {B B1 B2 : FS} {I : FI}
/-! ### a text times a number -/
theorem repS_len (z : Str) (n : Nat) : (repS z n).length = n * z.length := by
  have f : ∀ (n : Nat) (acc : Array Nat), ((List.replicate n z.cps).foldl (· ++ ·) acc).size = acc.size + n * z.cps.size := by
    intro n
    induction n with
    | zero => intro acc; rw [Nat.zero_mul]; rfl
    | succ n ih =>
      intro acc
      rw [List.replicate_succ, List.foldl_cons, ih, Array.size_append, Nat.succ_mul]
      omega
  show ((List.replicate n z.cps).foldl (· ++ ·) #[]).size = n * z.cps.size
  rw [f n #[]]
  simp
theorem op_mulS : OpR X (binaryOp .Mult) (fun x y H Q => ∃ (z : Str) (k : Int), x = .str z ∧ y = .int k ∧ 0 ≤ k ∧ k ≤ 1000 ∧ z.length ≤ 1000 ∧ Q (.str (repS z k.toNat)) H) := by
  intro pins s σ H x y v u Q I rx ry h
  obtain ⟨z, k, rfl, rfl, h0, h1, hz, q⟩ := h
  obtain ⟨t, rfl⟩ := rx
  obtain ⟨t', rfl⟩ := ry
  have hlen : z.length * k.toNat ≤ 1000000 := (Nat.mul_le_mul hz (show k.toNat ≤ 1000 by omega) : z.length * k.toNat ≤ 1000 * 1000)
  refine PySem.P.mul_str ?_ ?_ ?_ ?_
  · rw [decide_eq_false (by omega), decide_eq_false (by omega)]; rfl
  · intro hn _ hgt
    have h2 : (2 ^ 63 - 1) / k ≥ (2 ^ 63 - 1) / 1000 := by
      have hk : 0 < k := by omega
      refine (Int.le_ediv_iff_mul_le hk).mpr ?_
      have h3 : (2 ^ 63 - 1) / 1000 * k ≤ (2 ^ 63 - 1) / 1000 * 1000 := Int.mul_le_mul_of_nonneg_left h1 (by decide)
      exact Int.le_trans h3 (by decide)
    have h3 : ((2 : Int) ^ 63 - 1) / 1000 ≥ 1000 := by decide
    omega
  · intro _ _
    show decide (z.length * k.toNat > sizeLine) = false
    exact decide_eq_false (Nat.not_lt.mpr (Nat.le_trans hlen (by decide)))
  · by_cases c1 : k < 1
    · rw [if_pos c1]
      have e : k = 0 := by omega
      subst e
      exact ⟨by decide, ⟨.str _, H, I.tok _, ⟨_, rfl⟩, q⟩⟩
    · rw [if_neg c1]
      by_cases c2 : (k == 1 || z.length == 0) = true
      · rw [if_pos c2]
        refine ⟨.str _, H, I, ⟨t, ?_⟩, q⟩
        congr 1
        rcases Bool.or_eq_true_iff.mp c2 with c | c
        · have e : k = 1 := eq_of_beq c
          subst e
          show z = ⟨#[] ++ z.cps⟩
          rw [Array.empty_append]
        · have e : z.cps = #[] := Array.eq_empty_of_size_eq_zero (eq_of_beq c)
          unfold repS
          cases z with
          | mk cps =>
            dsimp only at e ⊢
            subst e
            congr 1
            generalize k.toNat = n
            induction n with
            | zero => rfl
            | succ n ih => rw [List.replicate_succ, List.foldl_cons]; exact ih
      · rw [if_neg c2]
        refine ⟨?_, ⟨.str _, H, I.tok _, ⟨_, rfl⟩, q⟩⟩
        show (repS z k.toNat).length ≤ sizeLine
        rw [repS_len]
        exact Nat.le_trans (by rw [Nat.mul_comm]; exact hlen) (by decide)
theorem o_mul : OpT X cl W (binaryOp .Mult) (g2 mulO) := by
  refine OpT.pure (opr_or op_mul (opr_or op_mulS op_rep)) fun Z H x y Q s tx ty c t px py so e hc p => ?_
  unfold mulO at e
  split at e
  · cases e
    cases rep_i px
    cases rep_i py
    exact .inl ⟨_, _, rfl, rfl, hc, p.here (.int _) so⟩
  · cases e
    cases rep_s px
    cases rep_i py
    exact .inr (.inl ⟨_, _, rfl, rfl, hc.1, hc.2.1, hc.2.2, p.here (.str _) so⟩)
  · cases rep_i py
    split at e
    · rename_i e1
      cases e
      obtain ⟨a, vs, rfl, h1, r1⟩ := lst_of so px e1
      exact .inr (.inr ⟨a, _, vs, rfl, rfl, h1, hc.1, hc.2.1, by rw [r1.length]; exact Nat.le_trans hc.2.2 (by decide), p.newL so (r1.flat _)⟩)
    · cases e
  · cases e
/-! ### in -/
def T.flat : T → Bool
  | .non | .bl _ | .int _ | .str _ => true
  | _ => false
/-- == of flat trees -/
def eqF : T → T → Bool
  | .non, .non => true
  | .bl a, .bl b => a == b
  | .bl a, .int b => (if a then 1 else 0) == b
  | .int a, .bl b => a == (if b then 1 else 0)
  | .int a, .int b => a == b
  | .str a, .str b => a == b
  | _, _ => false
theorem flat_of {K : PySem.W.Frag} {Z : Addr → Prop} {s : S} {H : Hp} {v : V} {t : T} (r : Rep K cl Z s H v t) (h : t.flat = true) : flatV v = true := by
  cases r <;> first | rfl | (cases h; done)
theorem eqF_of {K : PySem.W.Frag} {Z : Addr → Prop} {s : S} {H : Hp} {v w : V} {t u : T} (r : Rep K cl Z s H v t) (q : Rep K cl Z s H w u) (h : t.flat = true) (h' : u.flat = true) : eqV v w = eqF t u := by
  cases r <;> first | (cases h; done) | skip
  all_goals (cases q <;> first | rfl | (cases h'; done))
theorem Reps.flats {K : PySem.W.Frag} {Z : Addr → Prop} {s : S} {H : Hp} : ∀ {vs : List V} {ts : List T}, Reps K cl Z s H vs ts → ts.all T.flat = true → vs.all flatV = true
  | _, _, .nil, _ => rfl
  | _, _, .cons h r, e => by
    rw [List.all_cons, Bool.and_eq_true] at e ⊢
    exact ⟨flat_of h e.1, r.flats e.2⟩
theorem Reps.inF {K : PySem.W.Frag} {Z : Addr → Prop} {s : S} {H : Hp} {v : V} {t : T} (q : Rep K cl Z s H v t) (h : t.flat = true) : ∀ {vs : List V} {ts : List T}, Reps K cl Z s H vs ts → ts.all T.flat = true → inV v vs = ts.any fun y => eqF y t
  | _, _, .nil, _ => rfl
  | _, _, .cons r rs, e => by
    rw [List.all_cons, Bool.and_eq_true] at e
    unfold inV
    rw [List.any_cons, List.any_cons, eqF_of r q e.1 h]
    exact congrArg _ (rs.inF q h e.2)
/-- in: a text in a text; a flat thing in a list or tuple of such; data in a list of data -/
def inB (s : S) : T → T → Option (Prop × Bool)
  | .str w, .str z => some (True, occ z w)
  | x, y => match s.seq? y with
    | some (l, ys) => if x.flat = true then (if ys.all T.flat = true then some (True, ys.any fun y => eqF y x) else none) else
      (if l = true then (match s.dat x, s.dat y with | some d, some (.list ds) => some (SeqAt.shaped d = true ∧ SeqAt.shaped (.list ds) = true, ds.any fun z => PyData.eqv z d) | _, _ => none) else none)
    | none => none
def inO' : O2 := fun s x y => (inB s x y).map fun q => (q.1, .bl q.2)
def ninO' : O2 := fun s x y => (inB s x y).map fun q => (q.1, .bl (!q.2))
theorem in_go {neg : Bool} {K : PySem.W.Frag} {Z : Addr → Prop} {s : S} {H : Hp} {x y : V} {tx ty : T} {c : Prop} {r : Bool} {Q : VK} (px : Rep K cl Z s H x tx) (py : Rep K cl Z s H y ty) (so : Sto K cl Z s H) (e : inB s tx ty = some (c, r)) (hc : c) (q : Q (.bl (if neg then !r else r)) H) :
    (∃ i j, x = .str i ∧ y = .str j ∧ Q (.bl (if neg then !(occ j i) else occ j i)) H) ∨ rIn K neg x y H Q ∨ (∃ d ds, Dp K H x d ∧ Dp K H y (.list ds) ∧ SeqAt.shaped d = true ∧ SeqAt.shaped (.list ds) = true ∧ Q (.bl (if neg then !(ds.any fun z => PyData.eqv z d) else ds.any fun z => PyData.eqv z d)) H) := by
  unfold inB at e
  split at e
  · cases e
    cases rep_s px
    cases rep_s py
    exact .inl ⟨_, _, rfl, rfl, q⟩
  · split at e
    · rename_i l ys e1
      split at e
      · rename_i hf
        split at e
        · rename_i ha
          cases e
          obtain ⟨a, vs, rfl, hq, rs⟩ := seq_sq so py e1
          exact .inr (.inl ⟨a, vs, rfl, hq, flat_of px hf, rs.flats ha, by rw [rs.inF px hf ha]; exact q⟩)
        · cases e
      · split at e
        · split at e
          · rename_i e2 e3
            cases e
            exact .inr (.inr ⟨_, _, px.sdp so e2, py.sdp so e3, hc.1, hc.2, q⟩)
          · cases e
        · cases e
    · cases e
theorem o_in (hr : Rm k X.A) : OpT X cl W (compareOp .In) (g2 inO') := by
  have hu : X.A.units + 65 < cLine := by have := hr.room.un; omega
  refine OpT.pure (opr_or op_in_str (opr_or op_in_seq (op_inD hu))) fun Z H x y Q s tx ty c t px py so e hc p => ?_
  obtain ⟨⟨c', r⟩, e1, e2⟩ := Option.map_eq_some_iff.mp e
  cases e2
  exact in_go (neg := false) px py so e1 hc (p.here (.bl _) so)
theorem o_nin (hr : Rm k X.A) : OpT X cl W (compareOp .NotIn) (g2 ninO') := by
  have hu : X.A.units + 65 < cLine := by have := hr.room.un; omega
  refine OpT.pure (opr_or op_notIn_str (opr_or op_notIn_seq (op_notInD hu))) fun Z H x y Q s tx ty c t px py so e hc p => ?_
  obtain ⟨⟨c', r⟩, e1, e2⟩ := Option.map_eq_some_iff.mp e
  cases e2
  exact in_go (neg := true) px py so e1 hc (p.here (.bl _) so)
/-! ### slices -/
def cutT (xs : List T) (lo hi : Option Int) : List T := (xs.drop (HT.sIx xs.length 0 lo)).take (HT.sIx xs.length xs.length hi - HT.sIx xs.length 0 lo)
theorem Reps.cut {K : PySem.W.Frag} {Z : Addr → Prop} {s : S} {H : Hp} {vs : List V} {ts : List T} (r : Reps K cl Z s H vs ts) (lo hi : Option Int) : Reps K cl Z s H (cutV vs lo hi) (cutT ts lo hi) := by
  unfold cutV cutT
  rw [r.length]
  exact (r.drop _).take _
abbrev FO := Env → S → (Option Int → S → Prop) → KX → Prop
structure JO (X : Cx) (cl : Nat → Addr) (W : WX) (e : Option Expr) (F : FO) : Prop where
  mon : ∀ τ s (Q Q' : Option Int → S → Prop) (E E' : KX), (∀ t s, Q t s → Q' t s) → (∀ e s, E e s → E' e s) → F τ s Q E → F τ s Q' E'
  po : ∃ t, PO X e t ∧ ∀ (Z : Addr → Prop) (σ : L2.St) (τ : Env) (s : S) (H : Hp) (Q : Option Int → Hp → Prop) (P : Option Int → S → Prop) (E : KX), REnv X.K cl Z s H σ τ → Sto X.K cl Z s H → F τ s P E →
    (∀ i s1 H1, P i s1 → Fut s H s1 H1 → REnv X.K cl Z s1 H1 σ τ → Sto X.K cl Z s1 H1 → Q i H1) → (∀ er s1, E er s1 → postW X.K cl Z s H σ W er s1) → t σ H Q
def oNone : FO := fun _ s Q _ => Q none s
def oSome (Fa : FE) : FO := fun τ s Q E => Fa τ s (fun x s1 => match x with | .int i => Q (some i) s1 | _ => False) E
theorem jo_none : JO X cl W none oNone := ⟨fun _ _ _ _ _ _ hq _ h => hq _ _ h, _, po_none, fun Z σ τ s H Q P E re so h hP _ => hP _ _ _ h (Fut.refl _ _) re so⟩
theorem jo_some (ha : JE X cl W e Fa) : JO X cl W (some e) (oSome Fa) := by
  refine ⟨fun τ s Q Q' E E' hq he h => ha.mon _ _ _ _ _ _ (fun x s1 q => ?_) he h, _, po_some ha.pe, fun Z σ τ s H Q P E re so h hP hE => ?_⟩
  · split at q
    · exact hq _ _ q
    · exact q
  · refine go ha.mon re so h (fun tx s1 x H1 p1 f1 re1 r1 so1 => ?_) hE
    split at p1
    · cases rep_i r1
      exact ⟨_, rfl, hP _ _ _ p1 f1 re1 so1⟩
    · exact p1.elim
def slO (s : S) (x : T) (lo hi : Option Int) : Option (Prop × T) :=
  match x with
  | .str z => some (z.length ≤ 1000000, .str (Txt.slice z lo hi))
  | .tup xs => some (True, .tup (cutT xs lo hi))
  | x => match s.lst? x with | some xs => some (True, .lst (cutT xs lo hi)) | none => none
def fSl (Fa : FE) (Fl Fh : FO) : FE := fun τ s Q E => Fa τ s (fun x s1 => Fl τ s1 (fun l s2 => Fh τ s2 (fun h s3 => onO s3 (slO s3 x l h) Q) E) E) E
theorem cut_all (xs : List T) (lo hi : Option Int) (h : HT.sIx xs.length 0 lo = 0 ∧ HT.sIx xs.length xs.length hi = xs.length) : cutT xs lo hi = xs := by
  unfold cutT
  rw [h.1, h.2, List.drop_zero, Nat.sub_zero, List.take_length]
theorem je_slice {lo hi : Option Expr} {Fl Fh : FO} (ha : JE X cl W e Fa) (hl : JO X cl W lo Fl) (hh : JO X cl W hi Fh) : JE X cl W (.Subscript e (.Slice lo hi none p2) pos) (fSl Fa Fl Fh) := by
  obtain ⟨tl, pl, gl⟩ := hl.po
  obtain ⟨th, ph, gh⟩ := hh.po
  refine ⟨fun τ s Q Q' E E' hq he h => ha.mon _ _ _ _ _ _ (fun x s1 q => hl.mon _ _ _ _ _ _ (fun l s2 q => hh.mon _ _ _ _ _ _ (fun u s3 q => q.mon hq) he q) he q) he h, PE.imp (pe_slice (SlR.or sl_list (SlR.or sl_tupA C8.sl_txt)) ha.pe pl ph) ?_⟩
  rintro σ H Q ⟨Z, τ, s, re, so, h⟩
  refine go ha.mon re so h (fun tx s1 x H1 p1 f1 re1 r1 so1 => ?_) fun _ _ q => q
  refine gl Z σ τ s1 H1 _ _ _ re1 so1 p1 (fun l s2 H2 p2 f2 re2 so2 => ?_) fun _ _ q => postW.up f1 q
  refine gh Z σ τ s2 H2 _ _ _ re2 so2 p2 (fun u s3 H3 p3 f3 re3 so3 => ?_) fun _ _ q => postW.up (f1.trans f2) q
  have r3 := (r1.fut f2).fut f3
  unfold onO at p3
  split at p3
  · rename_i c t e1
    have p := post.up (f1.trans (f2.trans f3)) p3.2
    unfold slO at e1
    split at e1
    · cases e1
      cases rep_s r3
      exact .inr (.inr ⟨_, rfl, Nat.le_trans p3.1 size6, p.here (.str _) so3⟩)
    · cases e1
      have r4 := r3
      obtain ⟨a, vs, rfl, hq, rs⟩ := tup_of r3
      refine .inr (.inl ⟨a, vs, rfl, hq, fun z => ?_, fun z => p.newT so3 (rs.cut l u)⟩)
      rw [rs.length] at z
      rw [cut_all _ _ _ z] at p
      exact p.here r4 so3
    · split at e1
      · rename_i e2
        cases e1
        obtain ⟨a, vs, rfl, hq, rs⟩ := lst_of so3 r3 e2
        exact .inl ⟨a, vs, rfl, SqL.of hq, p.newL so3 (rs.cut l u)⟩
      · cases e1
  · exact p3.elim
/-! ### lists that change -/
/-- a method of a list: its value, the list behind it -/
abbrev OL := List T → List T → Option (Prop × T × List T)
structure LM (X : Cx) (cl : Nat → Addr) (id : String) (o : OL) : Prop where
  ex : ∃ r, MtR X id r ∧ ∀ (Z : Addr → Prop) (s : S) (H : Hp) (a : Addr) (xs zs : List T) (vs ws : List V) (Q : VK) (c : Prop) (t : T), H a = some (.lst vs) → Reps X.K cl Z s H vs xs → s.on a ≠ none → ∀ (ts : List T), Reps X.K cl Z s H ws ts → o xs ts = some (c, t, zs) → c →
    (∀ v us, Rep X.K cl Z s H v t → Reps X.K cl Z s H us zs → Q v (upd H a (.lst us))) → r (.ref a) ws H Q
def onL (s : S) (x : T) (o : OL) (ts : List T) (Q : KT) : Prop := match x with | .cell a => (match s.on a with | some (.lst xs) => (match o xs ts with | some (c, t, zs) => c ∧ Q t (s.put a (.lst zs)) | none => False) | _ => False) | _ => False
theorem onL.mon {s : S} {x : T} {o : OL} {ts : List T} {Q Q' : KT} (i : ∀ t s, Q t s → Q' t s) (h : onL s x o ts Q) : onL s x o ts Q' := by
  unfold onL at h ⊢
  split at h
  · split at h
    · split at h
      · exact ⟨h.1, i _ _ h.2⟩
      · exact h
    · exact h
  · exact h
def fLM (o : OL) (Fo : FE) (A : FA) : FE := fun τ s Q E => Fo τ s (fun x s1 => (s1.lst? x).isSome = true ∧ A τ s1 (fun ts s2 => onL s2 x o ts Q) E) E
theorem onL_go {o : OL} {id : String} {r : V → List V → Hp → VK → Prop} (hr : ∀ (Z : Addr → Prop) (s : S) (H : Hp) (a : Addr) (xs zs : List T) (vs ws : List V) (Q : VK) (c : Prop) (t : T), H a = some (.lst vs) → Reps X.K cl Z s H vs xs → s.on a ≠ none → ∀ (ts : List T), Reps X.K cl Z s H ws ts → o xs ts = some (c, t, zs) → c →
    (∀ v us, Rep X.K cl Z s H v t → Reps X.K cl Z s H us zs → Q v (upd H a (.lst us))) → r (.ref a) ws H Q) {Z : Addr → Prop} {s0 s : S} {H0 H : Hp} {x : V} {tx : T} {ws : List V} {ts : List T} {Q : VK} (f : Fut s0 H0 s H) (px : Rep X.K cl Z s H x tx) (pw : Reps X.K cl Z s H ws ts) (so : Sto X.K cl Z s H)
    (h : onL s tx o ts (post X.K cl Z s0 H0 Q)) : r x ws H Q := by
  unfold onL at h
  split at h
  · rename_i a
    cases px
    split at h
    · rename_i xs ho
      split at h
      · rename_i c t zs e
        obtain ⟨vs, h1, h2⟩ := so.cells _ _ ho
        have hne : s.on a ≠ none := by rw [ho]; exact Option.some_ne_none _
        refine hr Z s H a xs zs vs ws Q c t h1 h2 hne ts pw e h.1 fun v us rv ru => ?_
        have fu : Fut s H (s.put a (.lst zs)) (upd H a (.lst us)) := Fut.cell hne
        exact h.2 _ _ (f.trans fu) (rv.fut fu) (so.cell hne ⟨us, upd_same, ru.fut fu⟩)
      · exact h.elim
    · exact h.elim
  · exact h.elim
theorem tyV_lst {K : PySem.W.Frag} {Z : Addr → Prop} {s : S} {H : Hp} {v : V} {t : T} (so : Sto K cl Z s H) (r : Rep K cl Z s H v t) (h : (s.lst? t).isSome = true) : tyV K "list" v H := by
  obtain ⟨xs, e⟩ := Option.isSome_iff_exists.mp h
  obtain ⟨a, vs, rfl, h1, _⟩ := lst_of so r e
  exact .inl ⟨rfl, vs, SqL.of h1⟩
theorem mon_lm {o : OL} (mo : MonE Fo) (ma : MonA A) : MonE (fLM o Fo A) := fun τ s Q Q' E E' hq he h => mo _ _ _ _ _ _ (fun x s1 q => ⟨q.1, ma _ _ _ _ _ _ (fun ts s2 q => q.mon hq) he q.2⟩) he h
theorem je_lm {op : OL} {id : String} {name : Str} (hm : LM X cl id op) (slot : Slot "list" name id) (hty : typeOf (.builtin id) = pure (.type "method_descriptor")) (ho : JE X cl W o Fo) (ha : JA X cl W (e :: es) A)
    (hbase : attributeBase o name X.env (eval o X.env) = eval o X.env := by rfl)
    (hfew : ((backTo pos (starEach (e :: es) X.env)).all (fun x => !x.1) && (backToKw pos (keywordEach [] X.env)).all (fun x => x.1.isSome)
      && decide ((e :: es).length + ([] : List Keyword).length + (if ([] : List Keyword).isEmpty then 0 else 1) < 30)) = true := by rfl)
    (hline : (apos.endLine == pos.line) = true := by rfl) (hs : starEach (e :: es) X.env = (false, eval e X.env) :: starEach es X.env := by rfl) (hplain : (backTo pos (starEach es X.env)).any (·.1) = false := by rfl) :
    JE X cl W (.Call (.Attribute o name apos) (e :: es) [] pos) (fLM op Fo A) := by
  obtain ⟨r, h1, h2⟩ := hm.ex
  refine ⟨mon_lm ho.mon ha.mon, PE.imp (pe_bm PySem.F.plainAttrs_list slot hty h1 ho.pe ha.pa hbase hfew hline hs hplain) ?_⟩
  rintro σ H Q ⟨Z, τ, s, re, so, h⟩
  refine go ho.mon re so h (fun tx s1 x H1 p1 f1 re1 r1 so1 => ⟨tyV_lst so1 r1 p1.1, ?_⟩) fun _ _ q => q
  exact goA ha.mon re1 so1 p1.2 (fun ts s2 vs H2 p2 f2 re2 r2 so2 => onL_go (id := id) h2 (f1.trans f2) (r1.fut f2) r2 so2 p2) fun _ _ q => postW.up f1 q
theorem je_lm0 {op : OL} {id : String} {name : Str} (hm : LM X cl id op) (slot : Slot "list" name id) (hty : typeOf (.builtin id) = pure (.type "method_descriptor")) (ho : JE X cl W o Fo)
    (hbase : attributeBase o name X.env (eval o X.env) = eval o X.env := by rfl) (hline : (apos.endLine == pos.line) = true := by rfl) : JE X cl W (.Call (.Attribute o name apos) [] [] pos) (fLM op Fo fNil) := by
  obtain ⟨r, h1, h2⟩ := hm.ex
  refine ⟨mon_lm ho.mon (ja_nil (X := X) (cl := cl) (W := W)).mon, PE.imp (pe_bm0 PySem.F.plainAttrs_list slot hty h1 ho.pe hbase hline) ?_⟩
  rintro σ H Q ⟨Z, τ, s, re, so, h⟩
  exact go ho.mon re so h (fun tx s1 x H1 p1 f1 re1 r1 so1 => ⟨tyV_lst so1 r1 p1.1, onL_go (id := id) h2 f1 r1 .nil so1 p1.2⟩) fun _ _ q => q
def appO : OL
  | xs, [y] => some (xs.length < 1000000, .non, xs ++ [y])
  | _, _ => none
theorem lm_append : LM X cl "list.append" appO := by
  refine ⟨_, mt_append, fun Z s H a xs zs vs ws Q c t h r hne ts rt e hc q => ?_⟩
  unfold appO at e
  split at e
  · cases e
    obtain ⟨w, rfl, rw'⟩ := reps1 rt
    exact ⟨a, vs, w, rfl, rfl, h, by rw [r.length]; exact Nat.lt_of_lt_of_le hc size6, q _ _ .non (Reps.append r (.cons rw' .nil))⟩
  · cases e
def revO : OL
  | xs, [] => some (True, .non, xs.reverse)
  | _, _ => none
theorem lm_reverse : LM X cl "list.reverse" revO := by
  refine ⟨_, mt_reverse, fun Z s H a xs zs vs ws Q c t h r hne ts rt e hc q => ?_⟩
  unfold revO at e
  split at e
  · cases e
    cases rt
    exact ⟨a, vs, rfl, rfl, h, q _ _ .non r.reverse⟩
  · cases e
def clrO : OL
  | _, [] => some (True, .non, [])
  | _, _ => none
theorem lm_clear : LM X cl "list.clear" clrO := by
  refine ⟨_, mt_clear, fun Z s H a xs zs vs ws Q c t h r hne ts rt e hc q => ?_⟩
  unfold clrO at e
  split at e
  · cases e
    cases rt
    exact ⟨a, vs, rfl, rfl, h, q _ _ .non .nil⟩
  · cases e
theorem Reps.eraseIdx {K : PySem.W.Frag} {Z : Addr → Prop} {s : S} {H : Hp} : ∀ {vs : List V} {ts : List T} (n : Nat), Reps K cl Z s H vs ts → Reps K cl Z s H (vs.eraseIdx n) (ts.eraseIdx n)
  | _, _, _, .nil => .nil
  | _, _, 0, .cons _ r => r
  | _, _, n + 1, .cons h r => .cons h (r.eraseIdx n)
def popO : OL
  | xs, [.int i] => if 0 ≤ i ∧ i < (xs.length : Int) then (match xs[i.toNat]? with | some t => some (xs.length < 1000000, t, xs.eraseIdx i.toNat) | none => none) else none
  | _, _ => none
theorem lm_pop : LM X cl "list.pop" popO := by
  refine ⟨_, mt_popAt, fun Z s H a xs zs vs ws Q c t h r hne ts rt e hc q => ?_⟩
  unfold popO at e
  split at e
  · rename_i i
    split at e
    · rename_i hi
      split at e
      · rename_i t' e1
        cases e
        obtain ⟨w, rfl, rw'⟩ := reps1 rt
        cases rep_i rw'
        obtain ⟨v, ev, rv⟩ := r.get _ e1
        have hlen : xs.length < 1000000 := hc
        refine ⟨a, vs, i, i.toNat, v, rfl, rfl, h, by omega, by omega, ?_, ev, q _ _ rv (r.eraseIdx _)⟩
        unfold seqIndex?
        rw [r.length, if_neg (show ¬ i < 0 by omega)]
        exact if_pos (by rw [Bool.and_eq_true]; exact ⟨decide_eq_true hi.1, decide_eq_true hi.2⟩)
      · cases e
    · cases e
  · cases e
end
end Mr

/-! The mirror layer: the pen, the law's call, facts about classes, keywords. -/
namespace Mr
open PySem PySem.Spec PyProof.Rows L2 Tw
section
variable {X : Cx} {cl : Nat → Addr} {W : WX} {pos : Pos}
def fDct0 : FE := fun _ s Q _ => Q (.dct []) s
theorem je_dct0 : JE X cl W (.Dict [] [] pos) fDct0 := by
  refine ⟨fun _ _ _ _ _ _ hq _ h => hq _ _ h, PE.imp pe_dnewK ?_⟩
  rintro σ H Q ⟨Z, τ, s, re, so, h⟩
  intro a ha
  exact h _ _ (Fut.new ha) (.dct upd_same (so.nomut ha) .nil) (so.new ha)
end
/-! ### the pen -/
def drawF : FD := fun ts s Q _ => match ts with
  | [.pen, .int many] => (1 ≤ many ∧ many ≤ 1000000000000 ∧ s.pen ≤ 1000000) ∧ ∀ k : Int, 0 ≤ k → k < many → Q (.int k) (s.pn (s.pen + 1))
  | _ => False
def spDrawX : Sp := fun vs H Q _ => ∃ (p L : Addr) (a r many : Int) (ns : List Int), vs = [.ref p, .int many] ∧ H p = some (.lst [.ref L, .int a, .int r]) ∧ H L = some (.lst (ns.map V.int)) ∧ 0 ≤ a ∧ a ≤ 1000000 ∧ ns.length ≤ 63 ∧ 1 ≤ many ∧ many ≤ 1000000000000 ∧
  ∀ (k : Int) (H' : Hp) (a' r' : Int), 0 ≤ k → k < many → (∀ b o, b ≠ p → H b = some o → H' b = some o) → H' p = some (.lst [.ref L, .int a', .int r']) → 0 ≤ a' → a' ≤ a + 1 → Q (.int k) H'
theorem rep_pen {K : PySem.W.Frag} {cl : Nat → Addr} {Z : Addr → Prop} {s : S} {H : Hp} {v : V} (r : Rep K cl Z s H v .pen) : ∃ p, v = .ref p ∧ s.pa = some p := by
  cases r with
  | pen h => exact ⟨_, rfl, h⟩
theorem draw_sp {K : PySem.W.Frag} {cl : Nat → Addr} : ∀ vs H Q E, spM K cl drawF vs H Q E → spDrawX vs H Q E := by
  rintro vs H Q E ⟨Z, ts, s, r, so, Q0, E0, h1, h2, h3⟩
  unfold drawF at h1
  split at h1
  · rename_i many
    obtain ⟨v, w, rfl, rv, rw'⟩ := reps2 r
    cases rep_i rw'
    obtain ⟨p, rfl, hp⟩ := rep_pen rv
    obtain ⟨⟨m1, m2, m3⟩, k⟩ := h1
    obtain ⟨L, a, q, ns, e1, e2, fz, a0, a1, hl⟩ := so.pen p hp
    have nL : L ≠ p := fun e => fz.1 (.inl (by rw [e]; exact hp))
    refine ⟨p, L, a, q, many, ns, rfl, e1, e2, a0, by omega, hl, m1, m2, fun k' H' a' r' k0 k1 keep hp' ha0 ha1 => ?_⟩
    exact h2 _ _ (k k' k0 k1) _ _ (Fut.pen hp keep) (.int _) (so.pnn hp keep ⟨L, a', r', ns, hp', e2, nL, fz, ha0, by omega, hl⟩)
  · exact h1.elim
theorem drawM {P : Program} {w : World} {K : PySem.W.Frag} {mg : Str → Option Value} {base : Heap} {cl : Nat → Addr} {k : Nat} {x : Str} (c : Cal P w K mg base k x spDrawX []) : CalM P w K mg base cl k x drawF [] := by
  obtain ⟨f, fd, ps, ds, F, a, b, d, e⟩ := c.ex
  exact ⟨[], ⟨f, fd, ps, ds, F.imp draw_sp, a, b, d, e⟩, fun _ _ _ => .nil⟩
theorem use_draw {s : S} {many : Int} {Q : KT} {E : KX} (h1 : 1 ≤ many) (h2 : many ≤ 1000000000000) (h3 : s.pen ≤ 1000000) (h : ∀ k : Int, 0 ≤ k → k < many → Q (.int k) (s.pn (s.pen + 1))) : cM drawF [.pen, .int many] s Q E := cM.of ⟨⟨h1, h2, h3⟩, h⟩
/-- what the pen's def promises -/
def spPenX (K : PySem.W.Frag) : Sp := fun vs H Q _ => ∃ (a : Addr) (ns : List Int), vs = [.ref a] ∧ SqL K H a (ns.map V.int) ∧ ns.length ≤ 63 ∧
  ∀ (p L : Addr) (H' : Hp), Same H H' → H p = none → H L = none → p ≠ L → H' p = some (.lst [.ref L, .int 0, .int 0]) → H' L = some (.lst (ns.map V.int)) → Q (.ref p) H'
/-! ### the law -/
def spLaw (K : PySem.W.Frag) : Sp := fun vs H Q _ => ∃ (a : Addr) (ns : List Int), vs = [.ref a] ∧ SqL K H a (ns.map V.int) ∧ ns.length ≤ 63 ∧ ∀ H', Q (.bl true) H'
/-- behind the law's first statement -/
def s0 (p : Addr) : S := ⟨some p, 0, fun _ => none⟩
def lawEnds : DS := ⟨fun _ _ => False, fun t _ => t = .bl true, fun _ _ => False, fun _ _ => False, fun _ _ _ => False⟩
theorem law_go {K : PySem.W.Frag} {cl : Nat → Addr} {W : WX} {B : FS} {H : Hp} {Q : VK} {N : List Str} (hN : 2 ≤ N.length) (mB : MonS B) (hB : ∀ a p : Addr, B (some (.cell a) :: some .pen :: List.replicate (N.length - 2) none) (s0 p) lawEnds) {a : Addr} {ns : List Int} (hl : ns.length ≤ 63) (q : ∀ H', Q (.bl true) H') :
    ∀ (p L : Addr) (H' : Hp), Same H H' → H p = none → H L = none → p ≠ L → H' p = some (.lst [.ref L, .int 0, .int 0]) → H' L = some (.lst (ns.map V.int)) →
      tTS K cl W B { nx := fun _ H' => Q .non H', rt := Q } (List.set (L2.start N [.ref a]) 1 (some (.ref p))) H' := by
  intro p L H' _ _ _ ne hp hL
  have nL : ¬ (s0 p).mut L := by
    rintro (h | h)
    · injection h with h
      exact ne h
    · exact h rfl
  have so : Sto K cl (fun _ => False) (s0 p) H' := by
    refine ⟨fun q hq => ?_, fun b c h => ?_, fun q _ => rfl, fun b h => h.elim⟩
    · have e : p = q := by injection hq
      subst e
      exact ⟨L, 0, 0, ns, hp, hL, ⟨nL, fun h => h⟩, Int.le_refl 0, Int.le_refl 0, hl⟩
    · cases h
  refine ⟨fun _ => False, some (.cell a) :: some .pen :: List.replicate (N.length - 2) none, s0 p, ?_, so, mB _ _ _ _ ?_ (hB a p)⟩
  · have e : List.set (L2.start N [V.ref a]) 1 (some (V.ref p)) = some (V.ref a) :: some (V.ref p) :: List.replicate (N.length - 2) none := by
      unfold L2.start
      obtain ⟨k, hk⟩ : ∃ k, N.length = k + 2 := ⟨N.length - 2, by omega⟩
      rw [hk]
      show List.set (some (V.ref a) :: List.replicate (k + 2 - 1) none) 1 (some (V.ref p)) = _
      rw [show k + 2 - 1 = k + 1 from rfl, List.replicate_succ]
      rfl
    rw [e]
    exact .c1 (.cell a) (.c1 (.pen rfl) (REnv.nones _))
  · refine ⟨fun _ _ z => False.elim z, fun t s' e v H2 f r so => ?_, fun _ _ z => False.elim z, fun _ _ z => False.elim z, fun _ _ _ z => False.elim z⟩
    have e' : t = .bl true := e
    subst e'
    cases r
    exact q H2
/-! ### facts about classes, by one look -/
section
variable {K : PySem.W.Frag}
def clsB (K : PySem.W.Frag) (C : Addr) : Bool := PySem.W.plainGet K C Str.empty && (PySem.W.hasDictIn K C && (PySem.W.plainOver K C && decide (PySem.W.findIn K (.ref C) "__setattr__" = some (some (.builtin "object.__setattr__")))))
theorem clsB_ok {C : Addr} (h : clsB K C = true) : Cls K C := by
  obtain ⟨h1, h⟩ := Bool.and_eq_true_iff.mp h
  obtain ⟨h2, h⟩ := Bool.and_eq_true_iff.mp h
  obtain ⟨h3, h4⟩ := Bool.and_eq_true_iff.mp h
  exact ⟨h1, h2, h3, of_decide_eq_true h4⟩
def insB (K : PySem.W.Frag) (C : Addr) : Bool := clsB K C && (decide (PySem.W.findIn K (.ref C) "__class__" = some (some (.builtin "object.__class__"))) && (decide (PySem.W.specialIn K (.builtin "object.__class__") "__get__" = some (some (.builtin "getset_descriptor.__get__"))) && (decide (PySem.W.takesIn K (.builtin "object.__class__") = some true) &&
  (decide (PySem.W.mroIn K C (.type "object") = some true) && decide (PySem.W.kitOne K (.ref C) (.ref C) = some true)))))
theorem insB_ok {C : Addr} (h : insB K C = true) : C8.InsC K C := by
  obtain ⟨h1, h⟩ := Bool.and_eq_true_iff.mp h
  obtain ⟨h2, h⟩ := Bool.and_eq_true_iff.mp h
  obtain ⟨h3, h⟩ := Bool.and_eq_true_iff.mp h
  obtain ⟨h4, h⟩ := Bool.and_eq_true_iff.mp h
  obtain ⟨h5, h6⟩ := Bool.and_eq_true_iff.mp h
  exact ⟨clsB_ok h1, of_decide_eq_true h2, of_decide_eq_true h3, of_decide_eq_true h4, of_decide_eq_true h5, of_decide_eq_true h6⟩
def excB (K : PySem.W.Frag) (C : Addr) : Bool := decide (PySem.W.findIn K (.ref C) "__getattribute__" = some (some (.builtin "BaseException.__getattribute__"))) && (decide (PySem.W.findIn K (.ref C) "__getattr__" = some none) && (decide (PySem.W.subIn K (.ref C) (.type "BaseException") = some true) && (PySem.W.hasDictIn K C &&
  (decide (PySem.W.findIn K (.ref C) "__class__" = some (some (.builtin "object.__class__"))) && (decide (PySem.W.specialIn K (.builtin "object.__class__") "__get__" = some (some (.builtin "getset_descriptor.__get__"))) && (decide (PySem.W.takesIn K (.builtin "object.__class__") = some true) && decide (PySem.W.mroIn K C (.type "object") = some true)))))))
theorem excB_ok {C : Addr} (h : excB K C = true) : ExcC K C := by
  obtain ⟨h1, h⟩ := Bool.and_eq_true_iff.mp h
  obtain ⟨h2, h⟩ := Bool.and_eq_true_iff.mp h
  obtain ⟨h3, h⟩ := Bool.and_eq_true_iff.mp h
  obtain ⟨h4, h⟩ := Bool.and_eq_true_iff.mp h
  obtain ⟨h5, h⟩ := Bool.and_eq_true_iff.mp h
  obtain ⟨h6, h⟩ := Bool.and_eq_true_iff.mp h
  obtain ⟨h7, h8⟩ := Bool.and_eq_true_iff.mp h
  exact ⟨of_decide_eq_true h1, of_decide_eq_true h2, of_decide_eq_true h3, h4, of_decide_eq_true h5, of_decide_eq_true h6, of_decide_eq_true h7, of_decide_eq_true h8⟩
theorem excB_xf {C : Addr} (h : excB K C = true) : XfC K C := by
  have e := excB_ok h
  exact ⟨e.hg, e.hk, e.hs, e.hd⟩
end
/-- a table of classes: their numbers in order -/
def clL (l : List Addr) (n : Nat) : Addr := l.getD n 0
theorem one_met {P : Program} {w : World} {K : PySem.W.Frag} {mg : Str → Option Value} {base : Heap} {cl : Nat → Addr} {k c : Nat} {m : Str} {F : FD} {dts : List T} (h : MetM P w K mg base cl k c m F dts) : ∀ c' ∈ [c], MetM P w K mg base cl k c' m F dts := fun c' hc => by
  rw [List.mem_singleton.mp hc]
  exact h
theorem all_nil {P : Nat → Prop} : ∀ c ∈ ([] : List Nat), P c := fun _ h => nomatch h
theorem all_cons {P : Nat → Prop} {a : Nat} {l : List Nat} (h : P a) (r : ∀ c ∈ l, P c) : ∀ c ∈ a :: l, P c := fun c hc => by
  rcases List.mem_cons.mp hc with e | e
  · rw [e]
    exact h
  · exact r c e
/-- a table of answers to isinstance -/
def kkOf (tab : List ((Ty × Ty) × Bool)) (a b : Ty) : Option Bool := match tab with
  | [] => none
  | (p, r) :: rest => if a = p.1 ∧ b = p.2 then some r else kkOf rest a b
def kitB' (K : PySem.W.Frag) (cl : Nat → Addr) : List ((Ty × Ty) × Bool) → Bool
  | [] => true
  | (p, r) :: rest => decide (PySem.W.kitOne K (p.1.u cl) (p.2.u cl) = some r) && kitB' K cl rest
theorem kit_all {K : PySem.W.Frag} {cl : Nat → Addr} : ∀ {tab : List ((Ty × Ty) × Bool)}, kitB' K cl tab = true → ∀ a b r, kkOf tab a b = some r → PySem.W.kitOne K (a.u cl) (b.u cl) = some r
  | [], _, a, b, r, e => by cases e
  | (p, q) :: rest, h, a, b, r, e => by
    obtain ⟨h1, h2⟩ := Bool.and_eq_true_iff.mp h
    unfold kkOf at e
    split at e
    · rename_i hab
      cases e
      rw [hab.1, hab.2]
      exact of_decide_eq_true h1
    · exact kit_all h2 a b r e
def exmB (K : PySem.W.Frag) (cl : Nat → Addr) (h : Nat) (l : List Nat) : Bool := l.all fun c => decide (PySem.W.exmOne K (.ref (cl c)) (.ref (cl h)) = some true)
theorem exm_all {K : PySem.W.Frag} {cl : Nat → Addr} {h : Nat} {l : List Nat} (e : exmB K cl h l = true) : ∀ c, c ∈ l → PySem.W.exmOne K (.ref (cl c)) (.ref (cl h)) = some true := fun c hc => of_decide_eq_true (List.all_eq_true.mp e c hc)
def nfB (K : PySem.W.Frag) (cl : Nat → Addr) (c : Nat) (l : List Ty) : Bool := l.all fun t => PySem.W.notFirst K (cl c) (t.u cl)
theorem nf_all {K : PySem.W.Frag} {cl : Nat → Addr} {c : Nat} {l : List Ty} (e : nfB K cl c l = true) : ∀ t ∈ l, PySem.W.notFirst K (cl c) (t.u cl) = true := fun t ht => List.all_eq_true.mp e t ht
end Mr

/-! The mirror layer: a def's text to its bundles; calls with keywords. -/
namespace Mr
open PySem PySem.Spec PyProof.Rows L2 Tw
section
variable {P : Program} {w : World} {K : PySem.W.Frag} {mg : Str → Option Value} {base : Heap} {cl : Nat → Addr} {k c n : Nat} {x m qual : Str} {st : Stmt} {ps N ks : List Str} {dvs : List V} {dts : List T} {D : FD} {B : FS} {f : Addr} {fd : FuncData} {gV : List V → List V → List V} {gT : List T → List T → List T}
/-- the body's walk -/
abbrev Walk (P : Program) (w : World) (K : PySem.W.Frag) (mg : Str → Option Value) (base : Heap) (cl : Nat → Addr) (k : Nat) (N : List Str) (qual : Str) (st : Stmt) (B : FS) : Prop :=
  ∀ (f : Addr) (cdv : Value) (A : Around) (out : List PySem.Env) (s : Shared) (H : Hp) (E : XK), Rm k (A.deeper (envOfC qual (C8.fnScope st) s.heap.objs.size f cdv)) →
      JSs (cxOf (L2.CX P w) P w K mg base N qual (C8.fnScope st) f cdv A out s H E) cl (fun cls d _ H' => E cls d H') (C8.fnBody st) B
theorem fnM (S : FnScope N ps (C8.fnScope st)) (len : ∀ ts s Q E, D ts s Q E → ts.length = ps.length) (hB : Walk P w K mg base cl k N qual st B)
    (hF : ∀ ts s Q E, D ts s Q E → B (startT N ts) s (endsM Q E)) : ∀ {x : Str} {f : Addr} {fd : FuncData}, C8.Fun K x qual st f fd → FnG P w K mg base (k + 1) f fd ps (spM K cl D) :=
  fun F => fnGX F S (spM.len len) fun cdv A out s H vs Q E hr h => body_go (hB _ cdv A out s H E hr) hF h
theorem calOf (d : DefAt K mg x st ps dvs) (hd : ∀ Z s H, Reps K cl Z s H dvs dts) (fn : ∀ {y : Str} {f : Addr} {fd : FuncData}, C8.Fun K y x st f fd → FnG P w K mg base k f fd ps (spM K cl D)) : CalM P w K mg base cl k x D dts := by
  obtain ⟨f, fd, ds, F, g, kp, b, v⟩ := d.ex
  exact ⟨dvs, ⟨f, fd, ps, ds, fn F, g, kp, b, v⟩, hd⟩
theorem metOf (d : MetAt K (cl c) m qual st ps dvs) (hd : ∀ Z s H, Reps K cl Z s H dvs dts) (fn : ∀ {y : Str} {f : Addr} {fd : FuncData}, C8.Fun K y qual st f fd → FnG P w K mg base k f fd ps (spM K cl D)) : MetM P w K mg base cl k c m D dts := by
  obtain ⟨f, fd, ds, C, me, F, b, v⟩ := d.ex
  exact ⟨dvs, ⟨f, fd, ps, ds, C, me, fn F, b, v⟩, hd⟩
theorem makOf (d : MakAt K mg x (cl c) qual st ps dvs) (hd : ∀ Z s H, Reps K cl Z s H dvs dts) (fn : ∀ {y : Str} {f : Addr} {fd : FuncData}, C8.Fun K y qual st f fd → FnG P w K mg base k f fd ps (spM K cl D)) : MakM P w K mg base cl k x c D dts := by
  obtain ⟨f, fd, ds, M, F, g, b, v⟩ := d.ex
  exact ⟨dvs, ⟨f, fd, ps, ds, M, fn F, g, b, v⟩, hd⟩
/-! ### keywords -/
structure DefAtK (K : PySem.W.Frag) (mg : Str → Option Value) (x : Str) (st : Stmt) (ps : List Str) (n : Nat) (ks : List Str) (gV : List V → List V → List V) : Prop where
  ex : ∃ (f : Addr) (fd : FuncData) (g : List Value → List Value → List Value), C8.Fun K x x st f fd ∧ mg x = some (.ref f) ∧ PySem.W.keepIn K (.ref f) = true ∧ KBn K fd ps n ks g gV
structure MetAtK (K : PySem.W.Frag) (C : Addr) (m qual : Str) (st : Stmt) (ps : List Str) (n : Nat) (ks : List Str) (gV : List V → List V → List V) : Prop where
  ex : ∃ (f : Addr) (fd : FuncData) (g : List Value → List Value → List Value), Cls K C ∧ Meth K C m f ∧ C8.Fun K m qual st f fd ∧ KBn K fd ps n ks g gV
structure MakAtK (K : PySem.W.Frag) (mg : Str → Option Value) (x : Str) (C : Addr) (qual : Str) (st : Stmt) (ps : List Str) (n : Nat) (ks : List Str) (gV : List V → List V → List V) : Prop where
  ex : ∃ (f : Addr) (fd : FuncData) (g : List Value → List Value → List Value), Mk K C f ∧ C8.Fun K "__init__" qual st f fd ∧ mg x = some (.ref C) ∧ KBn K fd ps n ks g gV
def KRel (K : PySem.W.Frag) (cl : Nat → Addr) (gV : List V → List V → List V) (gT : List T → List T → List T) : Prop := ∀ {Z : Addr → Prop} {s : S} {H : Hp} {vs : List V} {ts : List T} {zs : List V} {us : List T}, Reps K cl Z s H vs ts → Reps K cl Z s H zs us → Reps K cl Z s H (gV vs zs) (gT ts us)
theorem Reps.getD {Z : Addr → Prop} {s : S} {H : Hp} : ∀ {vs : List V} {ts : List T} (i : Nat), Reps K cl Z s H vs ts → Rep K cl Z s H (vs.getD i .non) (ts.getD i .non)
  | _, _, _, .nil => by simp; exact .non
  | _, _, 0, .cons h _ => h
  | _, _, i + 1, .cons _ r => r.getD i
structure CalK (P : Program) (w : World) (K : PySem.W.Frag) (mg : Str → Option Value) (base : Heap) (cl : Nat → Addr) (k : Nat) (x : Str) (D : FD) (n : Nat) (ks : List Str) (gT : List T → List T → List T) : Prop where
  ex : ∃ (f : Addr) (fd : FuncData) (ps : List Str) (g : List Value → List Value → List Value) (gV : List V → List V → List V), KRel K cl gV gT ∧ FnG P w K mg base k f fd ps (spM K cl D) ∧ mg x = some (.ref f) ∧ PySem.W.keepIn K (.ref f) = true ∧ KBn K fd ps n ks g gV
structure MetK (P : Program) (w : World) (K : PySem.W.Frag) (mg : Str → Option Value) (base : Heap) (cl : Nat → Addr) (k : Nat) (c : Nat) (m : Str) (D : FD) (n : Nat) (ks : List Str) (gT : List T → List T → List T) : Prop where
  ex : ∃ (f : Addr) (fd : FuncData) (ps : List Str) (g : List Value → List Value → List Value) (gV : List V → List V → List V), KRel K cl gV gT ∧ Cls K (cl c) ∧ Meth K (cl c) m f ∧ FnG P w K mg base k f fd ps (spM K cl D) ∧ KBn K fd ps n ks g gV
structure MakK (P : Program) (w : World) (K : PySem.W.Frag) (mg : Str → Option Value) (base : Heap) (cl : Nat → Addr) (k : Nat) (x : Str) (c : Nat) (D : FD) (n : Nat) (ks : List Str) (gT : List T → List T → List T) : Prop where
  ex : ∃ (f : Addr) (fd : FuncData) (ps : List Str) (g : List Value → List Value → List Value) (gV : List V → List V → List V), KRel K cl gV gT ∧ Mk K (cl c) f ∧ FnG P w K mg base k f fd ps (spM K cl D) ∧ mg x = some (.ref (cl c)) ∧ KBn K fd ps n ks g gV
theorem calKOf (d : DefAtK K mg x st ps n ks gV) (hd : KRel K cl gV gT) (fn : ∀ {y : Str} {f : Addr} {fd : FuncData}, C8.Fun K y x st f fd → FnG P w K mg base k f fd ps (spM K cl D)) : CalK P w K mg base cl k x D n ks gT := by
  obtain ⟨f, fd, g, F, a, b, c⟩ := d.ex
  exact ⟨f, fd, ps, g, gV, hd, fn F, a, b, c⟩
theorem metKOf (d : MetAtK K (cl c) m qual st ps n ks gV) (hd : KRel K cl gV gT) (fn : ∀ {y : Str} {f : Addr} {fd : FuncData}, C8.Fun K y qual st f fd → FnG P w K mg base k f fd ps (spM K cl D)) : MetK P w K mg base cl k c m D n ks gT := by
  obtain ⟨f, fd, g, C, a, F, b⟩ := d.ex
  exact ⟨f, fd, ps, g, gV, hd, C, a, fn F, b⟩
theorem makKOf (d : MakAtK K mg x (cl c) qual st ps n ks gV) (hd : KRel K cl gV gT) (fn : ∀ {y : Str} {f : Addr} {fd : FuncData}, C8.Fun K y qual st f fd → FnG P w K mg base k f fd ps (spM K cl D)) : MakK P w K mg base cl k x c D n ks gT := by
  obtain ⟨f, fd, g, M, F, a, b⟩ := d.ex
  exact ⟨f, fd, ps, g, gV, hd, M, fn F, a, b⟩
end
section
variable {X : Cx} {cl : Nat → Addr} {W : WX} {e a b c o : Expr} {es : List Expr} {F Fa Fb Fc Fo : FE} {A Ak : FA} {pos p apos kpos : Pos} {x m : Str} {k j n cc : Nat} {D : FD} {ks : List Str} {kws : List Keyword} {nm : Option Str} {gT : List T → List T → List T} {f : Addr} {fd : FuncData} {ps : List Str} {sp : Sp} {g : List Value → List Value → List Value} {gV : List V → List V → List V} {E : XK}
structure JK (X : Cx) (cl : Nat → Addr) (W : WX) (kws : List Keyword) (F : FA) : Prop where
  mon : MonA F
  pk : PK X kws (tTA X.K cl W F)
theorem PK.imp {t t' : TA} (h : PK X kws t) (i : ∀ σ H Q, t' σ H Q → t σ H Q) : PK X kws t' := ⟨fun pos pins s σ H Q I z => h.run pos pins s σ H Q I (i σ H Q z)⟩
theorem jk_nil : JK X cl W [] fNil := by
  refine ⟨fun τ s Q Q' E E' hq he h => hq _ _ h, PK.imp pk_nil ?_⟩
  rintro σ H Q ⟨Z, τ, s, re, so, h⟩
  exact h [] H (Fut.refl _ _) .nil so
theorem jk_cons (ha : JE X cl W e Fa) (hr : JK X cl W kws A) : JK X cl W (⟨nm, e, kpos⟩ :: kws) (fCons Fa A) := by
  refine ⟨fun τ s Q Q' E E' hq he h => ha.mon _ _ _ _ _ _ (fun x s1 h1 => hr.mon _ _ _ _ _ _ (fun xs s2 h2 => hq _ _ h2) he h1) he h, PK.imp (pk_cons ha.pe hr.pk) ?_⟩
  rintro σ H Q ⟨Z, τ, s, re, so, h⟩
  refine go ha.mon re so h (fun tx s1 x H1 p1 f1 re1 r1 so1 => ?_) fun _ _ q => q
  exact goA hr.mon re1 so1 p1 (fun ts s2 vs H2 p2 f2 re2 r2 so2 => p2 _ _ (f1.trans f2) (.cons (r1.fut f2) r2) so2) fun _ _ q => postW.up f1 q
theorem goKw {pins : List (Addr × Obj)} {σ : L2.St} {H : Hp} {s : Shared} {Q : VK} {us ws : List Value} {vs zs : List V} (F : FnG X.prog X.w X.K X.mg X.base k f fd ps sp) {A : Around} (hr : Rm k A) (fr : A.frames = X.A.frames) (hb : KBn X.K fd ps n ks g gV) (hx : PassAt X pins σ E)
    (I : Inv X pins σ H s) (r : Vals vs us) (rz : Vals zs ws) (l1 : vs.length = n) (l2 : zs.length = ks.length) (h : sp (gV vs zs) H Q E) : wpAny (model X.prog X.w) A (call (.ref f) us (ks.zip ws)) (EP X pins σ Q) X.xe s := by
  have ev : Env0 X.prog X.w X.K X.mg X.base A X.stack s H := { I.env0 with frames := fr.trans I.env0.frames }
  refine wpAny_call (codeAny_mono (F.run A X.stack s H ⟨us, ks.zip ws⟩ (g us ws) (gV vs zs) Q E hr ev (hb.to s us ws I.kIn (r.length.symm.trans l1) (rz.length.symm.trans l2)) (hb.rel r rz) h) ?_)
  intro res s' z
  match res, z with
  | .error e, z => exact hx H s e s' I z
  | .ok (.ret u), z => exact I.after z
  | .ok .next, z => exact False.elim z
  | .ok .brk, z => exact False.elim z
  | .ok .cont, z => exact False.elim z
/-- o.m(k = v, ..) -/
def fMtK (cc n mm : Nat) (m : Str) (D : FD) (gT : List T → List T → List T) (Fo : FE) (A Ak : FA) : FE := fun τ s Q E => Fo τ s (fun x s1 => match s1.obj? x with | some (c, fs) => (c = cc ∧ fs.lookup m = none) ∧ A τ s1 (fun ts s2 => Ak τ s2 (fun us s3 => (ts.length + 1 = n ∧ us.length = mm) ∧ cM D (gT (x :: ts) us) s3 Q E) E) E | none => False) E
theorem je_mtK0 {pl : Sem Bool} (tk : Takes X W) (d : MetK X.prog X.w X.K X.mg X.base cl k cc m D n ks gT) (hr : Rm j X.A) (hk : k ≤ j) (ho : JE X cl W o Fo) (hkw : JK X cl W kws Ak)
    (hall : (backToKw pos (keywordEach kws X.env)).all (·.1.isSome) = true := by rfl) (hks : (backToKw pos (keywordEach kws X.env)).filterMap (·.1) = ks := by rfl)
    (hpl : ((backTo pos (starEach [] X.env)).any (·.1) || (backToKw pos (keywordEach kws X.env)).any (·.1.isNone)) = false := by rfl)
    (ht : eval (.Call (.Attribute o m apos) [] kws pos) X.env = (do
      let ov ← eval o X.env
      standAt apos.atName
      let (g, first) ← holding [ov] (getMethod ov m pl)
      callWith pos g first (backTo pos (starEach [] X.env)) (backToKw pos (keywordEach kws X.env))) := by rfl) : JE X cl W (.Call (.Attribute o m apos) [] kws pos) (fMtK cc n ks.length m D gT Fo fNil Ak) := by
  obtain ⟨f, fd, ps, g, gV, rel, hcl, hm, F, b⟩ := d.ex
  refine ⟨fun τ s Q Q' E E' hq he h => ho.mon _ _ _ _ _ _ (fun x s1 h1 => ?_) he h, ⟨fun pins sh σ H Q I h => ?_⟩⟩
  · split at h1
    · exact ⟨h1.1, hkw.mon _ _ _ _ _ _ (fun us s2 h2 => ⟨h2.1, h2.2.mon hq he⟩) he h1.2⟩
    · exact h1
  obtain ⟨Z, τ, s, re, so, h⟩ := h
  have h' : tT X.K cl W Fo σ H fun x H1 => ∃ dx fs a, x = .ref a ∧ H1 a = some (.ins (cl cc) dx fs) ∧ fs.lookup m = none ∧ tTA X.K cl W Ak σ H1 fun zs H2 => 1 = n ∧ zs.length = ks.length ∧ spM X.K cl D (gV [.ref a] zs) H2 Q (fun cls d H' => W cls d σ H') := by
    refine go ho.mon re so h (fun tx s1 x H1 p1 f1 re1 r1 so1 => ?_) fun _ _ q => q
    split at p1
    · rename_i c fs e1
      obtain ⟨⟨rfl, hl⟩, p1⟩ := p1
      obtain ⟨a, dx, fvs, rfl, h1, rf⟩ := obj_of so1 r1 e1
      refine ⟨dx, fvs, a, rfl, h1, rf.lookup0 hl, goA hkw.mon re1 so1 p1 (fun us s2 zs H2 p2 f2 re2 r2 so2 => ⟨p2.1.1, by rw [r2.length]; exact p2.1.2, ?_⟩) fun _ _ q => postW.up f1 q⟩
      exact ⟨Z, _, s2, rel (.cons (r1.fut f2) .nil) r2, so2, p2.2.mon (fun _ _ q => post.up (f1.trans f2) q) fun _ _ q => postX.up (f1.trans f2) q⟩
    · exact p1.elim
  refine PySem.W.methodCall_KW (pl := pl) (thn (ho.pe.run pins sh σ H _ I h') ?_) ht
  rintro u s1 ⟨x, H1, I1, rx, dx, fs, a, rfl, ea, l, q⟩
  cases rx
  refine getmeth_ok I1 ea hcl hm l ?_
  refine PySem.W.callWith_KW0 (first := [.ref a]) (h₀ := X.base) I.ok.mod.kin hm.kp hall (thn (hkw.pk.run pos pins s1 σ H1 _ I1 q) ?_) hpl
  rintro ws s2 ⟨zs, H2, I2, rz, hn, hz, q2⟩
  rw [hks]
  exact ⟨I2.kIn, goKw (us := [.ref a]) (vs := [.ref a]) F (hr.mono hk) rfl b (pass_tk tk) I2 (Paired.cons rfl .nil) rz hn hz q2⟩
/-- C(k = v, ..) -/
def fMkK (fz : Bool) (n mm cc : Nat) (D : FD) (gT : List T → List T → List T) (A Ak : FA) : FE := fun τ s Q E => A τ s (fun ts s1 => Ak τ s1 (fun us s2 => (ts.length + 1 = n ∧ us.length = mm) ∧ ∀ x, s2.on x = none → cM D (gT (.cell x :: ts) us) (s2.put x (.obj cc [])) (doneM fz x Q) (fun er s3 => E er (s3.del x))) E) E
theorem mkK_go {fz : Bool} {Z : Addr → Prop} {σ : L2.St} {s s1 : S} {H H1 : Hp} {Q : VK} {vs zs : List V} {ts us : List T} (rel : KRel X.K cl gV gT) (f1 : Fut s H s1 H1) (r : Reps X.K cl Z s1 H1 vs ts) (rz : Reps X.K cl Z s1 H1 zs us) (so : Sto X.K cl Z s1 H1)
    (h : ∀ x, s1.on x = none → cM D (gT (.cell x :: ts) us) (s1.put x (.obj cc [])) (doneM fz x (post X.K cl Z s H Q)) (fun er s2 => postW X.K cl Z s H σ W er (s2.del x))) :
    ∀ x dx, H1 x = none → H1 dx = none → dx ≠ x → spM X.K cl D (gV (.ref x :: vs) zs) (upd (upd H1 dx (.own x)) x (.ins (cl cc) dx [])) (fun v H2 => v = .non ∧ Q (.ref x) H2) (fun cls d H' => W cls d σ H') := by
  intro x dx hx hdx ne
  have so2 := so.new (o := .own x) hdx
  have fu2 : Fut s1 H1 s1 (upd H1 dx (.own x)) := Fut.new hdx
  have hx2 : upd H1 dx (.own x) x = none := by rw [upd_ne (Ne.symm ne)]; exact hx
  have fu3 : Fut s1 (upd H1 dx (.own x)) (s1.put x (.obj cc [])) (upd (upd H1 dx (.own x)) x (.ins (cl cc) dx [])) := Fut.newC hx2
  have so3 : Sto X.K cl Z (s1.put x (.obj cc [])) (upd (upd H1 dx (.own x)) x (.ins (cl cc) dx [])) := so2.newC hx2 ⟨dx, [], upd_same, .nil⟩
  have fu : Fut s H (s1.put x (.obj cc [])) (upd (upd H1 dx (.own x)) x (.ins (cl cc) dx [])) := f1.trans (fu2.trans fu3)
  refine ⟨Z, gT (.cell x :: ts) us, s1.put x (.obj cc []), rel (.cons (.cell x) ((r.fut fu2).fut fu3)) ((rz.fut fu2).fut fu3), so3, (h x (on_none so hx)).mon (fun t s2 q => ?_) fun er s2 q => ?_⟩
  · obtain ⟨rfl, q⟩ := q
    intro v H2 f4 r4 so4
    cases r4
    refine ⟨rfl, ?_⟩
    cases fz with
    | false =>
      rw [if_neg Bool.false_ne_true] at q
      exact q _ _ (fu.trans f4) (.cell x) so4
    | true =>
      rw [if_pos rfl] at q
      split at q
      · rename_i c fs ho
        obtain ⟨dx2, fvs, h1, h2⟩ := so4.cells _ _ ho
        exact q _ _ (fu.trans (f4.trans (Fut.del _ _ x))) (.obj h1 (nomut_del so4 ho) (h2.fut (Fut.del _ _ x))) (so4.del x)
      · exact q.elim
  · intro d fvs H2 f4 hd2 m2 rf so4
    exact q d fvs H2 (fu.trans (f4.trans (Fut.del _ _ x))) hd2 ⟨fun m => m2.1 (mut_del m), m2.2⟩ (rf.fut (Fut.del _ _ x)) (so4.del x)
theorem makeKw {C : Addr} {pins : List (Addr × Obj)} {σ : L2.St} {H : Hp} {s : Shared} {Q : VK} {us ws : List Value} {vs zs : List V} (M : Mk X.K C f) (F : FnG X.prog X.w X.K X.mg X.base k f fd ps sp) (hr : Rm (k + 1) X.A) (hb : KBn X.K fd ps n ks g gV)
    (hx : PassAt X pins σ E) (I : Inv X pins σ H s) (r : Vals vs us) (rz : Vals zs ws) (l1 : vs.length + 1 = n) (l2 : zs.length = ks.length)
    (h : ∀ x dx, H x = none → H dx = none → dx ≠ x → sp (gV (.ref x :: vs) zs) (upd (upd H dx (.own x)) x (.ins C dx [])) (fun v H2 => v = .non ∧ Q (.ref x) H2) E) :
    wpAny (model X.prog X.w) X.A (call (.ref C) us (ks.zip ws)) (EP X pins σ Q) X.xe s := by
  have want := h (s.heap.objs.size + 1) s.heap.objs.size (I.hok.fresh (Nat.le_succ _)) (I.hok.fresh (Nat.le_refl _)) (Nat.ne_of_lt (Nat.lt_succ_self _))
  have I2 := Inv.made (C := C) I
  have r1 : Vals (V.ref (s.heap.objs.size + 1) :: vs) (Value.ref (s.heap.objs.size + 1) :: us) := Paired.cons rfl r
  refine wpAny_call (make_map (f := f) I.kIn M.makes M.init (beq_iff_eq.mp M.fn) (codeAny_mono (F.run _ X.stack _ _ ⟨Value.ref (s.heap.objs.size + 1) :: us, ks.zip ws⟩ (g (Value.ref (s.heap.objs.size + 1) :: us) ws) _ _ E (hr.make C us (ks.zip ws))
    (I2.env0.make C us (ks.zip ws)) (hb.to _ (Value.ref (s.heap.objs.size + 1) :: us) ws I2.kIn (by rw [List.length_cons, ← r.length]; exact l1) (rz.length.symm.trans l2)) (hb.rel r1 rz) want) ?_))
  intro res s' z
  match res, z with
  | .error e, z => exact hx _ _ e s' I2 z
  | .ok (.ret u), z =>
    obtain ⟨v, H', I3, rv, ev, q3⟩ := I2.after z
    subst ev
    exact ⟨rv, V.ref (s.heap.objs.size + 1), H', I3, rfl, q3⟩
  | .ok .next, z => exact False.elim z
  | .ok .brk, z => exact False.elim z
  | .ok .cont, z => exact False.elim z
theorem je_mkK0 (fz : Bool) (tk : Takes X W) (d : MakK X.prog X.w X.K X.mg X.base cl k x cc D n ks gT) (hr : Rm j X.A) (hk : k + 1 ≤ j) (hg : Gl X x) (hkw : JK X cl W kws Ak)
    (hall : (backToKw pos (keywordEach kws X.env)).all (·.1.isSome) = true := by rfl) (hks : (backToKw pos (keywordEach kws X.env)).filterMap (·.1) = ks := by rfl) (hdb : (x == ("__debug__" : Str)) = false := by decide)
    (hpl : ((backTo pos (starEach [] X.env)).any (·.1) || (backToKw pos (keywordEach kws X.env)).any (·.1.isNone)) = false := by rfl) :
    JE X cl W (.Call (.Name x p) [] kws pos) (fMkK fz n ks.length cc D gT fNil Ak) := by
  obtain ⟨f, fd, ps, g, gV, rel, M, F, hm, b⟩ := d.ex
  refine ⟨fun τ s Q Q' E E' hq he h => hkw.mon _ _ _ _ _ _ (fun us s1 h1 => ⟨h1.1, fun x hx => (h1.2 x hx).mon (fun _ _ q => q.mon hq) fun _ _ q => he _ _ q⟩) he h, ⟨fun pins sh σ H Q I h => ?_⟩⟩
  obtain ⟨Z, τ, s, re, so, h⟩ := h
  have h' : tTA X.K cl W Ak σ H fun zs H1 => 0 + 1 = n ∧ zs.length = ks.length ∧ ∀ x dx, H1 x = none → H1 dx = none → dx ≠ x → spM X.K cl D (gV (.ref x :: []) zs) (upd (upd H1 dx (.own x)) x (.ins (cl cc) dx [])) (fun v H2 => v = .non ∧ Q (.ref x) H2) (fun cls d H' => W cls d σ H') :=
    goA hkw.mon re so h (fun us s1 zs H1 p1 f1 re1 r1 so1 => ⟨p1.1.1, by rw [r1.length]; exact p1.1.2, mkK_go rel f1 .nil r1 so1 p1.2⟩) fun _ _ q => q
  refine wpAny_Call_Name_kw (ld_glob I hg hm ?_ hdb)
  refine PySem.W.callWith_KW0 (h₀ := X.base) I.ok.mod.kin M.kp hall (thn (hkw.pk.run pos pins sh σ H _ I h') ?_) hpl
  rintro ws s2 ⟨zs, H2, I2, rz, l1, l2, q2⟩
  rw [hks]
  exact ⟨I2.kIn, makeKw (us := []) (vs := []) M F (hr.mono hk) b (pass_tk tk) I2 .nil rz l1 l2 q2⟩
end
/-! how keywords bind, from the text -/
theorem _root_.C8.Fun.kbn {K : PySem.W.Frag} {x qual : Str} {st : Stmt} {f : Addr} {fd : FuncData} {n : Nat} {ps ks : List Str} {gV : List V → List V → List V} (g : List Value → List Value → List Value) (F : C8.Fun K x qual st f fd) (df : fd.defaults = .none)
    (h : ∀ (kV doc pm : Value) (an : Option Addr) (cdv ct : Value) (us ws : List Value), us.length = n → ws.length = ks.length → bindArgs (PySem.W.fnOf x qual (C8.fnArgs st) (C8.fnBody st) (C8.fnScope st) .none kV doc pm an cdv ct) ⟨us, ks.zip ws⟩ = pure (ps.zip (g us ws)))
    (rel : ∀ {vs : List V} {us : List Value} {zs : List V} {ws : List Value}, Vals vs us → Vals zs ws → Vals (gV vs zs) (g us ws)) : KBn K fd ps n ks g gV := by
  obtain ⟨oc, od, dV, kV, doc, pm, an, cdv, ct, osl, rfl, lk, hcd⟩ := F.ex
  have e : dV = .none := df
  subst e
  exact ⟨fun s us ws _ l1 l2 => BindsTo.of_eq (h kV doc pm an cdv ct us ws l1 l2), rel⟩
theorem valsD {vs : List V} {us : List Value} : ∀ (i : Nat), Vals vs us → RelV (vs.getD i .non) (us.getD i .none) := by
  intro i r
  induction r generalizing i with
  | nil => simp; rfl
  | cons h _ ih =>
    cases i with
    | zero => exact h
    | succ i => exact ih i
end Mr

/-! The mirror layer: use. -/
namespace Mr
open PySem PySem.Spec PyProof.Rows L2 Tw
/-! what simp does not go into: continuations, as instances -/
class Bx (α : Type) where
  v : α
def hM (D : FD) (ts : List T) (s : S) [q : Bx KT] [e : Bx KX] : Prop := cM D ts s q.v e.v
theorem hold_cM {D : FD} {ts : List T} {s : S} {Q : KT} {E : KX} : cM D ts s Q E = @hM D ts s ⟨Q⟩ ⟨E⟩ := rfl
theorem hM.of {D : FD} {ts : List T} {s : S} {Q : KT} {E : KX} (h : D ts s Q E) : @hM D ts s ⟨Q⟩ ⟨E⟩ := cM.of h
theorem hM.to {D : FD} {ts : List T} {s : S} {Q : KT} {E : KX} (h : cM D ts s Q E) : @hM D ts s ⟨Q⟩ ⟨E⟩ := h
def hIte (b : Bool) [x : Bx Prop] [y : Bx Prop] : Prop := if b = true then x.v else y.v
theorem hold_ite {b : Bool} {A B : Prop} : (if b = true then A else B) = @hIte b ⟨A⟩ ⟨B⟩ := rfl
theorem hIte_true {A B : Prop} : @hIte true ⟨A⟩ ⟨B⟩ = A := by unfold hIte; exact if_pos rfl
theorem hIte_false {A B : Prop} : @hIte false ⟨A⟩ ⟨B⟩ = B := by unfold hIte; exact if_neg Bool.false_ne_true
theorem hIte.by {b : Bool} {A B : Prop} (h1 : b = true → A) (h2 : b = false → B) : @hIte b ⟨A⟩ ⟨B⟩ := w_bool h1 h2
def hFor (ok : S → Prop) (g : FG) (ts : List T) (τ : Env) (s : S) [B : Bx FS] [D : Bx DS] : Prop := forT ok g B.v ts τ s D.v
theorem hold_for {ok : S → Prop} {g : FG} {B : FS} {ts : List T} {τ : Env} {s : S} {D : DS} : forT ok g B ts τ s D = @hFor ok g ts τ s ⟨B⟩ ⟨D⟩ := rfl
def hLc (ok : S → Prop) (g : FG) (τ : Env) (ts acc : List T) (s : S) [tt : Bx FT] [te : Bx FE] [Q : Bx (List T → S → Prop)] : Prop := lcT ok g tt.v te.v τ ts acc s Q.v
theorem hold_lc {ok : S → Prop} {g : FG} {tt : FT} {te : FE} {τ : Env} {ts acc : List T} {s : S} {Q : List T → S → Prop} : lcT ok g tt te τ ts acc s Q = @hLc ok g τ ts acc s ⟨tt⟩ ⟨te⟩ ⟨Q⟩ := rfl
def hWh (τ : Env) (s : S) [G : Bx FT] [B : Bx FS] [D : Bx DS] : Prop := fWhile G.v B.v τ s D.v
theorem hold_wh {G : FT} {B : FS} {τ : Env} {s : S} {D : DS} : fWhile G B τ s D = @hWh τ s ⟨G⟩ ⟨B⟩ ⟨D⟩ := rfl
section
variable {s : S} {Q : Bool → Prop}
theorem onB_bl {b : Bool} : onB s (.bl b) Q = Q b := by simp [onB, truO]
theorem onB_non : onB s .non Q = Q false := by simp [onB, truO]
theorem onB_int {i : Int} : onB s (.int i) Q = Q (i != 0) := by simp [onB, truO]
theorem onB_str {z : Str} : onB s (.str z) Q = (z.length ≤ 1000000 ∧ Q ((z.length : Int) != 0)) := by simp [onB, truO]
theorem onB_lst {xs : List T} : onB s (.lst xs) Q = Q (!xs.isEmpty) := by simp [onB, truO]
theorem onB_tup {xs : List T} : onB s (.tup xs) Q = Q (!xs.isEmpty) := by simp [onB, truO]
theorem onB_dct {xs : List (Key × T)} : onB s (.dct xs) Q = Q (!xs.isEmpty) := by simp [onB, truO]
end
section
variable {ok : S → Prop} {g : FG} {B : FS} {tt : FT} {te : FE} {τ : Env} {s : S} {D : DS} {Q : List T → S → Prop} {i : Nat} {ts acc : List T} {G : FT}
/-- [f(x) for x in ts], nothing changes -/
theorem lc_map (f : T → T) (h : ∀ t ∈ ts, ∀ Q : KT, Q (f t) s → te (τ.set i (some t)) s Q noX) (hl : acc.length + ts.length ≤ 1000000) (k : Q (acc ++ ts.map f) s) (ho : ok s) : lcT ok (gN i) fYes te τ ts acc s Q := by
  induction ts generalizing acc with
  | nil => exact ⟨ho, by simpa using k⟩
  | cons t ts ih =>
    rw [List.length_cons] at hl
    refine ⟨ho, by omega, ?_⟩
    show (if true = true then te (τ.set i (some t)) s (fun y s3 => lcT ok (gN i) fYes te τ ts (acc ++ [y]) s3 Q) noX else lcT ok (gN i) fYes te τ ts acc s Q)
    refine w_T (h t List.mem_cons_self _ ?_)
    refine ih (fun t ht => h t (List.mem_cons_of_mem _ ht)) (by simp; omega) ?_
    simpa using k
/-- [f(x) for x in ts if p(x)], nothing changes -/
theorem lc_filter (p : T → Bool) (f : T → T) (hp : ∀ t ∈ ts, ∀ Q : Bool → S → Prop, Q (p t) s → tt (τ.set i (some t)) s Q noX) (h : ∀ t ∈ ts, p t = true → ∀ Q : KT, Q (f t) s → te (τ.set i (some t)) s Q noX)
    (hl : acc.length + ts.length ≤ 1000000) (k : Q (acc ++ (ts.filter p).map f) s) (ho : ok s) : lcT ok (gN i) tt te τ ts acc s Q := by
  induction ts generalizing acc with
  | nil => exact ⟨ho, by simpa using k⟩
  | cons t ts ih =>
    rw [List.length_cons] at hl
    refine ⟨ho, by omega, ?_⟩
    refine hp t List.mem_cons_self _ ?_
    by_cases c : p t = true
    · rw [c]
      refine w_T (h t List.mem_cons_self c _ ?_)
      refine ih (fun t ht => hp t (List.mem_cons_of_mem _ ht)) (fun t ht => h t (List.mem_cons_of_mem _ ht)) (by simp; omega) ?_
      simpa [List.filter_cons, c] using k
    · rw [Bool.not_eq_true] at c
      rw [c]
      refine w_F (ih (fun t ht => hp t (List.mem_cons_of_mem _ ht)) (fun t ht => h t (List.mem_cons_of_mem _ ht)) (by omega) ?_)
      simpa [List.filter_cons, c] using k
/-- .. by what holds at each turn: behind the items pre, the list so far, the state -/
theorem lc_inv (I : List T → List T → S → Prop) {all : List T} (h0 : I [] acc s) (ho : ∀ pre a s, I pre a s → ok s) (hl : acc.length + all.length ≤ 1000000)
    (hs : ∀ pre t post a s, all = pre ++ t :: post → I pre a s → a.length ≤ acc.length + pre.length → g t τ s fun τ1 s1 => tt τ1 s1 (fun b s2 => if b = true then te τ1 s2 (fun y s3 => I (pre ++ [t]) (a ++ [y]) s3) noX else I (pre ++ [t]) a s2) noX)
    (mg : ∀ t τ s (Q Q' : Env → S → Prop), (∀ τ s, Q τ s → Q' τ s) → g t τ s Q → g t τ s Q') (mt : MonT tt) (me : MonE te) (hd : ∀ a s, I all a s → Q a s) : lcT ok g tt te τ all acc s Q := by
  have main : ∀ (post pre a : List T) (s : S), all = pre ++ post → I pre a s → a.length ≤ acc.length + pre.length → lcT ok g tt te τ post a s Q := by
    intro post
    induction post with
    | nil =>
      intro pre a s e h _
      rw [List.append_nil] at e
      exact ⟨ho _ _ _ h, hd _ _ (by rw [e]; exact h)⟩
    | cons t post ih =>
      intro pre a s e h ha
      have le : all.length = pre.length + (post.length + 1) := by rw [e, List.length_append, List.length_cons]
      have e2 : all = (pre ++ [t]) ++ post := by rw [e, List.append_assoc]; rfl
      refine ⟨ho _ _ _ h, by omega, mg _ _ _ _ _ (fun τ1 s1 q => mt _ _ _ _ _ _ (fun b s2 q => ?_) (fun _ _ q => q) q) (hs pre t post a s e h ha)⟩
      cases b with
      | true =>
        rw [if_pos rfl] at q
        refine w_T (me _ _ _ _ _ _ (fun y s3 q3 => ih (pre ++ [t]) (a ++ [y]) s3 e2 q3 (by simp; omega)) (fun _ _ q => q) q)
      | false =>
        rw [if_neg Bool.false_ne_true] at q
        exact w_F (ih (pre ++ [t]) a s2 e2 q (by simp; omega))
  exact main all [] acc s rfl h0 (by simp)
/-- for x in all: by what holds at each turn -/
theorem for_inv (I : List T → Env → S → Prop) {all : List T} (h0 : I [] τ s) (ho : ∀ pre τ s, I pre τ s → ok s)
    (hs : ∀ pre t post τ s, all = pre ++ t :: post → I pre τ s → g t τ s fun τ1 s1 => B τ1 s1 ⟨fun τ2 s2 => I (pre ++ [t]) τ2 s2, D.rt, D.nx, fun τ2 s2 => I (pre ++ [t]) τ2 s2, D.xr⟩)
    (mg : ∀ t τ s (Q Q' : Env → S → Prop), (∀ τ s, Q τ s → Q' τ s) → g t τ s Q → g t τ s Q') (mB : MonS B) (hd : ∀ τ s, I all τ s → D.nx τ s) : forT ok g B all τ s D := by
  have main : ∀ (post pre : List T) (τ : Env) (s : S), all = pre ++ post → I pre τ s → forT ok g B post τ s D := by
    intro post
    induction post with
    | nil =>
      intro pre τ s e h
      rw [List.append_nil] at e
      exact ⟨ho _ _ _ h, hd _ _ (by rw [e]; exact h)⟩
    | cons t post ih =>
      intro pre τ s e h
      have e2 : all = (pre ++ [t]) ++ post := by rw [e, List.append_assoc]; rfl
      refine ⟨ho _ _ _ h, mg _ _ _ _ _ (fun τ1 s1 q => ?_) (hs pre t post τ s e h)⟩
      refine mB _ _ _ _ ?_ q
      exact ⟨fun τ2 s2 q => ih _ _ _ e2 q, fun _ _ q => q, fun _ _ q => q, fun τ2 s2 q => ih _ _ _ e2 q, fun _ _ _ q => q⟩
  exact main all [] τ s rfl h0
/-- for x in all, the turn given for every end (no monotony asked) -/
theorem for_ind (I : List T → List T → Env → S → Prop) {all : List T} (h0 : I [] all τ s) (ho : ∀ pre post τ s, I pre post τ s → ok s)
    (hs : ∀ pre t post τ s (N : Env → S → Prop), all = pre ++ t :: post → I pre (t :: post) τ s → (∀ τ2 s2, I (pre ++ [t]) post τ2 s2 → N τ2 s2) → g t τ s fun τ1 s1 => B τ1 s1 ⟨N, D.rt, D.nx, N, D.xr⟩)
    (hd : ∀ τ s, I all [] τ s → D.nx τ s) : forT ok g B all τ s D := by
  have main : ∀ (post pre : List T) (τ : Env) (s : S), all = pre ++ post → I pre post τ s → forT ok g B post τ s D := by
    intro post
    induction post with
    | nil =>
      intro pre τ s e h
      rw [List.append_nil] at e
      exact ⟨ho _ _ _ _ h, hd _ _ (by rw [e]; exact h)⟩
    | cons t post ih =>
      intro pre τ s e h
      have e2 : all = (pre ++ [t]) ++ post := by rw [e, List.append_assoc]; rfl
      exact ⟨ho _ _ _ _ h, hs pre t post τ s _ e h fun τ2 s2 q => ih _ _ _ e2 q⟩
  exact main all [] τ s rfl h0
/-- a comprehension, the turn given for every end -/
theorem lc_ind (I : List T → List T → List T → S → Prop) {all : List T} (h0 : I [] all acc s) (ho : ∀ pre post a s, I pre post a s → ok s) (hl : acc.length + all.length ≤ 1000000)
    (hs : ∀ pre t post a s (N : List T → S → Prop), all = pre ++ t :: post → I pre (t :: post) a s → (∀ a2 s2, I (pre ++ [t]) post a2 s2 → N a2 s2) → g t τ s fun τ1 s1 => tt τ1 s1 (fun b s2 => if b = true then te τ1 s2 (fun y s3 => N (a ++ [y]) s3) noX else N a s2) noX)
    (hb : ∀ pre post a s, I pre post a s → a.length ≤ acc.length + pre.length) (hd : ∀ a s, I all [] a s → Q a s) : lcT ok g tt te τ all acc s Q := by
  have main : ∀ (post pre a : List T) (s : S), all = pre ++ post → I pre post a s → lcT ok g tt te τ post a s Q := by
    intro post
    induction post with
    | nil =>
      intro pre a s e h
      rw [List.append_nil] at e
      exact ⟨ho _ _ _ _ h, hd _ _ (by rw [e]; exact h)⟩
    | cons t post ih =>
      intro pre a s e h
      have le : all.length = pre.length + (post.length + 1) := by rw [e, List.length_append, List.length_cons]
      have := hb _ _ _ _ h
      have e2 : all = (pre ++ [t]) ++ post := by rw [e, List.append_assoc]; rfl
      exact ⟨ho _ _ _ _ h, by omega, hs pre t post a s (fun a2 s2 => lcT ok g tt te τ post a2 s2 Q) e h fun a2 s2 q => ih _ _ _ e2 q⟩
  exact main all [] acc s rfl h0
/-- while: a measure -/
theorem while_ind (I : Env → S → Prop) (ms : Env → S → Nat) (h0 : I τ s)
    (hs : ∀ τ s (N : Env → S → Prop), I τ s → (∀ τ2 s2, I τ2 s2 → ms τ2 s2 < ms τ s → N τ2 s2) → G τ s (fun b s1 => if b = true then B τ s1 ⟨N, D.rt, D.nx, N, D.xr⟩ else D.nx τ s1) (xk τ D)) : fWhile G B τ s D := by
  have main : ∀ (m : Nat) (τ : Env) (s : S), I τ s → ms τ s < m → whT G B m τ s D := by
    intro m
    induction m with
    | zero => intro τ s _ h; exact absurd h (Nat.not_lt_zero _)
    | succ m ih =>
      intro τ s h hm
      exact hs τ s (fun τ2 s2 => whT G B m τ2 s2 D) h fun τ2 s2 h2 lt => ih τ2 s2 h2 (by omega)
  exact ⟨ms τ s + 1, main _ τ s h0 (Nat.lt_succ_self _)⟩
theorem rng_get {lo : Int} {n : Nat} {pre post : List T} {t : T} (e : rng lo n = pre ++ t :: post) : t = .int (lo + pre.length) ∧ pre.length < n := by
  have h1 : (rng lo n)[pre.length]? = some t := by
    rw [e, List.getElem?_append_right (Nat.le_refl _), Nat.sub_self]
    rfl
  unfold rng at h1
  rw [List.getElem?_map] at h1
  obtain ⟨c, e1, e2⟩ := Option.map_eq_some_iff.mp h1
  have hlt : pre.length < n := by
    have := (List.getElem?_eq_some_iff.mp e1).1
    rw [List.length_range] at this
    exact this
  rw [List.getElem?_range hlt] at e1
  cases e1
  exact ⟨e2.symm, hlt⟩
theorem rng_len (lo : Int) (n : Nat) : (rng lo n).length = n := by unfold rng; rw [List.length_map, List.length_range]
end
theorem use_drawH {s : S} {many : Int} {Q : KT} {E : KX} (h1 : 1 ≤ many) (h2 : many ≤ 1000000000000) (h3 : s.pen ≤ 1000000) (h : ∀ k : Int, 0 ≤ k → k < many → Q (.int k) (s.pn (s.pen + 1))) : @hM drawF [.pen, .int many] s ⟨Q⟩ ⟨E⟩ := use_draw h1 h2 h3 h
theorem dec_ite {b : Bool} {A B : Prop} (h1 : b = true → A) (h2 : b = false → B) : if b = true then A else B := w_bool h1 h2
end Mr

/-! The mirror layer: data that are compared and shown. -/
namespace Mr
open PySem PySem.Spec PyProof.Rows L2 Tw
mutual
/-- data of a tame kind -/
def niceD : PyData → Bool
  | .none | .bool _ => true
  | .int i => decide (i.natAbs < 10 ^ 100)
  | .str z => z.cps.all (· < 0x110000) && decide (z.length ≤ 1000)
  | .list xs | .tuple xs => niceAll xs
  | .dict _ => false
def niceAll : List PyData → Bool
  | [] => true
  | x :: xs => niceD x && niceAll xs
end
mutual
/-- how long it is, shown, at most -/
def wD : PyData → Nat
  | .none | .bool _ => 5
  | .int _ => 101
  | .str z => 10 * z.length + 2
  | .list xs | .tuple xs => wAll xs + 5
  | .dict _ => 0
def wAll : List PyData → Nat
  | [] => 0
  | x :: xs => wD x + 2 + wAll xs
end
theorem text_le {ts : List Str} : ∀ (k : Nat) (acc : Str), (textFrom k acc ts).length ≤ acc.length + piled ts := by
  induction ts with
  | nil => intro k acc; exact Nat.le_add_right _ _
  | cons t r ih =>
    intro k acc
    have h := ih (k + 1) (acc ++ (if k > 0 then ", " else "" : String) ++ t)
    refine Nat.le_trans h ?_
    rw [Str.length_append, Str.length_append]
    have e : (Str.ofString (if k > 0 then ", " else "")).length ≤ 2 := by
      split
      · exact Nat.le_refl 2
      · exact Nat.zero_le 2
    have e2 : piled (t :: r) = t.length + 2 + piled r := by simp [piled]
    omega
theorem listText_le (ts : List Str) : (listText ts).length ≤ piled ts + 2 := by
  unfold listText
  rw [Str.length_append]
  have := text_le (ts := ts) 0 "["
  have e1 : (Str.ofString "[").length = 1 := rfl
  have e2 : (Str.ofString "]").length = 1 := rfl
  omega
theorem tupleText_le (ts : List Str) : (tupleText ts).length ≤ piled ts + 3 := by
  unfold tupleText
  rw [Str.length_append, Str.length_append]
  have e1 : (Str.ofString "(").length = 1 := rfl
  have e2 : (Str.ofString (if (ts.length == 1) = true then ",)" else ")")).length ≤ 2 := by
    split
    · exact Nat.le_refl 2
    · exact Nat.le_succ 1
  cases ts with
  | nil =>
    have e3 : (Str.join ", " []).length = 0 := rfl
    omega
  | cons t r =>
    have := join_length_add (t :: r) (by simp)
    omega
mutual
theorem nice_show : ∀ d : PyData, niceD d = true → d.showable = true ∧ d.canLay0 = true ∧ d.shown.length ≤ wD d
  | .none, _ => ⟨by simp [PyData.showable], by simp [PyData.canLay0], by rw [PyData.shown, wD]; decide⟩
  | .bool b, _ => ⟨by simp [PyData.showable], by simp [PyData.canLay0], by rw [PyData.shown, wD]; cases b <;> decide⟩
  | .int i, h => by
    rw [niceD] at h
    have h := of_decide_eq_true h
    refine ⟨?_, by simp [PyData.canLay0], ?_⟩
    · rw [PyData.showable]
      refine decide_eq_true ?_
      by_cases z : i.natAbs = 0
      · rw [z]; decide
      · exact Nat.lt_trans ((Nat.log2_lt z).mpr (Nat.lt_trans h (show 10 ^ 100 < 2 ^ 333 by decide +kernel))) (by decide)
    · rw [PyData.shown, wD]
      show (Str.ofString (toString i)).length ≤ 101
      rw [PySem.ofString_length]
      exact int_text_length_le10 (k := 100) (by decide) h
  | .str z, h => by
    rw [niceD, Bool.and_eq_true] at h
    refine ⟨by simp [PyData.showable], ?_, ?_⟩
    · rw [PyData.canLay0]
      exact h.1
    · rw [PyData.shown, wD]
      refine PySem.StrLaws.reprText_len z fun c hc => ?_
      have := Array.all_eq_true_iff_forall_mem.mp h.1 c (by simpa using hc)
      have := of_decide_eq_true this
      omega
  | .list xs, h => by
    rw [niceD] at h
    obtain ⟨h1, h2, h3⟩ := nice_all xs h
    refine ⟨by rw [PyData.showable]; exact h1, by rw [PyData.canLay0]; exact h2, ?_⟩
    rw [PyData.shown, wD]
    have := listText_le (PyData.shownAll xs)
    omega
  | .tuple xs, h => by
    rw [niceD] at h
    obtain ⟨h1, h2, h3⟩ := nice_all xs h
    refine ⟨by rw [PyData.showable]; exact h1, by rw [PyData.canLay0]; exact h2, ?_⟩
    rw [PyData.shown, wD]
    have := tupleText_le (PyData.shownAll xs)
    omega
  | .dict _, h => by rw [niceD] at h; cases h
theorem nice_all : ∀ ds : List PyData, niceAll ds = true → PyData.showableAll ds = true ∧ PyData.canLayAll0 ds = true ∧ piled (PyData.shownAll ds) ≤ wAll ds
  | [], _ => ⟨by simp [PyData.showableAll], by simp [PyData.canLayAll0], by rw [PyData.shownAll]; exact Nat.zero_le _⟩
  | d :: ds, h => by
    rw [niceAll, Bool.and_eq_true] at h
    obtain ⟨a1, a2, a3⟩ := nice_show d h.1
    obtain ⟨b1, b2, b3⟩ := nice_all ds h.2
    refine ⟨by rw [PyData.showableAll, a1, b1]; rfl, by rw [PyData.canLayAll0, a2, b2]; rfl, ?_⟩
    rw [PyData.shownAll, wAll]
    have e2 : piled (d.shown :: PyData.shownAll ds) = d.shown.length + 2 + piled (PyData.shownAll ds) := by simp [piled]
    omega
end
/-- for repr -/
theorem rp {d : PyData} (h : niceD d = true) (h1 : d.depth ≤ 60) (h2 : wD d ≤ 1000000) : d.showable = true ∧ d.depth ≤ 60 ∧ d.shown.length ≤ 1000000 := ⟨(nice_show d h).1, h1, Nat.le_trans (nice_show d h).2.2 h2⟩
/-- for == -/
theorem sh {d : PyData} (h : niceD d = true) (h1 : d.depth ≤ 64) : SeqAt.shaped d = true := by
  unfold SeqAt.shaped
  rw [(nice_show d h).2.1, decide_eq_true h1]
  rfl
theorem eqv_self {d : PyData} (h : niceD d = true) : PyData.eqv d d = true := PySem.SeqAt.eqv_refl d (nice_show d h).2.1
theorem eqvAll_self {d : List PyData} (h : niceAll d = true) : PyData.eqvAll d d = true := PySem.SeqAt.eqvAll_refl d (nice_all d h).2.1
section
variable {α : Type} {a b c d e : α} {xs : List α}
theorem atI_0 : L2.atI (a :: xs) 0 = some a := by
  unfold L2.atI L2.ixN
  rw [if_pos (Int.le_refl 0), if_pos (by rw [List.length_cons]; omega)]
  rfl
theorem atI_1 : L2.atI (a :: b :: xs) 1 = some b := by
  unfold L2.atI L2.ixN
  rw [if_pos (by decide), if_pos (by rw [List.length_cons, List.length_cons]; omega)]
  rfl
theorem atI_2 : L2.atI (a :: b :: c :: xs) 2 = some c := by
  unfold L2.atI L2.ixN
  rw [if_pos (by decide), if_pos (by rw [List.length_cons, List.length_cons, List.length_cons]; omega)]
  rfl
theorem atI_3 : L2.atI (a :: b :: c :: d :: xs) 3 = some d := by
  unfold L2.atI L2.ixN
  rw [if_pos (by decide), if_pos (by rw [List.length_cons, List.length_cons, List.length_cons, List.length_cons]; omega)]
  rfl
theorem atI_4 : L2.atI (a :: b :: c :: d :: e :: xs) 4 = some e := by
  unfold L2.atI L2.ixN
  rw [if_pos (by decide), if_pos (by rw [List.length_cons, List.length_cons, List.length_cons, List.length_cons, List.length_cons]; omega)]
  rfl
theorem atI_mem {k : Int} (h0 : 0 ≤ k) (h1 : k < xs.length) : ∃ t, L2.atI xs k = some t ∧ t ∈ xs := by
  have hj : k.toNat < xs.length := by omega
  refine ⟨xs[k.toNat], ?_, List.getElem_mem hj⟩
  unfold L2.atI L2.ixN
  rw [if_pos h0, if_pos h1]
  exact List.getElem?_eq_getElem hj
end
/-- the law's body: its first statement, then the rest in the mirror -/
theorem law_body {X : Cx} {cl : Nat → Addr} {W : WX} {st : Stmt} {rest : List Stmt} {B : FS} {tA : TA} {N : List Str} {a : Addr} {ns : List Int} {H : Hp} {Q : VK} (p1 : PS X st (tAsg (tCW (spPenX X.K) [] W tA) (gName 1))) (j : JSs X cl W rest B)
    (hN : 2 ≤ N.length) (hA : ∀ σ H Q', σ[0]? = some (some (.ref a)) → Q' [.ref a] H → tA σ H Q') (hS : SqL X.K H a (ns.map V.int)) (hl : ns.length ≤ 63) (q : ∀ H', Q (.bl true) H')
    (hB : ∀ a p : Addr, B (some (.cell a) :: some .pen :: List.replicate (N.length - 2) none) (s0 p) lawEnds) : ∃ t, PSs X (st :: rest) t ∧ t { nx := fun _ H' => Q .non H', rt := Q } (L2.start N [.ref a]) H :=
  ⟨_, pss_cons p1 j.pss, hA _ _ _ rfl ⟨a, ns, rfl, hS, hl, law_go hN j.mon hB hl q⟩⟩
/-- the rows of the combinators, made once -/
theorem rows_made : True := by
  have := @Mr.startT.eq_1
  have := @Mr.endsM.eq_1
  have := @Mr.lawEnds.eq_1
  have := @Mr.fSeq.eq_1
  have := @Mr.fSkip.eq_1
  have := @Mr.fRet.eq_1
  have := @Mr.fRetN.eq_1
  have := @Mr.fRetF.eq_1
  have := @Mr.fDrop.eq_1
  have := @Mr.fSet.eq_1
  have := @Mr.fAsg.eq_1
  have := @Mr.fPar.eq_1
  have := @Mr.fFldS.eq_1
  have := @Mr.fIfS.eq_1
  have := @Mr.fRaise.eq_1
  have := @Mr.fTry.eq_1
  have := @Mr.fBrk.eq_1
  have := @Mr.fCnt.eq_1
  have := @Mr.gN.eq_1
  have := @Mr.gT.eq_1
  have := @Mr.gsNil.eq_1
  have := @Mr.gsCons.eq_1
  have := @Mr.fVar.eq_1
  have := @Mr.fC.eq_1
  have := @Mr.f2.eq_1
  have := @Mr.f3.eq_1
  have := @Mr.g2.eq_1
  have := @Mr.kB.eq_1
  have := @Mr.fTest.eq_1
  have := @Mr.fTru.eq_1
  have := @Mr.fAnd.eq_1
  have := @Mr.fOr.eq_1
  have := @Mr.fNot.eq_1
  have := @Mr.fAndV.eq_1
  have := @Mr.fOrV.eq_1
  have := @Mr.fNotV.eq_1
  have := @Mr.fIf.eq_1
  have := @Mr.fUn.eq_1
  have := @Mr.onO.eq_1
  have := @Mr.fNil.eq_1
  have := @Mr.fCons.eq_1
  have := @Mr.fLst.eq_1
  have := @Mr.fTup.eq_1
  have := @Mr.fLstC.eq_1
  have := @Mr.fDct0.eq_1
  have := @Mr.fCB.eq_1
  have := @Mr.fCall.eq_1
  have := @Mr.fMk.eq_1
  have := @Mr.fMkK.eq_1
  have := @Mr.fMt.eq_1
  have := @Mr.fMtK.eq_1
  have := @Mr.fErr.eq_1
  have := @Mr.fStrO.eq_1
  have := @Mr.fJs.eq_1
  have := @Mr.jsT.eq_1
  have := @Mr.fSl.eq_1
  have := @Mr.oNone.eq_1
  have := @Mr.oSome.eq_1
  have := @Mr.fLM.eq_1
  have := @Mr.onL.eq_1
  have := @Mr.fLc.eq_1
  have := @Mr.fYes.eq_1
  have := @Mr.iSeq.eq_1
  have := @Mr.iRange1.eq_1
  have := @Mr.iRange2.eq_1
  have := @Mr.fFor.eq_1
  have := @Mr.doneM.eq_1
  have := @Mr.gEqOwn.eq_1
  have := @Mr.gNeOwn.eq_1
  trivial
end Mr

/-! The mirror layer: the end. -/
namespace Mr
open PySem PySem.Spec PyProof.Rows L2 Tw
section
variable {K : PySem.W.Frag} {x qual : Str} {params : Arguments} {body : List Stmt} {scope : Scope} {dvs : List V} {kws : List (Str × V)} {f : Addr} {fd : FuncData} {ps : List Str}
/-- keywords, where some parameters have defaults -/
theorem kbn1 (F : FunD K x qual params body scope dvs kws f fd) (n : Nat) (ks : List Str) (g : List Value → List Value → List Value → List Value) (gV : List V → List V → List V) (hd : dvs ≠ [])
    (h : ∀ (T : Addr) (kV doc pm : Value) (an : Option Addr) (cdv ct : Value) (us its ws : List Value), us.length = n → its.length = dvs.length → ws.length = ks.length →
      ∃ k, bindArgs (PySem.W.fnOf x qual params body scope (.ref T) kV doc pm an cdv ct) ⟨us, ks.zip ws⟩ = seqItems? (.ref T) >>= k ∧ k (some its.toArray) = pure (ps.zip (g us its ws)))
    (rel : ∀ {vs : List V} {us its : List Value} {zs : List V} {ws : List Value}, Vals vs us → Vals dvs its → Vals zs ws → Vals (gV vs zs) (g us its ws)) : ∃ g', KBn K fd ps n ks g' gV := by
  obtain ⟨oc, od, dV, kV, doc, pm, an, cdv, ct, osl, rfl, lk, hcd, hD, hK⟩ := F.ex
  rcases hD with ⟨e, _⟩ | ⟨_, T, o, its, m, rfl, lT, oT, rT⟩
  · exact absurd e hd
  · refine ⟨fun us ws => g us its ws, fun s us ws X l1 l2 => ?_, fun r1 r2 => rel r1 rT r2⟩
    obtain ⟨k, e1, e2⟩ := h T kV doc pm an cdv ct us its ws l1 rT.length.symm l2
    refine BindsTo.of_looks fun M => ?_
    rw [e1]
    exact looks_items X lT oT (.of_pure e2)
end
/-- an own error's class, by one look at the rest -/
def oexB (K : PySem.W.Frag) (C : Addr) : Bool := decide (PySem.W.findIn K (.ref C) "__setattr__" = some (some (.builtin "object.__setattr__"))) && (decide (PySem.W.subIn K (.ref C) (.type "BaseException") = some true) && (decide (PySem.W.typeIn K (.ref C) = some (.type "type")) && PySem.W.keepIn K (.ref C)))
theorem oexB_ok {K : PySem.W.Frag} {C : Addr} (hc : ∃ nm q N bs bm sn sub ab col dd k0 k1 k2 k3 k5, K.lookup C = some (excClassObj nm q C N bs bm true sn sub ab col dd k0 k1 k2 k3 k5 "ValueError.__new__") ∧ PySem.HandSPX.refsVE bm = true) (h : oexB K C = true) : OexC K C := by
  obtain ⟨h1, h⟩ := Bool.and_eq_true_iff.mp h
  obtain ⟨h2, h⟩ := Bool.and_eq_true_iff.mp h
  obtain ⟨h3, h4⟩ := Bool.and_eq_true_iff.mp h
  exact ⟨hc, of_decide_eq_true h1, of_decide_eq_true h2, of_decide_eq_true h3, h4⟩
/-- what is asked of a def's object at one look -/
def fnB (K : PySem.W.Frag) (f : Addr) : Bool := PySem.W.isFn K (.ref f) && PySem.W.keepIn K (.ref f)
end Mr

/-! The mirror layer: data with dicts, shown. -/
namespace Mr
open PySem PySem.Spec PyProof.Rows L2 Tw
def kD : Key → PyData
  | .inl i => .int i
  | .inr x => .str x
mutual
def T.datX : T → Option PyData
  | .non => some .none
  | .bl b => some (.bool b)
  | .int i => some (.int i)
  | .str z => some (.str z)
  | .lst xs => (datsX xs).map .list
  | .tup xs => (datsX xs).map .tuple
  | .dct kvs => (datsK kvs).map .dict
  | _ => none
def datsX : List T → Option (List PyData)
  | [] => some []
  | x :: xs => match x.datX, datsX xs with | some d, some ds => some (d :: ds) | _, _ => none
def datsK : List (Key × T) → Option (List (PyData × PyData))
  | [] => some []
  | (k, x) :: xs => match x.datX, datsK xs with | some d, some ds => some ((kD k, d) :: ds) | _, _ => none
end
def S.datX (s : S) (t : T) : Option PyData :=
  match t with
  | .cell a => match s.on a with | some (.lst xs) => (datsX xs).map .list | _ => none
  | t => t.datX
mutual
/-- the value is the datum; lists and dicts of it are tracked -/
inductive DpX (K : PySem.W.Frag) (H : Hp) : V → PyData → Prop
  | non : DpX K H .non .none
  | bl (b : Bool) : DpX K H (.bl b) (.bool b)
  | int (i : Int) : DpX K H (.int i) (.int i)
  | str (x : Str) : DpX K H (.str x) (.str x)
  | lst {a : Addr} {xs : List V} {ds : List PyData} : H a = some (.lst xs) → DpXs K H xs ds → DpX K H (.ref a) (.list ds)
  | tup {a : Addr} {xs : List V} {ds : List PyData} : SqT K H a xs → DpXs K H xs ds → DpX K H (.ref a) (.tuple ds)
  | dct {a : Addr} {kvv : List (Key × V)} {ds : List (PyData × PyData)} : H a = some (.dK kvv) → DpXk K H kvv ds → DpX K H (.ref a) (.dict ds)
inductive DpXs (K : PySem.W.Frag) (H : Hp) : List V → List PyData → Prop
  | nil : DpXs K H [] []
  | cons {v : V} {vs : List V} {d : PyData} {ds : List PyData} : DpX K H v d → DpXs K H vs ds → DpXs K H (v :: vs) (d :: ds)
inductive DpXk (K : PySem.W.Frag) (H : Hp) : List (Key × V) → List (PyData × PyData) → Prop
  | nil : DpXk K H [] []
  | cons {k : Key} {v : V} {vs : List (Key × V)} {d : PyData} {ds : List (PyData × PyData)} : DpX K H v d → DpXk K H vs ds → DpXk K H ((k, v) :: vs) ((kD k, d) :: ds)
end
mutual
/-- no list in it -/
def noList : PyData → Bool
  | .none | .bool _ | .int _ | .str _ => true
  | .list _ => false
  | .tuple xs => noLists xs
  | .dict kvs => noListK kvs
def noLists : List PyData → Bool
  | [] => true
  | x :: xs => noList x && noLists xs
def noListK : List (PyData × PyData) → Bool
  | [] => true
  | (_, x) :: xs => noList x && noListK xs
end
/-- a datum whose text can be had: no dict, or no list, or a list of such ones -/
def okD (d : PyData) : Bool := noList d || !d.hasDict
def okR : PyData → Bool
  | .list xs => xs.all okD
  | d => okD d
section
variable {X : Cx} {pins : List (Addr × Obj)} {σ : L2.St} {H : Hp} {s : Shared}
mutual
theorem DpX.readsN (I : Inv X pins σ H s) : ∀ (d : PyData) (v : V) (u : Value), DpX X.K H v d → RelV v u → noList d = true → ∃ as, Reads s.heap u d as ∧ sysModules ∉ as
  | .none, _, _, h, r, _ => by
    cases h
    cases r
    exact ⟨_, Reads.none, by simp⟩
  | .bool b, _, _, h, r, _ => by
    cases h
    cases r
    exact ⟨_, Reads.bool b, by simp⟩
  | .int i, _, _, h, r, _ => by
    cases h
    obtain ⟨t, rfl⟩ := r
    exact ⟨_, Reads.int i t, by simp⟩
  | .str x, _, _, h, r, _ => by
    cases h
    obtain ⟨t, rfl⟩ := r
    exact ⟨_, Reads.str x t, by simp⟩
  | .list ds, _, _, h, r, n => by rw [noList] at n; cases n
  | .tuple ds, _, _, h, r, n => by
    cases h with
    | tup hs ha =>
      cases r
      rw [noList] at n
      obtain ⟨its, rv, ⟨o, ho, hc, n', hd⟩, _⟩ := I.tuple hs
      obtain ⟨as, hr, hn⟩ := DpXs.readsN I ds _ its ha rv n
      exact ⟨_, Reads.tuple ho hc hd hr, hn⟩
  | .dict ds, _, _, h, r, n => by
    cases h with
    | dct hs ha =>
      cases r
      rw [noList] at n
      obtain ⟨_, ns, vs, rk, o, es, ep, ho, hx, hd, _, hp, _⟩ := dk_of I.hok hs
      obtain ⟨as, bs, h1, h2, n1, n2⟩ := DpXk.readsN I ds _ vs es.toList ha rk hp n
      refine ⟨_, Reads.dict ho hx.1 hd h1 h2, ?_⟩
      rw [List.cons_append, List.mem_cons, List.mem_append, not_or, not_or]
      exact ⟨fun e => by rw [← e] at ns; exact absurd ns (by decide), n1, n2⟩
theorem DpXs.readsN (I : Inv X pins σ H s) : ∀ (ds : List PyData) (vs : List V) (us : List Value), DpXs X.K H vs ds → Vals vs us → noLists ds = true → ∃ as, ReadsAll s.heap us ds as ∧ sysModules ∉ as
  | [], _, _, h, r, _ => by
    cases h
    cases r
    exact ⟨_, ReadsAll.nil, by simp⟩
  | d :: ds, _, _, h, r, n => by
    rw [noLists, Bool.and_eq_true] at n
    cases h with
    | cons h1 h2 =>
      cases r with
      | cons r1 r2 =>
        obtain ⟨as, q1, n1⟩ := DpX.readsN I d _ _ h1 r1 n.1
        obtain ⟨bs, q2, n2⟩ := DpXs.readsN I ds _ _ h2 r2 n.2
        refine ⟨_, ReadsAll.cons q1 q2, ?_⟩
        rw [List.mem_append, not_or]
        exact ⟨n1, n2⟩
theorem DpXk.readsN (I : Inv X pins σ H s) : ∀ (ds : List (PyData × PyData)) (kvv : List (Key × V)) (vs : List (Key × Value)) (es : List DictEntry), DpXk X.K H kvv ds → KV kvv vs → Pairs (mixKind X.prog X.w) es vs → noListK ds = true →
    ∃ as bs, ReadsAll s.heap (es.map (·.key)) (ds.map (·.1)) as ∧ ReadsAll s.heap (es.map (·.val)) (ds.map (·.2)) bs ∧ sysModules ∉ as ∧ sysModules ∉ bs
  | [], _, _, _, h, r, p, _ => by
    cases h
    cases r
    cases p
    exact ⟨_, _, ReadsAll.nil, ReadsAll.nil, by simp, by simp⟩
  | d :: ds, _, _, _, h, r, p, n => by
    cases h with
    | cons h1 h2 =>
      rw [noListK, Bool.and_eq_true] at n
      cases r with
      | cons r1 r2 =>
        cases p with
        | cons p1 p2 p3 =>
          obtain ⟨as, q1, n1⟩ := DpX.readsN I _ _ _ h1 r1.2 n.1
          obtain ⟨bs, cs, q2, q3, n2, n3⟩ := DpXk.readsN I ds _ _ _ h2 r2 p3 n.2
          rw [← p2] at q1
          have e1 := r1.1
          simp only at e1
          subst e1
          rcases keyIs_shape p1 with ⟨i, t, e, e'⟩ | ⟨x, t, e, e'⟩
          · refine ⟨_, _, ReadsAll.cons (as := []) (d := kD _) ?_ q2, ReadsAll.cons q1 q3, ?_, ?_⟩
            · show Reads _ (DictEntry.key _) _ _
              rw [e, e']
              exact Reads.int i t
            · simpa using n2
            · rw [List.mem_append, not_or]
              exact ⟨n1, n3⟩
          · refine ⟨_, _, ReadsAll.cons (as := []) (d := kD _) ?_ q2, ReadsAll.cons q1 q3, ?_, ?_⟩
            · show Reads _ (DictEntry.key _) _ _
              rw [e, e']
              exact Reads.str x t
            · simpa using n2
            · rw [List.mem_append, not_or]
              exact ⟨n1, n3⟩
end
mutual
/-- a datum without dicts -/
theorem DpX.dp : ∀ {d : PyData} {v : V} {K : PySem.W.Frag} {H : Hp}, DpX K H v d → d.hasDict = false → Dp K H v d
  | .none, _, _, _, h, _ => by cases h; exact .non
  | .bool b, _, _, _, h, _ => by cases h; exact .bl b
  | .int b, _, _, _, h, _ => by cases h; exact .int b
  | .str b, _, _, _, h, _ => by cases h; exact .str b
  | .list ds, _, _, _, h, n => by
    cases h with
    | lst h1 h2 => exact .lst (SqL.of h1) (DpXs.dp h2 (by simpa [PyData.hasDict] using n))
  | .tuple ds, _, _, _, h, n => by
    cases h with
    | tup h1 h2 => exact .tup h1 (DpXs.dp h2 (by simpa [PyData.hasDict] using n))
  | .dict ds, _, _, _, h, n => by simp [PyData.hasDict] at n
theorem DpXs.dp : ∀ {ds : List PyData} {vs : List V} {K : PySem.W.Frag} {H : Hp}, DpXs K H vs ds → PyData.hasDictAll ds = false → DpAll K H vs ds
  | [], _, _, _, h, _ => by cases h; exact .nil
  | d :: ds, _, _, _, h, n => by
    cases h with
    | cons h1 h2 =>
      have n' : d.hasDict = false ∧ PyData.hasDictAll ds = false := by simpa [PyData.hasDictAll] using n
      exact .cons (DpX.dp h1 n'.1) (DpXs.dp h2 n'.2)
end
theorem DpX.readsO (I : Inv X pins σ H s) {d : PyData} {v : V} {u : Value} (h : DpX X.K H v d) (r : RelV v u) (k : okD d = true) : ∃ as, Reads s.heap u d as ∧ (d.hasDict = true → sysModules ∉ as) := by
  rcases Bool.or_eq_true_iff.mp k with e | e
  · obtain ⟨as, r1, n⟩ := DpX.readsN I _ _ _ h r e
    exact ⟨as, r1, fun _ => n⟩
  · have e : d.hasDict = false := by simpa using e
    obtain ⟨as, r1⟩ := Dp.reads I _ _ _ (h.dp e) r
    exact ⟨as, r1, fun z => by rw [e] at z; cases z⟩
theorem reads_each {w : World} {prog : Program} (I : Inv X pins σ H s) : ∀ {ds : List PyData} {vs : List V} {us : List Value}, DpXs X.K H vs ds → Vals vs us → ds.all okD = true → PyData.showableAll ds = true → (∀ t ∈ PyData.shownAll ds, t.length ≤ sizeLine) →
    ∃ as bs, ReadsAll s.heap us ds as ∧ ReadAtMost s.heap (PyData.depthAll ds) bs ∧ ReprAllK prog w bs s.heap (PyData.depthAll ds) us (PyData.shownAll ds)
  | [], _, _, h, r, _, _, _ => by
    cases h
    cases r
    exact ⟨[], [], .nil, (fun _ h => nomatch h), by simp only [PyData.shownAll]; exact .nil⟩
  | d :: ds, _, _, h, r, k, hs, hz => by
    cases h with
    | cons h1 h2 =>
      cases r with
      | cons r1 r2 =>
        rw [List.all_cons, Bool.and_eq_true] at k
        have hs' : d.showable = true ∧ PyData.showableAll ds = true := by simpa [PyData.showableAll] using hs
        obtain ⟨as, q, n⟩ := DpX.readsO I h1 r1 k.1
        obtain ⟨bs, c1, q1, q2, q3⟩ := reads_each (w := w) (prog := prog) I h2 r2 k.2 hs'.2 fun t ht => hz t (by simp only [PyData.shownAll]; exact List.mem_cons_of_mem _ ht)
        obtain ⟨b1, hb1, k1⟩ := ReprK.of_reads (prog := prog) (w := w) q hs'.1 n (hz _ (by simp only [PyData.shownAll]; exact List.mem_cons_self ..))
        have l1 : d.depth ≤ PyData.depthAll (d :: ds) := by simp only [PyData.depthAll]; exact Nat.le_max_left _ _
        have l2 : PyData.depthAll ds ≤ PyData.depthAll (d :: ds) := by simp only [PyData.depthAll]; exact Nat.le_max_right _ _
        refine ⟨_, b1 ++ c1, ReadsAll.cons q q1, (hb1.mono l1).append (q2.mono l2), ?_⟩
        simp only [PyData.shownAll]
        exact .cons ((k1.more fun b hb => List.mem_append_left _ hb).level_le l1) (q3.more_le (fun b hb => List.mem_append_right _ hb) l2)
def rReprX (K : PySem.W.Frag) : List V → Hp → VK → Prop := fun xs H Q => ∃ x d, xs = [x] ∧ DpX K H x d ∧ okR d = true ∧ d.showable = true ∧ d.depth ≤ 60 ∧ d.shown.length ≤ sizeLine ∧ Q (.str d.shown) H
theorem call_reprX {j : Nat} (hr : Rm j X.A) : CallR X (.builtin "repr") (rReprX X.K) := by
  intro pins s σ H xs us Q I r h
  obtain ⟨x, d, rfl, hd, hk, hs, hdp, hz, q⟩ := h
  obtain ⟨u, rfl, ru⟩ := vals1 r
  have un := hr.room.units
  cases hd with
  | non =>
    cases ru
    exact P.repr_of_none ⟨.str _, H, I.tok _, ⟨_, rfl⟩, q⟩
  | bl b =>
    cases ru
    refine P.repr_of_bool ⟨.str _, H, I.tok _, ⟨_, rfl⟩, ?_⟩
    simpa [PyData.shown] using q
  | int i =>
    obtain ⟨t, rfl⟩ := ru
    refine P.repr_of_int (by simpa [PyData.showable] using hs) ⟨.str _, H, I.tok _, ⟨_, rfl⟩, ?_⟩
    simpa [PyData.shown] using q
  | str x =>
    obtain ⟨t, rfl⟩ := ru
    refine P.repr_of_str ⟨.str _, H, I.tok _, ⟨_, rfl⟩, ?_⟩ (by simpa [PyData.shown] using hz)
    simpa [PyData.shown] using q
  | @lst a xs ds hsq ha =>
    cases ru
    have hz' : (listText (PyData.shownAll ds)).length ≤ sizeLine := by simpa only [PyData.shown] using hz
    obtain ⟨its, rv, ⟨o, n, ho, hc, _, hdt⟩, _⟩ := I.list (SqL.of hsq)
    obtain ⟨as, bs, h4, hb, hk'⟩ := reads_each (w := X.w) (prog := X.prog) I ha rv hk (by simpa [PyData.showable] using hs) fun t ht => Nat.le_trans (listText_mem_le ht) hz'
    have h4' : ReadsAll s.heap its.toArray.toList ds as := h4
    have hna : a ∉ bs := not_mem_of_deeper (.list ho hc hdt h4') (by simp only [PyData.depth]; omega) hb
    refine call_repr_slot (by omega) ⟨o, ho, hc⟩ F.slot_list_repr.toG ?_
    simp only [PyData.depth] at hdp
    simp only [PyData.shown] at q
    cases its with
    | nil =>
      cases h4
      simp only [PyData.shownAll, listText_nil] at q
      exact call_list_repr_empty ⟨o, ho, hc⟩ ho hdt ⟨_, _, rfl, .str _, H, I.tok _, ⟨_, rfl⟩, q⟩
    | cons y l =>
      exact call_list_reprK ho hc hdt hna (by simpa using hk'.length_eq) (fun i z e => hk'.item i z (by simpa using e)) hr.gd (fun b _ => Clear.nil b) (by show X.A.units + 1 + _ < cLine; omega) (fun _ _ z => z)
        (fun h' u' tk k => ⟨_, _, rfl, .str _, H, I.kept k, ⟨_, rfl⟩, q⟩) hz'
  | tup hsq ha =>
    obtain ⟨as, rd, nd⟩ := DpX.readsO I (.tup hsq ha) ru hk
    cases ru
    refine repr_of_reads' rd hs nd hr.gd (by omega) (fun _ _ z => z) (fun h' u tk k => ?_) hz
    exact ⟨.str _, H, I.kept k, ⟨_, rfl⟩, q⟩
  | dct hsq ha =>
    obtain ⟨as, rd, nd⟩ := DpX.readsO I (.dct hsq ha) ru hk
    cases ru
    refine repr_of_reads' rd hs nd hr.gd (by omega) (fun _ _ z => z) (fun h' u tk k => ?_) hz
    exact ⟨.str _, H, I.kept k, ⟨_, rfl⟩, q⟩
end
section
variable {K : PySem.W.Frag} {cl : Nat → Addr} {Z : Addr → Prop} {s : S} {H : Hp}
mutual
theorem Rep.dpx (so : Sto K cl Z s H) : ∀ {v : V} {t : T} {d : PyData}, Rep K cl Z s H v t → t.datX = some d → DpX K H v d
  | _, .non, _, r, e => by
    cases r
    rw [T.datX] at e
    cases e
    exact .non
  | _, .bl b, _, r, e => by
    cases r
    rw [T.datX] at e
    cases e
    exact .bl b
  | _, .int b, _, r, e => by
    cases r
    rw [T.datX] at e
    cases e
    exact .int b
  | _, .str b, _, r, e => by
    cases r
    rw [T.datX] at e
    cases e
    exact .str b
  | _, .lst xs, _, r, e => by
    obtain ⟨a, vs, rfl, h, q⟩ := lst_of so r rfl
    rw [T.datX] at e
    obtain ⟨ds, e1, rfl⟩ := Option.map_eq_some_iff.mp e
    exact .lst h (Reps.dpx so q e1)
  | _, .tup xs, _, r, e => by
    obtain ⟨a, vs, rfl, h, q⟩ := tup_of r
    rw [T.datX] at e
    obtain ⟨ds, e1, rfl⟩ := Option.map_eq_some_iff.mp e
    exact .tup h (Reps.dpx so q e1)
  | _, .dct xs, _, r, e => by
    rw [T.datX] at e
    obtain ⟨ds, e1, rfl⟩ := Option.map_eq_some_iff.mp e
    cases r with
    | dct h n q => exact .dct h (RepK.dpx so q e1)
  | _, .obj _ _, _, _, e => by rw [T.datX] at e <;> first | cases e | (intros; intro h; cases h)
  | _, .err _ _, _, _, e => by rw [T.datX] at e <;> first | cases e | (intros; intro h; cases h)
  | _, .cell _, _, _, e => by rw [T.datX] at e <;> first | cases e | (intros; intro h; cases h)
  | _, .pen, _, _, e => by rw [T.datX] at e <;> first | cases e | (intros; intro h; cases h)
  | _, .ty _, _, _, e => by rw [T.datX] at e <;> first | cases e | (intros; intro h; cases h)
theorem Reps.dpx (so : Sto K cl Z s H) : ∀ {vs : List V} {ts : List T} {ds : List PyData}, Reps K cl Z s H vs ts → datsX ts = some ds → DpXs K H vs ds
  | _, [], _, r, e => by
    cases r
    rw [datsX] at e
    cases e
    exact .nil
  | _, t :: ts, _, r, e => by
    cases r with
    | cons h q =>
      rw [datsX] at e
      split at e
      · rename_i d ds e1 e2
        cases e
        exact .cons (Rep.dpx so h e1) (Reps.dpx so q e2)
      · cases e
theorem RepK.dpx (so : Sto K cl Z s H) : ∀ {vs : List (Key × V)} {ts : List (Key × T)} {ds : List (PyData × PyData)}, RepK K cl Z s H vs ts → datsK ts = some ds → DpXk K H vs ds
  | _, [], _, r, e => by
    cases r
    rw [datsK] at e
    cases e
    exact .nil
  | _, (k, t) :: ts, _, r, e => by
    cases r with
    | cons h q =>
      rw [datsK] at e
      split at e
      · rename_i d ds e1 e2
        cases e
        exact .cons (Rep.dpx so h e1) (RepK.dpx so q e2)
      · cases e
end
theorem Rep.sdpx {v : V} {t : T} {d : PyData} (so : Sto K cl Z s H) (r : Rep K cl Z s H v t) (e : s.datX t = some d) : DpX K H v d := by
  unfold S.datX at e
  split at e
  · split at e
    · rename_i ho
      cases r
      obtain ⟨vs, h1, h2⟩ := so.cells _ _ ho
      obtain ⟨ds, e1, rfl⟩ := Option.map_eq_some_iff.mp e
      exact .lst h1 (Reps.dpx so h2 e1)
    · cases e
  · exact Rep.dpx so r e
end
def reprX : ON
  | s, [x] => match s.datX x with | some d => some (okR d = true ∧ d.showable = true ∧ d.depth ≤ 60 ∧ d.shown.length ≤ 1000000, .str d.shown) | none => none
  | _, _ => none
theorem c_reprX {X : Cx} {cl : Nat → Addr} {j : Nat} (hr : Rm j X.A) : BC X cl (.builtin "repr") reprX := by
  refine ⟨_, call_reprX hr, fun Z H xs Q s ts c t r so e hc p => ?_⟩
  unfold reprX at e
  split at e
  · obtain ⟨v, rfl, rv⟩ := reps1 r
    split at e
    · rename_i d e1
      cases e
      exact ⟨v, d, rfl, rv.sdpx so e1, hc.1, hc.2.1, hc.2.2.1, Nat.le_trans hc.2.2.2 size6, p.here (.str _) so⟩
    · cases e
  · cases e
/-! ### a dict display of one constant pair -/
def fDctC (kvs : List (Key × T)) : FE := fun _ s Q _ => Q (.dct kvs) s
theorem je_dct1 {X : Cx} {cl : Nat → Addr} {W : WX} {ke ve : Expr} {z : Str} {i : Int} {pos : Pos} (hk : PE X ke (tC (.str z))) (hv : PE X ve (tC (.int i))) : JE X cl W (.Dict [some ke] [ve] pos) (fDctC [(.inr z, .int i)]) := by
  refine ⟨fun _ _ _ _ _ _ hq _ h => hq _ _ h, PE.imp (pe_disp (pps_cons hk hv pps_nil) rfl rfl (by simp) (by simp)) ?_⟩
  rintro σ H Q ⟨Z, τ, s, re, so, h⟩
  intro a ha
  refine ⟨upd_same, [(.inr z, .int i)], rfl, by simp, ?_⟩
  rw [upd_upd]
  exact h _ _ (Fut.new ha) (.dct upd_same (so.nomut ha) (.cons (.int i) .nil)) (so.new ha)
/-! ### how long a datum is, shown -/
mutual
def niceX : PyData → Bool
  | .none | .bool _ => true
  | .int i => decide (i.natAbs < 10 ^ 100)
  | .str z => z.cps.all (· < 0x110000) && decide (z.length ≤ 1000)
  | .list xs | .tuple xs => niceXs xs
  | .dict kvs => niceXk kvs
def niceXs : List PyData → Bool
  | [] => true
  | x :: xs => niceX x && niceXs xs
def niceXk : List (PyData × PyData) → Bool
  | [] => true
  | (k, x) :: xs => niceX k && niceX x && niceXk xs
end
mutual
def wX : PyData → Nat
  | .none | .bool _ => 5
  | .int _ => 101
  | .str z => 10 * z.length + 2
  | .list xs | .tuple xs => wXs xs + 5
  | .dict kvs => wXk kvs + 5
def wXs : List PyData → Nat
  | [] => 0
  | x :: xs => wX x + 2 + wXs xs
def wXk : List (PyData × PyData) → Nat
  | [] => 0
  | (k, x) :: xs => wX k + wX x + 4 + wXk xs
end
theorem dictText_le (ts : List Str) : (dictText ts).length ≤ piled ts + 3 := by
  unfold dictText
  rw [Str.length_append, Str.length_append]
  have e1 : (Str.ofString "{").length = 1 := rfl
  have e2 : (Str.ofString "}").length = 1 := rfl
  cases ts with
  | nil =>
    have e3 : (Str.join ", " []).length = 0 := rfl
    omega
  | cons t r =>
    have := join_length_add (t :: r) (by simp)
    omega
mutual
theorem showX : ∀ d : PyData, niceX d = true → d.showable = true ∧ d.shown.length ≤ wX d
  | .none, _ => ⟨by simp [PyData.showable], by rw [PyData.shown, wX]; decide⟩
  | .bool b, _ => ⟨by simp [PyData.showable], by rw [PyData.shown, wX]; cases b <;> decide⟩
  | .int i, h => by
    rw [niceX] at h
    have h' : niceD (.int i) = true := by rw [niceD]; exact h
    exact ⟨(nice_show _ h').1, by have := (nice_show _ h').2.2; rw [wD] at this; rw [wX]; exact this⟩
  | .str z, h => by
    rw [niceX] at h
    have h' : niceD (.str z) = true := by rw [niceD]; exact h
    exact ⟨(nice_show _ h').1, by have := (nice_show _ h').2.2; rw [wD] at this; rw [wX]; exact this⟩
  | .list xs, h => by
    rw [niceX] at h
    obtain ⟨h1, h3⟩ := showXs xs h
    refine ⟨by rw [PyData.showable]; exact h1, ?_⟩
    rw [PyData.shown, wX]
    have := listText_le (PyData.shownAll xs)
    omega
  | .tuple xs, h => by
    rw [niceX] at h
    obtain ⟨h1, h3⟩ := showXs xs h
    refine ⟨by rw [PyData.showable]; exact h1, ?_⟩
    rw [PyData.shown, wX]
    have := tupleText_le (PyData.shownAll xs)
    omega
  | .dict kvs, h => by
    rw [niceX] at h
    obtain ⟨h1, h3⟩ := showXk kvs h
    refine ⟨by rw [PyData.showable]; exact h1, ?_⟩
    rw [PyData.shown, wX]
    have := dictText_le (PyData.shownKv kvs)
    omega
theorem showXs : ∀ ds : List PyData, niceXs ds = true → PyData.showableAll ds = true ∧ piled (PyData.shownAll ds) ≤ wXs ds
  | [], _ => ⟨by simp [PyData.showableAll], by rw [PyData.shownAll]; exact Nat.zero_le _⟩
  | d :: ds, h => by
    rw [niceXs, Bool.and_eq_true] at h
    obtain ⟨a1, a3⟩ := showX d h.1
    obtain ⟨b1, b3⟩ := showXs ds h.2
    refine ⟨by rw [PyData.showableAll, a1, b1]; rfl, ?_⟩
    rw [PyData.shownAll, wXs]
    have e2 : piled (d.shown :: PyData.shownAll ds) = d.shown.length + 2 + piled (PyData.shownAll ds) := by simp [piled]
    omega
theorem showXk : ∀ ds : List (PyData × PyData), niceXk ds = true → PyData.showableKv ds = true ∧ piled (PyData.shownKv ds) ≤ wXk ds
  | [], _ => ⟨by simp [PyData.showableKv], by rw [PyData.shownKv]; exact Nat.zero_le _⟩
  | (k, d) :: ds, h => by
    rw [niceXk, Bool.and_eq_true, Bool.and_eq_true] at h
    obtain ⟨c1, c3⟩ := showX k h.1.1
    obtain ⟨a1, a3⟩ := showX d h.1.2
    obtain ⟨b1, b3⟩ := showXk ds h.2
    refine ⟨by rw [PyData.showableKv, c1, a1, b1]; rfl, ?_⟩
    rw [PyData.shownKv, wXk]
    have e2 : ∀ (t : Str) (ts : List Str), piled (t :: ts) = t.length + 2 + piled ts := by intros; simp [piled]
    rw [e2, Str.length_append, Str.length_append]
    have e3 : (Str.ofString ": ").length = 2 := rfl
    omega
end
/-- for repr -/
theorem rpX {d : PyData} (h0 : okR d = true) (h : niceX d = true) (h1 : d.depth ≤ 60) (h2 : wX d ≤ 1000000) : okR d = true ∧ d.showable = true ∧ d.depth ≤ 60 ∧ d.shown.length ≤ 1000000 := ⟨h0, (showX d h).1, h1, Nat.le_trans (showX d h).2 h2⟩
section
variable {α : Type} {xs : List α}
theorem atI_5 {a0 a1 a2 a3 a4 a5 : α} : L2.atI (a0 :: a1 :: a2 :: a3 :: a4 :: a5 :: xs) 5 = some a5 := by
  unfold L2.atI L2.ixN
  rw [if_pos (by decide), if_pos (by simp only [List.length_cons]; omega)]
  rfl
theorem atI_6 {a0 a1 a2 a3 a4 a5 a6 : α} : L2.atI (a0 :: a1 :: a2 :: a3 :: a4 :: a5 :: a6 :: xs) 6 = some a6 := by
  unfold L2.atI L2.ixN
  rw [if_pos (by decide), if_pos (by simp only [List.length_cons]; omega)]
  rfl
theorem atI_7 {a0 a1 a2 a3 a4 a5 a6 a7 : α} : L2.atI (a0 :: a1 :: a2 :: a3 :: a4 :: a5 :: a6 :: a7 :: xs) 7 = some a7 := by
  unfold L2.atI L2.ixN
  rw [if_pos (by decide), if_pos (by simp only [List.length_cons]; omega)]
  rfl
theorem atI_8 {a0 a1 a2 a3 a4 a5 a6 a7 a8 : α} : L2.atI (a0 :: a1 :: a2 :: a3 :: a4 :: a5 :: a6 :: a7 :: a8 :: xs) 8 = some a8 := by
  unfold L2.atI L2.ixN
  rw [if_pos (by decide), if_pos (by simp only [List.length_cons]; omega)]
  rfl
theorem atI_9 {a0 a1 a2 a3 a4 a5 a6 a7 a8 a9 : α} : L2.atI (a0 :: a1 :: a2 :: a3 :: a4 :: a5 :: a6 :: a7 :: a8 :: a9 :: xs) 9 = some a9 := by
  unfold L2.atI L2.ixN
  rw [if_pos (by decide), if_pos (by simp only [List.length_cons]; omega)]
  rfl
theorem atI_10 {a0 a1 a2 a3 a4 a5 a6 a7 a8 a9 a10 : α} : L2.atI (a0 :: a1 :: a2 :: a3 :: a4 :: a5 :: a6 :: a7 :: a8 :: a9 :: a10 :: xs) 10 = some a10 := by
  unfold L2.atI L2.ixN
  rw [if_pos (by decide), if_pos (by simp only [List.length_cons]; omega)]
  rfl
theorem atI_11 {a0 a1 a2 a3 a4 a5 a6 a7 a8 a9 a10 a11 : α} : L2.atI (a0 :: a1 :: a2 :: a3 :: a4 :: a5 :: a6 :: a7 :: a8 :: a9 :: a10 :: a11 :: xs) 11 = some a11 := by
  unfold L2.atI L2.ixN
  rw [if_pos (by decide), if_pos (by simp only [List.length_cons]; omega)]
  rfl
theorem atI_12 {a0 a1 a2 a3 a4 a5 a6 a7 a8 a9 a10 a11 a12 : α} : L2.atI (a0 :: a1 :: a2 :: a3 :: a4 :: a5 :: a6 :: a7 :: a8 :: a9 :: a10 :: a11 :: a12 :: xs) 12 = some a12 := by
  unfold L2.atI L2.ixN
  rw [if_pos (by decide), if_pos (by simp only [List.length_cons]; omega)]
  rfl
theorem atI_13 {a0 a1 a2 a3 a4 a5 a6 a7 a8 a9 a10 a11 a12 a13 : α} : L2.atI (a0 :: a1 :: a2 :: a3 :: a4 :: a5 :: a6 :: a7 :: a8 :: a9 :: a10 :: a11 :: a12 :: a13 :: xs) 13 = some a13 := by
  unfold L2.atI L2.ixN
  rw [if_pos (by decide), if_pos (by simp only [List.length_cons]; omega)]
  rfl
end
theorem lst_rp {ds : List PyData} (h : ∀ d ∈ ds, okD d = true ∧ niceX d = true ∧ d.depth ≤ 5 ∧ wX d ≤ 500) (hl : ds.length ≤ 100) : okR (.list ds) = true ∧ (PyData.list ds).showable = true ∧ (PyData.list ds).depth ≤ 60 ∧ (PyData.list ds).shown.length ≤ 1000000 := by
  have a : ∀ l : List PyData, (∀ d ∈ l, okD d = true ∧ niceX d = true ∧ d.depth ≤ 5 ∧ wX d ≤ 500) → niceXs l = true ∧ PyData.depthAll l ≤ 5 ∧ wXs l ≤ 502 * l.length := by
    intro l
    induction l with
    | nil => intro _; exact ⟨by rw [niceXs], by simp [PyData.depthAll], by rw [wXs]; exact Nat.zero_le _⟩
    | cons d l ih =>
      intro h
      obtain ⟨i1, i2, i3⟩ := ih fun d hd => h d (List.mem_cons_of_mem _ hd)
      obtain ⟨_, h2, h3, h4⟩ := h d List.mem_cons_self
      refine ⟨by rw [niceXs, h2, i1]; rfl, by rw [PyData.depthAll]; exact Nat.max_le.mpr ⟨h3, i2⟩, ?_⟩
      rw [wXs, List.length_cons]
      omega
  obtain ⟨a1, a2, a3⟩ := a ds h
  refine rpX ?_ (by rw [niceX]; exact a1) (by rw [PyData.depth]; omega) (by rw [wX]; omega)
  exact List.all_eq_true.mpr fun d hd => (h d hd).1
/-- a, b, c = x, y, z -/
def fPar3 (i j l : Nat) (A : FA) : FS := fun τ s D => A τ s (fun ts s1 => match ts with | [t, u, v] => D.nx (((τ.set i (some t)).set j (some u)).set l (some v)) s1 | _ => False) (xk τ D)
theorem js_par3 {X : Cx} {cl : Nat → Addr} {W : WX} {i j l : Nat} {x y z : Str} {a b c : Expr} {A : FA} {px py pz pt pos : Pos} {kt k2 pt2} (hc : X.calm = true) (hN : X.N.Nodup) (hi : X.N[i]? = some x) (hj : X.N[j]? = some y) (hl : X.N[l]? = some z) (hij : i ≠ j) (hil : i ≠ l) (hjl : j ≠ l)
    (hx : X.env.scope.names.lookup x = some .local) (hy : X.env.scope.names.lookup y = some .local) (hz : X.env.scope.names.lookup z = some .local) (ha : JA X cl W [a, b, c] A)
    (hsw : swappedStores [.Tuple [.Name x px, .Name y py, .Name z pz] kt pt] (.Tuple [a, b, c] k2 pt2) X.env = pure (some [x, y, z]) := by rfl) (hs : swapsWithSole [.Tuple [.Name x px, .Name y py, .Name z pz] kt pt] (.Tuple [a, b, c] k2 pt2) pos.line X.env = pure false := by rfl) :
    JS X cl W (.Assign [.Tuple [.Name x px, .Name y py, .Name z pz] kt pt] (.Tuple [a, b, c] k2 pt2) pos) (fPar3 i j l A) := by
  refine ⟨fun τ s D D' le h => ha.mon _ _ _ _ _ _ (fun ts s1 q => ?_) (fun _ _ q => le.xr _ _ _ q) h, PS.imp (ps_par3 hc hN hi hj hl hij hil hjl hx hy hz ha.pa hsw hs) ?_⟩
  · split at q
    · exact le.nx _ _ q
    · exact q.elim
  rintro D σ H ⟨Z, τ, s, re, so, h⟩
  refine goA ha.mon re so h (fun ts s1 vs H1 p f1 re1 r1 so1 => ?_) fun _ _ q => xe_w re q
  split at p
  · cases r1 with
    | cons h1 q =>
      obtain ⟨v, w, rfl, rv, rw⟩ := reps2 q
      exact ⟨_, v, w, rfl, p _ H1 f1 (((re1.set h1 i).set rv j).set rw l) so1⟩
  · exact p.elim
theorem rows_madeX : True := by
  have := @Mr.fDctC.eq_1
  have := @Mr.fPar3.eq_1
  trivial
end Mr

/-! The mirror layer: texts' methods, class values, isinstance with a tuple. -/
namespace Mr
open PySem PySem.Spec PyProof.Rows L2 Tw ClX
section
variable {X : Cx} {cl : Nat → Addr} {W : WX} {e o : Expr} {Fa Fb : FE} {pos p apos : Pos} {j : Nat}
/-! ### methods of texts -/
abbrev OS := S → Str → List T → Option (Prop × T)
structure SM (X : Cx) (cl : Nat → Addr) (id : String) (f : OS) : Prop where
  ex : ∃ r, MtR X id r ∧ ∀ (Z : Addr → Prop) (H : Hp) (z : Str) (xs : List V) (Q : VK) (s : S) (ts : List T) (c : Prop) (t : T), Reps X.K cl Z s H xs ts → Sto X.K cl Z s H → f s z ts = some (c, t) → c → post X.K cl Z s H Q t s → r (.str z) xs H Q
def onS (f : OS) (s : S) (x : T) (ts : List T) (Q : KT) : Prop := match x with | .str z => (match f s z ts with | some (c, t) => c ∧ Q t s | none => False) | _ => False
theorem onS.mon {f : OS} {s : S} {x : T} {ts : List T} {Q Q' : KT} (hq : ∀ t s, Q t s → Q' t s) (h : onS f s x ts Q) : onS f s x ts Q' := by
  unfold onS at h ⊢
  split at h
  · split at h
    · exact ⟨h.1, hq _ _ h.2⟩
    · exact h
  · exact h
def isS : T → Prop
  | .str _ => True
  | _ => False
def fSm0 (f : OS) (Fa : FE) : FE := fun τ s Q E => Fa τ s (fun x s1 => onS f s1 x [] Q) E
def fSm1 (f : OS) (Fa Fb : FE) : FE := fun τ s Q E => Fa τ s (fun x s1 => isS x ∧ Fb τ s1 (fun y s2 => onS f s2 x [y] Q) E) E
theorem je_sm0 {id : String} {name : Str} {f : OS} (m : SM X cl id f) (slot : Slot "str" name id) (ty : typeOf (.builtin id) = pure (.type "method_descriptor")) (ho : JE X cl W o Fa)
    (hbase : attributeBase o name X.env (eval o X.env) = eval o X.env := by rfl) (hline : (apos.endLine == pos.line) = true := by rfl) : JE X cl W (.Call (.Attribute o name apos) [] [] pos) (fSm0 f Fa) := by
  obtain ⟨r, mr, br⟩ := m.ex
  refine ⟨fun τ s Q Q' E E' hq hE h => ho.mon _ _ _ _ _ _ (fun x s1 h1 => h1.mon hq) hE h, PE.imp (pe_m0 slot ty mr ho.pe hbase hline) ?_⟩
  rintro σ H Q ⟨Z, τ, s, re, so, h⟩
  refine go ho.mon re so h (fun tx s1 x H1 p1 f1 re1 r1 so1 => ?_) fun _ _ q => q
  unfold onS at p1
  split at p1
  · split at p1
    · rename_i c t e1
      cases rep_s r1
      exact ⟨⟨_, rfl⟩, br _ _ _ _ _ _ _ _ _ .nil so1 e1 p1.1 (post.up f1 p1.2)⟩
    · exact p1.elim
  · exact p1.elim
theorem je_sm1 {id : String} {name : Str} {f : OS} (m : SM X cl id f) (slot : Slot "str" name id) (ty : typeOf (.builtin id) = pure (.type "method_descriptor")) (ho : JE X cl W o Fa) (he : JE X cl W e Fb)
    (hs : starEach [e] X.env = [(false, eval e X.env)] := by rfl) (hbase : attributeBase o name X.env (eval o X.env) = eval o X.env := by rfl) (hline : (apos.endLine == pos.line) = true := by rfl) : JE X cl W (.Call (.Attribute o name apos) [e] [] pos) (fSm1 f Fa Fb) := by
  obtain ⟨r, mr, br⟩ := m.ex
  refine ⟨fun τ s Q Q' E E' hq hE h => ho.mon _ _ _ _ _ _ (fun x s1 h1 => ⟨h1.1, he.mon _ _ _ _ _ _ (fun y s2 h2 => h2.mon hq) hE h1.2⟩) hE h, PE.imp (pe_m1 slot ty mr ho.pe he.pe hs hbase hline) ?_⟩
  rintro σ H Q ⟨Z, τ, s, re, so, h⟩
  refine go ho.mon re so h (fun tx s1 x H1 p1 f1 re1 r1 so1 => ⟨?_, ?_⟩) fun _ _ q => q
  · have := p1.1
    unfold isS at this
    split at this
    · cases rep_s r1
      exact ⟨_, rfl⟩
    · exact this.elim
  refine go he.mon re1 so1 p1.2 (fun ty s2 y H2 p2 f2 re2 r2 so2 => ?_) fun _ _ q => postW.up f1 q
  unfold onS at p2
  split at p2
  · split at p2
    · rename_i c t e1
      cases rep_s r1
      exact br _ _ _ _ _ _ _ _ _ (.cons r2 .nil) so2 e1 p2.1 (post.up (f1.trans f2) p2.2)
    · exact p2.elim
  · exact p2.elim
def upperO : OS
  | _, z, [] => some (z.length ≤ 1000000, .str (Txt.upper z))
  | _, _, _ => none
theorem sm_upper : SM X cl "str.upper" upperO := by
  refine ⟨_, mt_upper, fun Z H z xs Q s ts c t r so e hc p => ?_⟩
  unfold upperO at e
  split at e
  · cases e
    cases r
    exact ⟨_, rfl, rfl, Nat.le_trans hc (by decide), p.here (.str _) so⟩
  · cases e
def lowerO : OS
  | _, z, [] => some (z.length ≤ 1000000, .str (Txt.lower z))
  | _, _, _ => none
theorem sm_lower : SM X cl "str.lower" lowerO := by
  refine ⟨_, mt_lower, fun Z H z xs Q s ts c t r so e hc p => ?_⟩
  unfold lowerO at e
  split at e
  · cases e
    cases r
    exact ⟨_, rfl, rfl, Nat.le_trans hc (by decide), p.here (.str _) so⟩
  · cases e
def partO : OS
  | _, z, [.str b] => some ((b.length == 0) = false ∧ z.length ≤ 1000000, .tup [.str (Txt.partition z b).1, .str (Txt.partition z b).2.1, .str (Txt.partition z b).2.2])
  | _, _, _ => none
theorem sm_partition : SM X cl "str.partition" partO := by
  refine ⟨_, mt_partition, fun Z H z xs Q s ts c t r so e hc p => ?_⟩
  unfold partO at e
  split at e
  · cases e
    obtain ⟨v, rfl, rv⟩ := reps1 r
    cases rep_s rv
    refine ⟨_, _, rfl, rfl, hc.1, Nat.le_trans hc.2 size6, ?_⟩
    exact post.newT p so (.cons (.str _) (.cons (.str _) (.cons (.str _) .nil)))
  · cases e
/-! ### a class's own value -/
theorem je_cval {c : Nat} {x f : Str} {mc u : Value} {v : V} {t : T} (hg : Gl X x) (hm : X.mg x = some (.ref (cl c))) (hc : CRead X.K (cl c) mc) (hv : CVal X.K (cl c) mc f v u) (rep : ∀ Z s H, Rep X.K cl Z s H v t) (hd : (x == ("__debug__" : Str)) = false := by decide)
    (hb : attributeBase (.Name x p) f X.env (eval (.Name x p) X.env) = eval (.Name x p) X.env := by rfl) : JE X cl W (.Attribute (.Name x p) f pos) (fC t) := by
  have h := je_cls (X := X) (cl := cl) (W := W) (pos := p) c hg hm hd
  refine je_c (v := v) (PE.imp (pe_cval (pos := pos) (C8.pe_gc (v := .ref (cl c)) hg ⟨_, hm, rfl⟩ hd) hb) ?_) rep
  intro σ H Q q
  exact ⟨_, mc, v, u, rfl, hc, hv, q⟩
/-- what a class's value is, as a tree -/
def CV (K : PySem.W.Frag) (cl : Nat → Addr) (c : Nat) (f : Str) (t : T) : Prop := ∃ (mc u : Value) (v : V), CRead K (cl c) mc ∧ CVal K (cl c) mc f v u ∧ ∀ Z s H, Rep K cl Z s H v t
theorem je_cv {c : Nat} {x f : Str} {t : T} (hg : Gl X x) (hm : X.mg x = some (.ref (cl c))) (h : CV X.K cl c f t) (hd : (x == ("__debug__" : Str)) = false := by decide)
    (hb : attributeBase (.Name x p) f X.env (eval (.Name x p) X.env) = eval (.Name x p) X.env := by rfl) : JE X cl W (.Attribute (.Name x p) f pos) (fC t) := by
  obtain ⟨mc, u, v, h1, h2, h3⟩ := h
  exact je_cval hg hm h1 h2 h3 hd hb
/-! ### isinstance, a tuple of classes -/
def tys : List T → Option (List Ty)
  | [] => some []
  | .ty k :: r => (tys r).map (k :: ·)
  | _ => none
def kkAny (kk : Ty → Ty → Option Bool) (a : Ty) : List Ty → Option Bool
  | [] => some false
  | b :: r => match kk a b with
    | some true => some true
    | some false => kkAny kk a r
    | none => none
theorem kk_any {kk : Ty → Ty → Option Bool} {ins exc : List Nat} (w : Wc X.K cl kk ins exc) {a : Ty} : ∀ {bs : List Ty} {q : Bool}, kkAny kk a bs = some q → PySem.W.kitAny X.K (a.u cl) (bs.map (Ty.u cl)) = some q
  | [], q, e => e
  | b :: bs, q, e => by
    unfold kkAny at e
    rw [List.map_cons, PySem.W.kitAny]
    split at e
    · rename_i e1
      rw [w.kit _ _ _ e1]
      exact e
    · rename_i e1
      rw [w.kit _ _ _ e1]
      exact kk_any w e
    · cases e
theorem tys_rep {Z : Addr → Prop} {s : S} {H : Hp} : ∀ {ts : List T} {vs : List V} {bs : List Ty}, Reps X.K cl Z s H vs ts → tys ts = some bs → Paired ClsV vs (bs.map (Ty.u cl))
  | [], _, _, r, e => by
    cases r
    cases e
    exact .nil
  | t :: ts, _, _, r, e => by
    cases r with
    | cons h q =>
      cases t with
      | ty k =>
        rw [tys] at e
        obtain ⟨bs', e1, rfl⟩ := Option.map_eq_some_iff.mp e
        cases h
        exact .cons (Ty.cls cl _) (tys_rep q e1)
      | _ => simp [tys] at e
def TupAt (K : PySem.W.Frag) (H : Hp) (tp : Addr) (cs : List V) : Prop := H tp = some (.tup cs) ∨ ∃ (o : Obj) (its : Array Value) (n : Nat), K.lookup tp = some o ∧ o.cls = .type "tuple" ∧ o.data = .seq its n ∧ Vals cs its.toList
def rIsXT (K : PySem.W.Frag) : List V → Hp → VK → Prop := fun xs H Q => ∃ (x : V) (tp : Addr) (cs : List V) (t : Value) (us : List Value) (b : Bool), xs = [x, .ref tp] ∧ TupAt K H tp cs ∧ Paired ClsV cs us ∧ TyE K H x t ∧ PySem.W.kitAny K t us = some b ∧ Q (.bl b) H
theorem call_isXT : CallR X (.builtin "isinstance") (rIsXT X.K) := by
  intro pins s σ H xs us Q I r h
  obtain ⟨x, tp, cs, t, ws, b, rfl, hT, k, ty, e, q⟩ := h
  have hA : ∃ (od : Option Addr) (n : Nat) (sl : Array (Option Value)), s.heap.get? tp = some ⟨.type "tuple", od, .seq ws.toArray n, sl⟩ := by
    rcases hT with hT | ⟨o, its, n, h1, h2, h3, rv⟩
    · obtain ⟨_, its, rv, o, h1, h2, n, h3⟩ := (show ObjOk X.prog X.w H s.heap tp (.tup cs) from I.hok tp _ hT)
      have e3 := ClsV.all k rv
      subst e3
      obtain ⟨oc, od', dt, sl⟩ := o
      simp only at h2 h3
      subst h2 h3
      exact ⟨_, _, _, h1⟩
    · have e3 := ClsV.all k rv
      obtain ⟨oc, od', dt, sl⟩ := o
      simp only at h2 h3
      subst h2 h3
      refine ⟨od', n, sl, ?_⟩
      rw [← e3]
      exact I.kIn _ _ h1
  obtain ⟨od', n, sl, h1⟩ := hA
  obtain ⟨u1, u2, rfl, r1, r2⟩ := vals2 r
  cases (show u2 = Value.ref tp from r2)
  rcases ty with ty | ⟨a, d, D, fs, rfl, rfl, T, ea, ed⟩
  · obtain ⟨P, Z, p, hx⟩ := kit_of I r1 ty
    exact PySem.W.kia_tup Z I.kIn p h1 e hx fun tk => ⟨.bl b, H, I.tok tk, rfl, q⟩
  · obtain rfl : u1 = Value.ref a := r1
    obtain ⟨oe, vs, hget, hz, hd⟩ := exV_at I.hok ea
    obtain ⟨mA, hns, hr⟩ := (show ObjOk X.prog X.w H s.heap d (.xd fs) from I.hok d _ ed)
    obtain ⟨od, ho, hl⟩ := lookIn_ns hns
    have J : PySem.W.InstAt s.heap a oe D (some od) := ⟨hget, hz.1, by unfold PySem.W.notCls; rw [hd] <;> rfl, by rw [hz.2]; exact ho⟩
    obtain ⟨cd, hcd, _⟩ := PySem.W.any_some T.hd
    exact PySem.W.kia_tup (PySem.W.kitx_exc (by rw [hcd]; rfl) T.hg T.hk T.hs T.ha T.hn T.ht T.hm) I.kIn J h1 e (fun z => nomatch z) fun tk => ⟨.bl b, H, I.tok tk, rfl, q⟩
def isiT (kk : Ty → Ty → Option Bool) (ins exc : List Nat) : ON
  | s, [x, .tup ks] => match s.ty? x, tys ks with | some (a, g), some bs => (match kkAny kk a bs with | some r => some (okC ins exc a g, .bl r) | none => none) | _, _ => none
  | _, _ => none
theorem c_isiT {kk : Ty → Ty → Option Bool} {ins exc : List Nat} (w : Wc X.K cl kk ins exc) : BC X cl (.builtin "isinstance") (isiT kk ins exc) := by
  refine ⟨_, call_isXT, fun Z H xs Q s ts c t r so e hc p => ?_⟩
  unfold isiT at e
  split at e
  · obtain ⟨v, u, rfl, rv, ru⟩ := reps2 r
    split at e
    · rename_i a g bs e1 e0
      split at e
      · rename_i q e2
        cases e
        cases ru with
        | tup h n rs => exact ⟨_, _, _, _, _, _, rfl, .inl h, tys_rep rs e0, ty_of w so rv e1 hc, kk_any w e2, p.here (.bl _) so⟩
        | tupK h1 h2 h3 h4 h5 rs => exact ⟨_, _, _, _, _, _, rfl, .inr ⟨_, _, _, h1, h2, h3, h5⟩, tys_rep rs e0, ty_of w so rv e1 hc, kk_any w e2, p.here (.bl _) so⟩
      · cases e
    · cases e
  · cases e
end
/-! ### a loop over what is known: one turn -/
theorem hFor.cons {ok : S → Prop} {g : FG} {B : FS} {t : T} {ts : List T} {τ : Env} {s : S} {D : DS} (ho : ok s) (h : g t τ s fun τ1 s1 => B τ1 s1 ⟨fun τ2 s2 => @hFor ok g ts τ2 s2 ⟨B⟩ ⟨D⟩, D.rt, D.nx, fun τ2 s2 => @hFor ok g ts τ2 s2 ⟨B⟩ ⟨D⟩, D.xr⟩) : @hFor ok g (t :: ts) τ s ⟨B⟩ ⟨D⟩ := ⟨ho, h⟩
theorem hFor.nil {ok : S → Prop} {g : FG} {B : FS} {τ : Env} {s : S} {D : DS} (ho : ok s) (h : D.nx τ s) : @hFor ok g [] τ s ⟨B⟩ ⟨D⟩ := ⟨ho, h⟩
theorem hLc.cons {ok : S → Prop} {g : FG} {tt : FT} {te : FE} {t : T} {ts acc : List T} {τ : Env} {s : S} {Q : List T → S → Prop} (ho : ok s) (hl : acc.length < 1000000)
    (h : g t τ s fun τ1 s1 => tt τ1 s1 (fun b s2 => if b = true then te τ1 s2 (fun y s3 => @hLc ok g τ ts (acc ++ [y]) s3 ⟨tt⟩ ⟨te⟩ ⟨Q⟩) noX else @hLc ok g τ ts acc s2 ⟨tt⟩ ⟨te⟩ ⟨Q⟩) noX) : @hLc ok g τ (t :: ts) acc s ⟨tt⟩ ⟨te⟩ ⟨Q⟩ := ⟨ho, by omega, h⟩
theorem hLc.nil {ok : S → Prop} {g : FG} {tt : FT} {te : FE} {acc : List T} {τ : Env} {s : S} {Q : List T → S → Prop} (ho : ok s) (h : Q acc s) : @hLc ok g τ [] acc s ⟨tt⟩ ⟨te⟩ ⟨Q⟩ := ⟨ho, h⟩
theorem rows_madeY : True := by
  have := @Mr.fSm0.eq_1
  have := @Mr.fSm1.eq_1
  have := @Mr.onS.eq_1
  trivial
end Mr

/-! The mirror layer: cells that a def leaves behind. -/
namespace Mr
open PySem PySem.Spec PyProof.Rows L2 Tw
/-- s' is s with fewer cells -/
structure Shr (s s' : S) : Prop where
  pa : s'.pa = s.pa
  pen : s'.pen = s.pen
  on : ∀ b, s'.on b = none ∨ s'.on b = s.on b
theorem Shr.refl (s : S) : Shr s s := ⟨rfl, rfl, fun _ => .inr rfl⟩
theorem Shr.trans {s s1 s2 : S} (a : Shr s s1) (b : Shr s1 s2) : Shr s s2 := ⟨b.pa.trans a.pa, b.pen.trans a.pen, fun c => by
  rcases b.on c with h | h
  · exact .inl h
  · rw [h]; exact a.on c⟩
theorem Shr.put {s : S} {a : Addr} {c : Cell} (h : s.on a = none) : Shr (s.put a c) s := ⟨rfl, rfl, fun b => by
  by_cases e : b = a
  · rw [e]; exact .inl h
  · exact .inr (S.put_ne e).symm⟩
theorem Shr.pn {s s' : S} {n : Nat} (h : Shr s s') : Shr (s.pn n) (s'.pn n) := ⟨h.pa, rfl, h.on⟩
theorem Shr.putB {s s' : S} {a : Addr} {c : Cell} (h : Shr s s') : Shr (s.put a c) (s'.put a c) := ⟨h.pa, h.pen, fun b => by
  by_cases e : b = a
  · rw [e, S.put_same, S.put_same]; exact .inr rfl
  · rw [S.put_ne e, S.put_ne e]; exact h.on b⟩
/-- new cell ahead of what else is put -/
theorem Shr.put2 {s s' : S} {a : Addr} {c : Cell} (h : Shr s s') (n : s'.on a = none) : Shr (s.put a c) s' := ⟨h.pa, h.pen, fun b => by
  by_cases e : b = a
  · rw [e]; exact .inl n
  · rw [S.put_ne e]; exact h.on b⟩
section
variable {K : PySem.W.Frag} {cl : Nat → Addr} {Z : Addr → Prop} {s s' : S} {H : Hp}
theorem Shr.mut (h : Shr s s') {b : Addr} (m : s'.mut b) : s.mut b := by
  rcases m with m | m
  · exact .inl (h.pa ▸ m)
  · refine .inr fun e => m ?_
    rcases h.on b with q | q
    · exact q
    · rw [q]; exact e
theorem Shr.fut (h : Shr s s') : Fut s H s' H := ⟨fun _ _ k n => ⟨k, fun m => n (h.mut m)⟩, fun _ k => h.pa.trans k⟩
theorem Shr.sto (h : Shr s s') (so : Sto K cl Z s H) : Sto K cl Z s' H where
  pen := fun q hq => by
    obtain ⟨L, x, r, ns, h1, h2, h3, h4⟩ := so.pen q (h.pa ▸ hq)
    exact ⟨L, x, r, ns, h1, h2, ⟨fun m => h3.1 (h.mut m), h3.2⟩, by rw [h.pen]; exact h4⟩
  cells := fun b c hb => by
    rcases h.on b with q | q
    · rw [q] at hb; cases hb
    · exact (so.cells b c (q ▸ hb)).at h.fut rfl
  apart := fun q hq => by
    rcases h.on q with e | e
    · exact e
    · rw [e]; exact so.apart q (h.pa ▸ hq)
  hid := fun b hb => ⟨fun m => (so.hid b hb).1 (h.mut m), (so.hid b hb).2⟩
end
/-- what is left of cells may be forgotten -/
def shQ (Q : KT) : KT := fun t s => ∃ s', Shr s s' ∧ Q t s'
def shX (E : KX) : KX := fun e s => ∃ s', Shr s s' ∧ E e s'
theorem shQ.of {Q : KT} {t : T} {s : S} (h : Q t s) : shQ Q t s := ⟨s, Shr.refl s, h⟩
theorem shX.of {E : KX} {e : Er} {s : S} (h : E e s) : shX E e s := ⟨s, Shr.refl s, h⟩
section
variable {P : Program} {w : World} {K : PySem.W.Frag} {mg : Str → Option Value} {base : Heap} {cl : Nat → Addr} {k : Nat} {qual : Str} {st : Stmt} {ps N : List Str} {D : FD} {B : FS}
theorem post.shr {Z : Addr → Prop} {s s1 s2 : S} {H : Hp} {Q : VK} {t : T} (h : Shr s1 s2) (q : post K cl Z s H Q t s2) : post K cl Z s H Q t s1 := fun v H' f r so => q v H' (f.trans h.fut) (r.fut h.fut) (h.sto so)
theorem postX.shr {Z : Addr → Prop} {s s1 s2 : S} {H : Hp} {Q : XK} {e : Er} (h : Shr s1 s2) (q : postX K cl Z s H Q e s2) : postX K cl Z s H Q e s1 := fun d fvs H' f e m r so => q d fvs H' (f.trans h.fut) e ⟨fun x => m.1 (h.mut x), m.2⟩ (r.fut h.fut) (h.sto so)
theorem fnD (S : FnScope N ps (C8.fnScope st)) (len : ∀ ts s Q E, D ts s Q E → ts.length = ps.length) (hB : Walk P w K mg base cl k N qual st B)
    (hF : ∀ ts s Q E, D ts s Q E → B (startT N ts) s (endsM (shQ Q) (shX E))) : ∀ {x : Str} {f : Addr} {fd : FuncData}, C8.Fun K x qual st f fd → FnG P w K mg base (k + 1) f fd ps (spM K cl D) :=
  fun F => fnGX F S (spM.len len) fun cdv A out s H vs Q E hr h => by
    obtain ⟨Z, ts, s, r, so, Q0, E0, h1, h2, h3⟩ := h
    have hb := hB _ cdv A out _ H E hr
    refine ⟨_, hb.pss, Z, startT N ts, s, REnv.start r, so, hb.mon _ _ _ _ ?_ (hF _ _ _ _ h1)⟩
    refine ⟨fun τ s' q σ H' f _ so' => ?_, fun t s' q => ?_, fun τ s' q => q.elim, fun τ s' q => q.elim, fun er τ s' q d fvs σ H' f e m rf _ so' => ?_⟩
    · obtain ⟨s2, sh, q⟩ := q
      exact post.shr sh (h2 _ _ q) _ _ f .non so'
    · obtain ⟨s2, sh, q⟩ := q
      exact post.shr sh (h2 _ _ q)
    · obtain ⟨s2, sh, q⟩ := q
      exact postX.shr sh (h3 _ _ q) d fvs H' f e m rf so'
end
end Mr

/-! The mirror layer: own operators, instances that are called, static methods, properties. -/
namespace Mr
open PySem PySem.Spec PyProof.Rows L2 Tw
theorem no_dvs {K : PySem.W.Frag} {cl : Nat → Addr} {dvs : List V} (hd : ∀ Z s H, Reps K cl Z s H dvs []) : dvs = [] := by
  have := hd (fun _ => False) ⟨none, 0, fun _ => none⟩ (fun _ => none)
  cases this
  rfl
section
variable {X : Cx} {cl : Nat → Addr} {W : WX} {k j cc : Nat} {D : FD} {m : Str} {op : Operator}
/-- two instances of one class, by the left one's method -/
def gOwn2 (cc : Nat) (D : FD) : S → T → T → KT → KX → Prop := fun s x y Q E => match s.obj? x, s.obj? y with | some (c, _), some (c', _) => c = cc ∧ c' = cc ∧ cM D [x, y] s Q E | _, _ => False
theorem o_own2 (tk : Takes X W) (d : MetM X.prog X.w X.K X.mg X.base cl k cc m D []) (hsf : PySem.W.selfFirst X.K (cl cc) = true) (hr : Rm j X.A) (hk : k ≤ j) (hm : PySem.dunder op.info.2 = m := by rfl) : Mr.OpT X cl W (binaryOp op) (gOwn2 cc D) := by
  obtain ⟨dvs, d, hd⟩ := d.ex
  obtain rfl := no_dvs hd
  refine ⟨?_, fun Z pins sh σ H x y v u Q s tx ty I rx ry px py so q => ?_⟩
  · intro s x y Q Q' E E' hq he h
    unfold gOwn2 at h ⊢
    split at h
    · exact ⟨h.1, h.2.1, h.2.2.mon hq he⟩
    · exact h
  unfold gOwn2 at q
  split at q
  · rename_i c fs c' fs' e1 e2
    obtain ⟨rfl, rfl, h3⟩ := q
    obtain ⟨a, dx, fvs, rfl, ha, _⟩ := obj_of so px e1
    obtain ⟨b, dy, gvs, rfl, hb, _⟩ := obj_of so py e2
    cases rx; cases ry
    obtain ⟨f, fd, ps, ds, hc, me, F, bd, dv⟩ := d.ex
    obtain ⟨mA, J, _⟩ := ins_get I.hok ha
    obtain ⟨mB, J', _⟩ := ins_get I.hok hb
    obtain ⟨od, J, _⟩ := J.look
    obtain ⟨od', J', _⟩ := J'.look
    obtain ⟨mm, hF⟩ := I.fr
    subst hm
    refine PySem.W.binop_K hF I.ok.mod.kin J J'.type hsf me.at_ me.fn ?_
    refine wpAny_mono (runG (us := [.ref a, .ref b]) (vs := [.ref a, .ref b]) F (hr.mono hk) bd dv (pass_tk tk) I (.cons rfl (.cons rfl .nil)) ?_) (fun _ _ z => cmpBack_of z) fun _ _ z => z
    exact ⟨Z, [tx, ty], s, .cons px (.cons py .nil), so, h3⟩
  · exact q.elim
/-- an instance and an int -/
def gOwnI (cc : Nat) (D : FD) : S → T → T → KT → KX → Prop := fun s x y Q E => match s.obj? x, y with | some (c, _), .int i => c = cc ∧ cM D [x, .int i] s Q E | _, _ => False
theorem o_ownI (tk : Takes X W) (d : MetM X.prog X.w X.K X.mg X.base cl k cc m D []) (hsf : PySem.W.selfFirst X.K (cl cc) = true) (ht : Tw.OpT X.K (cl cc) "int" op) (hr : Rm j X.A) (hk : k ≤ j) (hm : PySem.dunder op.info.2 = m := by rfl) : Mr.OpT X cl W (binaryOp op) (gOwnI cc D) := by
  obtain ⟨dvs, d, hd⟩ := d.ex
  obtain rfl := no_dvs hd
  refine ⟨?_, fun Z pins sh σ H x y v u Q s tx ty I rx ry px py so q => ?_⟩
  · intro s x y Q Q' E E' hq he h
    unfold gOwnI at h ⊢
    split at h
    · exact ⟨h.1, h.2.mon hq he⟩
    · exact h
  unfold gOwnI at q
  split at q
  · rename_i c fs i e1
    obtain ⟨rfl, h3⟩ := q
    obtain ⟨a, dx, fvs, rfl, ha, _⟩ := obj_of so px e1
    have ey := rep_i py
    subst ey
    cases rx
    obtain ⟨t, rfl⟩ := ry
    obtain ⟨f, fd, ps, ds, hc, me, F, bd, dv⟩ := d.ex
    obtain ⟨mA, J, _⟩ := ins_get I.hok ha
    obtain ⟨od, J, _⟩ := J.look
    obtain ⟨mm, hF⟩ := I.fr
    obtain ⟨⟨rc, h1, h2⟩, ⟨fo, h4⟩, ⟨ro, h5⟩, h6⟩ := ht
    subst hm
    refine PySem.W.ksp_binT (T := "int") hF I.ok.mod.kin J rfl hsf me.at_ me.fn h1 h2 h4 h5 h6 ?_
    refine wpAny_mono (runG (us := [.ref a, .int i t]) (vs := [.ref a, .int i]) F (hr.mono hk) bd dv (pass_tk tk) I (.cons rfl (.cons ⟨t, rfl⟩ .nil)) ?_) (fun _ _ z => cmpBack_of z) fun _ _ z => z
    exact ⟨Z, [tx, .int i], s, .cons px (.cons py .nil), so, h3⟩
  · exact q.elim
/-- an int times an instance -/
def gOwnR (cc : Nat) (D : FD) : S → T → T → KT → KX → Prop := fun s x y Q E => match x, s.obj? y with | .int i, some (c, _) => c = cc ∧ cM D [y, .int i] s Q E | _, _ => False
theorem o_ownR (tk : Takes X W) (d : MetM X.prog X.w X.K X.mg X.base cl k cc "__rmul__" D []) (hsf : PySem.W.selfFirst X.K (cl cc) = true) (hs : ∃ f : Addr, PySem.W.findIn X.K (.ref (cl cc)) "__mul__" = some (some (.ref f))) (hsub : PySem.W.subIn X.K (.ref (cl cc)) (.type "int") = some false) (hr : Rm j X.A) (hk : k ≤ j) :
    Mr.OpT X cl W (binaryOp .Mult) (gOwnR cc D) := by
  obtain ⟨dvs, d, hd⟩ := d.ex
  obtain rfl := no_dvs hd
  refine ⟨?_, fun Z pins sh σ H x y v u Q s tx ty I rx ry px py so q => ?_⟩
  · intro s x y Q Q' E E' hq he h
    unfold gOwnR at h ⊢
    split at h
    · exact ⟨h.1, h.2.mon hq he⟩
    · exact h
  unfold gOwnR at q
  split at q
  · rename_i i c fs e1
    obtain ⟨rfl, h3⟩ := q
    obtain ⟨a, dx, fvs, rfl, ha, _⟩ := obj_of so py e1
    have ey := rep_i px
    subst ey
    cases ry
    obtain ⟨t, rfl⟩ := rx
    obtain ⟨f, fd, ps, ds, hc, me, F, bd, dv⟩ := d.ex
    obtain ⟨f0, hs⟩ := hs
    obtain ⟨mA, J, _⟩ := ins_get I.hok ha
    obtain ⟨od, J, _⟩ := J.look
    refine rmul_K I.kIn J hsf hs me.at_ me.fn hsub ?_
    refine wpAny_mono (runG (us := [.ref a, .int i t]) (vs := [.ref a, .int i]) F (hr.mono hk) bd dv (pass_tk tk) I (.cons rfl (.cons ⟨t, rfl⟩ .nil)) ?_) (fun _ _ z => cmpBack_of z) fun _ _ z => z
    exact ⟨Z, [ty, .int i], s, .cons py (.cons px .nil), so, h3⟩
  · exact q.elim
/-- what is done with an instance of the class cc -/
def kObj (cc : Nat) (s : S) (x : T) (P : Prop) : Prop := match s.obj? x with | some (c, _) => c = cc ∧ P | none => False
theorem kObj.mon {s : S} {x : T} {P P' : Prop} (h : P → P') (q : kObj cc s x P) : kObj cc s x P' := by
  unfold kObj at q ⊢
  split at q
  · exact ⟨q.1, h q.2⟩
  · exact q
theorem kObj.get {K : PySem.W.Frag} {Z : Addr → Prop} {s : S} {H : Hp} {v : V} {t : T} {P : Prop} (so : Sto K cl Z s H) (r : Rep K cl Z s H v t) (q : kObj cc s t P) : ∃ a dx fvs, v = .ref a ∧ H a = some (.ins (cl cc) dx fvs) ∧ P := by
  unfold kObj at q
  split at q
  · rename_i c fs e
    obtain ⟨rfl, p⟩ := q
    obtain ⟨a, dx, fvs, h1, h2, _⟩ := obj_of so r e
    exact ⟨a, dx, fvs, h1, h2, p⟩
  · exact q.elim
variable {e o fe : Expr} {es : List Expr} {Fa Fo : FE} {A : FA} {pos pp apos : Pos} {x : Str}
/-- - of an instance -/
def fNegO (cc : Nat) (D : FD) (Fa : FE) : FE := fun τ s Q E => Fa τ s (fun x s1 => kObj cc s1 x (cM D [x] s1 Q E)) E
theorem mon_negO (ma : MonE Fa) : MonE (fNegO cc D Fa) := fun τ s Q Q' E E' hq he h => ma _ _ _ _ _ _ (fun x s1 h1 => h1.mon fun q => q.mon hq he) he h
def tUnW (C : Addr) (sp : Sp) (W : WX) (ta : TE) : TE := fun σ H Q => ta σ H fun x H1 => ∃ a dx fs, x = .ref a ∧ H1 a = some (.ins C dx fs) ∧ sp [.ref a] H1 Q (fun c d H' => W c d σ H')
theorem je_negO (tk : Takes X W) (d : MetM X.prog X.w X.K X.mg X.base cl k cc "__neg__" D []) (hr : Rm j X.A) (hk : k ≤ j) (ha : JE X cl W e Fa) : JE X cl W (.UnaryOp .USub e pos) (fNegO cc D Fa) := by
  obtain ⟨dvs, d, hd⟩ := d.ex
  obtain rfl := no_dvs hd
  refine ⟨mon_negO ha.mon, ⟨fun pins sh σ H Q I h => ?_⟩⟩
  obtain ⟨Z, τ, s, re, so, h⟩ := h
  have h' : tT X.K cl W Fa σ H fun x H1 => ∃ a dx fs, x = .ref a ∧ H1 a = some (.ins (cl cc) dx fs) ∧ spM X.K cl D [.ref a] H1 Q (fun c d H' => W c d σ H') := by
    refine go ha.mon re so h (fun tx s1 x H1 p1 f1 re1 r1 so1 => ?_) fun _ _ q => q
    obtain ⟨a, dx, fvs, rfl, h2, p⟩ := p1.get so1 r1
    exact ⟨a, dx, fvs, rfl, h2, Z, [tx], s1, .cons r1 .nil, so1, p.mon (fun _ _ q => post.up f1 q) fun _ _ q => postX.up f1 q⟩
  refine wpAny_UnaryOp (thn (ha.pe.run pins sh σ H _ I h') ?_)
  rintro u s1 ⟨y, H1, I1, ry, a, dx, fs, rfl, ea, q⟩
  cases ry
  obtain ⟨f, fd, ps, ds, hc, me, F, bd, dv⟩ := d.ex
  obtain ⟨mA, J, _⟩ := ins_get I1.hok ea
  obtain ⟨od, J, _⟩ := J.look
  obtain ⟨mm, hF⟩ := I1.fr
  refine PySem.W.ksp_neg hF I1.ok.mod.kin J me.at_ me.fn ?_
  exact runG (us := [.ref a]) (vs := [.ref a]) F (hr.mono hk) bd dv (pass_tk tk) I1 (.cons rfl .nil) q
end
end Mr

/-! The mirror layer: instances that are called, static methods, properties. -/
namespace Mr
open PySem PySem.Spec PyProof.Rows L2 Tw
section
variable {X : Cx} {cl : Nat → Addr} {W : WX} {k j cc : Nat} {D : FD} {m : Str} {C : Addr} {sp : Sp}
variable {e o fe : Expr} {es : List Expr} {Fa Fo : FE} {A : FA} {pos pp apos : Pos} {x : Str} {tf : TE} {t : TA}
/-- f(e, ..), f an instance -/
def fOwnC (cc : Nat) (D : FD) (Fa : FE) (A : FA) : FE := fun τ s Q E => Fa τ s (fun x s1 => kObj cc s1 x (A τ s1 (fun ts s2 => kObj cc s2 x (cM D (x :: ts) s2 Q E)) E)) E
theorem mon_ownC (ma : MonE Fa) (mb : MonA A) : MonE (fOwnC cc D Fa A) := fun τ s Q Q' E E' hq he h => ma _ _ _ _ _ _ (fun x s1 h1 => h1.mon fun q => mb _ _ _ _ _ _ (fun ts s2 h2 => h2.mon fun q => q.mon hq he) he q) he h
theorem ownC_go {σ : L2.St} {H : Hp} {Q : VK} (ma : MonE Fa) (mb : MonA A) (h : tT X.K cl W (fOwnC cc D Fa A) σ H Q) :
    tT X.K cl W Fa σ H fun y H1 => ∃ a, y = .ref a ∧ tTA X.K cl W A σ H1 fun vs H2 => (∃ dx fs, H2 a = some (.ins (cl cc) dx fs)) ∧ spM X.K cl D (.ref a :: vs) H2 Q (fun c d H' => W c d σ H') := by
  obtain ⟨Z, τ, s, re, so, h⟩ := h
  refine go ma re so h (fun tx s1 x H1 p1 f1 re1 r1 so1 => ?_) fun _ _ q => q
  obtain ⟨a, dx, fvs, rfl, h2, p⟩ := p1.get so1 r1
  refine ⟨a, rfl, goA mb re1 so1 p (fun ts s2 vs H2 p2 f2 re2 r2 so2 => ?_) fun _ _ q => postW.up f1 q⟩
  have r1' := r1.fut f2
  obtain ⟨a', dx2, fvs2, e2, h3, p3⟩ := p2.get so2 r1'
  cases e2
  exact ⟨⟨dx2, fvs2, h3⟩, Z, tx :: ts, s2, .cons r1' r2, so2, p3.mon (fun _ _ q => post.up (f1.trans f2) q) fun _ _ q => postX.up (f1.trans f2) q⟩
theorem goOwnW {pins : List (Addr × Obj)} {σ : L2.St} {H : Hp} {s : Shared} {Q : VK} {a : Addr} {us : List Value} {vs : List V} (tk : Takes X W) (c : Met X.prog X.w X.K X.mg X.base k C "__call__" sp []) (fi : ∀ f, PySem.W.findIn X.K (.ref C) "__call__" = some (some (.ref f)) → PySem.W.fnIn X.K f = true)
    (hr : Rm j X.A) (hk : k ≤ j) (I : Inv X pins σ H s) (hi : ∃ dx fs, H a = some (.ins C dx fs)) (r : Vals vs us) (h : sp (.ref a :: vs) H Q (fun c d H' => W c d σ H')) : wpAny (model X.prog X.w) X.A (call (.ref a) us) (EP X pins σ Q) X.xe s := by
  obtain ⟨f, fd, ps, ds, hc, me, F, bd, dv⟩ := c.ex
  obtain ⟨dx, fs, ha⟩ := hi
  obtain ⟨mA, J, _⟩ := ins_get I.hok ha
  obtain ⟨od, J, _⟩ := J.look
  have r2 : Vals (.ref a :: vs) (.ref a :: us) := Paired.cons rfl r
  have dn : ds = [] := by cases dv; rfl
  subst dn
  have hl : (Value.ref a :: us ++ []).length = ps.length := by
    rw [List.append_nil]
    exact r2.length.symm.trans (F.len _ _ _ _ h)
  have b2 := bd s (.ref a :: us) I.kIn hl
  rw [List.append_nil] at b2
  refine wpAny_call (PySem.W.kco_code I.kIn J rfl me.at_ me.fn (fi f me.at_) (codeAny_mono (F.run X.A X.stack s H ⟨.ref a :: us, []⟩ (.ref a :: us) (.ref a :: vs) Q _ (hr.mono hk) I.env0 b2 r2 h) ?_))
  intro res s' z
  match res, z with
  | .error e, z => exact pass_tk tk H s e s' I z
  | .ok (.ret u), z => exact I.after z
  | .ok .next, z => exact False.elim z
  | .ok .brk, z => exact False.elim z
  | .ok .cont, z => exact False.elim z
theorem je_ownN (tk : Takes X W) (d : MetM X.prog X.w X.K X.mg X.base cl k cc "__call__" D []) (fi : ∀ f, PySem.W.findIn X.K (.ref (cl cc)) "__call__" = some (some (.ref f)) → PySem.W.fnIn X.K f = true) (hr : Rm j X.A) (hk : k ≤ j) (hf : JE X cl W (.Name x pp) Fa) (ha : JA X cl W (e :: es) A)
    (he : starEach (e :: es) X.env = (false, eval e X.env) :: starEach es X.env := by rfl) (hpl : (backTo pos (starEach es X.env)).any (·.1) = false := by rfl) : JE X cl W (.Call (.Name x pp) (e :: es) [] pos) (fOwnC cc D Fa A) := by
  obtain ⟨dvs, d, hd⟩ := d.ex
  obtain rfl := no_dvs hd
  refine ⟨mon_ownC hf.mon ha.mon, ⟨fun pins s σ H Q I h => ?_⟩⟩
  refine wpAny_Call_Name_kw (thn (hf.pe.run pins s σ H _ I (ownC_go hf.mon ha.mon h)) ?_)
  rintro u s1 ⟨y, H1, I1, ry, a, rfl, q⟩
  cases ry
  refine StX.callO_with (thn (ha.pa.run pos pins s1 σ H1 _ I1 q) ?_) he hpl
  rintro us s2 ⟨vs, H2, I2, r, hi, q2⟩
  obtain ⟨dx, fs, hh⟩ := id hi
  obtain ⟨mA, J, _⟩ := ins_get I2.hok hh
  obtain ⟨od, J, _⟩ := J.look
  exact ⟨⟨_, _, _, J, rfl⟩, goOwnW tk d fi hr hk I2 hi r q2⟩
theorem je_ownE (tk : Takes X W) (d : MetM X.prog X.w X.K X.mg X.base cl k cc "__call__" D []) (fi : ∀ f, PySem.W.findIn X.K (.ref (cl cc)) "__call__" = some (some (.ref f)) → PySem.W.fnIn X.K f = true) (hr : Rm j X.A) (hk : k ≤ j) (hf : JE X cl W fe Fa) (ha : JA X cl W (e :: es) A)
    (ht : eval (.Call fe (e :: es) [] pos) X.env = (do callWith pos (← eval fe X.env) [] (backTo pos (starEach (e :: es) X.env)) (backToKw pos (keywordEach [] X.env))) := by rfl)
    (he : starEach (e :: es) X.env = (false, eval e X.env) :: starEach es X.env := by rfl) (hpl : (backTo pos (starEach es X.env)).any (·.1) = false := by rfl) : JE X cl W (.Call fe (e :: es) [] pos) (fOwnC cc D Fa A) := by
  obtain ⟨dvs, d, hd⟩ := d.ex
  obtain rfl := no_dvs hd
  refine ⟨mon_ownC hf.mon ha.mon, ⟨fun pins s σ H Q I h => ?_⟩⟩
  refine Call_ (thn (hf.pe.run pins s σ H _ I (ownC_go hf.mon ha.mon h)) ?_) ht
  rintro u s1 ⟨y, H1, I1, ry, a, rfl, q⟩
  cases ry
  refine StX.callO_with (thn (ha.pa.run pos pins s1 σ H1 _ I1 q) ?_) he hpl
  rintro us s2 ⟨vs, H2, I2, r, hi, q2⟩
  obtain ⟨dx, fs, hh⟩ := id hi
  obtain ⟨mA, J, _⟩ := ins_get I2.hok hh
  obtain ⟨od, J, _⟩ := J.look
  exact ⟨⟨_, _, _, J, rfl⟩, goOwnW tk d fi hr hk I2 hi r q2⟩
/-! ### static methods -/
structure StaM (P : Program) (w : World) (K : PySem.W.Frag) (mg : Str → Option Value) (base : Heap) (cl : Nat → Addr) (k : Nat) (c : Nat) (m : Str) (F : FD) (dts : List T) : Prop where
  ex : ∃ dvs, Sta P w K mg base k (cl c) m (spM K cl F) dvs ∧ ∀ Z s H, Reps K cl Z s H dvs dts
theorem je_sta {c : Nat} {dts : List T} {pl : Sem Bool} (tk : Takes X W) (d : StaM X.prog X.w X.K X.mg X.base cl k c m D dts) (hr : Rm j X.A) (hk : k ≤ j) (hg : Gl X x) (hm : X.mg x = some (.ref (cl c))) (ha : JA X cl W (e :: es) A) (hdb : (x == ("__debug__" : Str)) = false := by decide)
    (hst : starEach (e :: es) X.env = (false, eval e X.env) :: starEach es X.env := by rfl) (hpl : (backTo pos (starEach es X.env)).any (·.1) = false := by rfl)
    (ht : eval (.Call (.Attribute (.Name x pp) m apos) (e :: es) [] pos) X.env = (do
      let ov ← eval (.Name x pp) X.env
      standAt apos.atName
      let (g, first) ← holding [ov] (getMethod ov m pl)
      callWith pos g first (backTo pos (starEach (e :: es) X.env)) (backToKw pos (keywordEach [] X.env))) := by rfl) : JE X cl W (.Call (.Attribute (.Name x pp) m apos) (e :: es) [] pos) (fCall D dts A) := by
  obtain ⟨dvs, d, hd⟩ := d.ex
  refine ⟨mon_call ha.mon, PE.imp (pe_smW (pl := pl) tk d hr hk (C8.pe_gc (v := .ref (cl c)) hg ⟨_, hm, rfl⟩ hdb) ha.pa hst hpl ht) ?_⟩
  rintro σ H Q ⟨Z, τ, s, re, so, h⟩
  exact ⟨rfl, goA ha.mon re so h (fun ts s1 vs H1 p1 f1 re1 r1 so1 => sp_of f1 r1 hd so1 p1) fun _ _ q => q⟩
/-! ### properties -/
structure ProM (P : Program) (w : World) (K : PySem.W.Frag) (mg : Str → Option Value) (base : Heap) (cl : Nat → Addr) (k : Nat) (c : Nat) (f : Str) (F : FD) : Prop where
  ex : ∃ (p g : Addr) (fd : FuncData) (ps : List Str), Cls K (cl c) ∧ PropOf K (cl c) f p g ∧ FnG P w K mg base k g fd ps (spM K cl F) ∧ Binds K fd ps []
def fPro (cc : Nat) (D : FD) (Fa : FE) : FE := fun τ s Q E => Fa τ s (fun x s1 => kObj cc s1 x (cM D [x] s1 Q noX)) E
theorem mon_pro (ma : MonE Fa) : MonE (fPro cc D Fa) := fun τ s Q Q' E E' hq he h => ma _ _ _ _ _ _ (fun x s1 h1 => h1.mon fun q => q.mon hq fun _ _ z => z) he h
theorem je_pro {f : Str} (d : ProM X.prog X.w X.K X.mg X.base cl k cc f D) (hr : Rm (j + 1) X.A) (hk : k ≤ j) (he : JE X cl W e Fa) (hab : attributeBase e f X.env (eval e X.env) = eval e X.env := by rfl) : JE X cl W (.Attribute e f pos) (fPro cc D Fa) := by
  refine ⟨mon_pro he.mon, ⟨fun pins sh σ H Q I h => ?_⟩⟩
  obtain ⟨Z, τ, s, re, so, h⟩ := h
  obtain ⟨p, g, fd, ps, hc, hp, F, hb⟩ := d.ex
  have h' : tT X.K cl W Fa σ H fun x H1 => ∃ a dx fs, x = .ref a ∧ H1 a = some (.ins (cl cc) dx fs) ∧ spM X.K cl D [.ref a] H1 Q E0 := by
    refine go he.mon re so h (fun tx s1 x H1 p1 f1 re1 r1 so1 => ?_) fun _ _ q => q
    obtain ⟨a, dx, fvs, rfl, h2, p⟩ := p1.get so1 r1
    exact ⟨a, dx, fvs, rfl, h2, Z, [tx], s1, .cons r1 .nil, so1, p.mon (fun _ _ q => post.up f1 q) fun _ _ q => noX_post q⟩
  refine attr_of hab (thn (he.pe.run pins sh σ H _ I h') ?_)
  rintro u s1 ⟨y, H1, I1, ry, a, dx, fs, rfl, ea, q⟩
  cases ry
  obtain ⟨mA, O, _⟩ := ins_get I1.hok ea
  obtain ⟨od, J, _⟩ := O.look
  obtain ⟨rest, hrec⟩ := hp.rec_
  have I2 := I1.tok (s1.toks + 1)
  have hl : [Value.ref a].length = ps.length := F.len _ _ _ _ q
  have hcs : (PySem.W.clsIn X.K (cl cc)).isSome = true := by
    obtain ⟨cd, h1, _⟩ := PySem.W.any_some hc.hd
    rw [h1]
    rfl
  have b2 := hb { s1 with toks := s1.toks + 1 } [.ref a] I2.kIn hl
  rw [List.append_nil] at b2
  refine PySem.W.get_bind I1.kIn J (PySem.W.plainGet_of (hc.get f)).1 (PySem.W.findObj_data hcs hp.at_ hp.get hp.tak) (PySem.W.plainGet_of (hc.get f)).2 (wpAny_call (PySem.W.prop_get (s := { s1 with toks := s1.toks + 1 }) I1.kIn hrec ?_))
  refine codeAny_mono (F.run X.A.in1 X.stack { s1 with toks := s1.toks + 1 } H1 ⟨[.ref a], []⟩ [.ref a] [.ref a] Q _ ((hr.in1).mono hk) I2.env0.in1 b2 (.cons rfl .nil) q) fun r s' hq => ?_
  cases r with
  | error er => exact False.elim (passL (X := X.nox) pins σ H1 { s1 with toks := s1.toks + 1 } er s' (I2.wish _) hq)
  | ok fl =>
    cases fl with
    | ret u =>
      obtain ⟨v, H', I3, rv, q3⟩ := I2.after hq
      show wpAny _ _ (handedOut u) _ _ _
      rw [PySem.W.handedOut_of (handed_of rv)]
      exact wpAny_pure ⟨v, H', I3, rv, q3⟩
    | next => exact False.elim hq
    | brk => exact False.elim hq
    | cont => exact False.elim hq
end
section
variable {P : Program} {w : World} {K : PySem.W.Frag} {mg : Str → Option Value} {base : Heap} {cl : Nat → Addr} {k c : Nat} {m qual : Str} {st : Stmt} {ps : List Str} {dvs : List V} {dts : List T} {D : FD}
theorem staOf (d : StaAt K (cl c) m qual st ps dvs) (hd : ∀ Z s H, Reps K cl Z s H dvs dts) (fn : ∀ {y : Str} {f : Addr} {fd : FuncData}, C8.Fun K y qual st f fd → FnG P w K mg base k f fd ps (spM K cl D)) : StaM P w K mg base cl k c m D dts := by
  obtain ⟨mc, p, g, fd, ds, S, F, b, v⟩ := d.ex
  exact ⟨dvs, ⟨mc, p, g, fd, ps, ds, S, fn F, b, v⟩, hd⟩
structure ProAt (K : PySem.W.Frag) (C : Addr) (m qual : Str) (st : Stmt) (ps : List Str) : Prop where
  ex : ∃ (p g : Addr) (fd : FuncData), Cls K C ∧ PropOf K C m p g ∧ C8.Fun K m qual st g fd ∧ Binds K fd ps []
theorem proOf (d : ProAt K (cl c) m qual st ps) (fn : ∀ {y : Str} {f : Addr} {fd : FuncData}, C8.Fun K y qual st f fd → FnG P w K mg base k f fd ps (spM K cl D)) : ProM P w K mg base cl k c m D := by
  obtain ⟨p, g, fd, C, S, F, b⟩ := d.ex
  exact ⟨p, g, fd, ps, C, S, fn F, b⟩
end
end Mr

/-! The mirror layer: dicts of the module, with texts as keys. -/
namespace Mr
open PySem PySem.Spec PyProof.Rows L2 Tw
/-- the entries, as a table of trees -/
inductive EntT (K : PySem.W.Frag) (cl : Nat → Addr) : List DictEntry → List (Str × T) → Prop
  | nil : EntT K cl [] []
  | cons {en : DictEntry} {z : Str} {t : T} {es : List DictEntry} {tab : List (Str × T)} : (∃ tk, en.key = .str z tk) → (∃ v, RelV v en.val ∧ ∀ Z s H, Rep K cl Z s H v t) → EntT K cl es tab → EntT K cl (en :: es) ((z, t) :: tab)
structure KDt (K : PySem.W.Frag) (w : World) (cl : Nat → Addr) (d : Addr) (tab : List (Str × T)) : Prop where
  ex : ∃ es n, KDict K w d es n ∧ EntT K cl es.toList tab
section
variable {K : PySem.W.Frag} {cl : Nat → Addr} {w : World} {d : Addr} {tab : List (Str × T)}
theorem EntT.find : ∀ {es : List DictEntry} {tab : List (Str × T)} (z : Str), EntT K cl es tab →
    match tab.lookup z with
    | some t => ∃ en, es.find? (·.key.isStr z) = some en ∧ ∃ v, RelV v en.val ∧ ∀ Z s H, Rep K cl Z s H v t
    | none => es.find? (·.key.isStr z) = none ∧ es.any (·.refKey) = false
  | _, _, z, .nil => ⟨rfl, rfl⟩
  | _, _, z, .cons (en := en) (z := y) (t := t) (es := es) (tab := tab) ⟨tk, ek⟩ hv r => by
    have ih := EntT.find z r
    have e1 : en.key.isStr z = (y == z) := by rw [ek]; rfl
    have e2 : en.refKey = false := by unfold DictEntry.refKey; rw [ek]
    rw [List.lookup_cons]
    by_cases q : z = y
    · subst q
      rw [beq_self_eq_true]
      refine ⟨en, ?_, hv⟩
      rw [List.find?_cons, e1, beq_self_eq_true]
    · have n1 : (z == y) = false := beq_eq_false_iff_ne.mpr q
      have n2 : (y == z) = false := beq_eq_false_iff_ne.mpr (Ne.symm q)
      rw [n1]
      show (match tab.lookup z with | some t => _ | none => _)
      split
      · rename_i t' e
        rw [e] at ih
        obtain ⟨en', h1, h2⟩ := ih
        exact ⟨en', by rw [List.find?_cons, e1, n2]; exact h1, h2⟩
      · rename_i e
        rw [e] at ih
        exact ⟨by rw [List.find?_cons, e1, n2]; exact ih.1, by rw [List.any_cons, e2, ih.2]; rfl⟩
theorem KDt.ns (D : KDt K w cl d tab) (z : Str) : match tab.lookup z with
    | some t => ∃ u v, PySem.W.nsIn K d z = some (some u) ∧ RelV v u ∧ ∀ Z s H, Rep K cl Z s H v t
    | none => PySem.W.nsIn K d z = some none := by
  obtain ⟨es, n, D, E⟩ := D.ex
  have h := E.find z
  split
  · rename_i t e
    rw [e] at h
    obtain ⟨en, h1, v, h2, h3⟩ := h
    refine ⟨en.val, v, ?_, h2, h3⟩
    unfold PySem.W.nsIn
    rw [D.at_]
    show (match es.toList.find? _ with | some e => _ | none => _) = _
    rw [h1]
  · rename_i e
    rw [e] at h
    unfold PySem.W.nsIn
    rw [D.at_]
    show (match es.toList.find? _ with | some e => _ | none => _) = _
    rw [h.1]
    show (if es.toList.any _ = true then _ else _) = _
    rw [h.2]
    rfl
theorem KDt.is (D : KDt K w cl d tab) (z : Str) : ∃ r : Option Value, PySem.W.nsIn K d z = some r ∧ r.isSome = (tab.lookup z).isSome := by
  have h := D.ns z
  split at h
  · rename_i t e
    obtain ⟨u, v, h1, _⟩ := h
    exact ⟨_, h1, by rw [e]; rfl⟩
  · rename_i e
    exact ⟨_, h, by rw [e]; rfl⟩
theorem EntT.get : ∀ {es : List DictEntry} {tab : List (Str × T)} (i : Nat) {t : T}, EntT K cl es tab → (tab.map fun p => T.str p.1)[i]? = some t → ∃ en z tk, es[i]? = some en ∧ en.key = .str z tk ∧ t = .str z
  | _, _, i, t, .nil, e => by simp at e
  | _, _, 0, t, .cons ⟨tk, ek⟩ _ _, e => by
    simp only [List.map_cons, List.getElem?_cons_zero, Option.some.injEq] at e
    exact ⟨_, _, tk, rfl, ek, e.symm⟩
  | _, _, i + 1, t, .cons _ _ r, e => by
    simp only [List.map_cons, List.getElem?_cons_succ] at e
    exact r.get i e
theorem EntT.length : ∀ {es : List DictEntry} {tab : List (Str × T)}, EntT K cl es tab → es.length = tab.length
  | _, _, .nil => rfl
  | _, _, .cons _ _ r => congrArg (· + 1) r.length
end
section
variable {X : Cx} {cl : Nat → Addr} {W : WX} {d : Addr} {tab : List (Str × T)} {tg e a b : Expr} {Fa Fb : FE} {pos : Pos}
/-- z in d, z not in d -/
def gInK (neg : Bool) (d : Addr) (tab : List (Str × T)) : S → T → T → KT → KX → Prop := fun s x y Q _ => match x, y with | .str z, .cell c => c = d ∧ Q (.bl (xor neg (tab.lookup z).isSome)) s | _, _ => False
theorem mon_inK {neg : Bool} : Mon2 (gInK neg d tab) := by
  intro s x y Q Q' E E' hq he h
  unfold gInK at h ⊢
  split at h
  · exact ⟨h.1, hq _ _ h.2⟩
  · exact h
theorem rep_cell {K : PySem.W.Frag} {Z : Addr → Prop} {s : S} {H : Hp} {v : V} {c : Addr} (r : Rep K cl Z s H v (.cell c)) : v = .ref c := by cases r; rfl
theorem o_inK (D : KDt X.K X.w cl d tab) : Mr.OpT X cl W (compareOp .In) (gInK false d tab) := by
  obtain ⟨es, n, D0, _⟩ := D.ex
  refine Mr.OpT.of mon_inK (op_in_kd D0) fun Z H x y Q s tx ty E px py so q => ?_
  unfold gInK at q
  split at q
  · rename_i z c
    obtain ⟨rfl, q⟩ := q
    obtain ⟨r, h1, h2⟩ := D.is z
    rw [Bool.false_xor] at q
    exact ⟨z, r, rep_s px, rep_cell py, h1, by rw [h2]; exact q.here (.bl _) so⟩
  · exact q.elim
theorem o_ninK (D : KDt X.K X.w cl d tab) : Mr.OpT X cl W (compareOp .NotIn) (gInK true d tab) := by
  obtain ⟨es, n, D0, _⟩ := D.ex
  refine Mr.OpT.of mon_inK (op_notIn_kd D0) fun Z H x y Q s tx ty E px py so q => ?_
  unfold gInK at q
  split at q
  · rename_i z c
    obtain ⟨rfl, q⟩ := q
    obtain ⟨r, h1, h2⟩ := D.is z
    rw [Bool.true_xor] at q
    exact ⟨z, r, rep_s px, rep_cell py, h1, by rw [h2]; exact q.here (.bl _) so⟩
  · exact q.elim
/-- d[z], z a key -/
def gIxK (d : Addr) (tab : List (Str × T)) : S → T → T → KT → KX → Prop := fun s x y Q _ => match x, y with | .cell c, .str z => c = d ∧ (match tab.lookup z with | some t => Q t s | none => False) | _, _ => False
theorem je_ixK (D : KDt X.K X.w cl d tab) (ha : JE X cl W a Fa) (hb : JE X cl W b Fb) (hs : PlainIx b) : JE X cl W (.Subscript a b pos) (f2 (gIxK d tab) Fa Fb) := by
  have mg : Mon2 (gIxK d tab) := by
    intro s x y Q Q' E E' hq he h
    unfold gIxK at h ⊢
    split at h
    · refine ⟨h.1, ?_⟩
      have h2 := h.2
      split at h2
      · exact hq _ _ h2
      · exact h2
    · exact h
  refine ⟨mon_2 mg ha.mon hb.mon, PE.imp (pe_ix ix_kdict ha.pe hb.pe hs) ?_⟩
  rintro σ H Q ⟨Z, τ, s, re, so, h⟩
  refine go ha.mon re so h (fun tx s1 x H1 p1 f1 re1 r1 so1 => ?_) fun _ _ q => q
  refine go hb.mon re1 so1 p1 (fun ty s2 y H2 p2 f2 re2 r2 so2 => ?_) fun _ _ q => postW.up f1 q
  unfold gIxK at p2
  split at p2
  · rename_i c z
    obtain ⟨rfl, q⟩ := p2
    have hn := D.ns z
    split at q
    · rename_i t e
      rw [e] at hn
      obtain ⟨u, v, h1, h2, h3⟩ := hn
      obtain ⟨es, n, D0, _⟩ := D.ex
      exact ⟨c, z, v, rep_cell r1, rep_s r2, ⟨es, n, u, D0.at_, D0.lit, h1, h2⟩, (post.up (f1.trans f2) q).here (h3 _ _ _) so2⟩
    · exact q.elim
  · exact p2.elim
/-- the keys, in their order -/
def ItK (tab : List (Str × T)) : It := ⟨fun i _ => i < tab.length, fun i H x H' => H' = H ∧ ∃ p, tab[i]? = some p ∧ x = .str p.1, fun i _ => tab.length ≤ i⟩
theorem turnK {P : Program} {w : World} {K : PySem.W.Frag} {es : Array DictEntry} {n : Nat} (it : Addr) (D : KDict K w d es n) (E : EntT K cl es.toList tab) : Turn P w K tg (ItK tab) [it] it (fun i h => h.IsKeyIter it d i tab.length n) := by
  have hz : es.size = tab.length := by rw [← E.length]; exact Array.length_toList.symm
  refine ⟨by simp, fun i h st b hb => ?_, fun i h h' st k => st.at fun oi e => k it (by simp) oi e, ?_, ?_, fun A i s Q E st h => wpAny_pyIter_keyiter st h⟩
  · have e : b = it := by simpa using hb
    subst e
    obtain ⟨oi, e, c, dd⟩ := st
    exact ⟨oi, e, fun v z => by rw [dd] at z; cases z⟩
  · intro X hP hw hK hc i pins s σ H E' I hf st hg
    subst hP hw hK
    obtain ⟨f0, f1, f2, f3, f4, f5⟩ := hf it (by simp)
    obtain ⟨⟨z, t⟩, hp⟩ : ∃ p, tab[i]? = some p := ⟨tab[i]'hg, List.getElem?_eq_getElem hg⟩
    obtain ⟨en, z', tk, h1, h2, h3⟩ := E.get (t := .str z) i (by rw [List.getElem?_map, hp]; rfl)
    cases h3
    have h1' : es[i]? = some en := by rw [← Array.getElem?_toList]; exact h1
    refine next_key_item st (I.kIn _ _ D.at_) rfl hz h1' fun h' st' sb => ?_
    have I1 : Inv X pins σ H { s with heap := h' } := I.turned (t' := s.toks) (fun b ob hb e => (sb.2 b hb).trans e) f0 f1 f3 f4 f5
    obtain ⟨oi, e, c, dd⟩ := id st'
    exact ⟨en.key, rfl, go_of (s := { s with heap := h' }) e c dd (by decide) ⟨.str z, H, I1, ⟨tk, h2⟩, ⟨rfl, _, hp, rfl⟩, st', fun b hb => (hf b hb).1⟩⟩
  · intro X hP hw hK hc i pins s σ H E' I hf st hg
    subst hP hw hK
    obtain ⟨f0, f1, f2, f3, f4, f5⟩ := hf it (by simp)
    exact next_key_end (I.ok.hd hc) st (I.kIn _ _ D.at_) rfl hz hg fun h' eb => ⟨rfl, I.turned (t' := s.toks) (fun b ob hb e => eb b ob hb e) f0 f1 f3 f4 f5⟩
def iKeyK (d : Addr) (tab : List (Str × T)) (Fa : FE) : FI := fun τ s Q E => Fa τ s (fun x s1 => match x with | .cell c => c = d ∧ Q (tab.map fun p => .str p.1) (fun _ => True) s1 | _ => False) E
theorem ji_keysK (D : KDt X.K X.w cl d tab) (ha : JE X cl W e Fa) : JI X cl W tg e (iKeyK d tab Fa) := by
  refine ⟨fun τ s Q Q' E E' hq he h => ha.mon _ _ _ _ _ _ (fun x s1 h1 => ?_) he h, ⟨fun pins sh σ H R I h => ?_⟩⟩
  · split at h1
    · exact ⟨h1.1, hq _ _ _ h1.2⟩
    · exact h1
  obtain ⟨Z, τ, s, re, so, h⟩ := h
  obtain ⟨es, n, D0, E⟩ := D.ex
  have hz : es.size = tab.length := by rw [← E.length]; exact Array.length_toList.symm
  have h' : tT X.K cl W Fa σ H fun x H1 => x = .ref d ∧ R (ItK tab) H1 := by
    refine go ha.mon re so h (fun tx s1 x H1 p1 f1 re1 r1 so1 => ?_) fun _ _ q => q
    split at p1
    · obtain ⟨rfl, q⟩ := p1
      refine ⟨rep_cell r1, q _ _ f1 so1 ⟨fun Z' s2 H2 i t f zz ok so2 e => ?_, fun Z' s2 H2 i f zz ok so2 e => ?_⟩⟩
      · have hi : i < tab.length := by
          have := (List.getElem?_eq_some_iff.mp e).1
          rwa [List.length_map] at this
        refine ⟨hi, ?_⟩
        rintro y H' ⟨rfl, p, hp, rfl⟩
        rw [List.getElem?_map, hp] at e
        cases e
        exact ⟨Fut.refl _ _, so2, .str _⟩
      · rw [List.length_map] at e
        exact e
    · exact p1.elim
  refine thn (ha.pe.run pins sh σ H _ I h') fun u s1 ⟨x, H1, I1, rx, ex, q⟩ => ?_
  subst ex
  obtain rfl : u = Value.ref d := rx
  refine iter_keys D0.low (I1.kIn _ _ D0.at_) ⟨rfl, rfl, rfl⟩ rfl (pi_one (tk := s1.toks) I1 _ (turnK _ D0 E) ⟨_, Heap.get?_push_size _ rfl, rfl, ?_⟩ q)
  rw [hz] <;> rfl
end
section
variable {X : Cx} {cl : Nat → Addr} {W : WX} {k : Nat} {pos : Pos} {x : Str} {t : T}
/-- a constant of the module, as a tree -/
theorem je_globR (hg : Gl X x) (h : ∃ u v, X.mg x = some u ∧ RelV v u ∧ ∀ Z s H, Rep X.K cl Z s H v t) (hd : (x == ("__debug__" : Str)) = false := by decide) : JE X cl W (.Name x pos) (fC t) := by
  obtain ⟨u, v, h1, h2, h3⟩ := h
  exact je_glob hg ⟨u, h1, h2⟩ h3 hd
/-- as eqO, and lists of one empty dict -/
def eqE : O2
  | _, .lst [.dct []], .lst [.dct []] => some (True, .bl true)
  | s, x, y => eqO s x y
theorem o_eqE (hr : Rm k X.A) : Mr.OpT X cl W (compareOp .Eq) (g2 eqE) := by
  have h0 : Mr.OpT X cl W (compareOp .Eq) (g2 eqO) := o_eq hr
  refine ⟨mon_g2 _, fun Z pins sh σ H x y v u Q s tx ty I rx ry px py so q => ?_⟩
  unfold g2 eqE at q
  split at q
  · rename_i c t e
    split at e
    · cases e
      cases px with
      | lst h1 n1 r1 =>
        cases py with
        | lst h2 n2 r2 =>
          obtain ⟨v1, rfl, w1⟩ := reps1 r1
          obtain ⟨v2, rfl, w2⟩ := reps1 r2
          cases w1 with
          | dct k1 _ q1 =>
            cases w2 with
            | dct k2 _ q2 =>
              cases q1
              cases q2
              refine op_eqV hr.u pins sh σ H _ _ v u Q I rx ry ⟨1, by decide, .inl ⟨_, _, _, _, rfl, rfl, SqL.of h1, SqL.of h2, ?_⟩, q.2.here (.bl _) so⟩
              exact .cons (.inr (.inr (.inr ⟨_, _, [], [], rfl, rfl, k1, k2, rfl, fun p hp => by cases hp⟩))) .nil
    · exact h0.run Z pins sh σ H x y v u Q s tx ty I rx ry px py so (by unfold g2; rw [e]; exact q)
  · exact q.elim
end
theorem rows_madeC : True := by
  have := @Mr.gOwn2.eq_1
  have := @Mr.gOwnI.eq_1
  have := @Mr.gOwnR.eq_1
  have := @Mr.kObj.eq_1
  have := @Mr.fNegO.eq_1
  have := @Mr.fOwnC.eq_1
  have := @Mr.fPro.eq_1
  have := @Mr.gInK.eq_1
  have := @Mr.gIxK.eq_1
  have := @Mr.iKeyK.eq_1
  trivial
end Mr

/-! The mirror layer: str of a list. -/
namespace Mr
open PySem PySem.Spec PyProof.Rows L2 Tw
section
variable {X : Cx} {cl : Nat → Addr} {j : Nat}
theorem call_strD (hr : Rm j X.A) : CallR X (.type "str") (fun xs H Q => ∃ (p : Addr) (d : PyData), xs = [.ref p] ∧ Dp X.K H (.ref p) d ∧ d.showable = true ∧ d.depth ≤ 60 ∧ d.shown.length ≤ sizeLine ∧ Q (.str d.shown) H) := by
  intro pins s σ H xs us Q I r h
  obtain ⟨p, d, rfl, hd, hs, hdp, hz, q⟩ := h
  obtain ⟨u, rfl, ru⟩ := vals1 r
  have un := hr.room.units
  have nd := noDict hd
  obtain ⟨as, rd⟩ := Dp.reads I _ _ _ hd ru
  cases ru
  refine str_of_reads rd hs (fun z => by rw [nd] at z; cases z) hr.gd (by omega) (fun _ _ z => z) (fun h' u tk k => ?_) hz
  exact ⟨.str _, H, I.kept k, ⟨_, rfl⟩, q⟩
def strLO : ON
  | _, [.lst xs] => match dats xs with | some ds => some ((PyData.list ds).showable = true ∧ (PyData.list ds).depth ≤ 60 ∧ (PyData.list ds).shown.length ≤ 1000000, .str (PyData.list ds).shown) | none => none
  | _, _ => none
theorem c_strL (hr : Rm j X.A) : BC X cl (.type "str") strLO := by
  refine ⟨_, call_strD hr, fun Z H xs Q s ts c t r so e hc p => ?_⟩
  unfold strLO at e
  split at e
  · rename_i ys
    obtain ⟨v, rfl, rv⟩ := reps1 r
    split at e
    · rename_i ds e1
      cases e
      have hd := rv.sdp so (d := .list ds) (by show Option.map _ (dats ys) = _; rw [e1]; rfl)
      cases rv with
      | lst h n rs => exact ⟨_, _, rfl, hd, hc.1, hc.2.1, Nat.le_trans hc.2.2 size6, p.here (.str _) so⟩
    · cases e
  · cases e
end
section
variable {ok : S → Prop} {g : FG} {tt : FT} {te : FE} {τ : Env} {s : S} {Q : List T → S → Prop} {ts acc : List T}
/-- [f(x) for .. in ts if p(x)], any target, nothing changes -/
theorem lc_filterG (env : T → Env) (p : T → Bool) (f : T → T) (hg : ∀ t ∈ ts, ∀ Q : Env → S → Prop, Q (env t) s → g t τ s Q) (hp : ∀ t ∈ ts, ∀ Q : Bool → S → Prop, Q (p t) s → tt (env t) s Q noX) (h : ∀ t ∈ ts, p t = true → ∀ Q : KT, Q (f t) s → te (env t) s Q noX)
    (hl : acc.length + ts.length ≤ 1000000) (k : Q (acc ++ (ts.filter p).map f) s) (ho : ok s) : lcT ok g tt te τ ts acc s Q := by
  induction ts generalizing acc with
  | nil => exact ⟨ho, by simpa using k⟩
  | cons t ts ih =>
    rw [List.length_cons] at hl
    refine ⟨ho, by omega, hg t List.mem_cons_self _ ?_⟩
    refine hp t List.mem_cons_self _ ?_
    by_cases c : p t = true
    · rw [c]
      refine w_T (h t List.mem_cons_self c _ ?_)
      refine ih (fun t ht => hg t (List.mem_cons_of_mem _ ht)) (fun t ht => hp t (List.mem_cons_of_mem _ ht)) (fun t ht => h t (List.mem_cons_of_mem _ ht)) (by simp; omega) ?_
      simpa [List.filter_cons, c] using k
    · rw [Bool.not_eq_true] at c
      rw [c]
      refine w_F (ih (fun t ht => hg t (List.mem_cons_of_mem _ ht)) (fun t ht => hp t (List.mem_cons_of_mem _ ht)) (fun t ht => h t (List.mem_cons_of_mem _ ht)) (by omega) ?_)
      simpa [List.filter_cons, c] using k
end
end Mr

namespace Mr
open PySem PySem.Spec PyProof.Rows L2 Tw
section
variable {X : Cx} {cl : Nat → Addr} {W : WX} {e a b c o : Expr} {es : List Expr} {F Fa Fb Fc Fo : FE} {A Ak : FA} {pos p apos kpos : Pos} {x m : Str} {k j n cc : Nat} {D : FD} {ks : List Str} {kws : List Keyword} {gT : List T → List T → List T}
/-- C(e, .., k = v, ..) -/
theorem je_mkK (fz : Bool) (tk : Takes X W) (d : MakK X.prog X.w X.K X.mg X.base cl k x cc D n ks gT) (hr : Rm j X.A) (hk : k + 1 ≤ j) (hg : Gl X x) (ha : JA X cl W (e :: es) A) (hkw : JK X cl W kws Ak)
    (hall : (backToKw pos (keywordEach kws X.env)).all (·.1.isSome) = true := by rfl) (hks : (backToKw pos (keywordEach kws X.env)).filterMap (·.1) = ks := by rfl) (hdb : (x == ("__debug__" : Str)) = false := by decide)
    (he : starEach (e :: es) X.env = (false, eval e X.env) :: starEach es X.env := by rfl)
    (hpl : ((backTo pos (starEach (e :: es) X.env)).any (·.1) || (backToKw pos (keywordEach kws X.env)).any (·.1.isNone)) = false := by rfl) :
    JE X cl W (.Call (.Name x p) (e :: es) kws pos) (fMkK fz n ks.length cc D gT A Ak) := by
  obtain ⟨f, fd, ps, g, gV, rel, M, F, hm, b⟩ := d.ex
  refine ⟨fun τ s Q Q' E E' hq he h => ha.mon _ _ _ _ _ _ (fun ts s0 h0 => hkw.mon _ _ _ _ _ _ (fun us s1 h1 => ⟨h1.1, fun x hx => (h1.2 x hx).mon (fun _ _ q => q.mon hq) fun _ _ q => he _ _ q⟩) he h0) he h, ⟨fun pins sh σ H Q I h => ?_⟩⟩
  obtain ⟨Z, τ, s, re, so, h⟩ := h
  have h' : tTA X.K cl W A σ H fun vs H0 => tTA X.K cl W Ak σ H0 fun zs H1 => vs.length + 1 = n ∧ zs.length = ks.length ∧ ∀ x dx, H1 x = none → H1 dx = none → dx ≠ x → spM X.K cl D (gV (.ref x :: vs) zs) (upd (upd H1 dx (.own x)) x (.ins (cl cc) dx [])) (fun v H2 => v = .non ∧ Q (.ref x) H2) (fun cls d H' => W cls d σ H') := by
    refine goA ha.mon re so h (fun ts s0 vs H0 p0 f0 re0 r0 so0 => ?_) fun _ _ q => q
    refine goA hkw.mon re0 so0 p0 (fun us s1 zs H1 p1 f1 re1 r1 so1 => ⟨by rw [r0.length]; exact p1.1.1, by rw [r1.length]; exact p1.1.2, mkK_go rel (f0.trans f1) (r0.fut f1) r1 so1 p1.2⟩) fun _ _ q => postW.up f0 q
  refine wpAny_Call_Name_kw (ld_glob I hg hm ?_ hdb)
  refine PySem.W.callWith_KW (h₀ := X.base) I.ok.mod.kin M.kp hall (thn (ha.pa.run pos pins sh σ H _ I h') ?_) hpl he
  rintro us s1 ⟨vs, H1, I1, r, q⟩
  refine thn (hkw.pk.run pos pins s1 σ H1 _ I1 q) ?_
  rintro ws s2 ⟨zs, H2, I2, rz, l1, l2, q2⟩
  refine ⟨I2.kIn, ?_⟩
  rw [hks]
  exact makeKw M F (hr.mono hk) b (pass_tk tk) I2 r rz l1 l2 q2
/-- f(e, .., k = v, ..) -/
def fCallK (n mm : Nat) (D : FD) (gT : List T → List T → List T) (A Ak : FA) : FE := fun τ s Q E => A τ s (fun ts s1 => Ak τ s1 (fun us s2 => (ts.length = n ∧ us.length = mm) ∧ cM D (gT ts us) s2 Q E) E) E
theorem mon_callK (ma : MonA A) (mk : MonA Ak) {mm : Nat} : MonE (fCallK n mm D gT A Ak) := fun τ s Q Q' E E' hq he h => ma _ _ _ _ _ _ (fun ts s1 h1 => mk _ _ _ _ _ _ (fun us s2 h2 => ⟨h2.1, h2.2.mon hq he⟩) he h1) he h
theorem je_callK (tk : Takes X W) (d : CalK X.prog X.w X.K X.mg X.base cl k x D n ks gT) (hr : Rm j X.A) (hk : k ≤ j) (hg : Gl X x) (ha : JA X cl W (e :: es) A) (hkw : JK X cl W kws Ak)
    (hall : (backToKw pos (keywordEach kws X.env)).all (·.1.isSome) = true := by rfl) (hks : (backToKw pos (keywordEach kws X.env)).filterMap (·.1) = ks := by rfl) (hdb : (x == ("__debug__" : Str)) = false := by decide)
    (he : starEach (e :: es) X.env = (false, eval e X.env) :: starEach es X.env := by rfl)
    (hpl : ((backTo pos (starEach (e :: es) X.env)).any (·.1) || (backToKw pos (keywordEach kws X.env)).any (·.1.isNone)) = false := by rfl) :
    JE X cl W (.Call (.Name x p) (e :: es) kws pos) (fCallK n ks.length D gT A Ak) := by
  obtain ⟨f, fd, ps, g, gV, rel, F, hm, kp, b⟩ := d.ex
  refine ⟨mon_callK ha.mon hkw.mon, ⟨fun pins sh σ H Q I h => ?_⟩⟩
  obtain ⟨Z, τ, s, re, so, h⟩ := h
  have h' : tTA X.K cl W A σ H fun vs H0 => tTA X.K cl W Ak σ H0 fun zs H1 => vs.length = n ∧ zs.length = ks.length ∧ spM X.K cl D (gV vs zs) H1 Q (fun cls d H' => W cls d σ H') := by
    refine goA ha.mon re so h (fun ts s0 vs H0 p0 f0 re0 r0 so0 => ?_) fun _ _ q => q
    refine goA hkw.mon re0 so0 p0 (fun us s1 zs H1 p1 f1 re1 r1 so1 => ⟨by rw [r0.length]; exact p1.1.1, by rw [r1.length]; exact p1.1.2, ?_⟩) fun _ _ q => postW.up f0 q
    exact ⟨Z, _, s1, rel (r0.fut f1) r1, so1, p1.2.mon (fun _ _ q => post.up (f0.trans f1) q) fun _ _ q => postX.up (f0.trans f1) q⟩
  refine wpAny_Call_Name_kw (ld_glob I hg hm ?_ hdb)
  refine PySem.W.callWith_KW (h₀ := X.base) I.ok.mod.kin kp hall (thn (ha.pa.run pos pins sh σ H _ I h') ?_) hpl he
  rintro us s1 ⟨vs, H1, I1, r, q⟩
  refine thn (hkw.pk.run pos pins s1 σ H1 _ I1 q) ?_
  rintro ws s2 ⟨zs, H2, I2, rz, l1, l2, q2⟩
  refine ⟨I2.kIn, ?_⟩
  rw [hks]
  exact goKw F (hr.mono hk) rfl b (pass_tk tk) I2 r rz l1 l2 q2
theorem je_callK0 (tk : Takes X W) (d : CalK X.prog X.w X.K X.mg X.base cl k x D n ks gT) (hr : Rm j X.A) (hk : k ≤ j) (hg : Gl X x) (hkw : JK X cl W kws Ak)
    (hall : (backToKw pos (keywordEach kws X.env)).all (·.1.isSome) = true := by rfl) (hks : (backToKw pos (keywordEach kws X.env)).filterMap (·.1) = ks := by rfl) (hdb : (x == ("__debug__" : Str)) = false := by decide)
    (hpl : ((backTo pos (starEach [] X.env)).any (·.1) || (backToKw pos (keywordEach kws X.env)).any (·.1.isNone)) = false := by rfl) :
    JE X cl W (.Call (.Name x p) [] kws pos) (fCallK n ks.length D gT fNil Ak) := by
  obtain ⟨f, fd, ps, g, gV, rel, F, hm, kp, b⟩ := d.ex
  refine ⟨mon_callK (ja_nil (X := X) (cl := cl) (W := W)).mon hkw.mon, ⟨fun pins sh σ H Q I h => ?_⟩⟩
  obtain ⟨Z, τ, s, re, so, h⟩ := h
  have h' : tTA X.K cl W Ak σ H fun zs H1 => 0 = n ∧ zs.length = ks.length ∧ spM X.K cl D (gV [] zs) H1 Q (fun cls d H' => W cls d σ H') := by
    refine goA hkw.mon re so h (fun us s1 zs H1 p1 f1 re1 r1 so1 => ⟨p1.1.1, by rw [r1.length]; exact p1.1.2, ?_⟩) fun _ _ q => q
    exact ⟨Z, _, s1, rel .nil r1, so1, p1.2.mon (fun _ _ q => post.up f1 q) fun _ _ q => postX.up f1 q⟩
  refine wpAny_Call_Name_kw (ld_glob I hg hm ?_ hdb)
  refine PySem.W.callWith_KW0 (h₀ := X.base) I.ok.mod.kin kp hall (thn (hkw.pk.run pos pins sh σ H _ I h') ?_) hpl
  rintro ws s2 ⟨zs, H2, I2, rz, l1, l2, q2⟩
  rw [hks]
  exact ⟨I2.kIn, goKw (us := []) (vs := []) F (hr.mono hk) rfl b (pass_tk tk) I2 .nil rz l1 l2 q2⟩
/-- o.m(e, .., k = v, ..) -/
theorem je_mtK {pl : Sem Bool} (tk : Takes X W) (d : MetK X.prog X.w X.K X.mg X.base cl k cc m D n ks gT) (hr : Rm j X.A) (hk : k ≤ j) (ho : JE X cl W o Fo) (ha : JA X cl W (e :: es) A) (hkw : JK X cl W kws Ak)
    (hall : (backToKw pos (keywordEach kws X.env)).all (·.1.isSome) = true := by rfl) (hks : (backToKw pos (keywordEach kws X.env)).filterMap (·.1) = ks := by rfl)
    (he : starEach (e :: es) X.env = (false, eval e X.env) :: starEach es X.env := by rfl)
    (hpl : ((backTo pos (starEach (e :: es) X.env)).any (·.1) || (backToKw pos (keywordEach kws X.env)).any (·.1.isNone)) = false := by rfl)
    (ht : eval (.Call (.Attribute o m apos) (e :: es) kws pos) X.env = (do
      let ov ← eval o X.env
      standAt apos.atName
      let (g, first) ← holding [ov] (getMethod ov m pl)
      callWith pos g first (backTo pos (starEach (e :: es) X.env)) (backToKw pos (keywordEach kws X.env))) := by rfl) : JE X cl W (.Call (.Attribute o m apos) (e :: es) kws pos) (fMtK cc n ks.length m D gT Fo A Ak) := by
  obtain ⟨f, fd, ps, g, gV, rel, hcl, hm, F, b⟩ := d.ex
  refine ⟨fun τ s Q Q' E E' hq he h => ho.mon _ _ _ _ _ _ (fun x s1 h1 => ?_) he h, ⟨fun pins sh σ H Q I h => ?_⟩⟩
  · split at h1
    · exact ⟨h1.1, ha.mon _ _ _ _ _ _ (fun ts s0 h0 => hkw.mon _ _ _ _ _ _ (fun us s2 h2 => ⟨h2.1, h2.2.mon hq he⟩) he h0) he h1.2⟩
    · exact h1
  obtain ⟨Z, τ, s, re, so, h⟩ := h
  have h' : tT X.K cl W Fo σ H fun x H1 => ∃ dx fs a, x = .ref a ∧ H1 a = some (.ins (cl cc) dx fs) ∧ fs.lookup m = none ∧ tTA X.K cl W A σ H1 fun vs H0 => tTA X.K cl W Ak σ H0 fun zs H2 => vs.length + 1 = n ∧ zs.length = ks.length ∧ spM X.K cl D (gV (.ref a :: vs) zs) H2 Q (fun cls d H' => W cls d σ H') := by
    refine go ho.mon re so h (fun tx s1 x H1 p1 f1 re1 r1 so1 => ?_) fun _ _ q => q
    split at p1
    · rename_i c fs e1
      obtain ⟨⟨rfl, hl⟩, p1⟩ := p1
      obtain ⟨a, dx, fvs, rfl, h1, rf⟩ := obj_of so1 r1 e1
      refine ⟨dx, fvs, a, rfl, h1, rf.lookup0 hl, goA ha.mon re1 so1 p1 (fun ts s0 vs H0 p0 f0 re0 r0 so0 => ?_) fun _ _ q => postW.up f1 q⟩
      refine goA hkw.mon re0 so0 p0 (fun us s2 zs H2 p2 f2 re2 r2 so2 => ⟨by rw [r0.length]; exact p2.1.1, by rw [r2.length]; exact p2.1.2, ?_⟩) fun _ _ q => postW.up (f1.trans f0) q
      exact ⟨Z, _, s2, rel (.cons ((r1.fut f0).fut f2) (r0.fut f2)) r2, so2, p2.2.mon (fun _ _ q => post.up ((f1.trans f0).trans f2) q) fun _ _ q => postX.up ((f1.trans f0).trans f2) q⟩
    · exact p1.elim
  refine PySem.W.methodCall_KW (pl := pl) (thn (ho.pe.run pins sh σ H _ I h') ?_) ht
  rintro u s1 ⟨x, H1, I1, rx, dx, fs, a, rfl, ea, l, q⟩
  cases rx
  refine getmeth_ok I1 ea hcl hm l ?_
  refine PySem.W.callWith_KW (first := [.ref a]) (h₀ := X.base) I.ok.mod.kin hm.kp hall (thn (ha.pa.run pos pins s1 σ H1 _ I1 q) ?_) hpl he
  rintro us s0 ⟨vs, H0, I0, r, q0⟩
  refine thn (hkw.pk.run pos pins s0 σ H0 _ I0 q0) ?_
  rintro ws s2 ⟨zs, H2, I2, rz, hn, hz, q2⟩
  refine ⟨I2.kIn, ?_⟩
  rw [hks]
  exact goKw (us := .ref a :: us) (vs := .ref a :: vs) F (hr.mono hk) rfl b (pass_tk tk) I2 (Paired.cons rfl r) rz hn hz q2
end
theorem gOwnI_row {cc : Nat} {D : FD} {s : S} {x : T} {i : Int} {Q : KT} {E : KX} : gOwnI cc D s x (.int i) Q E = (match s.obj? x with | some (c, _) => c = cc ∧ cM D [x, .int i] s Q E | none => False) := by
  unfold gOwnI
  cases s.obj? x <;> rfl
theorem gOwnR_row {cc : Nat} {D : FD} {s : S} {y : T} {i : Int} {Q : KT} {E : KX} : gOwnR cc D s (.int i) y Q E = (match s.obj? y with | some (c, _) => c = cc ∧ cM D [y, .int i] s Q E | none => False) := by
  unfold gOwnR
  cases s.obj? y <;> rfl
theorem rows_madeE : True := by
  have := @Mr.fCallK.eq_1
  trivial
end Mr

namespace M64
open PySem PySem.Spec PyProof.Rows L2 Tw Mr
abbrev P : Program := PySem.Challenge.pw_twoheads_k64_tallies
def top (i : Nat) : Stmt := PySem.Challenge.pw_twoheads_k64_tallies.main.body.getD i (.Pass ⟨0, 0, 0, 0⟩)
/-! the text's classes by number: 0 HeadsError, 1 BadInput, 2 BadName, 3 Tally -/
abbrev s_XBadName : Stmt := inClass (top 4) 0
abbrev s_Tinit : Stmt := inClass (top 7) 0
abbrev N_Tinit : List Str := ["self", "a", "b", "c", "e"]
theorem sc_Tinit : FnScope N_Tinit ["self", "a", "b", "c", "e"] (C8.fnScope s_Tinit) := ⟨rfl, rfl, rfl, by decide +kernel, rfl, by decide +kernel, by decide +kernel⟩
abbrev s_Tusual : Stmt := inClass (top 7) 1
abbrev N_Tusual : List Str := ["name", "a", "b", "c", "e"]
theorem sc_Tusual : FnScope N_Tusual ["name"] (C8.fnScope s_Tusual) := ⟨rfl, rfl, rfl, by decide +kernel, rfl, by decide +kernel, by decide +kernel⟩
abbrev s_Tlabel : Stmt := inClass (top 7) 2
abbrev N_Tlabel : List Str := ["self", "found", "name"]
theorem sc_Tlabel : FnScope N_Tlabel ["self"] (C8.fnScope s_Tlabel) := ⟨rfl, rfl, rfl, by decide +kernel, rfl, by decide +kernel, by decide +kernel⟩
abbrev s_Tcall : Stmt := inClass (top 7) 4
abbrev N_Tcall : List Str := ["self", "m", "n", "least"]
theorem sc_Tcall : FnScope N_Tcall ["self", "m", "n"] (C8.fnScope s_Tcall) := ⟨rfl, rfl, rfl, by decide +kernel, rfl, by decide +kernel, by decide +kernel⟩
abbrev s_Teq : Stmt := inClass (top 7) 5
abbrev N_Teq : List Str := ["self", "other"]
theorem sc_Teq : FnScope N_Teq ["self", "other"] (C8.fnScope s_Teq) := ⟨rfl, rfl, rfl, by decide +kernel, rfl, by decide +kernel, by decide +kernel⟩
abbrev s_Tadd : Stmt := inClass (top 7) 6
abbrev N_Tadd : List Str := ["self", "other"]
theorem sc_Tadd : FnScope N_Tadd ["self", "other"] (C8.fnScope s_Tadd) := ⟨rfl, rfl, rfl, by decide +kernel, rfl, by decide +kernel, by decide +kernel⟩
abbrev s_Tsub : Stmt := inClass (top 7) 7
abbrev N_Tsub : List Str := ["self", "other"]
theorem sc_Tsub : FnScope N_Tsub ["self", "other"] (C8.fnScope s_Tsub) := ⟨rfl, rfl, rfl, by decide +kernel, rfl, by decide +kernel, by decide +kernel⟩
abbrev s_Tmul : Stmt := inClass (top 7) 8
abbrev N_Tmul : List Str := ["self", "other"]
theorem sc_Tmul : FnScope N_Tmul ["self", "other"] (C8.fnScope s_Tmul) := ⟨rfl, rfl, rfl, by decide +kernel, rfl, by decide +kernel, by decide +kernel⟩
abbrev s_Trmul : Stmt := inClass (top 7) 9
abbrev N_Trmul : List Str := ["self", "other"]
theorem sc_Trmul : FnScope N_Trmul ["self", "other"] (C8.fnScope s_Trmul) := ⟨rfl, rfl, rfl, by decide +kernel, rfl, by decide +kernel, by decide +kernel⟩
abbrev s_Tneg : Stmt := inClass (top 7) 10
abbrev N_Tneg : List Str := ["self"]
theorem sc_Tneg : FnScope N_Tneg ["self"] (C8.fnScope s_Tneg) := ⟨rfl, rfl, rfl, by decide +kernel, rfl, by decide +kernel, by decide +kernel⟩
abbrev s_pen : Stmt := top 9
abbrev N_pen : List Str := ["_law_script"]
theorem sc_pen : FnScope N_pen ["_law_script"] (C8.fnScope s_pen) := ⟨rfl, rfl, rfl, by decide +kernel, rfl, by decide +kernel, by decide +kernel⟩
abbrev s_draw : Stmt := top 10
abbrev N_draw : List Str := ["_law_pen_here", "_law_many", "_law_digit", "_law_at", "_law_cell", "_law_great", "_law_mixed"]
theorem sc_draw : FnScope N_draw ["_law_pen_here", "_law_many"] (C8.fnScope s_draw) := ⟨rfl, rfl, rfl, by decide +kernel, rfl, by decide +kernel, by decide +kernel⟩
abbrev s_pick : Stmt := top 11
abbrev N_pick : List Str := ["_law_pen_here", "_law_some"]
theorem sc_pick : FnScope N_pick ["_law_pen_here", "_law_some"] (C8.fnScope s_pick) := ⟨rfl, rfl, rfl, by decide +kernel, rfl, by decide +kernel, by decide +kernel⟩
abbrev s_part : Stmt := top 12
abbrev N_part : List Str := ["_law_pen_here", "_law_number"]
theorem sc_part : FnScope N_part ["_law_pen_here"] (C8.fnScope s_part) := ⟨rfl, rfl, rfl, by decide +kernel, rfl, by decide +kernel, by decide +kernel⟩
abbrev s_parts : Stmt := top 13
abbrev N_parts : List Str := ["_law_pen_here", "_law_found", "_law_k"]
theorem sc_parts : FnScope N_parts ["_law_pen_here"] (C8.fnScope s_parts) := ⟨rfl, rfl, rfl, by decide +kernel, rfl, by decide +kernel, by decide +kernel⟩
abbrev s_worth : Stmt := top 14
abbrev N_worth : List Str := ["_law_parts_here", "_law_m", "_law_n", "_law_least", "_law_alone"]
theorem sc_worth : FnScope N_worth ["_law_parts_here", "_law_m", "_law_n"] (C8.fnScope s_worth) := ⟨rfl, rfl, rfl, by decide +kernel, rfl, by decide +kernel, by decide +kernel⟩
abbrev s_is : Stmt := top 15
abbrev N_is : List Str := ["_law_tally", "_law_parts_here", "_law_pen_here", "_law_turn", "_law_m", "_law_n"]
theorem sc_is : FnScope N_is ["_law_tally", "_law_parts_here", "_law_pen_here"] (C8.fnScope s_is) := ⟨rfl, rfl, rfl, by decide +kernel, rfl, by decide +kernel, by decide +kernel⟩
abbrev s_usual : Stmt := top 16
abbrev N_usual : List Str := ["_law_some"]
theorem sc_usual : FnScope N_usual [] (C8.fnScope s_usual) := ⟨rfl, rfl, rfl, by decide +kernel, rfl, by decide +kernel, by decide +kernel⟩
abbrev s_label : Stmt := top 17
abbrev N_label : List Str := ["_law_parts_here", "_law_found", "_law_word", "_law_some"]
theorem sc_label : FnScope N_label ["_law_parts_here"] (C8.fnScope s_label) := ⟨rfl, rfl, rfl, by decide +kernel, rfl, by decide +kernel, by decide +kernel⟩
abbrev s_heard : Stmt := top 18
abbrev N_heard : List Str := ["_law_worth_here", "_law_caught", "error"]
theorem sc_heard : FnScope N_heard ["_law_worth_here"] (C8.fnScope s_heard) := ⟨rfl, rfl, rfl, by decide +kernel, rfl, by decide +kernel, by decide +kernel⟩
abbrev s_signs_right : Stmt := top 19
abbrev N_signs_right : List Str := ["_law_pen_here", "_law_first", "_law_second", "_law_one", "_law_other", "_law_times", "_law_both", "_law_k", "_law_less", "_law_more", "_law_others", "_law_thing"]
theorem sc_signs_right : FnScope N_signs_right ["_law_pen_here", "_law_first", "_law_second"] (C8.fnScope s_signs_right) := ⟨rfl, rfl, rfl, by decide +kernel, rfl, by decide +kernel, by decide +kernel⟩
abbrev s_law : Stmt := top 20
abbrev N_law : List Str := ["_law_script", "_law_pen_here", "_law_turn", "_law_first", "_law_second", "_law_word", "_law_parts_here", "_law_one", "_law_some", "_law_odd"]
theorem sc_law : FnScope N_law ["_law_script"] (C8.fnScope s_law) := ⟨rfl, rfl, rfl, by decide +kernel, rfl, by decide +kernel, by decide +kernel⟩
def kkT : List ((Ty × Ty) × Bool) := [((.non, .own 2), false), ((.bool, .own 2), false), ((.int, .own 2), false), ((.str, .own 2), false), ((.list, .own 2), false), ((.tup, .own 2), false), ((.dict, .own 2), false), ((.own 2, .own 2), true), ((.own 3, .own 2), false), ((.non, .own 3), false), ((.bool, .own 3), false), ((.int, .own 3), false), ((.str, .own 3), false), ((.list, .own 3), false), ((.tup, .own 3), false), ((.dict, .own 3), false), ((.own 2, .own 3), false), ((.own 3, .own 3), true), ((.non, .str), false), ((.bool, .str), false), ((.int, .str), false), ((.str, .str), true), ((.list, .str), false), ((.tup, .str), false), ((.dict, .str), false), ((.own 2, .str), false), ((.own 3, .str), false)]
theorem kkA : kkOf kkT (.non) (.own 2) = some false ∧ kkOf kkT (.bool) (.own 2) = some false ∧ kkOf kkT (.int) (.own 2) = some false ∧ kkOf kkT (.str) (.own 2) = some false ∧ kkOf kkT (.list) (.own 2) = some false ∧ kkOf kkT (.tup) (.own 2) = some false ∧ kkOf kkT (.dict) (.own 2) = some false ∧ kkOf kkT (.own 2) (.own 2) = some true ∧ kkOf kkT (.own 3) (.own 2) = some false ∧ kkOf kkT (.non) (.own 3) = some false ∧ kkOf kkT (.bool) (.own 3) = some false ∧ kkOf kkT (.int) (.own 3) = some false ∧ kkOf kkT (.str) (.own 3) = some false ∧ kkOf kkT (.list) (.own 3) = some false ∧ kkOf kkT (.tup) (.own 3) = some false ∧ kkOf kkT (.dict) (.own 3) = some false ∧ kkOf kkT (.own 2) (.own 3) = some false ∧ kkOf kkT (.own 3) (.own 3) = some true ∧ kkOf kkT (.non) (.str) = some false ∧ kkOf kkT (.bool) (.str) = some false ∧ kkOf kkT (.int) (.str) = some false ∧ kkOf kkT (.str) (.str) = some true ∧ kkOf kkT (.list) (.str) = some false ∧ kkOf kkT (.tup) (.str) = some false ∧ kkOf kkT (.dict) (.str) = some false ∧ kkOf kkT (.own 2) (.str) = some false ∧ kkOf kkT (.own 3) (.str) = some false := ⟨rfl, rfl, rfl, rfl, rfl, rfl, rfl, rfl, rfl, rfl, rfl, rfl, rfl, rfl, rfl, rfl, rfl, rfl, rfl, rfl, rfl, rfl, rfl, rfl, rfl, rfl, rfl⟩
theorem lkA : (∀ v0 v1 v2 v3 : T, List.lookup (Str.ofString "a") ([("a", v0), ("b", v1), ("c", v2), ("e", v3)] : List (Str × T)) = some v0) ∧
  (∀ v0 v1 v2 v3 : T, List.lookup (Str.ofString "b") ([("a", v0), ("b", v1), ("c", v2), ("e", v3)] : List (Str × T)) = some v1) ∧
  (∀ v0 v1 v2 v3 : T, List.lookup (Str.ofString "c") ([("a", v0), ("b", v1), ("c", v2), ("e", v3)] : List (Str × T)) = some v2) ∧
  (∀ v0 v1 v2 v3 : T, List.lookup (Str.ofString "e") ([("a", v0), ("b", v1), ("c", v2), ("e", v3)] : List (Str × T)) = some v3) ∧
  (∀ v0 v1 v2 v3 : T, List.lookup (Str.ofString "label") ([("a", v0), ("b", v1), ("c", v2), ("e", v3)] : List (Str × T)) = none) ∧
  (∀ v0 v1 v2 v3 : T, List.lookup (Str.ofString "under") ([("a", v0), ("b", v1), ("c", v2), ("e", v3)] : List (Str × T)) = none) ∧
  (∀ v0 v1 v2 v3 : T, List.lookup (Str.ofString "usual") ([("a", v0), ("b", v1), ("c", v2), ("e", v3)] : List (Str × T)) = none) ∧
  (∀ w : T, putT (Str.ofString "a") w ([] : List (Str × T)) = ([("a", w)] : List (Str × T))) ∧
  (∀ v0 v1 v2 v3 w : T, putT (Str.ofString "a") w ([("a", v0), ("b", v1), ("c", v2), ("e", v3)] : List (Str × T)) = ([("a", w), ("b", v1), ("c", v2), ("e", v3)] : List (Str × T))) ∧
  (∀ v0 w : T, putT (Str.ofString "b") w ([("a", v0)] : List (Str × T)) = ([("a", v0), ("b", w)] : List (Str × T))) ∧
  (∀ v0 v1 v2 v3 w : T, putT (Str.ofString "b") w ([("a", v0), ("b", v1), ("c", v2), ("e", v3)] : List (Str × T)) = ([("a", v0), ("b", w), ("c", v2), ("e", v3)] : List (Str × T))) ∧
  (∀ v0 v1 w : T, putT (Str.ofString "c") w ([("a", v0), ("b", v1)] : List (Str × T)) = ([("a", v0), ("b", v1), ("c", w)] : List (Str × T))) ∧
  (∀ v0 v1 v2 v3 w : T, putT (Str.ofString "c") w ([("a", v0), ("b", v1), ("c", v2), ("e", v3)] : List (Str × T)) = ([("a", v0), ("b", v1), ("c", w), ("e", v3)] : List (Str × T))) ∧
  (∀ v0 v1 v2 w : T, putT (Str.ofString "e") w ([("a", v0), ("b", v1), ("c", v2)] : List (Str × T)) = ([("a", v0), ("b", v1), ("c", v2), ("e", w)] : List (Str × T))) ∧
  (∀ v0 v1 v2 v3 w : T, putT (Str.ofString "e") w ([("a", v0), ("b", v1), ("c", v2), ("e", v3)] : List (Str × T)) = ([("a", v0), ("b", v1), ("c", v2), ("e", w)] : List (Str × T))) ∧
  (∀ v0 : T, List.lookup (Str.ofString "name") ([("name", v0)] : List (Str × T)) = some v0) := ⟨by intros; rfl, by intros; rfl, by intros; rfl, by intros; rfl, by intros; rfl, by intros; rfl, by intros; rfl, by intros; rfl, by intros; rfl, by intros; rfl, by intros; rfl, by intros; rfl, by intros; rfl, by intros; rfl, by intros; rfl, by intros; rfl⟩
def TAB_NAMES : List (Str × T) := [("sum", .tup [.int (1), .int (1), .int (0), .int (0)]), ("union", .tup [.int (1), .int (1), .int (-1), .int (0)]), ("both", .tup [.int (0), .int (0), .int (1), .int (0)]), ("lacks", .tup [.int (1), .int (0), .int (-1), .int (0)]), ("xor", .tup [.int (1), .int (1), .int (-2), .int (0)]), ("join", .tup [.int (0), .int (0), .int (0), .int (1)]), ("left", .tup [.int (1), .int (0), .int (0), .int (0)]), ("right", .tup [.int (0), .int (1), .int (0), .int (0)]), ("none", .tup [.int (0), .int (0), .int (0), .int (0)])]
def insL : List Nat := [3]
def excL : List Nat := [2]
structure Txt (K : PySem.W.Frag) (w : World) (mg : Str → Option Value) (cl : Nat → Addr) : Prop where
  n_len : mg "len" = none
  n_abs : mg "abs" = none
  n_int : mg "int" = none
  n_list : mg "list" = none
  n_tuple : mg "tuple" = none
  n_repr : mg "repr" = none
  n_str : mg "str" = none
  n_range : mg "range" = none
  n_isinstance : mg "isinstance" = none
  n_super : mg "super" = none
  n_ValueError : mg "ValueError" = none
  mx_HeadsError : mg "HeadsError" = some (.ref (cl 0))
  mx_BadInput : mg "BadInput" = some (.ref (cl 1))
  mx_BadName : mg "BadName" = some (.ref (cl 2))
  mx_Tally : mg "Tally" = some (.ref (cl 3))
  fld_a : ∀ c ∈ [3], Cls K (cl c) ∧ NoAttr K (cl c) "a"
  fld_b : ∀ c ∈ [3], Cls K (cl c) ∧ NoAttr K (cl c) "b"
  fld_c : ∀ c ∈ [3], Cls K (cl c) ∧ NoAttr K (cl c) "c"
  fld_e : ∀ c ∈ [3], Cls K (cl c) ∧ NoAttr K (cl c) "e"
  x_BadName : Tw.XCall P K (cl 2) ["name"]
  oex_BadName : OexC K (cl 2)
  xf_BadName : XfC K (cl 2)
  na_BadName_name : PySem.W.findIn K (.ref (cl 2)) "name" = some none
  em_HeadsError : ∀ c, c ∈ [2] → PySem.W.exmOne K (.ref (cl c)) (.ref (cl 0)) = some true
  wc : Wc K cl (kkOf kkT) insL excL
  d_Tinit : Tw.MakAt K mg "Tally" (cl 3) "Tally.__init__" s_Tinit ["self", "a", "b", "c", "e"] []
  d_Tusual : Tw.StaAt K (cl 3) "usual" "Tally.usual" s_Tusual ["name"] []
  d_Tlabel : ProAt K (cl 3) "label" "Tally.label" s_Tlabel ["self"]
  d_Tcall : Tw.MetAt K (cl 3) "__call__" "Tally.__call__" s_Tcall ["self", "m", "n"] []
  d_Teq : Tw.MetAt K (cl 3) "__eq__" "Tally.__eq__" s_Teq ["self", "other"] []
  d_Tadd : Tw.MetAt K (cl 3) "__add__" "Tally.__add__" s_Tadd ["self", "other"] []
  d_Tsub : Tw.MetAt K (cl 3) "__sub__" "Tally.__sub__" s_Tsub ["self", "other"] []
  d_Tmul : Tw.MetAt K (cl 3) "__mul__" "Tally.__mul__" s_Tmul ["self", "other"] []
  d_Trmul : Tw.MetAt K (cl 3) "__rmul__" "Tally.__rmul__" s_Trmul ["self", "other"] []
  d_Tneg : Tw.MetAt K (cl 3) "__neg__" "Tally.__neg__" s_Tneg ["self"] []
  d_pen : Tw.DefAt K mg "_law_pen" s_pen ["_law_script"] []
  d_draw : Tw.DefAt K mg "_law_draw" s_draw ["_law_pen_here", "_law_many"] []
  d_pick : Tw.DefAt K mg "_law_pick" s_pick ["_law_pen_here", "_law_some"] []
  d_part : Tw.DefAt K mg "_law_part" s_part ["_law_pen_here"] []
  d_parts : Tw.DefAt K mg "_law_parts" s_parts ["_law_pen_here"] []
  d_worth : Tw.DefAt K mg "_law_worth" s_worth ["_law_parts_here", "_law_m", "_law_n"] []
  d_is : Tw.DefAt K mg "_law_is" s_is ["_law_tally", "_law_parts_here", "_law_pen_here"] []
  d_usual : Tw.DefAt K mg "_law_usual" s_usual [] []
  d_label : Tw.DefAt K mg "_law_label" s_label ["_law_parts_here"] []
  d_heard : Tw.DefAt K mg "_law_heard" s_heard ["_law_worth_here"] []
  d_signs_right : Tw.DefAt K mg "_law_signs_right" s_signs_right ["_law_pen_here", "_law_first", "_law_second"] []
  d_law : Tw.DefAt K mg "law" s_law ["_law_script"] []
  d2_Tinit : Tw.MakAt K mg "Tally" (cl 3) "Tally.__init__" s_Tinit ["self", "a", "b", "c", "e"] [.int (0), .int (0)]
  dk_Tinit_2_c_e : MakAtK K mg "Tally" (cl 3) "Tally.__init__" s_Tinit ["self", "a", "b", "c", "e"] 3 ["c", "e"] (fun xs ys => [xs.getD 0 .non, xs.getD 1 .non, xs.getD 2 .non, ys.getD 0 .non, ys.getD 1 .non])
  dk_Tinit_0_a_b_c : MakAtK K mg "Tally" (cl 3) "Tally.__init__" s_Tinit ["self", "a", "b", "c", "e"] 1 ["a", "b", "c"] (fun xs ys => [xs.getD 0 .non, ys.getD 0 .non, ys.getD 1 .non, ys.getD 2 .non, .int (0)])
  nf_Tally : ∀ t ∈ [(.non : Ty), (.int : Ty), (.str : Ty), (.list : Ty), (.tup : Ty), (.own 3 : Ty)], PySem.W.notFirst K (cl 3) (t.u cl) = true
  g_NAMES : ∃ u, mg "NAMES" = some u ∧ RelV (.ref (cl 4)) u
  kd_NAMES : KDt K w cl (cl 4) TAB_NAMES
  sf_Tally : PySem.W.selfFirst K (cl 3) = true
  ot_Tally_mul : Tw.OpT K (cl 3) "int" .Mult
  ml_Tally : ∃ f : Addr, PySem.W.findIn K (.ref (cl 3)) "__mul__" = some (some (.ref f))
  si_Tally : PySem.W.subIn K (.ref (cl 3)) (.type "int") = some false
  fi_Tally : ∀ f, PySem.W.findIn K (.ref (cl 3)) "__call__" = some (some (.ref f)) → PySem.W.fnIn K f = true
local macro_rules | `(tactic| walk_at "mm") => `(tactic| simp -implicitDefEqProofs only [↓Mr.hold_cM, ↓Mr.hold_ite, ↓Mr.hold_for, ↓Mr.hold_lc, ↓Mr.hold_wh, Mr.hIte_true, Mr.hIte_false, ↓Mr.startT.eq_1, ↓Mr.endsM.eq_1, ↓Mr.lawEnds.eq_1, ↓Mr.fSeq.eq_1, ↓Mr.fSkip.eq_1, ↓Mr.fRet.eq_1, ↓Mr.fRetN.eq_1, ↓Mr.fRetF.eq_1, ↓Mr.fDrop.eq_1, ↓Mr.fSet.eq_1, ↓Mr.fAsg.eq_1, ↓Mr.fPar.eq_1, ↓Mr.fFldS.eq_1, ↓Mr.fIfS.eq_1, ↓Mr.fRaise.eq_1, ↓Mr.fTry.eq_1, ↓Mr.fBrk.eq_1, ↓Mr.fCnt.eq_1, ↓Mr.gN.eq_1, ↓Mr.gT.eq_1, ↓Mr.gsNil.eq_1, ↓Mr.gsCons.eq_1, ↓Mr.xk,
  ↓Mr.fVar.eq_1, ↓Mr.fC.eq_1, ↓Mr.f2.eq_1, ↓Mr.f3.eq_1, ↓Mr.g2.eq_1, ↓Mr.kB.eq_1, ↓Mr.fTest.eq_1, ↓Mr.fTru.eq_1, ↓Mr.fAnd.eq_1, ↓Mr.fOr.eq_1, ↓Mr.fNot.eq_1, ↓Mr.fAndV.eq_1, ↓Mr.fOrV.eq_1, ↓Mr.fNotV.eq_1, ↓Mr.fIf.eq_1, ↓Mr.fUn.eq_1, ↓Mr.onO.eq_1, Mr.onB_bl, Mr.onB_non, Mr.onB_int, Mr.onB_str, Mr.onB_lst, Mr.onB_tup, Mr.onB_dct, ↓Mr.fNil.eq_1, ↓Mr.fCons.eq_1, ↓Mr.fLst.eq_1, ↓Mr.fTup.eq_1, ↓Mr.fLstC.eq_1, ↓Mr.fDct0.eq_1, ↓Mr.fDctC.eq_1, ↓Mr.fPar3.eq_1, ↓Mr.fSm0.eq_1, ↓Mr.fSm1.eq_1, ↓Mr.onS.eq_1, Mr.isS, Mr.eqF, List.all_cons, List.all_nil, List.any_cons, List.any_nil, Mr.upperO, Mr.lowerO, Mr.partO, Mr.isiT, Mr.tys, Mr.kkAny, Mr.reprX, Mr.S.datX, Mr.T.datX, Mr.datsX, Mr.datsK, Mr.kD, ↓Mr.fCB.eq_1, ↓Mr.fCall.eq_1, ↓Mr.fMk.eq_1, ↓Mr.fMkK.eq_1, ↓Mr.fMt.eq_1, ↓Mr.fMtK.eq_1, ↓Mr.fCallK.eq_1, ↓Mr.fErr.eq_1, ↓Mr.fStrO.eq_1, ↓Mr.fJs.eq_1, ↓Mr.jsT, ↓Mr.fSl.eq_1, ↓Mr.oNone.eq_1, ↓Mr.oSome.eq_1, ↓Mr.fLM.eq_1, ↓Mr.onL.eq_1,
  Mr.addO, Mr.intO, Mr.mulO, Mr.ltO, Mr.leO, Mr.gtO, Mr.geO, Mr.eqO, Mr.neO, Mr.isO, Mr.isnO, Mr.T.isN, Mr.negO, Mr.ixO, Mr.lenO, Mr.absO, Mr.intO1, Option.isSome_some, Option.isSome_none, Mr.strO, Mr.strLO, Mr.listO, Mr.tupO, Mr.reprO, Mr.isiO, Mr.fldO, Mr.xgO, Mr.fmtO, Mr.joinO, Mr.slO, Mr.inO', Mr.ninO', Mr.inB, Mr.T.flat, Mr.S.put_same, Mr.S.put_put, Mr.S.pn_on, Mr.S.pn_pen, Mr.S.put_pen, Mr.S.pn_pn, ↓Mr.fLc.eq_1, ↓Mr.fYes.eq_1, ↓Mr.iSeq.eq_1, ↓Mr.iRange1.eq_1, ↓Mr.iRange2.eq_1, Mr.S.its?, Mr.okAt, Mr.wipeT, ↓Mr.fFor.eq_1, Mr.allO, Mr.anyO, ↓Mr.doneM.eq_1, Option.map_some, Option.map_none,  Mr.appO, Mr.revO, Mr.clrO, ↓Mr.gEqOwn.eq_1, ↓Mr.gOwn2.eq_1, ↓Mr.gOwnI_row, ↓Mr.gOwnR_row, ↓Mr.kObj.eq_1, ↓Mr.fNegO.eq_1, ↓Mr.fOwnC.eq_1, ↓Mr.fPro.eq_1, ↓Mr.gInK.eq_1, ↓Mr.gIxK.eq_1, ↓Mr.iKeyK.eq_1, Mr.eqE, Bool.true_xor, Bool.false_xor, ↓Mr.gNeOwn.eq_1,
  Mr.S.lst?, Mr.S.seq?, Mr.S.ty?, Mr.S.obj?, Mr.S.dat, Mr.T.dat, Mr.dats, Mr.atI_0, Mr.atI_1, Mr.atI_2, Mr.atI_3, Mr.atI_4, Mr.atI_5, Mr.atI_6, Mr.atI_7, Mr.atI_8, Mr.atI_9, Mr.atI_10, Mr.atI_11, Mr.atI_12, Mr.atI_13, PyData.eqv, PyData.eqvAll, Bool.and_true, Bool.true_and, beq_self_eq_true, Bool.and_self, decide_true, decide_false, Mr.okC,
  List.map_cons, List.map_nil, List.length_cons, List.length_nil, List.cons_append, List.nil_append, List.append_nil, List.replicate_succ, List.replicate_zero, List.getElem?_cons_zero, List.getElem?_cons_succ, List.set_cons_zero, List.set_cons_succ, List.getD_cons_zero, List.getD_cons_succ, L2.CPow, Int.reduceToNat, Int.reducePow, Int.reduceAbs, Int.reduceLE, Int.reduceLT, Int.reduceSub, Int.reduceAdd, Int.reduceNeg, Int.reduceMul, Int.reduceEq, Nat.reducePow, Nat.sub_self, Nat.reduceSub, Nat.reduceAdd, Nat.reduceLeDiff, Nat.reduceLT, Nat.reduceEqDiff, Nat.zero_add, Nat.add_zero, Nat.add_one_sub_one, Nat.sub_zero, Nat.zero_sub,
  true_and, and_true, ite_true, ite_false, if_true, if_false, Bool.false_eq_true, Bool.true_eq_false, ↓reduceIte, Bool.not_true, Bool.not_false, List.zip_cons_cons, List.zip_nil_left, List.zip_nil_right, M64.kkA, M64.lkA, M64.insL, M64.excL, List.mem_cons, List.not_mem_nil, or_false, or_true, true_or, false_or, reduceCtorEq, Bool.not_eq_true, Bool.not_eq_false, Bool.not_not])
local macro_rules | `(tactic| walk_at "sh") => `(tactic| exact Mr.sh (by first | (simp only [Mr.niceD, Mr.niceAll, Bool.and_true, Bool.and_eq_true, true_and, and_true]; done) | (simp only [Mr.niceD, Mr.niceAll, Bool.and_true, Bool.and_eq_true, true_and, and_true]; decide +kernel) | simp [Mr.niceD, Mr.niceAll, *]) (by simp [PyData.depth, PyData.depthAll]))
local macro_rules | `(tactic| walk_at "rp") => `(tactic| exact Mr.rp (by first | (simp only [Mr.niceD, Mr.niceAll, Bool.and_true, Bool.and_eq_true, true_and, and_true]; done) | (simp only [Mr.niceD, Mr.niceAll, Bool.and_true, Bool.and_eq_true, true_and, and_true]; decide +kernel) | simp [Mr.niceD, Mr.niceAll, *]) (by simp [PyData.depth, PyData.depthAll]) (by simp only [Mr.wD, Mr.wAll]; first | decide | omega))

end M64

namespace M64
open PySem PySem.Spec PyProof.Rows L2 Tw Mr
local macro_rules | `(tactic| walk_at "mm") => `(tactic| simp -implicitDefEqProofs only [↓Mr.hold_cM, ↓Mr.hold_ite, ↓Mr.hold_for, ↓Mr.hold_lc, ↓Mr.hold_wh, Mr.hIte_true, Mr.hIte_false, ↓Mr.startT.eq_1, ↓Mr.endsM.eq_1, ↓Mr.lawEnds.eq_1, ↓Mr.fSeq.eq_1, ↓Mr.fSkip.eq_1, ↓Mr.fRet.eq_1, ↓Mr.fRetN.eq_1, ↓Mr.fRetF.eq_1, ↓Mr.fDrop.eq_1, ↓Mr.fSet.eq_1, ↓Mr.fAsg.eq_1, ↓Mr.fPar.eq_1, ↓Mr.fFldS.eq_1, ↓Mr.fIfS.eq_1, ↓Mr.fRaise.eq_1, ↓Mr.fTry.eq_1, ↓Mr.fBrk.eq_1, ↓Mr.fCnt.eq_1, ↓Mr.gN.eq_1, ↓Mr.gT.eq_1, ↓Mr.gsNil.eq_1, ↓Mr.gsCons.eq_1, ↓Mr.xk,
  ↓Mr.fVar.eq_1, ↓Mr.fC.eq_1, ↓Mr.f2.eq_1, ↓Mr.f3.eq_1, ↓Mr.g2.eq_1, ↓Mr.kB.eq_1, ↓Mr.fTest.eq_1, ↓Mr.fTru.eq_1, ↓Mr.fAnd.eq_1, ↓Mr.fOr.eq_1, ↓Mr.fNot.eq_1, ↓Mr.fAndV.eq_1, ↓Mr.fOrV.eq_1, ↓Mr.fNotV.eq_1, ↓Mr.fIf.eq_1, ↓Mr.fUn.eq_1, ↓Mr.onO.eq_1, Mr.onB_bl, Mr.onB_non, Mr.onB_int, Mr.onB_str, Mr.onB_lst, Mr.onB_tup, Mr.onB_dct, ↓Mr.fNil.eq_1, ↓Mr.fCons.eq_1, ↓Mr.fLst.eq_1, ↓Mr.fTup.eq_1, ↓Mr.fLstC.eq_1, ↓Mr.fDct0.eq_1, ↓Mr.fDctC.eq_1, ↓Mr.fPar3.eq_1, ↓Mr.fSm0.eq_1, ↓Mr.fSm1.eq_1, ↓Mr.onS.eq_1, Mr.isS, Mr.eqF, List.all_cons, List.all_nil, List.any_cons, List.any_nil, Mr.upperO, Mr.lowerO, Mr.partO, Mr.isiT, Mr.tys, Mr.kkAny, Mr.reprX, Mr.S.datX, Mr.T.datX, Mr.datsX, Mr.datsK, Mr.kD, ↓Mr.fCB.eq_1, ↓Mr.fCall.eq_1, ↓Mr.fMk.eq_1, ↓Mr.fMkK.eq_1, ↓Mr.fMt.eq_1, ↓Mr.fMtK.eq_1, ↓Mr.fCallK.eq_1, ↓Mr.fErr.eq_1, ↓Mr.fStrO.eq_1, ↓Mr.fJs.eq_1, ↓Mr.jsT, ↓Mr.fSl.eq_1, ↓Mr.oNone.eq_1, ↓Mr.oSome.eq_1, ↓Mr.fLM.eq_1, ↓Mr.onL.eq_1,
  Mr.addO, Mr.intO, Mr.mulO, Mr.ltO, Mr.leO, Mr.gtO, Mr.geO, Mr.eqO, Mr.neO, Mr.isO, Mr.isnO, Mr.T.isN, Mr.negO, Mr.ixO, Mr.lenO, Mr.absO, Mr.intO1, Option.isSome_some, Option.isSome_none, Mr.strO, Mr.strLO, Mr.listO, Mr.tupO, Mr.reprO, Mr.isiO, Mr.fldO, Mr.xgO, Mr.fmtO, Mr.joinO, Mr.slO, Mr.inO', Mr.ninO', Mr.inB, Mr.T.flat, Mr.S.put_same, Mr.S.put_put, Mr.S.pn_on, Mr.S.pn_pen, Mr.S.put_pen, Mr.S.pn_pn, ↓Mr.fLc.eq_1, ↓Mr.fYes.eq_1, ↓Mr.iSeq.eq_1, ↓Mr.iRange1.eq_1, ↓Mr.iRange2.eq_1, Mr.S.its?, Mr.okAt, Mr.wipeT, ↓Mr.fFor.eq_1, Mr.allO, Mr.anyO, ↓Mr.doneM.eq_1, Option.map_some, Option.map_none,  Mr.appO, Mr.revO, Mr.clrO, ↓Mr.gEqOwn.eq_1, ↓Mr.gOwn2.eq_1, ↓Mr.gOwnI_row, ↓Mr.gOwnR_row, ↓Mr.kObj.eq_1, ↓Mr.fNegO.eq_1, ↓Mr.fOwnC.eq_1, ↓Mr.fPro.eq_1, ↓Mr.gInK.eq_1, ↓Mr.gIxK.eq_1, ↓Mr.iKeyK.eq_1, Mr.eqE, Bool.true_xor, Bool.false_xor, ↓Mr.gNeOwn.eq_1,
  Mr.S.lst?, Mr.S.seq?, Mr.S.ty?, Mr.S.obj?, Mr.S.dat, Mr.T.dat, Mr.dats, Mr.atI_0, Mr.atI_1, Mr.atI_2, Mr.atI_3, Mr.atI_4, Mr.atI_5, Mr.atI_6, Mr.atI_7, Mr.atI_8, Mr.atI_9, Mr.atI_10, Mr.atI_11, Mr.atI_12, Mr.atI_13, PyData.eqv, PyData.eqvAll, Bool.and_true, Bool.true_and, beq_self_eq_true, Bool.and_self, decide_true, decide_false, Mr.okC,
  List.map_cons, List.map_nil, List.length_cons, List.length_nil, List.cons_append, List.nil_append, List.append_nil, List.replicate_succ, List.replicate_zero, List.getElem?_cons_zero, List.getElem?_cons_succ, List.set_cons_zero, List.set_cons_succ, List.getD_cons_zero, List.getD_cons_succ, L2.CPow, Int.reduceToNat, Int.reducePow, Int.reduceAbs, Int.reduceLE, Int.reduceLT, Int.reduceSub, Int.reduceAdd, Int.reduceNeg, Int.reduceMul, Int.reduceEq, Nat.reducePow, Nat.sub_self, Nat.reduceSub, Nat.reduceAdd, Nat.reduceLeDiff, Nat.reduceLT, Nat.reduceEqDiff, Nat.zero_add, Nat.add_zero, Nat.add_one_sub_one, Nat.sub_zero, Nat.zero_sub,
  true_and, and_true, ite_true, ite_false, if_true, if_false, Bool.false_eq_true, Bool.true_eq_false, ↓reduceIte, Bool.not_true, Bool.not_false, List.zip_cons_cons, List.zip_nil_left, List.zip_nil_right, M64.kkA, M64.lkA, M64.insL, M64.excL, List.mem_cons, List.not_mem_nil, or_false, or_true, true_or, false_or, reduceCtorEq, Bool.not_eq_true, Bool.not_eq_false, Bool.not_not])
local macro_rules | `(tactic| walk_at "sh") => `(tactic| exact Mr.sh (by first | (simp only [Mr.niceD, Mr.niceAll, Bool.and_true, Bool.and_eq_true, true_and, and_true]; done) | (simp only [Mr.niceD, Mr.niceAll, Bool.and_true, Bool.and_eq_true, true_and, and_true]; decide +kernel) | simp [Mr.niceD, Mr.niceAll, *]) (by simp [PyData.depth, PyData.depthAll]))
local macro_rules | `(tactic| walk_at "rp") => `(tactic| exact Mr.rp (by first | (simp only [Mr.niceD, Mr.niceAll, Bool.and_true, Bool.and_eq_true, true_and, and_true]; done) | (simp only [Mr.niceD, Mr.niceAll, Bool.and_true, Bool.and_eq_true, true_and, and_true]; decide +kernel) | simp [Mr.niceD, Mr.niceAll, *]) (by simp [PyData.depth, PyData.depthAll]) (by simp only [Mr.wD, Mr.wAll]; first | decide | omega))

def tally (a b c e : Int) : Mr.T := .obj 3 [("a", .int a), ("b", .int b), ("c", .int c), ("e", .int e)]
def small (m : Int) : Prop := -18446744073709551616 < m ∧ m < 18446744073709551616
def least (m n : Int) : Int := if m < n then m else n
def worth (a b c e m n : Int) : Int := a * m + b * n + c * least m n + e * m * n
def plainT : Mr.T → Bool
  | .non | .int _ | .str _ | .lst _ | .tup _ => true
  | _ => false
def F_Tinit : FD := fun ts s Q _ => ∃ x a b c e, ts = [.cell x, .int a, .int b, .int c, .int e] ∧ s.on x = some (.obj 3 []) ∧ Q .non (s.put x (.obj 3 [("a", .int a), ("b", .int b), ("c", .int c), ("e", .int e)]))
def F_Tcall : FD := fun ts s Q _ => ∃ a b c e m n, ts = [tally a b c e, .int m, .int n] ∧ small m ∧ small n ∧ Q (.int (worth a b c e m n)) s
def F_Teq : FD := fun ts s Q _ => ∃ a b c e v, ts = [tally a b c e, v] ∧ ((∃ a' b' c' e', v = tally a' b' c' e' ∧ Q (.bl (decide (a = a' ∧ b = b' ∧ c = c' ∧ e = e'))) s) ∨ (plainT v = true ∧ Q (.bl false) s))
def F_Tadd : FD := fun ts s Q _ => ∃ a b c e a' b' c' e', ts = [tally a b c e, tally a' b' c' e'] ∧ Q (tally (a + a') (b + b') (c + c') (e + e')) s
def F_Tsub : FD := fun ts s Q _ => ∃ a b c e a' b' c' e', ts = [tally a b c e, tally a' b' c' e'] ∧ Q (tally (a - a') (b - b') (c - c') (e - e')) s
def F_Tmul : FD := fun ts s Q _ => ∃ a b c e n, ts = [tally a b c e, .int n] ∧ small n ∧ Q (tally (a * n) (b * n) (c * n) (e * n)) s
def F_Trmul : FD := fun ts s Q _ => ∃ a b c e n, ts = [tally a b c e, .int n] ∧ small n ∧ Q (tally (a * n) (b * n) (c * n) (e * n)) s
def F_Tneg : FD := fun ts s Q _ => ∃ a b c e, ts = [tally a b c e] ∧ Q (tally b a c e) s
theorem cmul {i j : Int} (h : small j) : CMul i j := by
  unfold small at h
  exact .inr ⟨by omega, by omega⟩
theorem small_least {m n : Int} (h : small m) (k : small n) : small (least m n) := by
  unfold least
  split
  · exact h
  · exact k
theorem mk_tally {x : Addr} {s : S} {Q : KT} {E : KX} {a b c e : Int} (hx : s.on x = none) (k : Q (tally a b c e) s) : @hM F_Tinit [.cell x, .int a, .int b, .int c, .int e] (s.put x (.obj 3 [])) ⟨doneM true x Q⟩ ⟨E⟩ := by
  refine hM.of ⟨x, _, _, _, _, rfl, S.put_same _ _ _, ?_⟩
  walk_at "mm"
  rw [S.del_put hx]
  exact k
section
variable {w : World} {K : PySem.W.Frag} {mg : Str → Option Value} {base : Heap} {cl : Nat → Addr}
theorem fn_Tinit (T : Txt K w mg cl) : ∀ {x : Str} {f : Addr} {fd : FuncData}, C8.Fun K x "Tally.__init__" s_Tinit f fd → FnG P w K mg base 3 f fd ["self", "a", "b", "c", "e"] (spM K cl F_Tinit) := by
  refine fnM (k := 2) (N := N_Tinit) sc_Tinit ?len (fun f cdv A out s H E hr => (jss_cons (js_fld T.fld_a (je_var 0) (je_var 1))
    (jss_cons (js_fld T.fld_b (je_var 0) (je_var 2))
    (jss_cons (js_fld T.fld_c (je_var 0) (je_var 3))
    (jss_one (js_fld T.fld_e (je_var 0) (je_var 4))))))) ?sem
  case len => rintro ts s Q E ⟨_, _, _, _, _, rfl, _⟩; rfl
  case sem =>
    rintro ts s Q E ⟨x, a, b, c, e, rfl, hx, k⟩
    walk_at "mm"
    rw [hx]
    walk_at "mm"
    exact k
theorem mk_Tinit (T : Txt K w mg cl) : MakM P w K mg base cl 3 "Tally" 3 F_Tinit [] := makOf T.d_Tinit (fun _ _ _ => .nil) (fn_Tinit T)
theorem mk2_Tinit (T : Txt K w mg cl) : MakM P w K mg base cl 3 "Tally" 3 F_Tinit [.int (0), .int (0)] := makOf T.d2_Tinit (fun _ _ _ => (.cons (.int _) (.cons (.int _) .nil))) (fn_Tinit T)
theorem mkK_Tinit_2_c_e (T : Txt K w mg cl) : MakK P w K mg base cl 3 "Tally" 3 F_Tinit 3 ["c", "e"] (fun xs ys => [xs.getD 0 .non, xs.getD 1 .non, xs.getD 2 .non, ys.getD 0 .non, ys.getD 1 .non]) := makKOf T.dk_Tinit_2_c_e (fun r1 r2 => (.cons (r1.getD 0) (.cons (r1.getD 1) (.cons (r1.getD 2) (.cons (r2.getD 0) (.cons (r2.getD 1) .nil)))))) (fn_Tinit T)
theorem mkK_Tinit_0_a_b_c (T : Txt K w mg cl) : MakK P w K mg base cl 3 "Tally" 3 F_Tinit 1 ["a", "b", "c"] (fun xs ys => [xs.getD 0 .non, ys.getD 0 .non, ys.getD 1 .non, ys.getD 2 .non, .int (0)]) := makKOf T.dk_Tinit_0_a_b_c (fun r1 r2 => (.cons (r1.getD 0) (.cons (r2.getD 0) (.cons (r2.getD 1) (.cons (r2.getD 2) (.cons (.int _) .nil)))))) (fn_Tinit T)
theorem fn_Tcall (T : Txt K w mg cl) : ∀ {x : Str} {f : Addr} {fd : FuncData}, C8.Fun K x "Tally.__call__" s_Tcall f fd → FnG P w K mg base 3 f fd ["self", "m", "n"] (spM K cl F_Tcall) := by
  refine fnM (k := 2) (N := N_Tcall) sc_Tcall ?len (fun f cdv A out s H E hr => (jss_cons (js_set (i := 3) sc_Tcall.nd rfl (Or.inl rfl) (je_if (jt_cmp o_lt (je_var 1) (je_var 2) (nomark _)) (je_var 1) (je_var 2)))
    (jss_one (js_ret (je_op o_add (je_op o_add (je_op o_add (je_op o_mul (je_fld T.fld_a (je_var 0)) (je_var 1)) (je_op o_mul (je_fld T.fld_b (je_var 0)) (je_var 2))) (je_op o_mul (je_fld T.fld_c (je_var 0)) (je_var 3))) (je_op o_mul (je_op o_mul (je_fld T.fld_e (je_var 0)) (je_var 1)) (je_var 2))))))) ?sem
  case len => rintro ts s Q E ⟨_, _, _, _, _, _, rfl, _⟩; rfl
  case sem =>
    rintro ts s Q E ⟨a, b, c, e, m, n, rfl, hm, hn, k⟩
    have hl := small_least hm hn
    unfold worth least at k
    unfold tally
    unfold least at hl
    walk_at "mm"
    refine hIte.by (fun h => ?_) fun h => ?_
    · rw [if_pos (of_decide_eq_true h)] at k hl
      walk_at "mm"
      exact ⟨cmul hm, cmul hn, cmul hl, cmul hm, cmul hn, k⟩
    · rw [if_neg (of_decide_eq_false h)] at k hl
      walk_at "mm"
      exact ⟨cmul hm, cmul hn, cmul hl, cmul hm, cmul hn, k⟩
theorem mt_Tcall (T : Txt K w mg cl) : MetM P w K mg base cl 3 3 "__call__" F_Tcall [] := metOf T.d_Tcall (fun _ _ _ => .nil) (fn_Tcall T)
theorem fn_Teq (T : Txt K w mg cl) : ∀ {x : Str} {f : Addr} {fd : FuncData}, C8.Fun K x "Tally.__eq__" s_Teq f fd → FnG P w K mg base 3 f fd ["self", "other"] (spM K cl F_Teq) := by
  refine fnM (k := 2) (N := N_Teq) sc_Teq ?len (fun f cdv A out s H E hr => (jss_cons (js_if (jt_not (jt_val (je_b (c_isi T.wc) (by rfl) T.n_isinstance (by decide +kernel) (ja_cons (je_var 1) (ja_cons (je_cls 3 (by rfl) T.mx_Tally) ja_nil))))) (jss_one (js_ret je_bl)) jss_nil)
    (jss_one (js_ret (je_and (je_cmp (o_eq hr) (je_fld T.fld_a (je_var 0)) (je_fld T.fld_a (je_var 1)) (nomark _)) (je_and (je_cmp (o_eq hr) (je_fld T.fld_b (je_var 0)) (je_fld T.fld_b (je_var 1)) (nomark _)) (je_and (je_cmp (o_eq hr) (je_fld T.fld_c (je_var 0)) (je_fld T.fld_c (je_var 1)) (nomark _)) (je_one (je_cmp (o_eq hr) (je_fld T.fld_e (je_var 0)) (je_fld T.fld_e (je_var 1)) (nomark _)))))))))) ?sem
  case len => rintro ts s Q E ⟨_, _, _, _, _, rfl, _⟩; rfl
  case sem =>
    rintro ts s Q E ⟨a, b, c, e, v, rfl, k⟩
    unfold tally
    rcases k with ⟨a', b', c', e', rfl, k⟩ | ⟨hp, k⟩
    · unfold tally
      walk_at "mm"
      refine hIte.by (fun h1 => ?_) fun h1 => ?_
      · have h1 := of_decide_eq_true h1
        walk_at "mm"
        refine hIte.by (fun h2 => ?_) fun h2 => ?_
        · have h2 := of_decide_eq_true h2
          walk_at "mm"
          refine hIte.by (fun h3 => ?_) fun h3 => ?_
          · have h3 := of_decide_eq_true h3
            walk_at "mm"
            rw [show decide (a = a' ∧ b = b' ∧ c = c' ∧ e = e') = decide (e = e') by simp [h1, h2, h3]] at k
            exact k
          · have h3 := of_decide_eq_false h3
            rw [decide_eq_false fun q => h3 q.2.2.1] at k
            walk_at "mm"
            rw [decide_eq_false h3]
            exact k
        · have h2 := of_decide_eq_false h2
          rw [decide_eq_false fun q => h2 q.2.1] at k
          walk_at "mm"
          rw [decide_eq_false h2]
          exact k
      · have h1 := of_decide_eq_false h1
        rw [decide_eq_false fun q => h1 q.1] at k
        walk_at "mm"
        rw [decide_eq_false h1]
        exact k
    · cases v <;> first | cases hp; done | skip
      all_goals walk_at "mm"
      all_goals exact k
theorem mt_Teq (T : Txt K w mg cl) : MetM P w K mg base cl 3 3 "__eq__" F_Teq [] := metOf T.d_Teq (fun _ _ _ => .nil) (fn_Teq T)
theorem fn_Tadd (T : Txt K w mg cl) : ∀ {x : Str} {f : Addr} {fd : FuncData}, C8.Fun K x "Tally.__add__" s_Tadd f fd → FnG P w K mg base 6 f fd ["self", "other"] (spM K cl F_Tadd) := by
  refine fnM (k := 5) (N := N_Tadd) sc_Tadd ?len (fun f cdv A out s H E hr => (jss_one (js_ret (je_mk true Tw.tk_cx (mk_Tinit T) hr (by decide) (by rfl) (ja_cons (je_op o_add (je_fld T.fld_a (je_var 0)) (je_fld T.fld_a (je_var 1))) (ja_cons (je_op o_add (je_fld T.fld_b (je_var 0)) (je_fld T.fld_b (je_var 1))) (ja_cons (je_op o_add (je_fld T.fld_c (je_var 0)) (je_fld T.fld_c (je_var 1))) (ja_cons (je_op o_add (je_fld T.fld_e (je_var 0)) (je_fld T.fld_e (je_var 1))) ja_nil)))))))) ?sem
  case len => rintro ts s Q E ⟨_, _, _, _, _, _, _, _, rfl, _⟩; rfl
  case sem =>
    rintro ts s Q E ⟨a, b, c, e, a', b', c', e', rfl, k⟩
    unfold tally
    walk_at "mm"
    exact fun x hx => mk_tally hx k
theorem mt_Tadd (T : Txt K w mg cl) : MetM P w K mg base cl 6 3 "__add__" F_Tadd [] := metOf T.d_Tadd (fun _ _ _ => .nil) (fn_Tadd T)
theorem fn_Tsub (T : Txt K w mg cl) : ∀ {x : Str} {f : Addr} {fd : FuncData}, C8.Fun K x "Tally.__sub__" s_Tsub f fd → FnG P w K mg base 6 f fd ["self", "other"] (spM K cl F_Tsub) := by
  refine fnM (k := 5) (N := N_Tsub) sc_Tsub ?len (fun f cdv A out s H E hr => (jss_one (js_ret (je_mk true Tw.tk_cx (mk_Tinit T) hr (by decide) (by rfl) (ja_cons (je_op o_sub (je_fld T.fld_a (je_var 0)) (je_fld T.fld_a (je_var 1))) (ja_cons (je_op o_sub (je_fld T.fld_b (je_var 0)) (je_fld T.fld_b (je_var 1))) (ja_cons (je_op o_sub (je_fld T.fld_c (je_var 0)) (je_fld T.fld_c (je_var 1))) (ja_cons (je_op o_sub (je_fld T.fld_e (je_var 0)) (je_fld T.fld_e (je_var 1))) ja_nil)))))))) ?sem
  case len => rintro ts s Q E ⟨_, _, _, _, _, _, _, _, rfl, _⟩; rfl
  case sem =>
    rintro ts s Q E ⟨a, b, c, e, a', b', c', e', rfl, k⟩
    unfold tally
    walk_at "mm"
    exact fun x hx => mk_tally hx k
theorem mt_Tsub (T : Txt K w mg cl) : MetM P w K mg base cl 6 3 "__sub__" F_Tsub [] := metOf T.d_Tsub (fun _ _ _ => .nil) (fn_Tsub T)
theorem fn_Tmul (T : Txt K w mg cl) : ∀ {x : Str} {f : Addr} {fd : FuncData}, C8.Fun K x "Tally.__mul__" s_Tmul f fd → FnG P w K mg base 6 f fd ["self", "other"] (spM K cl F_Tmul) := by
  refine fnM (k := 5) (N := N_Tmul) sc_Tmul ?len (fun f cdv A out s H E hr => (jss_one (js_ret (je_mk true Tw.tk_cx (mk_Tinit T) hr (by decide) (by rfl) (ja_cons (je_op o_mul (je_fld T.fld_a (je_var 0)) (je_var 1)) (ja_cons (je_op o_mul (je_fld T.fld_b (je_var 0)) (je_var 1)) (ja_cons (je_op o_mul (je_fld T.fld_c (je_var 0)) (je_var 1)) (ja_cons (je_op o_mul (je_fld T.fld_e (je_var 0)) (je_var 1)) ja_nil)))))))) ?sem
  case len => rintro ts s Q E ⟨_, _, _, _, _, rfl, _⟩; rfl
  case sem =>
    rintro ts s Q E ⟨a, b, c, e, n, rfl, hn, k⟩
    unfold tally
    walk_at "mm"
    exact ⟨cmul hn, cmul hn, cmul hn, cmul hn, fun x hx => mk_tally hx k⟩
theorem mt_Tmul (T : Txt K w mg cl) : MetM P w K mg base cl 6 3 "__mul__" F_Tmul [] := metOf T.d_Tmul (fun _ _ _ => .nil) (fn_Tmul T)
theorem fn_Trmul (T : Txt K w mg cl) : ∀ {x : Str} {f : Addr} {fd : FuncData}, C8.Fun K x "Tally.__rmul__" s_Trmul f fd → FnG P w K mg base 6 f fd ["self", "other"] (spM K cl F_Trmul) := by
  refine fnM (k := 5) (N := N_Trmul) sc_Trmul ?len (fun f cdv A out s H E hr => (jss_one (js_ret (je_mk true Tw.tk_cx (mk_Tinit T) hr (by decide) (by rfl) (ja_cons (je_op o_mul (je_fld T.fld_a (je_var 0)) (je_var 1)) (ja_cons (je_op o_mul (je_fld T.fld_b (je_var 0)) (je_var 1)) (ja_cons (je_op o_mul (je_fld T.fld_c (je_var 0)) (je_var 1)) (ja_cons (je_op o_mul (je_fld T.fld_e (je_var 0)) (je_var 1)) ja_nil)))))))) ?sem
  case len => rintro ts s Q E ⟨_, _, _, _, _, rfl, _⟩; rfl
  case sem =>
    rintro ts s Q E ⟨a, b, c, e, n, rfl, hn, k⟩
    unfold tally
    walk_at "mm"
    exact ⟨cmul hn, cmul hn, cmul hn, cmul hn, fun x hx => mk_tally hx k⟩
theorem mt_Trmul (T : Txt K w mg cl) : MetM P w K mg base cl 6 3 "__rmul__" F_Trmul [] := metOf T.d_Trmul (fun _ _ _ => .nil) (fn_Trmul T)
theorem fn_Tneg (T : Txt K w mg cl) : ∀ {x : Str} {f : Addr} {fd : FuncData}, C8.Fun K x "Tally.__neg__" s_Tneg f fd → FnG P w K mg base 6 f fd ["self"] (spM K cl F_Tneg) := by
  refine fnM (k := 5) (N := N_Tneg) sc_Tneg ?len (fun f cdv A out s H E hr => (jss_one (js_ret (je_mk true Tw.tk_cx (mk_Tinit T) hr (by decide) (by rfl) (ja_cons (je_fld T.fld_b (je_var 0)) (ja_cons (je_fld T.fld_a (je_var 0)) (ja_cons (je_fld T.fld_c (je_var 0)) (ja_cons (je_fld T.fld_e (je_var 0)) ja_nil)))))))) ?sem
  case len => rintro ts s Q E ⟨_, _, _, _, rfl, _⟩; rfl
  case sem =>
    rintro ts s Q E ⟨a, b, c, e, rfl, k⟩
    unfold tally
    walk_at "mm"
    exact fun x hx => mk_tally hx k
theorem mt_Tneg (T : Txt K w mg cl) : MetM P w K mg base cl 6 3 "__neg__" F_Tneg [] := metOf T.d_Tneg (fun _ _ _ => .nil) (fn_Tneg T)
end
end M64

local macro_rules | `(tactic| walk_at "hp") => `(tactic| first
  | assumption
  | (exact L2.upd_same)
  | (refine Tw.Same.tr (by assumption) ?_ <;> walk_at "hp")
  | ((refine' Tw.SP.tr (by assumption) ?hq ?hn); (case hq => walk_at "hp"); (case hn => first | rfl | exact Tw.isPen_ints _)))
local macro_rules | `(tactic| walk_at "pen") => `(tactic| first
  | assumption
  | ((refine' Tw.PenAt.same (by assumption) ?hq); (case hq => walk_at "pen")))
local macro_rules | `(tactic| walk_at "same") => `(tactic| first
  | assumption
  | exact L2.Same.refl _
  | ((refine' L2.Same.trans ?x ?y); (case y => assumption); (case x => walk_at "same")))
local macro_rules | `(tactic| walk_at "sp") => `(tactic| first
  | assumption
  | exact Tw.SP.refl _
  | ((refine' Tw.SP.trans ?x ?y); (case y => assumption); (case x => walk_at "sp"))
  | ((refine' Tw.SP.trans ?x (L2.Same.sp ?y)); (case y => assumption); (case x => walk_at "sp")))
local macro_rules | `(tactic| walk_at "len") => `(tactic| first
  | exact Nat.lt_of_le_of_lt (Nat.le_refl 0) (by decide)
  | exact Nat.lt_of_le_of_lt (Tw.put_len (Nat.le_refl 0)) (by decide)
  | exact Nat.lt_of_le_of_lt (Tw.put_len (Tw.put_len (Nat.le_refl 0))) (by decide)
  | exact Nat.lt_of_le_of_lt (Tw.put_len (Tw.put_len (Tw.put_len (Nat.le_refl 0)))) (by decide))
local macro_rules | `(tactic| walk_at "r1") => `(tactic| first
  | with_reducible refine Tw.u_seq ?_
  | with_reducible refine Tw.u_lcS ?_
  | with_reducible refine Tw.u_xr ?_
  | with_reducible refine Tw.u_js ?_
  | with_reducible refine Tw.u_js0 ?_
  | with_reducible refine Tw.u_fmt ?_
  | with_reducible refine Tw.u_xv ?_
  | with_reducible refine Tw.u_xg ?_
  | with_reducible refine Tw.u_mkW ?_
  | with_reducible refine Tw.u_lcL ?_
  | with_reducible refine Tw.u_lcR ?_
  | with_reducible refine Tw.k_str ?_
  | with_reducible refine Tw.u_asg ?_
  | with_reducible refine Tw.u_if ?_
  | with_reducible refine Tw.u_ret ?_
  | with_reducible refine Tw.u_op ?_
  | ((with_reducible refine' Tw.u_var ?e ?_); (case e => exact rfl))
  | with_reducible refine Tw.u_c ?_
  | with_reducible refine Tw.u_gname ?_
  | with_reducible refine Tw.u_test ?_
  | with_reducible refine Tw.k_bl ?_
  | with_reducible refine Tw.u_next ?_
  | with_reducible refine Tw.u_cb ?_
  | with_reducible refine Tw.u_cons ?_
  | with_reducible refine Tw.u_nil ?_
  | with_reducible refine Tw.r_I0 ?_
  | with_reducible refine Tw.u_and ?_
  | with_reducible refine Tw.u_or ?_
  | with_reducible refine Tw.u_not ?_
  | with_reducible refine Tw.u_B ?_
  | with_reducible refine Tw.u_un ?_
  | with_reducible refine Tw.r_U ?_
  | with_reducible refine Tw.r_int ?_
  | with_reducible refine Tw.r_intB ?_
  | with_reducible refine Tw.r_abs ?_
  | with_reducible refine Tw.u_gsub ?_
  | with_reducible refine Tw.u_drop ?_
  | with_reducible refine Tw.u_ifE ?_
  | with_reducible refine Tw.u_andV ?_
  | with_reducible refine Tw.u_orV ?_
  | with_reducible refine Tw.u_notV ?_
  | with_reducible refine Tw.u_call0 ?_
  | with_reducible refine Tw.u_call ?_
  | with_reducible refine Tw.u_sl ?_
  | with_reducible refine Tw.u_nopart ?_
  | with_reducible refine Tw.u_part ?_
  | with_reducible refine Tw.k_part ?_
  | with_reducible refine Tw.u_lstK ?_
  | with_reducible refine Tw.u_tupK ?_
  | ((with_reducible refine' Tw.k_lst ?z ?_); (case z => exact Nat.le_of_ble_eq_true rfl); intro _ _ _ _ _)
  | ((with_reducible refine' Tw.k_tup ?z ?_); (case z => exact Nat.le_of_ble_eq_true rfl); intro _ _ _ _ _)
  | with_reducible refine Tw.u_parK ?_
  | with_reducible refine Tw.k_par ?_
  | with_reducible refine Tw.u_fld ?_
  | with_reducible refine Tw.u_chain ?_
  | with_reducible refine Tw.u_meth0 ?_
  | with_reducible refine Tw.u_meth ?_
  | with_reducible refine Tw.r_eqI ?_
  | with_reducible refine Tw.r_neI ?_
  | with_reducible refine Tw.r_eqS ?_
  | with_reducible refine Tw.r_neS ?_
  | with_reducible refine Tw.r_eqB ?_
  | with_reducible refine Tw.r_neB ?_
  | with_reducible refine Tw.r_isB ?_
  | with_reducible refine Tw.r_notB ?_
  | with_reducible refine Tw.r_reprB ?_
  | ((with_reducible refine' Tw.r_reprBB ?a ?_); (case a => walk_at "hp"))
  | with_reducible refine Tw.u_forR ?_
  | with_reducible refine Tw.u_forL ?_
  | with_reducible refine Tw.u_forT ?_
  | with_reducible refine Tw.u_sfld ?_
  | with_reducible refine Tw.u_make0 ?_
  | with_reducible refine Tw.u_make ?_
  | with_reducible refine Tw.u_ownC ?_
  | with_reducible refine Tw.k_ownC ?_
  | with_reducible refine Tw.u_sm ?_
  | with_reducible refine Tw.k_sm0 ?_
  | with_reducible refine Tw.k_sm ?_
  | with_reducible refine Tw.u_gcons ?_
  | with_reducible refine Tw.u_gnil ?_
  | ((with_reducible refine' Tw.u_gtup ?a ?b ?_); (case a => exact L2.SqT.of (by walk_at "hp")); (case b => exact rfl))
  | ((with_reducible refine' Tw.k_ownC2 ?a ?_); (case a => walk_at "hp"))
  | ((with_reducible refine' Tw.r_own2 ?a ?b ?_); (case a => walk_at "hp"); (case b => walk_at "hp"))
  | ((with_reducible refine' Tw.r_ownI ?a ?_); (case a => walk_at "hp"))
  | ((with_reducible refine' Tw.r_ownR ?a ?_); (case a => walk_at "hp"))
  | ((with_reducible refine' Tw.r_own1 ?a ?_); (case a => walk_at "hp"))
  | ((with_reducible refine' Tw.k_meth ?a ?b ?_); (case a => walk_at "hp"); (case b => walk_at "lk"))
  | ((with_reducible refine' Tw.k_fld ?a ?b ?c ?d ?_); (case a => walk_at "hp"); (case b => assumption); (case c => assumption); (case d => walk_at "lk"))
  | ((with_reducible refine' Tw.k_set ?a ?b ?c ?d ?_); (case a => walk_at "hp"); (case b => assumption); (case c => assumption); (case d => walk_at "len"))
  | walk_at "c1"
  | with_reducible refine Tw.w_T ?_
  | with_reducible refine Tw.w_F ?_
  | with_reducible refine Tw.w_nT ?_
  | with_reducible refine Tw.w_nF ?_
  | ((with_reducible refine' Tw.r_mod ?a ?_); (case a => omega); intro _ _)
  | ((with_reducible refine' Tw.r_mul ?a ?_); (case a => first | exact Or.inl ⟨by omega, by omega⟩ | exact Or.inr ⟨by omega, by omega⟩))
  | ((with_reducible refine' Tw.r_div ?a ?b ?_); (case a => omega); (case b => omega))
  | ((with_reducible refine' Tw.r_pow ?a ?b ?c ?d ?_); (case a => omega); (case b => omega); (case c => exact ⟨by omega, by omega⟩); (case d => (simp only [Int.reduceToNat, Int.reducePow]; exact rfl)))
  | ((with_reducible refine' Tw.r_ixL' ?a ?b ?_); (case a => walk_at "hp"); (case b => exact rfl))
  | ((with_reducible refine' Tw.r_ixT' ?a ?b ?_); (case a => walk_at "hp"); (case b => exact rfl))
  | ((with_reducible refine' Tw.r_setL ?a ?b ?_); (case a => walk_at "hp"); (case b => exact rfl))
  | ((with_reducible refine' Tw.r_lenL ?a ?_); (case a => walk_at "hp")))
local macro_rules | `(tactic| walk_at "r") => `(tactic| repeat walk_at "r1")
local macro_rules | `(tactic| walk_at "lk") => `(tactic| fail)
local macro_rules | `(tactic| walk_at "c1") => `(tactic| fail)
namespace M64
open PySem PySem.Spec PyProof.Rows L2 Tw Mr
section
variable {w : World} {K : PySem.W.Frag} {mg : Str → Option Value} {base : Heap} {cl : Nat → Addr}
theorem ok_draw0 (T : Txt K w mg cl) : Cal P w K mg base 3 "_law_draw" spDrawX [] := by
  refine cal0 (k := 2) (N := N_draw) T.d_draw sc_draw (by rintro vs H Q E ⟨_, _, _, _, _, _, rfl, _⟩; rfl) ?_
  rintro f cdv A out s H vs Q E hr ⟨p, L, a, r, many, ns, rfl, hp, hL, ha0, han, hlen, hm1, hm2, k⟩
  refine ⟨_, (pss_cons (ps_if (pt_cmpR op_gt (pe_ix ix_list (pv 0) pe_int (fun _ _ => rfl)) pe_int (nomark _)) (pss_cons (ps_set (i := 2) sc_draw.nd rfl (Or.inl rfl) (pe_op op_mod (pe_callTy Tw.c_int (by rfl) T.n_int (by decide +kernel) (pa_cons (pe_ix ix_list (pv 0) pe_int (fun _ _ => rfl)) pa_nil)) (pv 1)))
      (pss_cons (ps_asg (pe_op op_fdivW (pe_callTy Tw.c_int (by rfl) T.n_int (by decide +kernel) (pa_cons (pe_ix ix_list (pv 0) pe_int (fun _ _ => rfl)) pa_nil)) (pv 1)) (pg_sub (pv 0) pe_int set_list))
      (pss_one (ps_ret (pv 2))))) pss_nil)
    (pss_cons (ps_set (i := 3) sc_draw.nd rfl (Or.inl rfl) (pe_ix ix_list (pv 0) pe_int (fun _ _ => rfl)))
    (pss_cons (ps_asg (pe_op op_add (pv 3) pe_int) (pg_sub (pv 0) pe_int set_list))
    (pss_cons (ps_set (i := 4) sc_draw.nd rfl (Or.inl rfl) (pe_op op_add (pe_op op_mul pe_int (pv 3)) pe_int))
    (C8.pss_cut (ps_if (pt_cmpR (op_neD hr.u) (pe_ix ix_list (pv 0) pe_int (fun _ _ => rfl)) (pe_lst pa_nil) (nomark _)) (pss_one (ps_set (i := 4) sc_draw.nd rfl (Or.inl rfl) (pe_ix ix_list (pe_ix ix_list (pv 0) pe_int (fun _ _ => rfl)) (pe_op op_mod (pe_callTy Tw.c_int (by rfl) T.n_int (by decide +kernel) (pa_cons (pv 3) pa_nil)) (pe_callB Tw.c_len (by rfl) T.n_len (by decide +kernel) (pa_cons (pe_ix ix_list (pv 0) pe_int (fun _ _ => rfl)) pa_nil))) (fun _ _ => rfl)))) pss_nil)
    (pss_cons (ps_if (PW.pt (pw_and (pt_cmpR op_lt (pv 3) (pe_callB Tw.c_len (by rfl) T.n_len (by decide +kernel) (pa_cons (pe_ix ix_list (pv 0) pe_int (fun _ _ => rfl)) pa_nil)) (nomark _)) (pw_and1 (pt_cmpR op_ge (pe_callB Tw.c_abs (by rfl) T.n_abs (by decide +kernel) (pa_cons (pv 4) pa_nil)) (pe_op op_pow pe_int pe_int) (nomark _))))) (pss_cons (ps_set (i := 5) sc_draw.nd rfl (Or.inl rfl) (pe_op op_add (pe_op op_mul pe_int (pe_op op_sub (pe_callB Tw.c_abs (by rfl) T.n_abs (by decide +kernel) (pa_cons (pv 4) pa_nil)) (pe_op op_pow pe_int pe_int))) (pe_callTy Tw.c_int (by rfl) T.n_int (by decide +kernel) (pa_cons (pe_cmpR op_lt (pv 4) pe_int (nomark _)) pa_nil))))
      (pss_cons (ps_asg (pe_op op_fdivW (pe_callTy Tw.c_int (by rfl) T.n_int (by decide +kernel) (pa_cons (pv 5) pa_nil)) (pv 1)) (pg_sub (pv 0) pe_int set_list))
      (pss_one (ps_ret (pe_op op_mod (pe_callTy Tw.c_int (by rfl) T.n_int (by decide +kernel) (pa_cons (pv 5) pa_nil)) (pv 1)))))) pss_nil)
    (pss_cons (ps_set (i := 6) sc_draw.nd rfl (Or.inl rfl) (pe_op op_mod (pe_callTy Tw.c_int (by rfl) T.n_int (by decide +kernel) (pa_cons (pe_op op_pow (pe_op op_add (pe_op op_add (pe_op op_mod (pe_callTy Tw.c_int (by rfl) T.n_int (by decide +kernel) (pa_cons (pv 4) pa_nil)) pe_int) (pe_op op_mul pe_int (pv 3))) pe_int) pe_int) pa_nil)) pe_int))
    (pss_cons (ps_set (i := 6) sc_draw.nd rfl (Or.inl rfl) (pe_op op_mod (pe_callTy Tw.c_int (by rfl) T.n_int (by decide +kernel) (pa_cons (pe_op op_pow (pe_op op_add (pe_op op_add (pe_op op_mul (pv 6) (pe_op op_add (pe_op op_mul pe_int (pv 3)) pe_int)) (pe_op op_mul (pe_op op_mul pe_int (pv 3)) (pv 3))) pe_int) pe_int) pa_nil)) pe_int))
    (pss_one (ps_ret (pe_op op_mod (pe_callTy Tw.c_int (by rfl) T.n_int (by decide +kernel) (pa_cons (pe_op op_fdivW (pv 6) pe_int) pa_nil)) (pv 1)))))))))))), ?_⟩
  try dsimp only [cxK]
  walk_at "r"
  refine w_dec (fun h => ?_) (fun h => ?_)
  · walk_at "r"
    exact k _ _ _ _ (by assumption) (by assumption) (fun b o n h => by rw [upd_ne n]; exact h) upd_same ha0 (by omega)
  · walk_at "r"
    have hp1 : upd H p (.lst [.ref L, .int (a + 1), .int r]) p = some (.lst [.ref L, .int (a + 1), .int r]) := upd_same
    have hL1 : upd H p (.lst [.ref L, .int (a + 1), .int r]) L = some (.lst (ns.map V.int)) := penL hp hL
    have S1 : ∀ b o, b ≠ p → H b = some o → upd H p (.lst [.ref L, .int (a + 1), .int r]) b = some o := fun b o n h => by rw [upd_ne n]; exact h
    show C8.tCut _ _ _ _ (upd H p (.lst [.ref L, .int (a + 1), .int r]))
    generalize upd H p (.lst [.ref L, .int (a + 1), .int r]) = H1 at hp1 hL1 S1 ⊢
    refine u_cut (fun σ' H' => ∃ c, σ' = [some (.ref p), some (.int many), none, some (.int a), some (.int c), none, none] ∧ Same H1 H') ?_ ?_
    · walk_at "r"
      refine r_ne0 (ns := ns) (by walk_at "hp") (by walk_at "hp") ?_
      walk_at "r"
      refine w_ndec (fun hne => ?_) (fun he => ?_)
      · walk_at "r"
        have hpos : 0 < ns.length := List.length_pos_iff.mpr hne
        refine r_mod (by rw [List.length_map]; omega) fun h0 h1 => ?_
        rw [List.length_map] at h0 h1 ⊢
        obtain ⟨c, hc⟩ := atI_ints h0 h1
        refine r_ixL' (by walk_at "hp") hc ?_
        walk_at "r"
        exact ⟨_, rfl, by assumption⟩
      · walk_at "r"
        exact ⟨_, rfl, by assumption⟩
    · rintro σ' H' ⟨c, rfl, S2⟩
      have hp2 := S2 _ _ hp1
      have hL2 := S2 _ _ hL1
      have S12 : ∀ b o, b ≠ p → H b = some o → H' b = some o := fun b o n h => S2 _ _ (S1 b o n h)
      walk_at "r"
      refine w_dec (fun h3 => ?_) (fun h3 => ?_)
      · walk_at "r"
        refine w_dec (fun h4 => ?_) (fun h4 => ?_)
        · walk_at "r"
          exact k _ _ _ _ (by assumption) (by assumption) (fun b o n h => by rw [upd_ne n]; exact S12 b o n h) upd_same (by omega) (by omega)
        · walk_at "r"
          refine r_pow (z := _) (by decide) (by decide) (drawB (by assumption) (by omega) (by omega) (by omega) ha0 (by omega) (by decide) (by decide) (by decide) (by decide)) rfl ?_
          walk_at "r"
          exact k _ _ _ _ (by assumption) (by assumption) S12 hp2 (by omega) (by omega)
      · walk_at "r"
        refine r_pow (z := _) (by decide) (by decide) (drawB (by assumption) (by omega) (by omega) (by omega) ha0 (by omega) (by decide) (by decide) (by decide) (by decide)) rfl ?_
        walk_at "r"
        exact k _ _ _ _ (by assumption) (by assumption) S12 hp2 (by omega) (by omega)
theorem ok_draw (T : Txt K w mg cl) : CalM P w K mg base cl 3 "_law_draw" drawF [] := drawM (ok_draw0 T)
theorem ok_pen (T : Txt K w mg cl) : Cal P w K mg base 3 "_law_pen" (spPenX K) [] := by
  refine cal0 (k := 2) (N := N_pen) T.d_pen sc_pen (by rintro vs H Q E ⟨_, _, rfl, _⟩; rfl) ?_
  rintro f cdv A out s H vs Q E hr ⟨a, ns, rfl, hS, hl, k⟩
  refine ⟨_, (pss_one (ps_ret (pe_lst (pa_cons (pe_callTy Tw.c_list (by rfl) T.n_list (by decide +kernel) (pa_cons (pe_slice sl_list (pv 0) po_none (po_some pe_int)) pa_nil)) (pa_cons pe_int (pa_cons pe_int pa_nil)))))), ?_⟩
  try dsimp only [cxK]
  walk_at "r"
  refine r_slL hS fun p H1 S1 hp _ => ?_
  walk_at "r"
  have e : cutV (ns.map V.int) none (some 63) = ns.map V.int := by
    exact (cutV_to (k := 63)).trans (List.take_of_length_le (by rw [List.length_map]; exact hl))
  rw [e] at hp
  refine r_listL (SqL.of hp) fun l H2 S2 hl2 hl0 => ?_
  walk_at "r"
  rename_i q H3 S3 hq hq0
  have n2 : H2 l ≠ none := by rw [hl2]; exact Option.some_ne_none _
  refine k q l H3 (S1.trans (S2.trans S3)) ?_ ?_ ?_ hq (S3 _ _ hl2)
  · cases e0 : H q with
    | none => rfl
    | some o => exact absurd (S2 _ _ (S1 _ _ e0)) (by rw [hq0]; exact nofun)
  · cases e0 : H l with
    | none => rfl
    | some o => exact absurd (S1 _ _ e0) (by rw [hl0]; exact nofun)
  · rintro rfl
    exact n2 hq0

end
end M64

namespace M64
open PySem PySem.Spec PyProof.Rows L2 Tw Mr
local macro_rules | `(tactic| walk_at "mm") => `(tactic| simp -implicitDefEqProofs only [↓Mr.hold_cM, ↓Mr.hold_ite, ↓Mr.hold_for, ↓Mr.hold_lc, ↓Mr.hold_wh, Mr.hIte_true, Mr.hIte_false, ↓Mr.startT.eq_1, ↓Mr.endsM.eq_1, ↓Mr.lawEnds.eq_1, ↓Mr.fSeq.eq_1, ↓Mr.fSkip.eq_1, ↓Mr.fRet.eq_1, ↓Mr.fRetN.eq_1, ↓Mr.fRetF.eq_1, ↓Mr.fDrop.eq_1, ↓Mr.fSet.eq_1, ↓Mr.fAsg.eq_1, ↓Mr.fPar.eq_1, ↓Mr.fFldS.eq_1, ↓Mr.fIfS.eq_1, ↓Mr.fRaise.eq_1, ↓Mr.fTry.eq_1, ↓Mr.fBrk.eq_1, ↓Mr.fCnt.eq_1, ↓Mr.gN.eq_1, ↓Mr.gT.eq_1, ↓Mr.gsNil.eq_1, ↓Mr.gsCons.eq_1, ↓Mr.xk,
  ↓Mr.fVar.eq_1, ↓Mr.fC.eq_1, ↓Mr.f2.eq_1, ↓Mr.f3.eq_1, ↓Mr.g2.eq_1, ↓Mr.kB.eq_1, ↓Mr.fTest.eq_1, ↓Mr.fTru.eq_1, ↓Mr.fAnd.eq_1, ↓Mr.fOr.eq_1, ↓Mr.fNot.eq_1, ↓Mr.fAndV.eq_1, ↓Mr.fOrV.eq_1, ↓Mr.fNotV.eq_1, ↓Mr.fIf.eq_1, ↓Mr.fUn.eq_1, ↓Mr.onO.eq_1, Mr.onB_bl, Mr.onB_non, Mr.onB_int, Mr.onB_str, Mr.onB_lst, Mr.onB_tup, Mr.onB_dct, ↓Mr.fNil.eq_1, ↓Mr.fCons.eq_1, ↓Mr.fLst.eq_1, ↓Mr.fTup.eq_1, ↓Mr.fLstC.eq_1, ↓Mr.fDct0.eq_1, ↓Mr.fDctC.eq_1, ↓Mr.fPar3.eq_1, ↓Mr.fSm0.eq_1, ↓Mr.fSm1.eq_1, ↓Mr.onS.eq_1, Mr.isS, Mr.eqF, List.all_cons, List.all_nil, List.any_cons, List.any_nil, Mr.upperO, Mr.lowerO, Mr.partO, Mr.isiT, Mr.tys, Mr.kkAny, Mr.reprX, Mr.S.datX, Mr.T.datX, Mr.datsX, Mr.datsK, Mr.kD, ↓Mr.fCB.eq_1, ↓Mr.fCall.eq_1, ↓Mr.fMk.eq_1, ↓Mr.fMkK.eq_1, ↓Mr.fMt.eq_1, ↓Mr.fMtK.eq_1, ↓Mr.fCallK.eq_1, ↓Mr.fErr.eq_1, ↓Mr.fStrO.eq_1, ↓Mr.fJs.eq_1, ↓Mr.jsT, ↓Mr.fSl.eq_1, ↓Mr.oNone.eq_1, ↓Mr.oSome.eq_1, ↓Mr.fLM.eq_1, ↓Mr.onL.eq_1,
  Mr.addO, Mr.intO, Mr.mulO, Mr.ltO, Mr.leO, Mr.gtO, Mr.geO, Mr.eqO, Mr.neO, Mr.isO, Mr.isnO, Mr.T.isN, Mr.negO, Mr.ixO, Mr.lenO, Mr.absO, Mr.intO1, Option.isSome_some, Option.isSome_none, Mr.strO, Mr.strLO, Mr.listO, Mr.tupO, Mr.reprO, Mr.isiO, Mr.fldO, Mr.xgO, Mr.fmtO, Mr.joinO, Mr.slO, Mr.inO', Mr.ninO', Mr.inB, Mr.T.flat, Mr.S.put_same, Mr.S.put_put, Mr.S.pn_on, Mr.S.pn_pen, Mr.S.put_pen, Mr.S.pn_pn, ↓Mr.fLc.eq_1, ↓Mr.fYes.eq_1, ↓Mr.iSeq.eq_1, ↓Mr.iRange1.eq_1, ↓Mr.iRange2.eq_1, Mr.S.its?, Mr.okAt, Mr.wipeT, ↓Mr.fFor.eq_1, Mr.allO, Mr.anyO, ↓Mr.doneM.eq_1, Option.map_some, Option.map_none,  Mr.appO, Mr.revO, Mr.clrO, ↓Mr.gEqOwn.eq_1, ↓Mr.gOwn2.eq_1, ↓Mr.gOwnI_row, ↓Mr.gOwnR_row, ↓Mr.kObj.eq_1, ↓Mr.fNegO.eq_1, ↓Mr.fOwnC.eq_1, ↓Mr.fPro.eq_1, ↓Mr.gInK.eq_1, ↓Mr.gIxK.eq_1, ↓Mr.iKeyK.eq_1, Mr.eqE, Bool.true_xor, Bool.false_xor, ↓Mr.gNeOwn.eq_1,
  Mr.S.lst?, Mr.S.seq?, Mr.S.ty?, Mr.S.obj?, Mr.S.dat, Mr.T.dat, Mr.dats, Mr.atI_0, Mr.atI_1, Mr.atI_2, Mr.atI_3, Mr.atI_4, Mr.atI_5, Mr.atI_6, Mr.atI_7, Mr.atI_8, Mr.atI_9, Mr.atI_10, Mr.atI_11, Mr.atI_12, Mr.atI_13, PyData.eqv, PyData.eqvAll, Bool.and_true, Bool.true_and, beq_self_eq_true, Bool.and_self, decide_true, decide_false, Mr.okC,
  List.map_cons, List.map_nil, List.length_cons, List.length_nil, List.cons_append, List.nil_append, List.append_nil, List.replicate_succ, List.replicate_zero, List.getElem?_cons_zero, List.getElem?_cons_succ, List.set_cons_zero, List.set_cons_succ, List.getD_cons_zero, List.getD_cons_succ, L2.CPow, Int.reduceToNat, Int.reducePow, Int.reduceAbs, Int.reduceLE, Int.reduceLT, Int.reduceSub, Int.reduceAdd, Int.reduceNeg, Int.reduceMul, Int.reduceEq, Nat.reducePow, Nat.sub_self, Nat.reduceSub, Nat.reduceAdd, Nat.reduceLeDiff, Nat.reduceLT, Nat.reduceEqDiff, Nat.zero_add, Nat.add_zero, Nat.add_one_sub_one, Nat.sub_zero, Nat.zero_sub,
  true_and, and_true, ite_true, ite_false, if_true, if_false, Bool.false_eq_true, Bool.true_eq_false, ↓reduceIte, Bool.not_true, Bool.not_false, List.zip_cons_cons, List.zip_nil_left, List.zip_nil_right, M64.kkA, M64.lkA, M64.insL, M64.excL, List.mem_cons, List.not_mem_nil, or_false, or_true, true_or, false_or, reduceCtorEq, Bool.not_eq_true, Bool.not_eq_false, Bool.not_not])
local macro_rules | `(tactic| walk_at "sh") => `(tactic| exact Mr.sh (by first | (simp only [Mr.niceD, Mr.niceAll, Bool.and_true, Bool.and_eq_true, true_and, and_true]; done) | (simp only [Mr.niceD, Mr.niceAll, Bool.and_true, Bool.and_eq_true, true_and, and_true]; decide +kernel) | simp [Mr.niceD, Mr.niceAll, *]) (by simp [PyData.depth, PyData.depthAll]))
local macro_rules | `(tactic| walk_at "rp") => `(tactic| exact Mr.rp (by first | (simp only [Mr.niceD, Mr.niceAll, Bool.and_true, Bool.and_eq_true, true_and, and_true]; done) | (simp only [Mr.niceD, Mr.niceAll, Bool.and_true, Bool.and_eq_true, true_and, and_true]; decide +kernel) | simp [Mr.niceD, Mr.niceAll, *]) (by simp [PyData.depth, PyData.depthAll]) (by simp only [Mr.wD, Mr.wAll]; first | decide | omega))

abbrev Q4 := Int × Int × Int × Int
/-- the usual ones -/
def NM : List (Str × Q4) := [("sum", 1, 1, 0, 0), ("union", 1, 1, -1, 0), ("both", 0, 0, 1, 0), ("lacks", 1, 0, -1, 0), ("xor", 1, 1, -2, 0), ("join", 0, 0, 0, 1), ("left", 1, 0, 0, 0), ("right", 0, 1, 0, 0), ("none", 0, 0, 0, 0)]
def tup4 (q : Q4) : Mr.T := .tup [.int q.1, .int q.2.1, .int q.2.2.1, .int q.2.2.2]
def lst4 (q : Q4) : Mr.T := .lst [.int q.1, .int q.2.1, .int q.2.2.1, .int q.2.2.2]
theorem tab_nm : TAB_NAMES = NM.map fun p => (p.1, tup4 p.2) := rfl
theorem look_nm (z : Str) : TAB_NAMES.lookup z = (NM.lookup z).map tup4 := by
  rw [tab_nm]
  generalize NM = l
  induction l with
  | nil => rfl
  | cons p r ih =>
    rw [List.map_cons, List.lookup_cons, List.lookup_cons]
    cases z == p.1 with
    | true => rfl
    | false => exact ih
theorem nm_look : ∀ p ∈ NM, NM.lookup p.1 = some p.2 := by decide +kernel
def labelT (q : Q4) : Mr.T := match NM.find? fun p => decide (p.2 = q) with | some p => .str p.1 | none => .non
def fP (q : Q4) : Mr.T → Bool
  | .str z => (match NM.lookup z with | some q' => decide (q' = q) | none => false)
  | _ => false
theorem tl (q : Q4) : (TAB_NAMES.map fun p => Mr.T.str p.1).filter (fP q) = (NM.filter fun p => decide (p.2 = q)).map fun p => Mr.T.str p.1 := by
  rw [tab_nm, List.map_map, List.filter_map]
  show List.map _ (List.filter _ NM) = _
  refine congrArg (List.map _) (List.filter_congr fun p hp => ?_)
  show (match NM.lookup p.1 with | some q' => decide (q' = q) | none => false) = _
  rw [nm_look p hp]
theorem nm_filter (q : Q4) : ((NM.filter fun p => decide (p.2 = q)) = [] ∧ labelT q = .non) ∨ ∃ p ∈ NM, p.2 = q ∧ (NM.filter fun p => decide (p.2 = q)) = [p] ∧ labelT q = .str p.1 := by
  unfold labelT
  rw [← List.head?_filter]
  by_cases h : ∃ p ∈ NM, p.2 = q
  · obtain ⟨p, hp, rfl⟩ := h
    have e := (show ∀ p ∈ NM, (NM.filter fun p' => decide (p'.2 = p.2)) = [p] by decide +kernel) p hp
    exact .inr ⟨p, hp, rfl, e, by rw [e]; rfl⟩
  · have e : (NM.filter fun p => decide (p.2 = q)) = [] := List.filter_eq_nil_iff.mpr fun p hp k => h ⟨p, hp, of_decide_eq_true k⟩
    exact .inl ⟨e, by rw [e]; rfl⟩
def fQ (q : Q4) : Mr.T → Bool
  | .tup [_, .lst [.int a, .int b, .int c, .int e]] => decide ((a, b, c, e) = q)
  | _ => false
theorem tl2 (q : Q4) : ((NM.map fun p => Mr.T.tup [.str p.1, lst4 p.2]).filter (fQ q)).map (fun t => match t with | .tup [x, y] => x | _ => .non) = (NM.filter fun p => decide (p.2 = q)).map fun p => Mr.T.str p.1 := by
  rw [List.filter_map, List.map_map]
  rfl
theorem nm_nice : ∀ p ∈ NM, SeqAt.shaped (.list [.str p.1]) = true := by decide +kernel
theorem sh4t (a b c e : Int) : SeqAt.shaped (.tuple [.int a, .int b, .int c, .int e]) = true := by
  simp [SeqAt.shaped, PyData.canLay0, PyData.canLayAll0, PyData.depth, PyData.depthAll]
theorem sh4l (a b c e : Int) : SeqAt.shaped (.list [.int a, .int b, .int c, .int e]) = true := by
  simp [SeqAt.shaped, PyData.canLay0, PyData.canLayAll0, PyData.depth, PyData.depthAll]
theorem dec4 (a b c e a' b' c' e' : Int) : decide ((a, b, c, e) = (a', b', c', e')) = (a == a' && (b == b' && (c == c' && e == e'))) := by
  rw [Bool.eq_iff_iff]
  simp
theorem cut4 (a b c d : Mr.T) : cutT [a, b, c, d] none (some 4) = [a, b, c, d] := rfl
def isName : Mr.T → Bool
  | .str z => (NM.lookup z).isSome
  | _ => false
def F_Tusual : FD := fun ts s Q E => ∃ v, ts = [v] ∧ ((∃ z a b c e, v = .str z ∧ NM.lookup z = some (a, b, c, e) ∧ Q (tally a b c e) s) ∨ (isName v = false ∧ v.datX.isSome = true ∧ E ⟨2, [("name", v)]⟩ s))
def F_Tlabel : FD := fun ts s Q _ => ∃ a b c e, ts = [tally a b c e] ∧ Q (labelT (a, b, c, e)) s
def F_pick : FD := fun ts s Q _ => ∃ v, ts = [.pen, v] ∧ s.pen ≤ 1000000 ∧ ∃ xs, v = .lst xs ∧ xs ≠ [] ∧ xs.length ≤ 1000 ∧ ∀ t ∈ xs, Q t (s.pn (s.pen + 1))
def F_part : FD := fun ts s Q _ => ts = [.pen] ∧ s.pen ≤ 900000 ∧ ∀ i : Int, -1000000 < i → i < 1000000 → Q (.int i) (s.pn (s.pen + 4))
def F_parts : FD := fun ts s Q _ => ts = [.pen] ∧ s.pen ≤ 800000 ∧ ∀ a b c e (r : List Mr.T), (∀ i ∈ [a, b, c, e], -1000000 < i ∧ i < 1000000) → r.length ≤ 2 → Q (.lst (.int a :: .int b :: .int c :: .int e :: r)) (s.pn (s.pen + 17))
def F_worth : FD := fun ts s Q _ => ∃ q m n, ts = [lst4 q, .int m, .int n] ∧ small m ∧ small n ∧ Q (.int (worth q.1 q.2.1 q.2.2.1 q.2.2.2 m n)) s
def F_usual : FD := fun ts s Q _ => ts = [] ∧ Q (.lst (NM.map fun p => .tup [.str p.1, lst4 p.2])) s
def F_label : FD := fun ts s Q _ => ∃ q, ts = [lst4 q] ∧ Q (labelT q) s
section
variable {w : World} {K : PySem.W.Frag} {mg : Str → Option Value} {base : Heap} {cl : Nat → Addr}
theorem fn_Tusual (T : Txt K w mg cl) : ∀ {x : Str} {f : Addr} {fd : FuncData}, C8.Fun K x "Tally.usual" s_Tusual f fd → FnG P w K mg base 6 f fd ["name"] (spM K cl F_Tusual) := by
  refine fnM (k := 5) (N := N_Tusual) sc_Tusual ?len (fun f cdv A out s H E hr => (jss_cons (js_if (JW.jt (jw_or (jt_not (jt_val (je_b (c_isi T.wc) (by rfl) T.n_isinstance (by decide +kernel) (ja_cons (je_var 0) (ja_cons (je_ty .str (by rfl) T.n_str (by decide +kernel)) ja_nil))))) (jw_or1 (jt_cmp (o_ninK T.kd_NAMES) (je_var 0) (je_glob (by rfl) T.g_NAMES (fun _ _ _ => .cell _)) (by rfl))))) (jss_one (js_raise (by rfl) Tw.tk_cx T.x_BadName T.oex_BadName hr (by rfl) T.mx_BadName (ja_cons (je_var 0) ja_nil))) jss_nil)
    (jss_cons (js_asg (je_ixK T.kd_NAMES (je_glob (by rfl) T.g_NAMES (fun _ _ _ => .cell _)) (je_var 0) (fun _ _ => rfl)) (jg_tup (n := 4) (by rfl) (jgs_cons (jg_name (i := 1) sc_Tusual.nd rfl (Or.inl rfl)) (jgs_cons (jg_name (i := 2) sc_Tusual.nd rfl (Or.inl rfl)) (jgs_cons (jg_name (i := 3) sc_Tusual.nd rfl (Or.inl rfl)) (jgs_cons (jg_name (i := 4) sc_Tusual.nd rfl (Or.inl rfl)) jgs_nil))))))
    (jss_one (js_ret (je_mk true Tw.tk_cx (mk_Tinit T) hr (by decide) (by rfl) (ja_cons (je_var 1) (ja_cons (je_var 2) (ja_cons (je_var 3) (ja_cons (je_var 4) ja_nil)))))))))) ?sem
  case len => rintro ts s Q E ⟨_, rfl, _⟩; rfl
  case sem =>
    rintro ts s Q E ⟨v, rfl, k⟩
    rcases k with ⟨z, a, b, c, e, rfl, hz, k⟩ | ⟨hn, hd, k⟩
    · walk_at "mm"
      rw [look_nm, hz]
      walk_at "mm"
      rw [look_nm, hz]
      unfold tup4
      walk_at "mm"
      exact fun x hx => mk_tally hx k
    · cases v <;> first | cases hd; done | skip
      all_goals walk_at "mm"
      all_goals first | exact k | skip
      have hn : (NM.lookup _).isSome = false := hn
      rw [look_nm, Option.isSome_map, hn]
      walk_at "mm"
      exact k
theorem sta_Tusual (T : Txt K w mg cl) : StaM P w K mg base cl 6 3 "usual" F_Tusual [] := staOf T.d_Tusual (fun _ _ _ => .nil) (fn_Tusual T)
theorem fn_Tlabel (T : Txt K w mg cl) : ∀ {x : Str} {f : Addr} {fd : FuncData}, C8.Fun K x "Tally.label" s_Tlabel f fd → FnG P w K mg base 3 f fd ["self"] (spM K cl F_Tlabel) := by
  refine fnM (k := 2) (N := N_Tlabel) sc_Tlabel ?len (fun f cdv A out s H E hr => (jss_cons (js_setLcIf (i := 1) (own := [("name", 2)]) (by rfl) sc_Tlabel.nd rfl rfl (sw_true rfl rfl rfl (by decide +kernel)) (ji_keysK T.kd_NAMES (je_glob (by rfl) T.g_NAMES (fun _ _ _ => .cell _))) (blkOk_by (own := [("name", 2)]) (N := N_Tlabel) (sc := C8.fnScope s_Tlabel) (by decide +kernel)) (fun _ _ _ _ _ => (pg_name (i := 2) sc_Tlabel.nd rfl (Or.inl rfl))) (gt_name (i := 2) (by decide)) (fun _ _ _ _ _ => (jt_cmp (o_eq hr) (je_ixK T.kd_NAMES (je_glob (by rfl) T.g_NAMES (fun _ _ _ => .cell _)) (je_var 2) (fun _ _ => rfl)) (je_tup (ja_cons (je_fld T.fld_a (je_var 0)) (ja_cons (je_fld T.fld_b (je_var 0)) (ja_cons (je_fld T.fld_c (je_var 0)) (ja_cons (je_fld T.fld_e (je_var 0)) ja_nil))))) (nomark _))) (fun _ _ _ _ _ => (je_var 2)))
    (jss_one (js_ret (je_if (jt_cmp (o_ne hr) (je_var 1) (je_lst ja_nil) (nomark _)) (je_ix (je_var 1) je_int (fun _ _ => rfl)) je_non))))) ?sem
  case len => rintro ts s Q E ⟨_, _, _, _, rfl, _⟩; rfl
  case sem =>
    rintro ts s Q E ⟨a, b, c, e, rfl, k⟩
    unfold tally
    walk_at "mm"
    refine lc_filter (fP (a, b, c, e)) (fun t => t) ?_ ?_ (by decide) ?_ trivial
    · intro t ht Q' k'
      rw [tab_nm, List.map_map] at ht
      obtain ⟨⟨z, a', b', c', e'⟩, hp, rfl⟩ := List.mem_map.mp ht
      have hz := nm_look _ hp
      simp only [Function.comp, fP] at k' ⊢
      walk_at "mm"
      rw [look_nm]
      simp only [hz] at k' ⊢
      unfold tup4
      walk_at "mm"
      refine ⟨⟨sh4t _ _ _ _, sh4t _ _ _ _⟩, ?_⟩
      rw [dec4] at k'
      exact k'
    · intro t ht _ Q' k'
      walk_at "mm"
      exact k'
    rw [tl, List.map_id']
    rcases nm_filter (a, b, c, e) with ⟨h1, h2⟩ | ⟨p, hp, h0, h1, h2⟩
    · rw [h1]
      rw [h2] at k
      walk_at "mm"
      exact ⟨⟨by walk_at "sh", by walk_at "sh"⟩, k⟩
    · rw [h1]
      rw [h2] at k
      have hn := nm_nice p hp
      walk_at "mm"
      exact ⟨⟨hn, by walk_at "sh"⟩, k⟩
theorem pro_Tlabel (T : Txt K w mg cl) : ProM P w K mg base cl 3 3 "label" F_Tlabel := proOf T.d_Tlabel (fn_Tlabel T)
theorem fn_pick (T : Txt K w mg cl) : ∀ {x : Str} {f : Addr} {fd : FuncData}, C8.Fun K x "_law_pick" s_pick f fd → FnG P w K mg base 6 f fd ["_law_pen_here", "_law_some"] (spM K cl F_pick) := by
  refine fnM (k := 5) (N := N_pick) sc_pick ?len (fun f cdv A out s H E hr => (jss_one (js_ret (je_ix (je_var 1) (je_call Tw.tk_cx (ok_draw T) hr (by decide) (by rfl) (ja_cons (je_var 0) (ja_cons (je_b c_len (by rfl) T.n_len (by decide +kernel) (ja_cons (je_var 1) ja_nil)) ja_nil))) (fun _ _ => rfl))))) ?sem
  case len => rintro ts s Q E ⟨_, rfl, _⟩; rfl
  case sem =>
    rintro ts s Q E ⟨v, rfl, hn, xs, rfl, h0, h1, k⟩
    have hpos := List.length_pos_iff.mpr h0
    walk_at "mm"
    refine use_drawH (by omega) (by omega) hn fun j j0 j1 => ?_
    obtain ⟨t, e, m⟩ := atI_mem j0 j1
    walk_at "mm"
    rw [e]
    exact ⟨trivial, k t m⟩
theorem ok_pick (T : Txt K w mg cl) : CalM P w K mg base cl 6 "_law_pick" F_pick [] := calOf T.d_pick (fun _ _ _ => .nil) (fn_pick T)
theorem fn_part (T : Txt K w mg cl) : ∀ {x : Str} {f : Addr} {fd : FuncData}, C8.Fun K x "_law_part" s_part f fd → FnG P w K mg base 6 f fd ["_law_pen_here"] (spM K cl F_part) := by
  refine fnM (k := 5) (N := N_part) sc_part ?len (fun f cdv A out s H E hr => (jss_cons (js_set (i := 1) sc_part.nd rfl (Or.inl rfl) (je_ix (je_lst (ja_cons je_int (ja_cons je_int (ja_cons je_int (ja_cons (je_call Tw.tk_cx (ok_draw T) hr (by decide) (by rfl) (ja_cons (je_var 0) (ja_cons je_int ja_nil))) (ja_cons (je_call Tw.tk_cx (ok_draw T) hr (by decide) (by rfl) (ja_cons (je_var 0) (ja_cons (je_op o_pow je_int je_int) ja_nil))) (ja_cons je_int ja_nil))))))) (je_call Tw.tk_cx (ok_draw T) hr (by decide) (by rfl) (ja_cons (je_var 0) (ja_cons je_int ja_nil))) (fun _ _ => rfl)))
    (jss_one (js_ret (je_ix (je_lst (ja_cons (je_var 1) (ja_cons (je_op o_sub je_int (je_var 1)) ja_nil))) (je_call Tw.tk_cx (ok_draw T) hr (by decide) (by rfl) (ja_cons (je_var 0) (ja_cons je_int ja_nil))) (fun _ _ => rfl)))))) ?sem
  case len => rintro ts s Q E ⟨rfl, _⟩; rfl
  case sem =>
    rintro ts s Q E ⟨rfl, hn, k⟩
    walk_at "mm"
    refine use_drawH (by omega) (by omega) (by omega) fun j j0 j1 => ?_
    walk_at "mm"
    refine use_drawH (by omega) (by omega) (by simp only [S.pn_pen]; omega) fun j2 j20 j21 => ?_
    walk_at "mm"
    refine use_drawH (by omega) (by omega) (by simp only [S.pn_pen]; omega) fun j3 j30 j31 => ?_
    obtain ⟨t, e, m⟩ := atI_mem (xs := [Mr.T.int 0, .int 1, .int 2, .int j, .int j2, .int 999999]) j30 (by exact j31)
    have ht : ∃ i : Int, t = .int i ∧ 0 ≤ i ∧ i < 1000000 := by
      simp only [List.mem_cons, List.not_mem_nil, or_false] at m
      rcases m with rfl | rfl | rfl | rfl | rfl | rfl
      all_goals exact ⟨_, rfl, by omega, by omega⟩
    obtain ⟨i, rfl, i0, i1⟩ := ht
    walk_at "mm"
    rw [e]
    walk_at "mm"
    refine use_drawH (by omega) (by omega) (by simp only [S.pn_pen]; omega) fun j4 j40 j41 => ?_
    obtain ⟨t, e2, m2⟩ := atI_mem (xs := [Mr.T.int i, .int (0 - i)]) j40 (by exact j41)
    walk_at "mm"
    rw [e2]
    walk_at "mm"
    simp only [List.mem_cons, List.not_mem_nil, or_false] at m2
    rcases m2 with rfl | rfl
    · exact k _ (by omega) (by omega)
    · exact k _ (by omega) (by omega)
theorem ok_part (T : Txt K w mg cl) : CalM P w K mg base cl 6 "_law_part" F_part [] := calOf T.d_part (fun _ _ _ => .nil) (fn_part T)
theorem fn_worth (T : Txt K w mg cl) : ∀ {x : Str} {f : Addr} {fd : FuncData}, C8.Fun K x "_law_worth" s_worth f fd → FnG P w K mg base 3 f fd ["_law_parts_here", "_law_m", "_law_n"] (spM K cl F_worth) := by
  refine fnM (k := 2) (N := N_worth) sc_worth ?len (fun f cdv A out s H E hr => (jss_cons (js_set (i := 3) sc_worth.nd rfl (Or.inl rfl) (je_ix (je_lst (ja_cons (je_var 1) (ja_cons (je_var 2) ja_nil))) (je_bt c_int (by rfl) T.n_int (by decide +kernel) (ja_cons (je_cmp o_lt (je_var 2) (je_var 1) (nomark _)) ja_nil)) (fun _ _ => rfl)))
    (jss_cons (js_set (i := 4) sc_worth.nd rfl (Or.inl rfl) (je_op o_add (je_op o_mul (je_ix (je_var 0) je_int (fun _ _ => rfl)) (je_var 1)) (je_op o_mul (je_ix (je_var 0) je_int (fun _ _ => rfl)) (je_var 2))))
    (jss_one (js_ret (je_op o_add (je_op o_add (je_var 4) (je_op o_mul (je_ix (je_var 0) je_int (fun _ _ => rfl)) (je_var 3))) (je_op o_mul (je_op o_mul (je_ix (je_var 0) je_int (fun _ _ => rfl)) (je_var 1)) (je_var 2)))))))) ?sem
  case len => rintro ts s Q E ⟨_, _, _, rfl, _⟩; rfl
  case sem =>
    rintro ts s Q E ⟨⟨a, b, c, e⟩, m, n, rfl, hm, hn, k⟩
    unfold lst4
    have hl := small_least hm hn
    unfold worth least at k
    unfold least at hl
    by_cases h : n < m
    · have h2 : ¬ m < n := by omega
      rw [if_neg h2] at k hl
      walk_at "mm"
      rw [decide_eq_true h]
      walk_at "mm"
      exact ⟨cmul hm, cmul hn, cmul hl, cmul hm, cmul hn, k⟩
    · have h2 : (if m < n then m else n) = m := by split <;> omega
      rw [h2] at k hl
      walk_at "mm"
      rw [decide_eq_false h]
      walk_at "mm"
      exact ⟨cmul hm, cmul hn, cmul hl, cmul hm, cmul hn, k⟩
theorem ok_worth (T : Txt K w mg cl) : CalM P w K mg base cl 3 "_law_worth" F_worth [] := calOf T.d_worth (fun _ _ _ => .nil) (fn_worth T)
theorem fn_usual (T : Txt K w mg cl) : ∀ {x : Str} {f : Addr} {fd : FuncData}, C8.Fun K x "_law_usual" s_usual f fd → FnG P w K mg base 3 f fd [] (spM K cl F_usual) := by
  refine fnM (k := 2) (N := N_usual) sc_usual ?len (fun f cdv A out s H E hr => (jss_cons (js_set (i := 0) sc_usual.nd rfl (Or.inl rfl) (je_lst (ja_cons (je_tup (ja_cons je_str (ja_cons (je_lst (ja_cons je_int (ja_cons je_int (ja_cons je_int (ja_cons je_int ja_nil))))) ja_nil))) (ja_cons (je_tup (ja_cons je_str (ja_cons (je_lst (ja_cons je_int (ja_cons je_int (ja_cons (je_neg je_int) (ja_cons je_int ja_nil))))) ja_nil))) (ja_cons (je_tup (ja_cons je_str (ja_cons (je_lst (ja_cons je_int (ja_cons je_int (ja_cons je_int (ja_cons je_int ja_nil))))) ja_nil))) (ja_cons (je_tup (ja_cons je_str (ja_cons (je_lst (ja_cons je_int (ja_cons je_int (ja_cons (je_neg je_int) (ja_cons je_int ja_nil))))) ja_nil))) ja_nil))))))
    (jss_cons (js_set (i := 0) sc_usual.nd rfl (Or.inl rfl) (je_op o_add (je_var 0) (je_lst (ja_cons (je_tup (ja_cons je_str (ja_cons (je_lst (ja_cons je_int (ja_cons je_int (ja_cons (je_neg je_int) (ja_cons je_int ja_nil))))) ja_nil))) (ja_cons (je_tup (ja_cons je_str (ja_cons (je_lst (ja_cons je_int (ja_cons je_int (ja_cons je_int (ja_cons je_int ja_nil))))) ja_nil))) (ja_cons (je_tup (ja_cons je_str (ja_cons (je_lst (ja_cons je_int (ja_cons je_int (ja_cons je_int (ja_cons je_int ja_nil))))) ja_nil))) ja_nil))))))
    (jss_one (js_ret (je_op o_add (je_var 0) (je_lst (ja_cons (je_tup (ja_cons je_str (ja_cons (je_lst (ja_cons je_int (ja_cons je_int (ja_cons je_int (ja_cons je_int ja_nil))))) ja_nil))) (ja_cons (je_tup (ja_cons je_str (ja_cons (je_lst (ja_cons je_int (ja_cons je_int (ja_cons je_int (ja_cons je_int ja_nil))))) ja_nil))) ja_nil))))))))) ?sem
  case len => rintro ts s Q E ⟨rfl, _⟩; rfl
  case sem =>
    rintro ts s Q E ⟨rfl, k⟩
    walk_at "mm"
    exact k
theorem ok_usual (T : Txt K w mg cl) : CalM P w K mg base cl 3 "_law_usual" F_usual [] := calOf T.d_usual (fun _ _ _ => .nil) (fn_usual T)
theorem fn_label (T : Txt K w mg cl) : ∀ {x : Str} {f : Addr} {fd : FuncData}, C8.Fun K x "_law_label" s_label f fd → FnG P w K mg base 6 f fd ["_law_parts_here"] (spM K cl F_label) := by
  refine fnM (k := 5) (N := N_label) sc_label ?len (fun f cdv A out s H E hr => (jss_cons (js_setLcIf (i := 1) (own := [("_law_word", 2), ("_law_some", 3)]) (by rfl) sc_label.nd rfl rfl (sw_true rfl rfl rfl (by decide +kernel)) (ji_seq (je_call0 Tw.tk_cx (ok_usual T) hr (by decide) (by rfl))) (blkOk_by (own := [("_law_word", 2), ("_law_some", 3)]) (N := N_label) (sc := C8.fnScope s_label) (by decide +kernel)) (fun _ _ _ _ _ => (pg_tup (n := 2) (by rfl) (pgs_cons (pg_name (i := 2) sc_label.nd rfl (Or.inl rfl)) (pgs_cons (pg_name (i := 3) sc_label.nd rfl (Or.inl rfl)) pgs_nil)))) (gt_tup (gts_cons (gt_name (i := 2) (by decide)) (gts_cons (gt_name (i := 3) (by decide)) gts_nil))) (fun _ _ _ _ _ => (jt_cmp (o_eq hr) (je_var 3) (je_slice (je_var 0) jo_none (jo_some je_int)) (nomark _))) (fun _ _ _ _ _ => (je_var 2)))
    (jss_one (js_ret (je_if (jt_cmp (o_ne hr) (je_var 1) (je_lst ja_nil) (nomark _)) (je_ix (je_var 1) je_int (fun _ _ => rfl)) je_non))))) ?sem
  case len => rintro ts s Q E ⟨_, rfl, _⟩; rfl
  case sem =>
    rintro ts s Q E ⟨q, rfl, k⟩
    unfold lst4
    walk_at "mm"
    refine hM.of ⟨rfl, ?_⟩
    walk_at "mm"
    refine lc_filterG (fun t => match t with | .tup [x, y] => [some (lst4 q), none, some x, some y] | _ => []) (fQ q) (fun t => match t with | .tup [x, y] => x | _ => .non) ?_ ?_ ?_ (by decide) ?_ trivial
    · intro t ht Q' k'
      obtain ⟨p, hp, rfl⟩ := List.mem_map.mp ht
      walk_at "mm"
      exact k'
    · intro t ht Q' k'
      obtain ⟨⟨z, a', b', c', e'⟩, hp, rfl⟩ := List.mem_map.mp ht
      obtain ⟨a, b, c, e⟩ := q
      have k' : Q' (decide ((a', b', c', e') = (a, b, c, e))) s := k'
      rw [dec4] at k'
      unfold lst4
      walk_at "mm"
      rw [cut4]
      walk_at "mm"
      exact ⟨⟨sh4l _ _ _ _, sh4l _ _ _ _⟩, k'⟩
    · intro t ht _ Q' k'
      obtain ⟨p, hp, rfl⟩ := List.mem_map.mp ht
      walk_at "mm"
      exact k'
    rw [tl2]
    rcases nm_filter q with ⟨h1, h2⟩ | ⟨p, hp, h0, h1, h2⟩
    · rw [h1]
      rw [h2] at k
      walk_at "mm"
      exact ⟨⟨by walk_at "sh", by walk_at "sh"⟩, k⟩
    · rw [h1]
      rw [h2] at k
      have hn := nm_nice p hp
      walk_at "mm"
      exact ⟨⟨hn, by walk_at "sh"⟩, k⟩
theorem ok_label (T : Txt K w mg cl) : CalM P w K mg base cl 6 "_law_label" F_label [] := calOf T.d_label (fun _ _ _ => .nil) (fn_label T)
end
end M64

namespace M64
open PySem PySem.Spec PyProof.Rows L2 Tw Mr
local macro_rules | `(tactic| walk_at "mm") => `(tactic| simp -implicitDefEqProofs only [↓Mr.hold_cM, ↓Mr.hold_ite, ↓Mr.hold_for, ↓Mr.hold_lc, ↓Mr.hold_wh, Mr.hIte_true, Mr.hIte_false, ↓Mr.startT.eq_1, ↓Mr.endsM.eq_1, ↓Mr.lawEnds.eq_1, ↓Mr.fSeq.eq_1, ↓Mr.fSkip.eq_1, ↓Mr.fRet.eq_1, ↓Mr.fRetN.eq_1, ↓Mr.fRetF.eq_1, ↓Mr.fDrop.eq_1, ↓Mr.fSet.eq_1, ↓Mr.fAsg.eq_1, ↓Mr.fPar.eq_1, ↓Mr.fFldS.eq_1, ↓Mr.fIfS.eq_1, ↓Mr.fRaise.eq_1, ↓Mr.fTry.eq_1, ↓Mr.fBrk.eq_1, ↓Mr.fCnt.eq_1, ↓Mr.gN.eq_1, ↓Mr.gT.eq_1, ↓Mr.gsNil.eq_1, ↓Mr.gsCons.eq_1, ↓Mr.xk,
  ↓Mr.fVar.eq_1, ↓Mr.fC.eq_1, ↓Mr.f2.eq_1, ↓Mr.f3.eq_1, ↓Mr.g2.eq_1, ↓Mr.kB.eq_1, ↓Mr.fTest.eq_1, ↓Mr.fTru.eq_1, ↓Mr.fAnd.eq_1, ↓Mr.fOr.eq_1, ↓Mr.fNot.eq_1, ↓Mr.fAndV.eq_1, ↓Mr.fOrV.eq_1, ↓Mr.fNotV.eq_1, ↓Mr.fIf.eq_1, ↓Mr.fUn.eq_1, ↓Mr.onO.eq_1, Mr.onB_bl, Mr.onB_non, Mr.onB_int, Mr.onB_str, Mr.onB_lst, Mr.onB_tup, Mr.onB_dct, ↓Mr.fNil.eq_1, ↓Mr.fCons.eq_1, ↓Mr.fLst.eq_1, ↓Mr.fTup.eq_1, ↓Mr.fLstC.eq_1, ↓Mr.fDct0.eq_1, ↓Mr.fDctC.eq_1, ↓Mr.fPar3.eq_1, ↓Mr.fSm0.eq_1, ↓Mr.fSm1.eq_1, ↓Mr.onS.eq_1, Mr.isS, Mr.eqF, List.all_cons, List.all_nil, List.any_cons, List.any_nil, Mr.upperO, Mr.lowerO, Mr.partO, Mr.isiT, Mr.tys, Mr.kkAny, Mr.reprX, Mr.S.datX, Mr.T.datX, Mr.datsX, Mr.datsK, Mr.kD, ↓Mr.fCB.eq_1, ↓Mr.fCall.eq_1, ↓Mr.fMk.eq_1, ↓Mr.fMkK.eq_1, ↓Mr.fMt.eq_1, ↓Mr.fMtK.eq_1, ↓Mr.fCallK.eq_1, ↓Mr.fErr.eq_1, ↓Mr.fStrO.eq_1, ↓Mr.fJs.eq_1, ↓Mr.jsT, ↓Mr.fSl.eq_1, ↓Mr.oNone.eq_1, ↓Mr.oSome.eq_1, ↓Mr.fLM.eq_1, ↓Mr.onL.eq_1,
  Mr.addO, Mr.intO, Mr.mulO, Mr.ltO, Mr.leO, Mr.gtO, Mr.geO, Mr.eqO, Mr.neO, Mr.isO, Mr.isnO, Mr.T.isN, Mr.negO, Mr.ixO, Mr.lenO, Mr.absO, Mr.intO1, Option.isSome_some, Option.isSome_none, Mr.strO, Mr.strLO, Mr.listO, Mr.tupO, Mr.reprO, Mr.isiO, Mr.fldO, Mr.xgO, Mr.fmtO, Mr.joinO, Mr.slO, Mr.inO', Mr.ninO', Mr.inB, Mr.T.flat, Mr.S.put_same, Mr.S.put_put, Mr.S.pn_on, Mr.S.pn_pen, Mr.S.put_pen, Mr.S.pn_pn, ↓Mr.fLc.eq_1, ↓Mr.fYes.eq_1, ↓Mr.iSeq.eq_1, ↓Mr.iRange1.eq_1, ↓Mr.iRange2.eq_1, Mr.S.its?, Mr.okAt, Mr.wipeT, ↓Mr.fFor.eq_1, Mr.allO, Mr.anyO, ↓Mr.doneM.eq_1, Option.map_some, Option.map_none,  Mr.appO, Mr.revO, Mr.clrO, ↓Mr.gEqOwn.eq_1, ↓Mr.gOwn2.eq_1, ↓Mr.gOwnI_row, ↓Mr.gOwnR_row, ↓Mr.kObj.eq_1, ↓Mr.fNegO.eq_1, ↓Mr.fOwnC.eq_1, ↓Mr.fPro.eq_1, ↓Mr.gInK.eq_1, ↓Mr.gIxK.eq_1, ↓Mr.iKeyK.eq_1, Mr.eqE, Bool.true_xor, Bool.false_xor, ↓Mr.gNeOwn.eq_1,
  Mr.S.lst?, Mr.S.seq?, Mr.S.ty?, Mr.S.obj?, Mr.S.dat, Mr.T.dat, Mr.dats, Mr.atI_0, Mr.atI_1, Mr.atI_2, Mr.atI_3, Mr.atI_4, Mr.atI_5, Mr.atI_6, Mr.atI_7, Mr.atI_8, Mr.atI_9, Mr.atI_10, Mr.atI_11, Mr.atI_12, Mr.atI_13, PyData.eqv, PyData.eqvAll, Bool.and_true, Bool.true_and, beq_self_eq_true, Bool.and_self, decide_true, decide_false, Mr.okC,
  List.map_cons, List.map_nil, List.length_cons, List.length_nil, List.cons_append, List.nil_append, List.append_nil, List.replicate_succ, List.replicate_zero, List.getElem?_cons_zero, List.getElem?_cons_succ, List.set_cons_zero, List.set_cons_succ, List.getD_cons_zero, List.getD_cons_succ, L2.CPow, Int.reduceToNat, Int.reducePow, Int.reduceAbs, Int.reduceLE, Int.reduceLT, Int.reduceSub, Int.reduceAdd, Int.reduceNeg, Int.reduceMul, Int.reduceEq, Nat.reducePow, Nat.sub_self, Nat.reduceSub, Nat.reduceAdd, Nat.reduceLeDiff, Nat.reduceLT, Nat.reduceEqDiff, Nat.zero_add, Nat.add_zero, Nat.add_one_sub_one, Nat.sub_zero, Nat.zero_sub,
  true_and, and_true, ite_true, ite_false, if_true, if_false, Bool.false_eq_true, Bool.true_eq_false, ↓reduceIte, Bool.not_true, Bool.not_false, List.zip_cons_cons, List.zip_nil_left, List.zip_nil_right, M64.kkA, M64.lkA, M64.insL, M64.excL, List.mem_cons, List.not_mem_nil, or_false, or_true, true_or, false_or, reduceCtorEq, Bool.not_eq_true, Bool.not_eq_false, Bool.not_not])
local macro_rules | `(tactic| walk_at "sh") => `(tactic| exact Mr.sh (by first | (simp only [Mr.niceD, Mr.niceAll, Bool.and_true, Bool.and_eq_true, true_and, and_true]; done) | (simp only [Mr.niceD, Mr.niceAll, Bool.and_true, Bool.and_eq_true, true_and, and_true]; decide +kernel) | simp [Mr.niceD, Mr.niceAll, *]) (by simp [PyData.depth, PyData.depthAll]))
local macro_rules | `(tactic| walk_at "rp") => `(tactic| exact Mr.rp (by first | (simp only [Mr.niceD, Mr.niceAll, Bool.and_true, Bool.and_eq_true, true_and, and_true]; done) | (simp only [Mr.niceD, Mr.niceAll, Bool.and_true, Bool.and_eq_true, true_and, and_true]; decide +kernel) | simp [Mr.niceD, Mr.niceAll, *]) (by simp [PyData.depth, PyData.depthAll]) (by simp only [Mr.wD, Mr.wAll]; first | decide | omega))

def tallyQ (q : Q4) : Mr.T := tally q.1 q.2.1 q.2.2.1 q.2.2.2
def bd (q : Q4) : Prop := ∀ i ∈ [q.1, q.2.1, q.2.2.1, q.2.2.2], -2000000000000 < i ∧ i < 2000000000000
def F_is : FD := fun ts s Q _ => ∃ q, ts = [tallyQ q, lst4 q, .pen] ∧ bd q ∧ s.pen ≤ 900000 ∧ Q (.bl true) (s.pn (s.pen + 12))
def F_heard : FD := fun ts s Q _ => ∃ v, ts = [v] ∧ isName v = false ∧ v.datX.isSome = true ∧ Q (.lst [v]) s
theorem ok4 (a b c e : Int) : okR (.list [.int a, .int b, .int c, .int e]) = true := by simp [okR, okD, noList, noLists]
theorem rp4 {a b c e : Int} (h : bd (a, b, c, e)) : okR (.list [.int a, .int b, .int c, .int e]) = true ∧ (PyData.list [.int a, .int b, .int c, .int e]).showable = true ∧ (PyData.list [.int a, .int b, .int c, .int e]).depth ≤ 60 ∧ (PyData.list [.int a, .int b, .int c, .int e]).shown.length ≤ 1000000 := by
  have h : ∀ i ∈ [a, b, c, e], -2000000000000 < i ∧ i < 2000000000000 := h
  have g : ∀ i : Int, -2000000000000 < i ∧ i < 2000000000000 → decide (i.natAbs < 10 ^ 100) = true := fun i q => decide_eq_true (Nat.lt_of_lt_of_le (show i.natAbs < 2000000000000 by omega) (by decide +kernel))
  refine rpX (ok4 _ _ _ _) ?_ (by simp [PyData.depth, PyData.depthAll]) (by simp [wX, wXs])
  simp only [niceX, niceXs, g a (h a (by simp)), g b (h b (by simp)), g c (h c (by simp)), g e (h e (by simp))]
  rfl
theorem mb {x y X Y : Int} (hx : -X ≤ x ∧ x ≤ X) (hy : 0 ≤ y ∧ y ≤ Y) (h0 : 0 ≤ X) : -(X * Y) ≤ x * y ∧ x * y ≤ X * Y := by
  have h1 : x * y ≤ X * y := Int.mul_le_mul_of_nonneg_right hx.2 hy.1
  have h2 : -X * y ≤ x * y := Int.mul_le_mul_of_nonneg_right hx.1 hy.1
  have h3 : X * y ≤ X * Y := Int.mul_le_mul_of_nonneg_left hy.2 h0
  rw [Int.neg_mul] at h2
  omega
theorem rpW {a b c e m n : Int} (h : bd (a, b, c, e)) (hm : 0 ≤ m ∧ m ≤ 1000000000) (hn : 0 ≤ n ∧ n ≤ 1000000000) : okR (.int (worth a b c e m n)) = true ∧ (PyData.int (worth a b c e m n)).showable = true ∧ (PyData.int (worth a b c e m n)).depth ≤ 60 ∧ (PyData.int (worth a b c e m n)).shown.length ≤ 1000000 := by
  have h : ∀ i ∈ [a, b, c, e], -2000000000000 < i ∧ i < 2000000000000 := h
  have ha := h a (by simp)
  have hb := h b (by simp)
  have hc := h c (by simp)
  have he := h e (by simp)
  have hl : 0 ≤ least m n ∧ least m n ≤ 1000000000 := by unfold least; split <;> omega
  have p1 := mb (x := a) (X := 2000000000000) ⟨by omega, by omega⟩ hm (by decide)
  have p2 := mb (x := b) (X := 2000000000000) ⟨by omega, by omega⟩ hn (by decide)
  have p3 := mb (x := c) (X := 2000000000000) ⟨by omega, by omega⟩ hl (by decide)
  have p4 := mb (x := e) (X := 2000000000000) ⟨by omega, by omega⟩ hm (by decide)
  have p5 := mb (x := e * m) (X := 2000000000000 * 1000000000) p4 hn (by decide)
  have hw : (worth a b c e m n).natAbs < 10 ^ 40 := by
    unfold worth
    omega
  refine rpX (by simp [okR, okD, noList]) ?_ (by simp [PyData.depth]) (by simp [wX])
  rw [niceX]
  exact decide_eq_true (Nat.lt_of_lt_of_le hw (by decide +kernel))
theorem worth_neg (a b c e m n : Int) : worth a b c e n m = worth b a c e m n := by
  unfold worth
  rw [show least n m = least m n by unfold least; split <;> split <;> omega, Int.mul_assoc e n m, Int.mul_assoc e m n, Int.mul_comm n m, Int.add_comm (a * n) (b * m)]
section
variable {w : World} {K : PySem.W.Frag} {mg : Str → Option Value} {base : Heap} {cl : Nat → Addr}
theorem fn_parts (T : Txt K w mg cl) : ∀ {x : Str} {f : Addr} {fd : FuncData}, C8.Fun K x "_law_parts" s_parts f fd → FnG P w K mg base 9 f fd ["_law_pen_here"] (spM K cl F_parts) := by
  refine fnM (k := 8) (N := N_parts) sc_parts ?len (fun f cdv A out s H E hr => (jss_cons (js_setLc (i := 1) (own := [("_law_k", 2)]) (by rfl) sc_parts.nd rfl rfl (sw_true rfl rfl rfl (by decide +kernel)) (ji_range1 (by rfl) T.n_range (ja_cons je_int ja_nil)) (blkOk_by (own := [("_law_k", 2)]) (N := N_parts) (sc := C8.fnScope s_parts) (by decide +kernel)) (fun _ _ _ _ _ => (pg_name (i := 2) sc_parts.nd rfl (Or.inl rfl))) (gt_name (i := 2) (by decide))  (fun _ _ _ _ _ => (je_call L2.takes0 (ok_part T) hr (by decide) (by rfl) (ja_cons (je_var 0) ja_nil))))
    (jss_one (js_ret (je_op o_add (je_slice (je_var 1) jo_none (jo_some (je_ix (je_lst (ja_cons je_int (ja_cons je_int (ja_cons je_int (ja_cons je_int ja_nil))))) (je_call Tw.tk_cx (ok_draw T) hr (by decide) (by rfl) (ja_cons (je_var 0) (ja_cons je_int ja_nil))) (fun _ _ => rfl)))) (je_lst (ja_cons je_int (ja_cons je_int ja_nil)))))))) ?sem
  case len => rintro ts s Q E ⟨rfl, _⟩; rfl
  case sem =>
    rintro ts s Q E ⟨rfl, hn, k⟩
    walk_at "mm"
    refine lc_ind (fun pre post acc s' => s' = s.pn (s.pen + 4 * pre.length) ∧ pre.length + post.length = 4 ∧ acc.length = pre.length ∧ ∀ t ∈ acc, ∃ i : Int, t = .int i ∧ -1000000 < i ∧ i < 1000000) ⟨rfl, rfl, rfl, by simp⟩ (fun _ _ _ _ _ => trivial) (by decide) ?_ (fun _ _ _ _ h => by rw [h.2.2.1]; exact Nat.le_add_left _ _) ?_
    · rintro pre t post acc s' N e ⟨rfl, hl, ha, hi⟩ k'
      rw [List.length_cons] at hl
      walk_at "mm"
      refine hM.of ⟨rfl, by simp only [S.pn_pen]; omega, fun i i0 i1 => ?_⟩
      walk_at "mm"
      refine k' _ _ ⟨?_, ?_, ?_, ?_⟩
      · rw [List.length_append, List.length_cons, List.length_nil]; rfl
      · rw [List.length_append, List.length_cons, List.length_nil]; omega
      · rw [List.length_append, List.length_append, List.length_cons, List.length_nil, List.length_cons, List.length_nil, ha]
      · intro t ht
        rcases List.mem_append.mp ht with h | h
        · exact hi t h
        · rw [List.mem_singleton] at h
          exact ⟨i, h, i0, i1⟩
    · rintro acc s' ⟨rfl, hl, ha, hi⟩
      rw [rng_len] at ha
      have ha : acc.length = 4 := ha
      match acc, ha with
      | [x1, x2, x3, x4], _ =>
        obtain ⟨a, rfl, a0, a1⟩ := hi x1 (by simp)
        obtain ⟨b, rfl, b0, b1⟩ := hi x2 (by simp)
        obtain ⟨c, rfl, c0, c1⟩ := hi x3 (by simp)
        obtain ⟨e, rfl, e0, e1⟩ := hi x4 (by simp)
        rw [rng_len]
        walk_at "mm"
        refine use_drawH (by omega) (by omega) (by simp only [S.pn_pen]; omega) fun j j0 j1 => ?_
        obtain ⟨t, et, m⟩ := atI_mem (xs := [Mr.T.int 2, .int 3, .int 4, .int 4]) j0 (by exact j1)
        walk_at "mm"
        rw [et]
        simp only [List.mem_cons, List.not_mem_nil, or_false] at m
        rcases m with rfl | rfl | rfl | rfl
        all_goals walk_at "mm"
        · exact ⟨by show 2 ≤ 999998; decide, k a b 0 0 [] (by simp; omega) (by simp)⟩
        · exact ⟨by show 3 ≤ 999998; decide, k a b c 0 [.int 0] (by simp; omega) (by simp)⟩
        · exact ⟨by show 4 ≤ 999998; decide, k a b c e [.int 0, .int 0] (by simp; omega) (by simp)⟩
        · exact ⟨by show 4 ≤ 999998; decide, k a b c e [.int 0, .int 0] (by simp; omega) (by simp)⟩
theorem ok_parts (T : Txt K w mg cl) : CalM P w K mg base cl 9 "_law_parts" F_parts [] := calOf T.d_parts (fun _ _ _ => .nil) (fn_parts T)
theorem fn_heard (T : Txt K w mg cl) : ∀ {x : Str} {f : Addr} {fd : FuncData}, C8.Fun K x "_law_heard" s_heard f fd → FnG P w K mg base 9 f fd ["_law_worth_here"] (spM K cl F_heard) := by
  refine fnM (k := 8) (N := N_heard) sc_heard ?len (fun f cdv A out s H E hr => (jss_cons (js_set (i := 1) sc_heard.nd rfl (Or.inl rfl) je_non)
    (jss_cons (js_try (i := 2) (j := 1) rfl rfl rfl sc_heard.nd rfl rfl rfl rfl ⟨by rfl, by decide, .inl T.mx_HeadsError⟩ T.em_HeadsError (by decide) (by decide) (Nat.le_of_ble_eq_true rfl) (fun W' pn xe tk => (jss_one (js_expr (je_sta tk (sta_Tusual T) hr (by decide) (by rfl) T.mx_Tally (ja_cons (je_var 0) ja_nil))))))
    (jss_one (js_ret (je_if (jt_val (je_b (c_isi T.wc) (by rfl) T.n_isinstance (by decide +kernel) (ja_cons (je_var 1) (ja_cons (je_cls 2 (by rfl) T.mx_BadName) ja_nil)))) (je_lst (ja_cons (je_xg T.xf_BadName T.na_BadName_name (je_var 1)) ja_nil)) je_non)))))) ?sem
  case len => rintro ts s Q E ⟨_, rfl, _⟩; rfl
  case sem =>
    rintro ts s Q E ⟨v, rfl, hn, hd, k⟩
    walk_at "mm"
    refine hM.of ⟨v, rfl, .inr ⟨hn, hd, ?_⟩⟩
    walk_at "mm"
    exact k
theorem ok_heard (T : Txt K w mg cl) : CalM P w K mg base cl 9 "_law_heard" F_heard [] := calOf T.d_heard (fun _ _ _ => .nil) (fn_heard T)
theorem fn_is (T : Txt K w mg cl) : ∀ {x : Str} {f : Addr} {fd : FuncData}, C8.Fun K x "_law_is" s_is f fd → FnG P w K mg base 9 f fd ["_law_tally", "_law_parts_here", "_law_pen_here"] (spM K cl F_is) := by
  refine fnM (k := 8) (N := N_is) sc_is ?len (fun f cdv A out s H E hr => (jss_cons (js_if (jt_cmp (o_ne hr) (je_b (c_reprX hr) (by rfl) T.n_repr (by decide +kernel) (ja_cons (je_lst (ja_cons (je_fld T.fld_a (je_var 0)) (ja_cons (je_fld T.fld_b (je_var 0)) (ja_cons (je_fld T.fld_c (je_var 0)) (ja_cons (je_fld T.fld_e (je_var 0)) ja_nil))))) ja_nil)) (je_b (c_reprX hr) (by rfl) T.n_repr (by decide +kernel) (ja_cons (je_slice (je_var 1) jo_none (jo_some je_int)) ja_nil)) (nomark _)) (jss_one (js_ret je_bl)) jss_nil)
    (jss_cons (js_for (L2.passes_of rfl) rfl (ji_range1 (by rfl) T.n_range (ja_cons je_int ja_nil)) (jg_name (i := 3) sc_is.nd rfl (Or.inl rfl))
      (jss_cons (js_set (i := 4) sc_is.nd rfl (Or.inl rfl) (je_ix (je_lst (ja_cons je_int (ja_cons je_int (ja_cons (je_call Tw.tk_cx (ok_draw T) hr (by decide) (by rfl) (ja_cons (je_var 2) (ja_cons je_int ja_nil))) (ja_cons (je_op o_pow je_int je_int) ja_nil))))) (je_call Tw.tk_cx (ok_draw T) hr (by decide) (by rfl) (ja_cons (je_var 2) (ja_cons je_int ja_nil))) (fun _ _ => rfl)))
      (jss_cons (js_set (i := 5) sc_is.nd rfl (Or.inl rfl) (je_ix (je_lst (ja_cons je_int (ja_cons je_int (ja_cons (je_call Tw.tk_cx (ok_draw T) hr (by decide) (by rfl) (ja_cons (je_var 2) (ja_cons (je_op o_pow je_int je_int) ja_nil))) ja_nil)))) (je_call Tw.tk_cx (ok_draw T) hr (by decide) (by rfl) (ja_cons (je_var 2) (ja_cons je_int ja_nil))) (fun _ _ => rfl)))
      (jss_cons (js_if (jt_cmp (o_ne hr) (je_b (c_reprX hr) (by rfl) T.n_repr (by decide +kernel) (ja_cons (je_ownN Tw.tk_cx (mt_Tcall T) T.fi_Tally hr (by decide) (je_var 0) (ja_cons (je_var 4) (ja_cons (je_var 5) ja_nil))) ja_nil)) (je_b (c_reprX hr) (by rfl) T.n_repr (by decide +kernel) (ja_cons (je_call Tw.tk_cx (ok_worth T) hr (by decide) (by rfl) (ja_cons (je_var 1) (ja_cons (je_var 4) (ja_cons (je_var 5) ja_nil)))) ja_nil)) (nomark _)) (jss_one (js_ret je_bl)) jss_nil)
      (jss_one (js_if (jt_cmp (o_ne hr) (je_ownN Tw.tk_cx (mt_Tcall T) T.fi_Tally hr (by decide) (je_var 0) (ja_cons (je_var 5) (ja_cons (je_var 4) ja_nil))) (je_ownE Tw.tk_cx (mt_Tcall T) T.fi_Tally hr (by decide) (je_negO Tw.tk_cx (mt_Tneg T) hr (by decide) (je_var 0)) (ja_cons (je_var 4) (ja_cons (je_var 5) ja_nil))) (nomark _)) (jss_one (js_ret je_bl)) jss_nil))))))
    (jss_one (js_ret je_bl))))) ?sem
  case len => rintro ts s Q E ⟨_, rfl, _⟩; rfl
  case sem =>
    rintro ts s Q E ⟨⟨a, b, c, e⟩, rfl, hb, hn, k⟩
    unfold tallyQ tally lst4
    walk_at "mm"
    rw [cut4]
    walk_at "mm"
    refine ⟨rp4 hb, rp4 hb, ?_⟩
    refine for_ind (fun pre post τ s' => s' = s.pn (s.pen + 4 * pre.length) ∧ pre.length + post.length = 3 ∧ ∃ x3 x4 x5, τ = [some (tallyQ (a, b, c, e)), some (lst4 (a, b, c, e)), some .pen, x3, x4, x5]) ⟨rfl, rfl, _, _, _, rfl⟩ (fun _ _ _ _ _ => trivial) ?_ ?_
    · rintro pre t post τ s' N e' ⟨rfl, hl, x3, x4, x5, rfl⟩ k'
      rw [List.length_cons] at hl
      obtain ⟨rfl, hp⟩ := rng_get e'
      unfold tallyQ tally lst4
      walk_at "mm"
      refine use_drawH (by omega) (by omega) (by simp only [S.pn_pen]; omega) fun j j0 j1 => ?_
      walk_at "mm"
      refine use_drawH (by omega) (by omega) (by simp only [S.pn_pen]; omega) fun j2 j20 j21 => ?_
      obtain ⟨t, et, m⟩ := atI_mem (xs := [Mr.T.int 0, .int 1, .int j, .int 1000000000]) j20 (by exact j21)
      have ht : ∃ i : Int, t = .int i ∧ 0 ≤ i ∧ i ≤ 1000000000 := by
        simp only [List.mem_cons, List.not_mem_nil, or_false] at m
        rcases m with rfl | rfl | rfl | rfl
        all_goals exact ⟨_, rfl, by omega, by omega⟩
      obtain ⟨m0, rfl, m1, m2⟩ := ht
      walk_at "mm"
      rw [et]
      walk_at "mm"
      refine use_drawH (by omega) (by omega) (by simp only [S.pn_pen]; omega) fun j3 j30 j31 => ?_
      walk_at "mm"
      refine use_drawH (by omega) (by omega) (by simp only [S.pn_pen]; omega) fun j4 j40 j41 => ?_
      obtain ⟨t, et2, m3⟩ := atI_mem (xs := [Mr.T.int 0, .int 2, .int j3]) j40 (by exact j41)
      have ht : ∃ i : Int, t = .int i ∧ 0 ≤ i ∧ i ≤ 1000000000 := by
        simp only [List.mem_cons, List.not_mem_nil, or_false] at m3
        rcases m3 with rfl | rfl | rfl
        all_goals exact ⟨_, rfl, by omega, by omega⟩
      obtain ⟨n0, rfl, n1, n2⟩ := ht
      walk_at "mm"
      rw [et2]
      walk_at "mm"
      have sm : small m0 := ⟨by omega, by omega⟩
      have sn : small n0 := ⟨by omega, by omega⟩
      refine hM.of ⟨_, _, _, _, _, _, rfl, sm, sn, ?_⟩
      walk_at "mm"
      have rw1 := rpW hb ⟨m1, m2⟩ ⟨n1, n2⟩
      refine ⟨rw1, hM.of ⟨(a, b, c, e), _, _, rfl, sm, sn, ?_⟩⟩
      walk_at "mm"
      refine ⟨rw1, hM.of ⟨_, _, _, _, _, _, rfl, sn, sm, ?_⟩⟩
      walk_at "mm"
      refine hM.of ⟨_, _, _, _, rfl, ?_⟩
      unfold tally
      walk_at "mm"
      refine hM.of ⟨_, _, _, _, _, _, rfl, sm, sn, ?_⟩
      walk_at "mm"
      rw [worth_neg, decide_eq_true rfl]
      walk_at "mm"
      refine k' _ _ ⟨?_, ?_, _, _, _, rfl⟩
      · rw [List.length_append, List.length_cons, List.length_nil]; rfl
      · rw [List.length_append, List.length_cons, List.length_nil]; omega
    · rintro τ s' ⟨rfl, hl, x3, x4, x5, rfl⟩
      rw [rng_len]
      walk_at "mm"
      exact k
theorem ok_is (T : Txt K w mg cl) : CalM P w K mg base cl 9 "_law_is" F_is [] := calOf T.d_is (fun _ _ _ => .nil) (fn_is T)
end
end M64

namespace M64
open PySem PySem.Spec PyProof.Rows L2 Tw Mr
local macro_rules | `(tactic| walk_at "mm") => `(tactic| simp -implicitDefEqProofs only [↓Mr.hold_cM, ↓Mr.hold_ite, ↓Mr.hold_for, ↓Mr.hold_lc, ↓Mr.hold_wh, Mr.hIte_true, Mr.hIte_false, ↓Mr.startT.eq_1, ↓Mr.endsM.eq_1, ↓Mr.lawEnds.eq_1, ↓Mr.fSeq.eq_1, ↓Mr.fSkip.eq_1, ↓Mr.fRet.eq_1, ↓Mr.fRetN.eq_1, ↓Mr.fRetF.eq_1, ↓Mr.fDrop.eq_1, ↓Mr.fSet.eq_1, ↓Mr.fAsg.eq_1, ↓Mr.fPar.eq_1, ↓Mr.fFldS.eq_1, ↓Mr.fIfS.eq_1, ↓Mr.fRaise.eq_1, ↓Mr.fTry.eq_1, ↓Mr.fBrk.eq_1, ↓Mr.fCnt.eq_1, ↓Mr.gN.eq_1, ↓Mr.gT.eq_1, ↓Mr.gsNil.eq_1, ↓Mr.gsCons.eq_1, ↓Mr.xk,
  ↓Mr.fVar.eq_1, ↓Mr.fC.eq_1, ↓Mr.f2.eq_1, ↓Mr.f3.eq_1, ↓Mr.g2.eq_1, ↓Mr.kB.eq_1, ↓Mr.fTest.eq_1, ↓Mr.fTru.eq_1, ↓Mr.fAnd.eq_1, ↓Mr.fOr.eq_1, ↓Mr.fNot.eq_1, ↓Mr.fAndV.eq_1, ↓Mr.fOrV.eq_1, ↓Mr.fNotV.eq_1, ↓Mr.fIf.eq_1, ↓Mr.fUn.eq_1, ↓Mr.onO.eq_1, Mr.onB_bl, Mr.onB_non, Mr.onB_int, Mr.onB_str, Mr.onB_lst, Mr.onB_tup, Mr.onB_dct, ↓Mr.fNil.eq_1, ↓Mr.fCons.eq_1, ↓Mr.fLst.eq_1, ↓Mr.fTup.eq_1, ↓Mr.fLstC.eq_1, ↓Mr.fDct0.eq_1, ↓Mr.fDctC.eq_1, ↓Mr.fPar3.eq_1, ↓Mr.fSm0.eq_1, ↓Mr.fSm1.eq_1, ↓Mr.onS.eq_1, Mr.isS, Mr.eqF, List.all_cons, List.all_nil, List.any_cons, List.any_nil, Mr.upperO, Mr.lowerO, Mr.partO, Mr.isiT, Mr.tys, Mr.kkAny, Mr.reprX, Mr.S.datX, Mr.T.datX, Mr.datsX, Mr.datsK, Mr.kD, ↓Mr.fCB.eq_1, ↓Mr.fCall.eq_1, ↓Mr.fMk.eq_1, ↓Mr.fMkK.eq_1, ↓Mr.fMt.eq_1, ↓Mr.fMtK.eq_1, ↓Mr.fCallK.eq_1, ↓Mr.fErr.eq_1, ↓Mr.fStrO.eq_1, ↓Mr.fJs.eq_1, ↓Mr.jsT, ↓Mr.fSl.eq_1, ↓Mr.oNone.eq_1, ↓Mr.oSome.eq_1, ↓Mr.fLM.eq_1, ↓Mr.onL.eq_1,
  Mr.addO, Mr.intO, Mr.mulO, Mr.ltO, Mr.leO, Mr.gtO, Mr.geO, Mr.eqO, Mr.neO, Mr.isO, Mr.isnO, Mr.T.isN, Mr.negO, Mr.ixO, Mr.lenO, Mr.absO, Mr.intO1, Option.isSome_some, Option.isSome_none, Mr.strO, Mr.strLO, Mr.listO, Mr.tupO, Mr.reprO, Mr.isiO, Mr.fldO, Mr.xgO, Mr.fmtO, Mr.joinO, Mr.slO, Mr.inO', Mr.ninO', Mr.inB, Mr.T.flat, Mr.S.put_same, Mr.S.put_put, Mr.S.pn_on, Mr.S.pn_pen, Mr.S.put_pen, Mr.S.pn_pn, ↓Mr.fLc.eq_1, ↓Mr.fYes.eq_1, ↓Mr.iSeq.eq_1, ↓Mr.iRange1.eq_1, ↓Mr.iRange2.eq_1, Mr.S.its?, Mr.okAt, Mr.wipeT, ↓Mr.fFor.eq_1, Mr.allO, Mr.anyO, ↓Mr.doneM.eq_1, Option.map_some, Option.map_none,  Mr.appO, Mr.revO, Mr.clrO, ↓Mr.gEqOwn.eq_1, ↓Mr.gOwn2.eq_1, ↓Mr.gOwnI_row, ↓Mr.gOwnR_row, ↓Mr.kObj.eq_1, ↓Mr.fNegO.eq_1, ↓Mr.fOwnC.eq_1, ↓Mr.fPro.eq_1, ↓Mr.gInK.eq_1, ↓Mr.gIxK.eq_1, ↓Mr.iKeyK.eq_1, Mr.eqE, Bool.true_xor, Bool.false_xor, ↓Mr.gNeOwn.eq_1,
  Mr.S.lst?, Mr.S.seq?, Mr.S.ty?, Mr.S.obj?, Mr.S.dat, Mr.T.dat, Mr.dats, Mr.atI_0, Mr.atI_1, Mr.atI_2, Mr.atI_3, Mr.atI_4, Mr.atI_5, Mr.atI_6, Mr.atI_7, Mr.atI_8, Mr.atI_9, Mr.atI_10, Mr.atI_11, Mr.atI_12, Mr.atI_13, PyData.eqv, PyData.eqvAll, Bool.and_true, Bool.true_and, beq_self_eq_true, Bool.and_self, decide_true, decide_false, Mr.okC,
  List.map_cons, List.map_nil, List.length_cons, List.length_nil, List.cons_append, List.nil_append, List.append_nil, List.replicate_succ, List.replicate_zero, List.getElem?_cons_zero, List.getElem?_cons_succ, List.set_cons_zero, List.set_cons_succ, List.getD_cons_zero, List.getD_cons_succ, L2.CPow, Int.reduceToNat, Int.reducePow, Int.reduceAbs, Int.reduceLE, Int.reduceLT, Int.reduceSub, Int.reduceAdd, Int.reduceNeg, Int.reduceMul, Int.reduceEq, Nat.reducePow, Nat.sub_self, Nat.reduceSub, Nat.reduceAdd, Nat.reduceLeDiff, Nat.reduceLT, Nat.reduceEqDiff, Nat.zero_add, Nat.add_zero, Nat.add_one_sub_one, Nat.sub_zero, Nat.zero_sub,
  true_and, and_true, ite_true, ite_false, if_true, if_false, Bool.false_eq_true, Bool.true_eq_false, ↓reduceIte, Bool.not_true, Bool.not_false, List.zip_cons_cons, List.zip_nil_left, List.zip_nil_right, M64.kkA, M64.lkA, M64.insL, M64.excL, List.mem_cons, List.not_mem_nil, or_false, or_true, true_or, false_or, reduceCtorEq, Bool.not_eq_true, Bool.not_eq_false, Bool.not_not])
local macro_rules | `(tactic| walk_at "sh") => `(tactic| exact Mr.sh (by first | (simp only [Mr.niceD, Mr.niceAll, Bool.and_true, Bool.and_eq_true, true_and, and_true]; done) | (simp only [Mr.niceD, Mr.niceAll, Bool.and_true, Bool.and_eq_true, true_and, and_true]; decide +kernel) | simp [Mr.niceD, Mr.niceAll, *]) (by simp [PyData.depth, PyData.depthAll]))
local macro_rules | `(tactic| walk_at "rp") => `(tactic| exact Mr.rp (by first | (simp only [Mr.niceD, Mr.niceAll, Bool.and_true, Bool.and_eq_true, true_and, and_true]; done) | (simp only [Mr.niceD, Mr.niceAll, Bool.and_true, Bool.and_eq_true, true_and, and_true]; decide +kernel) | simp [Mr.niceD, Mr.niceAll, *]) (by simp [PyData.depth, PyData.depthAll]) (by simp only [Mr.wD, Mr.wAll]; first | decide | omega))

def b6 (q : Q4) : Prop := ∀ i ∈ [q.1, q.2.1, q.2.2.1, q.2.2.2], -1000001 < i ∧ i < 1000001
theorem bdd {q : Q4} (h : b6 q) : bd q := fun i hi => by
  have := h i hi
  omega
theorem bd_add {a b c e a' b' c' e' : Int} (h : b6 (a, b, c, e)) (h' : b6 (a', b', c', e')) : bd (a + a', b + b', c + c', e + e') := by
  have h1 : ∀ i ∈ [a, b, c, e], -1000001 < i ∧ i < 1000001 := h
  have h2 : ∀ i ∈ [a', b', c', e'], -1000001 < i ∧ i < 1000001 := h'
  have := h1 a (by simp); have := h1 b (by simp); have := h1 c (by simp); have := h1 e (by simp)
  have := h2 a' (by simp); have := h2 b' (by simp); have := h2 c' (by simp); have := h2 e' (by simp)
  intro i hi
  simp only [List.mem_cons, List.not_mem_nil, or_false] at hi
  rcases hi with rfl | rfl | rfl | rfl <;> omega
theorem bd_sub {a b c e a' b' c' e' : Int} (h : b6 (a, b, c, e)) (h' : b6 (a', b', c', e')) : bd (a - a', b - b', c - c', e - e') := by
  have h1 : ∀ i ∈ [a, b, c, e], -1000001 < i ∧ i < 1000001 := h
  have h2 : ∀ i ∈ [a', b', c', e'], -1000001 < i ∧ i < 1000001 := h'
  have := h1 a (by simp); have := h1 b (by simp); have := h1 c (by simp); have := h1 e (by simp)
  have := h2 a' (by simp); have := h2 b' (by simp); have := h2 c' (by simp); have := h2 e' (by simp)
  intro i hi
  simp only [List.mem_cons, List.not_mem_nil, or_false] at hi
  rcases hi with rfl | rfl | rfl | rfl <;> omega
theorem mb6 {x y : Int} (hx : -1000001 < x ∧ x < 1000001) (hy : -1000001 < y ∧ y < 1000001) : -2000000000000 < x * y ∧ x * y < 2000000000000 := by
  by_cases h : 0 ≤ y
  · have := mb (x := x) (y := y) (X := 1000000) (Y := 1000000) ⟨by omega, by omega⟩ ⟨h, by omega⟩ (by decide)
    omega
  · have := mb (x := x) (y := -y) (X := 1000000) (Y := 1000000) ⟨by omega, by omega⟩ ⟨by omega, by omega⟩ (by decide)
    rw [Int.mul_neg] at this
    omega
theorem bd_mul {a b c e i : Int} (h : b6 (a, b, c, e)) (hi : -1000001 < i ∧ i < 1000001) : bd (a * i, b * i, c * i, e * i) := by
  have h1 : ∀ i ∈ [a, b, c, e], -1000001 < i ∧ i < 1000001 := h
  have := mb6 (h1 a (by simp)) hi; have := mb6 (h1 b (by simp)) hi; have := mb6 (h1 c (by simp)) hi; have := mb6 (h1 e (by simp)) hi
  intro j hj
  simp only [List.mem_cons, List.not_mem_nil, or_false] at hj
  rcases hj with rfl | rfl | rfl | rfl <;> omega
theorem bd_flip {a b c e : Int} (h : b6 (a, b, c, e)) : bd (b, a, c, e) := fun i hi => by
  have := h i (by simp only [List.mem_cons, List.not_mem_nil, or_false] at hi ⊢; rcases hi with rfl | rfl | rfl | rfl <;> simp)
  omega
def F_signs_right : FD := fun ts s Q _ => ∃ q1 q2, ts = [.pen, lst4 q1, lst4 q2] ∧ b6 q1 ∧ b6 q2 ∧ s.pen ≤ 800000 ∧ Q (.bl true) (s.pn (s.pen + 76))
section
variable {w : World} {K : PySem.W.Frag} {mg : Str → Option Value} {base : Heap} {cl : Nat → Addr}
theorem fn_signs_right (T : Txt K w mg cl) : ∀ {x : Str} {f : Addr} {fd : FuncData}, C8.Fun K x "_law_signs_right" s_signs_right f fd → FnG P w K mg base 12 f fd ["_law_pen_here", "_law_first", "_law_second"] (spM K cl F_signs_right) := by
  refine fnM (k := 11) (N := N_signs_right) sc_signs_right ?len (fun f cdv A out s H E hr => (jss_cons (js_set (i := 3) sc_signs_right.nd rfl (Or.inr rfl) (je_mk true Tw.tk_cx (mk_Tinit T) hr (by decide) (by rfl) (ja_cons (je_ix (je_var 1) je_int (fun _ _ => rfl)) (ja_cons (je_ix (je_var 1) je_int (fun _ _ => rfl)) (ja_cons (je_ix (je_var 1) je_int (fun _ _ => rfl)) (ja_cons (je_ix (je_var 1) je_int (fun _ _ => rfl)) ja_nil))))))
    (jss_cons (js_set (i := 4) sc_signs_right.nd rfl (Or.inl rfl) (je_mkK true Tw.tk_cx (mkK_Tinit_2_c_e T) hr (by decide) (by rfl) (ja_cons (je_ix (je_var 2) je_int (fun _ _ => rfl)) (ja_cons (je_ix (je_var 2) je_int (fun _ _ => rfl)) ja_nil)) (jk_cons (je_ix (je_var 2) je_int (fun _ _ => rfl)) (jk_cons (je_ix (je_var 2) je_int (fun _ _ => rfl)) jk_nil))))
    (jss_cons (js_set (i := 5) sc_signs_right.nd rfl (Or.inr rfl) (je_call Tw.tk_cx (ok_part T) hr (by decide) (by rfl) (ja_cons (je_var 0) ja_nil)))
    (jss_cons (js_setLc (i := 6) (own := [("_law_k", 7)]) (by rfl) sc_signs_right.nd rfl rfl (sw_true rfl rfl rfl (by decide +kernel)) (ji_range1 (by rfl) T.n_range (ja_cons je_int ja_nil)) (blkOk_by (own := [("_law_k", 7)]) (N := N_signs_right) (sc := C8.fnScope s_signs_right) (by decide +kernel)) (fun _ _ _ _ _ => (pg_name (i := 7) sc_signs_right.nd rfl (Or.inl rfl))) (gt_name (i := 7) (by decide))  (fun _ _ _ _ _ => (je_op o_add (je_ix (je_var 1) (je_var 7) (fun _ _ => rfl)) (je_ix (je_var 2) (je_var 7) (fun _ _ => rfl)))))
    (jss_cons (js_setLc (i := 8) (own := [("_law_k", 7)]) (by rfl) sc_signs_right.nd rfl rfl (sw_true rfl rfl rfl (by decide +kernel)) (ji_range1 (by rfl) T.n_range (ja_cons je_int ja_nil)) (blkOk_by (own := [("_law_k", 7)]) (N := N_signs_right) (sc := C8.fnScope s_signs_right) (by decide +kernel)) (fun _ _ _ _ _ => (pg_name (i := 7) sc_signs_right.nd rfl (Or.inl rfl))) (gt_name (i := 7) (by decide))  (fun _ _ _ _ _ => (je_op o_sub (je_ix (je_var 1) (je_var 7) (fun _ _ => rfl)) (je_ix (je_var 2) (je_var 7) (fun _ _ => rfl)))))
    (jss_cons (js_setLc (i := 9) (own := [("_law_k", 7)]) (by rfl) sc_signs_right.nd rfl rfl (sw_true rfl rfl rfl (by decide +kernel)) (ji_range1 (by rfl) T.n_range (ja_cons je_int ja_nil)) (blkOk_by (own := [("_law_k", 7)]) (N := N_signs_right) (sc := C8.fnScope s_signs_right) (by decide +kernel)) (fun _ _ _ _ _ => (pg_name (i := 7) sc_signs_right.nd rfl (Or.inl rfl))) (gt_name (i := 7) (by decide))  (fun _ _ _ _ _ => (je_op o_mul (je_ix (je_var 1) (je_var 7) (fun _ _ => rfl)) (je_var 5))))
    (jss_cons (js_if (JW.jt (jw_or (jt_not (jt_val (je_call Tw.tk_cx (ok_is T) hr (by decide) (by rfl) (ja_cons (je_op (o_own2 Tw.tk_cx (mt_Tadd T) T.sf_Tally hr (by decide)) (je_var 3) (je_var 4)) (ja_cons (je_var 6) (ja_cons (je_var 0) ja_nil)))))) (jw_or1 (jt_not (jt_val (je_call Tw.tk_cx (ok_is T) hr (by decide) (by rfl) (ja_cons (je_op (o_own2 Tw.tk_cx (mt_Tsub T) T.sf_Tally hr (by decide)) (je_var 3) (je_var 4)) (ja_cons (je_var 8) (ja_cons (je_var 0) ja_nil))))))))) (jss_one (js_ret je_bl)) jss_nil)
    (jss_cons (js_if (JW.jt (jw_or (jt_not (jt_val (je_call Tw.tk_cx (ok_is T) hr (by decide) (by rfl) (ja_cons (je_op (o_ownI Tw.tk_cx (mt_Tmul T) T.sf_Tally T.ot_Tally_mul hr (by decide)) (je_var 3) (je_var 5)) (ja_cons (je_var 9) (ja_cons (je_var 0) ja_nil)))))) (jw_or1 (jt_not (jt_val (je_call Tw.tk_cx (ok_is T) hr (by decide) (by rfl) (ja_cons (je_op (o_ownR Tw.tk_cx (mt_Trmul T) T.sf_Tally T.ml_Tally T.si_Tally hr (by decide)) (je_var 5) (je_var 3)) (ja_cons (je_var 9) (ja_cons (je_var 0) ja_nil))))))))) (jss_one (js_ret je_bl)) jss_nil)
    (jss_cons (js_if (JW.jt (jw_or (jt_not (jt_val (je_call Tw.tk_cx (ok_is T) hr (by decide) (by rfl) (ja_cons (je_negO Tw.tk_cx (mt_Tneg T) hr (by decide) (je_var 3)) (ja_cons (je_lst (ja_cons (je_ix (je_var 1) je_int (fun _ _ => rfl)) (ja_cons (je_ix (je_var 1) je_int (fun _ _ => rfl)) (ja_cons (je_ix (je_var 1) je_int (fun _ _ => rfl)) (ja_cons (je_ix (je_var 1) je_int (fun _ _ => rfl)) ja_nil))))) (ja_cons (je_var 0) ja_nil)))))) (jw_or1 (jt_not (jt_val (je_call Tw.tk_cx (ok_is T) hr (by decide) (by rfl) (ja_cons (je_var 3) (ja_cons (je_var 1) (ja_cons (je_var 0) ja_nil))))))))) (jss_one (js_ret je_bl)) jss_nil)
    (jss_cons (js_if (JW.jt (jw_or (jt_cmp (o_ne hr) (je_cmp (o_eqOwn T.wc (mt_Teq T) T.nf_Tally hr (by decide)) (je_var 3) (je_var 4) (nomark _)) (je_cmp (o_eq hr) (je_slice (je_var 1) jo_none (jo_some je_int)) (je_slice (je_var 2) jo_none (jo_some je_int)) (nomark _)) (nomark _)) (jw_or (jt_not (jt_cmp (o_eqOwn T.wc (mt_Teq T) T.nf_Tally hr (by decide)) (je_op (o_own2 Tw.tk_cx (mt_Tsub T) T.sf_Tally hr (by decide)) (je_op (o_own2 Tw.tk_cx (mt_Tadd T) T.sf_Tally hr (by decide)) (je_var 3) (je_var 4)) (je_var 4)) (je_var 3) (nomark _))) (jw_or1 (jt_not (jt_cmp (o_eqOwn T.wc (mt_Teq T) T.nf_Tally hr (by decide)) (je_negO Tw.tk_cx (mt_Tneg T) hr (by decide) (je_negO Tw.tk_cx (mt_Tneg T) hr (by decide) (je_var 3))) (je_var 3) (nomark _))))))) (jss_one (js_ret je_bl)) jss_nil)
    (jss_cons (js_set (i := 10) sc_signs_right.nd rfl (Or.inl rfl) (je_lst (ja_cons (je_slice (je_var 1) jo_none (jo_some je_int)) (ja_cons (je_bt c_tup (by rfl) T.n_tuple (by decide +kernel) (ja_cons (je_slice (je_var 1) jo_none (jo_some je_int)) ja_nil)) (ja_cons je_non (ja_cons je_int (ja_cons (je_bt (c_strL hr) (by rfl) T.n_str (by decide +kernel) (ja_cons (je_var 1) ja_nil)) (ja_cons (je_call Tw.tk_cx (ok_worth T) hr (by decide) (by rfl) (ja_cons (je_var 1) (ja_cons je_int (ja_cons je_int ja_nil)))) ja_nil))))))))
    (jss_one (js_ret (je_and (je_cmp (o_eq hr) (je_lcIf (own := [("_law_thing", 11)]) (by rfl) sc_signs_right.nd (ji_seq (je_var 10)) (blkOk_by (own := [("_law_thing", 11)]) (N := N_signs_right) (sc := C8.fnScope s_signs_right) (by decide +kernel)) (fun _ _ _ _ _ => (pg_name (i := 11) sc_signs_right.nd rfl (Or.inl rfl))) (gt_name (i := 11) (by decide)) (fun _ _ _ _ _ => (jt_cmp (o_eqOwn T.wc (mt_Teq T) T.nf_Tally hr (by decide)) (je_var 3) (je_var 11) (nomark _))) (fun _ _ _ _ _ => (je_var 11))) (je_lst ja_nil) (nomark _)) (je_one (je_cmp (o_eq hr) (je_pro (pro_Tlabel T) hr (by decide) (je_var 3)) (je_call Tw.tk_cx (ok_label T) hr (by decide) (by rfl) (ja_cons (je_var 1) ja_nil)) (nomark _)))))))))))))))))) ?sem
  case len => rintro ts s Q E ⟨_, _, rfl, _⟩; rfl
  case sem =>
    rintro ts s Q E ⟨⟨a, b, c, e⟩, ⟨a', b', c', e'⟩, rfl, hb1, hb2, hn, k⟩
    unfold lst4
    walk_at "mm"
    refine fun x hx => mk_tally hx ?_
    walk_at "mm"
    refine fun x hx => mk_tally hx ?_
    walk_at "mm"
    refine hM.of ⟨rfl, by omega, fun i i0 i1 => ?_⟩
    walk_at "mm"
    have si : small i := ⟨by omega, by omega⟩
    have hi : ∀ j : Int, CMul j i := fun j => cmul si
    rw [show rng 0 4 = [.int 0, .int 1, .int 2, .int 3] from rfl]
    iterate 4
      refine hLc.cons trivial (by simp) ?_
      walk_at "mm"
    refine hLc.nil trivial ?_
    walk_at "mm"
    rw [show rng 0 4 = [.int 0, .int 1, .int 2, .int 3] from rfl]
    iterate 4
      refine hLc.cons trivial (by simp) ?_
      walk_at "mm"
    refine hLc.nil trivial ?_
    walk_at "mm"
    rw [show rng 0 4 = [.int 0, .int 1, .int 2, .int 3] from rfl]
    iterate 4
      refine hLc.cons trivial (by simp) ?_
      walk_at "mm"
      refine ⟨hi _, ?_⟩
    refine hLc.nil trivial ?_
    unfold tally
    walk_at "mm"
    refine hM.of ⟨_, _, _, _, _, _, _, _, rfl, ?_⟩
    walk_at "mm"
    refine hM.of ⟨(_, _, _, _), rfl, bd_add hb1 hb2, by simp only [S.pn_pen]; omega, ?_⟩
    walk_at "mm"
    refine hM.of ⟨_, _, _, _, _, _, _, _, rfl, ?_⟩
    walk_at "mm"
    refine hM.of ⟨(_, _, _, _), rfl, bd_sub hb1 hb2, by simp only [S.pn_pen]; omega, ?_⟩
    walk_at "mm"
    refine hM.of ⟨_, _, _, _, _, rfl, si, ?_⟩
    walk_at "mm"
    refine hM.of ⟨(_, _, _, _), rfl, bd_mul hb1 ⟨by omega, by omega⟩, by simp only [S.pn_pen]; omega, ?_⟩
    walk_at "mm"
    refine hM.of ⟨_, _, _, _, _, rfl, si, ?_⟩
    walk_at "mm"
    refine hM.of ⟨(_, _, _, _), rfl, bd_mul hb1 ⟨by omega, by omega⟩, by simp only [S.pn_pen]; omega, ?_⟩
    walk_at "mm"
    refine hM.of ⟨_, _, _, _, rfl, ?_⟩
    walk_at "mm"
    refine hM.of ⟨(_, _, _, _), rfl, bd_flip hb1, by simp only [S.pn_pen]; omega, ?_⟩
    walk_at "mm"
    refine hM.of ⟨(_, _, _, _), rfl, bdd hb1, by simp only [S.pn_pen]; omega, ?_⟩
    walk_at "mm"
    refine hM.of ⟨_, _, _, _, _, rfl, .inl ⟨_, _, _, _, rfl, ?_⟩⟩
    walk_at "mm"
    rw [cut4, cut4]
    walk_at "mm"
    refine ⟨⟨sh4l _ _ _ _, sh4l _ _ _ _⟩, ?_⟩
    rw [show decide (a = a' ∧ b = b' ∧ c = c' ∧ e = e') = (a == a' && (b == b' && (c == c' && e == e'))) by rw [Bool.eq_iff_iff]; simp, decide_eq_true rfl]
    walk_at "mm"
    refine hM.of ⟨_, _, _, _, _, _, _, _, rfl, ?_⟩
    unfold tally
    walk_at "mm"
    refine hM.of ⟨_, _, _, _, _, _, _, _, rfl, ?_⟩
    unfold tally
    walk_at "mm"
    refine hM.of ⟨_, _, _, _, _, rfl, .inl ⟨_, _, _, _, rfl, ?_⟩⟩
    rw [decide_eq_true (by omega)]
    walk_at "mm"
    refine hM.of ⟨_, _, _, _, rfl, ?_⟩
    unfold tally
    walk_at "mm"
    refine hM.of ⟨_, _, _, _, rfl, ?_⟩
    unfold tally
    walk_at "mm"
    refine hM.of ⟨_, _, _, _, _, rfl, .inl ⟨_, _, _, _, rfl, ?_⟩⟩
    rw [decide_eq_true (by omega)]
    walk_at "mm"
    refine ⟨(rp4 (bdd hb1)).2, hM.of ⟨(a, b, c, e), _, _, rfl, ⟨by decide, by decide⟩, ⟨by decide, by decide⟩, ?_⟩⟩
    walk_at "mm"
    refine lc_filter (fun _ => false) (fun t => t) ?_ (fun t _ h => nomatch h) (by simp) ?_ trivial
    · intro t ht Q' k'
      simp only [List.mem_cons, List.not_mem_nil, or_false] at ht
      rcases ht with rfl | rfl | rfl | rfl | rfl | rfl
      all_goals walk_at "mm"
      all_goals refine hM.of ⟨_, _, _, _, _, rfl, .inr ⟨rfl, ?_⟩⟩
      all_goals walk_at "mm"
      all_goals exact k'
    rw [show ∀ l : List Mr.T, List.map (fun t => t) (List.filter (fun _ => false) l) = [] from fun l => by simp]
    walk_at "mm"
    refine ⟨⟨by walk_at "sh", by walk_at "sh"⟩, hM.of ⟨_, _, _, _, rfl, ?_⟩⟩
    walk_at "mm"
    refine hM.of ⟨(_, _, _, _), rfl, ?_⟩
    rcases nm_filter (a, b, c, e) with ⟨_, h2⟩ | ⟨p, hp, _, _, h2⟩
    · rw [h2]
      walk_at "mm"
      first | exact k | exact ⟨⟨by walk_at "sh", by walk_at "sh"⟩, k⟩ | trace_state
    · rw [h2]
      walk_at "mm"
      exact k
theorem ok_signs_right (T : Txt K w mg cl) : CalM P w K mg base cl 12 "_law_signs_right" F_signs_right [] := calOf T.d_signs_right (fun _ _ _ => .nil) (fn_signs_right T)
end
end M64

namespace M64
open PySem PySem.Spec PyProof.Rows L2 Tw Mr
local macro_rules | `(tactic| walk_at "mm") => `(tactic| simp -implicitDefEqProofs only [↓Mr.hold_cM, ↓Mr.hold_ite, ↓Mr.hold_for, ↓Mr.hold_lc, ↓Mr.hold_wh, Mr.hIte_true, Mr.hIte_false, ↓Mr.startT.eq_1, ↓Mr.endsM.eq_1, ↓Mr.lawEnds.eq_1, ↓Mr.fSeq.eq_1, ↓Mr.fSkip.eq_1, ↓Mr.fRet.eq_1, ↓Mr.fRetN.eq_1, ↓Mr.fRetF.eq_1, ↓Mr.fDrop.eq_1, ↓Mr.fSet.eq_1, ↓Mr.fAsg.eq_1, ↓Mr.fPar.eq_1, ↓Mr.fFldS.eq_1, ↓Mr.fIfS.eq_1, ↓Mr.fRaise.eq_1, ↓Mr.fTry.eq_1, ↓Mr.fBrk.eq_1, ↓Mr.fCnt.eq_1, ↓Mr.gN.eq_1, ↓Mr.gT.eq_1, ↓Mr.gsNil.eq_1, ↓Mr.gsCons.eq_1, ↓Mr.xk,
  ↓Mr.fVar.eq_1, ↓Mr.fC.eq_1, ↓Mr.f2.eq_1, ↓Mr.f3.eq_1, ↓Mr.g2.eq_1, ↓Mr.kB.eq_1, ↓Mr.fTest.eq_1, ↓Mr.fTru.eq_1, ↓Mr.fAnd.eq_1, ↓Mr.fOr.eq_1, ↓Mr.fNot.eq_1, ↓Mr.fAndV.eq_1, ↓Mr.fOrV.eq_1, ↓Mr.fNotV.eq_1, ↓Mr.fIf.eq_1, ↓Mr.fUn.eq_1, ↓Mr.onO.eq_1, Mr.onB_bl, Mr.onB_non, Mr.onB_int, Mr.onB_str, Mr.onB_lst, Mr.onB_tup, Mr.onB_dct, ↓Mr.fNil.eq_1, ↓Mr.fCons.eq_1, ↓Mr.fLst.eq_1, ↓Mr.fTup.eq_1, ↓Mr.fLstC.eq_1, ↓Mr.fDct0.eq_1, ↓Mr.fDctC.eq_1, ↓Mr.fPar3.eq_1, ↓Mr.fSm0.eq_1, ↓Mr.fSm1.eq_1, ↓Mr.onS.eq_1, Mr.isS, Mr.eqF, List.all_cons, List.all_nil, List.any_cons, List.any_nil, Mr.upperO, Mr.lowerO, Mr.partO, Mr.isiT, Mr.tys, Mr.kkAny, Mr.reprX, Mr.S.datX, Mr.T.datX, Mr.datsX, Mr.datsK, Mr.kD, ↓Mr.fCB.eq_1, ↓Mr.fCall.eq_1, ↓Mr.fMk.eq_1, ↓Mr.fMkK.eq_1, ↓Mr.fMt.eq_1, ↓Mr.fMtK.eq_1, ↓Mr.fCallK.eq_1, ↓Mr.fErr.eq_1, ↓Mr.fStrO.eq_1, ↓Mr.fJs.eq_1, ↓Mr.jsT, ↓Mr.fSl.eq_1, ↓Mr.oNone.eq_1, ↓Mr.oSome.eq_1, ↓Mr.fLM.eq_1, ↓Mr.onL.eq_1,
  Mr.addO, Mr.intO, Mr.mulO, Mr.ltO, Mr.leO, Mr.gtO, Mr.geO, Mr.eqO, Mr.neO, Mr.isO, Mr.isnO, Mr.T.isN, Mr.negO, Mr.ixO, Mr.lenO, Mr.absO, Mr.intO1, Option.isSome_some, Option.isSome_none, Mr.strO, Mr.strLO, Mr.listO, Mr.tupO, Mr.reprO, Mr.isiO, Mr.fldO, Mr.xgO, Mr.fmtO, Mr.joinO, Mr.slO, Mr.inO', Mr.ninO', Mr.inB, Mr.T.flat, Mr.S.put_same, Mr.S.put_put, Mr.S.pn_on, Mr.S.pn_pen, Mr.S.put_pen, Mr.S.pn_pn, ↓Mr.fLc.eq_1, ↓Mr.fYes.eq_1, ↓Mr.iSeq.eq_1, ↓Mr.iRange1.eq_1, ↓Mr.iRange2.eq_1, Mr.S.its?, Mr.okAt, Mr.wipeT, ↓Mr.fFor.eq_1, Mr.allO, Mr.anyO, ↓Mr.doneM.eq_1, Option.map_some, Option.map_none,  Mr.appO, Mr.revO, Mr.clrO, ↓Mr.gEqOwn.eq_1, ↓Mr.gOwn2.eq_1, ↓Mr.gOwnI_row, ↓Mr.gOwnR_row, ↓Mr.kObj.eq_1, ↓Mr.fNegO.eq_1, ↓Mr.fOwnC.eq_1, ↓Mr.fPro.eq_1, ↓Mr.gInK.eq_1, ↓Mr.gIxK.eq_1, ↓Mr.iKeyK.eq_1, Mr.eqE, Bool.true_xor, Bool.false_xor, ↓Mr.gNeOwn.eq_1,
  Mr.S.lst?, Mr.S.seq?, Mr.S.ty?, Mr.S.obj?, Mr.S.dat, Mr.T.dat, Mr.dats, Mr.atI_0, Mr.atI_1, Mr.atI_2, Mr.atI_3, Mr.atI_4, Mr.atI_5, Mr.atI_6, Mr.atI_7, Mr.atI_8, Mr.atI_9, Mr.atI_10, Mr.atI_11, Mr.atI_12, Mr.atI_13, PyData.eqv, PyData.eqvAll, Bool.and_true, Bool.true_and, beq_self_eq_true, Bool.and_self, decide_true, decide_false, Mr.okC,
  List.map_cons, List.map_nil, List.length_cons, List.length_nil, List.cons_append, List.nil_append, List.append_nil, List.replicate_succ, List.replicate_zero, List.getElem?_cons_zero, List.getElem?_cons_succ, List.set_cons_zero, List.set_cons_succ, List.getD_cons_zero, List.getD_cons_succ, L2.CPow, Int.reduceToNat, Int.reducePow, Int.reduceAbs, Int.reduceLE, Int.reduceLT, Int.reduceSub, Int.reduceAdd, Int.reduceNeg, Int.reduceMul, Int.reduceEq, Nat.reducePow, Nat.sub_self, Nat.reduceSub, Nat.reduceAdd, Nat.reduceLeDiff, Nat.reduceLT, Nat.reduceEqDiff, Nat.zero_add, Nat.add_zero, Nat.add_one_sub_one, Nat.sub_zero, Nat.zero_sub,
  true_and, and_true, ite_true, ite_false, if_true, if_false, Bool.false_eq_true, Bool.true_eq_false, ↓reduceIte, Bool.not_true, Bool.not_false, List.zip_cons_cons, List.zip_nil_left, List.zip_nil_right, M64.kkA, M64.lkA, M64.insL, M64.excL, List.mem_cons, List.not_mem_nil, or_false, or_true, true_or, false_or, reduceCtorEq, Bool.not_eq_true, Bool.not_eq_false, Bool.not_not])
local macro_rules | `(tactic| walk_at "sh") => `(tactic| exact Mr.sh (by first | (simp only [Mr.niceD, Mr.niceAll, Bool.and_true, Bool.and_eq_true, true_and, and_true]; done) | (simp only [Mr.niceD, Mr.niceAll, Bool.and_true, Bool.and_eq_true, true_and, and_true]; decide +kernel) | simp [Mr.niceD, Mr.niceAll, *]) (by simp [PyData.depth, PyData.depthAll]))
local macro_rules | `(tactic| walk_at "rp") => `(tactic| exact Mr.rp (by first | (simp only [Mr.niceD, Mr.niceAll, Bool.and_true, Bool.and_eq_true, true_and, and_true]; done) | (simp only [Mr.niceD, Mr.niceAll, Bool.and_true, Bool.and_eq_true, true_and, and_true]; decide +kernel) | simp [Mr.niceD, Mr.niceAll, *]) (by simp [PyData.depth, PyData.depthAll]) (by simp only [Mr.wD, Mr.wAll]; first | decide | omega))

theorem cut4r (a b c d : Mr.T) (r : List Mr.T) : cutT (a :: b :: c :: d :: r) none (some 4) = [a, b, c, d] := by
  have h1 : HT.sIx (r.length + 1 + 1 + 1 + 1) (r.length + 1 + 1 + 1 + 1) (some 4) = 4 := by
    exact (HT.sIx_nat (r.length + 1 + 1 + 1 + 1) (r.length + 1 + 1 + 1 + 1) 4).trans (by omega)
  unfold cutT
  simp only [List.length_cons]
  rw [h1]
  rfl
theorem nm_bd : ∀ p ∈ NM, bd p.2 := by
  have h : ∀ p ∈ NM, ∀ i ∈ [p.2.1, p.2.2.1, p.2.2.2.1, p.2.2.2.2], -2000000000000 < i ∧ i < 2000000000000 := by decide +kernel
  exact h
theorem nm_lab (p : Str × Q4) (h : p ∈ NM) : labelT p.2 = .str p.1 := by
  have h2 : ∀ p ∈ NM, (NM.find? fun p' => decide (p'.2 = p.2)) = some p := by decide +kernel
  unfold labelT
  rw [h2 p h]
section
variable {w : World} {K : PySem.W.Frag} {mg : Str → Option Value} {base : Heap} {cl : Nat → Addr}
theorem fn_law (T : Txt K w mg cl) {f : Addr} {fd : FuncData} (F : C8.Fun K "law" "law" s_law f fd) : FnG P w K mg base 15 f fd ["_law_script"] (Mr.spLaw K) := by
  refine fnGX (k := 14) (N := N_law) F sc_law (by rintro vs H Q E ⟨_, _, rfl, _⟩; rfl) ?_
  rintro cdv A out s H vs Q E hr ⟨a, ns, rfl, hS, hl, q⟩
  refine law_body (ps_set (i := 1) sc_law.nd rfl (Or.inl rfl) (pe_cW Tw.tk_cx (ok_pen T) hr (by decide) (by rfl) (pa_cons (pv 0) pa_nil))) (jss_cons (js_for (L2.passes_of rfl) rfl (ji_range1 (by rfl) T.n_range (ja_cons je_int ja_nil)) (jg_name (i := 2) sc_law.nd rfl (Or.inl rfl))
      (jss_cons (js_par (i := 3) (j := 4) (by rfl) sc_law.nd rfl rfl (by decide) rfl rfl (ja_cons (je_slice (je_call Tw.tk_cx (ok_parts T) hr (by decide) (by rfl) (ja_cons (je_var 1) ja_nil)) jo_none (jo_some je_int)) (ja_cons (je_slice (je_call Tw.tk_cx (ok_parts T) hr (by decide) (by rfl) (ja_cons (je_var 1) ja_nil)) jo_none (jo_some je_int)) ja_nil)))
      (jss_cons (js_set (i := 4) sc_law.nd rfl (Or.inl rfl) (je_ix (je_lst (ja_cons (je_var 4) (ja_cons (je_var 4) (ja_cons (je_bt c_list (by rfl) T.n_list (by decide +kernel) (ja_cons (je_var 3) ja_nil)) (ja_cons (je_op o_add (je_slice (je_var 3) jo_none (jo_some je_int)) (je_lst (ja_cons (je_op o_add (je_ix (je_var 3) je_int (fun _ _ => rfl)) (je_ix (je_lst (ja_cons je_int (ja_cons (je_neg je_int) ja_nil))) (je_bt c_int (by rfl) T.n_int (by decide +kernel) (ja_cons (je_cmp o_gt (je_ix (je_var 3) je_int (fun _ _ => rfl)) je_int (nomark _)) ja_nil)) (fun _ _ => rfl))) ja_nil))) ja_nil))))) (je_call Tw.tk_cx (ok_draw T) hr (by decide) (by rfl) (ja_cons (je_var 1) (ja_cons je_int ja_nil))) (fun _ _ => rfl)))
      (jss_cons (js_if (jt_not (jt_val (je_call Tw.tk_cx (ok_signs_right T) hr (by decide) (by rfl) (ja_cons (je_var 1) (ja_cons (je_var 3) (ja_cons (je_var 4) ja_nil)))))) (jss_one (js_ret je_bl)) jss_nil)
      (jss_cons (js_if (jt_not (jt_val (je_call Tw.tk_cx (ok_is T) hr (by decide) (by rfl) (ja_cons (je_mk true Tw.tk_cx (mk2_Tinit T) hr (by decide) (by rfl) (ja_cons (je_ix (je_var 3) je_int (fun _ _ => rfl)) (ja_cons (je_ix (je_var 3) je_int (fun _ _ => rfl)) ja_nil))) (ja_cons (je_lst (ja_cons (je_ix (je_var 3) je_int (fun _ _ => rfl)) (ja_cons (je_ix (je_var 3) je_int (fun _ _ => rfl)) (ja_cons je_int (ja_cons je_int ja_nil))))) (ja_cons (je_var 1) ja_nil)))))) (jss_one (js_ret je_bl)) jss_nil)
      (jss_one (js_if (jt_not (jt_val (je_call Tw.tk_cx (ok_is T) hr (by decide) (by rfl) (ja_cons (je_mkK0 true Tw.tk_cx (mkK_Tinit_0_a_b_c T) hr (by decide) (by rfl)  (jk_cons (je_ix (je_var 3) je_int (fun _ _ => rfl)) (jk_cons (je_ix (je_var 3) je_int (fun _ _ => rfl)) (jk_cons (je_ix (je_var 3) je_int (fun _ _ => rfl)) jk_nil)))) (ja_cons (je_op o_add (je_slice (je_var 3) jo_none (jo_some je_int)) (je_lst (ja_cons je_int ja_nil))) (ja_cons (je_var 1) ja_nil)))))) (jss_one (js_ret je_bl)) jss_nil)))))))
    (jss_cons (js_for (L2.passes_of rfl) rfl (ji_seq (je_call0 Tw.tk_cx (ok_usual T) hr (by decide) (by rfl))) (jg_tup (n := 2) (by rfl) (jgs_cons (jg_name (i := 5) sc_law.nd rfl (Or.inl rfl)) (jgs_cons (jg_name (i := 6) sc_law.nd rfl (Or.inl rfl)) jgs_nil)))
      (jss_cons (js_set (i := 7) sc_law.nd rfl (Or.inl rfl) (je_sta Tw.tk_cx (sta_Tusual T) hr (by decide) (by rfl) T.mx_Tally (ja_cons (je_var 5) ja_nil)))
      (jss_cons (js_if (JW.jt (jw_or (jt_not (jt_val (je_call Tw.tk_cx (ok_is T) hr (by decide) (by rfl) (ja_cons (je_var 7) (ja_cons (je_var 6) (ja_cons (je_var 1) ja_nil)))))) (jw_or1 (jt_cmp (o_ne hr) (je_pro (pro_Tlabel T) hr (by decide) (je_var 7)) (je_var 5) (nomark _))))) (jss_one (js_ret je_bl)) jss_nil)
      (jss_one (js_if (jt_not (jt_cmp (o_eqOwn T.wc (mt_Teq T) T.nf_Tally hr (by decide)) (je_var 7) (je_mk true Tw.tk_cx (mk_Tinit T) hr (by decide) (by rfl) (ja_cons (je_ix (je_var 6) je_int (fun _ _ => rfl)) (ja_cons (je_ix (je_var 6) je_int (fun _ _ => rfl)) (ja_cons (je_ix (je_var 6) je_int (fun _ _ => rfl)) (ja_cons (je_ix (je_var 6) je_int (fun _ _ => rfl)) ja_nil))))) (nomark _))) (jss_one (js_ret je_bl)) jss_nil)))))
    (jss_cons (js_set (i := 8) sc_law.nd rfl (Or.inl rfl) (je_lst (ja_cons je_non (ja_cons je_bl (ja_cons je_int (ja_cons je_str (ja_cons je_str (ja_cons je_str (ja_cons je_str (ja_cons (je_tup (ja_cons je_str ja_nil)) (ja_cons (je_lst (ja_cons je_str ja_nil)) (ja_cons je_dct0 (ja_cons je_str (ja_cons (je_op o_pow je_int je_int) ja_nil))))))))))))))
    (jss_cons (js_set (i := 9) sc_law.nd rfl (Or.inl rfl) (je_call Tw.tk_cx (ok_pick T) hr (by decide) (by rfl) (ja_cons (je_var 1) (ja_cons (je_var 8) ja_nil))))
    (jss_one (js_ret (je_cmp (o_eqE hr) (je_call Tw.tk_cx (ok_heard T) hr (by decide) (by rfl) (ja_cons (je_var 9) ja_nil)) (je_lst (ja_cons (je_var 9) ja_nil)) (nomark _)))))))) (by decide) (fun σ H Q' e h => ⟨_, e, h⟩) hS hl q ?_
  clear hS hl q
  intro a p
  walk_at "mm"
  refine for_ind (fun pre post τ s' => s' = (s0 p).pn (135 * pre.length) ∧ pre.length + post.length = 4 ∧ ∃ x2 x3 x4 x5 x6 x7 x8 x9, τ = [some (.cell a), some .pen, x2, x3, x4, x5, x6, x7, x8, x9]) ⟨rfl, rfl, _, _, _, _, _, _, _, _, rfl⟩ (fun _ _ _ _ _ => trivial) ?_ ?_
  · rintro pre t post τ s' N e ⟨rfl, hl, x2, x3, x4, x5, x6, x7, x8, x9, rfl⟩ k'
    rw [List.length_cons] at hl
    walk_at "mm"
    refine hM.of ⟨rfl, by simp only [S.pn_pen]; omega, fun a1 b1 c1 e1 r1 h1 l1 => ?_⟩
    walk_at "mm"
    rw [cut4r]
    refine hM.of ⟨rfl, by simp only [S.pn_pen]; omega, fun a2 b2 c2 e2 r2 h2 l2 => ?_⟩
    walk_at "mm"
    rw [cut4r]
    obtain ⟨d, hd, d0, d1⟩ : ∃ d : Int, atI [Mr.T.int 1, Mr.T.int (-1)] (if decide (0 < e1) = true then 1 else 0) = some (.int d) ∧ -1000001 < e1 + d ∧ e1 + d < 1000001 := by
      have he1 := h1 e1 (by simp)
      by_cases h : 0 < e1
      · rw [decide_eq_true h]
        exact ⟨-1, rfl, by omega, by omega⟩
      · rw [decide_eq_false h]
        exact ⟨1, rfl, by omega, by omega⟩
    rw [hd]
    walk_at "mm"
    rw [show cutT [Mr.T.int a1, Mr.T.int b1, Mr.T.int c1, Mr.T.int e1] none (some 3) = [.int a1, .int b1, .int c1] from rfl]
    refine ⟨by simp, use_drawH (by omega) (by omega) (by simp only [S.pn_pen]; omega) fun j j0 j1 => ?_⟩
    have g1 : b6 (a1, b1, c1, e1) := fun i hi => by have := h1 i hi; omega
    have g2 : b6 (a2, b2, c2, e2) := fun i hi => by have := h2 i hi; omega
    have g3 : b6 (a1, b1, c1, e1 + d) := fun i hi => by
      simp only [List.mem_cons, List.not_mem_nil, or_false] at hi
      rcases hi with rfl | rfl | rfl | rfl
      · exact g1 _ (by simp)
      · exact g1 _ (by simp)
      · exact g1 _ (by simp)
      · exact ⟨d0, d1⟩
    obtain ⟨t, et, m⟩ := atI_mem (xs := [lst4 (a2, b2, c2, e2), lst4 (a2, b2, c2, e2), lst4 (a1, b1, c1, e1), lst4 (a1, b1, c1, e1 + d)]) j0 (by exact j1)
    obtain ⟨q2, rfl, hq⟩ : ∃ q2, t = lst4 q2 ∧ b6 q2 := by
      simp only [List.mem_cons, List.not_mem_nil, or_false] at m
      rcases m with rfl | rfl | rfl | rfl
      · exact ⟨_, rfl, g2⟩
      · exact ⟨_, rfl, g2⟩
      · exact ⟨_, rfl, g1⟩
      · exact ⟨_, rfl, g3⟩
    walk_at "mm"
    have et' : atI [Mr.T.lst [.int a2, .int b2, .int c2, .int e2], .lst [.int a2, .int b2, .int c2, .int e2], .lst [.int a1, .int b1, .int c1, .int e1], .lst [.int a1, .int b1, .int c1, .int (e1 + d)]] j = some (lst4 q2) := et
    rw [et']
    walk_at "mm"
    refine hM.of ⟨(a1, b1, c1, e1), q2, rfl, g1, hq, by simp only [S.pn_pen]; omega, ?_⟩
    walk_at "mm"
    refine fun x hx => mk_tally hx ?_
    walk_at "mm"
    refine hM.of ⟨(a1, b1, 0, 0), rfl, ?_, by simp only [S.pn_pen]; omega, ?_⟩
    · intro i hi
      simp only [List.mem_cons, List.not_mem_nil, or_false] at hi
      rcases hi with rfl | rfl | rfl | rfl
      · exact bdd g1 _ (by simp)
      · exact bdd g1 _ (by simp)
      · omega
      · omega
    walk_at "mm"
    refine fun x hx => mk_tally hx ?_
    walk_at "mm"
    rw [show cutT [Mr.T.int a1, Mr.T.int b1, Mr.T.int c1, Mr.T.int e1] none (some 3) = [.int a1, .int b1, .int c1] from rfl]
    refine ⟨by simp, hM.of ⟨(a1, b1, c1, 0), rfl, ?_, by simp only [S.pn_pen]; omega, ?_⟩⟩
    · intro i hi
      simp only [List.mem_cons, List.not_mem_nil, or_false] at hi
      rcases hi with rfl | rfl | rfl | rfl
      · exact bdd g1 _ (by simp)
      · exact bdd g1 _ (by simp)
      · exact bdd g1 _ (by simp)
      · omega
    walk_at "mm"
    refine k' _ _ ⟨?_, ?_, _, _, _, _, _, _, _, _, rfl⟩
    · rw [List.length_append, List.length_cons, List.length_nil]; rfl
    · rw [List.length_append, List.length_cons, List.length_nil]; omega
  · rintro τ s' ⟨rfl, hl, x2, x3, x4, x5, x6, x7, x8, x9, rfl⟩
    rw [rng_len]
    walk_at "mm"
    refine hM.of ⟨rfl, ?_⟩
    walk_at "mm"
    refine for_ind (fun pre post τ s' => s' = (s0 p).pn (540 + 12 * pre.length) ∧ pre.length + post.length = 9 ∧ ∃ x2 x3 x4 x5 x6 x7 x8 x9, τ = [some (.cell a), some .pen, x2, x3, x4, x5, x6, x7, x8, x9]) ⟨rfl, rfl, _, _, _, _, _, _, _, _, rfl⟩ (fun _ _ _ _ _ => trivial) ?_ ?_
    · rintro pre t post τ s' N e ⟨rfl, hl, x2, x3, x4, x5, x6, x7, x8, x9, rfl⟩ k'
      rw [List.length_cons] at hl
      have ht : t ∈ NM.map fun p => Mr.T.tup [.str p.1, lst4 p.2] := by
        rw [e]
        exact List.mem_append_right _ List.mem_cons_self
      obtain ⟨⟨z, a1, b1, c1, e1⟩, hz, rfl⟩ := List.mem_map.mp ht
      have hb := nm_bd _ hz
      have hlb := nm_lab _ hz
      have hlk := nm_look _ hz
      unfold lst4
      walk_at "mm"
      refine hM.of ⟨_, rfl, .inl ⟨z, a1, b1, c1, e1, rfl, hlk, ?_⟩⟩
      walk_at "mm"
      refine hM.of ⟨(a1, b1, c1, e1), rfl, hb, by simp only [S.pn_pen]; omega, ?_⟩
      unfold tally
      walk_at "mm"
      refine hM.of ⟨a1, b1, c1, e1, rfl, ?_⟩
      rw [hlb]
      walk_at "mm"
      refine fun x hx => mk_tally hx ?_
      unfold tally
      walk_at "mm"
      refine hM.of ⟨a1, b1, c1, e1, _, rfl, .inl ⟨a1, b1, c1, e1, rfl, ?_⟩⟩
      rw [decide_eq_true ⟨rfl, rfl, rfl, rfl⟩]
      walk_at "mm"
      refine k' _ _ ⟨?_, ?_, _, _, _, _, _, _, _, _, rfl⟩
      · rw [List.length_append, List.length_cons, List.length_nil]; rfl
      · rw [List.length_append, List.length_cons, List.length_nil]; omega
    · rintro τ s' ⟨rfl, hl, x2, x3, x4, x5, x6, x7, x8, x9, rfl⟩
      walk_at "mm"
      refine hM.of ⟨_, rfl, by simp only [S.pn_pen]; decide, _, rfl, by simp, by simp, fun t ht => ?_⟩
      simp only [List.mem_cons, List.not_mem_nil, or_false] at ht
      walk_at "mm"
      rcases ht with rfl | rfl | rfl | rfl | rfl | rfl | rfl | rfl | rfl | rfl | rfl | rfl
      all_goals refine hM.of ⟨_, rfl, by decide +kernel, by decide +kernel, ?_⟩
      all_goals walk_at "mm"
      all_goals exact ⟨by walk_at "sh", by walk_at "sh"⟩
end
end M64

namespace M64
open PySem PySem.Spec PyProof.Rows L2 Tw Mr
theorem xc_BadName {K : PySem.W.Frag} {C fI cc cda : Addr} (S : SupAt P K C s_XBadName "BadName.__init__" fI cc cda) (n0 : PySem.W.findIn K (.ref C) "name" = some none) : XCall P K C ["name"] := by
  refine' xcall1 (ar := argOf s_XBadName) (y := "name") S ?X ?hb ?hbind ?ky ?yd ?yne n0
  case hb => exact rfl
  case X => exact ⟨rfl, rfl, rfl, rfl, by decide +kernel, rfl, rfl, rfl, by decide +kernel, fun _ => rfl, fun _ => ⟨_, rfl⟩, fun _ _ _ _ _ _ _ _ => rfl⟩
  case hbind => exact fun _ _ _ _ _ _ _ => rfl
  case ky => exact rfl
  case yd => decide
  case yne => decide +kernel
set_option maxHeartbeats 4000000 in
theorem all_mk {w : World} {K : PySem.W.Frag} {h : Heap} {mg : Str → Option Value} {fa : Addr} (X : K.In h) (G : h.Ns mainGlobals mg) (hfa : mg "law" = some (.ref fa))
    {C_HeadsError : Addr}
    {C_BadInput : Addr}
    {C_BadName : Addr}
    {C_Tally : Addr}
    {nm_BadName qq_BadName : Str} {N_BadName : Addr} {bs_BadName bm_BadName : List Value} {sn_BadName : List Str} {sub_BadName : List Value} {ab_BadName : Bool} {col_BadName : Option Bool} {dd_BadName : Option Addr} {k0_BadName k1_BadName k2_BadName k3_BadName k5_BadName : Option Value}
    {f_XBadName cc_XBadName cda_XBadName : Addr} {od_XBadName an_XBadName : Option Addr} {osl_XBadName : Array (Option Value)} {kV_XBadName doc_XBadName pm_XBadName ct_XBadName : Value}
    {ccl_XBadName : Value} {cdd_XBadName : Option Addr} {vs_XBadName : Array Value} {ccs_XBadName : Array (Option Value)} {fi_XBadName : Str} {tf_XBadName : Tok} {el_XBadName : Value} {eld_XBadName : Option Addr} {els_XBadName : Array (Option Value)}
    {f_Tinit : Addr} {oc_Tinit kV_Tinit doc_Tinit pm_Tinit cdv_Tinit ct_Tinit : Value} {od_Tinit an_Tinit : Option Addr} {osl_Tinit : Array (Option Value)}
    {D_Tinit : Addr}
    {t_Tinit0 : Tok}
    {t_Tinit1 : Tok}
    {od2_Tinit : Option Addr} {n2_Tinit : Nat} {sl2_Tinit : Array (Option Value)} {oc2_Tinit : Value}
    {f_Tusual : Addr} {oc_Tusual kV_Tusual doc_Tusual pm_Tusual cdv_Tusual ct_Tusual : Value} {od_Tusual an_Tusual : Option Addr} {osl_Tusual : Array (Option Value)}
    {p_Tusual : Addr} {r_Tusual : List Value}
    {f_Tlabel : Addr} {oc_Tlabel kV_Tlabel doc_Tlabel pm_Tlabel cdv_Tlabel ct_Tlabel : Value} {od_Tlabel an_Tlabel : Option Addr} {osl_Tlabel : Array (Option Value)}
    {p_Tlabel : Addr} {r_Tlabel : List Value}
    {f_Tcall : Addr} {oc_Tcall kV_Tcall doc_Tcall pm_Tcall cdv_Tcall ct_Tcall : Value} {od_Tcall an_Tcall : Option Addr} {osl_Tcall : Array (Option Value)}
    {f_Teq : Addr} {oc_Teq kV_Teq doc_Teq pm_Teq cdv_Teq ct_Teq : Value} {od_Teq an_Teq : Option Addr} {osl_Teq : Array (Option Value)}
    {f_Tadd : Addr} {oc_Tadd kV_Tadd doc_Tadd pm_Tadd cdv_Tadd ct_Tadd : Value} {od_Tadd an_Tadd : Option Addr} {osl_Tadd : Array (Option Value)}
    {f_Tsub : Addr} {oc_Tsub kV_Tsub doc_Tsub pm_Tsub cdv_Tsub ct_Tsub : Value} {od_Tsub an_Tsub : Option Addr} {osl_Tsub : Array (Option Value)}
    {f_Tmul : Addr} {oc_Tmul kV_Tmul doc_Tmul pm_Tmul cdv_Tmul ct_Tmul : Value} {od_Tmul an_Tmul : Option Addr} {osl_Tmul : Array (Option Value)}
    {f_Trmul : Addr} {oc_Trmul kV_Trmul doc_Trmul pm_Trmul cdv_Trmul ct_Trmul : Value} {od_Trmul an_Trmul : Option Addr} {osl_Trmul : Array (Option Value)}
    {f_Tneg : Addr} {oc_Tneg kV_Tneg doc_Tneg pm_Tneg cdv_Tneg ct_Tneg : Value} {od_Tneg an_Tneg : Option Addr} {osl_Tneg : Array (Option Value)}
    {f_pen : Addr} {oc_pen kV_pen doc_pen pm_pen cdv_pen ct_pen : Value} {od_pen an_pen : Option Addr} {osl_pen : Array (Option Value)}
    {f_draw : Addr} {oc_draw kV_draw doc_draw pm_draw cdv_draw ct_draw : Value} {od_draw an_draw : Option Addr} {osl_draw : Array (Option Value)}
    {f_pick : Addr} {oc_pick kV_pick doc_pick pm_pick cdv_pick ct_pick : Value} {od_pick an_pick : Option Addr} {osl_pick : Array (Option Value)}
    {f_part : Addr} {oc_part kV_part doc_part pm_part cdv_part ct_part : Value} {od_part an_part : Option Addr} {osl_part : Array (Option Value)}
    {f_parts : Addr} {oc_parts kV_parts doc_parts pm_parts cdv_parts ct_parts : Value} {od_parts an_parts : Option Addr} {osl_parts : Array (Option Value)}
    {f_worth : Addr} {oc_worth kV_worth doc_worth pm_worth cdv_worth ct_worth : Value} {od_worth an_worth : Option Addr} {osl_worth : Array (Option Value)}
    {f_is : Addr} {oc_is kV_is doc_is pm_is cdv_is ct_is : Value} {od_is an_is : Option Addr} {osl_is : Array (Option Value)}
    {f_usual : Addr} {oc_usual kV_usual doc_usual pm_usual cdv_usual ct_usual : Value} {od_usual an_usual : Option Addr} {osl_usual : Array (Option Value)}
    {f_label : Addr} {oc_label kV_label doc_label pm_label cdv_label ct_label : Value} {od_label an_label : Option Addr} {osl_label : Array (Option Value)}
    {f_heard : Addr} {oc_heard kV_heard doc_heard pm_heard cdv_heard ct_heard : Value} {od_heard an_heard : Option Addr} {osl_heard : Array (Option Value)}
    {f_signs_right : Addr} {oc_signs_right kV_signs_right doc_signs_right pm_signs_right cdv_signs_right ct_signs_right : Value} {od_signs_right an_signs_right : Option Addr} {osl_signs_right : Array (Option Value)}
    {f_law : Addr} {oc_law kV_law doc_law pm_law cdv_law ct_law : Value} {od_law an_law : Option Addr} {osl_law : Array (Option Value)}
    {a_NAMES : Addr} {n_NAMES : Nat}
    {hh_NAMES0 : Int} {th_NAMES0 : Tok}
    {hh_NAMES1 : Int} {th_NAMES1 : Tok}
    {hh_NAMES2 : Int} {th_NAMES2 : Tok}
    {hh_NAMES3 : Int} {th_NAMES3 : Tok}
    {hh_NAMES4 : Int} {th_NAMES4 : Tok}
    {hh_NAMES5 : Int} {th_NAMES5 : Tok}
    {hh_NAMES6 : Int} {th_NAMES6 : Tok}
    {hh_NAMES7 : Int} {th_NAMES7 : Tok}
    {hh_NAMES8 : Int} {th_NAMES8 : Tok}
    {tk_NAMES_0_0 : Tok}
    {tk_NAMES_0_1 : Tok}
    {tk_NAMES_0_2 : Tok}
    {tk_NAMES_0_3 : Tok}
    {ak_NAMES_0 : Addr} {odk_NAMES_0 : Option Addr} {nk_NAMES_0 : Nat} {slk_NAMES_0 : Array (Option Value)}
    {tk_NAMES_1_0 : Tok}
    {tk_NAMES_1_1 : Tok}
    {tk_NAMES_1_2 : Tok}
    {tk_NAMES_1_3 : Tok}
    {ak_NAMES_1 : Addr} {odk_NAMES_1 : Option Addr} {nk_NAMES_1 : Nat} {slk_NAMES_1 : Array (Option Value)}
    {tk_NAMES_2_0 : Tok}
    {tk_NAMES_2_1 : Tok}
    {tk_NAMES_2_2 : Tok}
    {tk_NAMES_2_3 : Tok}
    {ak_NAMES_2 : Addr} {odk_NAMES_2 : Option Addr} {nk_NAMES_2 : Nat} {slk_NAMES_2 : Array (Option Value)}
    {tk_NAMES_3_0 : Tok}
    {tk_NAMES_3_1 : Tok}
    {tk_NAMES_3_2 : Tok}
    {tk_NAMES_3_3 : Tok}
    {ak_NAMES_3 : Addr} {odk_NAMES_3 : Option Addr} {nk_NAMES_3 : Nat} {slk_NAMES_3 : Array (Option Value)}
    {tk_NAMES_4_0 : Tok}
    {tk_NAMES_4_1 : Tok}
    {tk_NAMES_4_2 : Tok}
    {tk_NAMES_4_3 : Tok}
    {ak_NAMES_4 : Addr} {odk_NAMES_4 : Option Addr} {nk_NAMES_4 : Nat} {slk_NAMES_4 : Array (Option Value)}
    {tk_NAMES_5_0 : Tok}
    {tk_NAMES_5_1 : Tok}
    {tk_NAMES_5_2 : Tok}
    {tk_NAMES_5_3 : Tok}
    {ak_NAMES_5 : Addr} {odk_NAMES_5 : Option Addr} {nk_NAMES_5 : Nat} {slk_NAMES_5 : Array (Option Value)}
    {tk_NAMES_6_0 : Tok}
    {tk_NAMES_6_1 : Tok}
    {tk_NAMES_6_2 : Tok}
    {tk_NAMES_6_3 : Tok}
    {ak_NAMES_6 : Addr} {odk_NAMES_6 : Option Addr} {nk_NAMES_6 : Nat} {slk_NAMES_6 : Array (Option Value)}
    {tk_NAMES_7_0 : Tok}
    {tk_NAMES_7_1 : Tok}
    {tk_NAMES_7_2 : Tok}
    {tk_NAMES_7_3 : Tok}
    {ak_NAMES_7 : Addr} {odk_NAMES_7 : Option Addr} {nk_NAMES_7 : Nat} {slk_NAMES_7 : Array (Option Value)}
    {tk_NAMES_8_0 : Tok}
    {tk_NAMES_8_1 : Tok}
    {tk_NAMES_8_2 : Tok}
    {tk_NAMES_8_3 : Tok}
    {ak_NAMES_8 : Addr} {odk_NAMES_8 : Option Addr} {nk_NAMES_8 : Nat} {slk_NAMES_8 : Array (Option Value)}
    {fo_Tally_mul go_Tally_mul : Option Value}
    (z_len : PySem.W.nsIn K mainGlobals "len" = some none)
    (z_abs : PySem.W.nsIn K mainGlobals "abs" = some none)
    (z_int : PySem.W.nsIn K mainGlobals "int" = some none)
    (z_list : PySem.W.nsIn K mainGlobals "list" = some none)
    (z_tuple : PySem.W.nsIn K mainGlobals "tuple" = some none)
    (z_repr : PySem.W.nsIn K mainGlobals "repr" = some none)
    (z_str : PySem.W.nsIn K mainGlobals "str" = some none)
    (z_range : PySem.W.nsIn K mainGlobals "range" = some none)
    (z_isinstance : PySem.W.nsIn K mainGlobals "isinstance" = some none)
    (z_super : PySem.W.nsIn K mainGlobals "super" = some none)
    (z_ValueError : PySem.W.nsIn K mainGlobals "ValueError" = some none)
    (aC_HeadsError : PySem.W.nsIn K mainGlobals "HeadsError" = some (some (.ref C_HeadsError)))
    (aC_BadInput : PySem.W.nsIn K mainGlobals "BadInput" = some (some (.ref C_BadInput)))
    (aC_BadName : PySem.W.nsIn K mainGlobals "BadName" = some (some (.ref C_BadName)))
    (aC_Tally : PySem.W.nsIn K mainGlobals "Tally" = some (some (.ref C_Tally)))
    (bC_Tally : insB K C_Tally = true)
    (na_Tally_a : PySem.W.findIn K (.ref C_Tally) "a" = some none)
    (na_Tally_b : PySem.W.findIn K (.ref C_Tally) "b" = some none)
    (na_Tally_c : PySem.W.findIn K (.ref C_Tally) "c" = some none)
    (na_Tally_e : PySem.W.findIn K (.ref C_Tally) "e" = some none)
    (lC_BadName : K.lookup C_BadName = some (excClassObj nm_BadName qq_BadName C_BadName N_BadName bs_BadName bm_BadName true sn_BadName sub_BadName ab_BadName col_BadName dd_BadName k0_BadName k1_BadName k2_BadName k3_BadName k5_BadName "ValueError.__new__"))
    (rv_BadName : PySem.HandSPX.refsVE bm_BadName = true)
    (ob_BadName : oexB K C_BadName = true)
    (eb_BadName : excB K C_BadName = true)
    (na_BadName_name : PySem.W.findIn K (.ref C_BadName) "name" = some none)
    (i_XBadName : PySem.W.findIn K (.ref C_BadName) "__init__" = some (some (.ref f_XBadName)))
    (l_XBadName : K.lookup f_XBadName = some ⟨.type "function", od_XBadName, .func (PySem.W.ksFn "__init__" "BadName.__init__" (C8.fnArgs s_XBadName) (C8.fnBody s_XBadName) (C8.fnScope s_XBadName) .none kV_XBadName doc_XBadName pm_XBadName an_XBadName (.ref cda_XBadName) ct_XBadName cc_XBadName), osl_XBadName⟩)
    (cd_XBadName : PySem.W.codeIn K (.ref cda_XBadName) "BadName.__init__" = true)
    (lc_XBadName : K.lookup cda_XBadName = some ⟨ccl_XBadName, cdd_XBadName, .fields vs_XBadName, ccs_XBadName⟩)
    (v2_XBadName : vs_XBadName[2]? = some (.str fi_XBadName tf_XBadName))
    (fi_e_XBadName : ((P.main.file : Str) == fi_XBadName) = true)
    (le_XBadName : K.lookup cc_XBadName = some ⟨el_XBadName, eld_XBadName, .cell (some (.ref C_BadName)), els_XBadName⟩)
    (su_XBadName : PySem.W.ks_superIn K C_BadName C_BadName "__init__" = some (some (.builtin "ValueError.__init__")))
    (iv_XBadName : PySem.W.subIn K (.ref C_BadName) (.type "ValueError") = some true)
    (me_XBadName : PySem.W.mroIn K C_BadName (.ref C_BadName) = some true)
    (opq : PySem.W.nsIn K cStatics "thirdparty.any" = some none)
    (em_HeadsError : exmB K (clL [C_HeadsError, C_BadInput, C_BadName, C_Tally, a_NAMES]) 0 [2] = true)
    (kit : kitB' K (clL [C_HeadsError, C_BadInput, C_BadName, C_Tally, a_NAMES]) kkT = true)
    (a_Tinit : PySem.W.findIn K (.ref C_Tally) "__init__" = some (some (.ref f_Tinit)))
    (i_Tinit : PySem.W.isFn K (.ref f_Tinit) = true)
    (l_Tinit : K.lookup f_Tinit = some ⟨oc_Tinit, od_Tinit, .func (PySem.W.fnOf "__init__" "Tally.__init__" (C8.fnArgs s_Tinit) (C8.fnBody s_Tinit) (C8.fnScope s_Tinit) (.ref D_Tinit) kV_Tinit doc_Tinit pm_Tinit an_Tinit cdv_Tinit ct_Tinit), osl_Tinit⟩)
    (cd_Tinit : PySem.W.codeIn K cdv_Tinit "Tally.__init__" = true)
    (k_Tinit : PySem.W.keepIn K (.ref f_Tinit) = true)
    (d_Tinit : K.lookup D_Tinit = some ⟨oc2_Tinit, od2_Tinit, .seq #[.int (0) t_Tinit0, .int (0) t_Tinit1] n2_Tinit, sl2_Tinit⟩)
    (mkC_Tally : PySem.W.makesIn K C_Tally = true)
    (kcC_Tally : PySem.W.keepIn K (.ref C_Tally) = true)
    (rd_Tusual : PySem.W.readsIn K C_Tally (.type "type") = true)
    (ga_Tusual : PySem.W.specialIn K (.ref C_Tally) "__getattribute__" = some (some (.builtin "type.__getattribute__")))
    (at_Tusual : PySem.W.findCls K (.ref C_Tally) (.type "type") "usual" = some (.get (.builtin "staticmethod.__get__") (.ref p_Tusual) .none (.ref C_Tally)))
    (rc_Tusual : PySem.W.recIn K p_Tusual "staticmethod" = some (.ref f_Tusual :: r_Tusual))
    (l_Tusual : K.lookup f_Tusual = some ⟨oc_Tusual, od_Tusual, .func (PySem.W.fnOf "usual" "Tally.usual" (C8.fnArgs s_Tusual) (C8.fnBody s_Tusual) (C8.fnScope s_Tusual) .none kV_Tusual doc_Tusual pm_Tusual an_Tusual cdv_Tusual ct_Tusual), osl_Tusual⟩)
    (cd_Tusual : PySem.W.codeIn K cdv_Tusual "Tally.usual" = true)
    (k_Tusual : PySem.W.keepIn K (.ref f_Tusual) = true)
    (at_Tlabel : PySem.W.findIn K (.ref C_Tally) "label" = some (some (.ref p_Tlabel)))
    (pg_Tlabel : PySem.W.specialIn K (.ref p_Tlabel) "__get__" = some (some (.builtin "property.__get__")))
    (pt_Tlabel : PySem.W.takesIn K (.ref p_Tlabel) = some true)
    (rc_Tlabel : PySem.W.recIn K p_Tlabel "property" = some (.ref f_Tlabel :: r_Tlabel))
    (l_Tlabel : K.lookup f_Tlabel = some ⟨oc_Tlabel, od_Tlabel, .func (PySem.W.fnOf "label" "Tally.label" (C8.fnArgs s_Tlabel) (C8.fnBody s_Tlabel) (C8.fnScope s_Tlabel) .none kV_Tlabel doc_Tlabel pm_Tlabel an_Tlabel cdv_Tlabel ct_Tlabel), osl_Tlabel⟩)
    (cd_Tlabel : PySem.W.codeIn K cdv_Tlabel "Tally.label" = true)
    (k_Tlabel : PySem.W.keepIn K (.ref f_Tlabel) = true)
    (a_Tcall : PySem.W.findIn K (.ref C_Tally) "__call__" = some (some (.ref f_Tcall)))
    (i_Tcall : PySem.W.isFn K (.ref f_Tcall) = true)
    (l_Tcall : K.lookup f_Tcall = some ⟨oc_Tcall, od_Tcall, .func (PySem.W.fnOf "__call__" "Tally.__call__" (C8.fnArgs s_Tcall) (C8.fnBody s_Tcall) (C8.fnScope s_Tcall) .none kV_Tcall doc_Tcall pm_Tcall an_Tcall cdv_Tcall ct_Tcall), osl_Tcall⟩)
    (cd_Tcall : PySem.W.codeIn K cdv_Tcall "Tally.__call__" = true)
    (k_Tcall : PySem.W.keepIn K (.ref f_Tcall) = true)
    (a_Teq : PySem.W.findIn K (.ref C_Tally) "__eq__" = some (some (.ref f_Teq)))
    (i_Teq : PySem.W.isFn K (.ref f_Teq) = true)
    (l_Teq : K.lookup f_Teq = some ⟨oc_Teq, od_Teq, .func (PySem.W.fnOf "__eq__" "Tally.__eq__" (C8.fnArgs s_Teq) (C8.fnBody s_Teq) (C8.fnScope s_Teq) .none kV_Teq doc_Teq pm_Teq an_Teq cdv_Teq ct_Teq), osl_Teq⟩)
    (cd_Teq : PySem.W.codeIn K cdv_Teq "Tally.__eq__" = true)
    (k_Teq : PySem.W.keepIn K (.ref f_Teq) = true)
    (a_Tadd : PySem.W.findIn K (.ref C_Tally) "__add__" = some (some (.ref f_Tadd)))
    (i_Tadd : PySem.W.isFn K (.ref f_Tadd) = true)
    (l_Tadd : K.lookup f_Tadd = some ⟨oc_Tadd, od_Tadd, .func (PySem.W.fnOf "__add__" "Tally.__add__" (C8.fnArgs s_Tadd) (C8.fnBody s_Tadd) (C8.fnScope s_Tadd) .none kV_Tadd doc_Tadd pm_Tadd an_Tadd cdv_Tadd ct_Tadd), osl_Tadd⟩)
    (cd_Tadd : PySem.W.codeIn K cdv_Tadd "Tally.__add__" = true)
    (k_Tadd : PySem.W.keepIn K (.ref f_Tadd) = true)
    (a_Tsub : PySem.W.findIn K (.ref C_Tally) "__sub__" = some (some (.ref f_Tsub)))
    (i_Tsub : PySem.W.isFn K (.ref f_Tsub) = true)
    (l_Tsub : K.lookup f_Tsub = some ⟨oc_Tsub, od_Tsub, .func (PySem.W.fnOf "__sub__" "Tally.__sub__" (C8.fnArgs s_Tsub) (C8.fnBody s_Tsub) (C8.fnScope s_Tsub) .none kV_Tsub doc_Tsub pm_Tsub an_Tsub cdv_Tsub ct_Tsub), osl_Tsub⟩)
    (cd_Tsub : PySem.W.codeIn K cdv_Tsub "Tally.__sub__" = true)
    (k_Tsub : PySem.W.keepIn K (.ref f_Tsub) = true)
    (a_Tmul : PySem.W.findIn K (.ref C_Tally) "__mul__" = some (some (.ref f_Tmul)))
    (i_Tmul : PySem.W.isFn K (.ref f_Tmul) = true)
    (l_Tmul : K.lookup f_Tmul = some ⟨oc_Tmul, od_Tmul, .func (PySem.W.fnOf "__mul__" "Tally.__mul__" (C8.fnArgs s_Tmul) (C8.fnBody s_Tmul) (C8.fnScope s_Tmul) .none kV_Tmul doc_Tmul pm_Tmul an_Tmul cdv_Tmul ct_Tmul), osl_Tmul⟩)
    (cd_Tmul : PySem.W.codeIn K cdv_Tmul "Tally.__mul__" = true)
    (k_Tmul : PySem.W.keepIn K (.ref f_Tmul) = true)
    (a_Trmul : PySem.W.findIn K (.ref C_Tally) "__rmul__" = some (some (.ref f_Trmul)))
    (i_Trmul : PySem.W.isFn K (.ref f_Trmul) = true)
    (l_Trmul : K.lookup f_Trmul = some ⟨oc_Trmul, od_Trmul, .func (PySem.W.fnOf "__rmul__" "Tally.__rmul__" (C8.fnArgs s_Trmul) (C8.fnBody s_Trmul) (C8.fnScope s_Trmul) .none kV_Trmul doc_Trmul pm_Trmul an_Trmul cdv_Trmul ct_Trmul), osl_Trmul⟩)
    (cd_Trmul : PySem.W.codeIn K cdv_Trmul "Tally.__rmul__" = true)
    (k_Trmul : PySem.W.keepIn K (.ref f_Trmul) = true)
    (a_Tneg : PySem.W.findIn K (.ref C_Tally) "__neg__" = some (some (.ref f_Tneg)))
    (i_Tneg : PySem.W.isFn K (.ref f_Tneg) = true)
    (l_Tneg : K.lookup f_Tneg = some ⟨oc_Tneg, od_Tneg, .func (PySem.W.fnOf "__neg__" "Tally.__neg__" (C8.fnArgs s_Tneg) (C8.fnBody s_Tneg) (C8.fnScope s_Tneg) .none kV_Tneg doc_Tneg pm_Tneg an_Tneg cdv_Tneg ct_Tneg), osl_Tneg⟩)
    (cd_Tneg : PySem.W.codeIn K cdv_Tneg "Tally.__neg__" = true)
    (k_Tneg : PySem.W.keepIn K (.ref f_Tneg) = true)
    (a_pen : PySem.W.nsIn K mainGlobals "_law_pen" = some (some (.ref f_pen)))
    (l_pen : K.lookup f_pen = some ⟨oc_pen, od_pen, .func (PySem.W.fnOf "_law_pen" "_law_pen" (C8.fnArgs s_pen) (C8.fnBody s_pen) (C8.fnScope s_pen) .none kV_pen doc_pen pm_pen an_pen cdv_pen ct_pen), osl_pen⟩)
    (cd_pen : PySem.W.codeIn K cdv_pen "_law_pen" = true)
    (k_pen : PySem.W.keepIn K (.ref f_pen) = true)
    (a_draw : PySem.W.nsIn K mainGlobals "_law_draw" = some (some (.ref f_draw)))
    (l_draw : K.lookup f_draw = some ⟨oc_draw, od_draw, .func (PySem.W.fnOf "_law_draw" "_law_draw" (C8.fnArgs s_draw) (C8.fnBody s_draw) (C8.fnScope s_draw) .none kV_draw doc_draw pm_draw an_draw cdv_draw ct_draw), osl_draw⟩)
    (cd_draw : PySem.W.codeIn K cdv_draw "_law_draw" = true)
    (k_draw : PySem.W.keepIn K (.ref f_draw) = true)
    (a_pick : PySem.W.nsIn K mainGlobals "_law_pick" = some (some (.ref f_pick)))
    (l_pick : K.lookup f_pick = some ⟨oc_pick, od_pick, .func (PySem.W.fnOf "_law_pick" "_law_pick" (C8.fnArgs s_pick) (C8.fnBody s_pick) (C8.fnScope s_pick) .none kV_pick doc_pick pm_pick an_pick cdv_pick ct_pick), osl_pick⟩)
    (cd_pick : PySem.W.codeIn K cdv_pick "_law_pick" = true)
    (k_pick : PySem.W.keepIn K (.ref f_pick) = true)
    (a_part : PySem.W.nsIn K mainGlobals "_law_part" = some (some (.ref f_part)))
    (l_part : K.lookup f_part = some ⟨oc_part, od_part, .func (PySem.W.fnOf "_law_part" "_law_part" (C8.fnArgs s_part) (C8.fnBody s_part) (C8.fnScope s_part) .none kV_part doc_part pm_part an_part cdv_part ct_part), osl_part⟩)
    (cd_part : PySem.W.codeIn K cdv_part "_law_part" = true)
    (k_part : PySem.W.keepIn K (.ref f_part) = true)
    (a_parts : PySem.W.nsIn K mainGlobals "_law_parts" = some (some (.ref f_parts)))
    (l_parts : K.lookup f_parts = some ⟨oc_parts, od_parts, .func (PySem.W.fnOf "_law_parts" "_law_parts" (C8.fnArgs s_parts) (C8.fnBody s_parts) (C8.fnScope s_parts) .none kV_parts doc_parts pm_parts an_parts cdv_parts ct_parts), osl_parts⟩)
    (cd_parts : PySem.W.codeIn K cdv_parts "_law_parts" = true)
    (k_parts : PySem.W.keepIn K (.ref f_parts) = true)
    (a_worth : PySem.W.nsIn K mainGlobals "_law_worth" = some (some (.ref f_worth)))
    (l_worth : K.lookup f_worth = some ⟨oc_worth, od_worth, .func (PySem.W.fnOf "_law_worth" "_law_worth" (C8.fnArgs s_worth) (C8.fnBody s_worth) (C8.fnScope s_worth) .none kV_worth doc_worth pm_worth an_worth cdv_worth ct_worth), osl_worth⟩)
    (cd_worth : PySem.W.codeIn K cdv_worth "_law_worth" = true)
    (k_worth : PySem.W.keepIn K (.ref f_worth) = true)
    (a_is : PySem.W.nsIn K mainGlobals "_law_is" = some (some (.ref f_is)))
    (l_is : K.lookup f_is = some ⟨oc_is, od_is, .func (PySem.W.fnOf "_law_is" "_law_is" (C8.fnArgs s_is) (C8.fnBody s_is) (C8.fnScope s_is) .none kV_is doc_is pm_is an_is cdv_is ct_is), osl_is⟩)
    (cd_is : PySem.W.codeIn K cdv_is "_law_is" = true)
    (k_is : PySem.W.keepIn K (.ref f_is) = true)
    (a_usual : PySem.W.nsIn K mainGlobals "_law_usual" = some (some (.ref f_usual)))
    (l_usual : K.lookup f_usual = some ⟨oc_usual, od_usual, .func (PySem.W.fnOf "_law_usual" "_law_usual" (C8.fnArgs s_usual) (C8.fnBody s_usual) (C8.fnScope s_usual) .none kV_usual doc_usual pm_usual an_usual cdv_usual ct_usual), osl_usual⟩)
    (cd_usual : PySem.W.codeIn K cdv_usual "_law_usual" = true)
    (k_usual : PySem.W.keepIn K (.ref f_usual) = true)
    (a_label : PySem.W.nsIn K mainGlobals "_law_label" = some (some (.ref f_label)))
    (l_label : K.lookup f_label = some ⟨oc_label, od_label, .func (PySem.W.fnOf "_law_label" "_law_label" (C8.fnArgs s_label) (C8.fnBody s_label) (C8.fnScope s_label) .none kV_label doc_label pm_label an_label cdv_label ct_label), osl_label⟩)
    (cd_label : PySem.W.codeIn K cdv_label "_law_label" = true)
    (k_label : PySem.W.keepIn K (.ref f_label) = true)
    (a_heard : PySem.W.nsIn K mainGlobals "_law_heard" = some (some (.ref f_heard)))
    (l_heard : K.lookup f_heard = some ⟨oc_heard, od_heard, .func (PySem.W.fnOf "_law_heard" "_law_heard" (C8.fnArgs s_heard) (C8.fnBody s_heard) (C8.fnScope s_heard) .none kV_heard doc_heard pm_heard an_heard cdv_heard ct_heard), osl_heard⟩)
    (cd_heard : PySem.W.codeIn K cdv_heard "_law_heard" = true)
    (k_heard : PySem.W.keepIn K (.ref f_heard) = true)
    (a_signs_right : PySem.W.nsIn K mainGlobals "_law_signs_right" = some (some (.ref f_signs_right)))
    (l_signs_right : K.lookup f_signs_right = some ⟨oc_signs_right, od_signs_right, .func (PySem.W.fnOf "_law_signs_right" "_law_signs_right" (C8.fnArgs s_signs_right) (C8.fnBody s_signs_right) (C8.fnScope s_signs_right) .none kV_signs_right doc_signs_right pm_signs_right an_signs_right cdv_signs_right ct_signs_right), osl_signs_right⟩)
    (cd_signs_right : PySem.W.codeIn K cdv_signs_right "_law_signs_right" = true)
    (k_signs_right : PySem.W.keepIn K (.ref f_signs_right) = true)
    (a_law : PySem.W.nsIn K mainGlobals "law" = some (some (.ref f_law)))
    (l_law : K.lookup f_law = some ⟨oc_law, od_law, .func (PySem.W.fnOf "law" "law" (C8.fnArgs s_law) (C8.fnBody s_law) (C8.fnScope s_law) .none kV_law doc_law pm_law an_law cdv_law ct_law), osl_law⟩)
    (cd_law : PySem.W.codeIn K cdv_law "law" = true)
    (k_law : PySem.W.keepIn K (.ref f_law) = true)
    (nf_Tally : nfB K (clL [C_HeadsError, C_BadInput, C_BadName, C_Tally, a_NAMES]) 3 [(.non : Ty), (.int : Ty), (.str : Ty), (.list : Ty), (.tup : Ty), (.own 3 : Ty)] = true)
    (ak_NAMES : PySem.W.nsIn K mainGlobals "NAMES" = some (some (.ref a_NAMES)))
    (lk_NAMES : K.lookup a_NAMES = some ⟨.type "dict", none, .dict #[⟨hh_NAMES0, .str "sum" th_NAMES0, .ref ak_NAMES_0⟩, ⟨hh_NAMES1, .str "union" th_NAMES1, .ref ak_NAMES_1⟩, ⟨hh_NAMES2, .str "both" th_NAMES2, .ref ak_NAMES_2⟩, ⟨hh_NAMES3, .str "lacks" th_NAMES3, .ref ak_NAMES_3⟩, ⟨hh_NAMES4, .str "xor" th_NAMES4, .ref ak_NAMES_4⟩, ⟨hh_NAMES5, .str "join" th_NAMES5, .ref ak_NAMES_5⟩, ⟨hh_NAMES6, .str "left" th_NAMES6, .ref ak_NAMES_6⟩, ⟨hh_NAMES7, .str "right" th_NAMES7, .ref ak_NAMES_7⟩, ⟨hh_NAMES8, .str "none" th_NAMES8, .ref ak_NAMES_8⟩] n_NAMES, #[]⟩)
    (kk_NAMES : PySem.W.KeysLit w.params (#[⟨hh_NAMES0, .str "sum" th_NAMES0, .ref ak_NAMES_0⟩, ⟨hh_NAMES1, .str "union" th_NAMES1, .ref ak_NAMES_1⟩, ⟨hh_NAMES2, .str "both" th_NAMES2, .ref ak_NAMES_2⟩, ⟨hh_NAMES3, .str "lacks" th_NAMES3, .ref ak_NAMES_3⟩, ⟨hh_NAMES4, .str "xor" th_NAMES4, .ref ak_NAMES_4⟩, ⟨hh_NAMES5, .str "join" th_NAMES5, .ref ak_NAMES_5⟩, ⟨hh_NAMES6, .str "left" th_NAMES6, .ref ak_NAMES_6⟩, ⟨hh_NAMES7, .str "right" th_NAMES7, .ref ak_NAMES_7⟩, ⟨hh_NAMES8, .str "none" th_NAMES8, .ref ak_NAMES_8⟩] : Array DictEntry).toList)
    (lo_NAMES : (a_NAMES == sysModules) = false)
    (lk_NAMES_0 : K.lookup ak_NAMES_0 = some ⟨.type "tuple", odk_NAMES_0, .seq #[.int (1) tk_NAMES_0_0, .int (1) tk_NAMES_0_1, .int (0) tk_NAMES_0_2, .int (0) tk_NAMES_0_3] nk_NAMES_0, slk_NAMES_0⟩)
    (lk_NAMES_1 : K.lookup ak_NAMES_1 = some ⟨.type "tuple", odk_NAMES_1, .seq #[.int (1) tk_NAMES_1_0, .int (1) tk_NAMES_1_1, .int (-1) tk_NAMES_1_2, .int (0) tk_NAMES_1_3] nk_NAMES_1, slk_NAMES_1⟩)
    (lk_NAMES_2 : K.lookup ak_NAMES_2 = some ⟨.type "tuple", odk_NAMES_2, .seq #[.int (0) tk_NAMES_2_0, .int (0) tk_NAMES_2_1, .int (1) tk_NAMES_2_2, .int (0) tk_NAMES_2_3] nk_NAMES_2, slk_NAMES_2⟩)
    (lk_NAMES_3 : K.lookup ak_NAMES_3 = some ⟨.type "tuple", odk_NAMES_3, .seq #[.int (1) tk_NAMES_3_0, .int (0) tk_NAMES_3_1, .int (-1) tk_NAMES_3_2, .int (0) tk_NAMES_3_3] nk_NAMES_3, slk_NAMES_3⟩)
    (lk_NAMES_4 : K.lookup ak_NAMES_4 = some ⟨.type "tuple", odk_NAMES_4, .seq #[.int (1) tk_NAMES_4_0, .int (1) tk_NAMES_4_1, .int (-2) tk_NAMES_4_2, .int (0) tk_NAMES_4_3] nk_NAMES_4, slk_NAMES_4⟩)
    (lk_NAMES_5 : K.lookup ak_NAMES_5 = some ⟨.type "tuple", odk_NAMES_5, .seq #[.int (0) tk_NAMES_5_0, .int (0) tk_NAMES_5_1, .int (0) tk_NAMES_5_2, .int (1) tk_NAMES_5_3] nk_NAMES_5, slk_NAMES_5⟩)
    (lk_NAMES_6 : K.lookup ak_NAMES_6 = some ⟨.type "tuple", odk_NAMES_6, .seq #[.int (1) tk_NAMES_6_0, .int (0) tk_NAMES_6_1, .int (0) tk_NAMES_6_2, .int (0) tk_NAMES_6_3] nk_NAMES_6, slk_NAMES_6⟩)
    (lk_NAMES_7 : K.lookup ak_NAMES_7 = some ⟨.type "tuple", odk_NAMES_7, .seq #[.int (0) tk_NAMES_7_0, .int (1) tk_NAMES_7_1, .int (0) tk_NAMES_7_2, .int (0) tk_NAMES_7_3] nk_NAMES_7, slk_NAMES_7⟩)
    (lk_NAMES_8 : K.lookup ak_NAMES_8 = some ⟨.type "tuple", odk_NAMES_8, .seq #[.int (0) tk_NAMES_8_0, .int (0) tk_NAMES_8_1, .int (0) tk_NAMES_8_2, .int (0) tk_NAMES_8_3] nk_NAMES_8, slk_NAMES_8⟩)
    (sf_Tally : PySem.W.selfFirst K C_Tally = true)
    (im_Tally_mul : PySem.W.findIn K (.type "int") "__mul__" = some fo_Tally_mul)
    (ir_Tally_mul : PySem.W.findIn K (.type "int") "__rmul__" = some go_Tally_mul)
    (is_Tally_mul : PySem.W.subIn K (.type "int") (.ref C_Tally) = some false)
    (si_Tally : PySem.W.subIn K (.ref C_Tally) (.type "int") = some false)
    (fni_Tally : PySem.W.fnIn K f_Tcall = true)
    : ∃ fd : FuncData, (∀ (s : Shared) (v : Value), BindsTo s fd ⟨[v], []⟩ [("_law_script", v)]) ∧ ∀ base : Heap, FnG P w K mg base 15 fa fd ["_law_script"] (Mr.spLaw K) := by
  have e := hfa.symm.trans (PySem.W.mg_of X G a_law)
  have ef : fa = f_law := by injection e with e; injection e
  rw [ef]
  have iC_Tally : C8.InsC K C_Tally := insB_ok bC_Tally
  have cl_Tally : Cls K C_Tally := clsB_ok (Bool.and_eq_true_iff.mp bC_Tally).1
  have oe_BadName : OexC K C_BadName := oexB_ok ⟨_, _, _, _, _, _, _, _, _, _, _, _, _, _, _, lC_BadName, rv_BadName⟩ ob_BadName
  have S_XBadName : SupAt P K C_BadName s_XBadName "BadName.__init__" f_XBadName cc_XBadName cda_XBadName := ⟨oe_BadName, z_super, i_XBadName, ⟨_, _, _, _, _, _, _, l_XBadName⟩, cd_XBadName, ⟨_, _, _, _, _, _, lc_XBadName, v2_XBadName, fi_e_XBadName⟩, ⟨_, _, _, le_XBadName⟩, rfl, su_XBadName, iv_XBadName, me_XBadName, opq⟩
  have F_Tinit : C8.Fun K "__init__" "Tally.__init__" s_Tinit f_Tinit (PySem.W.fnOf "__init__" "Tally.__init__" (C8.fnArgs s_Tinit) (C8.fnBody s_Tinit) (C8.fnScope s_Tinit) (.ref D_Tinit) kV_Tinit doc_Tinit pm_Tinit an_Tinit cdv_Tinit ct_Tinit) := ⟨oc_Tinit, od_Tinit, _, _, _, _, _, _, _, _, rfl, l_Tinit, cd_Tinit⟩
  have FD_Tinit : FunD K "__init__" "Tally.__init__" (C8.fnArgs s_Tinit) (C8.fnBody s_Tinit) (C8.fnScope s_Tinit) [.int (0), .int (0)] [] f_Tinit (PySem.W.fnOf "__init__" "Tally.__init__" (C8.fnArgs s_Tinit) (C8.fnBody s_Tinit) (C8.fnScope s_Tinit) (.ref D_Tinit) kV_Tinit doc_Tinit pm_Tinit an_Tinit cdv_Tinit ct_Tinit) := ⟨⟨oc_Tinit, od_Tinit, _, _, _, _, _, _, _, _, rfl, l_Tinit, cd_Tinit, .inr ⟨by simp, D_Tinit, _, _, _, rfl, d_Tinit, rfl, (.cons ⟨_, rfl⟩ (.cons ⟨_, rfl⟩ .nil))⟩, .inl rfl⟩, k_Tinit⟩
  obtain ⟨ds5_Tinit, v5_Tinit, b5_Tinit⟩ := FD_Tinit.binds1 (ps := ["self", "a", "b", "c", "e"]) 5 2 (by simp) rfl fun _ _ _ _ _ _ _ us its hl hi => match us, its, hl, hi with | [_, _, _, _, _], [_, _], _, _ => ⟨_, rfl, rfl⟩
  obtain ⟨ds3_Tinit, v3_Tinit, b3_Tinit⟩ := FD_Tinit.binds1 (ps := ["self", "a", "b", "c", "e"]) 3 0 (by simp) rfl fun _ _ _ _ _ _ _ us its hl hi => match us, its, hl, hi with | [_, _, _], [_, _], _, _ => ⟨_, rfl, rfl⟩
  obtain ⟨kg_Tinit_2_c_e, kb_Tinit_2_c_e⟩ := kbn1 FD_Tinit (ps := ["self", "a", "b", "c", "e"]) 3 ["c", "e"] (fun xs zs ys => [xs.getD 0 .none, xs.getD 1 .none, xs.getD 2 .none, ys.getD 0 .none, ys.getD 1 .none]) (fun xs ys => [xs.getD 0 .non, xs.getD 1 .non, xs.getD 2 .non, ys.getD 0 .non, ys.getD 1 .non]) (by simp) (fun _ _ _ _ _ _ _ us its ws h1 h2 h3 => match us, its, ws, h1, h2, h3 with | [_, _, _], [_, _], [_, _], _, _, _ => ⟨_, rfl, rfl⟩) (fun r1 r3 r2 => (.cons (valsD 0 r1) (.cons (valsD 1 r1) (.cons (valsD 2 r1) (.cons (valsD 0 r2) (.cons (valsD 1 r2) .nil))))))
  obtain ⟨kg_Tinit_0_a_b_c, kb_Tinit_0_a_b_c⟩ := kbn1 FD_Tinit (ps := ["self", "a", "b", "c", "e"]) 1 ["a", "b", "c"] (fun xs zs ys => [xs.getD 0 .none, ys.getD 0 .none, ys.getD 1 .none, ys.getD 2 .none, zs.getD 1 .none]) (fun xs ys => [xs.getD 0 .non, ys.getD 0 .non, ys.getD 1 .non, ys.getD 2 .non, .int (0)]) (by simp) (fun _ _ _ _ _ _ _ us its ws h1 h2 h3 => match us, its, ws, h1, h2, h3 with | [_], [_, _], [_, _, _], _, _, _ => ⟨_, rfl, rfl⟩) (fun r1 r3 r2 => (.cons (valsD 0 r1) (.cons (valsD 0 r2) (.cons (valsD 1 r2) (.cons (valsD 2 r2) (.cons (valsD 1 r3) .nil))))))
  have F_Tusual : C8.Fun K "usual" "Tally.usual" s_Tusual f_Tusual (PySem.W.fnOf "usual" "Tally.usual" (C8.fnArgs s_Tusual) (C8.fnBody s_Tusual) (C8.fnScope s_Tusual) .none kV_Tusual doc_Tusual pm_Tusual an_Tusual cdv_Tusual ct_Tusual) := ⟨oc_Tusual, od_Tusual, _, _, _, _, _, _, _, _, rfl, l_Tusual, cd_Tusual⟩
  have b1_Tusual := F_Tusual.binds rfl (ps := ["name"]) fun _ _ _ _ _ _ us hl => match us, hl with | [_], _ => rfl
  have F_Tlabel : C8.Fun K "label" "Tally.label" s_Tlabel f_Tlabel (PySem.W.fnOf "label" "Tally.label" (C8.fnArgs s_Tlabel) (C8.fnBody s_Tlabel) (C8.fnScope s_Tlabel) .none kV_Tlabel doc_Tlabel pm_Tlabel an_Tlabel cdv_Tlabel ct_Tlabel) := ⟨oc_Tlabel, od_Tlabel, _, _, _, _, _, _, _, _, rfl, l_Tlabel, cd_Tlabel⟩
  have b1_Tlabel := F_Tlabel.binds rfl (ps := ["self"]) fun _ _ _ _ _ _ us hl => match us, hl with | [_], _ => rfl
  have F_Tcall : C8.Fun K "__call__" "Tally.__call__" s_Tcall f_Tcall (PySem.W.fnOf "__call__" "Tally.__call__" (C8.fnArgs s_Tcall) (C8.fnBody s_Tcall) (C8.fnScope s_Tcall) .none kV_Tcall doc_Tcall pm_Tcall an_Tcall cdv_Tcall ct_Tcall) := ⟨oc_Tcall, od_Tcall, _, _, _, _, _, _, _, _, rfl, l_Tcall, cd_Tcall⟩
  have b3_Tcall := F_Tcall.binds rfl (ps := ["self", "m", "n"]) fun _ _ _ _ _ _ us hl => match us, hl with | [_, _, _], _ => rfl
  have F_Teq : C8.Fun K "__eq__" "Tally.__eq__" s_Teq f_Teq (PySem.W.fnOf "__eq__" "Tally.__eq__" (C8.fnArgs s_Teq) (C8.fnBody s_Teq) (C8.fnScope s_Teq) .none kV_Teq doc_Teq pm_Teq an_Teq cdv_Teq ct_Teq) := ⟨oc_Teq, od_Teq, _, _, _, _, _, _, _, _, rfl, l_Teq, cd_Teq⟩
  have b2_Teq := F_Teq.binds rfl (ps := ["self", "other"]) fun _ _ _ _ _ _ us hl => match us, hl with | [_, _], _ => rfl
  have F_Tadd : C8.Fun K "__add__" "Tally.__add__" s_Tadd f_Tadd (PySem.W.fnOf "__add__" "Tally.__add__" (C8.fnArgs s_Tadd) (C8.fnBody s_Tadd) (C8.fnScope s_Tadd) .none kV_Tadd doc_Tadd pm_Tadd an_Tadd cdv_Tadd ct_Tadd) := ⟨oc_Tadd, od_Tadd, _, _, _, _, _, _, _, _, rfl, l_Tadd, cd_Tadd⟩
  have b2_Tadd := F_Tadd.binds rfl (ps := ["self", "other"]) fun _ _ _ _ _ _ us hl => match us, hl with | [_, _], _ => rfl
  have F_Tsub : C8.Fun K "__sub__" "Tally.__sub__" s_Tsub f_Tsub (PySem.W.fnOf "__sub__" "Tally.__sub__" (C8.fnArgs s_Tsub) (C8.fnBody s_Tsub) (C8.fnScope s_Tsub) .none kV_Tsub doc_Tsub pm_Tsub an_Tsub cdv_Tsub ct_Tsub) := ⟨oc_Tsub, od_Tsub, _, _, _, _, _, _, _, _, rfl, l_Tsub, cd_Tsub⟩
  have b2_Tsub := F_Tsub.binds rfl (ps := ["self", "other"]) fun _ _ _ _ _ _ us hl => match us, hl with | [_, _], _ => rfl
  have F_Tmul : C8.Fun K "__mul__" "Tally.__mul__" s_Tmul f_Tmul (PySem.W.fnOf "__mul__" "Tally.__mul__" (C8.fnArgs s_Tmul) (C8.fnBody s_Tmul) (C8.fnScope s_Tmul) .none kV_Tmul doc_Tmul pm_Tmul an_Tmul cdv_Tmul ct_Tmul) := ⟨oc_Tmul, od_Tmul, _, _, _, _, _, _, _, _, rfl, l_Tmul, cd_Tmul⟩
  have b2_Tmul := F_Tmul.binds rfl (ps := ["self", "other"]) fun _ _ _ _ _ _ us hl => match us, hl with | [_, _], _ => rfl
  have F_Trmul : C8.Fun K "__rmul__" "Tally.__rmul__" s_Trmul f_Trmul (PySem.W.fnOf "__rmul__" "Tally.__rmul__" (C8.fnArgs s_Trmul) (C8.fnBody s_Trmul) (C8.fnScope s_Trmul) .none kV_Trmul doc_Trmul pm_Trmul an_Trmul cdv_Trmul ct_Trmul) := ⟨oc_Trmul, od_Trmul, _, _, _, _, _, _, _, _, rfl, l_Trmul, cd_Trmul⟩
  have b2_Trmul := F_Trmul.binds rfl (ps := ["self", "other"]) fun _ _ _ _ _ _ us hl => match us, hl with | [_, _], _ => rfl
  have F_Tneg : C8.Fun K "__neg__" "Tally.__neg__" s_Tneg f_Tneg (PySem.W.fnOf "__neg__" "Tally.__neg__" (C8.fnArgs s_Tneg) (C8.fnBody s_Tneg) (C8.fnScope s_Tneg) .none kV_Tneg doc_Tneg pm_Tneg an_Tneg cdv_Tneg ct_Tneg) := ⟨oc_Tneg, od_Tneg, _, _, _, _, _, _, _, _, rfl, l_Tneg, cd_Tneg⟩
  have b1_Tneg := F_Tneg.binds rfl (ps := ["self"]) fun _ _ _ _ _ _ us hl => match us, hl with | [_], _ => rfl
  have F_pen : C8.Fun K "_law_pen" "_law_pen" s_pen f_pen (PySem.W.fnOf "_law_pen" "_law_pen" (C8.fnArgs s_pen) (C8.fnBody s_pen) (C8.fnScope s_pen) .none kV_pen doc_pen pm_pen an_pen cdv_pen ct_pen) := ⟨oc_pen, od_pen, _, _, _, _, _, _, _, _, rfl, l_pen, cd_pen⟩
  have b1_pen := F_pen.binds rfl (ps := ["_law_script"]) fun _ _ _ _ _ _ us hl => match us, hl with | [_], _ => rfl
  have F_draw : C8.Fun K "_law_draw" "_law_draw" s_draw f_draw (PySem.W.fnOf "_law_draw" "_law_draw" (C8.fnArgs s_draw) (C8.fnBody s_draw) (C8.fnScope s_draw) .none kV_draw doc_draw pm_draw an_draw cdv_draw ct_draw) := ⟨oc_draw, od_draw, _, _, _, _, _, _, _, _, rfl, l_draw, cd_draw⟩
  have b2_draw := F_draw.binds rfl (ps := ["_law_pen_here", "_law_many"]) fun _ _ _ _ _ _ us hl => match us, hl with | [_, _], _ => rfl
  have F_pick : C8.Fun K "_law_pick" "_law_pick" s_pick f_pick (PySem.W.fnOf "_law_pick" "_law_pick" (C8.fnArgs s_pick) (C8.fnBody s_pick) (C8.fnScope s_pick) .none kV_pick doc_pick pm_pick an_pick cdv_pick ct_pick) := ⟨oc_pick, od_pick, _, _, _, _, _, _, _, _, rfl, l_pick, cd_pick⟩
  have b2_pick := F_pick.binds rfl (ps := ["_law_pen_here", "_law_some"]) fun _ _ _ _ _ _ us hl => match us, hl with | [_, _], _ => rfl
  have F_part : C8.Fun K "_law_part" "_law_part" s_part f_part (PySem.W.fnOf "_law_part" "_law_part" (C8.fnArgs s_part) (C8.fnBody s_part) (C8.fnScope s_part) .none kV_part doc_part pm_part an_part cdv_part ct_part) := ⟨oc_part, od_part, _, _, _, _, _, _, _, _, rfl, l_part, cd_part⟩
  have b1_part := F_part.binds rfl (ps := ["_law_pen_here"]) fun _ _ _ _ _ _ us hl => match us, hl with | [_], _ => rfl
  have F_parts : C8.Fun K "_law_parts" "_law_parts" s_parts f_parts (PySem.W.fnOf "_law_parts" "_law_parts" (C8.fnArgs s_parts) (C8.fnBody s_parts) (C8.fnScope s_parts) .none kV_parts doc_parts pm_parts an_parts cdv_parts ct_parts) := ⟨oc_parts, od_parts, _, _, _, _, _, _, _, _, rfl, l_parts, cd_parts⟩
  have b1_parts := F_parts.binds rfl (ps := ["_law_pen_here"]) fun _ _ _ _ _ _ us hl => match us, hl with | [_], _ => rfl
  have F_worth : C8.Fun K "_law_worth" "_law_worth" s_worth f_worth (PySem.W.fnOf "_law_worth" "_law_worth" (C8.fnArgs s_worth) (C8.fnBody s_worth) (C8.fnScope s_worth) .none kV_worth doc_worth pm_worth an_worth cdv_worth ct_worth) := ⟨oc_worth, od_worth, _, _, _, _, _, _, _, _, rfl, l_worth, cd_worth⟩
  have b3_worth := F_worth.binds rfl (ps := ["_law_parts_here", "_law_m", "_law_n"]) fun _ _ _ _ _ _ us hl => match us, hl with | [_, _, _], _ => rfl
  have F_is : C8.Fun K "_law_is" "_law_is" s_is f_is (PySem.W.fnOf "_law_is" "_law_is" (C8.fnArgs s_is) (C8.fnBody s_is) (C8.fnScope s_is) .none kV_is doc_is pm_is an_is cdv_is ct_is) := ⟨oc_is, od_is, _, _, _, _, _, _, _, _, rfl, l_is, cd_is⟩
  have b3_is := F_is.binds rfl (ps := ["_law_tally", "_law_parts_here", "_law_pen_here"]) fun _ _ _ _ _ _ us hl => match us, hl with | [_, _, _], _ => rfl
  have F_usual : C8.Fun K "_law_usual" "_law_usual" s_usual f_usual (PySem.W.fnOf "_law_usual" "_law_usual" (C8.fnArgs s_usual) (C8.fnBody s_usual) (C8.fnScope s_usual) .none kV_usual doc_usual pm_usual an_usual cdv_usual ct_usual) := ⟨oc_usual, od_usual, _, _, _, _, _, _, _, _, rfl, l_usual, cd_usual⟩
  have b0_usual := F_usual.binds rfl (ps := []) fun _ _ _ _ _ _ us hl => match us, hl with | [], _ => rfl
  have F_label : C8.Fun K "_law_label" "_law_label" s_label f_label (PySem.W.fnOf "_law_label" "_law_label" (C8.fnArgs s_label) (C8.fnBody s_label) (C8.fnScope s_label) .none kV_label doc_label pm_label an_label cdv_label ct_label) := ⟨oc_label, od_label, _, _, _, _, _, _, _, _, rfl, l_label, cd_label⟩
  have b1_label := F_label.binds rfl (ps := ["_law_parts_here"]) fun _ _ _ _ _ _ us hl => match us, hl with | [_], _ => rfl
  have F_heard : C8.Fun K "_law_heard" "_law_heard" s_heard f_heard (PySem.W.fnOf "_law_heard" "_law_heard" (C8.fnArgs s_heard) (C8.fnBody s_heard) (C8.fnScope s_heard) .none kV_heard doc_heard pm_heard an_heard cdv_heard ct_heard) := ⟨oc_heard, od_heard, _, _, _, _, _, _, _, _, rfl, l_heard, cd_heard⟩
  have b1_heard := F_heard.binds rfl (ps := ["_law_worth_here"]) fun _ _ _ _ _ _ us hl => match us, hl with | [_], _ => rfl
  have F_signs_right : C8.Fun K "_law_signs_right" "_law_signs_right" s_signs_right f_signs_right (PySem.W.fnOf "_law_signs_right" "_law_signs_right" (C8.fnArgs s_signs_right) (C8.fnBody s_signs_right) (C8.fnScope s_signs_right) .none kV_signs_right doc_signs_right pm_signs_right an_signs_right cdv_signs_right ct_signs_right) := ⟨oc_signs_right, od_signs_right, _, _, _, _, _, _, _, _, rfl, l_signs_right, cd_signs_right⟩
  have b3_signs_right := F_signs_right.binds rfl (ps := ["_law_pen_here", "_law_first", "_law_second"]) fun _ _ _ _ _ _ us hl => match us, hl with | [_, _, _], _ => rfl
  have F_law : C8.Fun K "law" "law" s_law f_law (PySem.W.fnOf "law" "law" (C8.fnArgs s_law) (C8.fnBody s_law) (C8.fnScope s_law) .none kV_law doc_law pm_law an_law cdv_law ct_law) := ⟨oc_law, od_law, _, _, _, _, _, _, _, _, rfl, l_law, cd_law⟩
  have b1_law := F_law.binds rfl (ps := ["_law_script"]) fun _ _ _ _ _ _ us hl => match us, hl with | [_], _ => rfl
  have T : Txt K w mg (clL [C_HeadsError, C_BadInput, C_BadName, C_Tally, a_NAMES]) := {
    n_len := PySem.W.mg_none_of X G z_len,
    n_abs := PySem.W.mg_none_of X G z_abs,
    n_int := PySem.W.mg_none_of X G z_int,
    n_list := PySem.W.mg_none_of X G z_list,
    n_tuple := PySem.W.mg_none_of X G z_tuple,
    n_repr := PySem.W.mg_none_of X G z_repr,
    n_str := PySem.W.mg_none_of X G z_str,
    n_range := PySem.W.mg_none_of X G z_range,
    n_isinstance := PySem.W.mg_none_of X G z_isinstance,
    n_super := PySem.W.mg_none_of X G z_super,
    n_ValueError := PySem.W.mg_none_of X G z_ValueError,
    mx_HeadsError := PySem.W.mg_of X G aC_HeadsError,
    mx_BadInput := PySem.W.mg_of X G aC_BadInput,
    mx_BadName := PySem.W.mg_of X G aC_BadName,
    mx_Tally := PySem.W.mg_of X G aC_Tally,
    fld_a := (all_cons ⟨cl_Tally, na_Tally_a⟩ all_nil),
    fld_b := (all_cons ⟨cl_Tally, na_Tally_b⟩ all_nil),
    fld_c := (all_cons ⟨cl_Tally, na_Tally_c⟩ all_nil),
    fld_e := (all_cons ⟨cl_Tally, na_Tally_e⟩ all_nil),
    oex_BadName := oe_BadName,
    xf_BadName := excB_xf eb_BadName,
    na_BadName_name := na_BadName_name,
    x_BadName := xc_BadName S_XBadName na_BadName_name,
    em_HeadsError := exm_all em_HeadsError,
    wc := ⟨kit_all kit, (all_cons iC_Tally all_nil), (all_cons (excB_ok eb_BadName) all_nil)⟩,
    d_Tinit := ⟨_, _, _, ⟨mkC_Tally, a_Tinit, i_Tinit, kcC_Tally⟩, F_Tinit, PySem.W.mg_of X G aC_Tally, b5_Tinit, v5_Tinit⟩,
    d2_Tinit := ⟨_, _, _, ⟨mkC_Tally, a_Tinit, i_Tinit, kcC_Tally⟩, F_Tinit, PySem.W.mg_of X G aC_Tally, b3_Tinit, v3_Tinit⟩,
    dk_Tinit_2_c_e := ⟨_, _, _, ⟨mkC_Tally, a_Tinit, i_Tinit, kcC_Tally⟩, F_Tinit, PySem.W.mg_of X G aC_Tally, kb_Tinit_2_c_e⟩,
    dk_Tinit_0_a_b_c := ⟨_, _, _, ⟨mkC_Tally, a_Tinit, i_Tinit, kcC_Tally⟩, F_Tinit, PySem.W.mg_of X G aC_Tally, kb_Tinit_0_a_b_c⟩,
    d_Tusual := ⟨_, _, _, _, _, ⟨rd_Tusual, ga_Tusual, at_Tusual, ⟨_, rc_Tusual⟩, k_Tusual⟩, F_Tusual, b1_Tusual, .nil⟩,
    d_Tlabel := ⟨_, _, _, cl_Tally, ⟨at_Tlabel, pg_Tlabel, pt_Tlabel, ⟨_, rc_Tlabel⟩⟩, F_Tlabel, b1_Tlabel⟩,
    d_Tcall := ⟨_, _, _, cl_Tally, ⟨a_Tcall, i_Tcall, k_Tcall⟩, F_Tcall, b3_Tcall, .nil⟩,
    d_Teq := ⟨_, _, _, cl_Tally, ⟨a_Teq, i_Teq, k_Teq⟩, F_Teq, b2_Teq, .nil⟩,
    d_Tadd := ⟨_, _, _, cl_Tally, ⟨a_Tadd, i_Tadd, k_Tadd⟩, F_Tadd, b2_Tadd, .nil⟩,
    d_Tsub := ⟨_, _, _, cl_Tally, ⟨a_Tsub, i_Tsub, k_Tsub⟩, F_Tsub, b2_Tsub, .nil⟩,
    d_Tmul := ⟨_, _, _, cl_Tally, ⟨a_Tmul, i_Tmul, k_Tmul⟩, F_Tmul, b2_Tmul, .nil⟩,
    d_Trmul := ⟨_, _, _, cl_Tally, ⟨a_Trmul, i_Trmul, k_Trmul⟩, F_Trmul, b2_Trmul, .nil⟩,
    d_Tneg := ⟨_, _, _, cl_Tally, ⟨a_Tneg, i_Tneg, k_Tneg⟩, F_Tneg, b1_Tneg, .nil⟩,
    d_pen := ⟨_, _, _, F_pen, PySem.W.mg_of X G a_pen, k_pen, b1_pen, .nil⟩,
    d_draw := ⟨_, _, _, F_draw, PySem.W.mg_of X G a_draw, k_draw, b2_draw, .nil⟩,
    d_pick := ⟨_, _, _, F_pick, PySem.W.mg_of X G a_pick, k_pick, b2_pick, .nil⟩,
    d_part := ⟨_, _, _, F_part, PySem.W.mg_of X G a_part, k_part, b1_part, .nil⟩,
    d_parts := ⟨_, _, _, F_parts, PySem.W.mg_of X G a_parts, k_parts, b1_parts, .nil⟩,
    d_worth := ⟨_, _, _, F_worth, PySem.W.mg_of X G a_worth, k_worth, b3_worth, .nil⟩,
    d_is := ⟨_, _, _, F_is, PySem.W.mg_of X G a_is, k_is, b3_is, .nil⟩,
    d_usual := ⟨_, _, _, F_usual, PySem.W.mg_of X G a_usual, k_usual, b0_usual, .nil⟩,
    d_label := ⟨_, _, _, F_label, PySem.W.mg_of X G a_label, k_label, b1_label, .nil⟩,
    d_heard := ⟨_, _, _, F_heard, PySem.W.mg_of X G a_heard, k_heard, b1_heard, .nil⟩,
    d_signs_right := ⟨_, _, _, F_signs_right, PySem.W.mg_of X G a_signs_right, k_signs_right, b3_signs_right, .nil⟩,
    d_law := ⟨_, _, _, F_law, PySem.W.mg_of X G a_law, k_law, b1_law, .nil⟩,
    nf_Tally := nf_all nf_Tally,
    g_NAMES := ⟨_, PySem.W.mg_of X G ak_NAMES, rfl⟩,
    kd_NAMES := ⟨_, _, ⟨lk_NAMES, kk_NAMES, lo_NAMES⟩, (.cons ⟨_, rfl⟩ ⟨.ref ak_NAMES_0, rfl, fun _ _ _ => (.tupK (vs := [.int (1), .int (1), .int (0), .int (0)]) lk_NAMES_0 rfl rfl (show 4 ≤ sizeLine by decide) (.cons ⟨_, rfl⟩ (.cons ⟨_, rfl⟩ (.cons ⟨_, rfl⟩ (.cons ⟨_, rfl⟩ .nil)))) (.cons (.int _) (.cons (.int _) (.cons (.int _) (.cons (.int _) .nil)))))⟩ (.cons ⟨_, rfl⟩ ⟨.ref ak_NAMES_1, rfl, fun _ _ _ => (.tupK (vs := [.int (1), .int (1), .int (-1), .int (0)]) lk_NAMES_1 rfl rfl (show 4 ≤ sizeLine by decide) (.cons ⟨_, rfl⟩ (.cons ⟨_, rfl⟩ (.cons ⟨_, rfl⟩ (.cons ⟨_, rfl⟩ .nil)))) (.cons (.int _) (.cons (.int _) (.cons (.int _) (.cons (.int _) .nil)))))⟩ (.cons ⟨_, rfl⟩ ⟨.ref ak_NAMES_2, rfl, fun _ _ _ => (.tupK (vs := [.int (0), .int (0), .int (1), .int (0)]) lk_NAMES_2 rfl rfl (show 4 ≤ sizeLine by decide) (.cons ⟨_, rfl⟩ (.cons ⟨_, rfl⟩ (.cons ⟨_, rfl⟩ (.cons ⟨_, rfl⟩ .nil)))) (.cons (.int _) (.cons (.int _) (.cons (.int _) (.cons (.int _) .nil)))))⟩ (.cons ⟨_, rfl⟩ ⟨.ref ak_NAMES_3, rfl, fun _ _ _ => (.tupK (vs := [.int (1), .int (0), .int (-1), .int (0)]) lk_NAMES_3 rfl rfl (show 4 ≤ sizeLine by decide) (.cons ⟨_, rfl⟩ (.cons ⟨_, rfl⟩ (.cons ⟨_, rfl⟩ (.cons ⟨_, rfl⟩ .nil)))) (.cons (.int _) (.cons (.int _) (.cons (.int _) (.cons (.int _) .nil)))))⟩ (.cons ⟨_, rfl⟩ ⟨.ref ak_NAMES_4, rfl, fun _ _ _ => (.tupK (vs := [.int (1), .int (1), .int (-2), .int (0)]) lk_NAMES_4 rfl rfl (show 4 ≤ sizeLine by decide) (.cons ⟨_, rfl⟩ (.cons ⟨_, rfl⟩ (.cons ⟨_, rfl⟩ (.cons ⟨_, rfl⟩ .nil)))) (.cons (.int _) (.cons (.int _) (.cons (.int _) (.cons (.int _) .nil)))))⟩ (.cons ⟨_, rfl⟩ ⟨.ref ak_NAMES_5, rfl, fun _ _ _ => (.tupK (vs := [.int (0), .int (0), .int (0), .int (1)]) lk_NAMES_5 rfl rfl (show 4 ≤ sizeLine by decide) (.cons ⟨_, rfl⟩ (.cons ⟨_, rfl⟩ (.cons ⟨_, rfl⟩ (.cons ⟨_, rfl⟩ .nil)))) (.cons (.int _) (.cons (.int _) (.cons (.int _) (.cons (.int _) .nil)))))⟩ (.cons ⟨_, rfl⟩ ⟨.ref ak_NAMES_6, rfl, fun _ _ _ => (.tupK (vs := [.int (1), .int (0), .int (0), .int (0)]) lk_NAMES_6 rfl rfl (show 4 ≤ sizeLine by decide) (.cons ⟨_, rfl⟩ (.cons ⟨_, rfl⟩ (.cons ⟨_, rfl⟩ (.cons ⟨_, rfl⟩ .nil)))) (.cons (.int _) (.cons (.int _) (.cons (.int _) (.cons (.int _) .nil)))))⟩ (.cons ⟨_, rfl⟩ ⟨.ref ak_NAMES_7, rfl, fun _ _ _ => (.tupK (vs := [.int (0), .int (1), .int (0), .int (0)]) lk_NAMES_7 rfl rfl (show 4 ≤ sizeLine by decide) (.cons ⟨_, rfl⟩ (.cons ⟨_, rfl⟩ (.cons ⟨_, rfl⟩ (.cons ⟨_, rfl⟩ .nil)))) (.cons (.int _) (.cons (.int _) (.cons (.int _) (.cons (.int _) .nil)))))⟩ (.cons ⟨_, rfl⟩ ⟨.ref ak_NAMES_8, rfl, fun _ _ _ => (.tupK (vs := [.int (0), .int (0), .int (0), .int (0)]) lk_NAMES_8 rfl rfl (show 4 ≤ sizeLine by decide) (.cons ⟨_, rfl⟩ (.cons ⟨_, rfl⟩ (.cons ⟨_, rfl⟩ (.cons ⟨_, rfl⟩ .nil)))) (.cons (.int _) (.cons (.int _) (.cons (.int _) (.cons (.int _) .nil)))))⟩ .nil)))))))))⟩,
    sf_Tally := sf_Tally,
    ot_Tally_mul := ⟨⟨_, a_Trmul, .inr ⟨_, rfl⟩⟩, ⟨_, im_Tally_mul⟩, ⟨_, ir_Tally_mul⟩, is_Tally_mul⟩,
    ml_Tally := ⟨_, a_Tmul⟩,
    si_Tally := si_Tally,
    fi_Tally := fun f e => by have z := a_Tcall.symm.trans e; injection z with z; injection z with z; injection z with z; subst z; exact fni_Tally }
  refine ⟨PySem.W.fnOf "law" "law" (C8.fnArgs s_law) (C8.fnBody s_law) (C8.fnScope s_law) .none kV_law doc_law pm_law an_law cdv_law ct_law, fun s v => .of_eq rfl, fun base => ?_⟩
  exact fn_law (base := base) T F_law
end M64
open PySem PySem.W PyProof.Rows in
set_option maxRecDepth 100000 in
set_option maxHeartbeats 0 in
theorem PySem.Challenge.cw_twoheads_k64_tallies_holds : PySem.Challenge.rw_twoheads_k64_tallies.Holds := by
  w_on; o_law; k_head; (case hw => w_witness2)
  k_fill
  refine Tw.lawG (l := PySem.Challenge.rw_twoheads_k64_tallies) (sp := Mr.spLaw) (k := 15) (x := "_law_script") (n := 63) rfl (by decide) rfl (Tw.rm_caller (by decide) (by decide)) (fun w h Y => PySem.W.kIn_of Y) ?F (fun K H a ns hl hS => ⟨a, ns, rfl, hS, hl, fun _ => rfl⟩)
  case F =>
    intro w mg fa h KX G hmg
    refine' M64.all_mk KX G hmg ?z_len ?z_abs ?z_int ?z_list ?z_tuple ?z_repr ?z_str ?z_range ?z_isinstance ?z_super ?z_ValueError ?aC_HeadsError ?aC_BadInput ?aC_BadName ?aC_Tally ?bC_Tally ?na_Tally_a ?na_Tally_b ?na_Tally_c ?na_Tally_e ?lC_BadName ?rv_BadName ?ob_BadName ?eb_BadName ?na_BadName_name ?i_XBadName ?l_XBadName ?cd_XBadName ?lc_XBadName ?v2_XBadName ?fi_e_XBadName ?le_XBadName ?su_XBadName ?iv_XBadName ?me_XBadName ?opq ?em_HeadsError ?kit ?a_Tinit ?i_Tinit ?l_Tinit ?cd_Tinit ?k_Tinit ?d_Tinit ?mkC_Tally ?kcC_Tally ?rd_Tusual ?ga_Tusual ?at_Tusual ?rc_Tusual ?l_Tusual ?cd_Tusual ?k_Tusual ?at_Tlabel ?pg_Tlabel ?pt_Tlabel ?rc_Tlabel ?l_Tlabel ?cd_Tlabel ?k_Tlabel ?a_Tcall ?i_Tcall ?l_Tcall ?cd_Tcall ?k_Tcall ?a_Teq ?i_Teq ?l_Teq ?cd_Teq ?k_Teq ?a_Tadd ?i_Tadd ?l_Tadd ?cd_Tadd ?k_Tadd ?a_Tsub ?i_Tsub ?l_Tsub ?cd_Tsub ?k_Tsub ?a_Tmul ?i_Tmul ?l_Tmul ?cd_Tmul ?k_Tmul ?a_Trmul ?i_Trmul ?l_Trmul ?cd_Trmul ?k_Trmul ?a_Tneg ?i_Tneg ?l_Tneg ?cd_Tneg ?k_Tneg ?a_pen ?l_pen ?cd_pen ?k_pen ?a_draw ?l_draw ?cd_draw ?k_draw ?a_pick ?l_pick ?cd_pick ?k_pick ?a_part ?l_part ?cd_part ?k_part ?a_parts ?l_parts ?cd_parts ?k_parts ?a_worth ?l_worth ?cd_worth ?k_worth ?a_is ?l_is ?cd_is ?k_is ?a_usual ?l_usual ?cd_usual ?k_usual ?a_label ?l_label ?cd_label ?k_label ?a_heard ?l_heard ?cd_heard ?k_heard ?a_signs_right ?l_signs_right ?cd_signs_right ?k_signs_right ?a_law ?l_law ?cd_law ?k_law ?nf_Tally ?ak_NAMES ?lk_NAMES ?kk_NAMES ?lo_NAMES ?lk_NAMES_0 ?lk_NAMES_1 ?lk_NAMES_2 ?lk_NAMES_3 ?lk_NAMES_4 ?lk_NAMES_5 ?lk_NAMES_6 ?lk_NAMES_7 ?lk_NAMES_8 ?sf_Tally ?im_Tally_mul ?ir_Tally_mul ?is_Tally_mul ?si_Tally ?fni_Tally
    (case z_len => k_is)
    (case z_abs => k_is)
    (case z_int => k_is)
    (case z_list => k_is)
    (case z_tuple => k_is)
    (case z_repr => k_is)
    (case z_str => k_is)
    (case z_range => k_is)
    (case z_isinstance => k_is)
    (case z_super => k_is)
    (case z_ValueError => k_is)
    (case aC_HeadsError => k_is)
    (case aC_BadInput => k_is)
    (case aC_BadName => k_is)
    (case aC_Tally => k_is)
    (case bC_Tally => kernel_rfl)
    (case na_Tally_a => k_is)
    (case na_Tally_b => k_is)
    (case na_Tally_c => k_is)
    (case na_Tally_e => k_is)
    (case lC_BadName => k_is)
    (case rv_BadName => first | rfl | decide)
    (case ob_BadName => kernel_rfl)
    (case eb_BadName => kernel_rfl)
    (case na_BadName_name => k_is)
    (case i_XBadName => k_is)
    (case l_XBadName => k_is)
    (case cd_XBadName => k_is)
    (case lc_XBadName => k_is)
    (case v2_XBadName => rfl)
    (case fi_e_XBadName => first | rfl | decide +kernel)
    (case le_XBadName => k_is)
    (case su_XBadName => kernel_rfl)
    (case iv_XBadName => k_is)
    (case me_XBadName => k_is)
    (case opq => k_is)
    (case em_HeadsError => kernel_rfl)
    (case kit => kernel_rfl)
    (case a_Tinit => k_is)
    (case i_Tinit => k_is)
    (case l_Tinit => k_is)
    (case cd_Tinit => k_is)
    (case k_Tinit => k_is)
    (case d_Tinit => k_is)
    (case mkC_Tally => k_is)
    (case kcC_Tally => k_is)
    (case rd_Tusual => k_is)
    (case ga_Tusual => k_is)
    (case at_Tusual => k_is)
    (case rc_Tusual => k_is)
    (case l_Tusual => k_is)
    (case cd_Tusual => k_is)
    (case k_Tusual => k_is)
    (case at_Tlabel => k_is)
    (case pg_Tlabel => k_is)
    (case pt_Tlabel => k_is)
    (case rc_Tlabel => k_is)
    (case l_Tlabel => k_is)
    (case cd_Tlabel => k_is)
    (case k_Tlabel => k_is)
    (case a_Tcall => k_is)
    (case i_Tcall => k_is)
    (case l_Tcall => k_is)
    (case cd_Tcall => k_is)
    (case k_Tcall => k_is)
    (case a_Teq => k_is)
    (case i_Teq => k_is)
    (case l_Teq => k_is)
    (case cd_Teq => k_is)
    (case k_Teq => k_is)
    (case a_Tadd => k_is)
    (case i_Tadd => k_is)
    (case l_Tadd => k_is)
    (case cd_Tadd => k_is)
    (case k_Tadd => k_is)
    (case a_Tsub => k_is)
    (case i_Tsub => k_is)
    (case l_Tsub => k_is)
    (case cd_Tsub => k_is)
    (case k_Tsub => k_is)
    (case a_Tmul => k_is)
    (case i_Tmul => k_is)
    (case l_Tmul => k_is)
    (case cd_Tmul => k_is)
    (case k_Tmul => k_is)
    (case a_Trmul => k_is)
    (case i_Trmul => k_is)
    (case l_Trmul => k_is)
    (case cd_Trmul => k_is)
    (case k_Trmul => k_is)
    (case a_Tneg => k_is)
    (case i_Tneg => k_is)
    (case l_Tneg => k_is)
    (case cd_Tneg => k_is)
    (case k_Tneg => k_is)
    (case a_pen => k_is)
    (case l_pen => k_is)
    (case cd_pen => k_is)
    (case k_pen => k_is)
    (case a_draw => k_is)
    (case l_draw => k_is)
    (case cd_draw => k_is)
    (case k_draw => k_is)
    (case a_pick => k_is)
    (case l_pick => k_is)
    (case cd_pick => k_is)
    (case k_pick => k_is)
    (case a_part => k_is)
    (case l_part => k_is)
    (case cd_part => k_is)
    (case k_part => k_is)
    (case a_parts => k_is)
    (case l_parts => k_is)
    (case cd_parts => k_is)
    (case k_parts => k_is)
    (case a_worth => k_is)
    (case l_worth => k_is)
    (case cd_worth => k_is)
    (case k_worth => k_is)
    (case a_is => k_is)
    (case l_is => k_is)
    (case cd_is => k_is)
    (case k_is => k_is)
    (case a_usual => k_is)
    (case l_usual => k_is)
    (case cd_usual => k_is)
    (case k_usual => k_is)
    (case a_label => k_is)
    (case l_label => k_is)
    (case cd_label => k_is)
    (case k_label => k_is)
    (case a_heard => k_is)
    (case l_heard => k_is)
    (case cd_heard => k_is)
    (case k_heard => k_is)
    (case a_signs_right => k_is)
    (case l_signs_right => k_is)
    (case cd_signs_right => k_is)
    (case k_signs_right => k_is)
    (case a_law => k_is)
    (case l_law => k_is)
    (case cd_law => k_is)
    (case k_law => k_is)
    (case nf_Tally => kernel_rfl)
    (case ak_NAMES => k_is)
    (case lk_NAMES => k_is)
    (case kk_NAMES => k_keys)
    (case lo_NAMES => decide)
    (case lk_NAMES_0 => k_is)
    (case lk_NAMES_1 => k_is)
    (case lk_NAMES_2 => k_is)
    (case lk_NAMES_3 => k_is)
    (case lk_NAMES_4 => k_is)
    (case lk_NAMES_5 => k_is)
    (case lk_NAMES_6 => k_is)
    (case lk_NAMES_7 => k_is)
    (case lk_NAMES_8 => k_is)
    (case sf_Tally => first | k_is | kernel_rfl)
    (case im_Tally_mul => k_is)
    (case ir_Tally_mul => k_is)
    (case is_Tally_mul => k_is)
    (case si_Tally => k_is)
    (case fni_Tally => k_is)
