import PyProof.Rows.All
import Wide.All
import OpenK.AllK
import Wide.FinOn
import HandS.ForMost
import HandS.Codes
import HandS.Wide
import HandS.Flow
import HandS.IsInst
import HandS.OwnEq
import HandS.ForExc
import HandS.Star
import HandS.ClsMeth
import HandS.More
import HandS.Defaults
import HandS.Style
import PyProof.ReprRoads
import PyProof.Rows.ListMulR
import KE.KOpsOwn
import PySem.Challenge.RW_twoheads_k65_tallies_under
set_option Elab.async false
set_option linter.all false
set_option maxRecDepth 100000
set_option maxHeartbeats 4000000
set_option autoImplicit false
/-! The toolkit of these proofs: frames, readings step by step, the pen. -/
namespace Tw
open PySem PySem.Spec PyProof.Rows L2

/-! ### frames -/
/-- the pen: a list of a list and two ints -/
def isPen : HO → Bool
  | .lst [.ref _, .int _, .int _] => true
  | _ => false
/-- all but pens is kept -/
def SP (H H' : Hp) : Prop := ∀ b o, H b = some o → isPen o = false → H' b = some o
theorem SP.refl (H : Hp) : SP H H := fun _ _ h _ => h
theorem SP.trans {H H1 H2 : Hp} (a : SP H H1) (b : SP H1 H2) : SP H H2 := fun c o h n => b c o (a c o h n) n
theorem _root_.L2.Same.sp {H H' : Hp} (s : Same H H') : SP H H' := fun b o h _ => s b o h
theorem SP.tr {H H' : Hp} {b : Addr} {o : HO} (s : SP H H') (h : H b = some o) (n : isPen o = false) : H' b = some o := s b o h n
theorem Same.tr {H H' : Hp} {b : Addr} {o : HO} (s : Same H H') (h : H b = some o) : H' b = some o := s b o h
theorem Same.new {H : Hp} {p : Addr} {o : HO} (h : H p = none) : Same H (upd H p o) := fun b u e => by
  rw [upd_ne (ne_of_none e h)]
  exact e
theorem isPen_ints (ns : List Int) : isPen (.lst (ns.map V.int)) = false := by
  cases ns with
  | nil => rfl
  | cons a r => rfl
theorem isPen_len {xs : List V} (h : xs.length ≠ 3) : isPen (.lst xs) = false := by
  unfold isPen
  split
  · rename_i e; cases e; exact absurd rfl h
  · rfl

/-! ### new objects -/
theorem al {H : Hp} {o : HO} {Q : VK} (h : ∀ p H', Same H H' → H' p = some o → H p = none → Q (.ref p) H') : ∀ p, H p = none → Q (.ref p) (upd H p o) :=
  fun p hp => h p _ (Same.new hp) upd_same hp

/-! ### readings, one step a lemma -/
section
variable {K : PySem.W.Frag} {σ : L2.St} {H : Hp} {D : Ends} {t u : TS} {ta tb te tc : TE} {c d : TT} {tA : TA} {Q : VK} {QB : Bool → Hp → Prop} {QL : List V → Hp → Prop} {QS : L2.St → Hp → Prop} {v x y : V} {i : Nat} {r : R2} {g : TG}
theorem u_seq (h : t { D with nx := u D } σ H) : tSeq t u D σ H := h
theorem u_cut (Mid : L2.St → Hp → Prop) (h : t { D with nx := Mid } σ H) (k : ∀ σ' H', Mid σ' H' → u D σ' H') : C8.tCut t u D σ H := ⟨Mid, h, k⟩
theorem u_next (h : D.nx σ H) : tNext D σ H := h
theorem u_drop (h : te σ H fun _ H1 => D.nx σ H1) : tDrop te D σ H := h
theorem u_ret (h : te σ H D.rt) : tRet te D σ H := h
theorem u_retN (h : D.rt .non H) : tRetN D σ H := h
theorem u_brk (h : D.bk σ H) : tBreak D σ H := h
theorem u_cont (h : D.ct σ H) : tCont D σ H := h
theorem u_if (h : c σ H fun b H1 => if b = true then t D σ H1 else u D σ H1) : tIfS c t u D σ H := h
theorem u_asg (h : te σ H fun x H1 => g x σ H1 D.nx) : tAsg te g D σ H := h
theorem u_gname (h : QS (σ.set i (some v)) H) : gName i v σ H QS := h
theorem u_var (e : σ[i]? = some (some v)) (h : Q v H) : tVar i σ H Q := ⟨v, e, h⟩
theorem u_c (h : Q v H) : tC v σ H Q := h
theorem u_op (h : ta σ H fun x H1 => tb σ H1 fun y H2 => r x y H2 Q) : tOp r ta tb σ H Q := h
def kUn (f : V → Hp → VK → Prop) (Q : VK) : VK := fun x H => f x H Q
theorem u_un {f : V → Hp → VK → Prop} (h : ta σ H fun x H1 => f x H1 Q) : tUn f ta σ H Q := h
theorem u_nil (h : QL [] H) : tNil σ H QL := h
theorem u_cons (h : ta σ H fun x H1 => tA σ H1 fun xs H2 => QL (x :: xs) H2) : tCons ta tA σ H QL := h
theorem u_cb {f : List V → Hp → VK → Prop} (h : tA σ H fun vs H1 => f vs H1 Q) : tCB f tA σ H Q := h
def kBl (QB : Bool → Hp → Prop) : VK := fun x H' => ∃ k, x = .bl k ∧ QB k H'
theorem k_bl {b : Bool} (h : QB b H) : kBl QB (.bl b) H := ⟨b, rfl, h⟩
theorem u_test (h : te σ H (kBl QB)) : tTest te σ H QB := h
theorem u_B (h : te σ H (kBl QB)) : tB te σ H QB := h
theorem u_not (h : c σ H fun b H1 => QB (!b) H1) : tNot c σ H QB := h
theorem u_and (h : c σ H fun b H1 => if b = true then d σ H1 QB else QB false H1) : tAnd c d σ H QB := h
theorem u_or (h : c σ H fun b H1 => if b = true then QB true H1 else d σ H1 QB) : tOr c d σ H QB := h
theorem u_andV (h : ta σ H (kBl fun c H1 => if c = true then tb σ H1 Q else Q (.bl false) H1)) : tAndV ta tb σ H Q := h
theorem u_orV (h : ta σ H (kBl fun c H1 => if c = true then Q (.bl true) H1 else tb σ H1 Q)) : tOrV ta tb σ H Q := h
theorem u_notV (h : ta σ H (kBl fun c H1 => Q (.bl (!c)) H1)) : tNotV ta σ H Q := h
theorem u_ifE (h : c σ H fun b H1 => if b = true then ta σ H1 Q else tb σ H1 Q) : tIf c ta tb σ H Q := h
theorem u_chain {r r' : R2} (h : ta σ H fun x H1 => tb σ H1 fun y H2 => r x y H2 (kBl fun k H3 => if k = true then tc σ H3 fun w' H4 => r' y w' H4 Q else Q (.bl false) H3)) : tChain r r' ta tb tc σ H Q := h
def kFld (K : PySem.W.Frag) (f : Str) (Q : VK) : VK := fun x H1 => ∃ a C dx fs v, x = .ref a ∧ H1 a = some (.ins C dx fs) ∧ Cls K C ∧ NoAttr K C f ∧ fs.lookup f = some v ∧ Q v H1
theorem u_fld {f : Str} (h : ta σ H (kFld K f Q)) : tFld K ta f σ H Q := h
theorem k_fld {f : Str} {a C dx : Addr} {fs : List (Str × V)} (ho : H a = some (.ins C dx fs)) (hc : Cls K C) (hn : NoAttr K C f) (hl : fs.lookup f = some v) (h : Q v H) : kFld K f Q (.ref a) H := ⟨a, C, dx, fs, v, rfl, ho, hc, hn, hl, h⟩
theorem u_tup (h : tA σ H fun xs H1 => xs.length ≤ sizeLine ∧ ∀ p, H1 p = none → Q (.ref p) (upd H1 p (.tup xs))) : tTup tA σ H Q := h
theorem u_lst (h : tA σ H fun xs H1 => xs.length ≤ sizeLine ∧ ∀ p, H1 p = none → Q (.ref p) (upd H1 p (.lst xs))) : tLst tA σ H Q := h
theorem u_call {sp : Sp} {dvs : List V} {E : XK} (h : tA σ H fun vs H1 => sp (vs ++ dvs) H1 Q E) : tCall sp dvs E tA σ H Q := h
def kMeth (C : Addr) (m : Str) (go : V → Hp → Prop) : VK := fun x H1 => ∃ a dx fs, x = .ref a ∧ H1 a = some (.ins C dx fs) ∧ fs.lookup m = none ∧ go x H1
theorem u_meth {C : Addr} {m : Str} {sp : Sp} {dvs : List V} {E : XK} (h : ta σ H (kMeth C m fun x H1 => tA σ H1 fun vs H2 => sp (x :: (vs ++ dvs)) H2 Q E)) : tMeth C m sp dvs E ta tA σ H Q := h
theorem k_meth {C a dx : Addr} {m : Str} {fs : List (Str × V)} {go : V → Hp → Prop} (ho : H a = some (.ins C dx fs)) (hl : fs.lookup m = none) (h : go (.ref a) H) : kMeth C m go (.ref a) H := ⟨a, dx, fs, rfl, ho, hl, h⟩
theorem u_make {C : Addr} {sp : Sp} {dvs : List V} {E : XK} (h : tA σ H fun vs H1 => ∀ x dx, H1 x = none → H1 dx = none → dx ≠ x → sp (.ref x :: (vs ++ dvs)) (upd (upd H1 dx (.own x)) x (.ins C dx [])) (fun v H2 => v = .non ∧ Q (.ref x) H2) E) : tMake C sp dvs E tA σ H Q := h
theorem u_par {j : Nat} {a b : V} (h : tA σ H fun vs H1 => ∃ v w, vs = [v, w] ∧ D.nx ((σ.set i (some v)).set j (some w)) H1) : tPar i j tA D σ H := h
def kIdx (K : PySem.W.Frag) (f : V → Hp → VK → Prop) (Q : VK) : VK := fun x H => f x H Q
/-! by values -/
theorem r_I0 {f : Int → Int → V} {i j : Int} (h : Q (f i j) H) : rI0 f (.int i) (.int j) H Q := ⟨i, j, rfl, rfl, h⟩
theorem r_I {C : Int → Int → Prop} {f : Int → Int → V} {i j : Int} (hc : C i j) (h : Q (f i j) H) : rI C f (.int i) (.int j) H Q := ⟨i, j, rfl, rfl, hc, h⟩
theorem r_U {f : Int → V} {i : Int} (h : Q (f i) H) : rU f (.int i) H Q := ⟨i, rfl, h⟩
theorem r_eqI {i j : Int} (h : Q (.bl (decide (i = j))) H) : rEq (.int i) (.int j) H Q := ⟨rfl, by
  have e : decide (V.int i = V.int j) = decide (i = j) := decide_eq_decide.mpr ⟨fun q => by injection q, fun q => by rw [q]⟩
  rw [e]; exact h⟩
theorem r_neI {i j : Int} (h : Q (.bl (!decide (i = j))) H) : rNe (.int i) (.int j) H Q := ⟨rfl, by
  have e : decide (V.int i = V.int j) = decide (i = j) := decide_eq_decide.mpr ⟨fun q => by injection q, fun q => by rw [q]⟩
  rw [e]; exact h⟩
theorem r_eqB {i j : Bool} (h : Q (.bl (decide (i = j))) H) : rEq (.bl i) (.bl j) H Q := ⟨rfl, by
  have e : decide (V.bl i = V.bl j) = decide (i = j) := decide_eq_decide.mpr ⟨fun q => by injection q, fun q => by rw [q]⟩
  rw [e]; exact h⟩
theorem r_neB {i j : Bool} (h : Q (.bl (!decide (i = j))) H) : rNe (.bl i) (.bl j) H Q := ⟨rfl, by
  have e : decide (V.bl i = V.bl j) = decide (i = j) := decide_eq_decide.mpr ⟨fun q => by injection q, fun q => by rw [q]⟩
  rw [e]; exact h⟩
theorem r_eqS {i j : Str} (h : Q (.bl (decide (i = j))) H) : rEq (.str i) (.str j) H Q := ⟨rfl, by
  have e : decide (V.str i = V.str j) = decide (i = j) := decide_eq_decide.mpr ⟨fun q => by injection q, fun q => by rw [q]⟩
  rw [e]; exact h⟩
theorem r_neS {i j : Str} (h : Q (.bl (!decide (i = j))) H) : rNe (.str i) (.str j) H Q := ⟨rfl, by
  have e : decide (V.str i = V.str j) = decide (i = j) := decide_eq_decide.mpr ⟨fun q => by injection q, fun q => by rw [q]⟩
  rw [e]; exact h⟩
theorem r_ixL {p : Addr} {xs : List V} {i : Int} (h0 : SqL K H p xs) (h1 : atI xs i = some v) (h : Q v H) : rIxL K (.ref p) (.int i) H Q := ⟨p, xs, i, v, rfl, rfl, h0, h1, h⟩
theorem r_ixT {p : Addr} {xs : List V} {i : Int} (h0 : SqT K H p xs) (h1 : atI xs i = some v) (h : Q v H) : rIxT K (.ref p) (.int i) H Q := ⟨p, xs, i, v, rfl, rfl, h0, h1, h⟩
theorem r_setL {p : Addr} {xs : List V} {k : Int} {j : Nat} {QH : Hp → Prop} (h0 : H p = some (.lst xs)) (h1 : ixN xs.length k = some j) (h : QH (upd H p (.lst (xs.set j v)))) : rSetL (.ref p) (.int k) v H QH := ⟨p, xs, k, j, rfl, rfl, h0, h1, h⟩
theorem u_gsub {to ti : TE} {ts : TSet} (h : to σ H fun o H1 => ti σ H1 fun i H2 => ts o i v H2 fun H3 => QS σ H3) : gSub to ti ts v σ H QS := h
/-! ways -/
theorem w_T {A B : Prop} (h : A) : if true = true then A else B := by rw [if_pos rfl]; exact h
theorem w_F {A B : Prop} (h : B) : if false = true then A else B := by rw [if_neg Bool.false_ne_true]; exact h
theorem w_nT {A B : Prop} (h : B) : if (!true) = true then A else B := by rw [Bool.not_true, if_neg Bool.false_ne_true]; exact h
theorem w_nF {A B : Prop} (h : A) : if (!false) = true then A else B := by rw [Bool.not_false, if_pos rfl]; exact h
theorem w_dec {p A B : Prop} [Decidable p] (h1 : p → A) (h2 : ¬ p → B) : if decide p = true then A else B := by
  by_cases h : p
  · rw [if_pos (decide_eq_true h)]; exact h1 h
  · rw [if_neg (by rw [decide_eq_false h]; exact Bool.false_ne_true)]; exact h2 h
theorem w_ndec {p A B : Prop} [Decidable p] (h1 : ¬ p → A) (h2 : p → B) : if (!decide p) = true then A else B := by
  by_cases h : p
  · rw [decide_eq_true h]; exact w_F (h2 h)
  · rw [decide_eq_false h]; exact w_T (h1 h)
theorem w_bool {b : Bool} {A B : Prop} (h1 : b = true → A) (h2 : b = false → B) : if b = true then A else B := by
  cases b with
  | true => exact w_T (h1 rfl)
  | false => exact w_F (h2 rfl)
theorem w_nbool {b : Bool} {A B : Prop} (h1 : b = false → A) (h2 : b = true → B) : if (!b) = true then A else B := by
  cases b with
  | true => exact w_F (h2 rfl)
  | false => exact w_T (h1 rfl)
end

/-! ### the pen -/
def PenAt (H : Hp) (p : Addr) (n : Nat) : Prop := ∃ (L : Addr) (a r : Int) (ns : List Int), H p = some (.lst [.ref L, .int a, .int r]) ∧ H L = some (.lst (ns.map V.int)) ∧ 0 ≤ a ∧ a ≤ n ∧ ns.length ≤ 63
theorem PenAt.same {H H' : Hp} {p : Addr} {n : Nat} (s : Same H H') (h : PenAt H p n) : PenAt H' p n := by
  obtain ⟨L, a, r, ns, h1, h2, h3⟩ := h
  exact ⟨L, a, r, ns, s _ _ h1, s _ _ h2, h3⟩
theorem PenAt.mono {H : Hp} {p : Addr} {n m : Nat} (h : PenAt H p n) (e : n ≤ m) : PenAt H p m := by
  obtain ⟨L, a, r, ns, h1, h2, h3, h4, h5⟩ := h
  exact ⟨L, a, r, ns, h1, h2, h3, by omega, h5⟩
/-- _law_draw(pen, many): a number from 0 on below many -/
def spDraw : Sp := fun vs H Q _ => ∃ (p : Addr) (n : Nat) (many : Int), vs = [.ref p, .int many] ∧ PenAt H p n ∧ 1 ≤ many ∧ many ≤ 1000000000000 ∧ n ≤ 1000000 ∧
  ∀ (k : Int) (H' : Hp), 0 ≤ k → k < many → SP H H' → PenAt H' p (n + 1) → Q (.int k) H'
/-- _law_pen(script) -/
def spPen (K : PySem.W.Frag) : Sp := fun vs H Q _ => ∃ (a : Addr) (ns : List Int), vs = [.ref a] ∧ SqL K H a (ns.map V.int) ∧ ns.length ≤ 63 ∧
  ∀ (p : Addr) (H' : Hp), Same H H' → PenAt H' p 0 → Q (.ref p) H'
/-- _law_pick(pen, some), some a list -/
def spPick (K : PySem.W.Frag) : Sp := fun vs H Q _ => ∃ (p a : Addr) (n : Nat) (xs : List V), vs = [.ref p, .ref a] ∧ PenAt H p n ∧ H a = some (.lst xs) ∧ isPen (.lst xs) = false ∧ 1 ≤ xs.length ∧ xs.length ≤ 1000000 ∧ n ≤ 1000000 ∧
  ∀ (k : Nat) (v : V) (H' : Hp), k < xs.length → xs[k]? = some v → SP H H' → PenAt H' p (n + 1) → Q v H'
theorem use_draw {H : Hp} {p : Addr} {many : Int} {Q : VK} {E : XK} (n : Nat) (h1 : PenAt H p n) (h2 : 1 ≤ many) (h3 : many ≤ 1000000000000) (h4 : n ≤ 1000000)
    (k : ∀ (k : Int) (H' : Hp), 0 ≤ k → k < many → SP H H' → PenAt H' p (n + 1) → Q (.int k) H') : spDraw [.ref p, .int many] H Q E := ⟨p, n, many, rfl, h1, h2, h3, h4, k⟩

/-! ### room for calls, nothing being shown -/
structure Rm (k : Nat) (A : Around) : Prop where
  room : Room k A
  gd : A.guards = some []
theorem Rm.mono {j k : Nat} {A : Around} (r : Rm k A) (h : j ≤ k) : Rm j A := ⟨r.room.mono h, r.gd⟩
theorem Rm.deeper {k : Nat} {A : Around} (r : Rm (k + 1) A) (env : Env) : Rm k (A.deeper env) := ⟨r.room.deeper env, r.gd⟩
theorem Rm.in1 {k : Nat} {A : Around} (r : Rm (k + 1) A) : Rm k A.in1 := ⟨r.room.in1, r.gd⟩
theorem Rm.make {k : Nat} {A : Around} (r : Rm (k + 1) A) (C : Addr) (us : List Value) (kw : List (Str × Value)) : Rm k (A.under (.builtin "type.__call__" ⟨.ref C :: us, kw⟩)) :=
  ⟨r.room.make C us kw, by
    have e := r.gd
    simpa [Around.under, Code.guards, Code.isGuard, guardIds, pushGuards] using e⟩
theorem Rm.u {k : Nat} {A : Around} (r : Rm k A) : A.units + 64 < cLine := r.room.units

/-- a def keeps its promise, where nothing is being shown -/
structure FnG (P : Program) (w : World) (K : PySem.W.Frag) (mg : Str → Option Value) (base : Heap) (k : Nat) (f : Addr) (fd : FuncData) (ps : List Str) (sp : Sp) : Prop where
  len : ∀ vs H Q E, sp vs H Q E → vs.length = ps.length
  run : ∀ (A : Around) (out : List Env) (s : Shared) (H : Hp) (args : Args) (us : List Value) (vs : List V) (Q : VK) (E : XK), Rm k A → Env0 P w K mg base A out s H →
    BindsTo s fd args (ps.zip us) → Vals vs us → sp vs H Q E → codeAny (model P w) A (.call (.ref f) args) (CR (L2.CX P w) out P w H s Q E) s
section
variable {P : Program} {w : World} {K : PySem.W.Frag} {mg : Str → Option Value} {base : Heap} {k : Nat} {f : Addr} {fd : FuncData} {ps N : List Str} {sp : Sp}
theorem FnG.imp {sp' : Sp} (F : FnG P w K mg base k f fd ps sp) (h : ∀ vs H Q E, sp' vs H Q E → sp vs H Q E) : FnG P w K mg base k f fd ps sp' :=
  ⟨fun vs H Q E q => F.len _ _ _ _ (h vs H Q E q), fun A out s H args us vs Q E hr e hb hv q => F.run A out s H args us vs Q E hr e hb hv (h vs H Q E q)⟩
/-- from the body -/
theorem fnG {name qual : Str} {pr : Arguments} {body : List Stmt} {sc : Scope} {dV kV doc pm cdv ct oc : Value} {an od : Option Addr} {osl : Array (Option Value)}
    (lk : K.lookup f = some ⟨oc, od, .func (PySem.W.fnOf name qual pr body sc dV kV doc pm an cdv ct), osl⟩) (hcd : PySem.W.codeIn K cdv qual = true) (S : FnScope N ps sc) (len : ∀ vs H Q E, sp vs H Q E → vs.length = ps.length)
    (hb : ∀ (A : Around) (out : List Env) (s : Shared) (H : Hp) (vs : List V) (Q : VK) (E : XK), Rm k (A.deeper (envOfC qual sc s.heap.objs.size f cdv)) → sp vs H Q E →
      ∃ t, PSs (cxOf (L2.CX P w) P w K mg base N qual sc f cdv A out s H E) body t ∧ t { nx := fun _ H' => Q .non H', rt := Q } (start N vs) H) :
    FnG P w K mg base (k + 1) f (PySem.W.fnOf name qual pr body sc dV kV doc pm an cdv ct) ps sp := by
  constructor
  · exact len
  intro A out s H args us vs Q E rm ev bd rel want
  have inK : K.In s.heap := ev.mod.kin.keeps fun b o q => (ev.bs b o q).1
  have nolim := ev.mod.nolimit.keeps fun b o q => (ev.bs b o q).1
  have kinds : ∀ z ∈ ps.zip us, sc.names.lookup z.1 = some .local ∨ (sc.names.lookup z.1 = some .cell ∧ ((cellsFrom (s.heap.objs.size + 1) sc.names []).lookup z.1).isSome = true) := by
    rintro ⟨n, v⟩ hz
    exact (S.par n (List.of_mem_zip hz).1).imp id fun q => ⟨q, PySem.W.cellsFrom_some _ _ _ (.inl q)⟩
  refine codeAny_call_function rm.room.depth (inK _ _ lk) rfl S.co S.gen rfl (PySem.W.codeRec_of inK hcd) (bd _ _ _ _ ?_)
  refine wpAny_newFunctionEnv_cells S.kind kinds ?_
  rintro env rfl s1 ic
  refine ⟨nolim.keeps ic.toInCall.keep, codeAny_func ?_⟩
  obtain ⟨t, der, rd⟩ := hb A out s H vs Q E (rm.deeper _) want
  have J := inv_start (CX := L2.CX P w) (P := P) (w := w) (K := K) (mg := mg) (base := base) (qual := qual) (f := f) (cd := cdv) (E := E) S rm.room.hd ev (len _ _ _ _ want) rel ic
  refine wpAny_mono (der.run [] s1 (start N vs) H _ J rd) ?_ fun _ _ z => z
  intro fl s' z
  cases fl with
  | ret u =>
    obtain ⟨v, _, H', I', r', q'⟩ := z
    exact ⟨v, H', I'.os, I'.bare, I'.base, I'.hok, r', q'⟩
  | next =>
    obtain ⟨_, H', I', q'⟩ := z
    exact ⟨.non, H', I'.os, I'.bare, I'.base, I'.hok, rfl, q'⟩
  | brk => exact z.elim fun _ z => z.elim fun _ z => z.2.elim
  | cont => exact z.elim fun _ z => z.elim fun _ z => z.2.elim
/-- .. of a def that lets nothing out -/
theorem fnG0 {x qual : Str} {st : Stmt} (F : C8.Fun K x qual st f fd) (S : FnScope N ps (C8.fnScope st)) (len : ∀ vs H Q E, sp vs H Q E → vs.length = ps.length)
    (hb : ∀ (cdv : Value) (A : Around) (out : List Env) (s : Shared) (H : Hp) (vs : List V) (Q : VK) (E : XK), Rm k (A.deeper (envOfC qual (C8.fnScope st) s.heap.objs.size f cdv)) → sp vs H Q E →
      ∃ t, PSs (cxOf (L2.CX P w) P w K mg base N qual (C8.fnScope st) f cdv A out s H E).nox (C8.fnBody st) t ∧ t { nx := fun _ H' => Q .non H', rt := Q } (start N vs) H) : FnG P w K mg base (k + 1) f fd ps sp := by
  obtain ⟨oc, od, dV, kV, doc, pm, an, cdv, ct, osl, rfl, lk, hcd⟩ := F.ex
  refine fnG lk hcd S len fun A out s H vs Q E rm want => ?_
  obtain ⟨t, der, rd⟩ := hb cdv A out s H vs Q E rm want
  exact ⟨t, der.nox, rd⟩
/-- .. of a def that may raise -/
theorem fnGX {x qual : Str} {st : Stmt} (F : C8.Fun K x qual st f fd) (S : FnScope N ps (C8.fnScope st)) (len : ∀ vs H Q E, sp vs H Q E → vs.length = ps.length)
    (hb : ∀ (cdv : Value) (A : Around) (out : List Env) (s : Shared) (H : Hp) (vs : List V) (Q : VK) (E : XK), Rm k (A.deeper (envOfC qual (C8.fnScope st) s.heap.objs.size f cdv)) → sp vs H Q E →
      ∃ t, PSs (cxOf (L2.CX P w) P w K mg base N qual (C8.fnScope st) f cdv A out s H E) (C8.fnBody st) t ∧ t { nx := fun _ H' => Q .non H', rt := Q } (start N vs) H) : FnG P w K mg base (k + 1) f fd ps sp := by
  obtain ⟨oc, od, dV, kV, doc, pm, an, cdv, ct, osl, rfl, lk, hcd⟩ := F.ex
  exact fnG lk hcd S len fun A out s H vs Q E rm want => hb cdv A out s H vs Q E rm want
end

/-! ### calls -/
section
variable {X : Cx} {k j : Nat} {f C : Addr} {fd : FuncData} {ps : List Str} {sp : Sp} {dvs : List V} {ds : List Value} {E : XK} {x m : Str} {p pos apos : Pos} {e o : Expr} {es : List Expr} {ta : TE} {t : TA}
theorem goG {pins : List (Addr × Obj)} {σ : L2.St} {H : Hp} {s : Shared} {Q : VK} {us : List Value} {vs : List V} (F : FnG X.prog X.w X.K X.mg X.base k f fd ps sp) {A : Around} (hr : Rm k A) (fr : A.frames = X.A.frames) (hb : Binds X.K fd ps ds) (hd : Vals dvs ds) (hx : Passes (L2.CX X.prog X.w) X E)
    (I : Inv X pins σ H s) (r : Vals vs us) (h : sp (vs ++ dvs) H Q E) : wpAny (model X.prog X.w) A (call (.ref f) us) (EP X pins σ Q) X.xe s := by
  have r2 : Vals (vs ++ dvs) (us ++ ds) := r.append hd
  have ev : Env0 X.prog X.w X.K X.mg X.base A X.stack s H := { I.env0 with frames := fr.trans I.env0.frames }
  have hl : (us ++ ds).length = ps.length := r2.length.symm.trans (F.len _ _ _ _ h)
  refine wpAny_call (codeAny_mono (F.run A X.stack s H ⟨us, []⟩ (us ++ ds) (vs ++ dvs) Q E hr ev (hb s us I.kIn hl) r2 h) ?_)
  intro res s' z
  match res, z with
  | .error e, z => exact hx pins σ H s e s' I z
  | .ok (.ret u), z => exact I.after z
  | .ok .next, z => exact False.elim z
  | .ok .brk, z => exact False.elim z
  | .ok .cont, z => exact False.elim z
theorem runG {pins : List (Addr × Obj)} {σ : L2.St} {H : Hp} {s : Shared} {Q : VK} {us : List Value} {vs : List V} (F : FnG X.prog X.w X.K X.mg X.base k f fd ps sp) (hr : Rm k X.A) (hb : Binds X.K fd ps ds) (hd : Vals dvs ds) (hx : Passes (L2.CX X.prog X.w) X E)
    (I : Inv X pins σ H s) (r : Vals vs us) (h : sp (vs ++ dvs) H Q E) : wpAny (model X.prog X.w) X.A (call (.ref f) us) (EP X pins σ Q) X.xe s := goG F hr rfl hb hd hx I r h
theorem makeG {pins : List (Addr × Obj)} {σ : L2.St} {H : Hp} {s : Shared} {Q : VK} {us : List Value} {vs : List V} (M : Mk X.K C f) (F : FnG X.prog X.w X.K X.mg X.base k f fd ps sp) (hr : Rm (k + 1) X.A) (hb : Binds X.K fd ps ds) (hd : Vals dvs ds)
    (hx : Passes (L2.CX X.prog X.w) X E) (I : Inv X pins σ H s) (r : Vals vs us)
    (h : ∀ x dx, H x = none → H dx = none → dx ≠ x → sp (.ref x :: (vs ++ dvs)) (upd (upd H dx (.own x)) x (.ins C dx [])) (fun v H2 => v = .non ∧ Q (.ref x) H2) E) :
    wpAny (model X.prog X.w) X.A (call (.ref C) us) (EP X pins σ Q) X.xe s := by
  have n := s.heap.objs.size
  have want := h (s.heap.objs.size + 1) s.heap.objs.size (I.hok.fresh (Nat.le_succ _)) (I.hok.fresh (Nat.le_refl _)) (Nat.ne_of_lt (Nat.lt_succ_self _))
  have I2 := Inv.made (C := C) I
  have rel : Vals (V.ref (s.heap.objs.size + 1) :: (vs ++ dvs)) (Value.ref (s.heap.objs.size + 1) :: (us ++ ds)) := Paired.cons rfl (r.append hd)
  have hl : (Value.ref (s.heap.objs.size + 1) :: us ++ ds).length = ps.length := by
    have e := rel.length.symm
    rw [F.len _ _ _ _ want] at e
    exact e
  refine wpAny_call (make_map (f := f) I.kIn M.makes M.init (beq_iff_eq.mp M.fn) (codeAny_mono (F.run _ X.stack _ _ ⟨Value.ref (s.heap.objs.size + 1) :: us, []⟩ (Value.ref (s.heap.objs.size + 1) :: (us ++ ds)) _ _ E (hr.make C us [])
    (I2.env0.make C us []) (hb _ (Value.ref (s.heap.objs.size + 1) :: us) I2.kIn hl) rel want) ?_))
  intro res s' z
  match res, z with
  | .error e, z => exact hx pins σ _ _ e s' I2 z
  | .ok (.ret u), z =>
    obtain ⟨v, H', I3, rv, ev, q3⟩ := I2.after z
    subst ev
    exact ⟨rv, V.ref (s.heap.objs.size + 1), H', I3, rfl, q3⟩
  | .ok .next, z => exact False.elim z
  | .ok .brk, z => exact False.elim z
  | .ok .cont, z => exact False.elim z
end

/-- a def that may be called by its name -/
structure Cal (P : Program) (w : World) (K : PySem.W.Frag) (mg : Str → Option Value) (base : Heap) (k : Nat) (x : Str) (sp : Sp) (dvs : List V) : Prop where
  ex : ∃ (f : Addr) (fd : FuncData) (ps : List Str) (ds : List Value), FnG P w K mg base k f fd ps sp ∧ mg x = some (.ref f) ∧ PySem.W.keepIn K (.ref f) = true ∧ Binds K fd ps ds ∧ Vals dvs ds
/-- a method of the class at C -/
structure Met (P : Program) (w : World) (K : PySem.W.Frag) (mg : Str → Option Value) (base : Heap) (k : Nat) (C : Addr) (m : Str) (sp : Sp) (dvs : List V) : Prop where
  ex : ∃ (f : Addr) (fd : FuncData) (ps : List Str) (ds : List Value), Cls K C ∧ Meth K C m f ∧ FnG P w K mg base k f fd ps sp ∧ Binds K fd ps ds ∧ Vals dvs ds
/-- a class that may be made by its name; sp: its __init__ -/
structure Mak (P : Program) (w : World) (K : PySem.W.Frag) (mg : Str → Option Value) (base : Heap) (k : Nat) (x : Str) (C : Addr) (sp : Sp) (dvs : List V) : Prop where
  ex : ∃ (f : Addr) (fd : FuncData) (ps : List Str) (ds : List Value), Mk K C f ∧ FnG P w K mg base k f fd ps sp ∧ mg x = some (.ref C) ∧ Binds K fd ps ds ∧ Vals dvs ds
/-- what the top has written of a def; of a method -/
structure DefAt (K : PySem.W.Frag) (mg : Str → Option Value) (x : Str) (st : Stmt) (ps : List Str) (dvs : List V) : Prop where
  ex : ∃ (f : Addr) (fd : FuncData) (ds : List Value), C8.Fun K x x st f fd ∧ mg x = some (.ref f) ∧ PySem.W.keepIn K (.ref f) = true ∧ Binds K fd ps ds ∧ Vals dvs ds
structure MetAt (K : PySem.W.Frag) (C : Addr) (m qual : Str) (st : Stmt) (ps : List Str) (dvs : List V) : Prop where
  ex : ∃ (f : Addr) (fd : FuncData) (ds : List Value), Cls K C ∧ Meth K C m f ∧ C8.Fun K m qual st f fd ∧ Binds K fd ps ds ∧ Vals dvs ds
structure MakAt (K : PySem.W.Frag) (mg : Str → Option Value) (x : Str) (C : Addr) (qual : Str) (st : Stmt) (ps : List Str) (dvs : List V) : Prop where
  ex : ∃ (f : Addr) (fd : FuncData) (ds : List Value), Mk K C f ∧ C8.Fun K "__init__" qual st f fd ∧ mg x = some (.ref C) ∧ Binds K fd ps ds ∧ Vals dvs ds
section
variable {P : Program} {w : World} {K : PySem.W.Frag} {mg : Str → Option Value} {base : Heap} {k : Nat} {C : Addr} {x m qual : Str} {st : Stmt} {ps N : List Str} {dvs : List V} {sp : Sp}
theorem cal0 (D : DefAt K mg x st ps dvs) (S : FnScope N ps (C8.fnScope st)) (len : ∀ vs H Q E, sp vs H Q E → vs.length = ps.length)
    (hb : ∀ (f : Addr) (cdv : Value) (A : Around) (out : List Env) (s : Shared) (H : Hp) (vs : List V) (Q : VK) (E : XK), Rm k (A.deeper (envOfC x (C8.fnScope st) s.heap.objs.size f cdv)) → sp vs H Q E →
      ∃ t, PSs (cxOf (L2.CX P w) P w K mg base N x (C8.fnScope st) f cdv A out s H E).nox (C8.fnBody st) t ∧ t { nx := fun _ H' => Q .non H', rt := Q } (start N vs) H) : Cal P w K mg base (k + 1) x sp dvs := by
  obtain ⟨f, fd, ds, F, g, kp, b, v⟩ := D.ex
  exact ⟨f, fd, ps, ds, fnG0 F S len (hb f), g, kp, b, v⟩
theorem calX (D : DefAt K mg x st ps dvs) (S : FnScope N ps (C8.fnScope st)) (len : ∀ vs H Q E, sp vs H Q E → vs.length = ps.length)
    (hb : ∀ (f : Addr) (cdv : Value) (A : Around) (out : List Env) (s : Shared) (H : Hp) (vs : List V) (Q : VK) (E : XK), Rm k (A.deeper (envOfC x (C8.fnScope st) s.heap.objs.size f cdv)) → sp vs H Q E →
      ∃ t, PSs (cxOf (L2.CX P w) P w K mg base N x (C8.fnScope st) f cdv A out s H E) (C8.fnBody st) t ∧ t { nx := fun _ H' => Q .non H', rt := Q } (start N vs) H) : Cal P w K mg base (k + 1) x sp dvs := by
  obtain ⟨f, fd, ds, F, g, kp, b, v⟩ := D.ex
  exact ⟨f, fd, ps, ds, fnGX F S len (hb f), g, kp, b, v⟩
theorem met0 (D : MetAt K C m qual st ps dvs) (S : FnScope N ps (C8.fnScope st)) (len : ∀ vs H Q E, sp vs H Q E → vs.length = ps.length)
    (hb : ∀ (f : Addr) (cdv : Value) (A : Around) (out : List Env) (s : Shared) (H : Hp) (vs : List V) (Q : VK) (E : XK), Rm k (A.deeper (envOfC qual (C8.fnScope st) s.heap.objs.size f cdv)) → sp vs H Q E →
      ∃ t, PSs (cxOf (L2.CX P w) P w K mg base N qual (C8.fnScope st) f cdv A out s H E).nox (C8.fnBody st) t ∧ t { nx := fun _ H' => Q .non H', rt := Q } (start N vs) H) : Met P w K mg base (k + 1) C m sp dvs := by
  obtain ⟨f, fd, ds, c, me, F, b, v⟩ := D.ex
  exact ⟨f, fd, ps, ds, c, me, fnG0 F S len (hb f), b, v⟩
theorem metX (D : MetAt K C m qual st ps dvs) (S : FnScope N ps (C8.fnScope st)) (len : ∀ vs H Q E, sp vs H Q E → vs.length = ps.length)
    (hb : ∀ (f : Addr) (cdv : Value) (A : Around) (out : List Env) (s : Shared) (H : Hp) (vs : List V) (Q : VK) (E : XK), Rm k (A.deeper (envOfC qual (C8.fnScope st) s.heap.objs.size f cdv)) → sp vs H Q E →
      ∃ t, PSs (cxOf (L2.CX P w) P w K mg base N qual (C8.fnScope st) f cdv A out s H E) (C8.fnBody st) t ∧ t { nx := fun _ H' => Q .non H', rt := Q } (start N vs) H) : Met P w K mg base (k + 1) C m sp dvs := by
  obtain ⟨f, fd, ds, c, me, F, b, v⟩ := D.ex
  exact ⟨f, fd, ps, ds, c, me, fnGX F S len (hb f), b, v⟩
theorem mak0 (D : MakAt K mg x C qual st ps dvs) (S : FnScope N ps (C8.fnScope st)) (len : ∀ vs H Q E, sp vs H Q E → vs.length = ps.length)
    (hb : ∀ (f : Addr) (cdv : Value) (A : Around) (out : List Env) (s : Shared) (H : Hp) (vs : List V) (Q : VK) (E : XK), Rm k (A.deeper (envOfC qual (C8.fnScope st) s.heap.objs.size f cdv)) → sp vs H Q E →
      ∃ t, PSs (cxOf (L2.CX P w) P w K mg base N qual (C8.fnScope st) f cdv A out s H E).nox (C8.fnBody st) t ∧ t { nx := fun _ H' => Q .non H', rt := Q } (start N vs) H) : Mak P w K mg base (k + 1) x C sp dvs := by
  obtain ⟨f, fd, ds, M, F, g, b, v⟩ := D.ex
  exact ⟨f, fd, ps, ds, M, fnG0 F S len (hb f), g, b, v⟩
theorem makX (D : MakAt K mg x C qual st ps dvs) (S : FnScope N ps (C8.fnScope st)) (len : ∀ vs H Q E, sp vs H Q E → vs.length = ps.length)
    (hb : ∀ (f : Addr) (cdv : Value) (A : Around) (out : List Env) (s : Shared) (H : Hp) (vs : List V) (Q : VK) (E : XK), Rm k (A.deeper (envOfC qual (C8.fnScope st) s.heap.objs.size f cdv)) → sp vs H Q E →
      ∃ t, PSs (cxOf (L2.CX P w) P w K mg base N qual (C8.fnScope st) f cdv A out s H E) (C8.fnBody st) t ∧ t { nx := fun _ H' => Q .non H', rt := Q } (start N vs) H) : Mak P w K mg base (k + 1) x C sp dvs := by
  obtain ⟨f, fd, ds, M, F, g, b, v⟩ := D.ex
  exact ⟨f, fd, ps, ds, M, fnGX F S len (hb f), g, b, v⟩
end
section
variable {X : Cx} {k j : Nat} {C : Addr} {x m : Str} {sp : Sp} {dvs : List V} {p pos apos : Pos} {e o : Expr} {es : List Expr} {ta : TE} {t : TA}
theorem pe_c (c : Cal X.prog X.w X.K X.mg X.base k x sp dvs) (hr : Rm j X.A) (hk : k ≤ j) (hg : Gl X x) (ha : PA X (e :: es) t) (hdb : (x == ("__debug__" : Str)) = false := by decide)
    (he : starEach (e :: es) X.env = (false, eval e X.env) :: starEach es X.env := by rfl) (hpl : (backTo pos (starEach es X.env)).any (·.1) = false := by rfl) : PE X (.Call (.Name x p) (e :: es) [] pos) (tCall sp dvs E0 t) := by
  obtain ⟨f, fd, ps, ds, F, hm, kp, b, d⟩ := c.ex
  constructor
  intro pins s σ H Q I h
  refine wpAny_Call_Name_kw (ld_glob I hg hm ?_ hdb)
  refine PySem.W.callWith_K (h₀ := X.base) I.ok.mod.kin kp (thn (ha.run pos pins s σ H _ I h) ?_) he hpl
  rintro us s1 ⟨vs, H1, I1, r, q⟩
  exact ⟨I1.kIn, runG F (hr.mono hk) b d passL I1 r q⟩
theorem pe_c0 (c : Cal X.prog X.w X.K X.mg X.base k x sp dvs) (hr : Rm j X.A) (hk : k ≤ j) (hg : Gl X x) (hdb : (x == ("__debug__" : Str)) = false := by decide) : PE X (.Call (.Name x p) [] [] pos) (tCall sp dvs E0 tNil) := by
  obtain ⟨f, fd, ps, ds, F, hm, kp, b, d⟩ := c.ex
  constructor
  intro pins s σ H Q I h
  exact wpAny_Call_Name_kw (ld_glob I hg hm (PySem.W.callWith_K0 I.kIn kp (runG (us := []) (vs := []) F (hr.mono hk) b d passL I .nil h)) hdb)
theorem pe_mk (c : Mak X.prog X.w X.K X.mg X.base k x C sp dvs) (hr : Rm j X.A) (hk : k + 1 ≤ j) (hg : Gl X x) (ha : PA X (e :: es) t) (hdb : (x == ("__debug__" : Str)) = false := by decide)
    (he : starEach (e :: es) X.env = (false, eval e X.env) :: starEach es X.env := by rfl) (hpl : (backTo pos (starEach es X.env)).any (·.1) = false := by rfl) : PE X (.Call (.Name x p) (e :: es) [] pos) (tMake C sp dvs E0 t) := by
  obtain ⟨f, fd, ps, ds, M, F, hm, b, d⟩ := c.ex
  constructor
  intro pins s σ H Q I h
  refine wpAny_Call_Name_kw (ld_glob I hg hm ?_ hdb)
  refine PySem.W.callWith_K (h₀ := X.base) I.ok.mod.kin M.kp (thn (ha.run pos pins s σ H _ I h) ?_) he hpl
  rintro us s1 ⟨vs, H1, I1, r, q⟩
  exact ⟨I1.kIn, makeG M F (hr.mono hk) b d passL I1 r q⟩
theorem pe_mk0 (c : Mak X.prog X.w X.K X.mg X.base k x C sp dvs) (hr : Rm j X.A) (hk : k + 1 ≤ j) (hg : Gl X x) (hdb : (x == ("__debug__" : Str)) = false := by decide) : PE X (.Call (.Name x p) [] [] pos) (tMake C sp dvs E0 tNil) := by
  obtain ⟨f, fd, ps, ds, M, F, hm, b, d⟩ := c.ex
  constructor
  intro pins s σ H Q I h
  exact wpAny_Call_Name_kw (ld_glob I hg hm (PySem.W.callWith_K0 I.kIn M.kp (makeG (us := []) (vs := []) M F (hr.mono hk) b d passL I .nil h)) hdb)
theorem pe_mt {pl : Sem Bool} (c : Met X.prog X.w X.K X.mg X.base k C m sp dvs) (hr : Rm j X.A) (hk : k ≤ j) (he : PE X o ta) (ha : PA X (e :: es) t)
    (hst : starEach (e :: es) X.env = (false, eval e X.env) :: starEach es X.env := by rfl) (hpl : (backTo pos (starEach es X.env)).any (·.1) = false := by rfl)
    (ht : eval (.Call (.Attribute o m apos) (e :: es) [] pos) X.env = (do
      let ov ← eval o X.env
      standAt apos.atName
      let (g, first) ← holding [ov] (getMethod ov m pl)
      callWith pos g first (backTo pos (starEach (e :: es) X.env)) (backToKw pos (keywordEach [] X.env))) := by rfl) : PE X (.Call (.Attribute o m apos) (e :: es) [] pos) (tMeth C m sp dvs E0 ta t) := by
  obtain ⟨f, fd, ps, ds, hc, hm, F, b, d⟩ := c.ex
  constructor
  intro pins s σ H Q I h
  refine PySem.W.methodCall_KW (pl := pl) (thn (he.run pins s σ H _ I h) ?_) ht
  rintro u s1 ⟨x, H1, I1, rx, a, dx, fs, rfl, ea, l, q⟩
  cases rx
  refine getmeth_ok I1 ea hc hm l ?_
  refine PySem.W.callWith_K (first := [.ref a]) (h₀ := X.base) I.ok.mod.kin hm.kp (thn (ha.run pos pins s1 σ H1 _ I1 q) ?_) hst hpl
  rintro us s2 ⟨vs, H2, I2, r, q2⟩
  exact ⟨I2.kIn, runG (us := .ref a :: us) (vs := .ref a :: vs) F (hr.mono hk) b d passL I2 (Paired.cons rfl r) q2⟩
theorem pe_mt0 {pl : Sem Bool} (c : Met X.prog X.w X.K X.mg X.base k C m sp dvs) (hr : Rm j X.A) (hk : k ≤ j) (he : PE X o ta)
    (ht : eval (.Call (.Attribute o m apos) [] [] pos) X.env = (do
      let ov ← eval o X.env
      standAt apos.atName
      let (g, first) ← holding [ov] (getMethod ov m pl)
      callWith pos g first (backTo pos (starEach [] X.env)) (backToKw pos (keywordEach [] X.env))) := by rfl) : PE X (.Call (.Attribute o m apos) [] [] pos) (tMeth C m sp dvs E0 ta tNil) := by
  obtain ⟨f, fd, ps, ds, hc, hm, F, b, d⟩ := c.ex
  constructor
  intro pins s σ H Q I h
  refine PySem.W.methodCall_KW (pl := pl) (thn (he.run pins s σ H _ I h) ?_) ht
  rintro u s1 ⟨x, H1, I1, rx, a, dx, fs, rfl, ea, l, q⟩
  cases rx
  refine getmeth_ok I1 ea hc hm l ?_
  exact PySem.W.callWith_K0 (first := [.ref a]) I1.kIn hm.kp (runG (us := [.ref a]) (vs := [.ref a]) F (hr.mono hk) b d passL I1 (Paired.cons rfl .nil) q)
end

/-! ### operators by the text's own methods -/
section
variable {X : Cx} {k j : Nat} {C : Addr} {m : Str} {sp : Sp}
theorem cmpBack_of {pins : List (Addr × Obj)} {σ : L2.St} {Q : VK} {u : Value} {s : Shared} (h : EP X pins σ Q u s) : PySem.W.CmpBack (EP X pins σ Q) u s := by
  obtain ⟨v, H', I, r, q⟩ := id h
  cases v <;> first | (cases r; exact h) | (obtain ⟨_, rfl⟩ := r; exact h)
/-- two instances of the class at C -/
def rOwn2 (C : Addr) (sp : Sp) : R2 := fun x y H Q => ∃ a b dx fs dy gs, x = .ref a ∧ y = .ref b ∧ H a = some (.ins C dx fs) ∧ H b = some (.ins C dy gs) ∧ sp [.ref a, .ref b] H Q E0
theorem op_own2 {op : Operator} (c : Met X.prog X.w X.K X.mg X.base k C m sp []) (hsf : PySem.W.selfFirst X.K C = true) (hr : Rm j X.A) (hk : k ≤ j) (hm : PySem.dunder op.info.2 = m := by rfl) : OpR X (binaryOp op) (rOwn2 C sp) := by
  intro pins s σ H x y v u Q I rx ry h
  obtain ⟨a, b, dx, fs, dy, gs, rfl, rfl, ha, hb, want⟩ := h
  cases rx; cases ry
  obtain ⟨f, fd, ps, ds, hc, me, F, bd, dv⟩ := c.ex
  obtain ⟨mA, J, _⟩ := ins_get I.hok ha
  obtain ⟨mB, J', _⟩ := ins_get I.hok hb
  obtain ⟨od, J, _⟩ := J.look
  obtain ⟨od', J', _⟩ := J'.look
  obtain ⟨mm, hF⟩ := I.fr
  subst hm
  refine PySem.W.binop_K hF I.ok.mod.kin J J'.type hsf me.at_ me.fn ?_
  refine wpAny_mono (runG (us := [.ref a, .ref b]) (vs := [.ref a, .ref b]) F (hr.mono hk) bd dv passL I (.cons rfl (.cons rfl .nil)) ?_) (fun _ _ z => cmpBack_of z) fun _ _ z => z
  simpa using want
/-- what an int (and any such built-in) has of an operator -/
structure OpT (K : PySem.W.Frag) (C : Addr) (T : String) (op : Operator) : Prop where
  r : ∃ rc : Option Value, PySem.W.findIn K (.ref C) (dunderR op.info.2) = some rc ∧ (rc = none ∨ ∃ g : Addr, rc = some (.ref g))
  f : ∃ fo : Option Value, PySem.W.findIn K (.type T) (PySem.dunder op.info.2) = some fo
  g : ∃ ro : Option Value, PySem.W.findIn K (.type T) (dunderR op.info.2) = some ro
  s : PySem.W.subIn K (.type T) (.ref C) = some false
/-- an instance and an int -/
def rOwnI (C : Addr) (sp : Sp) : R2 := fun x y H Q => ∃ a dx fs i, x = .ref a ∧ y = .int i ∧ H a = some (.ins C dx fs) ∧ sp [.ref a, .int i] H Q E0
theorem op_ownI {op : Operator} (c : Met X.prog X.w X.K X.mg X.base k C m sp []) (hsf : PySem.W.selfFirst X.K C = true) (ht : OpT X.K C "int" op) (hr : Rm j X.A) (hk : k ≤ j) (hm : PySem.dunder op.info.2 = m := by rfl) : OpR X (binaryOp op) (rOwnI C sp) := by
  intro pins s σ H x y v u Q I rx ry h
  obtain ⟨a, dx, fs, i, rfl, rfl, ha, want⟩ := h
  cases rx; obtain ⟨tk, rfl⟩ := ry
  obtain ⟨f, fd, ps, ds, hc, me, F, bd, dv⟩ := c.ex
  obtain ⟨mA, J, _⟩ := ins_get I.hok ha
  obtain ⟨od, J, _⟩ := J.look
  obtain ⟨mm, hF⟩ := I.fr
  obtain ⟨⟨rc, h1, h2⟩, ⟨fo, h3⟩, ⟨ro, h4⟩, h5⟩ := ht
  subst hm
  refine PySem.W.ksp_binT (T := "int") hF I.ok.mod.kin J rfl hsf me.at_ me.fn h1 h2 h3 h4 h5 ?_
  refine wpAny_mono (runG (us := [.ref a, .int i tk]) (vs := [.ref a, .int i]) F (hr.mono hk) bd dv passL I (.cons rfl (.cons ⟨tk, rfl⟩ .nil)) ?_) (fun _ _ z => cmpBack_of z) fun _ _ z => z
  simpa using want
/-- - of an instance -/
def rOwn1 (C : Addr) (sp : Sp) : V → Hp → VK → Prop := fun x H Q => ∃ a dx fs, x = .ref a ∧ H a = some (.ins C dx fs) ∧ sp [.ref a] H Q E0
theorem un_own (c : Met X.prog X.w X.K X.mg X.base k C "__neg__" sp []) (hr : Rm j X.A) (hk : k ≤ j) : UnR X (unaryOp .USub) (rOwn1 C sp) := by
  intro pins s σ H x v Q I rx h
  obtain ⟨a, dx, fs, rfl, ha, want⟩ := h
  cases rx
  obtain ⟨f, fd, ps, ds, hc, me, F, bd, dv⟩ := c.ex
  obtain ⟨mA, J, _⟩ := ins_get I.hok ha
  obtain ⟨od, J, _⟩ := J.look
  obtain ⟨mm, hF⟩ := I.fr
  refine PySem.W.ksp_neg hF I.ok.mod.kin J me.at_ me.fn ?_
  exact runG (us := [.ref a]) (vs := [.ref a]) F (hr.mono hk) bd dv passL I (.cons rfl .nil) (by simpa using want)
end

/-! ### repr of data -/
section
variable {X : Cx} {j : Nat}
def rRepr (K : PySem.W.Frag) : List V → Hp → VK → Prop := fun xs H Q => ∃ (x : V) (d : PyData), xs = [x] ∧ Dp K H x d ∧ d.showable = true ∧ d.depth ≤ 60 ∧ d.shown.length ≤ sizeLine ∧ Q (.str d.shown) H
mutual
theorem noDict {K : PySem.W.Frag} {H : Hp} : ∀ {d : PyData} {x : V}, Dp K H x d → d.hasDict = false
  | _, _, .non => rfl
  | _, _, .bl _ => rfl
  | _, _, .int _ => rfl
  | _, _, .str _ => rfl
  | _, _, .lst _ h => by simpa [PyData.hasDict] using noDicts h
  | _, _, .tup _ h => by simpa [PyData.hasDict] using noDicts h
theorem noDicts {K : PySem.W.Frag} {H : Hp} : ∀ {ds : List PyData} {xs : List V}, DpAll K H xs ds → PyData.hasDictAll ds = false
  | _, _, .nil => rfl
  | _, _, .cons h r => by simp [PyData.hasDictAll, noDict h, noDicts r]
end
theorem call_repr (hr : Rm j X.A) : CallR X (.builtin "repr") (rRepr X.K) := by
  intro pins s σ H xs us Q I r h
  obtain ⟨x, d, rfl, hd, hs, hdp, hz, q⟩ := h
  obtain ⟨u, rfl, ru⟩ := vals1 r
  have un := hr.room.units
  cases hd with
  | non =>
    cases ru
    exact P.repr_of_none ⟨.str _, H, I.tok _, ⟨_, rfl⟩, q⟩
  | bl b =>
    cases ru
    refine P.repr_of_bool ⟨.str _, H, I.tok _, ⟨_, rfl⟩, ?_⟩
    simpa [PyData.shown] using q
  | int i =>
    obtain ⟨t, rfl⟩ := ru
    refine P.repr_of_int (by simpa [PyData.showable] using hs) ⟨.str _, H, I.tok _, ⟨_, rfl⟩, ?_⟩
    simpa [PyData.shown] using q
  | str x =>
    obtain ⟨t, rfl⟩ := ru
    refine P.repr_of_str ⟨.str _, H, I.tok _, ⟨_, rfl⟩, ?_⟩ (by simpa [PyData.shown] using hz)
    simpa [PyData.shown] using q
  | lst hsq ha =>
    have nd := noDict (.lst hsq ha)
    obtain ⟨as, rd⟩ := Dp.reads I _ _ _ (.lst hsq ha) ru
    cases ru
    refine repr_of_reads' rd hs (fun z => by rw [nd] at z; cases z) hr.gd (by omega) (fun _ _ z => z) (fun h' u tk k => ?_) hz
    exact ⟨.str _, H, I.kept k, ⟨_, rfl⟩, q⟩
  | tup hsq ha =>
    have nd := noDict (.tup hsq ha)
    obtain ⟨as, rd⟩ := Dp.reads I _ _ _ (.tup hsq ha) ru
    cases ru
    refine repr_of_reads' rd hs (fun z => by rw [nd] at z; cases z) hr.gd (by omega) (fun _ _ z => z) (fun h' u tk k => ?_) hz
    exact ⟨.str _, H, I.kept k, ⟨_, rfl⟩, q⟩
end

/-! ### built-in functions, by named readings -/
section
variable {X : Cx}
def rInt : List V → Hp → VK → Prop := fun xs H Q => (∃ i, xs = [.int i] ∧ Q (.int i) H) ∨ ∃ k, xs = [.bl k] ∧ Q (.int (if k then 1 else 0)) H
theorem c_int : CallR X (.type "int") rInt := call_int1
def rAbs : List V → Hp → VK → Prop := fun xs H Q => ∃ i, xs = [.int i] ∧ Q (.int (if i < 0 then -i else i)) H
theorem c_abs : CallR X (.builtin "abs") rAbs := call_abs
def rLenQ (K : PySem.W.Frag) : List V → Hp → VK → Prop := fun xs H Q => ∃ p ys, xs = [.ref p] ∧ (SqL K H p ys ∨ SqT K H p ys) ∧ Q (.int ys.length) H
theorem c_len : CallR X (.builtin "len") (rLenQ X.K) := call_len_seq
def rLenT : List V → Hp → VK → Prop := fun xs H Q => ∃ z, xs = [.str z] ∧ z.length ≤ sizeLine ∧ Q (.int z.length) H
theorem c_lenS : CallR X (.builtin "len") rLenT := call_len_str
def rListOf (K : PySem.W.Frag) : List V → Hp → VK → Prop := fun xs H Q => ∃ p ys, xs = [.ref p] ∧ (SqL K H p ys ∨ SqT K H p ys) ∧ ∀ l, H l = none → Q (.ref l) (upd H l (.lst ys))
theorem c_list : CallR X (.type "list") (rListOf X.K) := call_list_of
variable {K : PySem.W.Frag} {σ : L2.St} {H : Hp} {Q : VK}
theorem r_int {i : Int} (h : Q (.int i) H) : rInt [.int i] H Q := .inl ⟨i, rfl, h⟩
theorem r_intB {b : Bool} (h : Q (.int (if b then 1 else 0)) H) : rInt [.bl b] H Q := .inr ⟨b, rfl, h⟩
theorem r_abs {i : Int} (h : Q (.int (if i < 0 then -i else i)) H) : rAbs [.int i] H Q := ⟨i, rfl, h⟩
theorem r_lenL {p : Addr} {ys : List V} (h0 : H p = some (.lst ys)) (h : Q (.int ys.length) H) : rLenQ K [.ref p] H Q := ⟨p, ys, rfl, .inl (SqL.of h0), h⟩
theorem r_lenT {p : Addr} {ys : List V} (h0 : H p = some (.tup ys)) (h : Q (.int ys.length) H) : rLenQ K [.ref p] H Q := ⟨p, ys, rfl, .inr (SqT.of h0), h⟩
theorem r_lenSq {p : Addr} {ys : List V} (h0 : SqL K H p ys) (h : Q (.int ys.length) H) : rLenQ K [.ref p] H Q := ⟨p, ys, rfl, .inl h0, h⟩
theorem r_lenS {z : Str} (h0 : z.length ≤ sizeLine) (h : Q (.int z.length) H) : rLenT [.str z] H Q := ⟨z, rfl, h0, h⟩
theorem r_listL {p : Addr} {ys : List V} (h0 : SqL K H p ys) (h : ∀ l H', Same H H' → H' l = some (.lst ys) → H l = none → Q (.ref l) H') : rListOf K [.ref p] H Q := ⟨p, ys, rfl, .inl h0, al h⟩
theorem r_ixL' {p : Addr} {xs : List V} {i : Int} {v : V} (h0 : H p = some (.lst xs)) (h1 : atI xs i = some v) (h : Q v H) : rIxL K (.ref p) (.int i) H Q := r_ixL (SqL.of h0) h1 h
theorem r_ixT' {p : Addr} {xs : List V} {i : Int} {v : V} (h0 : H p = some (.tup xs)) (h1 : atI xs i = some v) (h : Q v H) : rIxT K (.ref p) (.int i) H Q := r_ixT (SqT.of h0) h1 h
theorem u_tup' {tA : TA} (h : tA σ H fun xs H1 => xs.length ≤ sizeLine ∧ ∀ p H', Same H1 H' → H' p = some (.tup xs) → H1 p = none → Q (.ref p) H') : ∀ (hm : ∀ (R R' : List V → Hp → Prop), (∀ xs H1, R xs H1 → R' xs H1) → tA σ H R → tA σ H R'), tTup tA σ H Q :=
  fun hm => hm _ _ (fun xs H1 z => ⟨z.1, al z.2⟩) h
def kLst (Q : VK) : List V → Hp → Prop := fun xs H1 => xs.length ≤ sizeLine ∧ ∀ p, H1 p = none → Q (.ref p) (upd H1 p (.lst xs))
def kTup (Q : VK) : List V → Hp → Prop := fun xs H1 => xs.length ≤ sizeLine ∧ ∀ p, H1 p = none → Q (.ref p) (upd H1 p (.tup xs))
theorem u_lstK {tA : TA} (h : tA σ H (kLst Q)) : tLst tA σ H Q := h
theorem u_tupK {tA : TA} (h : tA σ H (kTup Q)) : tTup tA σ H Q := h
theorem k_lst {xs : List V} (h0 : xs.length ≤ 1000) (h : ∀ p H', Same H H' → H' p = some (.lst xs) → H p = none → Q (.ref p) H') : kLst Q xs H := ⟨Nat.le_trans h0 (by decide), al h⟩
theorem k_tup {xs : List V} (h0 : xs.length ≤ 1000) (h : ∀ p H', Same H H' → H' p = some (.tup xs) → H p = none → Q (.ref p) H') : kTup Q xs H := ⟨Nat.le_trans h0 (by decide), al h⟩
def kPar (D : Ends) (σ : L2.St) (i j : Nat) : List V → Hp → Prop := fun vs H1 => ∃ v w, vs = [v, w] ∧ D.nx ((σ.set i (some v)).set j (some w)) H1
theorem u_parK {D : Ends} {tA : TA} {i j : Nat} (h : tA σ H (kPar D σ i j)) : tPar i j tA D σ H := h
theorem k_par {D : Ends} {i j : Nat} {v w : V} (h : D.nx ((σ.set i (some v)).set j (some w)) H) : kPar D σ i j [v, w] H := ⟨v, w, rfl, h⟩
end
/-- K of a body's context -/
theorem cxK (CX : CXT) (P : Program) (w : World) (K : PySem.W.Frag) (mg : Str → Option Value) (base : Heap) (N : List Str) (q : Str) (sc : Scope) (f : Addr) (cd : Value) (A : Around) (out : List Env) (s : Shared) (H : Hp) (E : XK) :
    (cxOf CX P w K mg base N q sc f cd A out s H E).nox.K = K := rfl
theorem cxK' (CX : CXT) (P : Program) (w : World) (K : PySem.W.Frag) (mg : Str → Option Value) (base : Heap) (N : List Str) (q : Str) (sc : Scope) (f : Addr) (cd : Value) (A : Around) (out : List Env) (s : Shared) (H : Hp) (E : XK) :
    (cxOf CX P w K mg base N q sc f cd A out s H E).K = K := rfl

/-! ### ints with conditions -/
section
variable {H : Hp} {Q : VK}
theorem r_mod {i j : Int} (h0 : 0 < j) (h : 0 ≤ i % j → i % j < j → Q (.int (i % j)) H) : rI (fun _ j => 0 < j) (fun i j => .int (i % j)) (.int i) (.int j) H Q :=
  ⟨i, j, rfl, rfl, h0, h (Int.emod_nonneg i (by omega)) (Int.emod_lt_of_pos i h0)⟩
theorem r_mul {i j : Int} (h0 : (-18446744073709551616 < i ∧ i < 18446744073709551616) ∨ (-18446744073709551616 < j ∧ j < 18446744073709551616)) (h : Q (.int (i * j)) H) : rI CMul (fun i j => .int (i * j)) (.int i) (.int j) H Q :=
  ⟨i, j, rfl, rfl, h0.imp (fun z => ⟨by omega, by omega⟩) (fun z => ⟨by omega, by omega⟩), h⟩
theorem r_div {i j : Int} (h0 : 0 < j) (h1 : j < 18446744073709551616) (h : Q (.int (i / j)) H) : rI CDivW (fun i j => .int (i / j)) (.int i) (.int j) H Q :=
  ⟨i, j, rfl, rfl, wide_div (b := 64) h0 (by omega) (by decide) (by decide), h⟩
theorem r_pow {i j z : Int} (h0 : 0 ≤ j) (h1 : j ≤ 1000000) (h2 : -18446744073709551616 < i ∧ i < 18446744073709551616) (hz : i ^ j.toNat = z) (h : Q (.int z) H) : rI CPow (fun i j => .int (i ^ j.toNat)) (.int i) (.int j) H Q :=
  ⟨i, j, rfl, rfl, ⟨h0, h1, by omega⟩, by dsimp only; rw [hz]; exact h⟩
theorem SP.pen {p L : Addr} {a r : Int} {o : HO} (hp : H p = some (.lst [.ref L, .int a, .int r])) : SP H (upd H p o) := fun b u e n => by
  have : b ≠ p := fun q => by
    rw [q, hp] at e
    cases e
    cases n
  rw [upd_ne this]
  exact e
theorem penL {p L : Addr} {a r : Int} {ns : List Int} {o : HO} (hp : H p = some (.lst [.ref L, .int a, .int r])) (hL : H L = some (.lst (ns.map V.int))) : upd H p o L = some (.lst (ns.map V.int)) := by
  refine SP.pen hp L _ hL (isPen_ints ns)
end

/-! ### lists of ints as data -/
theorem canLay_ints : ∀ ns : List Int, PyData.canLayAll0 (ns.map PyData.int) = true
  | [] => rfl
  | a :: r => by simp [PyData.canLayAll0, PyData.canLay0, canLay_ints r]
theorem depth_ints : ∀ ns : List Int, PyData.depthAll (ns.map PyData.int) = 0
  | [] => rfl
  | a :: r => by simp [PyData.depthAll, PyData.depth, depth_ints r]
theorem shaped_ints (ns : List Int) : SeqAt.shaped (.list (ns.map PyData.int)) = true := by
  simp [SeqAt.shaped, PyData.canLay0, PyData.depth, canLay_ints, depth_ints]
theorem dp_ints {K : PySem.W.Frag} {H : Hp} : ∀ ns : List Int, DpAll K H (ns.map V.int) (ns.map PyData.int)
  | [] => .nil
  | a :: r => .cons (.int a) (dp_ints r)
theorem r_ne0 {K : PySem.W.Frag} {H : Hp} {Q : VK} {a b : Addr} {ns : List Int} (h1 : H a = some (.lst (ns.map V.int))) (h2 : H b = some (.lst [])) (h : Q (.bl (!decide (ns = []))) H) : rNeD K (.ref a) (.ref b) H Q := by
  refine ⟨.list (ns.map .int), .list [], .lst (SqL.of h1) (dp_ints ns), .lst (SqL.of h2) .nil, shaped_ints ns, rfl, ?_⟩
  cases ns with
  | nil => simpa [PyData.eqv, PyData.eqvAll] using h
  | cons a r => simpa [PyData.eqv, PyData.eqvAll] using h

/-! ### bounds of the draws -/
theorem mulB {x y X Y : Int} (h0 : 0 ≤ x) (h1 : x ≤ X) (h2 : 0 ≤ y) (h3 : y ≤ Y) : 0 ≤ x * y ∧ x * y ≤ X * Y :=
  ⟨Int.mul_nonneg h0 h2, Int.mul_le_mul h1 h3 h2 (Int.le_trans h0 h1)⟩
theorem drawB {m b c a d : Int} (hm0 : 0 ≤ m) (hm : m < 4294967296) (hb0 : 0 ≤ b) (hb : b ≤ 100000000) (ha0 : 0 ≤ a) (ha : a ≤ 1000001) (hc0 : 0 ≤ c) (hc : c ≤ 1000000) (hd0 : 0 ≤ d) (hd : d ≤ 1000000) :
    -18446744073709551616 < m * b + c * a * a + d ∧ m * b + c * a * a + d < 18446744073709551616 := by
  obtain ⟨h1, h2⟩ := mulB hm0 (Int.le_of_lt hm) hb0 hb
  obtain ⟨h3, h4⟩ := mulB hc0 hc ha0 ha
  obtain ⟨h5, h6⟩ := mulB h3 h4 ha0 ha
  omega
theorem atI_ints {ns : List Int} {a : Int} (h0 : 0 ≤ a) (h1 : a < (ns.length : Int)) : ∃ c, atI (ns.map V.int) a = some (.int c) := by
  have hj : a.toNat < ns.length := by omega
  refine ⟨ns[a.toNat], ?_⟩
  have e : a = ((a.toNat : Nat) : Int) := by omega
  have z := atI_nat (xs := ns.map V.int) (j := a.toNat) (v := .int ns[a.toNat]) (by rw [List.getElem?_map, List.getElem?_eq_getElem hj]; rfl)
  rw [← e] at z
  exact z

/-! ### instances compared and called; static methods -/
section
variable {X : Cx} {k j : Nat} {C p g : Addr} {m x : Str} {sp : Sp} {mc : Value}
theorem op_ownEq (c : Met X.prog X.w X.K X.mg X.base k C "__eq__" sp []) (hr : Rm j X.A) (hk : k ≤ j) : OpR X (compareOp .Eq) (rOwn2 C sp) := by
  intro pins s σ H x y v u Q I rx ry h
  obtain ⟨a, b, dx, fs, dy, gs, rfl, rfl, ha, hb, want⟩ := h
  cases rx; cases ry
  obtain ⟨f, fd, ps, ds, hc, me, F, bd, dv⟩ := c.ex
  obtain ⟨mA, J, _⟩ := ins_get I.hok ha
  obtain ⟨mB, J', _⟩ := ins_get I.hok hb
  obtain ⟨od, J, _⟩ := J.look
  obtain ⟨od', J', _⟩ := J'.look
  obtain ⟨mm, hF⟩ := I.fr
  show wpAny (model X.prog X.w) X.A (richCompare .Eq (.ref a) (.ref b)) (EP X pins σ Q) X.xe s
  refine PySem.W.cmp_K (op := .Eq) (tb := .ref C) hr.room.units0 hF I.ok.mod.kin J J'.type (by simp [PySem.W.notFirst]) me.at_ me.fn ?_
  refine wpAny_mono (runG (us := [.ref a, .ref b]) (vs := [.ref a, .ref b]) F (hr.mono hk) bd dv passL I (.cons rfl (.cons rfl .nil)) ?_) (fun _ _ z => cmpBack_of z) fun _ _ z => z
  simpa using want
/-- f(e, ..), f an instance of the class at C -/
def tOwnC (C : Addr) (sp : Sp) (tf : TE) (t : TA) : TE := fun σ H Q => tf σ H fun y H1 => ∃ a, y = .ref a ∧ t σ H1 fun vs H2 => (∃ dx fs, H2 a = some (.ins C dx fs)) ∧ sp (.ref a :: vs) H2 Q E0
theorem goOwn {pins : List (Addr × Obj)} {σ : L2.St} {H : Hp} {s : Shared} {Q : VK} {a : Addr} {us : List Value} {vs : List V} (c : Met X.prog X.w X.K X.mg X.base k C "__call__" sp []) (fi : ∀ f, PySem.W.findIn X.K (.ref C) "__call__" = some (some (.ref f)) → PySem.W.fnIn X.K f = true)
    (hr : Rm j X.A) (hk : k ≤ j) (I : Inv X pins σ H s) (hi : ∃ dx fs, H a = some (.ins C dx fs)) (r : Vals vs us) (h : sp (.ref a :: vs) H Q E0) : wpAny (model X.prog X.w) X.A (call (.ref a) us) (EP X pins σ Q) X.xe s := by
  obtain ⟨f, fd, ps, ds, hc, me, F, bd, dv⟩ := c.ex
  obtain ⟨dx, fs, ha⟩ := hi
  obtain ⟨mA, J, _⟩ := ins_get I.hok ha
  obtain ⟨od, J, _⟩ := J.look
  have r2 : Vals (.ref a :: vs) (.ref a :: us) := Paired.cons rfl r
  have dn : ds = [] := by cases dv; rfl
  subst dn
  have hl : (Value.ref a :: us ++ []).length = ps.length := by
    rw [List.append_nil]
    exact r2.length.symm.trans (F.len _ _ _ _ h)
  have b2 := bd s (.ref a :: us) I.kIn hl
  rw [List.append_nil] at b2
  refine wpAny_call (PySem.W.kco_code I.kIn J rfl me.at_ me.fn (fi f me.at_) (codeAny_mono (F.run X.A X.stack s H ⟨.ref a :: us, []⟩ (.ref a :: us) (.ref a :: vs) Q E0 (hr.mono hk) I.env0 b2 r2 h) ?_))
  intro res s' z
  match res, z with
  | .error e, z => exact passL pins σ H s e s' I z
  | .ok (.ret u), z => exact I.after z
  | .ok .next, z => exact False.elim z
  | .ok .brk, z => exact False.elim z
  | .ok .cont, z => exact False.elim z
variable {e fe o : Expr} {es : List Expr} {tf ta : TE} {t : TA} {pp pos apos : Pos}
theorem pe_ownN (c : Met X.prog X.w X.K X.mg X.base k C "__call__" sp []) (fi : ∀ f, PySem.W.findIn X.K (.ref C) "__call__" = some (some (.ref f)) → PySem.W.fnIn X.K f = true) (hr : Rm j X.A) (hk : k ≤ j) (hf : PE X (.Name x pp) tf) (ha : PA X (e :: es) t)
    (he : starEach (e :: es) X.env = (false, eval e X.env) :: starEach es X.env := by rfl) (hpl : (backTo pos (starEach es X.env)).any (·.1) = false := by rfl) : PE X (.Call (.Name x pp) (e :: es) [] pos) (tOwnC C sp tf t) := by
  constructor
  intro pins s σ H Q I h
  refine wpAny_Call_Name_kw (thn (hf.run pins s σ H _ I h) ?_)
  rintro u s1 ⟨y, H1, I1, ry, a, rfl, q⟩
  cases ry
  refine StX.callO_with (thn (ha.run pos pins s1 σ H1 _ I1 q) ?_) he hpl
  rintro us s2 ⟨vs, H2, I2, r, hi, q2⟩
  obtain ⟨dx, fs, hh⟩ := id hi
  obtain ⟨mA, J, _⟩ := ins_get I2.hok hh
  obtain ⟨od, J, _⟩ := J.look
  exact ⟨⟨C, _, _, J, rfl⟩, goOwn c fi hr hk I2 hi r q2⟩
theorem pe_ownE (c : Met X.prog X.w X.K X.mg X.base k C "__call__" sp []) (fi : ∀ f, PySem.W.findIn X.K (.ref C) "__call__" = some (some (.ref f)) → PySem.W.fnIn X.K f = true) (hr : Rm j X.A) (hk : k ≤ j) (hf : PE X fe tf) (ha : PA X (e :: es) t)
    (ht : eval (.Call fe (e :: es) [] pos) X.env = (do callWith pos (← eval fe X.env) [] (backTo pos (starEach (e :: es) X.env)) (backToKw pos (keywordEach [] X.env))) := by rfl)
    (he : starEach (e :: es) X.env = (false, eval e X.env) :: starEach es X.env := by rfl) (hpl : (backTo pos (starEach es X.env)).any (·.1) = false := by rfl) : PE X (.Call fe (e :: es) [] pos) (tOwnC C sp tf t) := by
  constructor
  intro pins s σ H Q I h
  refine Call_ (thn (hf.run pins s σ H _ I h) ?_) ht
  rintro u s1 ⟨y, H1, I1, ry, a, rfl, q⟩
  cases ry
  refine StX.callO_with (thn (ha.run pos pins s1 σ H1 _ I1 q) ?_) he hpl
  rintro us s2 ⟨vs, H2, I2, r, hi, q2⟩
  obtain ⟨dx, fs, hh⟩ := id hi
  obtain ⟨mA, J, _⟩ := ins_get I2.hok hh
  obtain ⟨od, J, _⟩ := J.look
  exact ⟨⟨C, _, _, J, rfl⟩, goOwn c fi hr hk I2 hi r q2⟩
/-- C.m, a static method: its record at p, its def at g -/
structure SMet (K : PySem.W.Frag) (C : Addr) (mc : Value) (m : Str) (p g : Addr) : Prop where
  rd : PySem.W.readsIn K C mc = true
  ga : PySem.W.specialIn K (.ref C) "__getattribute__" = some (some (.builtin "type.__getattribute__"))
  at_ : PySem.W.findCls K (.ref C) mc m = some (.get (.builtin "staticmethod.__get__") (.ref p) .none (.ref C))
  rc : ∃ rest, PySem.W.recIn K p "staticmethod" = some (.ref g :: rest)
  kp : PySem.W.keepIn K (.ref g) = true
/-- a static method's promise -/
structure Sta (P : Program) (w : World) (K : PySem.W.Frag) (mg : Str → Option Value) (base : Heap) (k : Nat) (C : Addr) (m : Str) (sp : Sp) (dvs : List V) : Prop where
  ex : ∃ (mc : Value) (p g : Addr) (fd : FuncData) (ps : List Str) (ds : List Value), SMet K C mc m p g ∧ FnG P w K mg base k g fd ps sp ∧ Binds K fd ps ds ∧ Vals dvs ds
structure StaAt (K : PySem.W.Frag) (C : Addr) (m qual : Str) (st : Stmt) (ps : List Str) (dvs : List V) : Prop where
  ex : ∃ (mc : Value) (p g : Addr) (fd : FuncData) (ds : List Value), SMet K C mc m p g ∧ C8.Fun K m qual st g fd ∧ Binds K fd ps ds ∧ Vals dvs ds
def tSMeth (C : Addr) (sp : Sp) (dvs : List V) (E : XK) (ta : TE) (t : TA) : TE := fun σ H Q => ta σ H fun x H1 => x = .ref C ∧ t σ H1 fun vs H2 => sp (vs ++ dvs) H2 Q E
theorem pe_smE {dvs : List V} {E : XK} {pl : Sem Bool} (c : Sta X.prog X.w X.K X.mg X.base k C m sp dvs) (hr : Rm j X.A) (hk : k ≤ j) (hx : Passes (L2.CX X.prog X.w) X E) (ho : PE X o ta) (ha : PA X (e :: es) t)
    (hst : starEach (e :: es) X.env = (false, eval e X.env) :: starEach es X.env := by rfl) (hpl : (backTo pos (starEach es X.env)).any (·.1) = false := by rfl)
    (ht : eval (.Call (.Attribute o m apos) (e :: es) [] pos) X.env = (do
      let ov ← eval o X.env
      standAt apos.atName
      let (g, first) ← holding [ov] (getMethod ov m pl)
      callWith pos g first (backTo pos (starEach (e :: es) X.env)) (backToKw pos (keywordEach [] X.env))) := by rfl) : PE X (.Call (.Attribute o m apos) (e :: es) [] pos) (tSMeth C sp dvs E ta t) := by
  obtain ⟨mc, p, g, fd, ps, ds, S, F, bd, dv⟩ := c.ex
  constructor
  intro pins s σ H Q I h
  refine PySem.W.methodCall_KW (pl := pl) (thn (ho.run pins s σ H _ I h) ?_) ht
  rintro u s1 ⟨x, H1, I1, rx, rfl, q⟩
  cases rx
  obtain ⟨rest, hp⟩ := S.rc
  refine PySem.W.method_cls I1.kIn S.ga (PySem.W.cls_bind I1.kIn S.rd S.at_ (wpAny_call (PySem.W.sm_get (s := { s1 with toks := s1.toks + 1 }) I1.kIn hp (PySem.W.handed_on rfl ?_))))
  refine PySem.W.callWith_K (first := []) (h₀ := X.base) I.ok.mod.kin S.kp (thn (ha.run pos pins _ σ H1 _ (I1.tok _) q) ?_) hst hpl
  rintro us s2 ⟨vs, H2, I2, r, q2⟩
  exact ⟨I2.kIn, runG F (hr.mono hk) bd dv hx I2 r q2⟩
theorem pe_sm {dvs : List V} {pl : Sem Bool} (c : Sta X.prog X.w X.K X.mg X.base k C m sp dvs) (hr : Rm j X.A) (hk : k ≤ j) (ho : PE X o ta) (ha : PA X (e :: es) t)
    (hst : starEach (e :: es) X.env = (false, eval e X.env) :: starEach es X.env := by rfl) (hpl : (backTo pos (starEach es X.env)).any (·.1) = false := by rfl)
    (ht : eval (.Call (.Attribute o m apos) (e :: es) [] pos) X.env = (do
      let ov ← eval o X.env
      standAt apos.atName
      let (g, first) ← holding [ov] (getMethod ov m pl)
      callWith pos g first (backTo pos (starEach (e :: es) X.env)) (backToKw pos (keywordEach [] X.env))) := by rfl) : PE X (.Call (.Attribute o m apos) (e :: es) [] pos) (tSMeth C sp dvs E0 ta t) :=
  pe_smE (pl := pl) c hr hk passL ho ha hst hpl ht
end
section
variable {P : Program} {w : World} {K : PySem.W.Frag} {mg : Str → Option Value} {base : Heap} {k : Nat} {C : Addr} {x m qual : Str} {st : Stmt} {ps N : List Str} {dvs : List V} {sp : Sp}
theorem sta0 (D : StaAt K C m qual st ps dvs) (S : FnScope N ps (C8.fnScope st)) (len : ∀ vs H Q E, sp vs H Q E → vs.length = ps.length)
    (hb : ∀ (f : Addr) (cdv : Value) (A : Around) (out : List Env) (s : Shared) (H : Hp) (vs : List V) (Q : VK) (E : XK), Rm k (A.deeper (envOfC qual (C8.fnScope st) s.heap.objs.size f cdv)) → sp vs H Q E →
      ∃ t, PSs (cxOf (L2.CX P w) P w K mg base N qual (C8.fnScope st) f cdv A out s H E).nox (C8.fnBody st) t ∧ t { nx := fun _ H' => Q .non H', rt := Q } (start N vs) H) : Sta P w K mg base (k + 1) C m sp dvs := by
  obtain ⟨mc, p, g, fd, ds, c, F, b, v⟩ := D.ex
  exact ⟨mc, p, g, fd, ps, ds, c, fnG0 F S len (hb g), b, v⟩
theorem staX (D : StaAt K C m qual st ps dvs) (S : FnScope N ps (C8.fnScope st)) (len : ∀ vs H Q E, sp vs H Q E → vs.length = ps.length)
    (hb : ∀ (f : Addr) (cdv : Value) (A : Around) (out : List Env) (s : Shared) (H : Hp) (vs : List V) (Q : VK) (E : XK), Rm k (A.deeper (envOfC qual (C8.fnScope st) s.heap.objs.size f cdv)) → sp vs H Q E →
      ∃ t, PSs (cxOf (L2.CX P w) P w K mg base N qual (C8.fnScope st) f cdv A out s H E) (C8.fnBody st) t ∧ t { nx := fun _ H' => Q .non H', rt := Q } (start N vs) H) : Sta P w K mg base (k + 1) C m sp dvs := by
  obtain ⟨mc, p, g, fd, ds, c, F, b, v⟩ := D.ex
  exact ⟨mc, p, g, fd, ps, ds, c, fnGX F S len (hb g), b, v⟩
end
/-! ### isinstance, by named readings -/
section
variable {K : PySem.W.Frag} {H : Hp} {Q : VK}
theorem r_isiS {z : Str} {c : V} {u : Value} {b : Bool} (hc : ClsV c u) (h0 : PySem.W.kitOne K (.type "str") u = some b) (h : Q (.bl b) H) : rIsi K [.str z, c] H Q := ⟨_, _, _, _, _, rfl, hc, .base (.str z), h0, h⟩
theorem kit_same (K : PySem.W.Frag) (t : Value) : PySem.W.kitOne K t t = some true := by unfold PySem.W.kitOne; rw [if_pos (beq_self_eq_true t)]
end

/-! ### an int times an instance -/
section
open PySem.W
theorem intmul_obj (a : Int) (t : Tok) (x C dx : Addr) :
    Meets (Builtin.«int.__mul__» ⟨[.int a t, .ref x], []⟩) (fun _ R s => s.heap.get? x = some (PySem.W.instObj C dx) ∧ R (.ok (.ret Value.notImplemented)) s) :=
  .of_wp fun prog w A R s h => by
    obtain ⟨hp, g, d, tk, os⟩ := s
    obtain ⟨hl, h⟩ := h
    unfold PySem.W.instObj at hl
    wp_walk
    exact ⟨_, rfl, h⟩
section
variable {prog : Program} {w : World} {A : Around} {E : Value → Shared → Prop} {s : Shared} {K : Frag} {x C dx L f g : Addr} {h₀ : Heap} {m : Str → Option Value} {od : Option Obj}
theorem intmul_call {i : Int} {t : Tok} {Q : Value → Shared → Prop} (I : s.heap.get? x = some (instObj C dx)) (h : Q .notImplemented s) : wpAny (model prog w) A (call (.builtin "int.__mul__") [.int i t, .ref x]) Q E s :=
  call_meets F.slot_int_mul (typeIs_int s i t) F.entry_int_mul (F.args_int_mul_2 _ _) (intmul_obj i t x C dx) ⟨I, h⟩
theorem intmul_try {i : Int} {t : Tok} {Q : Option Value → Shared → Prop} (I : s.heap.get? x = some (instObj C dx)) (h : Q none s) : wpAny (model prog w) A (tryMethod (.int i t) (PySem.dunder "mul") (.ref x)) Q E s := by
  exact @wpAny_tryMethod_declines (model prog w) A E s (.int i t) (.ref x) "int" (PySem.dunder "mul") "int.__mul__" Q (typeIs_int s i t) F.slot_int_mul (intmul_call I (And.intro rfl h))
theorem rmul1_K {i : Int} {t : Tok} {Q : Value → Shared → Prop} (X : K.In s.heap) (I : InstAt s.heap x (instObj C dx) C od) (hc : selfFirst K C = true)
    (hs : findIn K (.ref C) "__mul__" = some (some (.ref f))) (hr : findIn K (.ref C) "__rmul__" = some (some (.ref g))) (hg : isFn K (.ref g) = true) (hsub : subIn K (.ref C) (.type "int") = some false)
    (h : wpAny (model prog w) A (call (.ref g) [.ref x, .int i t]) (PySem.W.CmpBack Q) E s) : wpAny (model prog w) A (binaryOp1 "mul" (.int i t) (.ref x)) (fun r s' => ∃ v, r = some v ∧ Q v s') E s := by
  obtain ⟨cd, rest, hcd, hm⟩ := ksp_first hc
  have one := ksp_try X I hr hg h
  have L1 : Looks (model prog w) s.heap (typeOf (.ref x)) (.ref C) := I.type
  have L3 : Looks (model prog w) s.heap (fillsNumberSlot (.ref C) "mul") true := fills_K (nm := "mul") X hcd hm hs
  have L5 : Looks (model prog w) s.heap (isSubtype (.ref C) (.type "int")) false := looks_subIn X hsub
  have hne : (Value.type "int" == Value.ref C) = false := Bool.eq_false_iff.mpr fun q => by cases beq_iff_eq.mp q
  simp only [binaryOp1]
  refine wpAny_bind (wpAny_typeOf (typeIs_int s i t) (wpAny_bind (L1.here (wpAny_bind (wpAny_of_eq F.fills_int_mul ?_)))))
  simp only [hne, Bool.false_eq_true, if_false]
  refine wpAny_bind (L3.here ?_)
  simp only [Bool.and_self, if_true]
  refine wpAny_bind (L5.here ?_)
  have hpy : numberSlotInPython (.type "int") "mul" = pure false := rfl
  simp only [Bool.false_eq_true, if_false, pure_bind, Bool.not_false, Bool.and_self, if_true, hpy]
  refine wpAny_bind (intmul_try I.at_ ?_)
  show wpAny _ _ (tryMethod (.ref x) (dunderR "mul") (.int i t) >>= _) _ _ _
  refine wpAny_bind (wpAny_mono (Q := fun r s' => ∃ v, r = some v ∧ Q v s') one (fun r s' hr' => ?_) fun _ _ e => e)
  obtain ⟨v, rfl, hq⟩ := hr'
  exact wpAny_bind (wpAny_rule (wpAny_pure ⟨v, rfl, hq⟩))
theorem rmul_K {i : Int} {t : Tok} {Q : Value → Shared → Prop} (X : K.In s.heap) (I : InstAt s.heap x (instObj C dx) C od) (hc : selfFirst K C = true)
    (hs : findIn K (.ref C) "__mul__" = some (some (.ref f))) (hr : findIn K (.ref C) "__rmul__" = some (some (.ref g))) (hg : isFn K (.ref g) = true) (hsub : subIn K (.ref C) (.type "int") = some false)
    (h : wpAny (model prog w) A (call (.ref g) [.ref x, .int i t]) (PySem.W.CmpBack Q) E s) : wpAny (model prog w) A (binaryOp .Mult (.int i t) (.ref x)) Q E s := by
  have z := rmul1_K X I hc hs hr hg hsub h
  unfold binaryOp
  refine wpAny_holding (wpAny_bind (wpAny_mono (Q := fun r s' => ∃ v, r = some v ∧ Q v s') z (fun r s' hr' => ?_) fun _ _ e => e))
  obtain ⟨v, rfl, hq⟩ := hr'
  exact wpAny_pure hq
end
section
variable {X : Cx} {k j : Nat} {C : Addr} {sp : Sp}
/-- an int times an instance -/
def rOwnR (C : Addr) (sp : Sp) : R2 := fun x y H Q => ∃ a dx fs i, x = .int i ∧ y = .ref a ∧ H a = some (.ins C dx fs) ∧ sp [.ref a, .int i] H Q E0
theorem op_ownR (c : Met X.prog X.w X.K X.mg X.base k C "__rmul__" sp []) (hsf : selfFirst X.K C = true) (hs : ∃ f : Addr, findIn X.K (.ref C) "__mul__" = some (some (.ref f))) (hsub : subIn X.K (.ref C) (.type "int") = some false) (hr : Rm j X.A) (hk : k ≤ j) : OpR X (binaryOp .Mult) (rOwnR C sp) := by
  intro pins s σ H x y v u Q I rx ry h
  obtain ⟨a, dx, fs, i, rfl, rfl, ha, want⟩ := h
  cases ry; obtain ⟨tk, rfl⟩ := rx
  obtain ⟨f, fd, ps, ds, hc, me, F, bd, dv⟩ := c.ex
  obtain ⟨f0, hs⟩ := hs
  obtain ⟨mA, J, _⟩ := ins_get I.hok ha
  obtain ⟨od, J, _⟩ := J.look
  refine rmul_K I.kIn J hsf hs me.at_ me.fn hsub ?_
  refine wpAny_mono (runG (us := [.ref a, .int i tk]) (vs := [.ref a, .int i]) F (hr.mono hk) bd dv passL I (.cons rfl (.cons ⟨tk, rfl⟩ .nil)) ?_) (fun _ _ z => cmpBack_of z) fun _ _ z => z
  simpa using want
end
end

theorem r_isB {a b : Bool} {H : Hp} {Q : VK} (h : Q (.bl (decide (a = b))) H) : rIsB (.bl a) (.bl b) H Q := ⟨a, b, rfl, rfl, h⟩
theorem r_notB {a b : Bool} {H : Hp} {Q : VK} (h : Q (.bl (!decide (a = b))) H) : rNotB (.bl a) (.bl b) H Q := ⟨a, b, rfl, rfl, h⟩
section
variable {K : PySem.W.Frag} {H : Hp} {Q : VK}
/-- repr of a bool, of a list of two bools -/
theorem r_reprB {b : Bool} (h : Q (.str (PyData.shown (.bool b))) H) : rRepr K [.bl b] H Q := ⟨_, .bool b, rfl, .bl b, rfl, by simp [PyData.depth], by cases b <;> decide, h⟩
theorem r_reprBB {p : Addr} {a b : Bool} (h0 : H p = some (.lst [.bl a, .bl b])) (h : Q (.str (PyData.shown (.list [.bool a, .bool b]))) H) : rRepr K [.ref p] H Q :=
  ⟨_, .list [.bool a, .bool b], rfl, .lst (SqL.of h0) (.cons (.bl a) (.cons (.bl b) .nil)), rfl, by simp [PyData.depth, PyData.depthAll], by cases a <;> cases b <;> decide +kernel, h⟩
theorem shown_bool_ne {a b : Bool} (h : a = b) : decide (PyData.shown (.bool a) = PyData.shown (.bool b)) = true := by rw [h]; simp
end

/-! ### loops and stores, by named readings -/
section
variable {K : PySem.W.Frag} {σ : L2.St} {H : Hp} {D : Ends} {tb : TS} {g : TG} {tA : TA} {ta tv tl : TE} {Q : VK} {v : V}
def kRng (g : TG) (tb : TS) (D : Ends) (σ : L2.St) : List V → Hp → Prop := fun vs H1 => ∃ j : Int, vs = [.int j] ∧ -(2 ^ 62) ≤ j ∧ j < 2 ^ 62 ∧ ∃ W : Nat → Nat → L2.St → Hp → Prop, (∃ m, W 0 m σ H1) ∧ ∀ i m σ H, W i m σ H →
  ((Itr 0 j.toNat).stop i H ∧ D.nx σ H) ∨ ((Itr 0 j.toNat).go i H ∧ ∃ N : L2.St → Hp → Prop, (∀ σ' H', N σ' H' → ∃ m', m' < m ∧ W (i + 1) m' σ' H') ∧ ∀ x H', (Itr 0 j.toNat).yld i H x H' → g x σ H' fun σ2 H2 => tb { D with nx := N, ct := N, bk := D.nx } σ2 H2)
theorem u_forR (h : tA σ H (kRng g tb D σ)) : tFor (iRng1 tA) g tb D σ H := h
theorem k_rng {j : Int} (n : Nat) (hn : j = n) (hz : n ≤ 1000000) (Pv : Nat → L2.St → Hp → Prop) (h0 : Pv 0 σ H) (hs : ∀ i σ H, i < n → Pv i σ H → g (.int (i : Int)) σ H fun σ2 H2 => tb { D with nx := Pv (i + 1), ct := Pv (i + 1), bk := D.nx } σ2 H2) (hd : ∀ σ H, Pv n σ H → D.nx σ H) :
    kRng g tb D σ [.int j] H := by
  subst hn
  refine ⟨n, rfl, by omega, by omega, ?_⟩
  rw [Int.toNat_natCast]
  refine for_range (lo := 0) (n := n) Pv h0 (fun i σ H hi hp => ?_) hd
  have e : (0 : Int) + i = i := by omega
  rw [e]
  exact hs i σ H hi hp
def kForL (K : PySem.W.Frag) (g : TG) (tb : TS) (D : Ends) (σ : L2.St) : VK := fun x H1 => ∃ a, x = .ref a ∧ (∃ xs, SqL K H1 a xs) ∧ ∃ W : Nat → Nat → L2.St → Hp → Prop, (∃ m, W 0 m σ H1) ∧ ∀ i m σ H, W i m σ H →
  ((Itl K a).stop i H ∧ D.nx σ H) ∨ ((Itl K a).go i H ∧ ∃ N : L2.St → Hp → Prop, (∀ σ' H', N σ' H' → ∃ m', m' < m ∧ W (i + 1) m' σ' H') ∧ ∀ x H', (Itl K a).yld i H x H' → g x σ H' fun σ2 H2 => tb { D with nx := N, ct := N, bk := D.nx } σ2 H2)
theorem u_forL (h : tl σ H (kForL K g tb D σ)) : tFor (iList K tl) g tb D σ H := h
theorem k_forL {a : Addr} {xs : List V} (hx : SqL K H a xs) (Pv : Nat → L2.St → Hp → Prop) (h0 : Pv 0 σ H) (hl : ∀ i σ H, i ≤ xs.length → Pv i σ H → SqL K H a xs)
    (hs : ∀ i x σ H, xs[i]? = some x → Pv i σ H → g x σ H fun σ2 H2 => tb { D with nx := Pv (i + 1), ct := Pv (i + 1), bk := D.nx } σ2 H2) (hd : ∀ σ H, Pv xs.length σ H → D.nx σ H) : kForL K g tb D σ (.ref a) H :=
  ⟨a, rfl, ⟨xs, hx⟩, for_list Pv h0 hl hs hd⟩
def kForT (K : PySem.W.Frag) (g : TG) (tb : TS) (D : Ends) (σ : L2.St) : VK := fun x H1 => ∃ a, x = .ref a ∧ (∃ xs, SqT K H1 a xs) ∧ ∃ W : Nat → Nat → L2.St → Hp → Prop, (∃ m, W 0 m σ H1) ∧ ∀ i m σ H, W i m σ H →
  ((Itt K a).stop i H ∧ D.nx σ H) ∨ ((Itt K a).go i H ∧ ∃ N : L2.St → Hp → Prop, (∀ σ' H', N σ' H' → ∃ m', m' < m ∧ W (i + 1) m' σ' H') ∧ ∀ x H', (Itt K a).yld i H x H' → g x σ H' fun σ2 H2 => tb { D with nx := N, ct := N, bk := D.nx } σ2 H2)
theorem u_forT (h : tl σ H (kForT K g tb D σ)) : tFor (iTup K tl) g tb D σ H := h
theorem k_forT {a : Addr} {xs : List V} (hx : SqT K H a xs) (Pv : Nat → L2.St → Hp → Prop) (h0 : Pv 0 σ H) (hl : ∀ i σ H, i ≤ xs.length → Pv i σ H → SqT K H a xs)
    (hs : ∀ i x σ H, xs[i]? = some x → Pv i σ H → g x σ H fun σ2 H2 => tb { D with nx := Pv (i + 1), ct := Pv (i + 1), bk := D.nx } σ2 H2) (hd : ∀ σ H, Pv xs.length σ H → D.nx σ H) : kForT K g tb D σ (.ref a) H :=
  ⟨a, rfl, ⟨xs, hx⟩, for_tup Pv h0 hl hs hd⟩
def kSet (K : PySem.W.Frag) (f : Str) (y : V) (D : Ends) (σ : L2.St) : VK := fun x H2 => ∃ a C dx fs, x = .ref a ∧ H2 a = some (.ins C dx fs) ∧ Cls K C ∧ NoAttr K C f ∧ fs.length < 1000 ∧ D.nx σ (upd H2 a (.ins C dx (putF f y fs)))
theorem u_sfld {f : Str} (h : tv σ H fun y H1 => ta σ H1 (kSet K f y D σ)) : sFld K ta tv f D σ H := h
theorem k_set {f : Str} {y : V} {a C dx : Addr} {fs : List (Str × V)} (ho : H a = some (.ins C dx fs)) (hc : Cls K C) (hn : NoAttr K C f) (hl : fs.length < 1000) (h : D.nx σ (upd H a (.ins C dx (putF f y fs)))) : kSet K f y D σ (.ref a) H :=
  ⟨a, C, dx, fs, rfl, ho, hc, hn, hl, h⟩
theorem put_len {f : Str} {w : V} {fs : List (Str × V)} {n : Nat} (h : fs.length ≤ n) : (putF f w fs).length ≤ n + 1 := Nat.le_trans (length_putF f w fs) (Nat.succ_le_succ h)
theorem r_own2 {C a b dx dy : Addr} {fs gs : List (Str × V)} {sp : Sp} (ha : H a = some (.ins C dx fs)) (hb : H b = some (.ins C dy gs)) (h : sp [.ref a, .ref b] H Q E0) : rOwn2 C sp (.ref a) (.ref b) H Q := ⟨a, b, dx, fs, dy, gs, rfl, rfl, ha, hb, h⟩
theorem r_ownI {C a dx : Addr} {fs : List (Str × V)} {i : Int} {sp : Sp} (ha : H a = some (.ins C dx fs)) (h : sp [.ref a, .int i] H Q E0) : rOwnI C sp (.ref a) (.int i) H Q := ⟨a, dx, fs, i, rfl, rfl, ha, h⟩
theorem r_ownR {C a dx : Addr} {fs : List (Str × V)} {i : Int} {sp : Sp} (ha : H a = some (.ins C dx fs)) (h : sp [.ref a, .int i] H Q E0) : rOwnR C sp (.int i) (.ref a) H Q := ⟨a, dx, fs, i, rfl, rfl, ha, h⟩
theorem r_own1 {C a dx : Addr} {fs : List (Str × V)} {sp : Sp} (ha : H a = some (.ins C dx fs)) (h : sp [.ref a] H Q E0) : rOwn1 C sp (.ref a) H Q := ⟨a, dx, fs, rfl, ha, h⟩
def kOwnC (C : Addr) (sp : Sp) (t : TA) (σ : L2.St) (Q : VK) : VK := fun y H1 => ∃ a, y = .ref a ∧ t σ H1 fun vs H2 => (∃ dx fs, H2 a = some (.ins C dx fs)) ∧ sp (.ref a :: vs) H2 Q E0
theorem u_ownC {C : Addr} {sp : Sp} (h : tl σ H (kOwnC C sp tA σ Q)) : tOwnC C sp tl tA σ H Q := h
def kOwnC2 (C a : Addr) (sp : Sp) (Q : VK) : List V → Hp → Prop := fun vs H2 => (∃ dx fs, H2 a = some (.ins C dx fs)) ∧ sp (.ref a :: vs) H2 Q E0
theorem k_ownC {C a : Addr} {sp : Sp} (h : tA σ H (kOwnC2 C a sp Q)) : kOwnC C sp tA σ Q (.ref a) H := ⟨a, rfl, h⟩
theorem k_ownC2 {C a dx : Addr} {sp : Sp} {vs : List V} {fs : List (Str × V)} (ha : H a = some (.ins C dx fs)) (h : sp (.ref a :: vs) H Q E0) : kOwnC2 C a sp Q vs H := ⟨⟨dx, fs, ha⟩, h⟩
def kSM (C : Addr) (sp : Sp) (dvs : List V) (E : XK) (t : TA) (σ : L2.St) (Q : VK) : VK := fun x H1 => x = .ref C ∧ t σ H1 fun vs H2 => sp (vs ++ dvs) H2 Q E
theorem u_sm {C : Addr} {sp : Sp} {dvs : List V} {E : XK} (h : tl σ H (kSM C sp dvs E tA σ Q)) : tSMeth C sp dvs E tl tA σ H Q := h
theorem k_sm {C : Addr} {sp : Sp} {dvs : List V} {E : XK} (h : tA σ H fun vs H2 => sp (vs ++ dvs) H2 Q E) : kSM C sp dvs E tA σ Q (.ref C) H := ⟨rfl, h⟩
theorem u_gtup {n : Nat} {t : TGs} {a : Addr} {xs : List V} {QS : L2.St → Hp → Prop} (h0 : SqT K H a xs) (h1 : xs.length = n) (h : t xs σ H QS) : gTup K n t (.ref a) σ H QS := ⟨a, xs, rfl, h0, h1, h⟩
theorem u_gcons {t : TG} {u : TGs} {r : List V} {QS : L2.St → Hp → Prop} (h : t v σ H fun σ' H' => u r σ' H' QS) : gCons t u (v :: r) σ H QS := ⟨v, r, rfl, h⟩
theorem u_gnil {QS : L2.St → Hp → Prop} (h : QS σ H) : gNil [] σ H QS := ⟨rfl, h⟩
end
theorem atI_all {xs : List V} {k : Int} {P : V → Prop} (h : ∀ x ∈ xs, P x) (h0 : 0 ≤ k) (h1 : k < (xs.length : Int)) : ∃ v, atI xs k = some v ∧ P v := by
  have hj : k.toNat < xs.length := by omega
  refine ⟨xs[k.toNat], ?_, h _ (List.getElem_mem hj)⟩
  have e : k = ((k.toNat : Nat) : Int) := by omega
  have z := atI_nat (xs := xs) (j := k.toNat) (v := xs[k.toNat]) (List.getElem?_eq_getElem hj)
  rw [← e] at z
  exact z

section
variable {K : PySem.W.Frag} {σ : L2.St} {H : Hp} {tA : TA} {ta te : TE} {Q : VK} {v : V}
theorem u_call0 {sp : Sp} {E : XK} (h : tA σ H fun vs H1 => sp vs H1 Q E) : tCall sp [] E tA σ H Q := by
  show tA σ H fun vs H1 => sp (vs ++ []) H1 Q E
  simp only [List.append_nil]
  exact h
theorem u_meth0 {C : Addr} {m : Str} {sp : Sp} {E : XK} (h : ta σ H (kMeth C m fun x H1 => tA σ H1 fun vs H2 => sp (x :: vs) H2 Q E)) : tMeth C m sp [] E ta tA σ H Q := by
  refine u_meth ?_
  simp only [List.append_nil]
  exact h
/-- what a new instance's __init__ is asked -/
def kMk (C : Addr) (sp : Sp) (Q : VK) (E : XK) : List V → Hp → Prop := fun vs H1 => ∀ x dx, H1 x = none → H1 dx = none → dx ≠ x → sp (.ref x :: vs) (upd (upd H1 dx (.own x)) x (.ins C dx [])) (fun v H2 => v = .non ∧ Q (.ref x) H2) E
theorem u_make0 {C : Addr} {sp : Sp} {E : XK} (h : tA σ H (kMk C sp Q E)) : tMake C sp [] E tA σ H Q := by
  refine u_make ?_
  simp only [List.append_nil]
  exact h
theorem k_sm0 {C : Addr} {sp : Sp} {E : XK} (h : tA σ H fun vs H2 => sp vs H2 Q E) : kSM C sp [] E tA σ Q (.ref C) H := by
  refine k_sm ?_
  simp only [List.append_nil]
  exact h
theorem u_sl {r : V → Option Int → Option Int → Hp → VK → Prop} {tl th : TO} (h : te σ H fun x H1 => tl σ H1 fun l H2 => th σ H2 fun u H3 => r x l u H3 Q) : tSl r te tl th σ H Q := h
theorem u_nopart {QO : Option Int → Hp → Prop} (h : QO none H) : tNoPart σ H QO := h
def kPart (QO : Option Int → Hp → Prop) : VK := fun x H1 => ∃ i, x = .int i ∧ QO (some i) H1
theorem u_part {QO : Option Int → Hp → Prop} (h : te σ H (kPart QO)) : tPart te σ H QO := h
theorem k_part {QO : Option Int → Hp → Prop} {i : Int} (h : QO (some i) H) : kPart QO (.int i) H := ⟨i, rfl, h⟩
theorem r_slL {a : Addr} {xs : List V} {lo hi : Option Int} (h0 : SqL K H a xs) (h : ∀ p H', Same H H' → H' p = some (.lst (cutV xs lo hi)) → H p = none → Q (.ref p) H') : rSlL K (.ref a) lo hi H Q := ⟨a, xs, rfl, h0, al h⟩
end

theorem cutV_to {xs : List V} {k : Nat} : cutV xs none (some (k : Int)) = xs.take k := by
  unfold cutV
  have h : ¬ ((k : Int) < 0) := by omega
  simp only [HT.sIx, h, if_false, List.drop_zero, Nat.sub_zero, Int.toNat_natCast]
  rw [List.take_eq_take_iff]
  omega
end Tw

namespace Tw
open PySem PySem.Spec PyProof.Rows L2
/-! ### the law's call, where nothing is being shown -/
section
variable {P : Program} {w : World} {K : PySem.W.Frag} {mg mb : Str → Option Value} {k : Nat} {fa a : Addr} {fd : FuncData} {x : Str} {sp : Sp} {s : Shared} {vs : List Value} {ns : List Int}
/-- what the call of the law must end with -/
def Done (s : Shared) (r : Result) (s' : Shared) : Prop := r = .ok (.ret (.bool true)) ∧ OldK s.heap s'.heap ∧ s'.os = s.os ∧ AllBare s'.gens
theorem lawG_from {H : Hp} {ob : Obj} (hK : K.In s.heap) (hm : s.heap.Ns mainGlobals mg) (hb : s.heap.Ns builtinsNs mb) (hbb : ∀ x : Str, x ≠ "__name__" → mb x = bootBuiltins x) (lim : s.heap.NoLimit) (gs : s.gens = #[])
    (hob : s.heap.get? a = some ob) (hseq : ∃ its n, ob.data = .seq its n) (ok : HOk P w H s.heap) (only : ∀ b u, H b = some u → b = a ∧ K.lookup a = none ∧ ∃ y, u = .frz ob y) (rm : Rm k callerA)
    (F : ∀ base : Heap, FnG P w K mg base k fa fd [x] sp) (bd : ∀ (s : Shared) (u : Value), BindsTo s fd ⟨[u], []⟩ [(x, u)]) (want : sp [.ref a] H (fun v _ => v = .bl true) fun _ _ _ => False) :
    codeAny (model P w) callerA (.call (.ref fa) ⟨[.ref a], []⟩) (Done s) s := by
  have plainAt : ∀ (b : Addr) (o : Obj), s.heap.get? b = some o → (∃ es n, o.data = .dict es n) → H b = none := by
    rintro b o g ⟨es, n, d⟩
    rcases q : H b with _ | u
    · rfl
    · obtain ⟨rfl, -, -⟩ := only b u q
      obtain ⟨its, j, d2⟩ := hseq
      rw [hob] at g
      injection g with g
      subst g
      rw [d2] at d
      cases d
  have stays : ∀ (b : Addr) (m : Str → Option Value), s.heap.Ns b m → (hidT s.heap H).Ns b m := by
    rintro b m ⟨o, es, n, g, d, r⟩
    exact ⟨o, es, n, hidT_get g (plainAt b o g ⟨es, n, d⟩), d, r⟩
  have inB : K.In (hidT s.heap H) := by
    intro b o g
    refine hidT_get (hK b o g) ?_
    rcases q : H b with _ | u
    · rfl
    · obtain ⟨rfl, z, -⟩ := only b u q
      rw [z] at g
      cases g
  have md : Mod K mg (hidT s.heap H) := by
    obtain ⟨mc, l1, l2⟩ := lim
    exact { kin := inB, glob := stays _ _ hm, blt := ⟨mb, stays _ _ hb, hbb⟩, nolimit := ⟨mc, stays _ _ l1, l2⟩ }
  have ev : Env0 P w K mg (hidT s.heap H) callerA [] s H :=
    { frames := rfl, mod := md, bs := fun _ _ g => of_hidT g, bsz := Nat.le_of_eq (hidT_size _ _), funs := trivial, frf := fun _ z => (nomatch z), hok := ok, bare := .of_eq gs }
  have go := (F (hidT s.heap H)).run callerA [] s H ⟨[.ref a], []⟩ [.ref a] [.ref a] _ _ rm ev (bd s (.ref a)) (Paired.cons rfl .nil) want
  refine codeAny_mono go ?_
  rintro (e | (_ | _ | _ | u)) s' h
  · obtain ⟨_, _, _, _, _, _, _, _, _, _, _, _, no⟩ := h
    exact no.elim
  · exact h.elim
  · exact h.elim
  · exact h.elim
  · obtain ⟨v, H', eo, eb, un, ok', rel, rfl⟩ := h
    have eu : u = Value.bool true := rel
    refine ⟨by rw [eu], OldK.of_keep ?_, eo, eb⟩
    intro b o g
    rcases q : H b with _ | y
    · exact un.keep b o g q (fun z => nomatch z) (fun z => nomatch z)
    · obtain ⟨rfl, -, y, rfl⟩ := only b y q
      rw [hob] at g
      injection g with g
      subst g
      exact (ok' b _ (un.frzs b _ _ q)).1
theorem lawG {n : Nat} {l : PySem.W.OpenLaw} {q : Program} {loose : List Str} {XP : (Str → Option Value) → Heap → Prop} {YP : World → Heap → Prop} {d : DefRec} {K : Params → PySem.W.Frag} {k : Nat} {sp : PySem.W.Frag → Sp}
    (hn : l.most = some n) (small : n ≤ sizeLine) (nodef : d.params.defaults = []) (rm : Rm k callerA) (hY : ∀ (w : World) (h : Heap), YP w h → (K w.params).In h)
    (F : ∀ (w : World) (mg : Str → Option Value) (fa : Addr) (h : Heap), (K w.params).In h → h.Ns mainGlobals mg → mg d.name = some (.ref fa) →
      ∃ fd : FuncData, (∀ (s : Shared) (u : Value), BindsTo s fd ⟨[u], []⟩ [(x, u)]) ∧ ∀ base : Heap, FnG l.prog w (K w.params) mg base k fa fd [x] (sp (K w.params)))
    (want : ∀ (K : PySem.W.Frag) (H : Hp) (a : Addr) (ns : List Int), ns.length ≤ n → SqL K H a (ns.map V.int) → sp K [.ref a] H (fun v _ => v = .bl true) fun _ _ _ => False) :
    PySem.W.WalkO q loose XP YP l.row.toRowW d [] (fun f vs => PySem.call f vs) := by
  refine Att.attach_call hn nodef ?_
  intro w s₀ s mg mb fa o pm cd doc a vs ns G Y ho hd hcd hmg hobj hints hlen hg
  have inK := hY w _ Y
  obtain ⟨fd, bd, hF⟩ := F w mg fa _ inK G.T.g hmg
  have rel := vals_ints hints
  have len : vs.length = ns.length := hints.length
  rcases lk : (K w.params).lookup a with _ | o1
  · let H : Hp := fun b => if b = a then some (.frz { cls := .type "list", data := .seq vs.toArray } (.lst (ns.map V.int))) else none
    have at_a : H a = some (.frz { cls := .type "list", data := .seq vs.toArray } (.lst (ns.map V.int))) := if_pos rfl
    have only : ∀ b u, H b = some u → b = a ∧ u = .frz { cls := .type "list", data := .seq vs.toArray } (.lst (ns.map V.int)) := by
      intro b u z
      by_cases e : b = a
      · subst e
        rw [at_a] at z
        injection z with z
        exact ⟨rfl, z.symm⟩
      · have z2 : H b = none := if_neg e
        rw [z2] at z
        cases z
    refine lawG_from (H := H) inK G.T.g G.T.b G.T.builtins G.T.nolimit hg hobj ⟨_, _, rfl⟩ ?_ ?_ rm hF bd (want _ _ _ _ hlen (.inl (.inr ⟨_, at_a⟩)))
    · intro b u z
      obtain ⟨rfl, rfl⟩ := only b u z
      exact ⟨hobj, by rw [List.length_map]; omega, vs, _, rel, hobj⟩
    · intro b u z
      obtain ⟨rfl, rfl⟩ := only b u z
      exact ⟨rfl, lk, _, rfl⟩
  · have g := inK a o1 lk
    rw [hobj] at g
    injection g with g
    subst g
    refine lawG_from (H := fun _ => none) inK G.T.g G.T.b G.T.builtins G.T.nolimit hg hobj ⟨_, _, rfl⟩ ?_ ?_ rm hF bd (want _ _ _ _ hlen (.inr ⟨_, vs.toArray, _, lk, rfl, rfl, rfl, ?_, ?_⟩))
    · intro b u z
      cases z
    · intro b u z
      cases z
    · rw [List.size_toArray]
      omega
    · rw [List.toList_toArray]
      exact rel
theorem rm_caller {k : Nat} (h1 : callerA.depth + 3 * k + 5 < recursionLimit) (h2 : callerA.units + 16 * k + 200 < cLine) : Rm k callerA := ⟨⟨rfl, h1, h2⟩, rfl⟩
end
end Tw

local macro_rules | `(tactic| walk_at "hp") => `(tactic| first
  | assumption
  | (exact L2.upd_same)
  | (refine Tw.Same.tr (by assumption) ?_ <;> walk_at "hp")
  | ((refine' Tw.SP.tr (by assumption) ?hq ?hn); (case hq => walk_at "hp"); (case hn => first | rfl | exact Tw.isPen_ints _)))
local macro_rules | `(tactic| walk_at "pen") => `(tactic| first
  | assumption
  | ((refine' Tw.PenAt.same (by assumption) ?hq); (case hq => walk_at "pen")))
local macro_rules | `(tactic| walk_at "same") => `(tactic| first
  | assumption
  | exact L2.Same.refl _
  | ((refine' L2.Same.trans ?x ?y); (case y => assumption); (case x => walk_at "same")))
local macro_rules | `(tactic| walk_at "sp") => `(tactic| first
  | assumption
  | exact Tw.SP.refl _
  | ((refine' Tw.SP.trans ?x ?y); (case y => assumption); (case x => walk_at "sp"))
  | ((refine' Tw.SP.trans ?x (L2.Same.sp ?y)); (case y => assumption); (case x => walk_at "sp")))
local macro_rules | `(tactic| walk_at "len") => `(tactic| first
  | exact Nat.lt_of_le_of_lt (Nat.le_refl 0) (by decide)
  | exact Nat.lt_of_le_of_lt (Tw.put_len (Nat.le_refl 0)) (by decide)
  | exact Nat.lt_of_le_of_lt (Tw.put_len (Tw.put_len (Nat.le_refl 0))) (by decide)
  | exact Nat.lt_of_le_of_lt (Tw.put_len (Tw.put_len (Tw.put_len (Nat.le_refl 0)))) (by decide))
local macro_rules | `(tactic| walk_at "r1") => `(tactic| first
  | with_reducible refine Tw.u_seq ?_
  | with_reducible refine Tw.u_asg ?_
  | with_reducible refine Tw.u_if ?_
  | with_reducible refine Tw.u_ret ?_
  | with_reducible refine Tw.u_op ?_
  | ((with_reducible refine' Tw.u_var ?e ?_); (case e => exact rfl))
  | with_reducible refine Tw.u_c ?_
  | with_reducible refine Tw.u_gname ?_
  | with_reducible refine Tw.u_test ?_
  | with_reducible refine Tw.k_bl ?_
  | with_reducible refine Tw.u_next ?_
  | with_reducible refine Tw.u_cb ?_
  | with_reducible refine Tw.u_cons ?_
  | with_reducible refine Tw.u_nil ?_
  | with_reducible refine Tw.r_I0 ?_
  | with_reducible refine Tw.u_and ?_
  | with_reducible refine Tw.u_or ?_
  | with_reducible refine Tw.u_not ?_
  | with_reducible refine Tw.u_B ?_
  | with_reducible refine Tw.u_un ?_
  | with_reducible refine Tw.r_U ?_
  | with_reducible refine Tw.r_int ?_
  | with_reducible refine Tw.r_intB ?_
  | with_reducible refine Tw.r_abs ?_
  | with_reducible refine Tw.u_gsub ?_
  | with_reducible refine Tw.u_drop ?_
  | with_reducible refine Tw.u_ifE ?_
  | with_reducible refine Tw.u_andV ?_
  | with_reducible refine Tw.u_orV ?_
  | with_reducible refine Tw.u_notV ?_
  | with_reducible refine Tw.u_call0 ?_
  | with_reducible refine Tw.u_call ?_
  | with_reducible refine Tw.u_sl ?_
  | with_reducible refine Tw.u_nopart ?_
  | with_reducible refine Tw.u_part ?_
  | with_reducible refine Tw.k_part ?_
  | with_reducible refine Tw.u_lstK ?_
  | with_reducible refine Tw.u_tupK ?_
  | ((with_reducible refine' Tw.k_lst ?z ?_); (case z => exact Nat.le_of_ble_eq_true rfl); intro _ _ _ _ _)
  | ((with_reducible refine' Tw.k_tup ?z ?_); (case z => exact Nat.le_of_ble_eq_true rfl); intro _ _ _ _ _)
  | with_reducible refine Tw.u_parK ?_
  | with_reducible refine Tw.k_par ?_
  | with_reducible refine Tw.u_fld ?_
  | with_reducible refine Tw.u_chain ?_
  | with_reducible refine Tw.u_meth0 ?_
  | with_reducible refine Tw.u_meth ?_
  | with_reducible refine Tw.r_eqI ?_
  | with_reducible refine Tw.r_neI ?_
  | with_reducible refine Tw.r_eqS ?_
  | with_reducible refine Tw.r_neS ?_
  | with_reducible refine Tw.r_eqB ?_
  | with_reducible refine Tw.r_neB ?_
  | with_reducible refine Tw.r_isB ?_
  | with_reducible refine Tw.r_notB ?_
  | with_reducible refine Tw.r_reprB ?_
  | ((with_reducible refine' Tw.r_reprBB ?a ?_); (case a => walk_at "hp"))
  | with_reducible refine Tw.u_forR ?_
  | with_reducible refine Tw.u_forL ?_
  | with_reducible refine Tw.u_forT ?_
  | with_reducible refine Tw.u_sfld ?_
  | with_reducible refine Tw.u_make0 ?_
  | with_reducible refine Tw.u_make ?_
  | with_reducible refine Tw.u_ownC ?_
  | with_reducible refine Tw.k_ownC ?_
  | with_reducible refine Tw.u_sm ?_
  | with_reducible refine Tw.k_sm0 ?_
  | with_reducible refine Tw.k_sm ?_
  | with_reducible refine Tw.u_gcons ?_
  | with_reducible refine Tw.u_gnil ?_
  | ((with_reducible refine' Tw.u_gtup ?a ?b ?_); (case a => exact L2.SqT.of (by walk_at "hp")); (case b => exact rfl))
  | ((with_reducible refine' Tw.k_ownC2 ?a ?_); (case a => walk_at "hp"))
  | ((with_reducible refine' Tw.r_own2 ?a ?b ?_); (case a => walk_at "hp"); (case b => walk_at "hp"))
  | ((with_reducible refine' Tw.r_ownI ?a ?_); (case a => walk_at "hp"))
  | ((with_reducible refine' Tw.r_ownR ?a ?_); (case a => walk_at "hp"))
  | ((with_reducible refine' Tw.r_own1 ?a ?_); (case a => walk_at "hp"))
  | ((with_reducible refine' Tw.k_meth ?a ?b ?_); (case a => walk_at "hp"); (case b => walk_at "lk"))
  | ((with_reducible refine' Tw.k_fld ?a ?b ?c ?d ?_); (case a => walk_at "hp"); (case b => assumption); (case c => assumption); (case d => walk_at "lk"))
  | ((with_reducible refine' Tw.k_set ?a ?b ?c ?d ?_); (case a => walk_at "hp"); (case b => assumption); (case c => assumption); (case d => walk_at "len"))
  | walk_at "c1"
  | with_reducible refine Tw.w_T ?_
  | with_reducible refine Tw.w_F ?_
  | with_reducible refine Tw.w_nT ?_
  | with_reducible refine Tw.w_nF ?_
  | ((with_reducible refine' Tw.r_mod ?a ?_); (case a => omega); intro _ _)
  | ((with_reducible refine' Tw.r_mul ?a ?_); (case a => first | exact Or.inl ⟨by omega, by omega⟩ | exact Or.inr ⟨by omega, by omega⟩))
  | ((with_reducible refine' Tw.r_div ?a ?b ?_); (case a => omega); (case b => omega))
  | ((with_reducible refine' Tw.r_pow ?a ?b ?c ?d ?_); (case a => omega); (case b => omega); (case c => exact ⟨by omega, by omega⟩); (case d => (simp only [Int.reduceToNat, Int.reducePow]; exact rfl)))
  | ((with_reducible refine' Tw.r_ixL' ?a ?b ?_); (case a => walk_at "hp"); (case b => exact rfl))
  | ((with_reducible refine' Tw.r_ixT' ?a ?b ?_); (case a => walk_at "hp"); (case b => exact rfl))
  | ((with_reducible refine' Tw.r_setL ?a ?b ?_); (case a => walk_at "hp"); (case b => exact rfl))
  | ((with_reducible refine' Tw.r_lenL ?a ?_); (case a => walk_at "hp")))
local macro_rules | `(tactic| walk_at "r") => `(tactic| repeat walk_at "r1")


local macro_rules | `(tactic| walk_at "c1") => `(tactic| fail)

namespace K65
open PySem PySem.Spec PyProof.Rows L2 Tw
def top (i : Nat) : Stmt := PySem.Challenge.pw_twoheads_k65_tallies_under.main.body.getD i (.Pass ⟨0, 0, 0, 0⟩)
abbrev s_Tinit : Stmt := inClass (top 7) 0
abbrev N_Tinit : List Str := ["self", "a", "b", "c", "e"]
theorem sc_Tinit : FnScope N_Tinit ["self", "a", "b", "c", "e"] (C8.fnScope s_Tinit) := ⟨rfl, rfl, rfl, by decide +kernel, rfl, by decide +kernel, by decide +kernel⟩
abbrev s_Tusual : Stmt := inClass (top 7) 1
abbrev N_Tusual : List Str := ["name", "a", "b", "c", "e"]
theorem sc_Tusual : FnScope N_Tusual ["name"] (C8.fnScope s_Tusual) := ⟨rfl, rfl, rfl, by decide +kernel, rfl, by decide +kernel, by decide +kernel⟩
abbrev s_Tunder : Stmt := inClass (top 7) 3
abbrev N_Tunder : List Str := ["self", "other", "rest"]
theorem sc_Tunder : FnScope N_Tunder ["self", "other"] (C8.fnScope s_Tunder) := ⟨rfl, rfl, rfl, by decide +kernel, rfl, by decide +kernel, by decide +kernel⟩
abbrev s_Tcall : Stmt := inClass (top 7) 4
abbrev N_Tcall : List Str := ["self", "m", "n", "least"]
theorem sc_Tcall : FnScope N_Tcall ["self", "m", "n"] (C8.fnScope s_Tcall) := ⟨rfl, rfl, rfl, by decide +kernel, rfl, by decide +kernel, by decide +kernel⟩
abbrev s_Teq : Stmt := inClass (top 7) 5
abbrev N_Teq : List Str := ["self", "other"]
theorem sc_Teq : FnScope N_Teq ["self", "other"] (C8.fnScope s_Teq) := ⟨rfl, rfl, rfl, by decide +kernel, rfl, by decide +kernel, by decide +kernel⟩
abbrev s_Tadd : Stmt := inClass (top 7) 6
abbrev N_Tadd : List Str := ["self", "other"]
theorem sc_Tadd : FnScope N_Tadd ["self", "other"] (C8.fnScope s_Tadd) := ⟨rfl, rfl, rfl, by decide +kernel, rfl, by decide +kernel, by decide +kernel⟩
abbrev s_Tsub : Stmt := inClass (top 7) 7
abbrev N_Tsub : List Str := ["self", "other"]
theorem sc_Tsub : FnScope N_Tsub ["self", "other"] (C8.fnScope s_Tsub) := ⟨rfl, rfl, rfl, by decide +kernel, rfl, by decide +kernel, by decide +kernel⟩
abbrev s_Tmul : Stmt := inClass (top 7) 8
abbrev N_Tmul : List Str := ["self", "other"]
theorem sc_Tmul : FnScope N_Tmul ["self", "other"] (C8.fnScope s_Tmul) := ⟨rfl, rfl, rfl, by decide +kernel, rfl, by decide +kernel, by decide +kernel⟩
abbrev s_Trmul : Stmt := inClass (top 7) 9
abbrev N_Trmul : List Str := ["self", "other"]
theorem sc_Trmul : FnScope N_Trmul ["self", "other"] (C8.fnScope s_Trmul) := ⟨rfl, rfl, rfl, by decide +kernel, rfl, by decide +kernel, by decide +kernel⟩
abbrev s_Tneg : Stmt := inClass (top 7) 10
abbrev N_Tneg : List Str := ["self"]
theorem sc_Tneg : FnScope N_Tneg ["self"] (C8.fnScope s_Tneg) := ⟨rfl, rfl, rfl, by decide +kernel, rfl, by decide +kernel, by decide +kernel⟩
abbrev s_pen : Stmt := top 9
abbrev N_pen : List Str := ["_law_script"]
theorem sc_pen : FnScope N_pen ["_law_script"] (C8.fnScope s_pen) := ⟨rfl, rfl, rfl, by decide +kernel, rfl, by decide +kernel, by decide +kernel⟩
abbrev s_draw : Stmt := top 10
abbrev N_draw : List Str := ["_law_pen_here", "_law_many", "_law_digit", "_law_at", "_law_cell", "_law_great", "_law_mixed"]
theorem sc_draw : FnScope N_draw ["_law_pen_here", "_law_many"] (C8.fnScope s_draw) := ⟨rfl, rfl, rfl, by decide +kernel, rfl, by decide +kernel, by decide +kernel⟩
abbrev s_part : Stmt := top 12
abbrev N_part : List Str := ["_law_pen_here", "_law_number"]
theorem sc_part : FnScope N_part ["_law_pen_here"] (C8.fnScope s_part) := ⟨rfl, rfl, rfl, by decide +kernel, rfl, by decide +kernel, by decide +kernel⟩
abbrev s_tally : Stmt := top 13
abbrev N_tally : List Str := ["_law_pen_here"]
theorem sc_tally : FnScope N_tally ["_law_pen_here"] (C8.fnScope s_tally) := ⟨rfl, rfl, rfl, by decide +kernel, rfl, by decide +kernel, by decide +kernel⟩
abbrev s_added : Stmt := top 14
abbrev N_added : List Str := ["_law_pen_here", "_law_one", "_law_a", "_law_b", "_law_e", "_law_c"]
theorem sc_added : FnScope N_added ["_law_pen_here", "_law_one"] (C8.fnScope s_added) := ⟨rfl, rfl, rfl, by decide +kernel, rfl, by decide +kernel, by decide +kernel⟩
abbrev s_due : Stmt := top 15
abbrev N_due : List Str := ["_law_one", "_law_other", "_law_many", "_law_m", "_law_n"]
theorem sc_due : FnScope N_due ["_law_one", "_law_other"] (C8.fnScope s_due) := ⟨rfl, rfl, rfl, by decide +kernel, rfl, by decide +kernel, by decide +kernel⟩
abbrev s_right : Stmt := top 16
abbrev N_right : List Str := ["_law_pen_here", "_law_one", "_law_other", "_law_is_under", "_law_turn", "_law_m", "_law_n"]
theorem sc_right : FnScope N_right ["_law_pen_here", "_law_one", "_law_other"] (C8.fnScope s_right) := ⟨rfl, rfl, rfl, by decide +kernel, rfl, by decide +kernel, by decide +kernel⟩
abbrev s_kept : Stmt := top 17
abbrev N_kept : List Str := ["_law_pen_here", "_law_one", "_law_other", "_law_third", "_law_is_under", "_law_found", "_law_times"]
theorem sc_kept : FnScope N_kept ["_law_pen_here", "_law_one", "_law_other", "_law_third"] (C8.fnScope s_kept) := ⟨rfl, rfl, rfl, by decide +kernel, rfl, by decide +kernel, by decide +kernel⟩
abbrev s_law : Stmt := top 18
abbrev N_law : List Str := ["_law_script", "_law_pen_here", "_law_turn", "_law_one", "_law_other", "_law_third", "_law_words", "_law_first", "_law_second"]
theorem sc_law : FnScope N_law ["_law_script"] (C8.fnScope s_law) := ⟨rfl, rfl, rfl, by decide +kernel, rfl, by decide +kernel, by decide +kernel⟩
structure Txt (K : PySem.W.Frag) (w : World) (mg : Str → Option Value) where
  n_len : mg "len" = none
  n_abs : mg "abs" = none
  n_int : mg "int" = none
  n_list : mg "list" = none
  n_repr : mg "repr" = none
  n_str : mg "str" = none
  n_range : mg "range" = none
  n_isinstance : mg "isinstance" = none
  n_super : mg "super" = none
  a_Tally : Addr
  c_Tally : Cls K a_Tally
  sf_Tally : PySem.W.selfFirst K a_Tally = true
  g_Tally : ∃ u, mg "Tally" = some u ∧ RelV (.ref a_Tally) u
  na_Tally_a : NoAttr K a_Tally "a"
  na_Tally_b : NoAttr K a_Tally "b"
  na_Tally_c : NoAttr K a_Tally "c"
  na_Tally_e : NoAttr K a_Tally "e"
  d_Tinit : Tw.MakAt K mg "Tally" a_Tally "Tally.__init__" s_Tinit ["self", "a", "b", "c", "e"] []
  d_Tusual : Tw.StaAt K a_Tally "usual" "Tally.usual" s_Tusual ["name"] []
  d_Tunder : Tw.MetAt K a_Tally "under" "Tally.under" s_Tunder ["self", "other"] []
  d_Tcall : Tw.MetAt K a_Tally "__call__" "Tally.__call__" s_Tcall ["self", "m", "n"] []
  d_Teq : Tw.MetAt K a_Tally "__eq__" "Tally.__eq__" s_Teq ["self", "other"] []
  d_Tadd : Tw.MetAt K a_Tally "__add__" "Tally.__add__" s_Tadd ["self", "other"] []
  d_Tsub : Tw.MetAt K a_Tally "__sub__" "Tally.__sub__" s_Tsub ["self", "other"] []
  d_Tmul : Tw.MetAt K a_Tally "__mul__" "Tally.__mul__" s_Tmul ["self", "other"] []
  d_Trmul : Tw.MetAt K a_Tally "__rmul__" "Tally.__rmul__" s_Trmul ["self", "other"] []
  d_Tneg : Tw.MetAt K a_Tally "__neg__" "Tally.__neg__" s_Tneg ["self"] []
  d_pen : Tw.DefAt K mg "_law_pen" s_pen ["_law_script"] []
  d_draw : Tw.DefAt K mg "_law_draw" s_draw ["_law_pen_here", "_law_many"] []
  d_part : Tw.DefAt K mg "_law_part" s_part ["_law_pen_here"] []
  d_tally : Tw.DefAt K mg "_law_tally" s_tally ["_law_pen_here"] []
  d_added : Tw.DefAt K mg "_law_added" s_added ["_law_pen_here", "_law_one"] []
  d_due : Tw.DefAt K mg "_law_due" s_due ["_law_one", "_law_other"] []
  d_right : Tw.DefAt K mg "_law_right" s_right ["_law_pen_here", "_law_one", "_law_other"] []
  d_kept : Tw.DefAt K mg "_law_kept" s_kept ["_law_pen_here", "_law_one", "_law_other", "_law_third"] []
  d_law : Tw.DefAt K mg "law" s_law ["_law_script"] []
  oti : Tw.OpT K a_Tally "int" .Mult
  mul_at : ∃ f : Addr, PySem.W.findIn K (.ref a_Tally) "__mul__" = some (some (.ref f))
  sub_int : PySem.W.subIn K (.ref a_Tally) (.type "int") = some false
  fi : ∀ f, PySem.W.findIn K (.ref a_Tally) "__call__" = some (some (.ref f)) → PySem.W.fnIn K f = true
  kit : PySem.W.kitOne K (.ref a_Tally) (.ref a_Tally) = some true
  ic : C8.InsC K a_Tally
  a_N : Addr
  es_N : Array DictEntry
  n_N : Nat
  kd : KDict K w a_N es_N n_N
  gN : ∃ u, mg "NAMES" = some u ∧ RelV (.ref a_N) u
  u9 : ∀ z ∈ (["none", "both", "lacks", "left", "right", "xor", "union", "sum", "join"] : List Str), ∃ (t : Addr) (a b c e : Int), PySem.W.nsIn K a_N z = some (some (.ref t)) ∧ (∀ H : Hp, SqT K H t [.int a, .int b, .int c, .int e]) ∧ (-2 ≤ a ∧ a ≤ 2) ∧ (-2 ≤ b ∧ b ≤ 2) ∧ (-2 ≤ c ∧ c ≤ 2) ∧ (-2 ≤ e ∧ e ≤ 2)
/-! ### the data -/
def fT (a b c e : Int) : List (Str × V) := putF "e" (.int e) (putF "c" (.int c) (putF "b" (.int b) (putF "a" (.int a) [])))
theorem fT_e (a b c e : Int) : (fT a b c e).lookup ("e" : Str) = some (.int e) := by
  unfold fT; rw [lookup_putF, if_pos rfl]
theorem fT_c (a b c e : Int) : (fT a b c e).lookup ("c" : Str) = some (.int c) := by
  unfold fT; rw [lookup_putF, if_neg (by decide +kernel), lookup_putF, if_pos rfl]
theorem fT_b (a b c e : Int) : (fT a b c e).lookup ("b" : Str) = some (.int b) := by
  unfold fT; rw [lookup_putF, if_neg (by decide +kernel), lookup_putF, if_neg (by decide +kernel), lookup_putF, if_pos rfl]
theorem fT_a (a b c e : Int) : (fT a b c e).lookup ("a" : Str) = some (.int a) := by
  unfold fT; rw [lookup_putF, if_neg (by decide +kernel), lookup_putF, if_neg (by decide +kernel), lookup_putF, if_neg (by decide +kernel), lookup_putF, if_pos rfl]
theorem fT_under (a b c e : Int) : (fT a b c e).lookup ("under" : Str) = none := by
  unfold fT; rw [lookup_putF, if_neg (by decide +kernel), lookup_putF, if_neg (by decide +kernel), lookup_putF, if_neg (by decide +kernel), lookup_putF, if_neg (by decide +kernel)]; rfl
local macro_rules | `(tactic| walk_at "lk") => `(tactic| first | exact K65.fT_a _ _ _ _ | exact K65.fT_b _ _ _ _ | exact K65.fT_c _ _ _ _ | exact K65.fT_e _ _ _ _ | exact K65.fT_under _ _ _ _)
/-! ### the promises -/
def spInit (C : Addr) : Sp := fun vs H Q _ => ∃ (x dx : Addr) (a b c e : Int), vs = [.ref x, .int a, .int b, .int c, .int e] ∧ H x = some (.ins C dx []) ∧ ∀ H', H' = upd H x (.ins C dx (fT a b c e)) → Q .non H'
/-- a new tally -/
abbrev NewT (C : Addr) (H : Hp) (Q : VK) (a b c e : Int) : Prop := ∀ (x dx : Addr) (H' : Hp), Same H H' → H' x = some (.ins C dx (fT a b c e)) → Q (.ref x) H'
def sp2 (C : Addr) (g : Int → Int → Int) : Sp := fun vs H Q _ => ∃ (p q dx dy : Addr) (a b c e a' b' c' e' : Int), vs = [.ref p, .ref q] ∧ H p = some (.ins C dx (fT a b c e)) ∧ H q = some (.ins C dy (fT a' b' c' e')) ∧
  NewT C H Q (g a a') (g b b') (g c c') (g e e')
def spMul (C : Addr) : Sp := fun vs H Q _ => ∃ (p dx : Addr) (a b c e k : Int), vs = [.ref p, .int k] ∧ H p = some (.ins C dx (fT a b c e)) ∧ (-18446744073709551616 < k ∧ k < 18446744073709551616) ∧ NewT C H Q (a * k) (b * k) (c * k) (e * k)
def spNeg (C : Addr) : Sp := fun vs H Q _ => ∃ (p dx : Addr) (a b c e : Int), vs = [.ref p] ∧ H p = some (.ins C dx (fT a b c e)) ∧ NewT C H Q b a c e
def val (a b c e m n : Int) : Int := a * m + b * n + c * (if m < n then m else n) + e * m * n
def spCall (C : Addr) : Sp := fun vs H Q _ => ∃ (p dx : Addr) (a b c e m n : Int), vs = [.ref p, .int m, .int n] ∧ H p = some (.ins C dx (fT a b c e)) ∧ (-18446744073709551616 < m ∧ m < 18446744073709551616) ∧ (-18446744073709551616 < n ∧ n < 18446744073709551616) ∧ Q (.int (val a b c e m n)) H
def spEq (C : Addr) : Sp := fun vs H Q _ => ∃ (p q dx dy : Addr) (a b c e a' b' c' e' : Int), vs = [.ref p, .ref q] ∧ H p = some (.ins C dx (fT a b c e)) ∧ H q = some (.ins C dy (fT a' b' c' e')) ∧
  Q (.bl (decide (a = a' ∧ b = b' ∧ c = c' ∧ e = e'))) H
def undB (a b c e a' b' c' e' : Int) : Bool := decide (0 ≤ a' - a ∧ 0 ≤ b' - b ∧ 0 ≤ e' - e ∧ 0 ≤ (a' - a) + (b' - b) + (c' - c) + (e' - e))
def spUnder (C : Addr) : Sp := fun vs H Q _ => ∃ (p q dx dy : Addr) (a b c e a' b' c' e' : Int), vs = [.ref p, .ref q] ∧ H p = some (.ins C dx (fT a b c e)) ∧ H q = some (.ins C dy (fT a' b' c' e')) ∧
  ∀ H', Same H H' → Q (.bl (undB a b c e a' b' c' e')) H'
section
variable {P : Program} {w : World} {K : PySem.W.Frag} {mg : Str → Option Value} {base : Heap}
theorem mk_Tally (T : Txt K w mg) : Mak P w K mg base 1 "Tally" T.a_Tally (spInit T.a_Tally) [] := by
  refine mak0 (N := N_Tinit) T.d_Tinit sc_Tinit (by rintro vs H Q E ⟨_, _, _, _, _, _, rfl, _⟩; rfl) ?_
  rintro f cdv A out s H vs Q E hr ⟨x, dx, a, b, c, e, rfl, hx, k⟩
  have hC_Tally := T.c_Tally; have n_Tally_a := T.na_Tally_a; have n_Tally_b := T.na_Tally_b; have n_Tally_c := T.na_Tally_c; have n_Tally_e := T.na_Tally_e
  refine ⟨_, (pss_cons (ps_fld (pv 0) (pv 1) rfl)
    (pss_cons (ps_fld (pv 0) (pv 2) rfl)
    (pss_cons (ps_fld (pv 0) (pv 3) rfl)
    (pss_one (ps_fld (pv 0) (pv 4) rfl))))), ?_⟩
  dsimp only [cxK]
  walk_at "r"
  refine k _ ?_
  rw [upd_upd, upd_upd, upd_upd]
  rfl
theorem use_mk {C : Addr} {H : Hp} {Q : VK} {a b c e : Int} (k : NewT C H Q a b c e) : kMk C (spInit C) Q E0 [.int a, .int b, .int c, .int e] H := by
  intro x dx hx hd ne
  refine ⟨x, dx, a, b, c, e, rfl, upd_same, fun H' e' => ⟨rfl, k x dx H' ?_ ?_⟩⟩
  · rw [e', upd_upd]
    intro y o h
    rw [upd_ne (ne_of_none h hx), upd_ne (ne_of_none h hd)]
    exact h
  · rw [e']
    exact upd_same
theorem mt_Tadd (T : Txt K w mg) : Met P w K mg base 3 T.a_Tally "__add__" (sp2 T.a_Tally (· + ·)) [] := by
  refine met0 (N := N_Tadd) T.d_Tadd sc_Tadd (by rintro vs H Q E ⟨_, _, _, _, _, _, _, _, _, _, _, _, rfl, _⟩; rfl) ?_
  rintro f cdv A out s H vs Q E hr ⟨p, q, dx, dy, a, b, c, e, a', b', c', e', rfl, h1, h2, k⟩
  have hC_Tally := T.c_Tally; have n_Tally_a := T.na_Tally_a; have n_Tally_b := T.na_Tally_b; have n_Tally_c := T.na_Tally_c; have n_Tally_e := T.na_Tally_e
  refine ⟨_, (pss_one (ps_ret (Tw.pe_mk (mk_Tally T) hr (by decide) (by rfl) (pa_cons (pe_op op_add (pe_fld (pv 0) rfl) (pe_fld (pv 1) rfl)) (pa_cons (pe_op op_add (pe_fld (pv 0) rfl) (pe_fld (pv 1) rfl)) (pa_cons (pe_op op_add (pe_fld (pv 0) rfl) (pe_fld (pv 1) rfl)) (pa_cons (pe_op op_add (pe_fld (pv 0) rfl) (pe_fld (pv 1) rfl)) pa_nil))))))), ?_⟩
  dsimp only [cxK]
  walk_at "r"
  exact use_mk k
theorem mt_Tsub (T : Txt K w mg) : Met P w K mg base 3 T.a_Tally "__sub__" (sp2 T.a_Tally (· - ·)) [] := by
  refine met0 (N := N_Tsub) T.d_Tsub sc_Tsub (by rintro vs H Q E ⟨_, _, _, _, _, _, _, _, _, _, _, _, rfl, _⟩; rfl) ?_
  rintro f cdv A out s H vs Q E hr ⟨p, q, dx, dy, a, b, c, e, a', b', c', e', rfl, h1, h2, k⟩
  have hC_Tally := T.c_Tally; have n_Tally_a := T.na_Tally_a; have n_Tally_b := T.na_Tally_b; have n_Tally_c := T.na_Tally_c; have n_Tally_e := T.na_Tally_e
  refine ⟨_, (pss_one (ps_ret (Tw.pe_mk (mk_Tally T) hr (by decide) (by rfl) (pa_cons (pe_op op_sub (pe_fld (pv 0) rfl) (pe_fld (pv 1) rfl)) (pa_cons (pe_op op_sub (pe_fld (pv 0) rfl) (pe_fld (pv 1) rfl)) (pa_cons (pe_op op_sub (pe_fld (pv 0) rfl) (pe_fld (pv 1) rfl)) (pa_cons (pe_op op_sub (pe_fld (pv 0) rfl) (pe_fld (pv 1) rfl)) pa_nil))))))), ?_⟩
  dsimp only [cxK]
  walk_at "r"
  exact use_mk k
theorem mt_Tmul (T : Txt K w mg) : Met P w K mg base 3 T.a_Tally "__mul__" (spMul T.a_Tally) [] := by
  refine met0 (N := N_Tmul) T.d_Tmul sc_Tmul (by rintro vs H Q E ⟨_, _, _, _, _, _, _, rfl, _⟩; rfl) ?_
  rintro f cdv A out s H vs Q E hr ⟨p, dx, a, b, c, e, kk, rfl, h1, ⟨hk1, hk2⟩, k⟩
  have hC_Tally := T.c_Tally; have n_Tally_a := T.na_Tally_a; have n_Tally_b := T.na_Tally_b; have n_Tally_c := T.na_Tally_c; have n_Tally_e := T.na_Tally_e
  refine ⟨_, (pss_one (ps_ret (Tw.pe_mk (mk_Tally T) hr (by decide) (by rfl) (pa_cons (pe_op op_mul (pe_fld (pv 0) rfl) (pv 1)) (pa_cons (pe_op op_mul (pe_fld (pv 0) rfl) (pv 1)) (pa_cons (pe_op op_mul (pe_fld (pv 0) rfl) (pv 1)) (pa_cons (pe_op op_mul (pe_fld (pv 0) rfl) (pv 1)) pa_nil))))))), ?_⟩
  dsimp only [cxK]
  walk_at "r"
  exact use_mk k
theorem mt_Trmul (T : Txt K w mg) : Met P w K mg base 3 T.a_Tally "__rmul__" (spMul T.a_Tally) [] := by
  refine met0 (N := N_Trmul) T.d_Trmul sc_Trmul (by rintro vs H Q E ⟨_, _, _, _, _, _, _, rfl, _⟩; rfl) ?_
  rintro f cdv A out s H vs Q E hr ⟨p, dx, a, b, c, e, kk, rfl, h1, ⟨hk1, hk2⟩, k⟩
  have hC_Tally := T.c_Tally; have n_Tally_a := T.na_Tally_a; have n_Tally_b := T.na_Tally_b; have n_Tally_c := T.na_Tally_c; have n_Tally_e := T.na_Tally_e
  refine ⟨_, (pss_one (ps_ret (Tw.pe_mk (mk_Tally T) hr (by decide) (by rfl) (pa_cons (pe_op op_mul (pe_fld (pv 0) rfl) (pv 1)) (pa_cons (pe_op op_mul (pe_fld (pv 0) rfl) (pv 1)) (pa_cons (pe_op op_mul (pe_fld (pv 0) rfl) (pv 1)) (pa_cons (pe_op op_mul (pe_fld (pv 0) rfl) (pv 1)) pa_nil))))))), ?_⟩
  dsimp only [cxK]
  walk_at "r"
  exact use_mk k
theorem mt_Tneg (T : Txt K w mg) : Met P w K mg base 3 T.a_Tally "__neg__" (spNeg T.a_Tally) [] := by
  refine met0 (N := N_Tneg) T.d_Tneg sc_Tneg (by rintro vs H Q E ⟨_, _, _, _, _, _, rfl, _⟩; rfl) ?_
  rintro f cdv A out s H vs Q E hr ⟨p, dx, a, b, c, e, rfl, h1, k⟩
  have hC_Tally := T.c_Tally; have n_Tally_a := T.na_Tally_a; have n_Tally_b := T.na_Tally_b; have n_Tally_c := T.na_Tally_c; have n_Tally_e := T.na_Tally_e
  refine ⟨_, (pss_one (ps_ret (Tw.pe_mk (mk_Tally T) hr (by decide) (by rfl) (pa_cons (pe_fld (pv 0) rfl) (pa_cons (pe_fld (pv 0) rfl) (pa_cons (pe_fld (pv 0) rfl) (pa_cons (pe_fld (pv 0) rfl) pa_nil))))))), ?_⟩
  dsimp only [cxK]
  walk_at "r"
  exact use_mk k
theorem mt_Tcall (T : Txt K w mg) : Met P w K mg base 1 T.a_Tally "__call__" (spCall T.a_Tally) [] := by
  refine met0 (N := N_Tcall) T.d_Tcall sc_Tcall (by rintro vs H Q E ⟨_, _, _, _, _, _, _, _, rfl, _⟩; rfl) ?_
  rintro f cdv A out s H vs Q E hr ⟨p, dx, a, b, c, e, m, n, rfl, h1, ⟨hm1, hm2⟩, ⟨hn1, hn2⟩, k⟩
  have hC_Tally := T.c_Tally; have n_Tally_a := T.na_Tally_a; have n_Tally_b := T.na_Tally_b; have n_Tally_c := T.na_Tally_c; have n_Tally_e := T.na_Tally_e
  refine ⟨_, (pss_cons (ps_set (i := 3) sc_Tcall.nd rfl (Or.inl rfl) (pe_ifExp (pt_cmpR op_lt (pv 1) (pv 2) (nomark _)) (pv 1) (pv 2)))
    (pss_one (ps_ret (pe_op op_add (pe_op op_add (pe_op op_add (pe_op op_mul (pe_fld (pv 0) rfl) (pv 1)) (pe_op op_mul (pe_fld (pv 0) rfl) (pv 2))) (pe_op op_mul (pe_fld (pv 0) rfl) (pv 3))) (pe_op op_mul (pe_op op_mul (pe_fld (pv 0) rfl) (pv 1)) (pv 2)))))), ?_⟩
  dsimp only [cxK]
  walk_at "r"
  refine w_dec (fun h => ?_) (fun h => ?_)
  · walk_at "r"
    have e1 : val a b c e m n = a * m + b * n + c * m + e * m * n := by unfold val; rw [if_pos h]
    rw [e1] at k
    exact k
  · walk_at "r"
    have e1 : val a b c e m n = a * m + b * n + c * n + e * m * n := by unfold val; rw [if_neg h]
    rw [e1] at k
    exact k
end
end K65


local macro_rules | `(tactic| walk_at "lk") => `(tactic| first | exact K65.fT_a _ _ _ _ | exact K65.fT_b _ _ _ _ | exact K65.fT_c _ _ _ _ | exact K65.fT_e _ _ _ _ | exact K65.fT_under _ _ _ _)

namespace K65
open PySem PySem.Spec PyProof.Rows L2 Tw
theorem use_sp2 {C : Addr} {g : Int → Int → Int} {H : Hp} {Q : VK} {E : XK} {p q dx dy : Addr} {a b c e a' b' c' e' : Int} (h1 : H p = some (.ins C dx (fT a b c e))) (h2 : H q = some (.ins C dy (fT a' b' c' e'))) (k : NewT C H Q (g a a') (g b b') (g c c') (g e e')) : sp2 C g [.ref p, .ref q] H Q E :=
  ⟨p, q, dx, dy, a, b, c, e, a', b', c', e', rfl, h1, h2, k⟩
theorem use_mul {C : Addr} {H : Hp} {Q : VK} {E : XK} {p dx : Addr} {a b c e k : Int} (h1 : H p = some (.ins C dx (fT a b c e))) (hk : -18446744073709551616 < k ∧ k < 18446744073709551616) (h : NewT C H Q (a * k) (b * k) (c * k) (e * k)) : spMul C [.ref p, .int k] H Q E :=
  ⟨p, dx, a, b, c, e, k, rfl, h1, hk, h⟩
theorem use_neg {C : Addr} {H : Hp} {Q : VK} {E : XK} {p dx : Addr} {a b c e : Int} (h1 : H p = some (.ins C dx (fT a b c e))) (h : NewT C H Q b a c e) : spNeg C [.ref p] H Q E := ⟨p, dx, a, b, c, e, rfl, h1, h⟩
theorem use_call {C : Addr} {H : Hp} {Q : VK} {E : XK} {p dx : Addr} {a b c e m n : Int} (h1 : H p = some (.ins C dx (fT a b c e))) (hm : -18446744073709551616 < m ∧ m < 18446744073709551616) (hn : -18446744073709551616 < n ∧ n < 18446744073709551616) (h : Q (.int (val a b c e m n)) H) : spCall C [.ref p, .int m, .int n] H Q E :=
  ⟨p, dx, a, b, c, e, m, n, rfl, h1, hm, hn, h⟩
theorem use_eq {C : Addr} {H : Hp} {Q : VK} {E : XK} {p q dx dy : Addr} {a b c e a' b' c' e' : Int} (h1 : H p = some (.ins C dx (fT a b c e))) (h2 : H q = some (.ins C dy (fT a' b' c' e'))) (k : Q (.bl (decide (a = a' ∧ b = b' ∧ c = c' ∧ e = e'))) H) : spEq C [.ref p, .ref q] H Q E :=
  ⟨p, q, dx, dy, a, b, c, e, a', b', c', e', rfl, h1, h2, k⟩
theorem use_under {C : Addr} {H : Hp} {Q : VK} {E : XK} {p q dx dy : Addr} {a b c e a' b' c' e' : Int} (h1 : H p = some (.ins C dx (fT a b c e))) (h2 : H q = some (.ins C dy (fT a' b' c' e'))) (k : ∀ H', Same H H' → Q (.bl (undB a b c e a' b' c' e')) H') : spUnder C [.ref p, .ref q] H Q E :=
  ⟨p, q, dx, dy, a, b, c, e, a', b', c', e', rfl, h1, h2, k⟩
/-- _law_part: a number of at most six digits -/
def spPart : Sp := fun vs H Q _ => ∃ (p : Addr) (n : Nat), vs = [.ref p] ∧ PenAt H p n ∧ n + 4 ≤ 1000000 ∧ ∀ (k : Int) (H' : Hp), -1000000 ≤ k → k ≤ 1000000 → SP H H' → PenAt H' p (n + 4) → Q (.int k) H'
theorem use_part {H : Hp} {p : Addr} {Q : VK} {E : XK} (n : Nat) (h1 : PenAt H p n) (h2 : n + 4 ≤ 1000000) (k : ∀ (k : Int) (H' : Hp), -1000000 ≤ k → k ≤ 1000000 → SP H H' → PenAt H' p (n + 4) → Q (.int k) H') : spPart [.ref p] H Q E := ⟨p, n, rfl, h1, h2, k⟩
/-- the parts of a tally within M -/
def Bd (M a b c e : Int) : Prop := (-M ≤ a ∧ a ≤ M) ∧ (-M ≤ b ∧ b ≤ M) ∧ (-M ≤ c ∧ c ≤ M) ∧ (-M ≤ e ∧ e ≤ M)
def spTally (C : Addr) : Sp := fun vs H Q _ => ∃ (p : Addr) (n : Nat), vs = [.ref p] ∧ PenAt H p n ∧ n + 16 ≤ 1000000 ∧
  ∀ (x dx : Addr) (a b c e : Int) (H' : Hp), Bd 1000000 a b c e → SP H H' → PenAt H' p (n + 16) → H' x = some (.ins C dx (fT a b c e)) → Q (.ref x) H'
theorem use_tally {C : Addr} {H : Hp} {p : Addr} {Q : VK} {E : XK} (n : Nat) (h1 : PenAt H p n) (h2 : n + 16 ≤ 1000000) (k : ∀ (x dx : Addr) (a b c e : Int) (H' : Hp), Bd 1000000 a b c e → SP H H' → PenAt H' p (n + 16) → H' x = some (.ins C dx (fT a b c e)) → Q (.ref x) H') : spTally C [.ref p] H Q E := ⟨p, n, rfl, h1, h2, k⟩
def spAdded (C : Addr) : Sp := fun vs H Q _ => ∃ (p q dq : Addr) (n : Nat) (M a b c e : Int), vs = [.ref p, .ref q] ∧ PenAt H p n ∧ n + 4 ≤ 1000000 ∧ H q = some (.ins C dq (fT a b c e)) ∧ Bd M a b c e ∧
  ∀ (x dx : Addr) (a' b' c' e' : Int) (H' : Hp), Bd (M + 10) a' b' c' e' → SP H H' → PenAt H' p (n + 4) → H' x = some (.ins C dx (fT a' b' c' e')) → Q (.ref x) H'
theorem use_added {C : Addr} {H : Hp} {p q dq : Addr} {Q : VK} {E : XK} {a b c e : Int} (n : Nat) (M : Int) (h1 : PenAt H p n) (h2 : n + 4 ≤ 1000000) (h3 : H q = some (.ins C dq (fT a b c e))) (h4 : Bd M a b c e)
    (k : ∀ (x dx : Addr) (a' b' c' e' : Int) (H' : Hp), Bd (M + 10) a' b' c' e' → SP H H' → PenAt H' p (n + 4) → H' x = some (.ins C dx (fT a' b' c' e')) → Q (.ref x) H') : spAdded C [.ref p, .ref q] H Q E := ⟨p, q, dq, n, M, a, b, c, e, rfl, h1, h2, h3, h4, k⟩
def dueB (a b c e a' b' c' e' : Int) : Bool := decide (val a b c e 1 0 ≤ val a' b' c' e' 1 0 ∧ val a b c e 0 1 ≤ val a' b' c' e' 0 1 ∧ val a b c e 1 1 ≤ val a' b' c' e' 1 1 ∧ val a b c e 100000000 100000000 ≤ val a' b' c' e' 100000000 100000000)
def spDue (C : Addr) : Sp := fun vs H Q _ => ∃ (p q dx dy : Addr) (a b c e a' b' c' e' : Int), vs = [.ref p, .ref q] ∧ H p = some (.ins C dx (fT a b c e)) ∧ H q = some (.ins C dy (fT a' b' c' e')) ∧
  ∀ H', Same H H' → Q (.bl (dueB a b c e a' b' c' e')) H'
theorem use_due {C : Addr} {H : Hp} {Q : VK} {E : XK} {p q dx dy : Addr} {a b c e a' b' c' e' : Int} (h1 : H p = some (.ins C dx (fT a b c e))) (h2 : H q = some (.ins C dy (fT a' b' c' e'))) (k : ∀ H', Same H H' → Q (.bl (dueB a b c e a' b' c' e')) H') : spDue C [.ref p, .ref q] H Q E :=
  ⟨p, q, dx, dy, a, b, c, e, a', b', c', e', rfl, h1, h2, k⟩
/-! ### the plain laws -/
theorem und_due {M a b c e a' b' c' e' : Int} (hM : M ≤ 5000000) (h1 : Bd M a b c e) (h2 : Bd M a' b' c' e') : undB a b c e a' b' c' e' = dueB a b c e a' b' c' e' := by
  unfold undB dueB
  refine decide_eq_decide.mpr ?_
  obtain ⟨⟨p1, p2⟩, ⟨p3, p4⟩, ⟨p5, p6⟩, ⟨p7, p8⟩⟩ := h1
  obtain ⟨⟨q1, q2⟩, ⟨q3, q4⟩, ⟨q5, q6⟩, ⟨q7, q8⟩⟩ := h2
  simp only [val]
  simp only [show ¬ ((1 : Int) < 0) by decide, show (0 : Int) < 1 by decide, show ¬ ((1 : Int) < 1) by decide, show ¬ ((100000000 : Int) < 100000000) by decide, if_true, if_false]
  omega
theorem und_val {a b c e a' b' c' e' m n : Int} (h : undB a b c e a' b' c' e' = true) (hm : 0 ≤ m) (hn : 0 ≤ n) : val a b c e m n ≤ val a' b' c' e' m n := by
  obtain ⟨h1, h2, h3, h4⟩ := of_decide_eq_true h
  have key : ∀ A B C E : Int, 0 ≤ A → 0 ≤ B → 0 ≤ E → 0 ≤ A + B + C + E → 0 ≤ A * m + B * n + C * (if m < n then m else n) + E * m * n := by
    intro A B C E hA hB hE hS
    have w1 := Int.mul_nonneg hA hm
    have w2 := Int.mul_nonneg hB hn
    have w3 := Int.mul_nonneg (Int.mul_nonneg hE hm) hn
    by_cases hlt : m < n
    · rw [if_pos hlt]
      by_cases hz : m = 0
      · subst hz; simp at *; omega
      · have x1 := Int.mul_nonneg hS hm
        have x2 := Int.mul_nonneg hB (show 0 ≤ n - m by omega)
        have x3 := Int.mul_nonneg (Int.mul_nonneg hE hm) (show 0 ≤ n - 1 by omega)
        have e1 : (A + B + C + E) * m = A * m + B * m + C * m + E * m := by rw [Int.add_mul, Int.add_mul, Int.add_mul]
        have e2 : B * (n - m) = B * n - B * m := Int.mul_sub ..
        have e3 : E * m * (n - 1) = E * m * n - E * m := by rw [Int.mul_sub, Int.mul_one]
        omega
    · rw [if_neg hlt]
      by_cases hz : n = 0
      · subst hz; simp at *; omega
      · have x1 := Int.mul_nonneg hS hn
        have x2 := Int.mul_nonneg hA (show 0 ≤ m - n by omega)
        have x3 := Int.mul_nonneg (Int.mul_nonneg hE hn) (show 0 ≤ m - 1 by omega)
        have e1 : (A + B + C + E) * n = A * n + B * n + C * n + E * n := by rw [Int.add_mul, Int.add_mul, Int.add_mul]
        have e2 : A * (m - n) = A * m - A * n := Int.mul_sub ..
        have e3 : E * n * (m - 1) = E * m * n - E * n := by rw [Int.mul_sub, Int.mul_one, Int.mul_assoc E n m, Int.mul_comm n m, ← Int.mul_assoc]
        omega
  have z := key _ _ _ _ h1 h2 h3 h4
  unfold val
  rw [Int.sub_mul, Int.sub_mul, Int.sub_mul, Int.sub_mul, Int.sub_mul] at z
  omega
theorem und_self (a b c e : Int) : undB a b c e a b c e = true := by
  unfold undB
  exact decide_eq_true ⟨by omega, by omega, by omega, by omega⟩
theorem und_anti {a b c e a' b' c' e' : Int} (h : undB a b c e a' b' c' e' = true) (h2 : undB a' b' c' e' a b c e = true) : a = a' ∧ b = b' ∧ c = c' ∧ e = e' := by
  obtain ⟨h1, h2, h3, h4⟩ := of_decide_eq_true h
  obtain ⟨k1, k2, k3, k4⟩ := of_decide_eq_true ‹undB a' b' c' e' a b c e = true›
  omega
theorem und_add (a b c e a' b' c' e' x y z t : Int) : undB (a + x) (b + y) (c + z) (e + t) (a' + x) (b' + y) (c' + z) (e' + t) = undB a b c e a' b' c' e' := by
  unfold undB
  refine decide_eq_decide.mpr ?_
  constructor <;> intro h <;> obtain ⟨h1, h2, h3, h4⟩ := h <;> exact ⟨by omega, by omega, by omega, by omega⟩
theorem und_neg (a b c e a' b' c' e' : Int) : undB b a c e b' a' c' e' = undB a b c e a' b' c' e' := by
  unfold undB
  refine decide_eq_decide.mpr ?_
  constructor <;> intro h <;> obtain ⟨h1, h2, h3, h4⟩ := h <;> exact ⟨by omega, by omega, by omega, by omega⟩
theorem pos_mul {k x : Int} (hk : 1 ≤ k) : 0 ≤ x * k ↔ 0 ≤ x := by
  constructor
  · intro h
    by_cases hx : x < 0
    · have := Int.mul_neg_of_neg_of_pos hx (show 0 < k by omega)
      omega
    · omega
  · intro h
    exact Int.mul_nonneg h (by omega)
theorem und_mul {k : Int} (hk : 1 ≤ k) (a b c e a' b' c' e' : Int) : undB (a * k) (b * k) (c * k) (e * k) (a' * k) (b' * k) (c' * k) (e' * k) = undB a b c e a' b' c' e' := by
  unfold undB
  refine decide_eq_decide.mpr ?_
  rw [← Int.sub_mul, ← Int.sub_mul, ← Int.sub_mul, ← Int.sub_mul, ← Int.add_mul, ← Int.add_mul, ← Int.add_mul]
  rw [pos_mul hk, pos_mul hk, pos_mul hk, pos_mul hk]
theorem und_zero (a b c e a' b' c' e' : Int) : undB (a * 0) (b * 0) (c * 0) (e * 0) (a' * 0) (b' * 0) (c' * 0) (e' * 0) = true := by
  simp [undB]
theorem und_minus (a b c e a' b' c' e' : Int) : undB (a' * -1) (b' * -1) (c' * -1) (e' * -1) (a * -1) (b * -1) (c * -1) (e * -1) = undB a b c e a' b' c' e' := by
  unfold undB
  refine decide_eq_decide.mpr ?_
  constructor <;> intro h <;> obtain ⟨h1, h2, h3, h4⟩ := h <;> exact ⟨by omega, by omega, by omega, by omega⟩
theorem und_trans {a b c e a' b' c' e' x y z t : Int} (h : undB a b c e a' b' c' e' = true) (h2 : undB a' b' c' e' x y z t = true) : undB a b c e x y z t = true := by
  obtain ⟨h1, h2, h3, h4⟩ := of_decide_eq_true h
  obtain ⟨k1, k2, k3, k4⟩ := of_decide_eq_true ‹undB a' b' c' e' x y z t = true›
  exact decide_eq_true ⟨by omega, by omega, by omega, by omega⟩
end K65
local macro_rules | `(tactic| walk_at "c1") => `(tactic| first
  | ((with_reducible refine' Tw.use_draw _ ?a ?b ?c ?d ?_); (case a => walk_at "pen"); (case b => omega); (case c => omega); (case d => omega); intro _ _ _ _ _ _)
  | ((with_reducible refine' K65.use_part _ ?a ?b ?_); (case a => walk_at "pen"); (case b => omega); intro _ _ _ _ _ _)
  | ((with_reducible refine' K65.use_sp2 ?a ?b ?_); (case a => walk_at "hp"); (case b => walk_at "hp"); intro _ _ _ _ _)
  | ((with_reducible refine' K65.use_mul ?a ?b ?_); (case a => walk_at "hp"); (case b => exact ⟨by omega, by omega⟩); intro _ _ _ _ _)
  | ((with_reducible refine' K65.use_neg ?a ?_); (case a => walk_at "hp"); intro _ _ _ _ _)
  | ((with_reducible refine' K65.use_call ?a ?b ?c ?_); (case a => walk_at "hp"); (case b => exact ⟨by omega, by omega⟩); (case c => exact ⟨by omega, by omega⟩))
  | ((with_reducible refine' K65.use_eq ?a ?b ?_); (case a => walk_at "hp"); (case b => walk_at "hp"))
  | ((with_reducible refine' K65.use_under ?a ?b ?_); (case a => walk_at "hp"); (case b => walk_at "hp"); intro _ _)
  | ((with_reducible refine' K65.use_due ?a ?b ?_); (case a => walk_at "hp"); (case b => walk_at "hp"); intro _ _)
  | ((with_reducible refine' K65.use_tally _ ?a ?b ?_); (case a => walk_at "pen"); (case b => omega); intro _ _ _ _ _ _ _ _ _ _ _)
  | ((with_reducible refine' K65.use_added _ _ ?a ?b ?c ?d ?_); (case a => walk_at "pen"); (case b => omega); (case c => walk_at "hp"); (case d => assumption); intro _ _ _ _ _ _ _ _ _ _ _)
  | ((with_reducible refine' K65.use_mk ?_); intro _ _ _ _ _))
namespace K65
open PySem PySem.Spec PyProof.Rows L2 Tw
section
variable {P : Program} {w : World} {K : PySem.W.Frag} {mg : Str → Option Value} {base : Heap}
theorem mt_Teq (T : Txt K w mg) : Met P w K mg base 1 T.a_Tally "__eq__" (spEq T.a_Tally) [] := by
  refine met0 (N := N_Teq) T.d_Teq sc_Teq (by rintro vs H Q E ⟨_, _, _, _, _, _, _, _, _, _, _, _, rfl, _⟩; rfl) ?_
  rintro f cdv A out s H vs Q E hr ⟨p, q, dx, dy, a, b, c, e, a', b', c', e', rfl, h1, h2, k⟩
  have hC_Tally := T.c_Tally; have n_Tally_a := T.na_Tally_a; have n_Tally_b := T.na_Tally_b; have n_Tally_c := T.na_Tally_c; have n_Tally_e := T.na_Tally_e
  refine ⟨_, (pss_cons (ps_if (pt_not (pt_val (pe_callB call_isi (by rfl) T.n_isinstance (by decide +kernel) (pa_cons (pv 1) (pa_cons (C8.pe_gc (by rfl) T.g_Tally) pa_nil))))) (pss_one (ps_ret pe_bl)) pss_nil)
    (pss_one (ps_ret (pe_and (pe_cmpR op_eq (pe_fld (pv 0) rfl) (pe_fld (pv 1) rfl) (nomark _)) (pe_and (pe_cmpR op_eq (pe_fld (pv 0) rfl) (pe_fld (pv 1) rfl) (nomark _)) (pe_and (pe_cmpR op_eq (pe_fld (pv 0) rfl) (pe_fld (pv 1) rfl) (nomark _)) (pe_one (pe_cmpR op_eq (pe_fld (pv 0) rfl) (pe_fld (pv 1) rfl) (nomark _))))))))), ?_⟩
  dsimp only [cxK]
  walk_at "r"
  refine ⟨_, _, _, _, _, rfl, .own _, .base (TyOf.ins h2 T.ic.cl T.ic.ha T.ic.hn T.ic.htk T.ic.hm), T.kit, ?_⟩
  walk_at "r"
  refine w_dec (fun e1 => ?_) (fun e1 => ?_)
  · walk_at "r"
    refine w_dec (fun e2 => ?_) (fun e2 => ?_)
    · walk_at "r"
      refine w_dec (fun e3 => ?_) (fun e3 => ?_)
      · walk_at "r"
        have z : decide (a = a' ∧ b = b' ∧ c = c' ∧ e = e') = decide (e = e') := decide_eq_decide.mpr ⟨fun z => z.2.2.2, fun z => ⟨e1, e2, e3, z⟩⟩
        rw [z] at k
        exact k
      · rw [decide_eq_false (fun z => e3 z.2.2.1)] at k
        exact k
    · rw [decide_eq_false (fun z => e2 z.2.1)] at k
      exact k
  · rw [decide_eq_false (fun z => e1 z.1)] at k
    exact k
theorem mt_Tunder (T : Txt K w mg) : Met P w K mg base 4 T.a_Tally "under" (spUnder T.a_Tally) [] := by
  refine met0 (N := N_Tunder) T.d_Tunder sc_Tunder (by rintro vs H Q E ⟨_, _, _, _, _, _, _, _, _, _, _, _, rfl, _⟩; rfl) ?_
  rintro f cdv A out s H vs Q E hr ⟨p, q, dx, dy, a, b, c, e, a', b', c', e', rfl, h1, h2, k⟩
  have hC_Tally := T.c_Tally; have n_Tally_a := T.na_Tally_a; have n_Tally_b := T.na_Tally_b; have n_Tally_c := T.na_Tally_c; have n_Tally_e := T.na_Tally_e
  refine ⟨_, (pss_cons (ps_set (i := 2) sc_Tunder.nd rfl (Or.inl rfl) (pe_op (op_own2 (mt_Tsub T) T.sf_Tally hr (by decide)) (pv 1) (pv 0)))
    (pss_cons (ps_if (PW.pt (pw_or (pt_cmpR op_lt (pe_fld (pv 2) rfl) pe_int (nomark _)) (pw_or (pt_cmpR op_lt (pe_fld (pv 2) rfl) pe_int (nomark _)) (pw_or1 (pt_cmpR op_lt (pe_fld (pv 2) rfl) pe_int (nomark _)))))) (pss_one (ps_ret pe_bl)) pss_nil)
    (pss_one (ps_ret (pe_cmpR op_ge (pe_op op_add (pe_op op_add (pe_op op_add (pe_fld (pv 2) rfl) (pe_fld (pv 2) rfl)) (pe_fld (pv 2) rfl)) (pe_fld (pv 2) rfl)) pe_int (nomark _)))))), ?_⟩
  dsimp only [cxK]
  walk_at "r"
  have fin : ∀ t : Bool, t = undB a b c e a' b' c' e' → Q (.bl t) _ := fun t ht => by rw [ht]; exact k _ (by assumption)
  refine w_dec (fun z1 => ?_) (fun z1 => ?_)
  · walk_at "r"
    exact fin _ (by unfold undB; rw [eq_comm, decide_eq_false_iff_not]; omega)
  · walk_at "r"
    refine w_dec (fun z2 => ?_) (fun z2 => ?_)
    · walk_at "r"
      exact fin _ (by unfold undB; rw [eq_comm, decide_eq_false_iff_not]; omega)
    · walk_at "r"
      refine w_dec (fun z3 => ?_) (fun z3 => ?_)
      · walk_at "r"
        exact fin _ (by unfold undB; rw [eq_comm, decide_eq_false_iff_not]; omega)
      · walk_at "r"
        exact fin _ (by unfold undB; refine decide_eq_decide.mpr ⟨fun z => ⟨by omega, by omega, by omega, by omega⟩, fun z => by omega⟩)
end
end K65


local macro_rules | `(tactic| walk_at "lk") => `(tactic| first | exact K65.fT_a _ _ _ _ | exact K65.fT_b _ _ _ _ | exact K65.fT_c _ _ _ _ | exact K65.fT_e _ _ _ _ | exact K65.fT_under _ _ _ _)
local macro_rules | `(tactic| walk_at "c1") => `(tactic| first
  | ((with_reducible refine' Tw.use_draw _ ?a ?b ?c ?d ?_); (case a => walk_at "pen"); (case b => omega); (case c => omega); (case d => omega); intro _ _ _ _ _ _)
  | ((with_reducible refine' K65.use_part _ ?a ?b ?_); (case a => walk_at "pen"); (case b => omega); intro _ _ _ _ _ _)
  | ((with_reducible refine' K65.use_sp2 ?a ?b ?_); (case a => walk_at "hp"); (case b => walk_at "hp"); intro _ _ _ _ _)
  | ((with_reducible refine' K65.use_mul ?a ?b ?_); (case a => walk_at "hp"); (case b => exact ⟨by omega, by omega⟩); intro _ _ _ _ _)
  | ((with_reducible refine' K65.use_neg ?a ?_); (case a => walk_at "hp"); intro _ _ _ _ _)
  | ((with_reducible refine' K65.use_call ?a ?b ?c ?_); (case a => walk_at "hp"); (case b => exact ⟨by omega, by omega⟩); (case c => exact ⟨by omega, by omega⟩))
  | ((with_reducible refine' K65.use_eq ?a ?b ?_); (case a => walk_at "hp"); (case b => walk_at "hp"))
  | ((with_reducible refine' K65.use_under ?a ?b ?_); (case a => walk_at "hp"); (case b => walk_at "hp"); intro _ _)
  | ((with_reducible refine' K65.use_due ?a ?b ?_); (case a => walk_at "hp"); (case b => walk_at "hp"); intro _ _)
  | ((with_reducible refine' K65.use_tally _ ?a ?b ?_); (case a => walk_at "pen"); (case b => omega); intro _ _ _ _ _ _ _ _ _ _ _)
  | ((with_reducible refine' K65.use_added _ _ ?a ?b ?c ?d ?_); (case a => walk_at "pen"); (case b => omega); (case c => walk_at "hp"); (case d => assumption); intro _ _ _ _ _ _ _ _ _ _ _)
  | ((with_reducible refine' K65.use_mk ?_); intro _ _ _ _ _))

namespace K65
open PySem PySem.Spec PyProof.Rows L2 Tw
section
variable {P : Program} {w : World} {K : PySem.W.Frag} {mg : Str → Option Value} {base : Heap}
theorem ok_draw (T : Txt K w mg) : Cal P w K mg base 1 "_law_draw" spDraw [] := by
  refine cal0 (N := N_draw) T.d_draw sc_draw (by rintro vs H Q E ⟨_, _, _, rfl, _⟩; rfl) ?_
  rintro f cdv A out s H vs Q E hr ⟨p, n, many, rfl, ⟨L, a, r, ns, hp, hL, ha0, han, hlen⟩, hm1, hm2, hn, k⟩
  refine ⟨_, (pss_cons (ps_if (pt_cmpR op_gt (pe_ix ix_list (pv 0) pe_int (fun _ _ => rfl)) pe_int (nomark _)) (pss_cons (ps_set (i := 2) sc_draw.nd rfl (Or.inl rfl) (pe_op op_mod (pe_callTy Tw.c_int (by rfl) T.n_int (by decide +kernel) (pa_cons (pe_ix ix_list (pv 0) pe_int (fun _ _ => rfl)) pa_nil)) (pv 1)))
      (pss_cons (ps_asg (pe_op op_fdivW (pe_callTy Tw.c_int (by rfl) T.n_int (by decide +kernel) (pa_cons (pe_ix ix_list (pv 0) pe_int (fun _ _ => rfl)) pa_nil)) (pv 1)) (pg_sub (pv 0) pe_int set_list))
      (pss_one (ps_ret (pv 2))))) pss_nil)
    (pss_cons (ps_set (i := 3) sc_draw.nd rfl (Or.inl rfl) (pe_ix ix_list (pv 0) pe_int (fun _ _ => rfl)))
    (pss_cons (ps_asg (pe_op op_add (pv 3) pe_int) (pg_sub (pv 0) pe_int set_list))
    (pss_cons (ps_set (i := 4) sc_draw.nd rfl (Or.inl rfl) (pe_op op_add (pe_op op_mul pe_int (pv 3)) pe_int))
    (C8.pss_cut (ps_if (pt_cmpR (op_neD hr.u) (pe_ix ix_list (pv 0) pe_int (fun _ _ => rfl)) (pe_lst pa_nil) (nomark _)) (pss_one (ps_set (i := 4) sc_draw.nd rfl (Or.inl rfl) (pe_ix ix_list (pe_ix ix_list (pv 0) pe_int (fun _ _ => rfl)) (pe_op op_mod (pe_callTy Tw.c_int (by rfl) T.n_int (by decide +kernel) (pa_cons (pv 3) pa_nil)) (pe_callB Tw.c_len (by rfl) T.n_len (by decide +kernel) (pa_cons (pe_ix ix_list (pv 0) pe_int (fun _ _ => rfl)) pa_nil))) (fun _ _ => rfl)))) pss_nil)
    (pss_cons (ps_if (PW.pt (pw_and (pt_cmpR op_lt (pv 3) (pe_callB Tw.c_len (by rfl) T.n_len (by decide +kernel) (pa_cons (pe_ix ix_list (pv 0) pe_int (fun _ _ => rfl)) pa_nil)) (nomark _)) (pw_and1 (pt_cmpR op_ge (pe_callB Tw.c_abs (by rfl) T.n_abs (by decide +kernel) (pa_cons (pv 4) pa_nil)) (pe_op op_pow pe_int pe_int) (nomark _))))) (pss_cons (ps_set (i := 5) sc_draw.nd rfl (Or.inl rfl) (pe_op op_add (pe_op op_mul pe_int (pe_op op_sub (pe_callB Tw.c_abs (by rfl) T.n_abs (by decide +kernel) (pa_cons (pv 4) pa_nil)) (pe_op op_pow pe_int pe_int))) (pe_callTy Tw.c_int (by rfl) T.n_int (by decide +kernel) (pa_cons (pe_cmpR op_lt (pv 4) pe_int (nomark _)) pa_nil))))
      (pss_cons (ps_asg (pe_op op_fdivW (pe_callTy Tw.c_int (by rfl) T.n_int (by decide +kernel) (pa_cons (pv 5) pa_nil)) (pv 1)) (pg_sub (pv 0) pe_int set_list))
      (pss_one (ps_ret (pe_op op_mod (pe_callTy Tw.c_int (by rfl) T.n_int (by decide +kernel) (pa_cons (pv 5) pa_nil)) (pv 1)))))) pss_nil)
    (pss_cons (ps_set (i := 6) sc_draw.nd rfl (Or.inl rfl) (pe_op op_mod (pe_callTy Tw.c_int (by rfl) T.n_int (by decide +kernel) (pa_cons (pe_op op_pow (pe_op op_add (pe_op op_add (pe_op op_mod (pe_callTy Tw.c_int (by rfl) T.n_int (by decide +kernel) (pa_cons (pv 4) pa_nil)) pe_int) (pe_op op_mul pe_int (pv 3))) pe_int) pe_int) pa_nil)) pe_int))
    (pss_cons (ps_set (i := 6) sc_draw.nd rfl (Or.inl rfl) (pe_op op_mod (pe_callTy Tw.c_int (by rfl) T.n_int (by decide +kernel) (pa_cons (pe_op op_pow (pe_op op_add (pe_op op_add (pe_op op_mul (pv 6) (pe_op op_add (pe_op op_mul pe_int (pv 3)) pe_int)) (pe_op op_mul (pe_op op_mul pe_int (pv 3)) (pv 3))) pe_int) pe_int) pa_nil)) pe_int))
    (pss_one (ps_ret (pe_op op_mod (pe_callTy Tw.c_int (by rfl) T.n_int (by decide +kernel) (pa_cons (pe_op op_fdivW (pv 6) pe_int) pa_nil)) (pv 1)))))))))))), ?_⟩
  try dsimp only [cxK]
  walk_at "r"
  refine w_dec (fun h => ?_) (fun h => ?_)
  · walk_at "r"
    exact k _ _ (by assumption) (by assumption) (SP.pen hp) ⟨L, a, r / many, ns, upd_same, penL hp hL, ha0, by omega, hlen⟩
  · walk_at "r"
    have hp1 : upd H p (.lst [.ref L, .int (a + 1), .int r]) p = some (.lst [.ref L, .int (a + 1), .int r]) := upd_same
    have hL1 : upd H p (.lst [.ref L, .int (a + 1), .int r]) L = some (.lst (ns.map V.int)) := penL hp hL
    have S1 : SP H (upd H p (.lst [.ref L, .int (a + 1), .int r])) := SP.pen hp
    show C8.tCut _ _ _ _ (upd H p (.lst [.ref L, .int (a + 1), .int r]))
    generalize upd H p (.lst [.ref L, .int (a + 1), .int r]) = H1 at hp1 hL1 S1 ⊢
    refine u_cut (fun σ' H' => ∃ c, σ' = [some (.ref p), some (.int many), none, some (.int a), some (.int c), none, none] ∧ Same H1 H') ?_ ?_
    · walk_at "r"
      refine r_ne0 (ns := ns) (by walk_at "hp") (by walk_at "hp") ?_
      walk_at "r"
      refine w_ndec (fun hne => ?_) (fun he => ?_)
      · walk_at "r"
        have hpos : 0 < ns.length := List.length_pos_iff.mpr hne
        refine r_mod (by rw [List.length_map]; omega) fun h0 h1 => ?_
        rw [List.length_map] at h0 h1 ⊢
        obtain ⟨c, hc⟩ := atI_ints h0 h1
        refine r_ixL' (by walk_at "hp") hc ?_
        walk_at "r"
        exact ⟨_, rfl, by assumption⟩
      · walk_at "r"
        exact ⟨_, rfl, by assumption⟩
    · rintro σ' H' ⟨c, rfl, S2⟩
      have hp2 := S2 _ _ hp1
      have hL2 := S2 _ _ hL1
      have S12 : SP H H' := S1.trans S2.sp
      walk_at "r"
      refine w_dec (fun h3 => ?_) (fun h3 => ?_)
      · walk_at "r"
        refine w_dec (fun h4 => ?_) (fun h4 => ?_)
        · walk_at "r"
          exact k _ _ (by assumption) (by assumption) (S12.trans (SP.pen hp2)) ⟨L, a + 1, _, ns, upd_same, penL hp2 hL2, by omega, by omega, hlen⟩
        · walk_at "r"
          refine r_pow (z := _) (by decide) (by decide) (drawB (by assumption) (by omega) (by omega) (by omega) ha0 (by omega) (by decide) (by decide) (by decide) (by decide)) rfl ?_
          walk_at "r"
          exact k _ _ (by assumption) (by assumption) S12 ⟨L, a + 1, r, ns, hp2, hL2, by omega, by omega, hlen⟩
      · walk_at "r"
        refine r_pow (z := _) (by decide) (by decide) (drawB (by assumption) (by omega) (by omega) (by omega) ha0 (by omega) (by decide) (by decide) (by decide) (by decide)) rfl ?_
        walk_at "r"
        exact k _ _ (by assumption) (by assumption) S12 ⟨L, a + 1, r, ns, hp2, hL2, by omega, by omega, hlen⟩

theorem ok_pen (T : Txt K w mg) : Cal P w K mg base 1 "_law_pen" (spPen K) [] := by
  refine cal0 (N := N_pen) T.d_pen sc_pen (by rintro vs H Q E ⟨_, _, rfl, _⟩; rfl) ?_
  rintro f cdv A out s H vs Q E hr ⟨a, ns, rfl, hS, hl, k⟩
  refine ⟨_, (pss_one (ps_ret (pe_lst (pa_cons (pe_callTy Tw.c_list (by rfl) T.n_list (by decide +kernel) (pa_cons (pe_slice sl_list (pv 0) po_none (po_some pe_int)) pa_nil)) (pa_cons pe_int (pa_cons pe_int pa_nil)))))), ?_⟩
  try dsimp only [cxK]
  walk_at "r"
  refine r_slL hS fun p H1 S1 hp _ => ?_
  walk_at "r"
  have e : cutV (ns.map V.int) none (some 63) = ns.map V.int := by
    exact (cutV_to (k := 63)).trans (List.take_of_length_le (by rw [List.length_map]; exact hl))
  rw [e] at hp
  refine r_listL (SqL.of hp) fun l H2 S2 hl2 _ => ?_
  walk_at "r"
  refine k _ _ (S1.trans (S2.trans (by assumption))) ⟨l, 0, 0, ns, by assumption, by walk_at "hp", by decide, by decide, hl⟩
theorem ok_part (T : Txt K w mg) : Cal P w K mg base 2 "_law_part" spPart [] := by
  refine cal0 (N := N_part) T.d_part sc_part (by rintro vs H Q E ⟨_, _, rfl, _⟩; rfl) ?_
  rintro f cdv A out s H vs Q E hr ⟨p, n, rfl, hp, hn, k⟩
  refine ⟨_, (pss_cons (ps_set (i := 1) sc_part.nd rfl (Or.inl rfl) (pe_ix ix_list (pe_lst (pa_cons pe_int (pa_cons pe_int (pa_cons pe_int (pa_cons pe_int (pa_cons (Tw.pe_c (ok_draw T) hr (by decide) (by rfl) (pa_cons (pv 0) (pa_cons pe_int pa_nil))) (pa_cons (Tw.pe_c (ok_draw T) hr (by decide) (by rfl) (pa_cons (pv 0) (pa_cons (pe_op op_pow pe_int pe_int) pa_nil))) pa_nil))))))) (Tw.pe_c (ok_draw T) hr (by decide) (by rfl) (pa_cons (pv 0) (pa_cons pe_int pa_nil))) (fun _ _ => rfl)))
    (pss_one (ps_ret (pe_ix ix_list (pe_lst (pa_cons (pv 1) (pa_cons (pe_op op_sub pe_int (pv 1)) pa_nil))) (Tw.pe_c (ok_draw T) hr (by decide) (by rfl) (pa_cons (pv 0) (pa_cons pe_int pa_nil))) (fun _ _ => rfl))))), ?_⟩
  try dsimp only [cxK]
  walk_at "r"
  rename_i k1 H1 _ _ S1 P1 k2 H2 _ _ S2 P2 l H3 S3 hl _ k3 H4 _ _ S4 P4
  obtain ⟨v, hv, i, rfl, hi1, hi2⟩ := atI_all (P := fun v => ∃ i, v = V.int i ∧ -1000000 ≤ i ∧ i ≤ 1000000) (xs := [.int 0, .int 0, .int 1, .int 2, .int k1, .int k2]) (k := k3) (by
    intro x hx
    simp only [List.mem_cons, List.not_mem_nil, or_false] at hx
    rcases hx with rfl | rfl | rfl | rfl | rfl | rfl <;> exact ⟨_, rfl, by omega, by omega⟩) (by assumption) (by assumption)
  refine r_ixL' (by walk_at "hp") hv ?_
  walk_at "r"
  rename_i l2 H5 S5 hl2 _ k6 H6 _ _ S6 P6
  obtain ⟨v, hv, j, rfl, hj1, hj2⟩ := atI_all (P := fun v => ∃ i, v = V.int i ∧ -1000000 ≤ i ∧ i ≤ 1000000) (xs := [.int i, .int (0 - i)]) (k := k6) (by
    intro x hx
    simp only [List.mem_cons, List.not_mem_nil, or_false] at hx
    rcases hx with rfl | rfl <;> exact ⟨_, rfl, by omega, by omega⟩) (by assumption) (by assumption)
  refine r_ixL' (by walk_at "hp") hv ?_
  exact k _ _ hj1 hj2 (S1.trans (S2.trans (S3.sp.trans (S4.trans (S5.sp.trans S6))))) P6
theorem ok_tally (T : Txt K w mg) : Cal P w K mg base 3 "_law_tally" (spTally T.a_Tally) [] := by
  refine cal0 (N := N_tally) T.d_tally sc_tally (by rintro vs H Q E ⟨_, _, rfl, _⟩; rfl) ?_
  rintro f cdv A out s H vs Q E hr ⟨p, n, rfl, hp, hn, k⟩
  refine ⟨_, (pss_one (ps_ret (Tw.pe_mk (mk_Tally T) hr (by decide) (by rfl) (pa_cons (Tw.pe_c (ok_part T) hr (by decide) (by rfl) (pa_cons (pv 0) pa_nil)) (pa_cons (Tw.pe_c (ok_part T) hr (by decide) (by rfl) (pa_cons (pv 0) pa_nil)) (pa_cons (Tw.pe_c (ok_part T) hr (by decide) (by rfl) (pa_cons (pv 0) pa_nil)) (pa_cons (Tw.pe_c (ok_part T) hr (by decide) (by rfl) (pa_cons (pv 0) pa_nil)) pa_nil))))))), ?_⟩
  try dsimp only [cxK]
  walk_at "r"
  refine' k _ _ _ _ _ _ _ ?fb ?fs ?fp ?fh
  case fh => walk_at "hp"
  case fb => exact ⟨⟨by assumption, by assumption⟩, ⟨by assumption, by assumption⟩, ⟨by assumption, by assumption⟩, ⟨by assumption, by assumption⟩⟩
  case fs => walk_at "sp"
  case fp => walk_at "pen"
theorem ok_added (T : Txt K w mg) : Cal P w K mg base 4 "_law_added" (spAdded T.a_Tally) [] := by
  refine cal0 (N := N_added) T.d_added sc_added (by rintro vs H Q E ⟨_, _, _, _, _, _, _, _, _, rfl, _⟩; rfl) ?_
  rintro f cdv A out s H vs Q E hr ⟨p, q, dq, n, M, a, b, c, e, rfl, hp, hn, hq, hB, k⟩
  have hC_Tally := T.c_Tally; have n_Tally_a := T.na_Tally_a; have n_Tally_b := T.na_Tally_b; have n_Tally_c := T.na_Tally_c; have n_Tally_e := T.na_Tally_e
  refine ⟨_, (pss_cons (ps_par (i := 2) (j := 3) (by rfl) sc_added.nd rfl rfl (by decide) rfl rfl (pa_cons (Tw.pe_c (ok_draw T) hr (by decide) (by rfl) (pa_cons (pv 0) (pa_cons pe_int pa_nil))) (pa_cons (Tw.pe_c (ok_draw T) hr (by decide) (by rfl) (pa_cons (pv 0) (pa_cons pe_int pa_nil))) pa_nil)) (by rfl))
    (pss_cons (ps_set (i := 4) sc_added.nd rfl (Or.inl rfl) (pe_ix ix_list (pe_lst (pa_cons pe_int (pa_cons pe_int (pa_cons pe_int (pa_cons pe_int (pa_cons (pe_un un_neg pe_int) pa_nil)))))) (Tw.pe_c (ok_draw T) hr (by decide) (by rfl) (pa_cons (pv 0) (pa_cons pe_int pa_nil))) (fun _ _ => rfl)))
    (pss_cons (ps_set (i := 5) sc_added.nd rfl (Or.inl rfl) (pe_op op_sub (pe_op op_sub (pe_op op_sub (Tw.pe_c (ok_draw T) hr (by decide) (by rfl) (pa_cons (pv 0) (pa_cons pe_int pa_nil))) (pv 2)) (pv 3)) (pe_callB Tw.c_abs (by rfl) T.n_abs (by decide +kernel) (pa_cons (pv 4) pa_nil))))
    (pss_one (ps_ret (pe_op (op_own2 (mt_Tadd T) T.sf_Tally hr (by decide)) (pv 1) (Tw.pe_mk (mk_Tally T) hr (by decide) (by rfl) (pa_cons (pv 2) (pa_cons (pv 3) (pa_cons (pv 5) (pa_cons (pv 4) pa_nil))))))))))), ?_⟩
  try dsimp only [cxK]
  walk_at "r"
  rename_i k1 H1 _ _ S1 P1 k2 H2 _ _ S2 P2 l H3 S3 hl _ k4 H4 _ _ S4 P4
  obtain ⟨v, hv, i, rfl, hi1, hi2⟩ := atI_all (P := fun v => ∃ i, v = V.int i ∧ -1 ≤ i ∧ i ≤ 1) (xs := [.int 0, .int 0, .int 0, .int 1, .int (-1)]) (k := k4) (by
    intro x hx
    simp only [List.mem_cons, List.not_mem_nil, or_false] at hx
    rcases hx with rfl | rfl | rfl | rfl | rfl <;> exact ⟨_, rfl, by omega, by omega⟩) (by assumption) (by assumption)
  refine r_ixL' (by walk_at "hp") hv ?_
  walk_at "r"
  obtain ⟨⟨b1, b2⟩, ⟨b3, b4⟩, ⟨b5, b6⟩, ⟨b7, b8⟩⟩ := hB
  refine' k _ _ _ _ _ _ _ ?fb ?fs ?fp ?fh
  case fh => walk_at "hp"
  case fb =>
    refine ⟨⟨?_, ?_⟩, ⟨?_, ?_⟩, ⟨?_, ?_⟩, ⟨?_, ?_⟩⟩
    all_goals first | omega | (split <;> omega)
  case fs => walk_at "sp"
  case fp => walk_at "pen"
theorem ok_due (T : Txt K w mg) : Cal P w K mg base 2 "_law_due" (spDue T.a_Tally) [] := by
  refine cal0 (N := N_due) T.d_due sc_due (by rintro vs H Q E ⟨_, _, _, _, _, _, _, _, _, _, _, _, rfl, _⟩; rfl) ?_
  rintro f cdv A out s H vs Q E hr ⟨p, q, dx, dy, a, b, c, e, a', b', c', e', rfl, h1, h2, k⟩
  refine ⟨_, (pss_cons (ps_set (i := 2) sc_due.nd rfl (Or.inl rfl) (pe_op op_pow pe_int pe_int))
    (pss_cons (ps_for PassesOwn.never rfl (pi_tup (pe_tup (pa_cons (pe_tup (pa_cons pe_int (pa_cons pe_int pa_nil))) (pa_cons (pe_tup (pa_cons pe_int (pa_cons pe_int pa_nil))) (pa_cons (pe_tup (pa_cons pe_int (pa_cons pe_int pa_nil))) (pa_cons (pe_tup (pa_cons (pv 2) (pa_cons (pv 2) pa_nil))) pa_nil)))))) (pg_tup (by rfl) (pgs_cons (pg_name (i := 3) sc_due.nd rfl (Or.inl rfl)) (pgs_cons (pg_name (i := 4) sc_due.nd rfl (Or.inl rfl)) pgs_nil)))
      (pss_one (ps_if (pt_cmpR op_gt (Tw.pe_ownN (mt_Tcall T) T.fi hr (by decide) (pv 0) (pa_cons (pv 3) (pa_cons (pv 4) pa_nil))) (Tw.pe_ownN (mt_Tcall T) T.fi hr (by decide) (pv 1) (pa_cons (pv 3) (pa_cons (pv 4) pa_nil))) (nomark _)) (pss_one (ps_ret pe_bl)) pss_nil)))
    (pss_one (ps_ret pe_bl)))), ?_⟩
  try dsimp only [cxK]
  walk_at "r"
  rename_i t1 H1 S1 ht1 _ t2 H2 S2 ht2 _ t3 H3 S3 ht3 _ t4 H4 S4 ht4 _ t5 H5 S5 ht5 _
  have q1 : H5 t1 = some (.tup [.int 1, .int 0]) := by walk_at "hp"
  have q2 : H5 t2 = some (.tup [.int 0, .int 1]) := by walk_at "hp"
  have q3 : H5 t3 = some (.tup [.int 1, .int 1]) := by walk_at "hp"
  have q4 : H5 t4 = some (.tup [.int 100000000, .int 100000000]) := by walk_at "hp"
  have S05 : Same H H5 := S1.trans (S2.trans (S3.trans (S4.trans S5)))
  have g1 : H5 p = some (.ins T.a_Tally dx (fT a b c e)) := S05 _ _ h1
  have g2 : H5 q = some (.ins T.a_Tally dy (fT a' b' c' e')) := S05 _ _ h2
  let prs : List (Int × Int) := [(1, 0), (0, 1), (1, 1), (100000000, 100000000)]
  have fin : ∀ t : Bool, t = dueB a b c e a' b' c' e' → Q (.bl t) H5 := fun t ht => by rw [ht]; exact k _ S05
  refine k_forT (SqT.of ht5) (fun i σ H' => H' = H5 ∧ (∃ v4 v5, σ = [some (.ref p), some (.ref q), some (.int 100000000), v4, v5]) ∧ ∀ m n, (m, n) ∈ prs.take i → val a b c e m n ≤ val a' b' c' e' m n) ?_ ?_ ?_ ?_
  · exact ⟨rfl, ⟨_, _, rfl⟩, fun m n h => by simp at h⟩
  · rintro i σ H' _ ⟨rfl, _, _⟩
    exact SqT.of ht5
  · rintro i x σ H' hi ⟨rfl, ⟨v4, v5, rfl⟩, hall⟩
    have hcase : ∃ (m n : Int) (t : Addr), x = .ref t ∧ H' t = some (.tup [.int m, .int n]) ∧ prs[i]? = some (m, n) ∧ 0 ≤ m ∧ m ≤ 100000000 ∧ 0 ≤ n ∧ n ≤ 100000000 := by
      match i, hi with
      | 0, hi => simp at hi; subst hi; exact ⟨1, 0, t1, rfl, by walk_at "hp", rfl, by decide, by decide, by decide, by decide⟩
      | 1, hi => simp at hi; subst hi; exact ⟨0, 1, t2, rfl, by walk_at "hp", rfl, by decide, by decide, by decide, by decide⟩
      | 2, hi => simp at hi; subst hi; exact ⟨1, 1, t3, rfl, by walk_at "hp", rfl, by decide, by decide, by decide, by decide⟩
      | 3, hi => simp at hi; subst hi; exact ⟨100000000, 100000000, t4, rfl, by walk_at "hp", rfl, by decide, by decide, by decide, by decide⟩
      | i + 4, hi => simp at hi
    obtain ⟨m, n, t, rfl, ht, hpr, hm1, hm2, hn1, hn2⟩ := hcase
    walk_at "r"
    refine w_dec (fun hlt => ?_) (fun hge => ?_)
    · walk_at "r"
      refine fin _ ?_
      unfold dueB
      rw [eq_comm, decide_eq_false_iff_not]
      rintro ⟨z1, z2, z3, z4⟩
      match i, hpr with
      | 0, hpr => cases hpr; omega
      | 1, hpr => cases hpr; omega
      | 2, hpr => cases hpr; omega
      | 3, hpr => cases hpr; omega
      | i + 4, hpr => simp [prs] at hpr
    · walk_at "r"
      refine ⟨rfl, ⟨_, _, rfl⟩, fun m' n' hmem => ?_⟩
      have e5 : prs.take (i + 1) = prs.take i ++ [(m, n)] := by
        rw [List.take_succ, hpr]; rfl
      rw [e5, List.mem_append] at hmem
      rcases hmem with hmem | hmem
      · exact hall m' n' hmem
      · simp at hmem
        obtain ⟨rfl, rfl⟩ := hmem
        omega
  · rintro σ H' ⟨rfl, ⟨v4, v5, rfl⟩, hall⟩
    walk_at "r"
    refine fin _ ?_
    unfold dueB
    rw [eq_comm, decide_eq_true_iff]
    exact ⟨hall _ _ (by simp [prs]), hall _ _ (by simp [prs]), hall _ _ (by simp [prs]), hall _ _ (by simp [prs])⟩
end
end K65

namespace K65
open PySem PySem.Spec PyProof.Rows L2 Tw
def spRight (C : Addr) : Sp := fun vs H Q _ => ∃ (p x y dx dy : Addr) (n : Nat) (a b c e a' b' c' e' : Int), vs = [.ref p, .ref x, .ref y] ∧ PenAt H p n ∧ n + 12 ≤ 1000000 ∧ H x = some (.ins C dx (fT a b c e)) ∧ H y = some (.ins C dy (fT a' b' c' e')) ∧
  Bd 2000000 a b c e ∧ Bd 2000000 a' b' c' e' ∧ ∀ H', SP H H' → PenAt H' p (n + 12) → Q (.bl true) H'
theorem use_right {C : Addr} {H : Hp} {p x y dx dy : Addr} {Q : VK} {E : XK} {a b c e a' b' c' e' : Int} (n : Nat) (h1 : PenAt H p n) (h2 : n + 12 ≤ 1000000) (h3 : H x = some (.ins C dx (fT a b c e))) (h4 : H y = some (.ins C dy (fT a' b' c' e')))
    (h5 : Bd 2000000 a b c e) (h6 : Bd 2000000 a' b' c' e') (k : ∀ H', SP H H' → PenAt H' p (n + 12) → Q (.bl true) H') : spRight C [.ref p, .ref x, .ref y] H Q E :=
  ⟨p, x, y, dx, dy, n, a, b, c, e, a', b', c', e', rfl, h1, h2, h3, h4, h5, h6, k⟩
def spKept (C : Addr) : Sp := fun vs H Q _ => ∃ (p x y z dx dy dz : Addr) (n : Nat) (a b c e a' b' c' e' a2 b2 c2 e2 : Int), vs = [.ref p, .ref x, .ref y, .ref z] ∧ PenAt H p n ∧ n + 1 ≤ 1000000 ∧ H x = some (.ins C dx (fT a b c e)) ∧ H y = some (.ins C dy (fT a' b' c' e')) ∧
  H z = some (.ins C dz (fT a2 b2 c2 e2)) ∧ ∀ H', SP H H' → PenAt H' p (n + 1) → Q (.bl true) H'
theorem use_kept {C : Addr} {H : Hp} {p x y z dx dy dz : Addr} {Q : VK} {E : XK} {a b c e a' b' c' e' a2 b2 c2 e2 : Int} (n : Nat) (h1 : PenAt H p n) (h2 : n + 1 ≤ 1000000) (h3 : H x = some (.ins C dx (fT a b c e))) (h4 : H y = some (.ins C dy (fT a' b' c' e')))
    (h5 : H z = some (.ins C dz (fT a2 b2 c2 e2))) (k : ∀ H', SP H H' → PenAt H' p (n + 1) → Q (.bl true) H') : spKept C [.ref p, .ref x, .ref y, .ref z] H Q E :=
  ⟨p, x, y, z, dx, dy, dz, n, a, b, c, e, a', b', c', e', a2, b2, c2, e2, rfl, h1, h2, h3, h4, h5, k⟩
def W9 : List Str := ["none", "both", "lacks", "left", "right", "xor", "union", "sum", "join"]
def spUsual (C : Addr) : Sp := fun vs H Q _ => ∃ z : Str, vs = [.str z] ∧ z ∈ W9 ∧ ∀ (x dx : Addr) (a b c e : Int) (H' : Hp), Bd 2 a b c e → Same H H' → H' x = some (.ins C dx (fT a b c e)) → Q (.ref x) H'
theorem use_usual {C : Addr} {H : Hp} {Q : VK} {E : XK} {z : Str} (h : z ∈ W9) (k : ∀ (x dx : Addr) (a b c e : Int) (H' : Hp), Bd 2 a b c e → Same H H' → H' x = some (.ins C dx (fT a b c e)) → Q (.ref x) H') : spUsual C [.str z] H Q E := ⟨z, rfl, h, k⟩
theorem ne_str {s : Str} {H : Hp} {A B : Prop} (h : B) : if (!decide (s = s)) = true then A else B := by
  rw [decide_eq_true rfl]
  exact w_nT h
def spLaw (K : PySem.W.Frag) : Sp := fun vs H Q _ => ∃ (a : Addr) (ns : List Int), vs = [.ref a] ∧ SqL K H a (ns.map V.int) ∧ ns.length ≤ 63 ∧ ∀ H', Q (.bl true) H'
section
variable {P : Program} {w : World} {K : PySem.W.Frag} {mg : Str → Option Value} {base : Heap}
theorem ok_right (T : Txt K w mg) : Cal P w K mg base 5 "_law_right" (spRight T.a_Tally) [] := by
  refine cal0 (N := N_right) T.d_right sc_right (by rintro vs H Q E ⟨_, _, _, _, _, _, _, _, _, _, _, _, _, _, rfl, _⟩; rfl) ?_
  rintro f cdv A out s H vs Q E hr ⟨p, x, y, dx, dy, n, a, b, c, e, a', b', c', e', rfl, hp, hn, hx, hy, hB1, hB2, k⟩
  refine ⟨_, (pss_cons (ps_set (i := 3) sc_right.nd rfl (Or.inl rfl) (Tw.pe_mt (mt_Tunder T) hr (by decide) (pv 1) (pa_cons (pv 2) pa_nil)))
    (pss_cons (ps_if (pt_cmpR op_ne (pe_callB (Tw.call_repr hr) (by rfl) T.n_repr (by decide +kernel) (pa_cons (pe_lst (pa_cons (pv 3) (pa_cons (Tw.pe_mt (mt_Tunder T) hr (by decide) (pv 2) (pa_cons (pv 1) pa_nil)) pa_nil))) pa_nil)) (pe_callB (Tw.call_repr hr) (by rfl) T.n_repr (by decide +kernel) (pa_cons (pe_lst (pa_cons (Tw.pe_c (ok_due T) hr (by decide) (by rfl) (pa_cons (pv 1) (pa_cons (pv 2) pa_nil))) (pa_cons (Tw.pe_c (ok_due T) hr (by decide) (by rfl) (pa_cons (pv 2) (pa_cons (pv 1) pa_nil))) pa_nil))) pa_nil)) (nomark _)) (pss_one (ps_ret pe_bl)) pss_nil)
    (C8.pss_cut (ps_if (PW.pt (pw_or (PW.pt (pw_and (pt_val (pv 3)) (pw_and (pt_val (Tw.pe_mt (mt_Tunder T) hr (by decide) (pv 2) (pa_cons (pv 1) pa_nil))) (pw_and1 (pt_not (pt_cmpR (op_ownEq (mt_Teq T) hr (by decide)) (pv 1) (pv 2) (nomark _))))))) (pw_or1 (pt_cmpR op_notBl (Tw.pe_mt (mt_Tunder T) hr (by decide) (pv 1) (pa_cons (pv 1) pa_nil)) pe_bl (nomark _))))) (pss_one (ps_ret pe_bl)) pss_nil)
    (pss_cons (ps_for PassesOwn.never rfl (pi_range1 (by rfl) T.n_range (pa_cons pe_int pa_nil)) (pg_name (i := 4) sc_right.nd rfl (Or.inl rfl))
      (pss_cons (ps_par (i := 5) (j := 6) (by rfl) sc_right.nd rfl rfl (by decide) rfl rfl (pa_cons (Tw.pe_c (ok_draw T) hr (by decide) (by rfl) (pa_cons (pv 0) (pa_cons (pe_op op_pow pe_int pe_int) pa_nil))) (pa_cons (Tw.pe_c (ok_draw T) hr (by decide) (by rfl) (pa_cons (pv 0) (pa_cons pe_int pa_nil))) pa_nil)) (by rfl))
      (pss_cons (ps_if (PW.pt (pw_and (pt_val (pv 3)) (pw_and1 (pt_cmpR op_gt (Tw.pe_ownN (mt_Tcall T) T.fi hr (by decide) (pv 1) (pa_cons (pv 5) (pa_cons (pv 6) pa_nil))) (Tw.pe_ownN (mt_Tcall T) T.fi hr (by decide) (pv 2) (pa_cons (pv 5) (pa_cons (pv 6) pa_nil))) (nomark _))))) (pss_one (ps_ret pe_bl)) pss_nil)
      (pss_one (ps_if (PW.pt (pw_and (pt_val (pv 3)) (pw_and1 (pt_cmpR op_gt (Tw.pe_ownN (mt_Tcall T) T.fi hr (by decide) (pv 1) (pa_cons (pv 6) (pa_cons (pv 5) pa_nil))) (Tw.pe_ownN (mt_Tcall T) T.fi hr (by decide) (pv 2) (pa_cons (pv 6) (pa_cons (pv 5) pa_nil))) (nomark _))))) (pss_one (ps_ret pe_bl)) pss_nil)))))
    (pss_one (ps_ret pe_bl)))))), ?_⟩
  try dsimp only [cxK]
  walk_at "r"
  rw [← und_due (by decide) hB1 hB2, ← und_due (by decide) hB2 hB1]
  refine ne_str (H := H) ?_
  rename_i H6 _ _ _
  have hx6 : H6 x = some (.ins T.a_Tally dx (fT a b c e)) := by walk_at "hp"
  have hy6 : H6 y = some (.ins T.a_Tally dy (fT a' b' c' e')) := by walk_at "hp"
  have hp6 : PenAt H6 p n := by walk_at "pen"
  have S06 : SP H H6 := by walk_at "sp"
  walk_at "r"
  refine u_cut (fun σ' H' => σ' = [some (.ref p), some (.ref x), some (.ref y), some (.bl (undB a b c e a' b' c' e')), none, none, none] ∧ Same H6 H') ?_ ?_
  · clear S06
    walk_at "r"
    refine w_bool (fun u1 => ?_) (fun u1 => ?_)
    · walk_at "r"
      refine w_bool (fun u2 => ?_) (fun u2 => ?_)
      · walk_at "r"
        rw [decide_eq_true (und_anti u1 u2)]
        walk_at "r"
        rw [und_self]
        walk_at "r"
        exact ⟨rfl, by walk_at "same"⟩
      · walk_at "r"
        rw [und_self]
        walk_at "r"
        exact ⟨rfl, by walk_at "same"⟩
    · walk_at "r"
      rw [und_self]
      walk_at "r"
      exact ⟨rfl, by walk_at "same"⟩
  · rintro σ' H7 ⟨rfl, S7⟩
    have hx7 := S7 _ _ hx6
    have hy7 := S7 _ _ hy6
    have hp7 := hp6.same S7
    have S07 : SP H H7 := S06.trans S7.sp
    clear hx6 hy6 hp6 S06 S7 hx hy hp
    walk_at "r"
    refine k_rng 6 rfl (by decide) (fun i σ H' => (∃ v4 v5 v6, σ = [some (.ref p), some (.ref x), some (.ref y), some (.bl (undB a b c e a' b' c' e')), v4, v5, v6]) ∧ SP H H' ∧ PenAt H' p (n + 2 * i) ∧ H' x = some (.ins T.a_Tally dx (fT a b c e)) ∧ H' y = some (.ins T.a_Tally dy (fT a' b' c' e'))) ?_ ?_ ?_
    · exact ⟨⟨_, _, _, rfl⟩, S07, hp7, hx7, hy7⟩
    · rintro i σ H8 hi ⟨⟨v4, v5, v6, rfl⟩, S8, hp8, hx8, hy8⟩
      clear hx7 hy7 hp7 S07
      walk_at "r"
      rename_i m H9 hm0 hm1 S9 P9 n' H10 hn0 hn1 S10 P10
      have fin : SP H H10 ∧ PenAt H10 p (n + 2 * (i + 1)) ∧ H10 x = some (.ins T.a_Tally dx (fT a b c e)) ∧ H10 y = some (.ins T.a_Tally dy (fT a' b' c' e')) := by
        refine ⟨S8.trans (S9.trans S10), ?_, by walk_at "hp", by walk_at "hp"⟩
        have e : n + 2 * (i + 1) = n + 2 * i + 1 + 1 := by omega
        rw [e]
        exact P10
      refine w_bool (fun u1 => ?_) (fun u1 => ?_)
      · walk_at "r"
        have v1 := und_val u1 hm0 hn0
        have v2 := und_val u1 hn0 hm0
        rw [decide_eq_false (by omega)]
        walk_at "r"
        refine w_bool (fun u1 => ?_) (fun u1 => ?_)
        · walk_at "r"
          rw [decide_eq_false (by omega)]
          walk_at "r"
          exact ⟨⟨_, _, _, rfl⟩, fin⟩
        · walk_at "r"
          exact ⟨⟨_, _, _, rfl⟩, fin⟩
      · walk_at "r"
        refine w_bool (fun u2 => ?_) (fun u2 => ?_)
        · rw [u2] at u1; cases u1
        · walk_at "r"
          exact ⟨⟨_, _, _, rfl⟩, fin⟩
    · rintro σ H' ⟨⟨v4, v5, v6, rfl⟩, S8, hp8, _, _⟩
      walk_at "r"
      exact k _ S8 hp8
end
end K65

namespace K65
open PySem PySem.Spec PyProof.Rows L2 Tw
theorem w_nbool {b : Bool} {A B : Prop} (h1 : b = true → B) (h2 : b = false → A) : if (!b) = true then A else B := by
  cases b with
  | true => exact w_nT (h1 rfl)
  | false => exact w_nF (h2 rfl)
section
variable {P : Program} {w : World} {K : PySem.W.Frag} {mg : Str → Option Value} {base : Heap}
theorem ok_kept (T : Txt K w mg) : Cal P w K mg base 5 "_law_kept" (spKept T.a_Tally) [] := by
  refine cal0 (N := N_kept) T.d_kept sc_kept (by rintro vs H Q E ⟨_, _, _, _, _, _, _, _, _, _, _, _, _, _, _, _, _, _, _, _, rfl, _⟩; rfl) ?_
  rintro f cdv A out s H vs Q E hr ⟨p, x, y, z, dx, dy, dz, n, a, b, c, e, a', b', c', e', a2, b2, c2, e2, rfl, hp, hn, hx, hy, hz, k⟩
  refine ⟨_, (pss_cons (ps_set (i := 4) sc_kept.nd rfl (Or.inl rfl) (Tw.pe_mt (mt_Tunder T) hr (by decide) (pv 1) (pa_cons (pv 2) pa_nil)))
    (pss_cons (ps_set (i := 5) sc_kept.nd rfl (Or.inl rfl) (pe_lst (pa_cons (Tw.pe_mt (mt_Tunder T) hr (by decide) (pe_op (op_own2 (mt_Tadd T) T.sf_Tally hr (by decide)) (pv 1) (pv 3)) (pa_cons (pe_op (op_own2 (mt_Tadd T) T.sf_Tally hr (by decide)) (pv 2) (pv 3)) pa_nil)) (pa_cons (Tw.pe_mt (mt_Tunder T) hr (by decide) (pe_un (un_own (mt_Tneg T) hr (by decide)) (pv 1)) (pa_cons (pe_un (un_own (mt_Tneg T) hr (by decide)) (pv 2)) pa_nil)) pa_nil))))
    (pss_cons (ps_if (pt_cmpR op_ne (pe_callB (Tw.call_repr hr) (by rfl) T.n_repr (by decide +kernel) (pa_cons (pv 5) pa_nil)) (pe_callB (Tw.call_repr hr) (by rfl) T.n_repr (by decide +kernel) (pa_cons (pe_lst (pa_cons (pv 4) (pa_cons (pv 4) pa_nil))) pa_nil)) (nomark _)) (pss_one (ps_ret pe_bl)) pss_nil)
    (pss_cons (ps_set (i := 6) sc_kept.nd rfl (Or.inl rfl) (pe_op op_add pe_int (Tw.pe_c (ok_draw T) hr (by decide) (by rfl) (pa_cons (pv 0) (pa_cons pe_int pa_nil)))))
    (C8.pss_cut (ps_if (PW.pt (pw_or (pt_cmpR op_ne (pe_callB (Tw.call_repr hr) (by rfl) T.n_repr (by decide +kernel) (pa_cons (Tw.pe_mt (mt_Tunder T) hr (by decide) (pe_op (op_ownI (mt_Tmul T) T.sf_Tally T.oti hr (by decide)) (pv 1) (pv 6)) (pa_cons (pe_op (op_ownI (mt_Tmul T) T.sf_Tally T.oti hr (by decide)) (pv 2) (pv 6)) pa_nil)) pa_nil)) (pe_callB (Tw.call_repr hr) (by rfl) T.n_repr (by decide +kernel) (pa_cons (pv 4) pa_nil)) (nomark _)) (pw_or1 (pt_cmpR op_notBl (Tw.pe_mt (mt_Tunder T) hr (by decide) (pe_op (op_ownI (mt_Tmul T) T.sf_Tally T.oti hr (by decide)) (pv 1) pe_int) (pa_cons (pe_op (op_ownR (mt_Trmul T) T.sf_Tally T.mul_at T.sub_int hr (by decide)) pe_int (pv 2)) pa_nil)) pe_bl (nomark _))))) (pss_one (ps_ret pe_bl)) pss_nil)
    (pss_cons (ps_if (pt_cmpR op_ne (pe_callB (Tw.call_repr hr) (by rfl) T.n_repr (by decide +kernel) (pa_cons (Tw.pe_mt (mt_Tunder T) hr (by decide) (pe_op (op_ownI (mt_Tmul T) T.sf_Tally T.oti hr (by decide)) (pv 2) (pe_un un_neg pe_int)) (pa_cons (pe_op (op_ownR (mt_Trmul T) T.sf_Tally T.mul_at T.sub_int hr (by decide)) (pe_un un_neg pe_int) (pv 1)) pa_nil)) pa_nil)) (pe_callB (Tw.call_repr hr) (by rfl) T.n_repr (by decide +kernel) (pa_cons (pv 4) pa_nil)) (nomark _)) (pss_one (ps_ret pe_bl)) pss_nil)
    (pss_one (ps_ret (pe_or (pe_not (pe_and (pv 4) (pe_one (Tw.pe_mt (mt_Tunder T) hr (by decide) (pv 2) (pa_cons (pv 3) pa_nil))))) (pe_one (Tw.pe_mt (mt_Tunder T) hr (by decide) (pv 1) (pa_cons (pv 3) pa_nil)))))))))))), ?_⟩
  try dsimp only [cxK]
  walk_at "r"
  rw [und_add, und_neg a b c e a' b' c' e']
  refine ne_str (H := H) ?_
  walk_at "r"
  rename_i m H9 hm0 hm1 S9 P9
  have hx9 : H9 x = some (.ins T.a_Tally dx (fT a b c e)) := by walk_at "hp"
  have hy9 : H9 y = some (.ins T.a_Tally dy (fT a' b' c' e')) := by walk_at "hp"
  have hz9 : H9 z = some (.ins T.a_Tally dz (fT a2 b2 c2 e2)) := by walk_at "hp"
  have S09 : SP H H9 := by walk_at "sp"
  clear S9 hx hy hz hp
  refine u_cut (fun σ' H' => (∃ v5 v6, σ' = [some (.ref p), some (.ref x), some (.ref y), some (.ref z), some (.bl (undB a b c e a' b' c' e')), v5, v6]) ∧ Same H9 H') ?_ ?_
  · clear S09
    walk_at "r"
    rw [und_mul (by omega)]
    refine ne_str (H := H9) ?_
    walk_at "r"
    rw [und_zero]
    walk_at "r"
    exact ⟨⟨_, _, rfl⟩, by walk_at "same"⟩
  · rintro σ' H7 ⟨⟨v5, v6, rfl⟩, S7⟩
    have hx7 := S7 _ _ hx9
    have hy7 := S7 _ _ hy9
    have hz7 := S7 _ _ hz9
    have hp7 := P9.same S7
    have S07 : SP H H7 := S09.trans S7.sp
    clear hx9 hy9 hz9 P9 S09 S7
    walk_at "r"
    rw [und_minus]
    refine ne_str (H := H9) ?_
    walk_at "r"
    have fin : ∀ H', Same H7 H' → Q (.bl true) H' := fun H' s => k _ (S07.trans s.sp) (hp7.same s)
    clear S07
    refine w_bool (fun u1 => ?_) (fun u1 => ?_)
    · walk_at "r"
      refine w_nbool (fun u2 => ?_) (fun u2 => ?_)
      · walk_at "r"
        rw [und_trans u1 u2]
        exact fin _ (by walk_at "same")
      · walk_at "r"
        exact fin _ (by walk_at "same")
    · walk_at "r"
      exact fin _ (by walk_at "same")
end
end K65


local macro_rules | `(tactic| walk_at "lk") => `(tactic| first | exact K65.fT_a _ _ _ _ | exact K65.fT_b _ _ _ _ | exact K65.fT_c _ _ _ _ | exact K65.fT_e _ _ _ _ | exact K65.fT_under _ _ _ _)
local macro_rules | `(tactic| walk_at "c1") => `(tactic| first
  | ((with_reducible refine' Tw.use_draw _ ?a ?b ?c ?d ?_); (case a => walk_at "pen"); (case b => omega); (case c => omega); (case d => omega); intro _ _ _ _ _ _)
  | ((with_reducible refine' K65.use_part _ ?a ?b ?_); (case a => walk_at "pen"); (case b => omega); intro _ _ _ _ _ _)
  | ((with_reducible refine' K65.use_sp2 ?a ?b ?_); (case a => walk_at "hp"); (case b => walk_at "hp"); intro _ _ _ _ _)
  | ((with_reducible refine' K65.use_mul ?a ?b ?_); (case a => walk_at "hp"); (case b => exact ⟨by omega, by omega⟩); intro _ _ _ _ _)
  | ((with_reducible refine' K65.use_neg ?a ?_); (case a => walk_at "hp"); intro _ _ _ _ _)
  | ((with_reducible refine' K65.use_call ?a ?b ?c ?_); (case a => walk_at "hp"); (case b => exact ⟨by omega, by omega⟩); (case c => exact ⟨by omega, by omega⟩))
  | ((with_reducible refine' K65.use_eq ?a ?b ?_); (case a => walk_at "hp"); (case b => walk_at "hp"))
  | ((with_reducible refine' K65.use_under ?a ?b ?_); (case a => walk_at "hp"); (case b => walk_at "hp"); intro _ _)
  | ((with_reducible refine' K65.use_due ?a ?b ?_); (case a => walk_at "hp"); (case b => walk_at "hp"); intro _ _)
  | ((with_reducible refine' K65.use_tally _ ?a ?b ?_); (case a => walk_at "pen"); (case b => omega); intro _ _ _ _ _ _ _ _ _ _ _)
  | ((with_reducible refine' K65.use_added _ _ ?a ?b ?c ?d ?_); (case a => walk_at "pen"); (case b => omega); (case c => walk_at "hp"); (case d => assumption); intro _ _ _ _ _ _ _ _ _ _ _)
  | ((with_reducible refine' K65.use_mk ?_); intro _ _ _ _ _)
  | ((with_reducible refine' K65.use_right _ ?a ?b ?c ?d ?e ?f ?_); (case a => walk_at "pen"); (case b => omega); (case c => walk_at "hp"); (case d => walk_at "hp"); (case e => first | assumption | (refine K65.Bd.mono ?_ (by assumption); decide)); (case f => first | assumption | (refine K65.Bd.mono ?_ (by assumption); decide)); intro _ _ _)
  | ((with_reducible refine' K65.use_kept _ ?a ?b ?c ?d ?e ?_); (case a => walk_at "pen"); (case b => omega); (case c => walk_at "hp"); (case d => walk_at "hp"); (case e => walk_at "hp"); intro _ _ _)
  | ((with_reducible refine' K65.use_usual ?a ?_); (case a => assumption); intro _ _ _ _ _ _ _ _ _ _))


namespace K65
open PySem PySem.Spec PyProof.Rows L2 Tw
theorem Bd.mono {M M' a b c e : Int} (hM : M ≤ M') (h : Bd M a b c e) : Bd M' a b c e :=
  ⟨⟨by have := h.1.1; omega, by have := h.1.2; omega⟩, ⟨by have := h.2.1.1; omega, by have := h.2.1.2; omega⟩, ⟨by have := h.2.2.1.1; omega, by have := h.2.2.1.2; omega⟩, ⟨by have := h.2.2.2.1; omega, by have := h.2.2.2.2; omega⟩⟩
theorem use_pen {K : PySem.W.Frag} {H : Hp} {Q : VK} {E : XK} {a : Addr} {ns : List Int} (h1 : SqL K H a (ns.map V.int)) (h2 : ns.length ≤ 63) (k : ∀ p H', Same H H' → PenAt H' p 0 → Q (.ref p) H') : spPen K [.ref a] H Q E := ⟨a, ns, rfl, h1, h2, k⟩
/-- a tally stands at v, its parts within M -/
def IsT (C : Addr) (M : Int) (H : Hp) (v : V) : Prop := ∃ (q dq : Addr) (a b c e : Int), v = .ref q ∧ H q = some (.ins C dq (fT a b c e)) ∧ Bd M a b c e
section
variable {P : Program} {w : World} {K : PySem.W.Frag} {mg : Str → Option Value} {base : Heap}
theorem st_Tusual (T : Txt K w mg) : Sta P w K mg base 3 T.a_Tally "usual" (spUsual T.a_Tally) [] := by
  refine sta0 (N := N_Tusual) T.d_Tusual sc_Tusual (by rintro vs H Q E ⟨_, rfl, _⟩; rfl) ?_
  rintro f cdv A out s H vs Q E hr ⟨z, rfl, hz, k⟩
  refine ⟨_, (pss_cons (ps_if (PW.pt (pw_or (pt_not (pt_val (pe_callB call_isi (by rfl) T.n_isinstance (by decide +kernel) (pa_cons (pv 0) (pa_cons (pe_bltn (v := .ty "str") (by rfl) T.n_str (by decide +kernel) rfl) pa_nil))))) (pw_or1 (pt_cmpR (op_notIn_kd T.kd) (pv 0) (C8.pe_gc (by rfl) T.gN) (by rfl))))) (pss_one ps_never) pss_nil)
    (pss_cons (ps_asg (pe_ix ix_kdict (C8.pe_gc (by rfl) T.gN) (pv 0) (fun _ _ => rfl)) (pg_tup (by rfl) (pgs_cons (pg_name (i := 1) sc_Tusual.nd rfl (Or.inl rfl)) (pgs_cons (pg_name (i := 2) sc_Tusual.nd rfl (Or.inl rfl)) (pgs_cons (pg_name (i := 3) sc_Tusual.nd rfl (Or.inl rfl)) (pgs_cons (pg_name (i := 4) sc_Tusual.nd rfl (Or.inl rfl)) pgs_nil))))))
    (pss_one (ps_ret (Tw.pe_mk (mk_Tally T) hr (by decide) (by rfl) (pa_cons (pv 1) (pa_cons (pv 2) (pa_cons (pv 3) (pa_cons (pv 4) pa_nil))))))))), ?_⟩
  try dsimp only [cxK]
  obtain ⟨t, a, b, c, e, hns, hsq, ba, bb, bc, be⟩ := T.u9 z hz
  walk_at "r"
  refine r_isiS (.ty "str") (kit_same _ _) ?_
  walk_at "r"
  refine ⟨z, _, rfl, rfl, hns, ?_⟩
  refine k_bl ?_
  refine w_nT ?_
  walk_at "r"
  refine ⟨_, z, .ref t, rfl, rfl, ⟨_, _, _, T.kd.at_, T.kd.lit, hns, rfl⟩, ?_⟩
  refine u_gtup (hsq H) rfl ?_
  walk_at "r"
  refine' k _ _ _ _ _ _ _ ?fb ?fs ?fh
  case fh => walk_at "hp"
  case fs => walk_at "same"
  case fb => exact ⟨ba, bb, bc, be⟩
theorem law_fn (T : Txt K w mg) {f : Addr} {fd : FuncData} (F : C8.Fun K "law" "law" s_law f fd) : FnG P w K mg base 6 f fd ["_law_script"] (spLaw K) := by
  refine fnG0 (N := N_law) F sc_law (by rintro vs H Q E ⟨_, _, rfl, _⟩; rfl) ?_
  rintro cdv A out s H vs Q E hr ⟨a, ns, rfl, hS, hl, k⟩
  refine ⟨_, (pss_cons (ps_set (i := 1) sc_law.nd rfl (Or.inl rfl) (Tw.pe_c (ok_pen T) hr (by decide) (by rfl) (pa_cons (pv 0) pa_nil)))
    (pss_cons (ps_for PassesOwn.never rfl (pi_range1 (by rfl) T.n_range (pa_cons pe_int pa_nil)) (pg_name (i := 2) sc_law.nd rfl (Or.inl rfl))
      (pss_cons (ps_set (i := 3) sc_law.nd rfl (Or.inl rfl) (Tw.pe_c (ok_tally T) hr (by decide) (by rfl) (pa_cons (pv 1) pa_nil)))
      (pss_cons (ps_set (i := 4) sc_law.nd rfl (Or.inl rfl) (pe_ix ix_list (pe_lst (pa_cons (Tw.pe_c (ok_tally T) hr (by decide) (by rfl) (pa_cons (pv 1) pa_nil)) (pa_cons (Tw.pe_c (ok_added T) hr (by decide) (by rfl) (pa_cons (pv 1) (pa_cons (pv 3) pa_nil))) (pa_cons (Tw.pe_c (ok_added T) hr (by decide) (by rfl) (pa_cons (pv 1) (pa_cons (pv 3) pa_nil))) (pa_cons (pv 3) pa_nil))))) (Tw.pe_c (ok_draw T) hr (by decide) (by rfl) (pa_cons (pv 1) (pa_cons pe_int pa_nil))) (fun _ _ => rfl)))
      (pss_cons (ps_set (i := 5) sc_law.nd rfl (Or.inl rfl) (pe_ix ix_list (pe_lst (pa_cons (Tw.pe_c (ok_tally T) hr (by decide) (by rfl) (pa_cons (pv 1) pa_nil)) (pa_cons (Tw.pe_c (ok_added T) hr (by decide) (by rfl) (pa_cons (pv 1) (pa_cons (pv 4) pa_nil))) pa_nil))) (Tw.pe_c (ok_draw T) hr (by decide) (by rfl) (pa_cons (pv 1) (pa_cons pe_int pa_nil))) (fun _ _ => rfl)))
      (pss_one (ps_if (PW.pt (pw_or (pt_not (pt_val (Tw.pe_c (ok_right T) hr (by decide) (by rfl) (pa_cons (pv 1) (pa_cons (pv 3) (pa_cons (pv 4) pa_nil)))))) (pw_or1 (pt_not (pt_val (Tw.pe_c (ok_kept T) hr (by decide) (by rfl) (pa_cons (pv 1) (pa_cons (pv 3) (pa_cons (pv 4) (pa_cons (pv 5) pa_nil)))))))))) (pss_one (ps_ret pe_bl)) pss_nil))))))
    (pss_cons (ps_set (i := 6) sc_law.nd rfl (Or.inl rfl) (pe_lst (pa_cons pe_str (pa_cons pe_str (pa_cons pe_str (pa_cons pe_str (pa_cons pe_str (pa_cons pe_str (pa_cons pe_str (pa_cons pe_str (pa_cons pe_str pa_nil)))))))))))
    (pss_cons (ps_for PassesOwn.never rfl (pi_list (pv 6)) (pg_name (i := 3) sc_law.nd rfl (Or.inl rfl))
      (pss_one (ps_for PassesOwn.never rfl (pi_list (pv 6)) (pg_name (i := 4) sc_law.nd rfl (Or.inl rfl))
        (pss_cons (ps_par (i := 7) (j := 8) (by rfl) sc_law.nd rfl rfl (by decide) rfl rfl (pa_cons (Tw.pe_sm (st_Tusual T) hr (by decide) (C8.pe_gc (by rfl) T.g_Tally) (pa_cons (pv 3) pa_nil)) (pa_cons (Tw.pe_sm (st_Tusual T) hr (by decide) (C8.pe_gc (by rfl) T.g_Tally) (pa_cons (pv 4) pa_nil)) pa_nil)) (by rfl))
        (pss_one (ps_if (pt_cmpR op_ne (pe_callB (Tw.call_repr hr) (by rfl) T.n_repr (by decide +kernel) (pa_cons (Tw.pe_mt (mt_Tunder T) hr (by decide) (pv 7) (pa_cons (pv 8) pa_nil)) pa_nil)) (pe_callB (Tw.call_repr hr) (by rfl) T.n_repr (by decide +kernel) (pa_cons (Tw.pe_c (ok_due T) hr (by decide) (by rfl) (pa_cons (pv 7) (pa_cons (pv 8) pa_nil))) pa_nil)) (nomark _)) (pss_one (ps_ret pe_bl)) pss_nil))))))
    (pss_one (ps_ret pe_bl)))))), ?_⟩
  try dsimp only [cxK]
  walk_at "r"
  refine use_pen hS hl fun p H1 S1 P1 => ?_
  walk_at "r"
  refine k_rng 12 rfl (by decide) (fun i σ H' => (∃ v2 v3 v4 v5, σ = [some (.ref a), some (.ref p), v2, v3, v4, v5, none, none, none]) ∧ PenAt H' p (75 * i)) ?_ ?_ ?_
  · exact ⟨⟨_, _, _, _, rfl⟩, P1⟩
  · rintro i σ H8 hi ⟨⟨v2, v3, v4, v5, rfl⟩, hp8⟩
    clear S1 P1 hS
    walk_at "r"
    rename_i x1 d1 a1 b1 c1 e1 G1 B1 T1 Q1 h1 x2 d2 a2 b2 c2 e2 G2 B2 T2 Q2 h2 x3 d3 a3 b3 c3 e3 G3 B3 T3 Q3 h3 x4 d4 a4 b4 c4 e4 G4 B4 T4 Q4 h4 l5 G5 T5 h5 _ k6 G6 _ _ T6 Q6
    have g1 : G6 x1 = some (.ins T.a_Tally d1 (fT a1 b1 c1 e1)) := by walk_at "hp"
    have g2 : G6 x2 = some (.ins T.a_Tally d2 (fT a2 b2 c2 e2)) := by walk_at "hp"
    have g3 : G6 x3 = some (.ins T.a_Tally d3 (fT a3 b3 c3 e3)) := by walk_at "hp"
    have g4 : G6 x4 = some (.ins T.a_Tally d4 (fT a4 b4 c4 e4)) := by walk_at "hp"
    obtain ⟨v, hv, q, dq, a5, b5, c5, e5, rfl, hq, Bq⟩ := atI_all (P := IsT T.a_Tally 1000010 G6) (xs := [.ref x2, .ref x3, .ref x4, .ref x1]) (k := k6) (by
      intro x hx
      simp only [List.mem_cons, List.not_mem_nil, or_false] at hx
      rcases hx with rfl | rfl | rfl | rfl
      · exact ⟨_, _, _, _, _, _, rfl, g2, B2.mono (by decide)⟩
      · exact ⟨_, _, _, _, _, _, rfl, g3, B3.mono (by decide)⟩
      · exact ⟨_, _, _, _, _, _, rfl, g4, B4.mono (by decide)⟩
      · exact ⟨_, _, _, _, _, _, rfl, g1, B1.mono (by decide)⟩) (by assumption) (by assumption)
    refine r_ixL' (by walk_at "hp") hv ?_
    clear T1 T2 T3 T4 T5 T6 h1 h2 h3 h4 h5 g2 g3 g4 B2 B3 B4 Q1 Q2 Q3 Q4 hp8
    walk_at "r"
    rename_i x2 d2 a2 b2 c2 e2 G2 B2 T2 Q2 h2 x3 d3 a3 b3 c3 e3 G3 B3 T3 Q3 h3 l5 G5 T5 h5 _ k6 G7 _ _ T7 Q7
    have g7 : G7 x1 = some (.ins T.a_Tally d1 (fT a1 b1 c1 e1)) := by walk_at "hp"
    have gq : G7 q = some (.ins T.a_Tally dq (fT a5 b5 c5 e5)) := by walk_at "hp"
    have g2 : G7 x2 = some (.ins T.a_Tally d2 (fT a2 b2 c2 e2)) := by walk_at "hp"
    have g3 : G7 x3 = some (.ins T.a_Tally d3 (fT a3 b3 c3 e3)) := by walk_at "hp"
    obtain ⟨v, hv, r, dr, a6, b6, c6, e6, rfl, h6, B6⟩ := atI_all (P := IsT T.a_Tally 2000000 G7) (xs := [.ref x2, .ref x3]) (k := k6) (by
      intro x hx
      simp only [List.mem_cons, List.not_mem_nil, or_false] at hx
      rcases hx with rfl | rfl
      · exact ⟨_, _, _, _, _, _, rfl, g2, B2.mono (by decide)⟩
      · exact ⟨_, _, _, _, _, _, rfl, g3, B3.mono (by decide)⟩) (by assumption) (by assumption)
    refine r_ixL' (by walk_at "hp") hv ?_
    have B1' := B1.mono (show (1000000 : Int) ≤ 2000000 by decide)
    have Bq' := Bq.mono (show (1000010 : Int) ≤ 2000000 by decide)
    clear T2 T3 T5 T7 h2 h3 h5 g2 g3 hq g1 B1 Bq B2 B3 Q2 Q3 Q6
    walk_at "r"
    refine ⟨⟨_, _, _, _, rfl⟩, ?_⟩
    rename_i P8
    have e : 75 * (i + 1) = 75 * i + 16 + 16 + 4 + 4 + 1 + 16 + 4 + 1 + 12 + 1 := by omega
    rw [e]
    exact P8
  · rintro σ H8 ⟨⟨v2, v3, v4, v5, rfl⟩, hp8⟩
    clear S1 P1 hS hp8
    walk_at "r"
    rename_i l G1 T1 hl1 _
    clear T1
    have hW : ∀ (i : Nat) (x : V), (W9.map V.str)[i]? = some x → ∃ z : Str, x = V.str z ∧ z ∈ W9 := by
      intro i x hx
      rw [List.getElem?_map] at hx
      obtain ⟨z, h1, h2⟩ := Option.map_eq_some_iff.mp hx
      exact ⟨z, h2.symm, List.mem_of_getElem? h1⟩
    refine k_forL (xs := W9.map V.str) (SqL.of hl1) (fun i σ H' => (∃ v2 v3 v4 v5 v7 v8, σ = [some (.ref a), some (.ref p), v2, v3, v4, v5, some (.ref l), v7, v8]) ∧ H' l = some (.lst (W9.map V.str))) ?_ ?_ ?_ ?_
    · exact ⟨⟨_, _, _, _, _, _, rfl⟩, hl1⟩
    · rintro i σ H' _ ⟨_, h⟩
      exact SqL.of h
    · rintro i x σ H2 hx ⟨⟨v2, v3, v4, v5, v7, v8, rfl⟩, hl2⟩
      obtain ⟨z, rfl, hz⟩ := hW _ _ hx
      clear hl1
      walk_at "r"
      refine k_forL (xs := W9.map V.str) (SqL.of hl2) (fun i σ H' => (∃ v2 v4 v5 v7 v8, σ = [some (.ref a), some (.ref p), v2, some (.str z), v4, v5, some (.ref l), v7, v8]) ∧ H' l = some (.lst (W9.map V.str))) ?_ ?_ ?_ ?_
      · exact ⟨⟨_, _, _, _, _, rfl⟩, hl2⟩
      · rintro i σ H' _ ⟨_, h⟩
        exact SqL.of h
      · rintro i x σ H3 hx ⟨⟨v2, v4, v5, v7, v8, rfl⟩, hl3⟩
        obtain ⟨z2, rfl, hz2⟩ := hW _ _ hx
        clear hl2
        walk_at "r"
        rename_i x1 d1 a1 b1 c1 e1 G1 B1 T1 h1 x2 d2 a2 b2 c2 e2 G2 B2 T2 h2 G3 T3 G4 T4
        rw [und_due (by decide) B1 B2]
        refine ne_str (H := H3) ?_
        walk_at "r"
        exact ⟨⟨_, _, _, _, _, rfl⟩, by walk_at "hp"⟩
      · rintro σ H4 ⟨⟨v2, v4, v5, v7, v8, rfl⟩, hl4⟩
        exact ⟨⟨_, _, _, _, _, _, rfl⟩, hl4⟩
    · rintro σ H4 ⟨⟨v2, v3, v4, v5, v7, v8, rfl⟩, hl4⟩
      walk_at "r"
      exact k _
end
end K65

namespace K65
open PySem PySem.Spec PyProof.Rows L2 Tw
theorem sq4 {K : PySem.W.Frag} {H : Hp} {t : Addr} {a b c e : Int} {u0 u1 u2 u3 : Tok} {n : Nat} {od : Option Addr} {sl : Array (Option Value)} (h : K.lookup t = some ⟨.type "tuple", od, .seq #[.int a u0, .int b u1, .int c u2, .int e u3] n, sl⟩) : SqT K H t [.int a, .int b, .int c, .int e] :=
  .inr ⟨_, _, _, h, rfl, rfl, (show 4 ≤ sizeLine by decide), .cons ⟨_, rfl⟩ (.cons ⟨_, rfl⟩ (.cons ⟨_, rfl⟩ (.cons ⟨_, rfl⟩ .nil)))⟩
set_option maxHeartbeats 4000000 in
theorem all_mk {l : PySem.W.OpenLaw} {w : World} {K : PySem.W.Frag} {h : Heap} {mg : Str → Option Value} {fa : Addr} (X : K.In h) (G : h.Ns mainGlobals mg) (hfa : mg "law" = some (.ref fa))
    {C_Tally : Addr}
    {f_Tinit : Addr} {oc_Tinit kV_Tinit doc_Tinit pm_Tinit cdv_Tinit ct_Tinit : Value} {od_Tinit an_Tinit : Option Addr} {osl_Tinit : Array (Option Value)}
    {D_Tinit : Addr}
    {od2_Tinit : Option Addr} {t_Tinit0 t_Tinit1 : Tok} {n2_Tinit : Nat} {sl2_Tinit : Array (Option Value)} {oc2_Tinit : Value}
    {f_Tusual : Addr} {oc_Tusual kV_Tusual doc_Tusual pm_Tusual cdv_Tusual ct_Tusual : Value} {od_Tusual an_Tusual : Option Addr} {osl_Tusual : Array (Option Value)}
    {p_Tusual : Addr} {r_Tusual : List Value}
    {f_Tunder : Addr} {oc_Tunder kV_Tunder doc_Tunder pm_Tunder cdv_Tunder ct_Tunder : Value} {od_Tunder an_Tunder : Option Addr} {osl_Tunder : Array (Option Value)}
    {f_Tcall : Addr} {oc_Tcall kV_Tcall doc_Tcall pm_Tcall cdv_Tcall ct_Tcall : Value} {od_Tcall an_Tcall : Option Addr} {osl_Tcall : Array (Option Value)}
    {f_Teq : Addr} {oc_Teq kV_Teq doc_Teq pm_Teq cdv_Teq ct_Teq : Value} {od_Teq an_Teq : Option Addr} {osl_Teq : Array (Option Value)}
    {f_Tadd : Addr} {oc_Tadd kV_Tadd doc_Tadd pm_Tadd cdv_Tadd ct_Tadd : Value} {od_Tadd an_Tadd : Option Addr} {osl_Tadd : Array (Option Value)}
    {f_Tsub : Addr} {oc_Tsub kV_Tsub doc_Tsub pm_Tsub cdv_Tsub ct_Tsub : Value} {od_Tsub an_Tsub : Option Addr} {osl_Tsub : Array (Option Value)}
    {f_Tmul : Addr} {oc_Tmul kV_Tmul doc_Tmul pm_Tmul cdv_Tmul ct_Tmul : Value} {od_Tmul an_Tmul : Option Addr} {osl_Tmul : Array (Option Value)}
    {f_Trmul : Addr} {oc_Trmul kV_Trmul doc_Trmul pm_Trmul cdv_Trmul ct_Trmul : Value} {od_Trmul an_Trmul : Option Addr} {osl_Trmul : Array (Option Value)}
    {f_Tneg : Addr} {oc_Tneg kV_Tneg doc_Tneg pm_Tneg cdv_Tneg ct_Tneg : Value} {od_Tneg an_Tneg : Option Addr} {osl_Tneg : Array (Option Value)}
    {f_pen : Addr} {oc_pen kV_pen doc_pen pm_pen cdv_pen ct_pen : Value} {od_pen an_pen : Option Addr} {osl_pen : Array (Option Value)}
    {f_draw : Addr} {oc_draw kV_draw doc_draw pm_draw cdv_draw ct_draw : Value} {od_draw an_draw : Option Addr} {osl_draw : Array (Option Value)}
    {f_part : Addr} {oc_part kV_part doc_part pm_part cdv_part ct_part : Value} {od_part an_part : Option Addr} {osl_part : Array (Option Value)}
    {f_tally : Addr} {oc_tally kV_tally doc_tally pm_tally cdv_tally ct_tally : Value} {od_tally an_tally : Option Addr} {osl_tally : Array (Option Value)}
    {f_added : Addr} {oc_added kV_added doc_added pm_added cdv_added ct_added : Value} {od_added an_added : Option Addr} {osl_added : Array (Option Value)}
    {f_due : Addr} {oc_due kV_due doc_due pm_due cdv_due ct_due : Value} {od_due an_due : Option Addr} {osl_due : Array (Option Value)}
    {f_right : Addr} {oc_right kV_right doc_right pm_right cdv_right ct_right : Value} {od_right an_right : Option Addr} {osl_right : Array (Option Value)}
    {f_kept : Addr} {oc_kept kV_kept doc_kept pm_kept cdv_kept ct_kept : Value} {od_kept an_kept : Option Addr} {osl_kept : Array (Option Value)}
    {f_law : Addr} {oc_law kV_law doc_law pm_law cdv_law ct_law : Value} {od_law an_law : Option Addr} {osl_law : Array (Option Value)}
    {fo go : Option Value}
    {aN : Addr} {es : Array DictEntry} {nN : Nat}
    {q_none : Addr} {u_none0 u_none1 u_none2 u_none3 : Tok} {nn_none : Nat} {od_nnone : Option Addr} {sl_nnone : Array (Option Value)}
    {q_both : Addr} {u_both0 u_both1 u_both2 u_both3 : Tok} {nn_both : Nat} {od_nboth : Option Addr} {sl_nboth : Array (Option Value)}
    {q_lacks : Addr} {u_lacks0 u_lacks1 u_lacks2 u_lacks3 : Tok} {nn_lacks : Nat} {od_nlacks : Option Addr} {sl_nlacks : Array (Option Value)}
    {q_left : Addr} {u_left0 u_left1 u_left2 u_left3 : Tok} {nn_left : Nat} {od_nleft : Option Addr} {sl_nleft : Array (Option Value)}
    {q_right : Addr} {u_right0 u_right1 u_right2 u_right3 : Tok} {nn_right : Nat} {od_nright : Option Addr} {sl_nright : Array (Option Value)}
    {q_xor : Addr} {u_xor0 u_xor1 u_xor2 u_xor3 : Tok} {nn_xor : Nat} {od_nxor : Option Addr} {sl_nxor : Array (Option Value)}
    {q_union : Addr} {u_union0 u_union1 u_union2 u_union3 : Tok} {nn_union : Nat} {od_nunion : Option Addr} {sl_nunion : Array (Option Value)}
    {q_sum : Addr} {u_sum0 u_sum1 u_sum2 u_sum3 : Tok} {nn_sum : Nat} {od_nsum : Option Addr} {sl_nsum : Array (Option Value)}
    {q_join : Addr} {u_join0 u_join1 u_join2 u_join3 : Tok} {nn_join : Nat} {od_njoin : Option Addr} {sl_njoin : Array (Option Value)}
    (z_len : PySem.W.nsIn K mainGlobals "len" = some none)
    (z_abs : PySem.W.nsIn K mainGlobals "abs" = some none)
    (z_int : PySem.W.nsIn K mainGlobals "int" = some none)
    (z_list : PySem.W.nsIn K mainGlobals "list" = some none)
    (z_repr : PySem.W.nsIn K mainGlobals "repr" = some none)
    (z_str : PySem.W.nsIn K mainGlobals "str" = some none)
    (z_range : PySem.W.nsIn K mainGlobals "range" = some none)
    (z_isinstance : PySem.W.nsIn K mainGlobals "isinstance" = some none)
    (z_super : PySem.W.nsIn K mainGlobals "super" = some none)
    (aC_Tally : PySem.W.nsIn K mainGlobals "Tally" = some (some (.ref C_Tally)))
    (pgC_Tally : PySem.W.plainGet K C_Tally Str.empty = true)
    (hdC_Tally : PySem.W.hasDictIn K C_Tally = true)
    (poC_Tally : PySem.W.plainOver K C_Tally = true)
    (saC_Tally : PySem.W.findIn K (.ref C_Tally) "__setattr__" = some (some (.builtin "object.__setattr__")))
    (sfC_Tally : PySem.W.selfFirst K C_Tally = true)
    (na_Tally_a : PySem.W.findIn K (.ref C_Tally) "a" = some none)
    (na_Tally_b : PySem.W.findIn K (.ref C_Tally) "b" = some none)
    (na_Tally_c : PySem.W.findIn K (.ref C_Tally) "c" = some none)
    (na_Tally_e : PySem.W.findIn K (.ref C_Tally) "e" = some none)
    (a_Tinit : PySem.W.findIn K (.ref C_Tally) "__init__" = some (some (.ref f_Tinit)))
    (i_Tinit : PySem.W.isFn K (.ref f_Tinit) = true)
    (l_Tinit : K.lookup f_Tinit = some ⟨oc_Tinit, od_Tinit, .func (PySem.W.fnOf "__init__" "Tally.__init__" (C8.fnArgs s_Tinit) (C8.fnBody s_Tinit) (C8.fnScope s_Tinit) (.ref D_Tinit) kV_Tinit doc_Tinit pm_Tinit an_Tinit cdv_Tinit ct_Tinit), osl_Tinit⟩)
    (cd_Tinit : PySem.W.codeIn K cdv_Tinit "Tally.__init__" = true)
    (k_Tinit : PySem.W.keepIn K (.ref f_Tinit) = true)
    (d_Tinit : K.lookup D_Tinit = some ⟨oc2_Tinit, od2_Tinit, .seq #[.int 0 t_Tinit0, .int 0 t_Tinit1] n2_Tinit, sl2_Tinit⟩)
    (mkC_Tally : PySem.W.makesIn K C_Tally = true)
    (kcC_Tally : PySem.W.keepIn K (.ref C_Tally) = true)
    (rd_Tusual : PySem.W.readsIn K C_Tally (.type "type") = true)
    (ga_Tusual : PySem.W.specialIn K (.ref C_Tally) "__getattribute__" = some (some (.builtin "type.__getattribute__")))
    (at_Tusual : PySem.W.findCls K (.ref C_Tally) (.type "type") "usual" = some (.get (.builtin "staticmethod.__get__") (.ref p_Tusual) .none (.ref C_Tally)))
    (rc_Tusual : PySem.W.recIn K p_Tusual "staticmethod" = some (.ref f_Tusual :: r_Tusual))
    (l_Tusual : K.lookup f_Tusual = some ⟨oc_Tusual, od_Tusual, .func (PySem.W.fnOf "usual" "Tally.usual" (C8.fnArgs s_Tusual) (C8.fnBody s_Tusual) (C8.fnScope s_Tusual) .none kV_Tusual doc_Tusual pm_Tusual an_Tusual cdv_Tusual ct_Tusual), osl_Tusual⟩)
    (cd_Tusual : PySem.W.codeIn K cdv_Tusual "Tally.usual" = true)
    (k_Tusual : PySem.W.keepIn K (.ref f_Tusual) = true)
    (a_Tunder : PySem.W.findIn K (.ref C_Tally) "under" = some (some (.ref f_Tunder)))
    (i_Tunder : PySem.W.isFn K (.ref f_Tunder) = true)
    (l_Tunder : K.lookup f_Tunder = some ⟨oc_Tunder, od_Tunder, .func (PySem.W.fnOf "under" "Tally.under" (C8.fnArgs s_Tunder) (C8.fnBody s_Tunder) (C8.fnScope s_Tunder) .none kV_Tunder doc_Tunder pm_Tunder an_Tunder cdv_Tunder ct_Tunder), osl_Tunder⟩)
    (cd_Tunder : PySem.W.codeIn K cdv_Tunder "Tally.under" = true)
    (k_Tunder : PySem.W.keepIn K (.ref f_Tunder) = true)
    (a_Tcall : PySem.W.findIn K (.ref C_Tally) "__call__" = some (some (.ref f_Tcall)))
    (i_Tcall : PySem.W.isFn K (.ref f_Tcall) = true)
    (l_Tcall : K.lookup f_Tcall = some ⟨oc_Tcall, od_Tcall, .func (PySem.W.fnOf "__call__" "Tally.__call__" (C8.fnArgs s_Tcall) (C8.fnBody s_Tcall) (C8.fnScope s_Tcall) .none kV_Tcall doc_Tcall pm_Tcall an_Tcall cdv_Tcall ct_Tcall), osl_Tcall⟩)
    (cd_Tcall : PySem.W.codeIn K cdv_Tcall "Tally.__call__" = true)
    (k_Tcall : PySem.W.keepIn K (.ref f_Tcall) = true)
    (a_Teq : PySem.W.findIn K (.ref C_Tally) "__eq__" = some (some (.ref f_Teq)))
    (i_Teq : PySem.W.isFn K (.ref f_Teq) = true)
    (l_Teq : K.lookup f_Teq = some ⟨oc_Teq, od_Teq, .func (PySem.W.fnOf "__eq__" "Tally.__eq__" (C8.fnArgs s_Teq) (C8.fnBody s_Teq) (C8.fnScope s_Teq) .none kV_Teq doc_Teq pm_Teq an_Teq cdv_Teq ct_Teq), osl_Teq⟩)
    (cd_Teq : PySem.W.codeIn K cdv_Teq "Tally.__eq__" = true)
    (k_Teq : PySem.W.keepIn K (.ref f_Teq) = true)
    (a_Tadd : PySem.W.findIn K (.ref C_Tally) "__add__" = some (some (.ref f_Tadd)))
    (i_Tadd : PySem.W.isFn K (.ref f_Tadd) = true)
    (l_Tadd : K.lookup f_Tadd = some ⟨oc_Tadd, od_Tadd, .func (PySem.W.fnOf "__add__" "Tally.__add__" (C8.fnArgs s_Tadd) (C8.fnBody s_Tadd) (C8.fnScope s_Tadd) .none kV_Tadd doc_Tadd pm_Tadd an_Tadd cdv_Tadd ct_Tadd), osl_Tadd⟩)
    (cd_Tadd : PySem.W.codeIn K cdv_Tadd "Tally.__add__" = true)
    (k_Tadd : PySem.W.keepIn K (.ref f_Tadd) = true)
    (a_Tsub : PySem.W.findIn K (.ref C_Tally) "__sub__" = some (some (.ref f_Tsub)))
    (i_Tsub : PySem.W.isFn K (.ref f_Tsub) = true)
    (l_Tsub : K.lookup f_Tsub = some ⟨oc_Tsub, od_Tsub, .func (PySem.W.fnOf "__sub__" "Tally.__sub__" (C8.fnArgs s_Tsub) (C8.fnBody s_Tsub) (C8.fnScope s_Tsub) .none kV_Tsub doc_Tsub pm_Tsub an_Tsub cdv_Tsub ct_Tsub), osl_Tsub⟩)
    (cd_Tsub : PySem.W.codeIn K cdv_Tsub "Tally.__sub__" = true)
    (k_Tsub : PySem.W.keepIn K (.ref f_Tsub) = true)
    (a_Tmul : PySem.W.findIn K (.ref C_Tally) "__mul__" = some (some (.ref f_Tmul)))
    (i_Tmul : PySem.W.isFn K (.ref f_Tmul) = true)
    (l_Tmul : K.lookup f_Tmul = some ⟨oc_Tmul, od_Tmul, .func (PySem.W.fnOf "__mul__" "Tally.__mul__" (C8.fnArgs s_Tmul) (C8.fnBody s_Tmul) (C8.fnScope s_Tmul) .none kV_Tmul doc_Tmul pm_Tmul an_Tmul cdv_Tmul ct_Tmul), osl_Tmul⟩)
    (cd_Tmul : PySem.W.codeIn K cdv_Tmul "Tally.__mul__" = true)
    (k_Tmul : PySem.W.keepIn K (.ref f_Tmul) = true)
    (a_Trmul : PySem.W.findIn K (.ref C_Tally) "__rmul__" = some (some (.ref f_Trmul)))
    (i_Trmul : PySem.W.isFn K (.ref f_Trmul) = true)
    (l_Trmul : K.lookup f_Trmul = some ⟨oc_Trmul, od_Trmul, .func (PySem.W.fnOf "__rmul__" "Tally.__rmul__" (C8.fnArgs s_Trmul) (C8.fnBody s_Trmul) (C8.fnScope s_Trmul) .none kV_Trmul doc_Trmul pm_Trmul an_Trmul cdv_Trmul ct_Trmul), osl_Trmul⟩)
    (cd_Trmul : PySem.W.codeIn K cdv_Trmul "Tally.__rmul__" = true)
    (k_Trmul : PySem.W.keepIn K (.ref f_Trmul) = true)
    (a_Tneg : PySem.W.findIn K (.ref C_Tally) "__neg__" = some (some (.ref f_Tneg)))
    (i_Tneg : PySem.W.isFn K (.ref f_Tneg) = true)
    (l_Tneg : K.lookup f_Tneg = some ⟨oc_Tneg, od_Tneg, .func (PySem.W.fnOf "__neg__" "Tally.__neg__" (C8.fnArgs s_Tneg) (C8.fnBody s_Tneg) (C8.fnScope s_Tneg) .none kV_Tneg doc_Tneg pm_Tneg an_Tneg cdv_Tneg ct_Tneg), osl_Tneg⟩)
    (cd_Tneg : PySem.W.codeIn K cdv_Tneg "Tally.__neg__" = true)
    (k_Tneg : PySem.W.keepIn K (.ref f_Tneg) = true)
    (a_pen : PySem.W.nsIn K mainGlobals "_law_pen" = some (some (.ref f_pen)))
    (l_pen : K.lookup f_pen = some ⟨oc_pen, od_pen, .func (PySem.W.fnOf "_law_pen" "_law_pen" (C8.fnArgs s_pen) (C8.fnBody s_pen) (C8.fnScope s_pen) .none kV_pen doc_pen pm_pen an_pen cdv_pen ct_pen), osl_pen⟩)
    (cd_pen : PySem.W.codeIn K cdv_pen "_law_pen" = true)
    (k_pen : PySem.W.keepIn K (.ref f_pen) = true)
    (a_draw : PySem.W.nsIn K mainGlobals "_law_draw" = some (some (.ref f_draw)))
    (l_draw : K.lookup f_draw = some ⟨oc_draw, od_draw, .func (PySem.W.fnOf "_law_draw" "_law_draw" (C8.fnArgs s_draw) (C8.fnBody s_draw) (C8.fnScope s_draw) .none kV_draw doc_draw pm_draw an_draw cdv_draw ct_draw), osl_draw⟩)
    (cd_draw : PySem.W.codeIn K cdv_draw "_law_draw" = true)
    (k_draw : PySem.W.keepIn K (.ref f_draw) = true)
    (a_part : PySem.W.nsIn K mainGlobals "_law_part" = some (some (.ref f_part)))
    (l_part : K.lookup f_part = some ⟨oc_part, od_part, .func (PySem.W.fnOf "_law_part" "_law_part" (C8.fnArgs s_part) (C8.fnBody s_part) (C8.fnScope s_part) .none kV_part doc_part pm_part an_part cdv_part ct_part), osl_part⟩)
    (cd_part : PySem.W.codeIn K cdv_part "_law_part" = true)
    (k_part : PySem.W.keepIn K (.ref f_part) = true)
    (a_tally : PySem.W.nsIn K mainGlobals "_law_tally" = some (some (.ref f_tally)))
    (l_tally : K.lookup f_tally = some ⟨oc_tally, od_tally, .func (PySem.W.fnOf "_law_tally" "_law_tally" (C8.fnArgs s_tally) (C8.fnBody s_tally) (C8.fnScope s_tally) .none kV_tally doc_tally pm_tally an_tally cdv_tally ct_tally), osl_tally⟩)
    (cd_tally : PySem.W.codeIn K cdv_tally "_law_tally" = true)
    (k_tally : PySem.W.keepIn K (.ref f_tally) = true)
    (a_added : PySem.W.nsIn K mainGlobals "_law_added" = some (some (.ref f_added)))
    (l_added : K.lookup f_added = some ⟨oc_added, od_added, .func (PySem.W.fnOf "_law_added" "_law_added" (C8.fnArgs s_added) (C8.fnBody s_added) (C8.fnScope s_added) .none kV_added doc_added pm_added an_added cdv_added ct_added), osl_added⟩)
    (cd_added : PySem.W.codeIn K cdv_added "_law_added" = true)
    (k_added : PySem.W.keepIn K (.ref f_added) = true)
    (a_due : PySem.W.nsIn K mainGlobals "_law_due" = some (some (.ref f_due)))
    (l_due : K.lookup f_due = some ⟨oc_due, od_due, .func (PySem.W.fnOf "_law_due" "_law_due" (C8.fnArgs s_due) (C8.fnBody s_due) (C8.fnScope s_due) .none kV_due doc_due pm_due an_due cdv_due ct_due), osl_due⟩)
    (cd_due : PySem.W.codeIn K cdv_due "_law_due" = true)
    (k_due : PySem.W.keepIn K (.ref f_due) = true)
    (a_right : PySem.W.nsIn K mainGlobals "_law_right" = some (some (.ref f_right)))
    (l_right : K.lookup f_right = some ⟨oc_right, od_right, .func (PySem.W.fnOf "_law_right" "_law_right" (C8.fnArgs s_right) (C8.fnBody s_right) (C8.fnScope s_right) .none kV_right doc_right pm_right an_right cdv_right ct_right), osl_right⟩)
    (cd_right : PySem.W.codeIn K cdv_right "_law_right" = true)
    (k_right : PySem.W.keepIn K (.ref f_right) = true)
    (a_kept : PySem.W.nsIn K mainGlobals "_law_kept" = some (some (.ref f_kept)))
    (l_kept : K.lookup f_kept = some ⟨oc_kept, od_kept, .func (PySem.W.fnOf "_law_kept" "_law_kept" (C8.fnArgs s_kept) (C8.fnBody s_kept) (C8.fnScope s_kept) .none kV_kept doc_kept pm_kept an_kept cdv_kept ct_kept), osl_kept⟩)
    (cd_kept : PySem.W.codeIn K cdv_kept "_law_kept" = true)
    (k_kept : PySem.W.keepIn K (.ref f_kept) = true)
    (a_law : PySem.W.nsIn K mainGlobals "law" = some (some (.ref f_law)))
    (l_law : K.lookup f_law = some ⟨oc_law, od_law, .func (PySem.W.fnOf "law" "law" (C8.fnArgs s_law) (C8.fnBody s_law) (C8.fnScope s_law) .none kV_law doc_law pm_law an_law cdv_law ct_law), osl_law⟩)
    (cd_law : PySem.W.codeIn K cdv_law "law" = true)
    (k_law : PySem.W.keepIn K (.ref f_law) = true)
    (im : PySem.W.findIn K (.type "int") "__mul__" = some fo)
    (ir : PySem.W.findIn K (.type "int") "__rmul__" = some go)
    (is1 : PySem.W.subIn K (.type "int") (.ref C_Tally) = some false)
    (is2 : PySem.W.subIn K (.ref C_Tally) (.type "int") = some false)
    (fni : PySem.W.fnIn K f_Tcall = true)
    (kit : PySem.W.kitOne K (.ref C_Tally) (.ref C_Tally) = some true)
    (ich : PySem.W.findIn K (.ref C_Tally) "__class__" = some (some (.builtin "object.__class__")))
    (icn : PySem.W.specialIn K (.builtin "object.__class__") "__get__" = some (some (.builtin "getset_descriptor.__get__")))
    (ict : PySem.W.takesIn K (.builtin "object.__class__") = some true)
    (icm : PySem.W.mroIn K C_Tally (.type "object") = some true)
    (aNs : PySem.W.nsIn K mainGlobals "NAMES" = some (some (.ref aN)))
    (lN : K.lookup aN = some ⟨.type "dict", none, .dict es nN, #[]⟩)
    (kN : PySem.W.KeysLit w.params es.toList)
    (oN : (aN == sysModules) = false)
    (e_none : PySem.W.nsIn K aN "none" = some (some (.ref q_none)))
    (g_none : K.lookup q_none = some ⟨.type "tuple", od_nnone, .seq #[.int (0) u_none0, .int (0) u_none1, .int (0) u_none2, .int (0) u_none3] nn_none, sl_nnone⟩)
    (e_both : PySem.W.nsIn K aN "both" = some (some (.ref q_both)))
    (g_both : K.lookup q_both = some ⟨.type "tuple", od_nboth, .seq #[.int (0) u_both0, .int (0) u_both1, .int (1) u_both2, .int (0) u_both3] nn_both, sl_nboth⟩)
    (e_lacks : PySem.W.nsIn K aN "lacks" = some (some (.ref q_lacks)))
    (g_lacks : K.lookup q_lacks = some ⟨.type "tuple", od_nlacks, .seq #[.int (1) u_lacks0, .int (0) u_lacks1, .int (-1) u_lacks2, .int (0) u_lacks3] nn_lacks, sl_nlacks⟩)
    (e_left : PySem.W.nsIn K aN "left" = some (some (.ref q_left)))
    (g_left : K.lookup q_left = some ⟨.type "tuple", od_nleft, .seq #[.int (1) u_left0, .int (0) u_left1, .int (0) u_left2, .int (0) u_left3] nn_left, sl_nleft⟩)
    (e_right : PySem.W.nsIn K aN "right" = some (some (.ref q_right)))
    (g_right : K.lookup q_right = some ⟨.type "tuple", od_nright, .seq #[.int (0) u_right0, .int (1) u_right1, .int (0) u_right2, .int (0) u_right3] nn_right, sl_nright⟩)
    (e_xor : PySem.W.nsIn K aN "xor" = some (some (.ref q_xor)))
    (g_xor : K.lookup q_xor = some ⟨.type "tuple", od_nxor, .seq #[.int (1) u_xor0, .int (1) u_xor1, .int (-2) u_xor2, .int (0) u_xor3] nn_xor, sl_nxor⟩)
    (e_union : PySem.W.nsIn K aN "union" = some (some (.ref q_union)))
    (g_union : K.lookup q_union = some ⟨.type "tuple", od_nunion, .seq #[.int (1) u_union0, .int (1) u_union1, .int (-1) u_union2, .int (0) u_union3] nn_union, sl_nunion⟩)
    (e_sum : PySem.W.nsIn K aN "sum" = some (some (.ref q_sum)))
    (g_sum : K.lookup q_sum = some ⟨.type "tuple", od_nsum, .seq #[.int (1) u_sum0, .int (1) u_sum1, .int (0) u_sum2, .int (0) u_sum3] nn_sum, sl_nsum⟩)
    (e_join : PySem.W.nsIn K aN "join" = some (some (.ref q_join)))
    (g_join : K.lookup q_join = some ⟨.type "tuple", od_njoin, .seq #[.int (0) u_join0, .int (0) u_join1, .int (0) u_join2, .int (1) u_join3] nn_join, sl_njoin⟩)
    : ∃ fd : FuncData, (∀ (s : Shared) (v : Value), BindsTo s fd ⟨[v], []⟩ [("_law_script", v)]) ∧ ∀ base : Heap, FnG l.prog w K mg base 6 fa fd ["_law_script"] (spLaw K) := by
  have e := hfa.symm.trans (PySem.W.mg_of X G a_law)
  have ef : fa = f_law := by injection e with e; injection e
  rw [ef]
  have clC_Tally : Cls K C_Tally := ⟨pgC_Tally, hdC_Tally, poC_Tally, saC_Tally⟩
  have F_Tinit : C8.Fun K "__init__" "Tally.__init__" s_Tinit f_Tinit (PySem.W.fnOf "__init__" "Tally.__init__" (C8.fnArgs s_Tinit) (C8.fnBody s_Tinit) (C8.fnScope s_Tinit) (.ref D_Tinit) kV_Tinit doc_Tinit pm_Tinit an_Tinit cdv_Tinit ct_Tinit) := ⟨oc_Tinit, od_Tinit, _, _, _, _, _, _, _, _, rfl, l_Tinit, cd_Tinit⟩
  have FD_Tinit : FunD K "__init__" "Tally.__init__" (C8.fnArgs s_Tinit) (C8.fnBody s_Tinit) (C8.fnScope s_Tinit) [.int 0, .int 0] [] f_Tinit (PySem.W.fnOf "__init__" "Tally.__init__" (C8.fnArgs s_Tinit) (C8.fnBody s_Tinit) (C8.fnScope s_Tinit) (.ref D_Tinit) kV_Tinit doc_Tinit pm_Tinit an_Tinit cdv_Tinit ct_Tinit) := ⟨⟨oc_Tinit, od_Tinit, _, _, _, _, _, _, _, _, rfl, l_Tinit, cd_Tinit, .inr ⟨by simp, D_Tinit, _, _, _, rfl, d_Tinit, rfl, (.cons ⟨_, rfl⟩ (.cons ⟨_, rfl⟩ .nil))⟩, .inl rfl⟩, k_Tinit⟩
  obtain ⟨ds_Tinit, v_Tinit, b_Tinit⟩ := FD_Tinit.binds1 (ps := ["self", "a", "b", "c", "e"]) 5 2 (by simp) rfl fun _ _ _ _ _ _ _ us its hl hi => match us, its, hl, hi with | [_, _, _, _, _], [_, _], _, _ => ⟨_, rfl, rfl⟩
  have F_Tusual : C8.Fun K "usual" "Tally.usual" s_Tusual f_Tusual (PySem.W.fnOf "usual" "Tally.usual" (C8.fnArgs s_Tusual) (C8.fnBody s_Tusual) (C8.fnScope s_Tusual) .none kV_Tusual doc_Tusual pm_Tusual an_Tusual cdv_Tusual ct_Tusual) := ⟨oc_Tusual, od_Tusual, _, _, _, _, _, _, _, _, rfl, l_Tusual, cd_Tusual⟩
  have b_Tusual := F_Tusual.binds rfl (ps := ["name"]) fun _ _ _ _ _ _ us hl => match us, hl with | [_], _ => rfl
  have F_Tunder : C8.Fun K "under" "Tally.under" s_Tunder f_Tunder (PySem.W.fnOf "under" "Tally.under" (C8.fnArgs s_Tunder) (C8.fnBody s_Tunder) (C8.fnScope s_Tunder) .none kV_Tunder doc_Tunder pm_Tunder an_Tunder cdv_Tunder ct_Tunder) := ⟨oc_Tunder, od_Tunder, _, _, _, _, _, _, _, _, rfl, l_Tunder, cd_Tunder⟩
  have b_Tunder := F_Tunder.binds rfl (ps := ["self", "other"]) fun _ _ _ _ _ _ us hl => match us, hl with | [_, _], _ => rfl
  have F_Tcall : C8.Fun K "__call__" "Tally.__call__" s_Tcall f_Tcall (PySem.W.fnOf "__call__" "Tally.__call__" (C8.fnArgs s_Tcall) (C8.fnBody s_Tcall) (C8.fnScope s_Tcall) .none kV_Tcall doc_Tcall pm_Tcall an_Tcall cdv_Tcall ct_Tcall) := ⟨oc_Tcall, od_Tcall, _, _, _, _, _, _, _, _, rfl, l_Tcall, cd_Tcall⟩
  have b_Tcall := F_Tcall.binds rfl (ps := ["self", "m", "n"]) fun _ _ _ _ _ _ us hl => match us, hl with | [_, _, _], _ => rfl
  have F_Teq : C8.Fun K "__eq__" "Tally.__eq__" s_Teq f_Teq (PySem.W.fnOf "__eq__" "Tally.__eq__" (C8.fnArgs s_Teq) (C8.fnBody s_Teq) (C8.fnScope s_Teq) .none kV_Teq doc_Teq pm_Teq an_Teq cdv_Teq ct_Teq) := ⟨oc_Teq, od_Teq, _, _, _, _, _, _, _, _, rfl, l_Teq, cd_Teq⟩
  have b_Teq := F_Teq.binds rfl (ps := ["self", "other"]) fun _ _ _ _ _ _ us hl => match us, hl with | [_, _], _ => rfl
  have F_Tadd : C8.Fun K "__add__" "Tally.__add__" s_Tadd f_Tadd (PySem.W.fnOf "__add__" "Tally.__add__" (C8.fnArgs s_Tadd) (C8.fnBody s_Tadd) (C8.fnScope s_Tadd) .none kV_Tadd doc_Tadd pm_Tadd an_Tadd cdv_Tadd ct_Tadd) := ⟨oc_Tadd, od_Tadd, _, _, _, _, _, _, _, _, rfl, l_Tadd, cd_Tadd⟩
  have b_Tadd := F_Tadd.binds rfl (ps := ["self", "other"]) fun _ _ _ _ _ _ us hl => match us, hl with | [_, _], _ => rfl
  have F_Tsub : C8.Fun K "__sub__" "Tally.__sub__" s_Tsub f_Tsub (PySem.W.fnOf "__sub__" "Tally.__sub__" (C8.fnArgs s_Tsub) (C8.fnBody s_Tsub) (C8.fnScope s_Tsub) .none kV_Tsub doc_Tsub pm_Tsub an_Tsub cdv_Tsub ct_Tsub) := ⟨oc_Tsub, od_Tsub, _, _, _, _, _, _, _, _, rfl, l_Tsub, cd_Tsub⟩
  have b_Tsub := F_Tsub.binds rfl (ps := ["self", "other"]) fun _ _ _ _ _ _ us hl => match us, hl with | [_, _], _ => rfl
  have F_Tmul : C8.Fun K "__mul__" "Tally.__mul__" s_Tmul f_Tmul (PySem.W.fnOf "__mul__" "Tally.__mul__" (C8.fnArgs s_Tmul) (C8.fnBody s_Tmul) (C8.fnScope s_Tmul) .none kV_Tmul doc_Tmul pm_Tmul an_Tmul cdv_Tmul ct_Tmul) := ⟨oc_Tmul, od_Tmul, _, _, _, _, _, _, _, _, rfl, l_Tmul, cd_Tmul⟩
  have b_Tmul := F_Tmul.binds rfl (ps := ["self", "other"]) fun _ _ _ _ _ _ us hl => match us, hl with | [_, _], _ => rfl
  have F_Trmul : C8.Fun K "__rmul__" "Tally.__rmul__" s_Trmul f_Trmul (PySem.W.fnOf "__rmul__" "Tally.__rmul__" (C8.fnArgs s_Trmul) (C8.fnBody s_Trmul) (C8.fnScope s_Trmul) .none kV_Trmul doc_Trmul pm_Trmul an_Trmul cdv_Trmul ct_Trmul) := ⟨oc_Trmul, od_Trmul, _, _, _, _, _, _, _, _, rfl, l_Trmul, cd_Trmul⟩
  have b_Trmul := F_Trmul.binds rfl (ps := ["self", "other"]) fun _ _ _ _ _ _ us hl => match us, hl with | [_, _], _ => rfl
  have F_Tneg : C8.Fun K "__neg__" "Tally.__neg__" s_Tneg f_Tneg (PySem.W.fnOf "__neg__" "Tally.__neg__" (C8.fnArgs s_Tneg) (C8.fnBody s_Tneg) (C8.fnScope s_Tneg) .none kV_Tneg doc_Tneg pm_Tneg an_Tneg cdv_Tneg ct_Tneg) := ⟨oc_Tneg, od_Tneg, _, _, _, _, _, _, _, _, rfl, l_Tneg, cd_Tneg⟩
  have b_Tneg := F_Tneg.binds rfl (ps := ["self"]) fun _ _ _ _ _ _ us hl => match us, hl with | [_], _ => rfl
  have F_pen : C8.Fun K "_law_pen" "_law_pen" s_pen f_pen (PySem.W.fnOf "_law_pen" "_law_pen" (C8.fnArgs s_pen) (C8.fnBody s_pen) (C8.fnScope s_pen) .none kV_pen doc_pen pm_pen an_pen cdv_pen ct_pen) := ⟨oc_pen, od_pen, _, _, _, _, _, _, _, _, rfl, l_pen, cd_pen⟩
  have b_pen := F_pen.binds rfl (ps := ["_law_script"]) fun _ _ _ _ _ _ us hl => match us, hl with | [_], _ => rfl
  have F_draw : C8.Fun K "_law_draw" "_law_draw" s_draw f_draw (PySem.W.fnOf "_law_draw" "_law_draw" (C8.fnArgs s_draw) (C8.fnBody s_draw) (C8.fnScope s_draw) .none kV_draw doc_draw pm_draw an_draw cdv_draw ct_draw) := ⟨oc_draw, od_draw, _, _, _, _, _, _, _, _, rfl, l_draw, cd_draw⟩
  have b_draw := F_draw.binds rfl (ps := ["_law_pen_here", "_law_many"]) fun _ _ _ _ _ _ us hl => match us, hl with | [_, _], _ => rfl
  have F_part : C8.Fun K "_law_part" "_law_part" s_part f_part (PySem.W.fnOf "_law_part" "_law_part" (C8.fnArgs s_part) (C8.fnBody s_part) (C8.fnScope s_part) .none kV_part doc_part pm_part an_part cdv_part ct_part) := ⟨oc_part, od_part, _, _, _, _, _, _, _, _, rfl, l_part, cd_part⟩
  have b_part := F_part.binds rfl (ps := ["_law_pen_here"]) fun _ _ _ _ _ _ us hl => match us, hl with | [_], _ => rfl
  have F_tally : C8.Fun K "_law_tally" "_law_tally" s_tally f_tally (PySem.W.fnOf "_law_tally" "_law_tally" (C8.fnArgs s_tally) (C8.fnBody s_tally) (C8.fnScope s_tally) .none kV_tally doc_tally pm_tally an_tally cdv_tally ct_tally) := ⟨oc_tally, od_tally, _, _, _, _, _, _, _, _, rfl, l_tally, cd_tally⟩
  have b_tally := F_tally.binds rfl (ps := ["_law_pen_here"]) fun _ _ _ _ _ _ us hl => match us, hl with | [_], _ => rfl
  have F_added : C8.Fun K "_law_added" "_law_added" s_added f_added (PySem.W.fnOf "_law_added" "_law_added" (C8.fnArgs s_added) (C8.fnBody s_added) (C8.fnScope s_added) .none kV_added doc_added pm_added an_added cdv_added ct_added) := ⟨oc_added, od_added, _, _, _, _, _, _, _, _, rfl, l_added, cd_added⟩
  have b_added := F_added.binds rfl (ps := ["_law_pen_here", "_law_one"]) fun _ _ _ _ _ _ us hl => match us, hl with | [_, _], _ => rfl
  have F_due : C8.Fun K "_law_due" "_law_due" s_due f_due (PySem.W.fnOf "_law_due" "_law_due" (C8.fnArgs s_due) (C8.fnBody s_due) (C8.fnScope s_due) .none kV_due doc_due pm_due an_due cdv_due ct_due) := ⟨oc_due, od_due, _, _, _, _, _, _, _, _, rfl, l_due, cd_due⟩
  have b_due := F_due.binds rfl (ps := ["_law_one", "_law_other"]) fun _ _ _ _ _ _ us hl => match us, hl with | [_, _], _ => rfl
  have F_right : C8.Fun K "_law_right" "_law_right" s_right f_right (PySem.W.fnOf "_law_right" "_law_right" (C8.fnArgs s_right) (C8.fnBody s_right) (C8.fnScope s_right) .none kV_right doc_right pm_right an_right cdv_right ct_right) := ⟨oc_right, od_right, _, _, _, _, _, _, _, _, rfl, l_right, cd_right⟩
  have b_right := F_right.binds rfl (ps := ["_law_pen_here", "_law_one", "_law_other"]) fun _ _ _ _ _ _ us hl => match us, hl with | [_, _, _], _ => rfl
  have F_kept : C8.Fun K "_law_kept" "_law_kept" s_kept f_kept (PySem.W.fnOf "_law_kept" "_law_kept" (C8.fnArgs s_kept) (C8.fnBody s_kept) (C8.fnScope s_kept) .none kV_kept doc_kept pm_kept an_kept cdv_kept ct_kept) := ⟨oc_kept, od_kept, _, _, _, _, _, _, _, _, rfl, l_kept, cd_kept⟩
  have b_kept := F_kept.binds rfl (ps := ["_law_pen_here", "_law_one", "_law_other", "_law_third"]) fun _ _ _ _ _ _ us hl => match us, hl with | [_, _, _, _], _ => rfl
  have F_law : C8.Fun K "law" "law" s_law f_law (PySem.W.fnOf "law" "law" (C8.fnArgs s_law) (C8.fnBody s_law) (C8.fnScope s_law) .none kV_law doc_law pm_law an_law cdv_law ct_law) := ⟨oc_law, od_law, _, _, _, _, _, _, _, _, rfl, l_law, cd_law⟩
  have b_law := F_law.binds rfl (ps := ["_law_script"]) fun _ _ _ _ _ _ us hl => match us, hl with | [_], _ => rfl
  have hu9 : ∀ z ∈ W9, ∃ (t : Addr) (a b c e : Int), PySem.W.nsIn K aN z = some (some (.ref t)) ∧ (∀ H : Hp, SqT K H t [.int a, .int b, .int c, .int e]) ∧ (-2 ≤ a ∧ a ≤ 2) ∧ (-2 ≤ b ∧ b ≤ 2) ∧ (-2 ≤ c ∧ c ≤ 2) ∧ (-2 ≤ e ∧ e ≤ 2) := by
    intro z hz
    simp only [W9, List.mem_cons, List.not_mem_nil, or_false] at hz
    rcases hz with rfl | rfl | rfl | rfl | rfl | rfl | rfl | rfl | rfl
    · exact ⟨_, _, _, _, _, e_none, fun H => sq4 g_none, by decide, by decide, by decide, by decide⟩
    · exact ⟨_, _, _, _, _, e_both, fun H => sq4 g_both, by decide, by decide, by decide, by decide⟩
    · exact ⟨_, _, _, _, _, e_lacks, fun H => sq4 g_lacks, by decide, by decide, by decide, by decide⟩
    · exact ⟨_, _, _, _, _, e_left, fun H => sq4 g_left, by decide, by decide, by decide, by decide⟩
    · exact ⟨_, _, _, _, _, e_right, fun H => sq4 g_right, by decide, by decide, by decide, by decide⟩
    · exact ⟨_, _, _, _, _, e_xor, fun H => sq4 g_xor, by decide, by decide, by decide, by decide⟩
    · exact ⟨_, _, _, _, _, e_union, fun H => sq4 g_union, by decide, by decide, by decide, by decide⟩
    · exact ⟨_, _, _, _, _, e_sum, fun H => sq4 g_sum, by decide, by decide, by decide, by decide⟩
    · exact ⟨_, _, _, _, _, e_join, fun H => sq4 g_join, by decide, by decide, by decide, by decide⟩
  have T : Txt K w mg := { n_len := PySem.W.mg_none_of X G z_len, n_abs := PySem.W.mg_none_of X G z_abs, n_int := PySem.W.mg_none_of X G z_int, n_list := PySem.W.mg_none_of X G z_list, n_repr := PySem.W.mg_none_of X G z_repr, n_str := PySem.W.mg_none_of X G z_str, n_range := PySem.W.mg_none_of X G z_range, n_isinstance := PySem.W.mg_none_of X G z_isinstance, n_super := PySem.W.mg_none_of X G z_super, a_Tally := C_Tally, c_Tally := clC_Tally, sf_Tally := sfC_Tally, g_Tally := ⟨_, PySem.W.mg_of X G aC_Tally, rfl⟩, na_Tally_a := na_Tally_a, na_Tally_b := na_Tally_b, na_Tally_c := na_Tally_c, na_Tally_e := na_Tally_e, d_Tinit := ⟨_, _, _, ⟨mkC_Tally, a_Tinit, i_Tinit, kcC_Tally⟩, F_Tinit, PySem.W.mg_of X G aC_Tally, b_Tinit, v_Tinit⟩, d_Tusual := ⟨_, _, _, _, _, ⟨rd_Tusual, ga_Tusual, at_Tusual, ⟨_, rc_Tusual⟩, k_Tusual⟩, F_Tusual, b_Tusual, .nil⟩, d_Tunder := ⟨_, _, _, clC_Tally, ⟨a_Tunder, i_Tunder, k_Tunder⟩, F_Tunder, b_Tunder, .nil⟩, d_Tcall := ⟨_, _, _, clC_Tally, ⟨a_Tcall, i_Tcall, k_Tcall⟩, F_Tcall, b_Tcall, .nil⟩, d_Teq := ⟨_, _, _, clC_Tally, ⟨a_Teq, i_Teq, k_Teq⟩, F_Teq, b_Teq, .nil⟩, d_Tadd := ⟨_, _, _, clC_Tally, ⟨a_Tadd, i_Tadd, k_Tadd⟩, F_Tadd, b_Tadd, .nil⟩, d_Tsub := ⟨_, _, _, clC_Tally, ⟨a_Tsub, i_Tsub, k_Tsub⟩, F_Tsub, b_Tsub, .nil⟩, d_Tmul := ⟨_, _, _, clC_Tally, ⟨a_Tmul, i_Tmul, k_Tmul⟩, F_Tmul, b_Tmul, .nil⟩, d_Trmul := ⟨_, _, _, clC_Tally, ⟨a_Trmul, i_Trmul, k_Trmul⟩, F_Trmul, b_Trmul, .nil⟩, d_Tneg := ⟨_, _, _, clC_Tally, ⟨a_Tneg, i_Tneg, k_Tneg⟩, F_Tneg, b_Tneg, .nil⟩, d_pen := ⟨_, _, _, F_pen, PySem.W.mg_of X G a_pen, k_pen, b_pen, .nil⟩, d_draw := ⟨_, _, _, F_draw, PySem.W.mg_of X G a_draw, k_draw, b_draw, .nil⟩, d_part := ⟨_, _, _, F_part, PySem.W.mg_of X G a_part, k_part, b_part, .nil⟩, d_tally := ⟨_, _, _, F_tally, PySem.W.mg_of X G a_tally, k_tally, b_tally, .nil⟩, d_added := ⟨_, _, _, F_added, PySem.W.mg_of X G a_added, k_added, b_added, .nil⟩, d_due := ⟨_, _, _, F_due, PySem.W.mg_of X G a_due, k_due, b_due, .nil⟩, d_right := ⟨_, _, _, F_right, PySem.W.mg_of X G a_right, k_right, b_right, .nil⟩, d_kept := ⟨_, _, _, F_kept, PySem.W.mg_of X G a_kept, k_kept, b_kept, .nil⟩, d_law := ⟨_, _, _, F_law, PySem.W.mg_of X G a_law, k_law, b_law, .nil⟩, oti := ⟨⟨_, a_Trmul, .inr ⟨_, rfl⟩⟩, ⟨_, im⟩, ⟨_, ir⟩, is1⟩, mul_at := ⟨_, a_Tmul⟩, sub_int := is2, fi := fun f e => by have z := a_Tcall.symm.trans e; injection z with z; injection z with z; injection z with z; subst z; exact fni, kit := kit, ic := ⟨clC_Tally, ich, icn, ict, icm, kit⟩, a_N := aN, es_N := es, n_N := nN, kd := ⟨lN, kN, oN⟩, gN := ⟨_, PySem.W.mg_of X G aNs, rfl⟩, u9 := hu9 }
  refine ⟨PySem.W.fnOf "law" "law" (C8.fnArgs s_law) (C8.fnBody s_law) (C8.fnScope s_law) .none kV_law doc_law pm_law an_law cdv_law ct_law, fun s v => .of_eq rfl, fun base => ?_⟩
  exact law_fn (P := l.prog) (base := base) T F_law
end K65
open PySem PySem.W PyProof.Rows in
set_option maxRecDepth 100000 in
set_option maxHeartbeats 0 in
theorem PySem.Challenge.cw_twoheads_k65_tallies_under_holds : PySem.Challenge.rw_twoheads_k65_tallies_under.Holds := by
  w_on; o_law; k_head; (case hw => w_witness2)
  k_fill
  refine Tw.lawG (l := PySem.Challenge.rw_twoheads_k65_tallies_under) (sp := K65.spLaw) (k := 6) (x := "_law_script") (n := 63) rfl (by decide) rfl (Tw.rm_caller (by decide) (by decide)) (fun w h Y => PySem.W.kIn_of Y) ?F (fun K H a ns hl hS => ⟨a, ns, rfl, hS, hl, fun _ => rfl⟩)
  case F =>
    intro w mg fa h KX G hmg
    refine' K65.all_mk KX G hmg ?z_len ?z_abs ?z_int ?z_list ?z_repr ?z_str ?z_range ?z_isinstance ?z_super ?aC_Tally ?pgC_Tally ?hdC_Tally ?poC_Tally ?saC_Tally ?sfC_Tally ?na_Tally_a ?na_Tally_b ?na_Tally_c ?na_Tally_e ?a_Tinit ?i_Tinit ?l_Tinit ?cd_Tinit ?k_Tinit ?d_Tinit ?mkC_Tally ?kcC_Tally ?rd_Tusual ?ga_Tusual ?at_Tusual ?rc_Tusual ?l_Tusual ?cd_Tusual ?k_Tusual ?a_Tunder ?i_Tunder ?l_Tunder ?cd_Tunder ?k_Tunder ?a_Tcall ?i_Tcall ?l_Tcall ?cd_Tcall ?k_Tcall ?a_Teq ?i_Teq ?l_Teq ?cd_Teq ?k_Teq ?a_Tadd ?i_Tadd ?l_Tadd ?cd_Tadd ?k_Tadd ?a_Tsub ?i_Tsub ?l_Tsub ?cd_Tsub ?k_Tsub ?a_Tmul ?i_Tmul ?l_Tmul ?cd_Tmul ?k_Tmul ?a_Trmul ?i_Trmul ?l_Trmul ?cd_Trmul ?k_Trmul ?a_Tneg ?i_Tneg ?l_Tneg ?cd_Tneg ?k_Tneg ?a_pen ?l_pen ?cd_pen ?k_pen ?a_draw ?l_draw ?cd_draw ?k_draw ?a_part ?l_part ?cd_part ?k_part ?a_tally ?l_tally ?cd_tally ?k_tally ?a_added ?l_added ?cd_added ?k_added ?a_due ?l_due ?cd_due ?k_due ?a_right ?l_right ?cd_right ?k_right ?a_kept ?l_kept ?cd_kept ?k_kept ?a_law ?l_law ?cd_law ?k_law ?im ?ir ?is1 ?is2 ?fni ?kit ?ich ?icn ?ict ?icm ?aNs ?lN ?kN ?oN ?e_none ?g_none ?e_both ?g_both ?e_lacks ?g_lacks ?e_left ?g_left ?e_right ?g_right ?e_xor ?g_xor ?e_union ?g_union ?e_sum ?g_sum ?e_join ?g_join
    (case z_len => k_is)
    (case z_abs => k_is)
    (case z_int => k_is)
    (case z_list => k_is)
    (case z_repr => k_is)
    (case z_str => k_is)
    (case z_range => k_is)
    (case z_isinstance => k_is)
    (case z_super => k_is)
    (case aC_Tally => k_is)
    (case pgC_Tally => k_is)
    (case hdC_Tally => k_is)
    (case poC_Tally => k_is)
    (case saC_Tally => k_is)
    (case sfC_Tally => k_is)
    (case na_Tally_a => k_is)
    (case na_Tally_b => k_is)
    (case na_Tally_c => k_is)
    (case na_Tally_e => k_is)
    (case a_Tinit => k_is)
    (case i_Tinit => k_is)
    (case l_Tinit => k_is)
    (case cd_Tinit => k_is)
    (case k_Tinit => k_is)
    (case d_Tinit => k_is)
    (case mkC_Tally => k_is)
    (case kcC_Tally => k_is)
    (case rd_Tusual => k_is)
    (case ga_Tusual => k_is)
    (case at_Tusual => k_is)
    (case rc_Tusual => k_is)
    (case l_Tusual => k_is)
    (case cd_Tusual => k_is)
    (case k_Tusual => k_is)
    (case a_Tunder => k_is)
    (case i_Tunder => k_is)
    (case l_Tunder => k_is)
    (case cd_Tunder => k_is)
    (case k_Tunder => k_is)
    (case a_Tcall => k_is)
    (case i_Tcall => k_is)
    (case l_Tcall => k_is)
    (case cd_Tcall => k_is)
    (case k_Tcall => k_is)
    (case a_Teq => k_is)
    (case i_Teq => k_is)
    (case l_Teq => k_is)
    (case cd_Teq => k_is)
    (case k_Teq => k_is)
    (case a_Tadd => k_is)
    (case i_Tadd => k_is)
    (case l_Tadd => k_is)
    (case cd_Tadd => k_is)
    (case k_Tadd => k_is)
    (case a_Tsub => k_is)
    (case i_Tsub => k_is)
    (case l_Tsub => k_is)
    (case cd_Tsub => k_is)
    (case k_Tsub => k_is)
    (case a_Tmul => k_is)
    (case i_Tmul => k_is)
    (case l_Tmul => k_is)
    (case cd_Tmul => k_is)
    (case k_Tmul => k_is)
    (case a_Trmul => k_is)
    (case i_Trmul => k_is)
    (case l_Trmul => k_is)
    (case cd_Trmul => k_is)
    (case k_Trmul => k_is)
    (case a_Tneg => k_is)
    (case i_Tneg => k_is)
    (case l_Tneg => k_is)
    (case cd_Tneg => k_is)
    (case k_Tneg => k_is)
    (case a_pen => k_is)
    (case l_pen => k_is)
    (case cd_pen => k_is)
    (case k_pen => k_is)
    (case a_draw => k_is)
    (case l_draw => k_is)
    (case cd_draw => k_is)
    (case k_draw => k_is)
    (case a_part => k_is)
    (case l_part => k_is)
    (case cd_part => k_is)
    (case k_part => k_is)
    (case a_tally => k_is)
    (case l_tally => k_is)
    (case cd_tally => k_is)
    (case k_tally => k_is)
    (case a_added => k_is)
    (case l_added => k_is)
    (case cd_added => k_is)
    (case k_added => k_is)
    (case a_due => k_is)
    (case l_due => k_is)
    (case cd_due => k_is)
    (case k_due => k_is)
    (case a_right => k_is)
    (case l_right => k_is)
    (case cd_right => k_is)
    (case k_right => k_is)
    (case a_kept => k_is)
    (case l_kept => k_is)
    (case cd_kept => k_is)
    (case k_kept => k_is)
    (case a_law => k_is)
    (case l_law => k_is)
    (case cd_law => k_is)
    (case k_law => k_is)
    (case im => k_is)
    (case ir => k_is)
    (case is1 => k_is)
    (case is2 => k_is)
    (case fni => k_is)
    (case kit => exact Tw.kit_same _ _)
    (case ich => k_is)
    (case icn => k_is)
    (case ict => k_is)
    (case icm => k_is)
    (case aNs => k_is)
    (case lN => k_is)
    (case kN => k_keys)
    (case oN => decide)
    (case e_none => k_is)
    (case g_none => k_is)
    (case e_both => k_is)
    (case g_both => k_is)
    (case e_lacks => k_is)
    (case g_lacks => k_is)
    (case e_left => k_is)
    (case g_left => k_is)
    (case e_right => k_is)
    (case g_right => k_is)
    (case e_xor => k_is)
    (case g_xor => k_is)
    (case e_union => k_is)
    (case g_union => k_is)
    (case e_sum => k_is)
    (case g_sum => k_is)
    (case e_join => k_is)
    (case g_join => k_is)
