import PyProof.Rows.All
import Wide.All
import OpenK.AllK
import Wide.FinOn
import HandS.ForMost
import HandS.Codes
import HandS.Wide
import HandS.Flow
import HandS.IsInst
import HandS.OwnEq
import HandS.ForExc
import HandS.Star
import HandS.ClsMeth
import HandS.More
import HandS.Defaults
import HandS.Style
import PyProof.ReprRoads
import PyProof.Rows.ListMulR
import KE.KOpsOwn
import KE.KExcSuper
import HandS.ExcInit
import HandS.ExcField
import HandS.ExcIs
import HandS.ExcValue
import HandS.ExcOwn
import KE.KExcIs
import HandS.Comp
import HandS.Iter
import PyProof.InstNe
import KE.KCallOwn
import HandS.FStr
import HandS.TupAny
import HandS.Deep
import HandS.Lambda
import HandS.RaiseMore
import PyProof.StrLawsRepr
import HandS.Property
import HandS.DeepEq
import PyProof.EnumMake
import HandS.IterNext
import HandS.IterVal
import KE.KOwnIter
import PyProof.RulesMatch
import PyProof.CompFree
import PyProof.Draws
import PyProof.Rows.SortShellAny
import HandS.SetFor
import HandS.SortKw
import HandS.Keys
import HandS.Strs
import HandS.TupSets
import HandS.SetTxt0
import HandS.TryOnly
import HandS.ExcBuiltin
import HandS.RaiseOp
import PyProof.DictUpdate
import HandS.StrMore
import PyProof.ToksMono
import HandS.Replace
import HandS.ReplaceLit
import PyProof.StrReplace2
import KE.KSuper
import HandS.Zip
import HandS.GenList
import OpenK.KMeth
import PyProof.Rows.CountFlat
import KE.KDictCopyH
import PySem.Challenge.RW_twoheads_k04_rows_read
set_option Elab.async false
set_option linter.all false
set_option maxRecDepth 100000
set_option maxHeartbeats 4000000
set_option autoImplicit false
namespace Tw
open PySem PySem.Spec PyProof.Rows L2
/-- the pen: a list of a list and two ints -/
def isPen : HO → Bool
  | .lst [.ref _, .int _, .int _] => true
  | _ => false
/-- all but pens is kept -/
def SP (H H' : Hp) : Prop := (∀ b o, H b = some o → isPen o = false → H' b = some o) ∧ ∀ b L a r, H b = some (.lst [.ref L, .int a, .int r]) → ∃ a' r', H' b = some (.lst [.ref L, .int a', .int r'])
theorem SP.refl (H : Hp) : SP H H := ⟨fun _ _ h _ => h, fun _ _ a r h => ⟨a, r, h⟩⟩
theorem SP.trans {H H1 H2 : Hp} (a : SP H H1) (b : SP H1 H2) : SP H H2 := ⟨fun c o h n => b.1 c o (a.1 c o h n) n, fun c L x r h => by
  obtain ⟨x1, r1, h1⟩ := a.2 c L x r h
  exact b.2 c L x1 r1 h1⟩
theorem _root_.L2.Same.sp {H H' : Hp} (s : Same H H') : SP H H' := ⟨fun b o h _ => s b o h, fun b L a r h => ⟨a, r, s _ _ h⟩⟩
theorem SP.new {H : Hp} {D : Addr} {o : HO} (hD : H D = none) : SP H (upd H D o) := Same.sp fun y u h => by rw [upd_ne (ne_of_none h hD)]; exact h
theorem SP.tr {H H' : Hp} {b : Addr} {o : HO} (s : SP H H') (h : H b = some o) (n : isPen o = false) : H' b = some o := s.1 b o h n
theorem Same.tr {H H' : Hp} {b : Addr} {o : HO} (s : Same H H') (h : H b = some o) : H' b = some o := s b o h
theorem Same.new {H : Hp} {p : Addr} {o : HO} (h : H p = none) : Same H (upd H p o) := fun b u e => by
  rw [upd_ne (ne_of_none e h)]
  exact e
theorem isPen_ints (ns : List Int) : isPen (.lst (ns.map V.int)) = false := by
  cases ns with
  | nil => rfl
  | cons a r => rfl
theorem al {H : Hp} {o : HO} {Q : VK} (h : ∀ p H', Same H H' → H' p = some o → H p = none → Q (.ref p) H') : ∀ p, H p = none → Q (.ref p) (upd H p o) :=
  fun p hp => h p _ (Same.new hp) upd_same hp
section
variable {K : PySem.W.Frag} {σ : L2.St} {H : Hp} {D : Ends} {t u : TS} {ta tb te tc : TE} {c d : TT} {tA : TA} {Q : VK} {QB : Bool → Hp → Prop} {QL : List V → Hp → Prop} {QS : L2.St → Hp → Prop} {v x y : V} {i : Nat} {r : R2} {g : TG}
theorem u_seq (h : t { D with nx := u D } σ H) : tSeq t u D σ H := h
theorem u_cut (Mid : L2.St → Hp → Prop) (h : t { D with nx := Mid } σ H) (k : ∀ σ' H', Mid σ' H' → u D σ' H') : C8.tCut t u D σ H := ⟨Mid, h, k⟩
theorem u_next (h : D.nx σ H) : tNext D σ H := h
theorem u_drop (h : te σ H fun _ H1 => D.nx σ H1) : tDrop te D σ H := h
theorem u_ret (h : te σ H D.rt) : tRet te D σ H := h
theorem u_if (h : c σ H fun b H1 => if b = true then t D σ H1 else u D σ H1) : tIfS c t u D σ H := h
theorem u_asg (h : te σ H fun x H1 => g x σ H1 D.nx) : tAsg te g D σ H := h
theorem u_gname (h : QS (σ.set i (some v)) H) : gName i v σ H QS := h
theorem u_var (e : σ[i]? = some (some v)) (h : Q v H) : tVar i σ H Q := ⟨v, e, h⟩
theorem u_c (h : Q v H) : tC v σ H Q := h
theorem u_op (h : ta σ H fun x H1 => tb σ H1 fun y H2 => r x y H2 Q) : tOp r ta tb σ H Q := h
theorem u_un {f : V → Hp → VK → Prop} (h : ta σ H fun x H1 => f x H1 Q) : tUn f ta σ H Q := h
theorem u_nil (h : QL [] H) : tNil σ H QL := h
theorem u_cons (h : ta σ H fun x H1 => tA σ H1 fun xs H2 => QL (x :: xs) H2) : tCons ta tA σ H QL := h
theorem u_cb {f : List V → Hp → VK → Prop} (h : tA σ H fun vs H1 => f vs H1 Q) : tCB f tA σ H Q := h
def kBl (QB : Bool → Hp → Prop) : VK := fun x H' => ∃ k, x = .bl k ∧ QB k H'
theorem k_bl {b : Bool} (h : QB b H) : kBl QB (.bl b) H := ⟨b, rfl, h⟩
theorem u_test (h : te σ H (kBl QB)) : tTest te σ H QB := h
theorem u_B (h : te σ H (kBl QB)) : tB te σ H QB := h
theorem u_not (h : c σ H fun b H1 => QB (!b) H1) : tNot c σ H QB := h
theorem u_and (h : c σ H fun b H1 => if b = true then d σ H1 QB else QB false H1) : tAnd c d σ H QB := h
theorem u_or (h : c σ H fun b H1 => if b = true then QB true H1 else d σ H1 QB) : tOr c d σ H QB := h
theorem u_andV (h : ta σ H (kBl fun c H1 => if c = true then tb σ H1 Q else Q (.bl false) H1)) : tAndV ta tb σ H Q := h
theorem u_orV (h : ta σ H (kBl fun c H1 => if c = true then Q (.bl true) H1 else tb σ H1 Q)) : tOrV ta tb σ H Q := h
theorem u_notV (h : ta σ H (kBl fun c H1 => Q (.bl (!c)) H1)) : tNotV ta σ H Q := h
theorem u_ifE (h : c σ H fun b H1 => if b = true then ta σ H1 Q else tb σ H1 Q) : tIf c ta tb σ H Q := h
theorem u_chain {r r' : R2} (h : ta σ H fun x H1 => tb σ H1 fun y H2 => r x y H2 (kBl fun k H3 => if k = true then tc σ H3 fun w' H4 => r' y w' H4 Q else Q (.bl false) H3)) : tChain r r' ta tb tc σ H Q := h
def kFld (K : PySem.W.Frag) (f : Str) (Q : VK) : VK := fun x H1 => ∃ a C dx fs v, x = .ref a ∧ H1 a = some (.ins C dx fs) ∧ Cls K C ∧ NoAttr K C f ∧ fs.lookup f = some v ∧ Q v H1
theorem u_fld {f : Str} (h : ta σ H (kFld K f Q)) : tFld K ta f σ H Q := h
theorem k_fld {f : Str} {a C dx : Addr} {fs : List (Str × V)} (ho : H a = some (.ins C dx fs)) (hc : Cls K C) (hn : NoAttr K C f) (hl : fs.lookup f = some v) (h : Q v H) : kFld K f Q (.ref a) H := ⟨a, C, dx, fs, v, rfl, ho, hc, hn, hl, h⟩
theorem u_call {sp : Sp} {dvs : List V} {E : XK} (h : tA σ H fun vs H1 => sp (vs ++ dvs) H1 Q E) : tCall sp dvs E tA σ H Q := h
def kMeth (C : Addr) (m : Str) (go : V → Hp → Prop) : VK := fun x H1 => ∃ a dx fs, x = .ref a ∧ H1 a = some (.ins C dx fs) ∧ fs.lookup m = none ∧ go x H1
theorem u_meth {C : Addr} {m : Str} {sp : Sp} {dvs : List V} {E : XK} (h : ta σ H (kMeth C m fun x H1 => tA σ H1 fun vs H2 => sp (x :: (vs ++ dvs)) H2 Q E)) : tMeth C m sp dvs E ta tA σ H Q := h
theorem k_meth {C a dx : Addr} {m : Str} {fs : List (Str × V)} {go : V → Hp → Prop} (ho : H a = some (.ins C dx fs)) (hl : fs.lookup m = none) (h : go (.ref a) H) : kMeth C m go (.ref a) H := ⟨a, dx, fs, rfl, ho, hl, h⟩
theorem u_make {C : Addr} {sp : Sp} {dvs : List V} {E : XK} (h : tA σ H fun vs H1 => ∀ x dx, H1 x = none → H1 dx = none → dx ≠ x → sp (.ref x :: (vs ++ dvs)) (upd (upd H1 dx (.own x)) x (.ins C dx [])) (fun v H2 => v = .non ∧ Q (.ref x) H2) E) : tMake C sp dvs E tA σ H Q := h
theorem r_I0 {f : Int → Int → V} {i j : Int} (h : Q (f i j) H) : rI0 f (.int i) (.int j) H Q := ⟨i, j, rfl, rfl, h⟩
theorem r_U {f : Int → V} {i : Int} (h : Q (f i) H) : rU f (.int i) H Q := ⟨i, rfl, h⟩
theorem r_eqI {i j : Int} (h : Q (.bl (decide (i = j))) H) : rEq (.int i) (.int j) H Q := ⟨rfl, by
  have e : decide (V.int i = V.int j) = decide (i = j) := decide_eq_decide.mpr ⟨fun q => by injection q, fun q => by rw [q]⟩
  rw [e]; exact h⟩
theorem r_neI {i j : Int} (h : Q (.bl (!decide (i = j))) H) : rNe (.int i) (.int j) H Q := ⟨rfl, by
  have e : decide (V.int i = V.int j) = decide (i = j) := decide_eq_decide.mpr ⟨fun q => by injection q, fun q => by rw [q]⟩
  rw [e]; exact h⟩
theorem r_eqB {i j : Bool} (h : Q (.bl (decide (i = j))) H) : rEq (.bl i) (.bl j) H Q := ⟨rfl, by
  have e : decide (V.bl i = V.bl j) = decide (i = j) := decide_eq_decide.mpr ⟨fun q => by injection q, fun q => by rw [q]⟩
  rw [e]; exact h⟩
theorem r_neB {i j : Bool} (h : Q (.bl (!decide (i = j))) H) : rNe (.bl i) (.bl j) H Q := ⟨rfl, by
  have e : decide (V.bl i = V.bl j) = decide (i = j) := decide_eq_decide.mpr ⟨fun q => by injection q, fun q => by rw [q]⟩
  rw [e]; exact h⟩
theorem r_eqS {i j : Str} (h : Q (.bl (decide (i = j))) H) : rEq (.str i) (.str j) H Q := ⟨rfl, by
  have e : decide (V.str i = V.str j) = decide (i = j) := decide_eq_decide.mpr ⟨fun q => by injection q, fun q => by rw [q]⟩
  rw [e]; exact h⟩
theorem r_neS {i j : Str} (h : Q (.bl (!decide (i = j))) H) : rNe (.str i) (.str j) H Q := ⟨rfl, by
  have e : decide (V.str i = V.str j) = decide (i = j) := decide_eq_decide.mpr ⟨fun q => by injection q, fun q => by rw [q]⟩
  rw [e]; exact h⟩
theorem r_ixL {p : Addr} {xs : List V} {i : Int} (h0 : SqL K H p xs) (h1 : atI xs i = some v) (h : Q v H) : rIxL K (.ref p) (.int i) H Q := ⟨p, xs, i, v, rfl, rfl, h0, h1, h⟩
theorem r_ixT {p : Addr} {xs : List V} {i : Int} (h0 : SqT K H p xs) (h1 : atI xs i = some v) (h : Q v H) : rIxT K (.ref p) (.int i) H Q := ⟨p, xs, i, v, rfl, rfl, h0, h1, h⟩
theorem r_setL {p : Addr} {xs : List V} {k : Int} {j : Nat} {QH : Hp → Prop} (h0 : H p = some (.lst xs)) (h1 : ixN xs.length k = some j) (h : QH (upd H p (.lst (xs.set j v)))) : rSetL (.ref p) (.int k) v H QH := ⟨p, xs, k, j, rfl, rfl, h0, h1, h⟩
theorem u_gsub {to ti : TE} {ts : TSet} (h : to σ H fun o H1 => ti σ H1 fun i H2 => ts o i v H2 fun H3 => QS σ H3) : gSub to ti ts v σ H QS := h
theorem w_T {A B : Prop} (h : A) : if true = true then A else B := by rw [if_pos rfl]; exact h
theorem w_F {A B : Prop} (h : B) : if false = true then A else B := by rw [if_neg Bool.false_ne_true]; exact h
theorem w_nT {A B : Prop} (h : B) : if (!true) = true then A else B := by rw [Bool.not_true, if_neg Bool.false_ne_true]; exact h
theorem w_nF {A B : Prop} (h : A) : if (!false) = true then A else B := by rw [Bool.not_false, if_pos rfl]; exact h
theorem w_dec {p A B : Prop} [Decidable p] (h1 : p → A) (h2 : ¬ p → B) : if decide p = true then A else B := by
  by_cases h : p
  · rw [if_pos (decide_eq_true h)]; exact h1 h
  · rw [if_neg (by rw [decide_eq_false h]; exact Bool.false_ne_true)]; exact h2 h
theorem w_ndec {p A B : Prop} [Decidable p] (h1 : ¬ p → A) (h2 : p → B) : if (!decide p) = true then A else B := by
  by_cases h : p
  · rw [decide_eq_true h]; exact w_F (h2 h)
  · rw [decide_eq_false h]; exact w_T (h1 h)
theorem w_bool {b : Bool} {A B : Prop} (h1 : b = true → A) (h2 : b = false → B) : if b = true then A else B := by
  cases b with
  | true => exact w_T (h1 rfl)
  | false => exact w_F (h2 rfl)
end
def PenAt (H : Hp) (p : Addr) (n : Nat) : Prop := ∃ (L : Addr) (a r : Int) (ns : List Int), H p = some (.lst [.ref L, .int a, .int r]) ∧ H L = some (.lst (ns.map V.int)) ∧ 0 ≤ a ∧ a ≤ n ∧ ns.length ≤ 63
theorem PenAt.same {H H' : Hp} {p : Addr} {n : Nat} (s : Same H H') (h : PenAt H p n) : PenAt H' p n := by
  obtain ⟨L, a, r, ns, h1, h2, h3⟩ := h
  exact ⟨L, a, r, ns, s _ _ h1, s _ _ h2, h3⟩
theorem PenAt.mono {H : Hp} {p : Addr} {n m : Nat} (h : PenAt H p n) (e : n ≤ m) : PenAt H p m := by
  obtain ⟨L, a, r, ns, h1, h2, h3, h4, h5⟩ := h
  exact ⟨L, a, r, ns, h1, h2, h3, by omega, h5⟩
/-- _law_draw(pen, many): a number from 0 on below many -/
def spDraw : Sp := fun vs H Q _ => ∃ (p : Addr) (n : Nat) (many : Int), vs = [.ref p, .int many] ∧ PenAt H p n ∧ 1 ≤ many ∧ many ≤ 1000000000000 ∧ n ≤ 1000000 ∧
  ∀ (k : Int) (H' : Hp), 0 ≤ k → k < many → SP H H' → PenAt H' p (n + 1) → Q (.int k) H'
theorem use_draw {H : Hp} {p : Addr} {many : Int} {Q : VK} {E : XK} (n : Nat) (h1 : PenAt H p n) (h2 : 1 ≤ many) (h3 : many ≤ 1000000000000) (h4 : n ≤ 1000000)
    (k : ∀ (k : Int) (H' : Hp), 0 ≤ k → k < many → SP H H' → PenAt H' p (n + 1) → Q (.int k) H') : spDraw [.ref p, .int many] H Q E := ⟨p, n, many, rfl, h1, h2, h3, h4, k⟩
structure Rm (k : Nat) (A : Around) : Prop where
  room : Room k A
  gd : A.guards = some []
theorem Rm.mono {j k : Nat} {A : Around} (r : Rm k A) (h : j ≤ k) : Rm j A := ⟨r.room.mono h, r.gd⟩
theorem Rm.deeper {k : Nat} {A : Around} (r : Rm (k + 1) A) (env : Env) : Rm k (A.deeper env) := ⟨r.room.deeper env, r.gd⟩
theorem Rm.in1 {k : Nat} {A : Around} (r : Rm (k + 1) A) : Rm k A.in1 := ⟨r.room.in1, r.gd⟩
theorem Rm.make {k : Nat} {A : Around} (r : Rm (k + 1) A) (C : Addr) (us : List Value) (kw : List (Str × Value)) : Rm k (A.under (.builtin "type.__call__" ⟨.ref C :: us, kw⟩)) :=
  ⟨r.room.make C us kw, by
    have e := r.gd
    simpa [Around.under, Code.guards, Code.isGuard, guardIds, pushGuards] using e⟩
theorem Rm.u {k : Nat} {A : Around} (r : Rm k A) : A.units + 64 < cLine := r.room.units
/-- a def keeps its promise, where nothing is being shown -/
structure FnG (P : Program) (w : World) (K : PySem.W.Frag) (mg : Str → Option Value) (base : Heap) (k : Nat) (f : Addr) (fd : FuncData) (ps : List Str) (sp : Sp) : Prop where
  len : ∀ vs H Q E, sp vs H Q E → vs.length = ps.length
  run : ∀ (A : Around) (out : List Env) (s : Shared) (H : Hp) (args : Args) (us : List Value) (vs : List V) (Q : VK) (E : XK), Rm k A → Env0 P w K mg base A out s H →
    BindsTo s fd args (ps.zip us) → Vals vs us → sp vs H Q E → codeAny (model P w) A (.call (.ref f) args) (CR (L2.CX P w) out P w H s Q E) s
section
variable {P : Program} {w : World} {K : PySem.W.Frag} {mg : Str → Option Value} {base : Heap} {k : Nat} {f : Addr} {fd : FuncData} {ps N : List Str} {sp : Sp}
theorem FnG.imp {sp' : Sp} (F : FnG P w K mg base k f fd ps sp) (h : ∀ vs H Q E, sp' vs H Q E → sp vs H Q E) : FnG P w K mg base k f fd ps sp' :=
  ⟨fun vs H Q E q => F.len _ _ _ _ (h vs H Q E q), fun A out s H args us vs Q E hr e hb hv q => F.run A out s H args us vs Q E hr e hb hv (h vs H Q E q)⟩
/-- from the body -/
theorem fnG {name qual : Str} {pr : Arguments} {body : List Stmt} {sc : Scope} {dV kV doc pm cdv ct oc : Value} {an od : Option Addr} {osl : Array (Option Value)}
    (lk : K.lookup f = some ⟨oc, od, .func (PySem.W.fnOf name qual pr body sc dV kV doc pm an cdv ct), osl⟩) (hcd : PySem.W.codeIn K cdv qual = true) (S : FnScope N ps sc) (len : ∀ vs H Q E, sp vs H Q E → vs.length = ps.length)
    (hb : ∀ (A : Around) (out : List Env) (s : Shared) (H : Hp) (vs : List V) (Q : VK) (E : XK), Rm k (A.deeper (envOfC qual sc s.heap.objs.size f cdv)) → sp vs H Q E →
      ∃ t, PSs (cxOf (L2.CX P w) P w K mg base N qual sc f cdv A out s H E) body t ∧ t { nx := fun _ H' => Q .non H', rt := Q } (start N vs) H) :
    FnG P w K mg base (k + 1) f (PySem.W.fnOf name qual pr body sc dV kV doc pm an cdv ct) ps sp := by
  constructor
  · exact len
  intro A out s H args us vs Q E rm ev bd rel want
  have inK : K.In s.heap := ev.mod.kin.keeps fun b o q => (ev.bs b o q).1
  have nolim := ev.mod.nolimit.keeps fun b o q => (ev.bs b o q).1
  have kinds : ∀ z ∈ ps.zip us, sc.names.lookup z.1 = some .local ∨ (sc.names.lookup z.1 = some .cell ∧ ((cellsFrom (s.heap.objs.size + 1) sc.names []).lookup z.1).isSome = true) := by
    rintro ⟨n, v⟩ hz
    exact (S.par n (List.of_mem_zip hz).1).imp id fun q => ⟨q, PySem.W.cellsFrom_some _ _ _ (.inl q)⟩
  refine codeAny_call_function rm.room.depth (inK _ _ lk) rfl S.co S.gen rfl (PySem.W.codeRec_of inK hcd) (bd _ _ _ _ ?_)
  refine wpAny_newFunctionEnv_cells S.kind kinds ?_
  rintro env rfl s1 ic
  refine ⟨nolim.keeps ic.toInCall.keep, codeAny_func ?_⟩
  obtain ⟨t, der, rd⟩ := hb A out s H vs Q E (rm.deeper _) want
  have J := inv_start (CX := L2.CX P w) (P := P) (w := w) (K := K) (mg := mg) (base := base) (qual := qual) (f := f) (cd := cdv) (E := E) S rm.room.hd ev (len _ _ _ _ want) rel ic
  refine wpAny_mono (der.run [] s1 (start N vs) H _ J rd) ?_ fun _ _ z => z
  intro fl s' z
  cases fl with
  | ret u =>
    obtain ⟨v, _, H', I', r', q'⟩ := z
    exact ⟨v, H', I'.os, I'.bare, I'.base, I'.hok, r', q'⟩
  | next =>
    obtain ⟨_, H', I', q'⟩ := z
    exact ⟨.non, H', I'.os, I'.bare, I'.base, I'.hok, rfl, q'⟩
  | brk => exact z.elim fun _ z => z.elim fun _ z => z.2.elim
  | cont => exact z.elim fun _ z => z.elim fun _ z => z.2.elim
/-- .. of a def that lets nothing out -/
theorem fnG0 {x qual : Str} {st : Stmt} (F : C8.Fun K x qual st f fd) (S : FnScope N ps (C8.fnScope st)) (len : ∀ vs H Q E, sp vs H Q E → vs.length = ps.length)
    (hb : ∀ (cdv : Value) (A : Around) (out : List Env) (s : Shared) (H : Hp) (vs : List V) (Q : VK) (E : XK), Rm k (A.deeper (envOfC qual (C8.fnScope st) s.heap.objs.size f cdv)) → sp vs H Q E →
      ∃ t, PSs (cxOf (L2.CX P w) P w K mg base N qual (C8.fnScope st) f cdv A out s H E).nox (C8.fnBody st) t ∧ t { nx := fun _ H' => Q .non H', rt := Q } (start N vs) H) : FnG P w K mg base (k + 1) f fd ps sp := by
  obtain ⟨oc, od, dV, kV, doc, pm, an, cdv, ct, osl, rfl, lk, hcd⟩ := F.ex
  refine fnG lk hcd S len fun A out s H vs Q E rm want => ?_
  obtain ⟨t, der, rd⟩ := hb cdv A out s H vs Q E rm want
  exact ⟨t, der.nox, rd⟩
/-- .. of a def that may raise -/
theorem fnGX {x qual : Str} {st : Stmt} (F : C8.Fun K x qual st f fd) (S : FnScope N ps (C8.fnScope st)) (len : ∀ vs H Q E, sp vs H Q E → vs.length = ps.length)
    (hb : ∀ (cdv : Value) (A : Around) (out : List Env) (s : Shared) (H : Hp) (vs : List V) (Q : VK) (E : XK), Rm k (A.deeper (envOfC qual (C8.fnScope st) s.heap.objs.size f cdv)) → sp vs H Q E →
      ∃ t, PSs (cxOf (L2.CX P w) P w K mg base N qual (C8.fnScope st) f cdv A out s H E) (C8.fnBody st) t ∧ t { nx := fun _ H' => Q .non H', rt := Q } (start N vs) H) : FnG P w K mg base (k + 1) f fd ps sp := by
  obtain ⟨oc, od, dV, kV, doc, pm, an, cdv, ct, osl, rfl, lk, hcd⟩ := F.ex
  exact fnG lk hcd S len fun A out s H vs Q E rm want => hb cdv A out s H vs Q E rm want
end
section
variable {X : Cx} {k j : Nat} {f C : Addr} {fd : FuncData} {ps : List Str} {sp : Sp} {dvs : List V} {ds : List Value} {E : XK} {x m : Str} {p pos apos : Pos} {e o : Expr} {es : List Expr} {ta : TE} {t : TA}
/-- what a callee lets out is taken, at these pins and slots -/
def PassAt (X : Cx) (pins : List (Addr × Obj)) (σ : L2.St) (E : XK) : Prop := ∀ (H : Hp) (s : Shared) (e : Value) (s' : Shared), Inv X pins σ H s → L2.CX X.prog X.w X.stack H s E e s' → X.xe e s'
theorem goG {pins : List (Addr × Obj)} {σ : L2.St} {H : Hp} {s : Shared} {Q : VK} {us : List Value} {vs : List V} (F : FnG X.prog X.w X.K X.mg X.base k f fd ps sp) {A : Around} (hr : Rm k A) (fr : A.frames = X.A.frames) (hb : Binds X.K fd ps ds) (hd : Vals dvs ds) (hx : PassAt X pins σ E)
    (I : Inv X pins σ H s) (r : Vals vs us) (h : sp (vs ++ dvs) H Q E) : wpAny (model X.prog X.w) A (call (.ref f) us) (EP X pins σ Q) X.xe s := by
  have r2 : Vals (vs ++ dvs) (us ++ ds) := r.append hd
  have ev : Env0 X.prog X.w X.K X.mg X.base A X.stack s H := { I.env0 with frames := fr.trans I.env0.frames }
  have hl : (us ++ ds).length = ps.length := r2.length.symm.trans (F.len _ _ _ _ h)
  refine wpAny_call (codeAny_mono (F.run A X.stack s H ⟨us, []⟩ (us ++ ds) (vs ++ dvs) Q E hr ev (hb s us I.kIn hl) r2 h) ?_)
  intro res s' z
  match res, z with
  | .error e, z => exact hx H s e s' I z
  | .ok (.ret u), z => exact I.after z
  | .ok .next, z => exact False.elim z
  | .ok .brk, z => exact False.elim z
  | .ok .cont, z => exact False.elim z
theorem runG {pins : List (Addr × Obj)} {σ : L2.St} {H : Hp} {s : Shared} {Q : VK} {us : List Value} {vs : List V} (F : FnG X.prog X.w X.K X.mg X.base k f fd ps sp) (hr : Rm k X.A) (hb : Binds X.K fd ps ds) (hd : Vals dvs ds) (hx : PassAt X pins σ E)
    (I : Inv X pins σ H s) (r : Vals vs us) (h : sp (vs ++ dvs) H Q E) : wpAny (model X.prog X.w) X.A (call (.ref f) us) (EP X pins σ Q) X.xe s := goG F hr rfl hb hd hx I r h
theorem makeG {pins : List (Addr × Obj)} {σ : L2.St} {H : Hp} {s : Shared} {Q : VK} {us : List Value} {vs : List V} (M : Mk X.K C f) (F : FnG X.prog X.w X.K X.mg X.base k f fd ps sp) (hr : Rm (k + 1) X.A) (hb : Binds X.K fd ps ds) (hd : Vals dvs ds)
    (hx : PassAt X pins σ E) (I : Inv X pins σ H s) (r : Vals vs us)
    (h : ∀ x dx, H x = none → H dx = none → dx ≠ x → sp (.ref x :: (vs ++ dvs)) (upd (upd H dx (.own x)) x (.ins C dx [])) (fun v H2 => v = .non ∧ Q (.ref x) H2) E) :
    wpAny (model X.prog X.w) X.A (call (.ref C) us) (EP X pins σ Q) X.xe s := by
  have n := s.heap.objs.size
  have want := h (s.heap.objs.size + 1) s.heap.objs.size (I.hok.fresh (Nat.le_succ _)) (I.hok.fresh (Nat.le_refl _)) (Nat.ne_of_lt (Nat.lt_succ_self _))
  have I2 := Inv.made (C := C) I
  have rel : Vals (V.ref (s.heap.objs.size + 1) :: (vs ++ dvs)) (Value.ref (s.heap.objs.size + 1) :: (us ++ ds)) := Paired.cons rfl (r.append hd)
  have hl : (Value.ref (s.heap.objs.size + 1) :: us ++ ds).length = ps.length := by
    have e := rel.length.symm
    rw [F.len _ _ _ _ want] at e
    exact e
  refine wpAny_call (make_map (f := f) I.kIn M.makes M.init (beq_iff_eq.mp M.fn) (codeAny_mono (F.run _ X.stack _ _ ⟨Value.ref (s.heap.objs.size + 1) :: us, []⟩ (Value.ref (s.heap.objs.size + 1) :: (us ++ ds)) _ _ E (hr.make C us [])
    (I2.env0.make C us []) (hb _ (Value.ref (s.heap.objs.size + 1) :: us) I2.kIn hl) rel want) ?_))
  intro res s' z
  match res, z with
  | .error e, z => exact hx _ _ e s' I2 z
  | .ok (.ret u), z =>
    obtain ⟨v, H', I3, rv, ev, q3⟩ := I2.after z
    subst ev
    exact ⟨rv, V.ref (s.heap.objs.size + 1), H', I3, rfl, q3⟩
  | .ok .next, z => exact False.elim z
  | .ok .brk, z => exact False.elim z
  | .ok .cont, z => exact False.elim z
end
/-- a def that may be called by its name -/
structure Cal (P : Program) (w : World) (K : PySem.W.Frag) (mg : Str → Option Value) (base : Heap) (k : Nat) (x : Str) (sp : Sp) (dvs : List V) : Prop where
  ex : ∃ (f : Addr) (fd : FuncData) (ps : List Str) (ds : List Value), FnG P w K mg base k f fd ps sp ∧ mg x = some (.ref f) ∧ PySem.W.keepIn K (.ref f) = true ∧ Binds K fd ps ds ∧ Vals dvs ds
/-- a method of the class at C -/
structure Met (P : Program) (w : World) (K : PySem.W.Frag) (mg : Str → Option Value) (base : Heap) (k : Nat) (C : Addr) (m : Str) (sp : Sp) (dvs : List V) : Prop where
  ex : ∃ (f : Addr) (fd : FuncData) (ps : List Str) (ds : List Value), Cls K C ∧ Meth K C m f ∧ FnG P w K mg base k f fd ps sp ∧ Binds K fd ps ds ∧ Vals dvs ds
/-- a class that may be made by its name; sp: its __init__ -/
structure Mak (P : Program) (w : World) (K : PySem.W.Frag) (mg : Str → Option Value) (base : Heap) (k : Nat) (x : Str) (C : Addr) (sp : Sp) (dvs : List V) : Prop where
  ex : ∃ (f : Addr) (fd : FuncData) (ps : List Str) (ds : List Value), Mk K C f ∧ FnG P w K mg base k f fd ps sp ∧ mg x = some (.ref C) ∧ Binds K fd ps ds ∧ Vals dvs ds
/-- what the top has written of a def; of a method -/
structure DefAt (K : PySem.W.Frag) (mg : Str → Option Value) (x : Str) (st : Stmt) (ps : List Str) (dvs : List V) : Prop where
  ex : ∃ (f : Addr) (fd : FuncData) (ds : List Value), C8.Fun K x x st f fd ∧ mg x = some (.ref f) ∧ PySem.W.keepIn K (.ref f) = true ∧ Binds K fd ps ds ∧ Vals dvs ds
structure MetAt (K : PySem.W.Frag) (C : Addr) (m qual : Str) (st : Stmt) (ps : List Str) (dvs : List V) : Prop where
  ex : ∃ (f : Addr) (fd : FuncData) (ds : List Value), Cls K C ∧ Meth K C m f ∧ C8.Fun K m qual st f fd ∧ Binds K fd ps ds ∧ Vals dvs ds
structure MakAt (K : PySem.W.Frag) (mg : Str → Option Value) (x : Str) (C : Addr) (qual : Str) (st : Stmt) (ps : List Str) (dvs : List V) : Prop where
  ex : ∃ (f : Addr) (fd : FuncData) (ds : List Value), Mk K C f ∧ C8.Fun K "__init__" qual st f fd ∧ mg x = some (.ref C) ∧ Binds K fd ps ds ∧ Vals dvs ds
section
variable {P : Program} {w : World} {K : PySem.W.Frag} {mg : Str → Option Value} {base : Heap} {k : Nat} {C : Addr} {x m qual : Str} {st : Stmt} {ps N : List Str} {dvs : List V} {sp : Sp}
theorem cal0 (D : DefAt K mg x st ps dvs) (S : FnScope N ps (C8.fnScope st)) (len : ∀ vs H Q E, sp vs H Q E → vs.length = ps.length)
    (hb : ∀ (f : Addr) (cdv : Value) (A : Around) (out : List Env) (s : Shared) (H : Hp) (vs : List V) (Q : VK) (E : XK), Rm k (A.deeper (envOfC x (C8.fnScope st) s.heap.objs.size f cdv)) → sp vs H Q E →
      ∃ t, PSs (cxOf (L2.CX P w) P w K mg base N x (C8.fnScope st) f cdv A out s H E).nox (C8.fnBody st) t ∧ t { nx := fun _ H' => Q .non H', rt := Q } (start N vs) H) : Cal P w K mg base (k + 1) x sp dvs := by
  obtain ⟨f, fd, ds, F, g, kp, b, v⟩ := D.ex
  exact ⟨f, fd, ps, ds, fnG0 F S len (hb f), g, kp, b, v⟩
end
section
variable {X : Cx} {k j : Nat} {C : Addr} {m : Str} {sp : Sp}
theorem cmpBack_of {pins : List (Addr × Obj)} {σ : L2.St} {Q : VK} {u : Value} {s : Shared} (h : EP X pins σ Q u s) : PySem.W.CmpBack (EP X pins σ Q) u s := by
  obtain ⟨v, H', I, r, q⟩ := id h
  cases v <;> first | (cases r; exact h) | (obtain ⟨_, rfl⟩ := r; exact h)
/-- two instances of the class at C -/
def rOwn2 (C : Addr) (sp : Sp) : R2 := fun x y H Q => ∃ a b dx fs dy gs, x = .ref a ∧ y = .ref b ∧ H a = some (.ins C dx fs) ∧ H b = some (.ins C dy gs) ∧ sp [.ref a, .ref b] H Q E0
/-- what an int (and any such built-in) has of an operator -/
structure OpT (K : PySem.W.Frag) (C : Addr) (T : String) (op : Operator) : Prop where
  r : ∃ rc : Option Value, PySem.W.findIn K (.ref C) (dunderR op.info.2) = some rc ∧ (rc = none ∨ ∃ g : Addr, rc = some (.ref g))
  f : ∃ fo : Option Value, PySem.W.findIn K (.type T) (PySem.dunder op.info.2) = some fo
  g : ∃ ro : Option Value, PySem.W.findIn K (.type T) (dunderR op.info.2) = some ro
  s : PySem.W.subIn K (.type T) (.ref C) = some false
/-- an instance and an int -/
def rOwnI (C : Addr) (sp : Sp) : R2 := fun x y H Q => ∃ a dx fs i, x = .ref a ∧ y = .int i ∧ H a = some (.ins C dx fs) ∧ sp [.ref a, .int i] H Q E0
/-- - of an instance -/
def rOwn1 (C : Addr) (sp : Sp) : V → Hp → VK → Prop := fun x H Q => ∃ a dx fs, x = .ref a ∧ H a = some (.ins C dx fs) ∧ sp [.ref a] H Q E0
end
section
variable {X : Cx} {j : Nat}
def rRepr (K : PySem.W.Frag) : List V → Hp → VK → Prop := fun xs H Q => ∃ (x : V) (d : PyData), xs = [x] ∧ Dp K H x d ∧ d.showable = true ∧ d.depth ≤ 60 ∧ d.shown.length ≤ sizeLine ∧ Q (.str d.shown) H
mutual
theorem noDict {K : PySem.W.Frag} {H : Hp} : ∀ {d : PyData} {x : V}, Dp K H x d → d.hasDict = false
  | _, _, .non => rfl
  | _, _, .bl _ => rfl
  | _, _, .int _ => rfl
  | _, _, .str _ => rfl
  | _, _, .lst _ h => by simpa [PyData.hasDict] using noDicts h
  | _, _, .tup _ h => by simpa [PyData.hasDict] using noDicts h
theorem noDicts {K : PySem.W.Frag} {H : Hp} : ∀ {ds : List PyData} {xs : List V}, DpAll K H xs ds → PyData.hasDictAll ds = false
  | _, _, .nil => rfl
  | _, _, .cons h r => by simp [PyData.hasDictAll, noDict h, noDicts r]
end
end
section
variable {X : Cx}
def rInt : List V → Hp → VK → Prop := fun xs H Q => (∃ i, xs = [.int i] ∧ Q (.int i) H) ∨ ∃ k, xs = [.bl k] ∧ Q (.int (if k then 1 else 0)) H
theorem c_int : CallR X (.type "int") rInt := call_int1
def rAbs : List V → Hp → VK → Prop := fun xs H Q => ∃ i, xs = [.int i] ∧ Q (.int (if i < 0 then -i else i)) H
theorem c_abs : CallR X (.builtin "abs") rAbs := call_abs
def rLenQ (K : PySem.W.Frag) : List V → Hp → VK → Prop := fun xs H Q => ∃ p ys, xs = [.ref p] ∧ (SqL K H p ys ∨ SqT K H p ys) ∧ Q (.int ys.length) H
theorem c_len : CallR X (.builtin "len") (rLenQ X.K) := call_len_seq
def rLenT : List V → Hp → VK → Prop := fun xs H Q => ∃ z, xs = [.str z] ∧ z.length ≤ sizeLine ∧ Q (.int z.length) H
theorem c_lenS : CallR X (.builtin "len") rLenT := call_len_str
def rListOf (K : PySem.W.Frag) : List V → Hp → VK → Prop := fun xs H Q => ∃ p ys, xs = [.ref p] ∧ (SqL K H p ys ∨ SqT K H p ys) ∧ ∀ l, H l = none → Q (.ref l) (upd H l (.lst ys))
theorem c_list : CallR X (.type "list") (rListOf X.K) := call_list_of
variable {K : PySem.W.Frag} {σ : L2.St} {H : Hp} {Q : VK}
theorem r_int {i : Int} (h : Q (.int i) H) : rInt [.int i] H Q := .inl ⟨i, rfl, h⟩
theorem r_intB {b : Bool} (h : Q (.int (if b then 1 else 0)) H) : rInt [.bl b] H Q := .inr ⟨b, rfl, h⟩
theorem r_abs {i : Int} (h : Q (.int (if i < 0 then -i else i)) H) : rAbs [.int i] H Q := ⟨i, rfl, h⟩
theorem r_lenL {p : Addr} {ys : List V} (h0 : H p = some (.lst ys)) (h : Q (.int ys.length) H) : rLenQ K [.ref p] H Q := ⟨p, ys, rfl, .inl (SqL.of h0), h⟩
theorem r_listL {p : Addr} {ys : List V} (h0 : SqL K H p ys) (h : ∀ l H', Same H H' → H' l = some (.lst ys) → H l = none → Q (.ref l) H') : rListOf K [.ref p] H Q := ⟨p, ys, rfl, .inl h0, al h⟩
theorem r_ixL' {p : Addr} {xs : List V} {i : Int} {v : V} (h0 : H p = some (.lst xs)) (h1 : atI xs i = some v) (h : Q v H) : rIxL K (.ref p) (.int i) H Q := r_ixL (SqL.of h0) h1 h
theorem r_ixT' {p : Addr} {xs : List V} {i : Int} {v : V} (h0 : H p = some (.tup xs)) (h1 : atI xs i = some v) (h : Q v H) : rIxT K (.ref p) (.int i) H Q := r_ixT (SqT.of h0) h1 h
def kLst (Q : VK) : List V → Hp → Prop := fun xs H1 => xs.length ≤ sizeLine ∧ ∀ p, H1 p = none → Q (.ref p) (upd H1 p (.lst xs))
def kTup (Q : VK) : List V → Hp → Prop := fun xs H1 => xs.length ≤ sizeLine ∧ ∀ p, H1 p = none → Q (.ref p) (upd H1 p (.tup xs))
theorem u_lstK {tA : TA} (h : tA σ H (kLst Q)) : tLst tA σ H Q := h
theorem u_tupK {tA : TA} (h : tA σ H (kTup Q)) : tTup tA σ H Q := h
theorem k_lst {xs : List V} (h0 : xs.length ≤ 1000) (h : ∀ p H', Same H H' → H' p = some (.lst xs) → H p = none → Q (.ref p) H') : kLst Q xs H := ⟨Nat.le_trans h0 (by decide), al h⟩
theorem k_tup {xs : List V} (h0 : xs.length ≤ 1000) (h : ∀ p H', Same H H' → H' p = some (.tup xs) → H p = none → Q (.ref p) H') : kTup Q xs H := ⟨Nat.le_trans h0 (by decide), al h⟩
def kPar (D : Ends) (σ : L2.St) (i j : Nat) : List V → Hp → Prop := fun vs H1 => ∃ v w, vs = [v, w] ∧ D.nx ((σ.set i (some v)).set j (some w)) H1
theorem u_parK {D : Ends} {tA : TA} {i j : Nat} (h : tA σ H (kPar D σ i j)) : tPar i j tA D σ H := h
theorem k_par {D : Ends} {i j : Nat} {v w : V} (h : D.nx ((σ.set i (some v)).set j (some w)) H) : kPar D σ i j [v, w] H := ⟨v, w, rfl, h⟩
end
/-- K of a body's context -/
theorem cxK (CX : CXT) (P : Program) (w : World) (K : PySem.W.Frag) (mg : Str → Option Value) (base : Heap) (N : List Str) (q : Str) (sc : Scope) (f : Addr) (cd : Value) (A : Around) (out : List Env) (s : Shared) (H : Hp) (E : XK) :
    (cxOf CX P w K mg base N q sc f cd A out s H E).nox.K = K := rfl
section
variable {H : Hp} {Q : VK}
theorem r_mod {i j : Int} (h0 : 0 < j) (h : 0 ≤ i % j → i % j < j → Q (.int (i % j)) H) : rI (fun _ j => 0 < j) (fun i j => .int (i % j)) (.int i) (.int j) H Q :=
  ⟨i, j, rfl, rfl, h0, h (Int.emod_nonneg i (by omega)) (Int.emod_lt_of_pos i h0)⟩
theorem r_mul {i j : Int} (h0 : (-18446744073709551616 < i ∧ i < 18446744073709551616) ∨ (-18446744073709551616 < j ∧ j < 18446744073709551616)) (h : Q (.int (i * j)) H) : rI CMul (fun i j => .int (i * j)) (.int i) (.int j) H Q :=
  ⟨i, j, rfl, rfl, h0.imp (fun z => ⟨by omega, by omega⟩) (fun z => ⟨by omega, by omega⟩), h⟩
theorem r_div {i j : Int} (h0 : 0 < j) (h1 : j < 18446744073709551616) (h : Q (.int (i / j)) H) : rI CDivW (fun i j => .int (i / j)) (.int i) (.int j) H Q :=
  ⟨i, j, rfl, rfl, wide_div (b := 64) h0 (by omega) (by decide) (by decide), h⟩
theorem r_pow {i j z : Int} (h0 : 0 ≤ j) (h1 : j ≤ 1000000) (h2 : -18446744073709551616 < i ∧ i < 18446744073709551616) (hz : i ^ j.toNat = z) (h : Q (.int z) H) : rI CPow (fun i j => .int (i ^ j.toNat)) (.int i) (.int j) H Q :=
  ⟨i, j, rfl, rfl, ⟨h0, h1, by omega⟩, by dsimp only; rw [hz]; exact h⟩
theorem SP.pen {p L : Addr} {a r a' r' : Int} (hp : H p = some (.lst [.ref L, .int a, .int r])) : SP H (upd H p (.lst [.ref L, .int a', .int r'])) := by
  refine ⟨fun b u e n => ?_, fun b M x y e => ?_⟩
  · have : b ≠ p := fun q => by
      rw [q, hp] at e
      cases e
      cases n
    rw [upd_ne this]
    exact e
  · by_cases q : b = p
    · rw [q, hp] at e
      cases e
      exact ⟨a', r', by rw [q]; exact upd_same⟩
    · exact ⟨x, y, by rw [upd_ne q]; exact e⟩
theorem penL {p L : Addr} {a r a' r' : Int} {ns : List Int} (hp : H p = some (.lst [.ref L, .int a, .int r])) (hL : H L = some (.lst (ns.map V.int))) : upd H p (.lst [.ref L, .int a', .int r']) L = some (.lst (ns.map V.int)) :=
  (SP.pen hp).tr hL (isPen_ints ns)
end
theorem canLay_ints : ∀ ns : List Int, PyData.canLayAll0 (ns.map PyData.int) = true
  | [] => rfl
  | a :: r => by simp [PyData.canLayAll0, PyData.canLay0, canLay_ints r]
theorem depth_ints : ∀ ns : List Int, PyData.depthAll (ns.map PyData.int) = 0
  | [] => rfl
  | a :: r => by simp [PyData.depthAll, PyData.depth, depth_ints r]
theorem shaped_ints (ns : List Int) : SeqAt.shaped (.list (ns.map PyData.int)) = true := by
  simp [SeqAt.shaped, PyData.canLay0, PyData.depth, canLay_ints, depth_ints]
theorem dp_ints {K : PySem.W.Frag} {H : Hp} : ∀ ns : List Int, DpAll K H (ns.map V.int) (ns.map PyData.int)
  | [] => .nil
  | a :: r => .cons (.int a) (dp_ints r)
theorem r_ne0 {K : PySem.W.Frag} {H : Hp} {Q : VK} {a b : Addr} {ns : List Int} (h1 : H a = some (.lst (ns.map V.int))) (h2 : H b = some (.lst [])) (h : Q (.bl (!decide (ns = []))) H) : rNeD K (.ref a) (.ref b) H Q := by
  refine ⟨.list (ns.map .int), .list [], .lst (SqL.of h1) (dp_ints ns), .lst (SqL.of h2) .nil, shaped_ints ns, rfl, ?_⟩
  cases ns with
  | nil => simpa [PyData.eqv, PyData.eqvAll] using h
  | cons a r => simpa [PyData.eqv, PyData.eqvAll] using h
theorem mulB {x y X Y : Int} (h0 : 0 ≤ x) (h1 : x ≤ X) (h2 : 0 ≤ y) (h3 : y ≤ Y) : 0 ≤ x * y ∧ x * y ≤ X * Y :=
  ⟨Int.mul_nonneg h0 h2, Int.mul_le_mul h1 h3 h2 (Int.le_trans h0 h1)⟩
theorem drawB {m b c a d : Int} (hm0 : 0 ≤ m) (hm : m < 4294967296) (hb0 : 0 ≤ b) (hb : b ≤ 100000000) (ha0 : 0 ≤ a) (ha : a ≤ 1000001) (hc0 : 0 ≤ c) (hc : c ≤ 1000000) (hd0 : 0 ≤ d) (hd : d ≤ 1000000) :
    -18446744073709551616 < m * b + c * a * a + d ∧ m * b + c * a * a + d < 18446744073709551616 := by
  obtain ⟨h1, h2⟩ := mulB hm0 (Int.le_of_lt hm) hb0 hb
  obtain ⟨h3, h4⟩ := mulB hc0 hc ha0 ha
  obtain ⟨h5, h6⟩ := mulB h3 h4 ha0 ha
  omega
theorem atI_ints {ns : List Int} {a : Int} (h0 : 0 ≤ a) (h1 : a < (ns.length : Int)) : ∃ c, atI (ns.map V.int) a = some (.int c) := by
  have hj : a.toNat < ns.length := by omega
  refine ⟨ns[a.toNat], ?_⟩
  have e : a = ((a.toNat : Nat) : Int) := by omega
  have z := atI_nat (xs := ns.map V.int) (j := a.toNat) (v := .int ns[a.toNat]) (by rw [List.getElem?_map, List.getElem?_eq_getElem hj]; rfl)
  rw [← e] at z
  exact z
section
variable {X : Cx} {k j : Nat} {C p g : Addr} {m x : Str} {sp : Sp} {mc : Value}
/-- f(e, ..), f an instance of the class at C -/
def tOwnC (C : Addr) (sp : Sp) (tf : TE) (t : TA) : TE := fun σ H Q => tf σ H fun y H1 => ∃ a, y = .ref a ∧ t σ H1 fun vs H2 => (∃ dx fs, H2 a = some (.ins C dx fs)) ∧ sp (.ref a :: vs) H2 Q E0
variable {e fe o : Expr} {es : List Expr} {tf ta : TE} {t : TA} {pp pos apos : Pos}
def tSMeth (C : Addr) (sp : Sp) (dvs : List V) (E : XK) (ta : TE) (t : TA) : TE := fun σ H Q => ta σ H fun x H1 => x = .ref C ∧ t σ H1 fun vs H2 => sp (vs ++ dvs) H2 Q E
end
section
open PySem.W
section
variable {X : Cx} {k j : Nat} {C : Addr} {sp : Sp}
/-- an int times an instance -/
def rOwnR (C : Addr) (sp : Sp) : R2 := fun x y H Q => ∃ a dx fs i, x = .int i ∧ y = .ref a ∧ H a = some (.ins C dx fs) ∧ sp [.ref a, .int i] H Q E0
end
end
theorem r_isB {a b : Bool} {H : Hp} {Q : VK} (h : Q (.bl (decide (a = b))) H) : rIsB (.bl a) (.bl b) H Q := ⟨a, b, rfl, rfl, h⟩
theorem r_notB {a b : Bool} {H : Hp} {Q : VK} (h : Q (.bl (!decide (a = b))) H) : rNotB (.bl a) (.bl b) H Q := ⟨a, b, rfl, rfl, h⟩
section
variable {K : PySem.W.Frag} {H : Hp} {Q : VK}
/-- repr of a bool, of a list of two bools -/
theorem r_reprB {b : Bool} (h : Q (.str (PyData.shown (.bool b))) H) : rRepr K [.bl b] H Q := ⟨_, .bool b, rfl, .bl b, rfl, by simp [PyData.depth], by cases b <;> decide, h⟩
theorem r_reprBB {p : Addr} {a b : Bool} (h0 : H p = some (.lst [.bl a, .bl b])) (h : Q (.str (PyData.shown (.list [.bool a, .bool b]))) H) : rRepr K [.ref p] H Q :=
  ⟨_, .list [.bool a, .bool b], rfl, .lst (SqL.of h0) (.cons (.bl a) (.cons (.bl b) .nil)), rfl, by simp [PyData.depth, PyData.depthAll], by cases a <;> cases b <;> decide +kernel, h⟩
end
section
variable {K : PySem.W.Frag} {σ : L2.St} {H : Hp} {D : Ends} {tb : TS} {g : TG} {tA : TA} {ta tv tl : TE} {Q : VK} {v : V}
def kRng (g : TG) (tb : TS) (D : Ends) (σ : L2.St) : List V → Hp → Prop := fun vs H1 => ∃ j : Int, vs = [.int j] ∧ -(2 ^ 62) ≤ j ∧ j < 2 ^ 62 ∧ ∃ W : Nat → Nat → L2.St → Hp → Prop, (∃ m, W 0 m σ H1) ∧ ∀ i m σ H, W i m σ H →
  ((Itr 0 j.toNat).stop i H ∧ D.nx σ H) ∨ ((Itr 0 j.toNat).go i H ∧ ∃ N : L2.St → Hp → Prop, (∀ σ' H', N σ' H' → ∃ m', m' < m ∧ W (i + 1) m' σ' H') ∧ ∀ x H', (Itr 0 j.toNat).yld i H x H' → g x σ H' fun σ2 H2 => tb { D with nx := N, ct := N, bk := D.nx } σ2 H2)
theorem u_forR (h : tA σ H (kRng g tb D σ)) : tFor (iRng1 tA) g tb D σ H := h
def kForL (K : PySem.W.Frag) (g : TG) (tb : TS) (D : Ends) (σ : L2.St) : VK := fun x H1 => ∃ a, x = .ref a ∧ (∃ xs, SqL K H1 a xs) ∧ ∃ W : Nat → Nat → L2.St → Hp → Prop, (∃ m, W 0 m σ H1) ∧ ∀ i m σ H, W i m σ H →
  ((Itl K a).stop i H ∧ D.nx σ H) ∨ ((Itl K a).go i H ∧ ∃ N : L2.St → Hp → Prop, (∀ σ' H', N σ' H' → ∃ m', m' < m ∧ W (i + 1) m' σ' H') ∧ ∀ x H', (Itl K a).yld i H x H' → g x σ H' fun σ2 H2 => tb { D with nx := N, ct := N, bk := D.nx } σ2 H2)
theorem u_forL (h : tl σ H (kForL K g tb D σ)) : tFor (iList K tl) g tb D σ H := h
def kForT (K : PySem.W.Frag) (g : TG) (tb : TS) (D : Ends) (σ : L2.St) : VK := fun x H1 => ∃ a, x = .ref a ∧ (∃ xs, SqT K H1 a xs) ∧ ∃ W : Nat → Nat → L2.St → Hp → Prop, (∃ m, W 0 m σ H1) ∧ ∀ i m σ H, W i m σ H →
  ((Itt K a).stop i H ∧ D.nx σ H) ∨ ((Itt K a).go i H ∧ ∃ N : L2.St → Hp → Prop, (∀ σ' H', N σ' H' → ∃ m', m' < m ∧ W (i + 1) m' σ' H') ∧ ∀ x H', (Itt K a).yld i H x H' → g x σ H' fun σ2 H2 => tb { D with nx := N, ct := N, bk := D.nx } σ2 H2)
theorem u_forT (h : tl σ H (kForT K g tb D σ)) : tFor (iTup K tl) g tb D σ H := h
def kSet (K : PySem.W.Frag) (f : Str) (y : V) (D : Ends) (σ : L2.St) : VK := fun x H2 => ∃ a C dx fs, x = .ref a ∧ H2 a = some (.ins C dx fs) ∧ Cls K C ∧ NoAttr K C f ∧ fs.length < 1000 ∧ D.nx σ (upd H2 a (.ins C dx (putF f y fs)))
theorem u_sfld {f : Str} (h : tv σ H fun y H1 => ta σ H1 (kSet K f y D σ)) : sFld K ta tv f D σ H := h
theorem k_set {f : Str} {y : V} {a C dx : Addr} {fs : List (Str × V)} (ho : H a = some (.ins C dx fs)) (hc : Cls K C) (hn : NoAttr K C f) (hl : fs.length < 1000) (h : D.nx σ (upd H a (.ins C dx (putF f y fs)))) : kSet K f y D σ (.ref a) H :=
  ⟨a, C, dx, fs, rfl, ho, hc, hn, hl, h⟩
theorem put_len {f : Str} {w : V} {fs : List (Str × V)} {n : Nat} (h : fs.length ≤ n) : (putF f w fs).length ≤ n + 1 := Nat.le_trans (length_putF f w fs) (Nat.succ_le_succ h)
theorem r_own2 {C a b dx dy : Addr} {fs gs : List (Str × V)} {sp : Sp} (ha : H a = some (.ins C dx fs)) (hb : H b = some (.ins C dy gs)) (h : sp [.ref a, .ref b] H Q E0) : rOwn2 C sp (.ref a) (.ref b) H Q := ⟨a, b, dx, fs, dy, gs, rfl, rfl, ha, hb, h⟩
theorem r_ownI {C a dx : Addr} {fs : List (Str × V)} {i : Int} {sp : Sp} (ha : H a = some (.ins C dx fs)) (h : sp [.ref a, .int i] H Q E0) : rOwnI C sp (.ref a) (.int i) H Q := ⟨a, dx, fs, i, rfl, rfl, ha, h⟩
theorem r_ownR {C a dx : Addr} {fs : List (Str × V)} {i : Int} {sp : Sp} (ha : H a = some (.ins C dx fs)) (h : sp [.ref a, .int i] H Q E0) : rOwnR C sp (.int i) (.ref a) H Q := ⟨a, dx, fs, i, rfl, rfl, ha, h⟩
theorem r_own1 {C a dx : Addr} {fs : List (Str × V)} {sp : Sp} (ha : H a = some (.ins C dx fs)) (h : sp [.ref a] H Q E0) : rOwn1 C sp (.ref a) H Q := ⟨a, dx, fs, rfl, ha, h⟩
def kOwnC (C : Addr) (sp : Sp) (t : TA) (σ : L2.St) (Q : VK) : VK := fun y H1 => ∃ a, y = .ref a ∧ t σ H1 fun vs H2 => (∃ dx fs, H2 a = some (.ins C dx fs)) ∧ sp (.ref a :: vs) H2 Q E0
theorem u_ownC {C : Addr} {sp : Sp} (h : tl σ H (kOwnC C sp tA σ Q)) : tOwnC C sp tl tA σ H Q := h
def kOwnC2 (C a : Addr) (sp : Sp) (Q : VK) : List V → Hp → Prop := fun vs H2 => (∃ dx fs, H2 a = some (.ins C dx fs)) ∧ sp (.ref a :: vs) H2 Q E0
theorem k_ownC {C a : Addr} {sp : Sp} (h : tA σ H (kOwnC2 C a sp Q)) : kOwnC C sp tA σ Q (.ref a) H := ⟨a, rfl, h⟩
theorem k_ownC2 {C a dx : Addr} {sp : Sp} {vs : List V} {fs : List (Str × V)} (ha : H a = some (.ins C dx fs)) (h : sp (.ref a :: vs) H Q E0) : kOwnC2 C a sp Q vs H := ⟨⟨dx, fs, ha⟩, h⟩
def kSM (C : Addr) (sp : Sp) (dvs : List V) (E : XK) (t : TA) (σ : L2.St) (Q : VK) : VK := fun x H1 => x = .ref C ∧ t σ H1 fun vs H2 => sp (vs ++ dvs) H2 Q E
theorem u_sm {C : Addr} {sp : Sp} {dvs : List V} {E : XK} (h : tl σ H (kSM C sp dvs E tA σ Q)) : tSMeth C sp dvs E tl tA σ H Q := h
theorem k_sm {C : Addr} {sp : Sp} {dvs : List V} {E : XK} (h : tA σ H fun vs H2 => sp (vs ++ dvs) H2 Q E) : kSM C sp dvs E tA σ Q (.ref C) H := ⟨rfl, h⟩
theorem u_gtup {n : Nat} {t : TGs} {a : Addr} {xs : List V} {QS : L2.St → Hp → Prop} (h0 : SqT K H a xs) (h1 : xs.length = n) (h : t xs σ H QS) : gTup K n t (.ref a) σ H QS := ⟨a, xs, rfl, h0, h1, h⟩
theorem u_gcons {t : TG} {u : TGs} {r : List V} {QS : L2.St → Hp → Prop} (h : t v σ H fun σ' H' => u r σ' H' QS) : gCons t u (v :: r) σ H QS := ⟨v, r, rfl, h⟩
theorem u_gnil {QS : L2.St → Hp → Prop} (h : QS σ H) : gNil [] σ H QS := ⟨rfl, h⟩
end
section
variable {K : PySem.W.Frag} {σ : L2.St} {H : Hp} {tA : TA} {ta te : TE} {Q : VK} {v : V}
theorem u_call0 {sp : Sp} {E : XK} (h : tA σ H fun vs H1 => sp vs H1 Q E) : tCall sp [] E tA σ H Q := by
  show tA σ H fun vs H1 => sp (vs ++ []) H1 Q E
  simp only [List.append_nil]
  exact h
theorem u_meth0 {C : Addr} {m : Str} {sp : Sp} {E : XK} (h : ta σ H (kMeth C m fun x H1 => tA σ H1 fun vs H2 => sp (x :: vs) H2 Q E)) : tMeth C m sp [] E ta tA σ H Q := by
  refine u_meth ?_
  simp only [List.append_nil]
  exact h
/-- what a new instance's __init__ is asked -/
def kMk (C : Addr) (sp : Sp) (Q : VK) (E : XK) : List V → Hp → Prop := fun vs H1 => ∀ x dx, H1 x = none → H1 dx = none → dx ≠ x → sp (.ref x :: vs) (upd (upd H1 dx (.own x)) x (.ins C dx [])) (fun v H2 => v = .non ∧ Q (.ref x) H2) E
theorem u_make0 {C : Addr} {sp : Sp} {E : XK} (h : tA σ H (kMk C sp Q E)) : tMake C sp [] E tA σ H Q := by
  refine u_make ?_
  simp only [List.append_nil]
  exact h
theorem k_sm0 {C : Addr} {sp : Sp} {E : XK} (h : tA σ H fun vs H2 => sp vs H2 Q E) : kSM C sp [] E tA σ Q (.ref C) H := by
  refine k_sm ?_
  simp only [List.append_nil]
  exact h
theorem u_sl {r : V → Option Int → Option Int → Hp → VK → Prop} {tl th : TO} (h : te σ H fun x H1 => tl σ H1 fun l H2 => th σ H2 fun u H3 => r x l u H3 Q) : tSl r te tl th σ H Q := h
theorem u_nopart {QO : Option Int → Hp → Prop} (h : QO none H) : tNoPart σ H QO := h
def kPart (QO : Option Int → Hp → Prop) : VK := fun x H1 => ∃ i, x = .int i ∧ QO (some i) H1
theorem u_part {QO : Option Int → Hp → Prop} (h : te σ H (kPart QO)) : tPart te σ H QO := h
theorem k_part {QO : Option Int → Hp → Prop} {i : Int} (h : QO (some i) H) : kPart QO (.int i) H := ⟨i, rfl, h⟩
theorem r_slL {a : Addr} {xs : List V} {lo hi : Option Int} (h0 : SqL K H a xs) (h : ∀ p H', Same H H' → H' p = some (.lst (cutV xs lo hi)) → H p = none → Q (.ref p) H') : rSlL K (.ref a) lo hi H Q := ⟨a, xs, rfl, h0, al h⟩
end
theorem cutV_to {xs : List V} {k : Nat} : cutV xs none (some (k : Int)) = xs.take k := by
  unfold cutV
  have h : ¬ ((k : Int) < 0) := by omega
  simp only [HT.sIx, h, if_false, List.drop_zero, Nat.sub_zero, Int.toNat_natCast]
  rw [List.take_eq_take_iff]
  omega
end Tw
namespace Tw
open PySem PySem.Spec PyProof.Rows L2
section
variable {P : Program} {w : World} {K : PySem.W.Frag} {mg mb : Str → Option Value} {k : Nat} {fa a : Addr} {fd : FuncData} {x : Str} {sp : Sp} {s : Shared} {vs : List Value} {ns : List Int}
/-- what the call of the law must end with -/
def Done (s : Shared) (r : Result) (s' : Shared) : Prop := r = .ok (.ret (.bool true)) ∧ OldK s.heap s'.heap ∧ s'.os = s.os ∧ AllBare s'.gens
theorem rm_caller {k : Nat} (h1 : callerA.depth + 3 * k + 5 < recursionLimit) (h2 : callerA.units + 16 * k + 200 < cLine) : Rm k callerA := ⟨⟨rfl, h1, h2⟩, rfl⟩
end
end Tw
namespace Tw
open PySem PySem.Spec PyProof.Rows L2
structure SupAt (prog : Program) (K : PySem.W.Frag) (C : Addr) (st : Stmt) (qual : Str) (fI cc cda : Addr) : Prop where
  oex : OexC K C
  sup0 : PySem.W.nsIn K mainGlobals "super" = some none
  init : PySem.W.findIn K (.ref C) "__init__" = some (some (.ref fI))
  fn : ∃ (od an : Option Addr) (osl : Array (Option Value)) (kV doc pm ct : Value), K.lookup fI = some ⟨.type "function", od, .func (PySem.W.ksFn "__init__" qual (C8.fnArgs st) (C8.fnBody st) (C8.fnScope st) .none kV doc pm an (.ref cda) ct cc), osl⟩
  cd : PySem.W.codeIn K (.ref cda) qual = true
  code : ∃ (ccl : Value) (cdd : Option Addr) (vs : Array Value) (ccs : Array (Option Value)) (file : Str) (tf : Tok), K.lookup cda = some ⟨ccl, cdd, .fields vs, ccs⟩ ∧ vs[2]? = some (.str file tf) ∧ ((prog.main.file : Str) == file) = true
  cell : ∃ (cl : Value) (cld : Option Addr) (csl : Array (Option Value)), K.lookup cc = some ⟨cl, cld, .cell (some (.ref C)), csl⟩
  top : (prog.main.scope.names.lookup ("super" : Str)).isSome = false
  sup : PySem.W.ks_superIn K C C "__init__" = some (some (.builtin "ValueError.__init__"))
  isV : PySem.W.subIn K (.ref C) (.type "ValueError") = some true
  me : PySem.W.mroIn K C (.ref C) = some true
  opq : PySem.W.nsIn K cStatics "thirdparty.any" = some none
section
open PySem.W
variable {prog : Program} {w : World} {K : PySem.W.Frag} {mg mb : Str → Option Value} {C fI cc cda x t0 L : Addr} {st : Stmt} {qual : Str} {A : Around} {E : Value → Shared → Prop} {h : Heap} {g : Array GenState} {d : Drawn} {t : Nat} {os : OsState} {m : Str → Option Value} {body : List Stmt}
theorem sup_first {pl : Sem Bool} {z : Str} {kk : Nat} {p0 p1 p2 p3 p4 p5 : Pos} {ar : Arg} {Q : Flow → Shared → Prop} (S : SupAt prog K C st qual fI cc cda) (hK : K.In h) (hm : h.Ns mainGlobals mg) (hb : h.Ns builtinsNs mb) (hbb : ∀ x : Str, x ≠ "__name__" → mb x = bootBuiltins x)
    (hx : h.get? x = some (HandSPX.excO C t0)) (hL : h.Ns L m) (hself : m ar.arg = some (.ref x)) (hp : ((C8.fnArgs st).posonlyargs ++ (C8.fnArgs st).args).head? = some ar)
    (ks : (C8.fnScope st).names.lookup ("super" : Str) = some .globalImplicit) (kc : (C8.fnScope st).names.lookup ("__class__" : Str) = some .free) (ka : (C8.fnScope st).names.lookup ar.arg = some .local) (kk0 : (C8.fnScope st).kind = .function)
    (hi : interactive (ksEnv qual (C8.fnScope st) L fI (.ref cda) cc) = false)
    (he : eval (.Call (.Attribute (.Call (.Name "super" p0) [] [] p1) "__init__" p2) [.Constant (.str z) kk p3] [] p4) (ksEnv qual (C8.fnScope st) L fI (.ref cda) cc) = (do
      let ov ← attributeBase (.Call (.Name "super" p0) [] [] p1) "__init__" (ksEnv qual (C8.fnScope st) L fI (.ref cda) cc) (eval (.Call (.Name "super" p0) [] [] p1) (ksEnv qual (C8.fnScope st) L fI (.ref cda) cc))
      standAt p2.atName
      let (f, first) ← holding [ov] (getMethod ov "__init__" pl)
      callWith p4 f first (backTo p4 (starEach [.Constant (.str z) kk p3] (ksEnv qual (C8.fnScope st) L fI (.ref cda) cc))) []))
    (hq : ∀ (h' : Heap) (t1 : Addr) (tk : Nat), (∀ b o, b ≠ x → h.get? b = some o → h'.get? b = some o) → h'.get? x = some (HandSPX.excO C t1) → Q .next ⟨h', g, d, tk, os⟩) :
    PySem.wpAt (model prog w) A (.func body (ksEnv qual (C8.fnScope st) L fI (.ref cda) cc)) (exec (.Expr (.Call (.Attribute (.Call (.Name "super" p0) [] [] p1) "__init__" p2) [.Constant (.str z) kk p3] [] p4) p5) (ksEnv qual (C8.fnScope st) L fI (.ref cda) cc)) Q E ⟨h, g, d, t, os⟩ := by
  obtain ⟨od, an, osl, kV, doc, pm, ct, lf⟩ := S.fn
  obtain ⟨ccl, cdd, vs, ccs, file, tf, lc, hvs, hfile⟩ := S.code
  obtain ⟨cl, cld, csl, lcell⟩ := S.cell
  obtain ⟨nm, q, N, bs, bm, sn, sub, ab, col, dd, k0, k1, k2, k3, k5, hC, hbm⟩ := S.oex.cls
  have hcl : PySem.W.clsIn K C = some { name := nm, bases := bs, mro := .ref C :: bm, ns := N, qualname := q, hasDict := true, slotNames := sn, subclasses := sub, abstract := ab, collection := col, hasDel := false } := by
    unfold PySem.W.clsIn
    rw [hC] <;> rfl
  have hC2 := hK _ _ hC
  refine ks_wpAt_Expr_any (ks_wpAt_MethodCall (pl := pl) ?_ he) hi
  refine ks_wpAt_super_base (env := ksEnv qual (C8.fnScope st) L fI (.ref cda) cc) ks kc (by decide +kernel) rfl (hK _ _ lf) rfl hp rfl (hK _ _ lc) rfl hvs hfile S.top ?_
  refine ks_loadName_global kk0 ks (Calls.loadGlobal_builtin (env := ksEnv qual (C8.fnScope st) L fI (.ref cda) cc) hm (mg_none_of hK hm S.sup0) hb ((hbb _ (by decide +kernel)).trans (show bootBuiltins "super" = some (.type "super") by boot_by_name)) ⟨rfl, ?_⟩)
  refine wpAny_loadName_free kk0 kc rfl ⟨_, hK _ _ lcell, rfl⟩ ?_
  refine wpAny_loadName_local kk0 ka hL hself ?_
  refine ks_wpAny_isType_cls hC2 rfl ⟨rfl, ?_⟩
  refine ks_wpAny_call_super hC2 rfl hx rfl (fun c e => by cases e) (looks_mroIn hK S.me) (fun h1 so keep1 => ?_)
  have K1 : K.In h1 := hK.keeps keep1
  have x1 := keep1 _ _ hx
  have I1 : InstAt h1 x (HandSPX.excO C t0) C none := ⟨x1, rfl, rfl, trivial⟩
  have sup := S.sup
  unfold ks_superIn at sup
  rw [hcl] at sup
  refine kxs_getMethod kxs_ValueError so (looks_opaque K1 S.opq) (l₀ := .ref C :: bm) ((looks_clsIn K1 hcl).andThen .now) rfl K1 sup (I1.type.andThen (looks_subIn K1 S.isV)) (ks_ne K1 I1 hcl) (by decide +kernel) ?_
  have mw : (h1.push (kxs_mw "ValueError.__init__" x)).get? h1.objs.size = some (kxs_mw "ValueError.__init__" x) := Heap.get?_push_at rfl rfl
  have x2 : (h1.push (kxs_mw "ValueError.__init__" x)).get? x = some (HandSPX.excO C t0) := Heap.get?_push_of_some _ x1
  refine kxs_callWith (i := "ValueError.__init__") (x := x) rfl ?_
  refine Calls.evalArgs_plain ?_
  refine spliced_more (env := ksEnv qual (C8.fnScope st) L fI (.ref cda) cc) (e := .Constant (.str z) kk p3) (rest := []) (pos := p4) ?_
  refine wpAny_Constant_str ?_
  refine spliced_none ?_
  refine ⟨mw, ?_⟩
  have C2 : (h1.push (kxs_mw "ValueError.__init__" x)).get? C = _ := Heap.get?_push_of_some _ (K1 _ _ hC)
  refine wpAny_call (codeAny_of_tree ?_)
  show wpAny _ A.in1 (callAny (.ref h1.objs.size) _) _ _ _
  unfold callAny
  refine wpAny_bind (wpAny_load mw ?_)
  dsimp only
  refine KFB.if_so (by decide) ?_
  refine wpAny_bind (check_bound_init F.excBase_ValueError.toExcCallFacts C2 x2 rfl ?_)
  refine wpAny_bind (wpAny_pure (wpAny_pure ?_))
  refine ⟨plainId_quiet F.excBase_ValueError.init.plain _, codeAny_builtin F.excBase_ValueError.initEntry ?_⟩
  refine exc_init_tree (cls := .ref C) (t0 := t0) (dv := none) (c2 := .none) (c3 := .none) (b4 := .bool false) x2 (by show 1 ≤ sizeLine; decide) fun h3 keep3 hx3 _ => ?_
  exact hq h3 _ _ (fun b o nb hbo => keep3 b o nb (Heap.get?_push_of_some _ (keep1 b o hbo))) hx3
theorem ns_ne {v : Array Value} {o : Obj} (hL : h.Ns L m) (hx : h.get? x = some o) (hd : o.data = .fields v) : L ≠ x := by
  rintro rfl
  obtain ⟨o2, es, ep, h1, h2, _⟩ := hL
  rw [hx] at h1
  injection h1 with h1
  subst h1
  rw [hd] at h2
  cases h2
theorem ns_keep {h' : Heap} (hL : h.Ns L m) (k : ∀ b o, b ≠ x → h.get? b = some o → h'.get? b = some o) (ne : L ≠ x) : h'.Ns L m := by
  obtain ⟨o2, es, ep, h1, h2, h3⟩ := hL
  exact ⟨o2, es, ep, k _ _ ne h1, h2, h3⟩
theorem kin_keep {h' : Heap} (hK : K.In h) (k : ∀ b o, b ≠ x → h.get? b = some o → h'.get? b = some o) (no : K.lookup x = none) : K.In h' := by
  intro b o e
  refine k b o ?_ (hK b o e)
  rintro rfl
  rw [no] at e
  cases e
/-- self.f = y, the first -/
theorem st_first {t1 : Addr} {f self y : Str} {v : Value} {pa pb pc pd : Pos} {Q : Flow → Shared → Prop} {sc : Scope} (T : OexC K C) (hK : K.In h) (hx : h.get? x = some (HandSPX.excO C t1)) (hL : h.Ns L m) (hself : m self = some (.ref x)) (hv : m y = some v)
    (kk0 : sc.kind = .function) (ka : sc.names.lookup self = some .local) (ky : sc.names.lookup y = some .local) (hno : PySem.W.findIn K (.ref C) f = some none) (d1 : (self == ("__debug__" : Str)) = false) (d2 : (y == ("__debug__" : Str)) = false)
    (hs : swapsWith (.Name y pc) (some (.Attribute (.Name self pa) f pb)) pd.line (ksEnv qual sc L fI (.ref cda) cc) = pure false)
    (hq : ∀ (h' : Heap) (tk : Nat) (dx : Addr), (∀ b o, b ≠ x → h.get? b = some o → h'.get? b = some o) → h.objs.size ≤ dx → dx ≠ x → h'.get? x = some { cls := .ref C, dict := some dx, data := .fields #[.ref t1, .none, .none, .none, .bool false, .none] } →
      h'.Ns1 dx (fun z => if z = f then some v else none) → Q .next ⟨h', g, d, tk, os⟩) :
    PySem.wpAt (model prog w) A (.func body (ksEnv qual sc L fI (.ref cda) cc)) (exec (.Assign [.Attribute (.Name self pa) f pb] (.Name y pc) pd) (ksEnv qual sc L fI (.ref cda) cc)) Q E ⟨h, g, d, t, os⟩ := by
  obtain ⟨nm, q, N, bs, bm, sn, sub, ab, col, dd, k0, k1, k2, k3, k5, hC, hbm⟩ := T.cls
  have hcl : PySem.W.clsIn K C = some { name := nm, bases := bs, mro := .ref C :: bm, ns := N, qualname := q, hasDict := true, slotNames := sn, subclasses := sub, abstract := ab, collection := col, hasDel := false } := by
    unfold PySem.W.clsIn
    rw [hC] <;> rfl
  refine ks_wpAt_Assign_Attr (wpAt_of_wpAny ?_) hs
  refine wpAny_Name (wpAny_loadName_local kk0 ky hL hv ?_) d2
  refine wpAny_Name (wpAny_loadName_local kk0 ka hL hself ?_) d1
  refine PySem.W.set_plain hK (ox := HandSPX.excO C t1) (od := none) ⟨hx, rfl, rfl, trivial⟩ T.sa ?_
  refine HandSPX.exc_osa hK hx hcl (show HandSPX.refsVE (.ref C :: bm) = true from hbm) rfl hno ?_
  intro h' tk' dx k dn dne hx' hn
  exact hq h' tk' dx k dn dne hx' hn
/-- the statement super().__init__(z) -/
abbrev supSt (z : Str) (kk : Nat) (p0 p1 p2 p3 p4 p5 : Pos) : Stmt := .Expr (.Call (.Attribute (.Call (.Name "super" p0) [] [] p1) "__init__" p2) [.Constant (.str z) kk p3] [] p4) p5
/-- the statement self.f = y -/
abbrev selfSt (self f y : Str) (pa pb pc pd : Pos) : Stmt := .Assign [.Attribute (.Name self pa) f pb] (.Name y pc) pd
/-- what the text of such an __init__ says, at every frame -/
structure SupTx (st : Stmt) (qual : Str) (ar : Arg) (fI cda cc : Addr) (z : Str) (kk : Nat) (p0 p1 p2 p3 p4 : Pos) : Prop where
  hp : ((C8.fnArgs st).posonlyargs ++ (C8.fnArgs st).args).head? = some ar
  ks : (C8.fnScope st).names.lookup ("super" : Str) = some .globalImplicit
  kc : (C8.fnScope st).names.lookup ("__class__" : Str) = some .free
  ka : (C8.fnScope st).names.lookup ar.arg = some .local
  kd : (ar.arg == ("__debug__" : Str)) = false
  k0 : (C8.fnScope st).kind = .function
  co : (C8.fnScope st).isCoroutine = false
  gen : (C8.fnScope st).isGenerator = false
  nocell : ∀ x ∈ (C8.fnScope st).names, x.2 ≠ .cell
  hi : ∀ L, interactive (ksEnv qual (C8.fnScope st) L fI (.ref cda) cc) = false
  he : ∀ L : Addr, ∃ pl : Sem Bool, eval (.Call (.Attribute (.Call (.Name "super" p0) [] [] p1) "__init__" p2) [.Constant (.str z) kk p3] [] p4) (ksEnv qual (C8.fnScope st) L fI (.ref cda) cc) = (do
      let ov ← attributeBase (.Call (.Name "super" p0) [] [] p1) "__init__" (ksEnv qual (C8.fnScope st) L fI (.ref cda) cc) (eval (.Call (.Name "super" p0) [] [] p1) (ksEnv qual (C8.fnScope st) L fI (.ref cda) cc))
      standAt p2.atName
      let (f, first) ← holding [ov] (getMethod ov "__init__" pl)
      callWith p4 f first (backTo p4 (starEach [.Constant (.str z) kk p3] (ksEnv qual (C8.fnScope st) L fI (.ref cda) cc))) [])
  hs : ∀ (L : Addr) (f self y : Str) (pa pb pc pd : Pos), swapsWith (.Name y pc) (some (.Attribute (.Name self pa) f pb)) pd.line (ksEnv qual (C8.fnScope st) L fI (.ref cda) cc) = pure false
/-- the made error: its dict's map -/
def Made (C : Addr) (h : Heap) (x : Addr) (m0 : Str → Option Value) (h' : Heap) : Prop :=
  (∀ b o, b ≠ x → h.get? b = some o → h'.get? b = some o) ∧ ∃ t1 dx : Addr, h.get? dx = none ∧ dx ≠ x ∧ h'.get? x = some { cls := .ref C, dict := some dx, data := .fields #[.ref t1, .none, .none, .none, .bool false, .none] } ∧ h'.Ns1 dx m0
theorem get_above {b : Addr} (hb : h.objs.size ≤ b) : h.get? b = none := by
  cases q : h.get? b with
  | none => rfl
  | some o => exact absurd (Heap.lt_size q) (Nat.not_lt.mpr hb)
theorem init1 {R : Result → Shared → Prop} {ar : Arg} {f y z : Str} {kk : Nat} {p0 p1 p2 p3 p4 p5 pa pb pc pd : Pos} {u : Value} (S : SupAt prog K C st qual fI cc cda) (X : SupTx st qual ar fI cda cc z kk p0 p1 p2 p3 p4) (hbody : C8.fnBody st = [supSt z kk p0 p1 p2 p3 p4 p5, selfSt ar.arg f y pa pb pc pd])
    (hbind : ∀ (kV doc pm : Value) (an : Option Addr) (ct u1 u2 : Value), bindArgs (ksFn "__init__" qual (C8.fnArgs st) (C8.fnBody st) (C8.fnScope st) .none kV doc pm an (.ref cda) ct cc) ⟨[u1, u2], []⟩ = pure [(ar.arg, u1), (y, u2)])
    (ky : (C8.fnScope st).names.lookup y = some .local) (yd : (y == ("__debug__" : Str)) = false) (yne : y ≠ ar.arg) (hno : PySem.W.findIn K (.ref C) f = some none)
    (hroom : A.depth < recursionLimit) (lim : h.NoLimit) (hK : K.In h) (hm : h.Ns mainGlobals mg) (hb : h.Ns builtinsNs mb) (hbb : ∀ x : Str, x ≠ "__name__" → mb x = bootBuiltins x) (hx : h.get? x = some (HandSPX.excO C t0)) (xK : K.lookup x = none)
    (hq : ∀ h' tk, Made C h x (fun z => if z = f then some u else none) h' → R (.ok (.ret .none)) ⟨h', g, d, tk, os⟩) :
    codeAny (model prog w) A (.call (.ref fI) ⟨[.ref x, u], []⟩) R ⟨h, g, d, t, os⟩ := by
  obtain ⟨od, an, osl, kV, doc, pm, ct, lf⟩ := S.fn
  obtain ⟨pl, he⟩ := X.he h.objs.size
  refine ks_codeAny_call_defAt (fd := ksFn "__init__" qual (C8.fnArgs st) (C8.fnBody st) (C8.fnScope st) .none kV doc pm an (.ref cda) ct cc) (body := C8.fnBody st) (binds := [(ar.arg, .ref x), (y, u)]) hroom (hK _ _ lf) rfl lim (codeRec_of hK S.cd) rfl (.of_eq (hbind kV doc pm an ct (.ref x) u)) X.nocell ?_ ?_ X.co X.gen X.k0
  · intro p hp
    simp only [List.mem_cons, List.not_mem_nil, or_false] at hp
    rcases hp with rfl | rfl
    · exact X.ka
    · exact ky
  · intro h0 nsL keep0
    have K0 : K.In h0 := hK.keeps keep0
    have x0 := keep0 _ _ hx
    have nL : h.get? h.objs.size = none := get_above (Nat.le_refl _)
    have mself : (fun q => List.lookup q (List.reverse [(ar.arg, Value.ref x), (y, u)])) ar.arg = some (.ref x) := by
      show List.lookup ar.arg [(y, u), (ar.arg, Value.ref x)] = _
      rw [List.lookup_cons, show (ar.arg == y) = false from beq_eq_false_iff_ne.mpr (Ne.symm yne), List.lookup_cons, beq_self_eq_true]
    have my : (fun q => List.lookup q (List.reverse [(ar.arg, Value.ref x), (y, u)])) y = some u := by
      show List.lookup y [(y, u), (ar.arg, Value.ref x)] = _
      rw [List.lookup_cons, beq_self_eq_true]
    show PySem.wpAt (model prog w) _ (.func (C8.fnBody st) (ksEnv qual (C8.fnScope st) h.objs.size fI (.ref cda) cc)) (execs (C8.fnBody st) (ksEnv qual (C8.fnScope st) h.objs.size fI (.ref cda) cc)) _ _ _
    have eb : execs (C8.fnBody st) (ksEnv qual (C8.fnScope st) h.objs.size fI (.ref cda) cc) = execs [supSt z kk p0 p1 p2 p3 p4 p5, selfSt ar.arg f y pa pb pc pd] (ksEnv qual (C8.fnScope st) h.objs.size fI (.ref cda) cc) := by rw [hbody]
    rw [eb]
    have nex := ns_ne nsL x0 rfl
    refine ks_wpAt_execs_cons (sup_first S K0 (hm.keeps keep0) (hb.keeps keep0) hbb x0 nsL mself X.hp X.ks X.kc X.ka X.k0 (X.hi _) he ?_)
    intro h1 t1 tk1 k1 x1
    have ns1 := ns_keep nsL k1 nex
    refine ks_wpAt_execs_cons (st_first S.oex (kin_keep K0 k1 xK) x1 ns1 mself my X.k0 X.ka ky hno X.kd yd (X.hs _ _ _ _ _ _ _ _) ?_)
    intro h2 tk2 dx k2 dn dne x2 ns2
    refine wpAt_of_wpAny (wpAny_execs_nil ?_)
    have up : ∀ b o, b ≠ x → h.get? b = some o → h2.get? b = some o := fun b o nb e => k2 b o nb (k1 b o nb (keep0 b o e))
    refine hq h2 tk2 ⟨up, t1, dx, ?_, dne, x2, ns2⟩
    cases q : h.get? dx with
    | none => rfl
    | some o => exact absurd (Heap.lt_size (k1 dx o dne (keep0 dx o q))) (Nat.not_lt.mpr dn)
/-- the call of such a class: a new error a, its fields in the dict at dx -/
def XCall (P : Program) (K : PySem.W.Frag) (C : Addr) (fs : List Str) : Prop := ∀ (w : World) (mg mb : Str → Option Value) (A : Around) (R : Result → Shared → Prop) (h : Heap) (g : Array GenState) (d : Drawn) (t : Nat) (os : OsState) (us : List Value),
  us.length = fs.length → Room 1 A → h.NoLimit → K.In h → h.Ns mainGlobals mg → h.Ns builtinsNs mb → (∀ x : Str, x ≠ "__name__" → mb x = bootBuiltins x) →
  (∀ (h' : Heap) (tk : Nat) (a dx t1 : Addr), (∀ b o, h.get? b = some o → h'.get? b = some o) → h.get? a = none → h.get? dx = none → dx ≠ a → h'.get? a = some { cls := .ref C, dict := some dx, data := .fields #[.ref t1, .none, .none, .none, .bool false, .none] } →
    h'.Ns1 dx (fun z => List.lookup z (fs.zip us)) → R (.ok (.ret (.ref a))) ⟨h', g, d, tk, os⟩) →
  codeAny (model P w) A (.call (.ref C) ⟨us, []⟩) R ⟨h, g, d, t, os⟩
theorem made_up {R : Result → Shared → Prop} {us : List Value} {m0 : Str → Option Value} {h' : Heap} {tk : Nat} (hM : Made C ((h.push (kdv_tup us)).push (HandSPX.excO C h.objs.size)) (h.objs.size + 1) m0 h')
    (hR : ∀ (a dx t1 : Addr), (∀ b o, h.get? b = some o → h'.get? b = some o) → h.get? a = none → h.get? dx = none → dx ≠ a → h'.get? a = some { cls := .ref C, dict := some dx, data := .fields #[.ref t1, .none, .none, .none, .bool false, .none] } → h'.Ns1 dx m0 → R (.ok (.ret (.ref a))) ⟨h', g, d, tk, os⟩) :
    R (.ok (.ret (.ref (h.objs.size + 1)))) ⟨h', g, d, tk, os⟩ := by
  obtain ⟨k, t1, dx, n1, n2, e1, e2⟩ := hM
  have up : ∀ b o, h.get? b = some o → ((h.push (kdv_tup us)).push (HandSPX.excO C h.objs.size)).get? b = some o := fun b o e => Heap.get?_push_of_some _ (Heap.get?_push_of_some _ e)
  refine hR _ dx t1 (fun b o e => k b o ?_ (up b o e)) (get_above (Nat.le_succ _)) ?_ n2 e1 e2
  · rintro rfl
    exact absurd (Heap.lt_size e) (Nat.not_lt.mpr (Nat.le_succ _))
  · cases q : h.get? dx with
    | none => rfl
    | some o =>
      have z := up dx o q
      rw [n1] at z
      cases z
theorem xcall1 {ar : Arg} {f y z : Str} {kk : Nat} {p0 p1 p2 p3 p4 p5 pa pb pc pd : Pos} (S : SupAt prog K C st qual fI cc cda) (X : SupTx st qual ar fI cda cc z kk p0 p1 p2 p3 p4) (hbody : C8.fnBody st = [supSt z kk p0 p1 p2 p3 p4 p5, selfSt ar.arg f y pa pb pc pd])
    (hbind : ∀ (kV doc pm : Value) (an : Option Addr) (ct u1 u2 : Value), bindArgs (ksFn "__init__" qual (C8.fnArgs st) (C8.fnBody st) (C8.fnScope st) .none kV doc pm an (.ref cda) ct cc) ⟨[u1, u2], []⟩ = pure [(ar.arg, u1), (y, u2)])
    (ky : (C8.fnScope st).names.lookup y = some .local) (yd : (y == ("__debug__" : Str)) = false) (yne : y ≠ ar.arg) (hno : PySem.W.findIn K (.ref C) f = some none) : XCall prog K C [f] := by
  intro w mg mb A R h g d t os us hl rm lim hK hm hb hbb hR
  match us, hl with
  | [u], _ =>
    obtain ⟨nm, q, N, bs, bm, sn, sub, ab, col, dd, k0, k1, k2, k3, k5, hC, hbm⟩ := S.oex.cls
    obtain ⟨od, an, osl, kV, doc, pm, ct, lf⟩ := S.fn
    have up : ∀ b o, h.get? b = some o → ((h.push (kdv_tup [u])).push (HandSPX.excO C h.objs.size)).get? b = some o := fun b o e => Heap.get?_push_of_some _ (Heap.get?_push_of_some _ e)
    have hget : ((h.push (kdv_tup [u])).push (HandSPX.excO C h.objs.size)).get? (h.objs.size + 1) = some (HandSPX.excO C h.objs.size) := by heap_get
    have xK : K.lookup (h.objs.size + 1) = none := by
      cases q : K.lookup (h.objs.size + 1) with
      | none => rfl
      | some o => exact absurd (Heap.lt_size (hK _ _ q)) (Nat.not_lt.mpr (Nat.le_succ _))
    refine HandSPX.call_own F.excBase_ValueError (fun Y => HandSPX.refsVE_contains Y bm hbm) (hK _ _ hC) (looks_findIn hK S.init) (fun self => exc_bind (hK _ _ lf) rfl self) (by show 1 ≤ sizeLine; decide) ?_
    refine init1 S X hbody hbind ky yd yne hno (rm.make C [u] []).depth (lim.keeps up) (hK.keeps up) (hm.keeps up) (hb.keeps up) hbb hget xK ?_
    intro h' tk hM
    refine ⟨rfl, made_up hM fun a dx t1 r1 r2 r3 r4 r5 r6 => hR h' tk a dx t1 r1 r2 r3 r4 r5 ?_⟩
    have em : (fun z => List.lookup z (List.zip [f] [u])) = fun z => if z = f then some u else none := by
      funext z
      show List.lookup z [(f, u)] = _
      rw [List.lookup_cons]
      by_cases e : z = f
      · rw [if_pos e, show (z == f) = true from beq_iff_eq.mpr e]
      · rw [if_neg e, show (z == f) = false from beq_eq_false_iff_ne.mpr e]
        rfl
    rw [em]
    exact r6
end
theorem relO_zip : ∀ {fs : List Str} {vs : List V} {us : List Value}, Vals vs us → ∀ f : Str, RelO (List.lookup f (fs.zip vs)) (List.lookup f (fs.zip us))
  | [], _, _, _, f => by rw [List.zip_nil_left, List.zip_nil_left]; exact True.intro
  | _ :: _, _, _, .nil, f => by rw [List.zip_nil_right, List.zip_nil_right]; exact True.intro
  | g :: fs, _, _, .cons r rr, f => by
    rw [List.zip_cons_cons, List.zip_cons_cons, List.lookup_cons, List.lookup_cons]
    cases f == g with
    | true => exact r
    | false => exact relO_zip rr f
/-- an error of the class at C, its dict at d; whether it was raised is not said -/
def exV (C a d : Addr) : HO := .ext fun h => ∃ (oe : Obj) (vs : Array Value), h.get? a = some oe ∧ Zc (.ref C) (some d) oe ∧ oe.data = .fields vs
theorem exV_ok {P : Program} {w : World} {H : Hp} {h : Heap} {C a d : Addr} {oe : Obj} {vs : Array Value} (e : h.get? a = some oe) (z : Zc (.ref C) (some d) oe) (hd : oe.data = .fields vs) : ObjOk P w H h a (exV C a d) :=
  ⟨⟨oe, vs, e, z, hd⟩, ⟨oe, e⟩, fun h1 h2 ⟨oe, vs, e, z, hd⟩ k => ⟨oe, vs, k oe e, z, hd⟩⟩
theorem exV_at {P : Program} {w : World} {H : Hp} {h : Heap} {C a d : Addr} (ok : HOk P w H h) (e : H a = some (exV C a d)) : ∃ (oe : Obj) (vs : Array Value), h.get? a = some oe ∧ Zc (.ref C) (some d) oe ∧ oe.data = .fields vs := by
  obtain ⟨x, _, _⟩ := ok a _ e
  exact x
section
variable {X : Cx} {pins : List (Addr × Obj)} {σ : L2.St} {H : Hp} {s : Shared} {C : Addr} {fs : List Str} {vs : List V} {us : List Value}
theorem xnew {Q : Value → Shared → Prop} {E : Value → Shared → Prop} (hX : XCall X.prog X.K C fs) (rm : Room 1 X.A) (I : Inv X pins σ H s) (r : Vals vs us) (hl : vs.length = fs.length)
    (hq : ∀ (a dx t1 : Addr) (G : Heap) (s' : Shared), Inv X pins σ (upd H dx (.xd (fs.zip vs))) { s' with heap := G } → (∀ b o, G.get? b = some o → s'.heap.get? b = some o) → G.get? a = none → H a = none → H dx = none → dx ≠ a →
      s'.heap.get? a = some { cls := .ref C, dict := some dx, data := .fields #[.ref t1, .none, .none, .none, .bool false, .none] } → AllBare s'.gens → Q (.ref a) s') : wpAny (model X.prog X.w) X.A (call (.ref C) us) Q E s := by
  obtain ⟨hp, g, d, t, os⟩ := s
  obtain ⟨mb, hb, hbb⟩ := I.mod.blt
  refine wpAny_call (hX X.w X.mg mb X.A _ hp g d t os us (by rw [← hl]; exact (Paired.length r).symm) rm I.nolimit I.kIn (I.mod.glob.keeps I.bk) (hb.keeps I.bk) hbb ?_)
  intro h' tk a dx t1 k na nd ne ha hn
  obtain ⟨G, g1, g2⟩ := restrict h' fun b => decide (b ≠ a)
  have gk : ∀ b, b ≠ a → G.get? b = h'.get? b := fun b hb => g1 b (decide_eq_true hb)
  have ga : G.get? a = none := g2 a (by simp)
  have Ha : H a = none := I.hok.gone na
  have Hd : H dx = none := I.hok.gone nd
  have kG : ∀ b o, hp.get? b = some o → G.get? b = some o := fun b o e => by
    have nb : b ≠ a := by
      rintro rfl
      rw [na] at e
      cases e
    rw [gk b nb]
    exact k b o e
  have J : Inv X pins σ (upd H dx (.xd (fs.zip vs))) ⟨G, g, d, tk, os⟩ := by
    refine Inv.laidN (t' := tk) (h' := G) I kG nd Hd ?_
    obtain ⟨o, es, ep, e1, r1⟩ := hn
    exact ⟨_, ⟨o, es, ep, by rw [gk dx ne]; exact e1, r1⟩, relO_zip r⟩
  refine hq a dx t1 G ⟨h', g, d, tk, os⟩ J (fun b o e => ?_) ga Ha Hd ne ha I.bare
  have nb : b ≠ a := by
    rintro rfl
    rw [ga] at e
    cases e
  rw [← gk b nb]
  exact e
/-- C(e, ..) that is raised -/
def tXr (C : Addr) (fs : List Str) (ta : TA) : L2.St → Hp → XK → Prop := fun σ H Q => ta σ H fun vs H1 => vs.length = fs.length ∧ ∀ dx, H1 dx = none → Q (.ref C) (some dx) (upd H1 dx (.xd (fs.zip vs)))
/-- C(e, ..) as a value -/
def tXv (C : Addr) (fs : List Str) (ta : TA) : TE := fun σ H Q => ta σ H fun vs H1 => vs.length = fs.length ∧ ∀ a dx, H1 a = none → H1 dx = none → dx ≠ a → Q (.ref a) (upd (upd H1 dx (.xd (fs.zip vs))) a (exV C a dx))
variable {x : Str} {e : Expr} {es : List Expr} {ta : TA} {p pos : Pos}
theorem pmk_x {k : Nat} (hX : XCall X.prog X.K C fs) (T : OexC X.K C) (hr : Rm (k + 1) X.A) (hg : Gl X x) (hm : X.mg x = some (.ref C)) (ha : PA X (e :: es) ta)
    (hdb : (x == ("__debug__" : Str)) = false := by decide) (he : starEach (e :: es) X.env = (false, eval e X.env) :: starEach es X.env := by rfl) (hpl : (backTo pos (starEach es X.env)).any (·.1) = false := by rfl) :
    PMk X (.Call (.Name x p) (e :: es) [] pos) (tXr C fs ta) := by
  intro pins s σ H Q I h
  refine wpAny_Call_Name_kw (ld_glob I hg hm ?_ hdb)
  refine PySem.W.callWith_K (h₀ := X.base) I.ok.mod.kin T.kC (thn (ha.run pos pins s σ H _ I h) ?_) he hpl
  rintro us s1 ⟨vs, H1, I1, r1, hl, q1⟩
  refine ⟨I1.kIn, ?_⟩
  refine xnew hX (hr.room.mono (by omega)) I1 r1 hl ?_
  intro a dx t1 G s' J kG ga Ha Hd ne hget ag
  exact ⟨a, _, _, { s' with heap := G }, _, .ref C, some dx, rfl, J, kG, ga, hget, ⟨rfl, rfl⟩, rfl, rfl, by rw [upd_ne (Ne.symm ne)]; exact Ha, rfl, ag, raises_own T.exC T.tyC, q1 dx Hd⟩
theorem pe_x {k : Nat} (hX : XCall X.prog X.K C fs) (T : OexC X.K C) (hr : Rm (k + 1) X.A) (hg : Gl X x) (hm : X.mg x = some (.ref C)) (ha : PA X (e :: es) ta)
    (hdb : (x == ("__debug__" : Str)) = false := by decide) (he : starEach (e :: es) X.env = (false, eval e X.env) :: starEach es X.env := by rfl) (hpl : (backTo pos (starEach es X.env)).any (·.1) = false := by rfl) :
    PE X (.Call (.Name x p) (e :: es) [] pos) (tXv C fs ta) := by
  constructor
  intro pins s σ H Q I h
  refine wpAny_Call_Name_kw (ld_glob I hg hm ?_ hdb)
  refine PySem.W.callWith_K (h₀ := X.base) I.ok.mod.kin T.kC (thn (ha.run pos pins s σ H _ I h) ?_) he hpl
  rintro us s1 ⟨vs, H1, I1, r1, hl, q1⟩
  refine ⟨I1.kIn, ?_⟩
  refine xnew hX (hr.room.mono (by omega)) I1 r1 hl ?_
  intro a dx t1 G s' J kG ga Ha Hd ne hget ag
  refine ⟨.ref a, _, ?_, rfl, q1 a dx Ha Hd ne⟩
  exact Inv.laidN (s := { s' with heap := G }) (t' := s'.toks) (h' := s'.heap) J kG ga (by rw [upd_ne (Ne.symm ne)]; exact Ha) (exV_ok hget ⟨rfl, rfl⟩ rfl)
/-- e.f, e an error -/
def tXg (C : Addr) (f : Str) (te : TE) : TE := fun σ H Q => te σ H fun x H1 => ∃ (a d : Addr) (fs : List (Str × V)) (v : V), x = .ref a ∧ H1 a = some (exV C a d) ∧ H1 d = some (.xd fs) ∧ fs.lookup f = some v ∧ Q v H1
theorem pe_xg {f : Str} {te : TE} (T : XfC X.K C) (hno : PySem.W.findIn X.K (.ref C) f = some none) (he : PE X e te) (hb : attributeBase e f X.env (eval e X.env) = eval e X.env := by rfl) : PE X (.Attribute e f pos) (tXg C f te) := by
  constructor
  intro pins s σ H Q I h
  refine attr_of hb (thn (he.run pins s σ H _ I h) ?_)
  rintro u s1 ⟨x, H1, I1, rx, a, d, fs, v, rfl, ea, ed, l, q⟩
  obtain rfl : u = Value.ref a := rx
  obtain ⟨oe, vs, hget, hz, hd⟩ := exV_at I1.hok ea
  obtain ⟨mA, hns, hr⟩ := (show ObjOk X.prog X.w H1 s1.heap d (.xd fs) from I1.hok d _ ed)
  obtain ⟨od, ho, hl⟩ := lookIn_ns hns
  obtain ⟨u, hu, ru⟩ := RelO.some_of (v := v) (o := mA f) (by rw [← l]; exact hr f)
  have J : PySem.W.InstAt s1.heap a oe C (some od) := ⟨hget, hz.1, by unfold PySem.W.notCls; rw [hd] <;> rfl, by rw [hz.2]; exact ho⟩
  exact HandSPX.exc_get I1.kIn J T.ga T.gg T.exC (PySem.W.findObj_own T.hdC hno rfl (by rw [hl, hu])) (handed_of ru) ⟨v, H1, I1.tok _, ru, q⟩
/-- the class of a value, also of errors and of a dict that is being walked -/
def TyE (K : PySem.W.Frag) (H : Hp) (x : V) (t : Value) : Prop := TyX K H x t ∨ (∃ (a d D : Addr) (fs : List (Str × V)), x = .ref a ∧ t = .ref D ∧ ExcC K D ∧ H a = some (exV D a d) ∧ H d = some (.xd fs)) ∨ ∃ (a : Addr) (od : Obj) (kvs : List (Key × V)), x = .ref a ∧ t = .type "dict" ∧ H a = some (.frz od (.dK kvs))
theorem kitE_of {x : V} {u t : Value} (I : Inv X pins σ H s) (rx : RelV x u) (ty : TyE X.K H x t) : ∃ P : Heap → Prop, PySem.W.KitX X.K u t P ∧ P s.heap ∧ u ≠ .builtin "__main__.__loader__#opaque" := by
  rcases ty with ty | ⟨a, d, D, fs, rfl, rfl, T, ea, ed⟩ | ⟨a, od, kvs, rfl, rfl, ea⟩
  · exact kit_of I rx ty
  · obtain rfl : u = Value.ref a := rx
    obtain ⟨oe, vs, hget, hz, hd⟩ := exV_at I.hok ea
    obtain ⟨mA, hns, hr⟩ := (show ObjOk X.prog X.w H s.heap d (.xd fs) from I.hok d _ ed)
    obtain ⟨od, ho, hl⟩ := lookIn_ns hns
    have J : PySem.W.InstAt s.heap a oe D (some od) := ⟨hget, hz.1, by unfold PySem.W.notCls; rw [hd] <;> rfl, by rw [hz.2]; exact ho⟩
    obtain ⟨cd, hcd, _⟩ := PySem.W.any_some T.hd
    exact ⟨_, PySem.W.kitx_exc (by rw [hcd]; rfl) T.hg T.hk T.hs T.ha T.hn T.ht T.hm, J, fun z => nomatch z⟩
  · obtain rfl : u = Value.ref a := rx
    obtain ⟨_, _, _, vs, _, o, es, ep, h1, h2, _⟩ := (show ObjOk X.prog X.w H s.heap a (.frz od (.dK kvs)) from I.hok a _ ea)
    exact ⟨_, PySem.W.kitx_dict, ⟨o, h1, h2.1⟩, fun z => nomatch z⟩
def rIsX (K : PySem.W.Frag) : List V → Hp → VK → Prop := fun xs H Q => ∃ (x c : V) (t u : Value) (b : Bool), xs = [x, c] ∧ ClsV c u ∧ TyE K H x t ∧ PySem.W.kitOne K t u = some b ∧ Q (.bl b) H
theorem call_isX : CallR X (.builtin "isinstance") (rIsX X.K) := by
  intro pins s σ H xs us Q I r h
  obtain ⟨x, c, t, u, b, rfl, hc, ty, e, q⟩ := h
  obtain ⟨u1, u2, rfl, r1, r2⟩ := vals2 r
  have e2 := hc.eq r2
  subst e2
  obtain ⟨P, Z, p, hx⟩ := kitE_of I r1 ty
  exact PySem.W.kia_one Z I.kIn p e hx fun tk => ⟨.bl b, H, I.tok tk, rfl, q⟩
end
section
variable {X : Cx} {pins : List (Addr × Obj)} {σ : L2.St} {H : Hp} {s : Shared}
/-- an object that came up since the entry is tracked from now on -/
theorem Inv.track {C a d : Addr} {oe : Obj} {vs : Array Value} (I : Inv X pins σ H s) (he : s.heap.get? a = some oe) (hz : Zc (.ref C) (some d) oe) (hd : oe.data = .fields vs) (na : H a = none) (n0 : X.s_0.heap.get? a = none) (nL : a ≠ X.env.locals)
    (np : ∀ p ∈ X.pn ++ pins, p.1 ≠ a) : Inv X pins σ (upd H a (exV C a d)) s := by
  have off : ∀ {b : Addr} {o : HO}, H b = some o → upd H a (exV C a d) b = some o := fun {b o} e => by
    rw [upd_ne (ne_of_none e na)]
    exact e
  refine { ok := I.ok, os := I.os, bare := I.bare, base := ?_, loc := I.loc, cell := I.cell, free := ?_, freeC := ?_, pin := ?_, hok := ?_, len := I.len }
  · refine { keep := I.base.keep, slot := I.base.slot, free := ?_, there := I.base.there, tups := fun b xs e => off (I.base.tups b xs e), frzs := fun b o u e => off (I.base.frzs b o u e), tbls := ?_ }
    · intro b o e n hx
      have nb : b ≠ a := by
        rintro rfl
        rw [n0] at e
        cases e
      rw [upd_ne nb]
      exact I.base.free b o e n hx
    · intro b ps e
      obtain ⟨more, q⟩ := I.base.tbls b ps e
      exact ⟨more, off q⟩
  · rw [upd_ne (Ne.symm nL)]
    exact I.free
  · intro y c e
    have nc : c ≠ a := by
      rintro rfl
      obtain ⟨v, o, e1, e2⟩ := I.cell y c e
      rw [he] at e1
      injection e1 with e1
      subst e1
      rw [hd] at e2
      cases e2
    rw [upd_ne nc]
    exact I.freeC y c e
  · intro p hp
    obtain ⟨p1, p2, p3⟩ := I.pin p hp
    exact ⟨p1, by rw [upd_ne (np p hp)]; exact p2, p3⟩
  · intro b o e
    by_cases hb : b = a
    · subst hb
      rw [upd_same] at e
      injection e with e
      subst e
      exact exV_ok he hz hd
    · rw [upd_ne hb] at e
      exact (I.hok b o e).stay (fun _ _ _ z => z) (fun _ z => off z) (fun _ _ z => off z)
/-- what such a clause wishes of an error of the body -/
def wKeep (K : PySem.W.Frag) (c : Value) (i j : Nat) (D : Ends) : WX := fun cls d σ H =>
  ∃ C dd : Addr, cls = .ref C ∧ d = some dd ∧ PySem.W.exmOne K cls c = some true ∧ ∀ a, H a = none → D.nx (((σ.set i (some (.ref a))).set j (some (.ref a))).set i none) (upd H a (exV C a dd))
variable {x n v : Str} {c : Value} {i j : Nat} {body : List Stmt} {np vp xp ap hp0 pos : Pos} {tb : WX → TS}
theorem ps_try_keep (hs : X.stack = X.env :: X.outer) (hf : X.env.frame = some X.env.locals) (hex : X.ex = []) (hN : X.N.Nodup) (hi : X.N[i]? = some n) (hj : X.N[j]? = some v) (hln : X.env.kindOf n = some .local) (hlv : X.env.kindOf v = some .local) (hc : Names X x c)
    (nd : (n == ("__debug__" : Str)) = false) (ncd : (n == ("__classdict__" : Str)) = false) (hij : i < X.N.length)
    (hb : ∀ (W : WX) (pn : List (Addr × Obj)) (xe : Value → Shared → Prop), Takes (X.tr pn xe) W → PSs (X.tr pn xe) body (tb W))
    (hsw : swapsWith (.Name n xp) (some (.Name v vp)) ap.line X.env = pure false := by rfl) :
    PS X (.Try body [.ExceptHandler (some (.Name x np)) (some n) [.Assign [.Name v vp] (.Name n xp) ap] hp0] [] [] pos) (fun D σ H => tb (wKeep X.K c i j D) D σ H) := by
  constructor
  intro pins s σ H D I h
  have ok := I.ok
  have hfr : X.A.frames = some (X.env :: X.outer) := by rw [ok.frames, hs]
  refine wpAny_Try_except ?_
  have body_run := (hb (wKeep X.K c i j D) (X.pn ++ pins) (fun e s₁ => wpAny (model X.prog X.w) X.A (noteFrame e X.env) (fun _ s₂ => wpAny (model X.prog X.w) X.A (setFlight e none) (fun _ s₃ =>
    wpAny (model X.prog X.w) X.A (handleBy e X.env [.ExceptHandler (some (.Name x np)) (some n) [.Assign [.Name v vp] (.Name n xp) ap] hp0]) (L2.SP X pins D) X.xe s₃) X.xe s₂) X.xe s₁) ?take).run [] s σ H D (I.toTry _) h
  case take =>
    rintro _ s1 ⟨a, B, sI, pins1, σ1, H1, cls, d, rfl, J0, nb, up, sky, na, os, ag, C, dd, rfl, rfl, hmatch, next⟩
    have J : Inv X pins σ1 H1 sI := J0.ofTry ok
    rw [show (X.tr (X.pn ++ pins) _).stack = X.env :: X.outer from hs] at sky
    refine Sky.land Zc.steady hfr hf sky fun h3 fl3 up3 => ?_
    obtain ⟨oe3, vs3, he3, hz3, hd3⟩ := fl3.there
    have away : ∀ {o : Obj} {vs : Array Value}, h3.get? a = some o → o.data = .fields vs → a ∉ frs (X.env :: X.outer) := by
      intro o vs e dd hm
      obtain ⟨_, o1, e1, no⟩ := fl3.2.2.1.mem hm
      rw [e] at e1
      injection e1 with e1
      subst e1
      exact no _ dd
    have nfr := away he3 hd3
    have nL : a ≠ X.env.locals := by
      rintro rfl
      exact nfr (List.mem_filterMap.mpr ⟨X.env, List.mem_cons_self, hf⟩)
    have nF : a ∉ X.fs := by
      intro hm
      obtain ⟨e, m1, m2⟩ := List.mem_filterMap.mp hm
      exact nfr (List.mem_filterMap.mpr ⟨e, List.mem_cons_of_mem _ m1, m2⟩)
    have newI : sI.heap.get? a = none := by
      cases q : sI.heap.get? a with
      | none => rfl
      | some o =>
        have z := nb a o q (by show a ∉ frs X.stack; rw [hs]; exact nfr)
        rw [fl3.2.1] at z
        cases z
    have new0 : X.s_0.heap.get? a = none := by
      cases q : X.s_0.heap.get? a with
      | none => rfl
      | some o =>
        obtain ⟨o2, z⟩ := J.base.there a o q (by rw [hex]; exact fun z => nomatch z)
        rw [newI] at z
        cases z
    have newP : ∀ p ∈ X.pn ++ pins, p.1 ≠ a := by
      rintro p hp rfl
      have z := (J.pin p hp).1
      rw [newI] at z
      cases z
    have nb' : ∀ b o, sI.heap.get? b = some o → b ∉ frs X.stack → B.get? b = some o := nb
    have J3 : Inv X pins σ1 H1 { s1 with heap := h3 } := J.landed nb' fl3.1 (up.trans up3) os ag
    have S3 := J3.suite he3 hd3 na nL nF
    refine wpAny_handleBy_cons (codeAny_handlers_test ?_) (fun q => nomatch q)
    have LT : PySem.W.Looks (model X.prog X.w) h3 (typeOf (.ref a)) (.ref C) := by
      intro A Q E s k q
      refine wpAny_typeOf_ref (k _ _ he3) ?_
      rw [hz3.1]
      exact q
    have LM := PySem.W.exm_one (M := model X.prog X.w) J3.kIn LT hmatch
    have named : ∀ {Q : Value → Shared → Prop} {E : Value → Shared → Prop}, Q c { s1 with heap := h3 } → wpAny (model X.prog X.w) (X.A.mark (some (.ref a))) (eval (.Name x np) X.env) Q E { s1 with heap := h3 } := by
      intro Q E q
      obtain ⟨hg, hdbg, hm | ⟨hm, hv, hnn⟩⟩ := hc
      · exact ld_glob (X := X.suite a ((a, oe3) :: (X.pn ++ pins))) S3 hg hm q hdbg
      · exact ld_blt (X := X.suite a ((a, oe3) :: (X.pn ++ pins))) S3 hg hm hv q hnn hdbg
    refine named (LM.here ?_)
    refine codeAny_handlers_suite_as ?_
    refine HandSPX.lands_againZ fl3 fun h4 fl4 up4 => ?_
    have J4 : Inv X pins σ1 H1 { s1 with heap := h4 } := J.landed nb' fl4.1 ((up.trans up3).trans up4) os ag
    obtain ⟨oe4, vs4, he4, hz4, hd4⟩ := fl4.there
    have S4 := J4.suite he4 hd4 na nL nF
    refine store_ok (X := X.suite a ((a, oe4) :: (X.pn ++ pins))) (v := .ref a) S4 hN hi (.inl hln) rfl (fun s5 S5 => ?_) (.inr hln)
    have lenN : σ1.length = X.N.length := J.len
    have the_n : (σ1.set i (some (.ref a)))[i]? = some (some (V.ref a)) := by
      rw [List.getElem?_set_self (by rw [lenN]; exact hij)]
    have st : PSs (X.suite a ((a, oe4) :: (X.pn ++ pins))) [.Assign [.Name v vp] (.Name n xp) ap] (tAsg (tVar i) (gName j)) := pss_one (ps_set hN hj (.inl hlv) (pv i hi (.inl hln) nd ncd) hsw (.inr hlv))
    refine wpAny_mono (st.run [] s5 _ H1 { nx := fun σ' H' => σ' = (σ1.set i (some (.ref a))).set j (some (.ref a)) ∧ H' = H1, rt := fun _ _ => False } S5 (u_asg (u_var the_n ⟨rfl, rfl⟩))) ?_ (fun _ _ z => False.elim z)
    rintro (_ | _ | _ | u) s6 hsp
    · obtain ⟨σ6, H6, S6, rfl, rfl⟩ := hsp
      refine gone_ok (X := X.suite a ((a, oe4) :: (X.pn ++ pins))) S6 hN hi hln ?_
      intro s7 S7
      obtain ⟨p1, p2, _⟩ := S7.pin (a, oe4) (List.mem_append_left _ List.mem_cons_self)
      exact ⟨_, _, Inv.track (S7.unsuite ok) p1 hz4 hd4 p2 new0 nL newP, next a na⟩
    · obtain ⟨_, _, _, z⟩ := hsp
      exact False.elim z
    · obtain ⟨_, _, _, z⟩ := hsp
      exact False.elim z
    · obtain ⟨_, _, _, _, _, z⟩ := hsp
      exact False.elim z
  refine wpAny_mono body_run ?_ (fun e s1 he => he)
  rintro (_ | _ | _ | u) s1 hsp
  · obtain ⟨σ', H', J, q⟩ := hsp
    exact wpAny_execs_nil ⟨σ', H', J.ofTry ok, q⟩
  · obtain ⟨σ', H', J, q⟩ := hsp
    exact ⟨σ', H', J.ofTry ok, q⟩
  · obtain ⟨σ', H', J, q⟩ := hsp
    exact ⟨σ', H', J.ofTry ok, q⟩
  · obtain ⟨v, σ', H', J, r, q⟩ := hsp
    exact ⟨v, σ', H', J.ofTry ok, r, q⟩
end
section
variable {X : Cx} {W : WX} {k j : Nat} {C : Addr} {sp : Sp} {dvs : List V} {x m : Str} {p pos apos : Pos} {e o : Expr} {es : List Expr} {ta : TE} {t : TA}
theorem pass_tk {pins : List (Addr × Obj)} {σ : L2.St} (tk : Takes X W) : PassAt X pins σ (fun cls d H' => W cls d σ H') := fun _ _ e s' I c => tk e s' (XE.of_call I (fun _ _ _ h => h) c)
def tMkW (C : Addr) (sp : Sp) (dvs : List V) (W : WX) (t : TA) : TE := fun σ H Q => t σ H fun vs H1 => ∀ x dx, H1 x = none → H1 dx = none → dx ≠ x →
  sp (.ref x :: (vs ++ dvs)) (upd (upd H1 dx (.own x)) x (.ins C dx [])) (fun v H2 => v = .non ∧ Q (.ref x) H2) (fun cls d H' => W cls d σ H')
theorem pe_mkW (tk : Takes X W) (c : Mak X.prog X.w X.K X.mg X.base k x C sp dvs) (hr : Rm j X.A) (hk : k + 1 ≤ j) (hg : Gl X x) (ha : PA X (e :: es) t) (hdb : (x == ("__debug__" : Str)) = false := by decide)
    (he : starEach (e :: es) X.env = (false, eval e X.env) :: starEach es X.env := by rfl) (hpl : (backTo pos (starEach es X.env)).any (·.1) = false := by rfl) : PE X (.Call (.Name x p) (e :: es) [] pos) (tMkW C sp dvs W t) := by
  obtain ⟨f, fd, ps, ds, M, F, hm, b, d⟩ := c.ex
  constructor
  intro pins s σ H Q I h
  refine wpAny_Call_Name_kw (ld_glob I hg hm ?_ hdb)
  refine PySem.W.callWith_K (h₀ := X.base) I.ok.mod.kin M.kp (thn (ha.run pos pins s σ H _ I h) ?_) he hpl
  rintro us s1 ⟨vs, H1, I1, r, q⟩
  exact ⟨I1.kIn, makeG M F (hr.mono hk) b d (pass_tk tk) I1 r q⟩
def tCW (sp : Sp) (dvs : List V) (W : WX) (t : TA) : TE := fun σ H Q => t σ H fun vs H1 => sp (vs ++ dvs) H1 Q (fun cls d H' => W cls d σ H')
theorem pe_cW (tk : Takes X W) (c : Cal X.prog X.w X.K X.mg X.base k x sp dvs) (hr : Rm j X.A) (hk : k ≤ j) (hg : Gl X x) (ha : PA X (e :: es) t) (hdb : (x == ("__debug__" : Str)) = false := by decide)
    (he : starEach (e :: es) X.env = (false, eval e X.env) :: starEach es X.env := by rfl) (hpl : (backTo pos (starEach es X.env)).any (·.1) = false := by rfl) : PE X (.Call (.Name x p) (e :: es) [] pos) (tCW sp dvs W t) := by
  obtain ⟨f, fd, ps, ds, F, hm, kp, b, d⟩ := c.ex
  constructor
  intro pins s σ H Q I h
  refine wpAny_Call_Name_kw (ld_glob I hg hm ?_ hdb)
  refine PySem.W.callWith_K (h₀ := X.base) I.ok.mod.kin kp (thn (ha.run pos pins s σ H _ I h) ?_) he hpl
  rintro us s1 ⟨vs, H1, I1, r, q⟩
  exact ⟨I1.kIn, runG F (hr.mono hk) b d (pass_tk tk) I1 r q⟩
end
/-- a def's own wish about errors -/
theorem tk_cx {P : Program} {w : World} {K : PySem.W.Frag} {mg : Str → Option Value} {base : Heap} {N : List Str} {qual : Str} {sc : Scope} {f : Addr} {cdv : Value} {A : Around} {out : List Env} {s : Shared} {H : Hp} {E : XK} :
    Takes (cxOf (L2.CX P w) P w K mg base N qual sc f cdv A out s H E) (fun cls d _ H' => E cls d H') := takes_of rfl rfl rfl rfl
/-- the first parameter of a def's text -/
def argOf (st : Stmt) : Arg := (((C8.fnArgs st).posonlyargs ++ (C8.fnArgs st).args).head?).getD { arg := "", annotation := none, pos := ⟨0, 0, 0, 0⟩ }
section
variable {K : PySem.W.Frag} {H : Hp} {Q : VK}
theorem r_isX {x c : V} {t u : Value} {b : Bool} (hc : ClsV c u) (ty : TyE K H x t) (h0 : PySem.W.kitOne K t u = some b) (h : Q (.bl b) H) : rIsX K [x, c] H Q := ⟨x, c, t, u, b, rfl, hc, ty, h0, h⟩
end
end Tw
namespace Tw
open PySem PySem.Spec PyProof.Rows L2
section
variable {K : PySem.W.Frag} {g : TG} {tt : TT} {te t0 : TE} {tA : TA} {vs : List Nat} {σ : L2.St} {H : Hp} {Q : VK}
/-- the rest, from where the source is known -/
def kLc (J : It) (g : TG) (tt : TT) (te : TE) (vs : List Nat) (σ : L2.St) (Q : VK) (H1 : Hp) : Prop := ∀ D, H1 D = none → ∃ W : Nat → Nat → Hp → Prop, (∃ m, W 0 m (upd H1 D (.lst []))) ∧ ∀ i m H, W i m H →
  (J.stop i H ∧ Q (.ref D) H) ∨ (J.go i H ∧ ∃ Nx : Hp → Prop, (∀ H', Nx H' → ∃ m', m' < m ∧ W (i + 1) m' H') ∧ ∀ x H', J.yld i H x H' → g x (wipe σ vs) H' fun σ2 H2 => wipe σ2 vs = wipe σ vs ∧ tt σ2 H2 fun b H3 =>
    if b = true then te σ2 H3 fun y H4 => ∃ acc, H4 D = some (.lst acc) ∧ acc.length < sizeLine ∧ Nx (upd H4 D (.lst (acc ++ [y]))) else Nx H3)
def kLcStr (g : TG) (tt : TT) (te : TE) (vs : List Nat) (σ : L2.St) (Q : VK) : VK := fun v H1 => ∃ x, v = .str x ∧ kLc (Its x) g tt te vs σ Q H1
def kLcLst (K : PySem.W.Frag) (g : TG) (tt : TT) (te : TE) (vs : List Nat) (σ : L2.St) (Q : VK) : VK := fun v H1 => ∃ a, v = .ref a ∧ (∃ xs, SqL K H1 a xs) ∧ kLc (Itl K a) g tt te vs σ Q H1
def kLcRng (g : TG) (tt : TT) (te : TE) (vs : List Nat) (σ : L2.St) (Q : VK) : List V → Hp → Prop := fun ws H1 => ∃ j : Int, ws = [.int j] ∧ -(2 ^ 62) ≤ j ∧ j < 2 ^ 62 ∧ kLc (Itr 0 j.toNat) g tt te vs σ Q H1
theorem u_lcS (h : t0 σ H (kLcStr g tt te vs σ Q)) : tLc (iStr t0) g tt te vs σ H Q := h
theorem u_lcL (h : t0 σ H (kLcLst K g tt te vs σ Q)) : tLc (iList K t0) g tt te vs σ H Q := h
theorem u_lcR (h : tA σ H (kLcRng g tt te vs σ Q)) : tLc (iRng1 tA) g tt te vs σ H Q := h
theorem k_str {x : Str} (h : kLc (Its x) g tt te vs σ Q H) : kLcStr g tt te vs σ Q (.str x) H := ⟨x, rfl, h⟩
end
section
variable {K : PySem.W.Frag} {tA : TA} {ta : TE} {σ : L2.St} {H : Hp} {Q : VK} {QX : XK} {C : Addr} {fs : List Str}
def kXr (C : Addr) (fs : List Str) (QX : XK) : List V → Hp → Prop := fun vs H1 => vs.length = fs.length ∧ ∀ dx, H1 dx = none → QX (.ref C) (some dx) (upd H1 dx (.xd (fs.zip vs)))
theorem u_xr (h : tA σ H (kXr C fs QX)) : tXr C fs tA σ H QX := h
def kXv (C : Addr) (fs : List Str) (Q : VK) : List V → Hp → Prop := fun vs H1 => vs.length = fs.length ∧ ∀ a dx, H1 a = none → H1 dx = none → dx ≠ a → Q (.ref a) (upd (upd H1 dx (.xd (fs.zip vs))) a (exV C a dx))
theorem u_xv (h : tA σ H (kXv C fs Q)) : tXv C fs tA σ H Q := h
def kXg (C : Addr) (f : Str) (Q : VK) : VK := fun x H1 => ∃ (a d : Addr) (fs : List (Str × V)) (v : V), x = .ref a ∧ H1 a = some (exV C a d) ∧ H1 d = some (.xd fs) ∧ fs.lookup f = some v ∧ Q v H1
theorem u_xg {f : Str} (h : ta σ H (kXg C f Q)) : tXg C f ta σ H Q := h
def kMkW (C : Addr) (sp : Sp) (dvs : List V) (W : WX) (σ : L2.St) (Q : VK) : List V → Hp → Prop := fun vs H1 => ∀ x dx, H1 x = none → H1 dx = none → dx ≠ x →
  sp (.ref x :: (vs ++ dvs)) (upd (upd H1 dx (.own x)) x (.ins C dx [])) (fun v H2 => v = .non ∧ Q (.ref x) H2) (fun cls d H' => W cls d σ H')
theorem u_mkW {sp : Sp} {dvs : List V} {W : WX} (h : tA σ H (kMkW C sp dvs W σ Q)) : tMkW C sp dvs W tA σ H Q := h
end
section
variable {X : Cx} {k j : Nat} {C : Addr} {sp : Sp}
/-- an instance and anything, compared by == -/
def rOwnEqA (K : PySem.W.Frag) (C : Addr) (sp : Sp) : R2 := fun x y H Q => ∃ a dx fs t, x = .ref a ∧ H a = some (.ins C dx fs) ∧ TyE K H y t ∧ PySem.W.notFirst K C t = true ∧ sp [.ref a, y] H Q E0
theorem op_ownEqA (c : Met X.prog X.w X.K X.mg X.base k C "__eq__" sp []) (hr : Rm j X.A) (hk : k ≤ j) : OpR X (compareOp .Eq) (rOwnEqA X.K C sp) := by
  intro pins s σ H x y v u Q I rx ry h
  obtain ⟨a, dx, fs, t, rfl, ha, ty, nf, want⟩ := h
  cases rx
  obtain ⟨f, fd, ps, ds, hc, me, F, bd, dv⟩ := c.ex
  obtain ⟨mA, J, _⟩ := ins_get I.hok ha
  obtain ⟨od, J, _⟩ := J.look
  obtain ⟨mm, hF⟩ := I.fr
  have lt : PySem.W.Looks (model X.prog X.w) s.heap (typeOf u) t := by
    obtain ⟨P, Z, p, _⟩ := kitE_of I ry ty
    exact Z.ty (model X.prog X.w) s.heap I.kIn p
  show wpAny (model X.prog X.w) X.A (richCompare .Eq (.ref a) u) (EP X pins σ Q) X.xe s
  refine PySem.W.cmp_K (op := .Eq) hr.room.units0 hF I.ok.mod.kin J lt nf me.at_ me.fn ?_
  refine wpAny_mono (runG (us := [.ref a, u]) (vs := [.ref a, y]) F (hr.mono hk) bd dv (passL _ _) I (.cons rfl (.cons ry .nil)) ?_) (fun _ _ z => cmpBack_of z) fun _ _ z => z
  simpa using want
end
section
variable {σ : L2.St} {H : Hp} {Q : VK} {QS : Str → Hp → Prop} {te : TE} {ts : List TE} {acc y : Str} {i : Int}
def kJs (ts : List TE) (acc : Str) (σ : L2.St) (QS : Str → Hp → Prop) : VK := fun x H1 => ∃ y : Str, x = .str y ∧ (acc ++ y).length ≤ sizeLine ∧ tJs ts (acc ++ y) σ H1 QS
def kFmt (Q : VK) : VK := fun x H1 => (∃ y : Str, x = .str y ∧ y.length ≤ sizeLine ∧ Q (.str y) H1) ∨ ∃ i : Int, x = .int i ∧ i.natAbs.log2 < 1920 ∧ Q (.str (toString i)) H1
theorem u_js (h : te σ H (kJs ts acc σ QS)) : tJs (te :: ts) acc σ H QS := h
theorem u_js0 (h : QS acc H) : tJs [] acc σ H QS := h
theorem u_fmt (h : te σ H (kFmt Q)) : tFmt te σ H Q := h
end
section
variable {X : Cx}
theorem call_or {f : Value} {A B : List V → Hp → VK → Prop} (h1 : CallR X f A) (h2 : CallR X f B) : CallR X f (fun xs H Q => A xs H Q ∨ B xs H Q) := by
  intro pins s σ H xs us Q I r h
  rcases h with h | h
  · exact h1 pins s σ H xs us Q I r h
  · exact h2 pins s σ H xs us Q I r h
end
end Tw
namespace Mr
open PySem PySem.Spec PyProof.Rows L2 Tw
/-- addresses by number; tables of code objects, with the name that is told there -/
structure CL where
  n : Nat → Addr
  t : List (Addr × Str) := []
  d : Bool := false
  ns : List Int := []
instance : CoeFun CL fun _ => Nat → Addr := ⟨CL.n⟩
/-- kinds of values: built-in ones, own classes by number -/
inductive Ty where
  | non | bool | int | str | list | tup | dict | own (c : Nat) | vex
  deriving DecidableEq
def Ty.v (cl : CL) : Ty → V
  | .non => .ty "NoneType" | .bool => .ty "bool" | .int => .ty "int" | .str => .ty "str" | .list => .ty "list" | .tup => .ty "tuple" | .dict => .ty "dict" | .own c => .ref (cl c) | .vex => .ty "ValueError"
def Ty.u (cl : CL) : Ty → Value
  | .non => .type "NoneType" | .bool => .type "bool" | .int => .type "int" | .str => .type "str" | .list => .type "list" | .tup => .type "tuple" | .dict => .type "dict" | .own c => .ref (cl c) | .vex => .type "ValueError"
theorem Ty.cls (cl : CL) : ∀ k : Ty, ClsV (k.v cl) (k.u cl)
  | .non => .ty _ | .bool => .ty _ | .int => .ty _ | .str => .ty _ | .list => .ty _ | .tup => .ty _ | .dict => .ty _ | .own _ => .own _ | .vex => .ty _
/-- a value as a tree; what may change later is a cell -/
inductive T where
  | non | bl (b : Bool) | int (i : Int) | str (z : Str)
  | lst (xs : List T) | tup (xs : List T) | dct (kvs : List (Key × T))
  | obj (c : Nat) (fs : List (Str × T)) | err (c : Nat) (fs : List (Str × T))
  | cell (a : Addr) | pen | ty (k : Ty)
  | lam (f c : Addr) (q : Str) (σ : List (Option V)) (τ : List (Option T))
inductive Cell where
  | lst (xs : List T) | obj (c : Nat) (fs : List (Str × T)) | dct (kvs : List (Key × T))
/-- the pen's place and how far it is, the cells -/
structure S where
  pa : Option Addr
  pen : Nat
  on : Addr → Option Cell
def S.mut (s : S) (a : Addr) : Prop := s.pa = some a ∨ s.on a ≠ none
def S.put (s : S) (a : Addr) (c : Cell) : S := { s with on := fun b => if b = a then some c else s.on b }
def S.del (s : S) (a : Addr) : S := { s with on := fun b => if b = a then none else s.on b }
def S.pn (s : S) (n : Nat) : S := { s with pen := n }
/-- an error: its class, its fields -/
structure Er where
  c : Nat
  fs : List (Str × T)
theorem S.put_same (s : S) (a : Addr) (c : Cell) : (s.put a c).on a = some c := if_pos rfl
theorem S.put_ne {s : S} {a b : Addr} {c : Cell} (h : b ≠ a) : (s.put a c).on b = s.on b := if_neg h
theorem S.del_put {s : S} {a : Addr} {c : Cell} (h : s.on a = none) : (s.put a c).del a = s := by
  unfold S.put S.del
  cases s with
  | mk p n o =>
    congr 1
    funext b
    show (if b = a then none else if b = a then some c else o b) = o b
    by_cases e : b = a
    · rw [if_pos e, e]
      exact h.symm
    · rw [if_neg e, if_neg e]
theorem S.put_put (s : S) (a : Addr) (c d : Cell) : (s.put a c).put a d = s.put a d := by
  unfold S.put
  congr 1
  funext b
  show (if b = a then some d else if b = a then some c else s.on b) = _
  by_cases e : b = a
  · rw [if_pos e, if_pos e]
  · rw [if_neg e, if_neg e, if_neg e]
theorem S.put_pn (s : S) (a : Addr) (c : Cell) (n : Nat) : (s.put a c).pn n = (s.pn n).put a c := rfl
theorem S.pn_pn (s : S) (n m : Nat) : (s.pn n).pn m = s.pn m := rfl
theorem S.pn_on (s : S) (n : Nat) : (s.pn n).on = s.on := rfl
theorem S.pn_pen (s : S) (n : Nat) : (s.pn n).pen = n := rfl
theorem S.put_pen (s : S) (a : Addr) (c : Cell) : (s.put a c).pen = s.pen := rfl
/-- a thing at a never changes: no cell, not hidden -/
def Fz (Z : Addr → Prop) (s : S) (a : Addr) : Prop := ¬ s.mut a ∧ ¬ Z a
section
variable (K : PySem.W.Frag) (cl : CL) (Z : Addr → Prop)
mutual
/-- the value v of the heap is the tree t -/
inductive Rep (s : S) (H : Hp) : V → T → Prop
  | non : Rep s H .non .non
  | bl (b : Bool) : Rep s H (.bl b) (.bl b)
  | int (i : Int) : Rep s H (.int i) (.int i)
  | str (z : Str) : Rep s H (.str z) (.str z)
  | lst {a : Addr} {vs : List V} {xs : List T} : H a = some (.lst vs) → Fz Z s a → Reps s H vs xs → Rep s H (.ref a) (.lst xs)
  | tup {a : Addr} {vs : List V} {xs : List T} : H a = some (.tup vs) → Fz Z s a → Reps s H vs xs → Rep s H (.ref a) (.tup xs)
  | tupK {a : Addr} {vs : List V} {xs : List T} {o : Obj} {its : Array Value} {n : Nat} : K.lookup a = some o → o.cls = .type "tuple" → o.data = .seq its n → its.size ≤ sizeLine → Vals vs its.toList → Reps s H vs xs → Rep s H (.ref a) (.tup xs)
  | dct {a : Addr} {kvv : List (Key × V)} {kvs : List (Key × T)} : Rd H a (.dK kvv) → Fz Z s a → RepK s H kvv kvs → Rep s H (.ref a) (.dct kvs)
  | obj {a dx : Addr} {c : Nat} {fvs : List (Str × V)} {fs : List (Str × T)} : H a = some (.ins (cl c) dx fvs) → Fz Z s a → RepF s H fvs fs → Rep s H (.ref a) (.obj c fs)
  | err {a d : Addr} {c : Nat} {fvs : List (Str × V)} {fs : List (Str × T)} : H a = some (exV (cl c) a d) → Fz Z s a → H d = some (.xd fvs) → Fz Z s d → RepF s H fvs fs → Rep s H (.ref a) (.err c fs)
  | cell (a : Addr) : Rep s H (.ref a) (.cell a)
  | pen {a : Addr} : s.pa = some a → Rep s H (.ref a) .pen
  | ty (k : Ty) : Rep s H (k.v cl) (.ty k)
  | lam {f c : Addr} {q : Str} {σ : List (Option V)} {τ : List (Option T)} : H c = some (LamX.CodeO c q) → Fz Z s c → RepE s H σ τ → Rep s H (.ref f) (.lam f c q σ τ)
inductive Reps (s : S) (H : Hp) : List V → List T → Prop
  | nil : Reps s H [] []
  | cons {v : V} {t : T} {vs : List V} {ts : List T} : Rep s H v t → Reps s H vs ts → Reps s H (v :: vs) (t :: ts)
inductive RepF (s : S) (H : Hp) : List (Str × V) → List (Str × T) → Prop
  | nil : RepF s H [] []
  | cons {f : Str} {v : V} {t : T} {vs : List (Str × V)} {ts : List (Str × T)} : Rep s H v t → RepF s H vs ts → RepF s H ((f, v) :: vs) ((f, t) :: ts)
inductive RepK (s : S) (H : Hp) : List (Key × V) → List (Key × T) → Prop
  | nil : RepK s H [] []
  | cons {k : Key} {v : V} {t : T} {vs : List (Key × V)} {ts : List (Key × T)} : Rep s H v t → RepK s H vs ts → RepK s H ((k, v) :: vs) ((k, t) :: ts)
inductive RepE (s : S) (H : Hp) : List (Option V) → List (Option T) → Prop
  | nil : RepE s H [] []
  | c0 {σ : List (Option V)} {τ : List (Option T)} : RepE s H σ τ → RepE s H (none :: σ) (none :: τ)
  | c1 {v : V} {t : T} {σ : List (Option V)} {τ : List (Option T)} : Rep s H v t → RepE s H σ τ → RepE s H (some v :: σ) (some t :: τ)
end
/-- from (s, H) on to (s', H'): what may not change stands -/
def NT (o : HO) : Prop := match o with | .tbl _ | .dK _ => False | _ => True
/-- .. nor a thing that is being walked -/
def NF (o : HO) : Prop := match o with | .tbl _ | .dK _ | .frz _ _ => False | _ => True
theorem NF.nt {o : HO} (h : NF o) : NT o := by
  unfold NF at h
  unfold NT
  split at h <;> first | exact h.elim | skip
  split <;> first | trivial | simp_all
theorem NT.tb {o : HO} (h : NT o) : ∀ ps, o ≠ .tbl ps := fun _ e => by subst e; exact h
theorem NT.lst (xs : List V) : NT (.lst xs) := trivial
theorem NT.tup (xs : List V) : NT (.tup xs) := trivial
theorem NT.ins (C dx : Addr) (xs : List (Str × V)) : NT (.ins C dx xs) := trivial
theorem NT.exV (C a d : Addr) : NT (exV C a d) := trivial
theorem NT.code (c : Addr) (q : Str) : NT (LamX.CodeO c q) := trivial
theorem NT.xd (xs : List (Str × V)) : NT (.xd xs) := trivial
structure Fut (s : S) (H : Hp) (s' : S) (H' : Hp) : Prop where
  keep : ∀ b o, H b = some o → ¬ s.mut b → NT o → H' b = some o ∧ ¬ s'.mut b
  keepD : ∀ b kvv, Rd H b (.dK kvv) → ¬ s.mut b → Rd H' b (.dK kvv) ∧ ¬ s'.mut b
  pa : ∀ a, s.pa = some a → s'.pa = some a
theorem Fut.all {s s' : S} {H H' : Hp} (k : ∀ b o, H b = some o → ¬ s.mut b → (∀ ps, o ≠ .tbl ps) → H' b = some o ∧ ¬ s'.mut b) (p : ∀ a, s.pa = some a → s'.pa = some a) : Fut s H s' H' :=
  ⟨fun b o h n nt => k b o h n nt.tb, fun b kvv h n => by
    rcases h with h | ⟨o, h⟩
    · exact ⟨.inl (k b _ h n nofun).1, (k b _ h n nofun).2⟩
    · exact ⟨.inr ⟨o, (k b _ h n nofun).1⟩, (k b _ h n nofun).2⟩, p⟩
theorem Rd.ne {H : Hp} {a p : Addr} {u : HO} (h : Rd H a u) (hp : H p = none) : a ≠ p := by
  rcases h with h | ⟨_, h⟩
  · exact ne_of_none h hp
  · exact ne_of_none h hp
theorem Rd.to {H H' : Hp} {a : Addr} {u : HO} (h : Rd H a u) (k : ∀ o, H a = some o → H' a = some o) : Rd H' a u := by
  rcases h with h | ⟨o, h⟩
  · exact .inl (k _ h)
  · exact .inr ⟨o, k _ h⟩
theorem Fut.refl (s : S) (H : Hp) : Fut s H s H := .all (fun _ _ h n _ => ⟨h, n⟩) fun _ h => h
theorem Fut.trans {s s1 s2 : S} {H H1 H2 : Hp} (a : Fut s H s1 H1) (b : Fut s1 H1 s2 H2) : Fut s H s2 H2 :=
  ⟨fun c o h n nt => by
    obtain ⟨h1, n1⟩ := a.keep c o h n nt
    exact b.keep c o h1 n1 nt, fun c kvv h n => b.keepD c kvv (a.keepD c kvv h n).1 (a.keepD c kvv h n).2, fun c h => b.pa c (a.pa c h)⟩
variable {K cl Z}
/-- .. what is walked may change its state -/
structure FutU (s : S) (H : Hp) (s' : S) (H' : Hp) : Prop where
  keep : ∀ b o, H b = some o → ¬ s.mut b → NF o → H' b = some o ∧ ¬ s'.mut b
  keepD : ∀ b kvv, Rd H b (.dK kvv) → ¬ s.mut b → Rd H' b (.dK kvv) ∧ ¬ s'.mut b
  pa : ∀ a, s.pa = some a → s'.pa = some a
theorem Fut.u {s s' : S} {H H' : Hp} (f : Fut s H s' H') : FutU s H s' H' := ⟨fun b o h n nf => f.keep b o h n nf.nt, f.keepD, f.pa⟩
theorem Fz.futUD {s s' : S} {H H' : Hp} {a : Addr} {kvv : List (Key × V)} (n : Fz Z s a) (f : FutU s H s' H') (h : Rd H a (.dK kvv)) : Fz Z s' a := ⟨(f.keepD a _ h n.1).2, n.2⟩
theorem Fz.futU {s s' : S} {H H' : Hp} {a : Addr} {u : HO} (n : Fz Z s a) (f : FutU s H s' H') (h : H a = some u) (nt : NF u) : Fz Z s' a := ⟨(f.keep a _ h n.1 nt).2, n.2⟩
theorem Fz.fut {s s' : S} {H H' : Hp} {a : Addr} {u : HO} (n : Fz Z s a) (f : Fut s H s' H') (h : H a = some u) (nt : NT u) : Fz Z s' a := ⟨(f.keep a _ h n.1 nt).2, n.2⟩
mutual
theorem Rep.futU {s s' : S} {H H' : Hp} (f : FutU s H s' H') : ∀ {v : V} {t : T}, Rep K cl Z s H v t → Rep K cl Z s' H' v t
  | _, _, .non => .non
  | _, _, .bl b => .bl b
  | _, _, .int i => .int i
  | _, _, .str z => .str z
  | _, _, .lst h n r => .lst (f.keep _ _ h n.1 trivial).1 (n.futU f h trivial) (r.futU f)
  | _, _, .tup h n r => .tup (f.keep _ _ h n.1 trivial).1 (n.futU f h trivial) (r.futU f)
  | _, _, .tupK a b d e g r => .tupK a b d e g (r.futU f)
  | _, _, .dct h n r => .dct (f.keepD _ _ h n.1).1 (n.futUD f h) (r.futU f)
  | _, _, .obj h n r => .obj (f.keep _ _ h n.1 trivial).1 (n.futU f h trivial) (r.futU f)
  | _, _, .err h n h2 n2 r => .err (f.keep _ _ h n.1 trivial).1 (n.futU f h trivial) (f.keep _ _ h2 n2.1 trivial).1 (n2.futU f h2 trivial) (r.futU f)
  | _, _, .cell a => .cell a
  | _, _, .pen h => .pen (f.pa _ h)
  | _, _, .ty n => .ty n
  | _, _, .lam h n r => .lam (f.keep _ _ h n.1 trivial).1 (n.futU f h trivial) (r.futU f)
theorem Reps.futU {s s' : S} {H H' : Hp} (f : FutU s H s' H') : ∀ {vs : List V} {ts : List T}, Reps K cl Z s H vs ts → Reps K cl Z s' H' vs ts
  | _, _, .nil => .nil
  | _, _, .cons h r => .cons (h.futU f) (r.futU f)
theorem RepF.futU {s s' : S} {H H' : Hp} (f : FutU s H s' H') : ∀ {vs : List (Str × V)} {ts : List (Str × T)}, RepF K cl Z s H vs ts → RepF K cl Z s' H' vs ts
  | _, _, .nil => .nil
  | _, _, .cons h r => .cons (h.futU f) (r.futU f)
theorem RepK.futU {s s' : S} {H H' : Hp} (f : FutU s H s' H') : ∀ {vs : List (Key × V)} {ts : List (Key × T)}, RepK K cl Z s H vs ts → RepK K cl Z s' H' vs ts
  | _, _, .nil => .nil
  | _, _, .cons h r => .cons (h.futU f) (r.futU f)
theorem RepE.futU {s s' : S} {H H' : Hp} (f : FutU s H s' H') : ∀ {vs : List (Option V)} {ts : List (Option T)}, RepE K cl Z s H vs ts → RepE K cl Z s' H' vs ts
  | _, _, .nil => .nil
  | _, _, .c0 r => .c0 (r.futU f)
  | _, _, .c1 h r => .c1 (h.futU f) (r.futU f)
end
section
variable {s s' : S} {H H' : Hp}
theorem Rep.fut (f : Fut s H s' H') {v : V} {t : T} (r : Rep K cl Z s H v t) : Rep K cl Z s' H' v t := r.futU f.u
theorem Reps.fut (f : Fut s H s' H') {vs : List V} {ts : List T} (r : Reps K cl Z s H vs ts) : Reps K cl Z s' H' vs ts := r.futU f.u
theorem RepF.fut (f : Fut s H s' H') {vs : List (Str × V)} {ts : List (Str × T)} (r : RepF K cl Z s H vs ts) : RepF K cl Z s' H' vs ts := r.futU f.u
theorem RepK.fut (f : Fut s H s' H') {vs : List (Key × V)} {ts : List (Key × T)} (r : RepK K cl Z s H vs ts) : RepK K cl Z s' H' vs ts := r.futU f.u
theorem RepE.fut (f : Fut s H s' H') {σ : List (Option V)} {τ : List (Option T)} (r : RepE K cl Z s H σ τ) : RepE K cl Z s' H' σ τ := r.futU f.u
end
theorem Reps.length {s : S} {H : Hp} : ∀ {vs : List V} {ts : List T}, Reps K cl Z s H vs ts → vs.length = ts.length
  | _, _, .nil => rfl
  | _, _, .cons _ r => congrArg (· + 1) r.length
theorem Reps.append {s : S} {H : Hp} {vs' : List V} {ts' : List T} : ∀ {vs : List V} {ts : List T}, Reps K cl Z s H vs ts → Reps K cl Z s H vs' ts' → Reps K cl Z s H (vs ++ vs') (ts ++ ts')
  | _, _, .nil, q => q
  | _, _, .cons h r, q => .cons h (Reps.append r q)
theorem Reps.get {s : S} {H : Hp} : ∀ {vs : List V} {ts : List T} (i : Nat) {t : T}, Reps K cl Z s H vs ts → ts[i]? = some t → ∃ v, vs[i]? = some v ∧ Rep K cl Z s H v t
  | _, _, i, _, .nil, e => by simp at e
  | _, _, 0, _, .cons h _, e => by
    rw [List.getElem?_cons_zero] at e
    cases e
    exact ⟨_, List.getElem?_cons_zero, h⟩
  | _, _, i + 1, _, .cons _ r, e => by
    rw [List.getElem?_cons_succ] at e
    obtain ⟨v, e1, h1⟩ := r.get i e
    exact ⟨v, by rw [List.getElem?_cons_succ]; exact e1, h1⟩
theorem Reps.take {s : S} {H : Hp} : ∀ {vs : List V} {ts : List T} (n : Nat), Reps K cl Z s H vs ts → Reps K cl Z s H (vs.take n) (ts.take n)
  | _, _, 0, _ => by rw [List.take_zero, List.take_zero]; exact .nil
  | _, _, _ + 1, .nil => .nil
  | _, _, n + 1, .cons h r => .cons h (r.take n)
theorem Reps.drop {s : S} {H : Hp} : ∀ {vs : List V} {ts : List T} (n : Nat), Reps K cl Z s H vs ts → Reps K cl Z s H (vs.drop n) (ts.drop n)
  | _, _, 0, r => r
  | _, _, _ + 1, .nil => .nil
  | _, _, n + 1, .cons _ r => r.drop n
theorem Reps.set {s : S} {H : Hp} {v : V} {t : T} (q : Rep K cl Z s H v t) : ∀ {vs : List V} {ts : List T} (n : Nat), Reps K cl Z s H vs ts → Reps K cl Z s H (vs.set n v) (ts.set n t)
  | _, _, _, .nil => .nil
  | _, _, 0, .cons _ r => .cons q r
  | _, _, n + 1, .cons h r => .cons h (r.set q n)
theorem Reps.reverse {s : S} {H : Hp} : ∀ {vs : List V} {ts : List T}, Reps K cl Z s H vs ts → Reps K cl Z s H vs.reverse ts.reverse
  | _, _, .nil => .nil
  | _, _, .cons h r => by
    rw [List.reverse_cons, List.reverse_cons]
    exact Reps.append r.reverse (.cons h .nil)
theorem Reps.replicate {s : S} {H : Hp} {v : V} {t : T} (q : Rep K cl Z s H v t) : ∀ n : Nat, Reps K cl Z s H (List.replicate n v) (List.replicate n t)
  | 0 => .nil
  | n + 1 => by rw [List.replicate_succ, List.replicate_succ]; exact .cons q (Reps.replicate q n)
theorem RepF.lookup {s : S} {H : Hp} : ∀ {vs : List (Str × V)} {ts : List (Str × T)} {f : Str} {t : T}, RepF K cl Z s H vs ts → ts.lookup f = some t → ∃ v, vs.lookup f = some v ∧ Rep K cl Z s H v t
  | _, _, f, _, .nil, e => by simp at e
  | _, _, f, _, .cons (f := g) h r, e => by
    rw [List.lookup_cons] at e ⊢
    by_cases q : (f == g) = true
    · rw [q] at e ⊢
      cases e
      exact ⟨_, rfl, h⟩
    · rw [Bool.not_eq_true] at q
      rw [q] at e ⊢
      exact r.lookup e
theorem RepF.lookup0 {s : S} {H : Hp} : ∀ {vs : List (Str × V)} {ts : List (Str × T)} {f : Str}, RepF K cl Z s H vs ts → ts.lookup f = none → vs.lookup f = none
  | _, _, f, .nil, _ => rfl
  | _, _, f, .cons (f := g) h r, e => by
    rw [List.lookup_cons] at e ⊢
    by_cases q : (f == g) = true
    · rw [q] at e
      cases e
    · rw [Bool.not_eq_true] at q
      rw [q] at e ⊢
      exact r.lookup0 e
def putT (f : Str) (t : T) : List (Str × T) → List (Str × T)
  | [] => [(f, t)]
  | (g, x) :: r => if g = f then (g, t) :: r else (g, x) :: putT f t r
theorem RepF.put {s : S} {H : Hp} {f : Str} {v : V} {t : T} (q : Rep K cl Z s H v t) : ∀ {vs : List (Str × V)} {ts : List (Str × T)}, RepF K cl Z s H vs ts → RepF K cl Z s H (putF f v vs) (putT f t ts)
  | _, _, .nil => .cons q .nil
  | _, _, .cons (f := g) h r => by
    unfold putF putT
    by_cases e : g = f
    · rw [if_pos e, if_pos e]
      exact .cons q r
    · rw [if_neg e, if_neg e]
      exact .cons h (r.put q)
theorem RepF.length {s : S} {H : Hp} : ∀ {vs : List (Str × V)} {ts : List (Str × T)}, RepF K cl Z s H vs ts → vs.length = ts.length
  | _, _, .nil => rfl
  | _, _, .cons _ r => congrArg (· + 1) r.length
theorem RepF.zip {s : S} {H : Hp} : ∀ {fs : List Str} {vs : List V} {ts : List T}, Reps K cl Z s H vs ts → RepF K cl Z s H (fs.zip vs) (fs.zip ts)
  | [], _, _, _ => by rw [List.zip_nil_left, List.zip_nil_left]; exact .nil
  | _ :: _, _, _, .nil => .nil
  | _ :: _, _, _, .cons h r => .cons h (RepF.zip r)
/-- the pen's object: a list, or a dict -/
def penO (d : Bool) (L : Addr) (a r : Int) : HO := match d with
  | false => .lst [.ref L, .int a, .int r]
  | true => .dK [(.inr "cells", .ref L), (.inr "at", .int a), (.inr "left", .int r)]
theorem penO_pl (d : Bool) (L : Addr) (a r : Int) : (∀ ps, penO d L a r ≠ .tbl ps) ∧ ∀ p, penO d L a r ≠ .ext p := by cases d <;> exact ⟨nofun, nofun⟩
def PenOk (d : Bool) (cs : List Int) (Z : Addr → Prop) (s : S) (H : Hp) (p : Addr) (n : Nat) : Prop := ∃ (L : Addr) (a r : Int) (ns : List Int), H p = some (penO d L a r) ∧ H L = some (.lst (ns.map V.int)) ∧ Fz Z s L ∧ 0 ≤ a ∧ a ≤ n ∧ ns.length ≤ 63 ∧ (d = true → ns = cs)
def CRep (K : PySem.W.Frag) (cl : CL) (Z : Addr → Prop) (s : S) (H : Hp) (a : Addr) : Cell → Prop
  | .lst xs => ∃ vs, H a = some (.lst vs) ∧ Reps K cl Z s H vs xs
  | .obj c fs => ∃ dx fvs, H a = some (.ins (cl c) dx fvs) ∧ RepF K cl Z s H fvs fs
  | .dct kvs => ∃ kvv, H a = some (.dK kvv) ∧ RepK K cl Z s H kvv kvs
theorem CRep.some {s : S} {H : Hp} {a : Addr} {c : Cell} (h : CRep K cl Z s H a c) : ∃ o, H a = some o := by
  cases c with
  | lst xs => exact ⟨_, h.choose_spec.1⟩
  | obj c fs => exact ⟨_, h.choose_spec.choose_spec.1⟩
  | dct kvs => exact ⟨_, h.choose_spec.1⟩
theorem CRep.atU {s s' : S} {H H' : Hp} {a : Addr} {c : Cell} (f : FutU s H s' H') (e : H' a = H a) (h : CRep K cl Z s H a c) : CRep K cl Z s' H' a c := by
  cases c with
  | lst xs =>
    obtain ⟨vs, h1, h2⟩ := h
    exact ⟨vs, e.trans h1, h2.futU f⟩
  | obj c fs =>
    obtain ⟨dx, fvs, h1, h2⟩ := h
    exact ⟨dx, fvs, e.trans h1, h2.futU f⟩
  | dct kvs =>
    obtain ⟨kvv, h1, h2⟩ := h
    exact ⟨kvv, e.trans h1, h2.futU f⟩
theorem CRep.at {s s' : S} {H H' : Hp} {a : Addr} {c : Cell} (f : Fut s H s' H') (e : H' a = H a) (h : CRep K cl Z s H a c) : CRep K cl Z s' H' a c := h.atU f.u e
structure Sto (K : PySem.W.Frag) (cl : CL) (Z : Addr → Prop) (s : S) (H : Hp) : Prop where
  pen : ∀ p, s.pa = some p → PenOk cl.d cl.ns Z s H p s.pen
  cells : ∀ a c, s.on a = some c → CRep K cl Z s H a c
  apart : ∀ p, s.pa = some p → s.on p = none
  hid : ∀ b, Z b → ¬ s.mut b ∧ ∃ xs, H b = some (.lst xs)
  tabs : LamX.Tabs cl.t H
/-- no table, no code object -/
def Pl (o : HO) : Prop := (∀ ps, o ≠ .tbl ps) ∧ ∀ p, o ≠ .ext p
theorem tabs_upd {T : List (Addr × Str)} {H H' : Hp} {a : Addr} {o : HO} (ha : H a = some o) (hp : Pl o) (k : ∀ b u, b ≠ a → H b = some u → H' b = some u) (t : LamX.Tabs T H) : LamX.Tabs T H' := by
  intro p hpm
  obtain ⟨ps, h1, h2, h3⟩ := t p hpm
  have n1 : p.1 ≠ a := fun e => by
    rw [e, ha] at h1
    exact hp.1 ps (Option.some.inj h1)
  refine ⟨ps, k _ _ n1 h1, h2, fun pos cv hc => ?_⟩
  obtain ⟨c, e1, e2⟩ := h3 pos cv hc
  refine ⟨c, e1, k _ _ (fun e => ?_) e2⟩
  rw [e, ha] at e2
  exact hp.2 _ (Option.some.inj e2)
theorem crep_pl {s : S} {H : Hp} {a : Addr} {c : Cell} (h : CRep K cl Z s H a c) : ∃ o, H a = some o ∧ Pl o := by
  cases c with
  | lst xs => exact ⟨_, h.choose_spec.1, nofun, nofun⟩
  | obj c fs => exact ⟨_, h.choose_spec.choose_spec.1, nofun, nofun⟩
  | dct kvs => exact ⟨_, h.choose_spec.1, nofun, nofun⟩
theorem Sto.ne {s : S} {H : Hp} {p a : Addr} (so : Sto K cl Z s H) (hp : H p = none) (hm : s.mut a) : a ≠ p := by
  intro e
  subst e
  rcases hm with h | h
  · obtain ⟨L, x, r, ns, h1, _⟩ := so.pen a h
    rw [hp] at h1
    cases h1
  · obtain ⟨c, hc⟩ := Option.ne_none_iff_exists'.mp h
    obtain ⟨o, ho⟩ := (so.cells a c hc).some
    rw [hp] at ho
    cases ho
/-- a new thing that will not change -/
theorem Fut.new {s : S} {H : Hp} {p : Addr} {o : HO} (hp : H p = none) : Fut s H s (upd H p o) :=
  .all (fun b u h n _ => ⟨by rw [upd_ne (ne_of_none h hp)]; exact h, n⟩) fun _ h => h
theorem Sto.new {s : S} {H : Hp} {p : Addr} {o : HO} (so : Sto K cl Z s H) (hp : H p = none) : Sto K cl Z s (upd H p o) where
  pen := fun q hq => by
    obtain ⟨L, a, r, ns, h1, h2, h3, h4⟩ := so.pen q hq
    exact ⟨L, a, r, ns, by rw [upd_ne (ne_of_none h1 hp)]; exact h1, by rw [upd_ne (ne_of_none h2 hp)]; exact h2, h3, h4⟩
  cells := fun a c h => (so.cells a c h).at (Fut.new hp) (upd_ne (so.ne hp (.inr (by rw [h]; exact Option.some_ne_none c))))
  apart := so.apart
  hid := fun b hb => by
    obtain ⟨n, o, ho⟩ := so.hid b hb
    exact ⟨n, o, by rw [upd_ne (ne_of_none ho hp)]; exact ho⟩
  tabs := so.tabs.ext fun b o e => by rw [upd_ne (ne_of_none e hp)]; exact e
theorem Sto.nomut {s : S} {H : Hp} {p : Addr} (so : Sto K cl Z s H) (hp : H p = none) : Fz Z s p := ⟨fun m => so.ne hp m rfl, fun z => by
  obtain ⟨_, o, ho⟩ := so.hid p z
  rw [hp] at ho
  cases ho⟩
theorem mut_put {s : S} {a b : Addr} {c : Cell} (h : b ≠ a) : (s.put a c).mut b ↔ s.mut b := by
  unfold S.mut
  rw [S.put_ne h]
  exact Iff.rfl
/-- a new cell -/
theorem Fut.newC {s : S} {H : Hp} {p : Addr} {o : HO} {c : Cell} (hp : H p = none) : Fut s H (s.put p c) (upd H p o) :=
  .all (fun b u h n _ => ⟨by rw [upd_ne (ne_of_none h hp)]; exact h, fun m => n ((mut_put (ne_of_none h hp)).mp m)⟩) fun _ h => h
theorem Fut.updN {s s' : S} {H H' : Hp} {D : Addr} {o : HO} (f : Fut s H s' H') (h : H D = none) : Fut s H s' (upd H' D o) :=
  ⟨fun b u hb n nt => ⟨by rw [upd_ne (ne_of_none hb h)]; exact (f.keep b u hb n nt).1, (f.keep b u hb n nt).2⟩, fun b kvv hb n => ⟨Rd.to (f.keepD b kvv hb n).1 fun o e => by rw [upd_ne (Rd.ne hb h)]; exact e, (f.keepD b kvv hb n).2⟩, f.pa⟩
theorem Sto.newC {s : S} {H : Hp} {p : Addr} {o : HO} {c : Cell} (so : Sto K cl Z s H) (hp : H p = none) (hc : CRep K cl Z (s.put p c) (upd H p o) p c) : Sto K cl Z (s.put p c) (upd H p o) where
  pen := fun q hq => by
    obtain ⟨L, a, r, ns, h1, h2, h3, h4⟩ := so.pen q hq
    exact ⟨L, a, r, ns, by rw [upd_ne (ne_of_none h1 hp)]; exact h1, by rw [upd_ne (ne_of_none h2 hp)]; exact h2, ⟨fun m => h3.1 ((mut_put (ne_of_none h2 hp)).mp m), h3.2⟩, h4⟩
  cells := fun a c' h => by
    by_cases e : a = p
    · subst e
      rw [S.put_same] at h
      cases h
      exact hc
    · rw [S.put_ne e] at h
      exact (so.cells a c' h).at (Fut.newC hp) (upd_ne e)
  apart := fun q hq => by
    have n : q ≠ p := so.ne hp (.inl hq)
    rw [S.put_ne n]
    exact so.apart q hq
  hid := fun b hb => by
    obtain ⟨n, o, ho⟩ := so.hid b hb
    have e := ne_of_none ho hp
    exact ⟨fun m => n ((mut_put e).mp m), o, by rw [upd_ne e]; exact ho⟩
  tabs := so.tabs.ext fun b o e => by rw [upd_ne (ne_of_none e hp)]; exact e
/-- a cell changes -/
theorem Fut.cell {s : S} {H : Hp} {a : Addr} {o : HO} {c : Cell} (h : s.on a ≠ none) : Fut s H (s.put a c) (upd H a o) :=
  .all (fun b u hb n _ => by
    have e : b ≠ a := fun e => n (.inr (by rw [e]; exact h))
    exact ⟨by rw [upd_ne e]; exact hb, fun m => n ((mut_put e).mp m)⟩) fun _ h => h
theorem Sto.cell {s : S} {H : Hp} {a : Addr} {o : HO} {c : Cell} (so : Sto K cl Z s H) (h : s.on a ≠ none) (hc : CRep K cl Z (s.put a c) (upd H a o) a c) : Sto K cl Z (s.put a c) (upd H a o) where
  pen := fun q hq => by
    obtain ⟨L, x, r, ns, h1, h2, h3, h4⟩ := so.pen q hq
    have e1 : q ≠ a := fun e => h (by rw [← e]; exact so.apart q hq)
    have e2 : L ≠ a := fun e => h3.1 (.inr (by rw [e]; exact h))
    exact ⟨L, x, r, ns, by rw [upd_ne e1]; exact h1, by rw [upd_ne e2]; exact h2, ⟨fun m => h3.1 ((mut_put e2).mp m), h3.2⟩, h4⟩
  cells := fun b c' hb => by
    by_cases e : b = a
    · subst e
      rw [S.put_same] at hb
      cases hb
      exact hc
    · rw [S.put_ne e] at hb
      exact (so.cells b c' hb).at (Fut.cell h) (upd_ne e)
  apart := fun q hq => by
    have n : q ≠ a := fun e => h (by rw [← e]; exact so.apart q hq)
    rw [S.put_ne n]
    exact so.apart q hq
  hid := fun b hb => by
    obtain ⟨n, o, ho⟩ := so.hid b hb
    have e : b ≠ a := fun e => n (.inr (by rw [e]; exact h))
    exact ⟨fun m => n ((mut_put e).mp m), o, by rw [upd_ne e]; exact ho⟩
  tabs := by
    obtain ⟨c, hc⟩ := Option.ne_none_iff_exists'.mp h
    obtain ⟨o, ho, hp⟩ := crep_pl (so.cells a c hc)
    exact tabs_upd ho hp (fun b u n e => by rw [upd_ne n]; exact e) so.tabs
/-- a cell is no cell any more -/
theorem mut_del {s : S} {a b : Addr} (m : (s.del a).mut b) : s.mut b := by
  rcases m with m | m
  · exact .inl m
  · refine .inr fun e => m ?_
    show (if b = a then none else s.on b) = none
    rw [e]
    split <;> rfl
theorem Fut.del (s : S) (H : Hp) (a : Addr) : Fut s H (s.del a) H := .all (fun _ _ h n _ => ⟨h, fun m => n (mut_del m)⟩) fun _ h => h
theorem del_on {s : S} {a b : Addr} {c : Cell} (h : (s.del a).on b = some c) : s.on b = some c ∧ b ≠ a := by
  have h' : (if b = a then none else s.on b) = some c := h
  by_cases e : b = a
  · rw [if_pos e] at h'
    cases h'
  · rw [if_neg e] at h'
    exact ⟨h', e⟩
theorem Sto.del {s : S} {H : Hp} (so : Sto K cl Z s H) (a : Addr) : Sto K cl Z (s.del a) H where
  pen := fun q hq => by
    obtain ⟨L, x, r, ns, h1, h2, h3, h4⟩ := so.pen q hq
    exact ⟨L, x, r, ns, h1, h2, ⟨fun m => h3.1 (mut_del m), h3.2⟩, h4⟩
  cells := fun b c hb => (so.cells b c (del_on hb).1).at (Fut.del s H a) rfl
  apart := fun q hq => by
    show (if q = a then none else s.on q) = none
    rw [so.apart q hq]
    split <;> rfl
  hid := fun b hb => ⟨fun m => (so.hid b hb).1 (mut_del m), (so.hid b hb).2⟩
  tabs := so.tabs
theorem nomut_del {s : S} {H : Hp} {a : Addr} {c : Cell} (so : Sto K cl Z s H) (h : s.on a = some c) : Fz Z (s.del a) a := by
  refine ⟨?_, fun z => (so.hid a z).1 (.inr (by rw [h]; exact Option.some_ne_none c))⟩
  rintro (m | m)
  · have e := so.apart a m
    rw [h] at e
    cases e
  · exact m (if_pos rfl)
/-- the pen goes on -/
theorem Fut.pen {s : S} {H H' : Hp} {p : Addr} {n : Nat} (hp : s.pa = some p) (k : ∀ b o, b ≠ p → H b = some o → H' b = some o) : Fut s H (s.pn n) H' :=
  .all (fun b o h m _ => ⟨k b o (fun e => m (.inl (by rw [e]; exact hp))) h, m⟩) fun _ h => h
theorem Sto.pnn {s : S} {H H' : Hp} {p : Addr} {n : Nat} (so : Sto K cl Z s H) (hp : s.pa = some p) (k : ∀ b o, b ≠ p → H b = some o → H' b = some o)
    (h : ∃ (L : Addr) (a r : Int) (ns : List Int), H' p = some (penO cl.d L a r) ∧ H L = some (.lst (ns.map V.int)) ∧ L ≠ p ∧ Fz Z s L ∧ 0 ≤ a ∧ a ≤ n ∧ ns.length ≤ 63 ∧ (cl.d = true → ns = cl.ns)) : Sto K cl Z (s.pn n) H' where
  pen := fun q hq => by
    have e : p = q := by
      have z := hp.symm.trans hq
      injection z
    subst e
    obtain ⟨L, a, r, ns, h1, h2, h3, h4, h5⟩ := h
    exact ⟨L, a, r, ns, h1, k _ _ h3 h2, h4, h5⟩
  cells := fun b c hb => by
    have nb : b ≠ p := fun e => by
      have z := so.apart p hp
      rw [← e] at z
      have hb' : s.on b = some c := hb
      rw [z] at hb'
      cases hb'
    obtain ⟨o, ho⟩ := (so.cells b c hb).some
    exact (so.cells b c hb).at (Fut.pen hp k) ((k b o nb ho).trans ho.symm)
  apart := so.apart
  hid := fun b hb => by
    obtain ⟨n, o, ho⟩ := so.hid b hb
    exact ⟨n, o, k b _ (fun e => n (.inl (by rw [e]; exact hp))) ho⟩
  tabs := by
    obtain ⟨L, a, r, ns, h1, _⟩ := so.pen p hp
    exact tabs_upd h1 (penO_pl _ _ _ _) k so.tabs
abbrev Hide (Z : Addr → Prop) (D : Addr) : Addr → Prop := fun b => Z b ∨ b = D
mutual
theorem Rep.hide {s : S} {H H' : Hp} {D : Addr} (hD : H D = none) (k : ∀ b o, b ≠ D → H b = some o → H' b = some o) : ∀ {v : V} {t : T}, Rep K cl Z s H v t → Rep K cl (Hide Z D) s H' v t
  | _, _, .non => .non
  | _, _, .bl b => .bl b
  | _, _, .int i => .int i
  | _, _, .str z => .str z
  | _, _, .lst h n r => .lst (k _ _ (ne_of_none h hD) h) ⟨n.1, fun z => z.elim n.2 (ne_of_none h hD)⟩ (r.hide hD k)
  | _, _, .tup h n r => .tup (k _ _ (ne_of_none h hD) h) ⟨n.1, fun z => z.elim n.2 (ne_of_none h hD)⟩ (r.hide hD k)
  | _, _, .tupK a b d e g r => .tupK a b d e g (r.hide hD k)
  | _, _, .dct h n r => .dct (Rd.to h fun o => k _ o (Rd.ne h hD)) ⟨n.1, fun z => z.elim n.2 (Rd.ne h hD)⟩ (r.hide hD k)
  | _, _, .obj h n r => .obj (k _ _ (ne_of_none h hD) h) ⟨n.1, fun z => z.elim n.2 (ne_of_none h hD)⟩ (r.hide hD k)
  | _, _, .err h n h2 n2 r => .err (k _ _ (ne_of_none h hD) h) ⟨n.1, fun z => z.elim n.2 (ne_of_none h hD)⟩ (k _ _ (ne_of_none h2 hD) h2) ⟨n2.1, fun z => z.elim n2.2 (ne_of_none h2 hD)⟩ (r.hide hD k)
  | _, _, .cell a => .cell a
  | _, _, .pen h => .pen h
  | _, _, .ty n => .ty n
  | _, _, .lam h n r => .lam (k _ _ (ne_of_none h hD) h) ⟨n.1, fun z => z.elim n.2 (ne_of_none h hD)⟩ (r.hide hD k)
theorem Reps.hide {s : S} {H H' : Hp} {D : Addr} (hD : H D = none) (k : ∀ b o, b ≠ D → H b = some o → H' b = some o) : ∀ {vs : List V} {ts : List T}, Reps K cl Z s H vs ts → Reps K cl (Hide Z D) s H' vs ts
  | _, _, .nil => .nil
  | _, _, .cons h r => .cons (h.hide hD k) (r.hide hD k)
theorem RepF.hide {s : S} {H H' : Hp} {D : Addr} (hD : H D = none) (k : ∀ b o, b ≠ D → H b = some o → H' b = some o) : ∀ {vs : List (Str × V)} {ts : List (Str × T)}, RepF K cl Z s H vs ts → RepF K cl (Hide Z D) s H' vs ts
  | _, _, .nil => .nil
  | _, _, .cons h r => .cons (h.hide hD k) (r.hide hD k)
theorem RepK.hide {s : S} {H H' : Hp} {D : Addr} (hD : H D = none) (k : ∀ b o, b ≠ D → H b = some o → H' b = some o) : ∀ {vs : List (Key × V)} {ts : List (Key × T)}, RepK K cl Z s H vs ts → RepK K cl (Hide Z D) s H' vs ts
  | _, _, .nil => .nil
  | _, _, .cons h r => .cons (h.hide hD k) (r.hide hD k)
theorem RepE.hide {s : S} {H H' : Hp} {D : Addr} (hD : H D = none) (k : ∀ b o, b ≠ D → H b = some o → H' b = some o) : ∀ {vs : List (Option V)} {ts : List (Option T)}, RepE K cl Z s H vs ts → RepE K cl (Hide Z D) s H' vs ts
  | _, _, .nil => .nil
  | _, _, .c0 r => .c0 (r.hide hD k)
  | _, _, .c1 h r => .c1 (h.hide hD k) (r.hide hD k)
end
mutual
theorem Rep.turn {Z1 Z2 : Addr → Prop} {s : S} {H H' : Hp} (z : ∀ b, Z2 b → Z1 b) (k : ∀ b o, ¬ Z1 b → H b = some o → H' b = some o) : ∀ {v : V} {t : T}, Rep K cl Z1 s H v t → Rep K cl Z2 s H' v t
  | _, _, .non => .non
  | _, _, .bl b => .bl b
  | _, _, .int i => .int i
  | _, _, .str z => .str z
  | _, _, .lst h n r => .lst (k _ _ n.2 h) ⟨n.1, fun q => n.2 (z _ q)⟩ (r.turn z k)
  | _, _, .tup h n r => .tup (k _ _ n.2 h) ⟨n.1, fun q => n.2 (z _ q)⟩ (r.turn z k)
  | _, _, .tupK a b d e g r => .tupK a b d e g (r.turn z k)
  | _, _, .dct h n r => .dct (Rd.to h fun o => k _ o n.2) ⟨n.1, fun q => n.2 (z _ q)⟩ (r.turn z k)
  | _, _, .obj h n r => .obj (k _ _ n.2 h) ⟨n.1, fun q => n.2 (z _ q)⟩ (r.turn z k)
  | _, _, .err h n h2 n2 r => .err (k _ _ n.2 h) ⟨n.1, fun q => n.2 (z _ q)⟩ (k _ _ n2.2 h2) ⟨n2.1, fun q => n2.2 (z _ q)⟩ (r.turn z k)
  | _, _, .cell a => .cell a
  | _, _, .pen h => .pen h
  | _, _, .ty n => .ty n
  | _, _, .lam h n r => .lam (k _ _ n.2 h) ⟨n.1, fun q => n.2 (z _ q)⟩ (r.turn z k)
theorem Reps.turn {Z1 Z2 : Addr → Prop} {s : S} {H H' : Hp} (z : ∀ b, Z2 b → Z1 b) (k : ∀ b o, ¬ Z1 b → H b = some o → H' b = some o) : ∀ {vs : List V} {ts : List T}, Reps K cl Z1 s H vs ts → Reps K cl Z2 s H' vs ts
  | _, _, .nil => .nil
  | _, _, .cons h r => .cons (h.turn z k) (r.turn z k)
theorem RepF.turn {Z1 Z2 : Addr → Prop} {s : S} {H H' : Hp} (z : ∀ b, Z2 b → Z1 b) (k : ∀ b o, ¬ Z1 b → H b = some o → H' b = some o) : ∀ {vs : List (Str × V)} {ts : List (Str × T)}, RepF K cl Z1 s H vs ts → RepF K cl Z2 s H' vs ts
  | _, _, .nil => .nil
  | _, _, .cons h r => .cons (h.turn z k) (r.turn z k)
theorem RepK.turn {Z1 Z2 : Addr → Prop} {s : S} {H H' : Hp} (z : ∀ b, Z2 b → Z1 b) (k : ∀ b o, ¬ Z1 b → H b = some o → H' b = some o) : ∀ {vs : List (Key × V)} {ts : List (Key × T)}, RepK K cl Z1 s H vs ts → RepK K cl Z2 s H' vs ts
  | _, _, .nil => .nil
  | _, _, .cons h r => .cons (h.turn z k) (r.turn z k)
theorem RepE.turn {Z1 Z2 : Addr → Prop} {s : S} {H H' : Hp} (z : ∀ b, Z2 b → Z1 b) (k : ∀ b o, ¬ Z1 b → H b = some o → H' b = some o) : ∀ {vs : List (Option V)} {ts : List (Option T)}, RepE K cl Z1 s H vs ts → RepE K cl Z2 s H' vs ts
  | _, _, .nil => .nil
  | _, _, .c0 r => .c0 (r.turn z k)
  | _, _, .c1 h r => .c1 (h.turn z k) (r.turn z k)
end
theorem CRep.move {Z2 : Addr → Prop} {s : S} {H H' : Hp} {a : Addr} {c : Cell} (e : H' a = H a) (h : CRep K cl Z s H a c) (i : ∀ {vs : List V} {ts : List T}, Reps K cl Z s H vs ts → Reps K cl Z2 s H' vs ts)
    (j : ∀ {vs : List (Str × V)} {ts : List (Str × T)}, RepF K cl Z s H vs ts → RepF K cl Z2 s H' vs ts) (l : ∀ {vs : List (Key × V)} {ts : List (Key × T)}, RepK K cl Z s H vs ts → RepK K cl Z2 s H' vs ts) : CRep K cl Z2 s H' a c := by
  cases c with
  | lst xs =>
    obtain ⟨vs, h1, h2⟩ := h
    exact ⟨vs, e.trans h1, i h2⟩
  | obj c fs =>
    obtain ⟨dx, fvs, h1, h2⟩ := h
    exact ⟨dx, fvs, e.trans h1, j h2⟩
  | dct kvs =>
    obtain ⟨kvv, h1, h2⟩ := h
    exact ⟨kvv, e.trans h1, l h2⟩
/-- a new hidden thing -/
theorem Sto.hide {s : S} {H : Hp} {D : Addr} {xs : List V} (so : Sto K cl Z s H) (hD : H D = none) : Sto K cl (Hide Z D) s (upd H D (.lst xs)) := by
  have k : ∀ b u, b ≠ D → H b = some u → upd H D (.lst xs) b = some u := fun b u n h => by rw [upd_ne n]; exact h
  have s1 := so.new (o := .lst xs) hD
  refine ⟨fun p hp => ?_, fun a c h => ?_, s1.apart, fun b hb => ?_, s1.tabs⟩
  · obtain ⟨L, a, r, ns, h1, h2, h3, h4⟩ := so.pen p hp
    exact ⟨L, a, r, ns, k _ _ (ne_of_none h1 hD) h1, k _ _ (ne_of_none h2 hD) h2, ⟨h3.1, fun z => z.elim h3.2 (ne_of_none h2 hD)⟩, h4⟩
  · exact (so.cells a c h).move (upd_ne (so.ne hD (.inr (by rw [h]; exact Option.some_ne_none c)))) (Reps.hide hD k) (RepF.hide hD k) (RepK.hide hD k)
  · rcases hb with hb | rfl
    · exact s1.hid b hb
    · exact ⟨(so.nomut hD).1, xs, upd_same⟩
/-- it changes -/
theorem Sto.turn {s : S} {H : Hp} {D : Addr} {xs : List V} (so : Sto K cl (Hide Z D) s H) : Sto K cl (Hide Z D) s (upd H D (.lst xs)) := by
  have nD := so.hid D (.inr rfl)
  obtain ⟨ys, hDo⟩ := nD.2
  have hpl : Pl (.lst ys) := ⟨nofun, nofun⟩
  have k : ∀ b u, ¬ Hide Z D b → H b = some u → upd H D (.lst xs) b = some u := fun b u n h => by rw [upd_ne (fun e => n (.inr e))]; exact h
  refine ⟨fun p hp => ?_, fun a c h => ?_, so.apart, fun b hb => ?_, tabs_upd hDo hpl (fun b u n e => by rw [upd_ne n]; exact e) so.tabs⟩
  · obtain ⟨L, a, r, ns, h1, h2, h3, h4⟩ := so.pen p hp
    have e1 : p ≠ D := fun e => nD.1 (.inl (by rw [← e]; exact hp))
    refine ⟨L, a, r, ns, by rw [upd_ne e1]; exact h1, ?_, h3, h4⟩
    by_cases e2 : L = D
    · exact absurd (.inr e2) h3.2
    · rw [upd_ne e2]
      exact h2
  · have e1 : a ≠ D := fun e => nD.1 (.inr (by rw [← e, h]; exact Option.some_ne_none c))
    exact (so.cells a c h).move (upd_ne e1) (Reps.turn (fun _ q => q) k) (RepF.turn (fun _ q => q) k) (RepK.turn (fun _ q => q) k)
  · by_cases e : b = D
    · subst e
      exact ⟨nD.1, xs, upd_same⟩
    · obtain ⟨n, u, hu⟩ := so.hid b hb
      exact ⟨n, u, by rw [upd_ne e]; exact hu⟩
/-- it is hidden no more -/
theorem Sto.bare {s : S} {H : Hp} {D : Addr} (so : Sto K cl (Hide Z D) s H) : Sto K cl Z s H := by
  have k : ∀ b u, ¬ Hide Z D b → H b = some u → H b = some u := fun b u n h => h
  refine ⟨fun p hp => ?_, fun a c h => ?_, so.apart, fun b hb => so.hid b (.inl hb), so.tabs⟩
  · obtain ⟨L, a, r, ns, h1, h2, h3, h4⟩ := so.pen p hp
    exact ⟨L, a, r, ns, h1, h2, ⟨h3.1, fun z => h3.2 (.inl z)⟩, h4⟩
  · exact (so.cells a c h).move rfl (Reps.turn (fun _ q => .inl q) k) (RepF.turn (fun _ q => .inl q) k) (RepK.turn (fun _ q => .inl q) k)
end
end Mr
namespace Mr
open PySem PySem.Spec PyProof.Rows L2 Tw
abbrev Env := List (Option T)
abbrev KT := T → S → Prop
abbrev KX := Er → S → Prop
abbrev FE := Env → S → KT → KX → Prop
abbrev FT := Env → S → (Bool → S → Prop) → KX → Prop
abbrev FA := Env → S → (List T → S → Prop) → KX → Prop
structure DS where
  nx : Env → S → Prop
  rt : KT
  bk : Env → S → Prop
  ct : Env → S → Prop
  xr : Er → Env → S → Prop
abbrev FS := Env → S → DS → Prop
/-- what a def does, by its arguments -/
abbrev FD := List T → S → KT → KX → Prop
structure DS.Le (D D' : DS) : Prop where
  nx : ∀ τ s, D.nx τ s → D'.nx τ s
  rt : ∀ t s, D.rt t s → D'.rt t s
  bk : ∀ τ s, D.bk τ s → D'.bk τ s
  ct : ∀ τ s, D.ct τ s → D'.ct τ s
  xr : ∀ e τ s, D.xr e τ s → D'.xr e τ s
section
variable (K : PySem.W.Frag) (cl : CL) (Z : Addr → Prop)
abbrev REnv (s : S) (H : Hp) : L2.St → Env → Prop := RepE K cl Z s H
variable {K cl Z}
theorem RepE.get {s : S} {H : Hp} : ∀ {σ : L2.St} {τ : Env} (i : Nat) {t : T}, REnv K cl Z s H σ τ → τ[i]? = some (some t) → ∃ v, σ[i]? = some (some v) ∧ Rep K cl Z s H v t
  | _, _, i, _, .nil, e => by simp at e
  | _, _, 0, _, .c0 _, e => by simp at e
  | _, _, 0, _, .c1 h _, e => by
    rw [List.getElem?_cons_zero] at e
    cases e
    exact ⟨_, List.getElem?_cons_zero, h⟩
  | _, _, i + 1, _, .c0 r, e => by
    rw [List.getElem?_cons_succ] at e
    obtain ⟨v, e1, h1⟩ := r.get i e
    exact ⟨v, by rw [List.getElem?_cons_succ]; exact e1, h1⟩
  | _, _, i + 1, _, .c1 _ r, e => by
    rw [List.getElem?_cons_succ] at e
    obtain ⟨v, e1, h1⟩ := r.get i e
    exact ⟨v, by rw [List.getElem?_cons_succ]; exact e1, h1⟩
theorem RepE.set {s : S} {H : Hp} {v : V} {t : T} (q : Rep K cl Z s H v t) : ∀ {σ : L2.St} {τ : Env} (i : Nat), REnv K cl Z s H σ τ → REnv K cl Z s H (σ.set i (some v)) (τ.set i (some t))
  | _, _, _, .nil => .nil
  | _, _, 0, .c0 r => .c1 q r
  | _, _, 0, .c1 _ r => .c1 q r
  | _, _, i + 1, .c0 r => .c0 (r.set q i)
  | _, _, i + 1, .c1 h r => .c1 h (r.set q i)
theorem RepE.set0 {s : S} {H : Hp} : ∀ {σ : L2.St} {τ : Env} (i : Nat), REnv K cl Z s H σ τ → REnv K cl Z s H (σ.set i none) (τ.set i none)
  | _, _, _, .nil => .nil
  | _, _, 0, .c0 r => .c0 r
  | _, _, 0, .c1 _ r => .c0 r
  | _, _, i + 1, .c0 r => .c0 (r.set0 i)
  | _, _, i + 1, .c1 h r => .c1 h (r.set0 i)
theorem RepE.nones {s : S} {H : Hp} : ∀ n : Nat, REnv K cl Z s H (List.replicate n none) (List.replicate n none)
  | 0 => .nil
  | n + 1 => by rw [List.replicate_succ, List.replicate_succ]; exact .c0 (RepE.nones n)
def startT (N : List Str) (ts : List T) : Env := ts.map some ++ List.replicate (N.length - ts.length) none
theorem RepE.start {s : S} {H : Hp} {N : List Str} {vs : List V} {ts : List T} (r : Reps K cl Z s H vs ts) : REnv K cl Z s H (L2.start N vs) (startT N ts) := by
  unfold L2.start startT
  rw [r.length]
  generalize N.length - ts.length = n
  induction r using Reps.rec (motive_1 := fun _ _ _ => True) (motive_3 := fun _ _ _ => True) (motive_4 := fun _ _ _ => True) (motive_5 := fun _ _ _ => True) with
  | nil => exact RepE.nones n
  | cons h _ _ ih => exact .c1 h ih
  | _ => trivial
/-- what is to hold behind, seen from (s, H) -/
def post (K : PySem.W.Frag) (cl : CL) (Z : Addr → Prop) (s : S) (H : Hp) (Q : VK) : KT := fun t s' => ∀ v H', Fut s H s' H' → Rep K cl Z s' H' v t → Sto K cl Z s' H' → Q v H'
def postB (K : PySem.W.Frag) (cl : CL) (Z : Addr → Prop) (s : S) (H : Hp) (Q : Bool → Hp → Prop) : Bool → S → Prop := fun b s' => ∀ H', Fut s H s' H' → Sto K cl Z s' H' → Q b H'
def postA (K : PySem.W.Frag) (cl : CL) (Z : Addr → Prop) (s : S) (H : Hp) (Q : List V → Hp → Prop) : List T → S → Prop := fun ts s' => ∀ vs H', Fut s H s' H' → Reps K cl Z s' H' vs ts → Sto K cl Z s' H' → Q vs H'
/-- built-in classes of errors by number -/
def bx (c : Nat) : Option String := if c = 1000001 then some "KeyError" else if c = 1000002 then some "IndexError" else none
def CL.xv (cl : CL) (c : Nat) : Value := match bx c with | some n => .type n | none => .ref (cl c)
theorem CL.xv_own {cl : CL} {c : Nat} (h : bx c = none) : cl.xv c = .ref (cl c) := by unfold CL.xv; rw [h]
/-- the error's own dict, where its class is an own one -/
def Xd (K : PySem.W.Frag) (cl : CL) (Z : Addr → Prop) (s : S) (H : Hp) (er : Er) (d : Option Addr) : Prop := match bx er.c with | some _ => True | none => ∃ a fvs, d = some a ∧ H a = some (.xd fvs) ∧ Fz Z s a ∧ RepF K cl Z s H fvs er.fs
theorem Xd.own {K : PySem.W.Frag} {cl : CL} {Z : Addr → Prop} {s : S} {H : Hp} {er : Er} {d : Option Addr} (x : Xd K cl Z s H er d) (h : bx er.c = none) : ∃ a fvs, d = some a ∧ H a = some (.xd fvs) ∧ Fz Z s a ∧ RepF K cl Z s H fvs er.fs := by
  unfold Xd at x
  rw [h] at x
  exact x
theorem Xd.of {K : PySem.W.Frag} {cl : CL} {Z : Addr → Prop} {s : S} {H : Hp} {er : Er} {a : Addr} {fvs : List (Str × V)} (h1 : H a = some (.xd fvs)) (h2 : Fz Z s a) (h3 : RepF K cl Z s H fvs er.fs) : Xd K cl Z s H er (some a) := by
  unfold Xd
  split
  · trivial
  · exact ⟨a, fvs, rfl, h1, h2, h3⟩
theorem Xd.blt {K : PySem.W.Frag} {cl : CL} {Z : Addr → Prop} {s : S} {H : Hp} {er : Er} {d : Option Addr} {n : String} (h : bx er.c = some n) : Xd K cl Z s H er d := by
  unfold Xd
  rw [h]
  trivial
theorem Xd.map {K : PySem.W.Frag} {cl : CL} {Z Z' : Addr → Prop} {s s' : S} {H H' : Hp} {er : Er} {d : Option Addr} (x : Xd K cl Z s H er d) (k : ∀ a fvs, H a = some (.xd fvs) → Fz Z s a → RepF K cl Z s H fvs er.fs → H' a = some (.xd fvs) ∧ Fz Z' s' a ∧ RepF K cl Z' s' H' fvs er.fs) : Xd K cl Z' s' H' er d := by
  unfold Xd at x ⊢
  split at x
  · trivial
  · obtain ⟨a, fvs, rfl, h1, h2, h3⟩ := x
    exact ⟨a, fvs, rfl, k a fvs h1 h2 h3⟩
theorem Xd.fut {K : PySem.W.Frag} {cl : CL} {Z : Addr → Prop} {s s' : S} {H H' : Hp} {er : Er} {d : Option Addr} (x : Xd K cl Z s H er d) (f : Fut s H s' H') : Xd K cl Z s' H' er d :=
  x.map fun _ _ h1 h2 h3 => ⟨(f.keep _ _ h1 h2.1 (NT.xd _)).1, h2.fut f h1 (NT.xd _), h3.fut f⟩
def postX (K : PySem.W.Frag) (cl : CL) (Z : Addr → Prop) (s : S) (H : Hp) (Q : XK) : KX := fun er s' => ∀ d H', Fut s H s' H' → Xd K cl Z s' H' er d → Sto K cl Z s' H' → Q (cl.xv er.c) d H'
def postW (K : PySem.W.Frag) (cl : CL) (Z : Addr → Prop) (s : S) (H : Hp) (σ : L2.St) (W : WX) : KX := postX K cl Z s H fun c d H' => W c d σ H'
def postE (K : PySem.W.Frag) (cl : CL) (Z : Addr → Prop) (s : S) (H : Hp) (Q : L2.St → Hp → Prop) : Env → S → Prop := fun τ s' => ∀ σ H', Fut s H s' H' → REnv K cl Z s' H' σ τ → Sto K cl Z s' H' → Q σ H'
def postXE (K : PySem.W.Frag) (cl : CL) (Z : Addr → Prop) (s : S) (H : Hp) (W : WX) : Er → Env → S → Prop := fun er τ s' => ∀ d σ H', Fut s H s' H' → Xd K cl Z s' H' er d → REnv K cl Z s' H' σ τ → Sto K cl Z s' H' → W (cl.xv er.c) d σ H'
def postD (K : PySem.W.Frag) (cl : CL) (Z : Addr → Prop) (s : S) (H : Hp) (W : WX) (D : Ends) : DS :=
  ⟨postE K cl Z s H D.nx, post K cl Z s H D.rt, postE K cl Z s H D.bk, postE K cl Z s H D.ct, postXE K cl Z s H W⟩
section
variable {s s1 s2 : S} {H H1 : Hp} {Q : VK} {W : WX} {σ : L2.St} {t : T} {er : Er} {D : Ends}
theorem post.up (f : Fut s H s1 H1) (h : post K cl Z s H Q t s2) : post K cl Z s1 H1 Q t s2 := fun v H' f' r so => h v H' (f.trans f') r so
theorem postB.up {QB : Bool → Hp → Prop} {b : Bool} (f : Fut s H s1 H1) (h : postB K cl Z s H QB b s2) : postB K cl Z s1 H1 QB b s2 := fun H' f' so => h H' (f.trans f') so
theorem postX.up {QX : XK} (f : Fut s H s1 H1) (h : postX K cl Z s H QX er s2) : postX K cl Z s1 H1 QX er s2 := fun d H' f' x so => h d H' (f.trans f') x so
theorem postW.up (f : Fut s H s1 H1) (h : postW K cl Z s H σ W er s2) : postW K cl Z s1 H1 σ W er s2 := postX.up f h
theorem postE.up {QE : L2.St → Hp → Prop} {τ : Env} (f : Fut s H s1 H1) (h : postE K cl Z s H QE τ s2) : postE K cl Z s1 H1 QE τ s2 := fun σ H' f' r so => h σ H' (f.trans f') r so
theorem postXE.up {τ : Env} (f : Fut s H s1 H1) (h : postXE K cl Z s H W er τ s2) : postXE K cl Z s1 H1 W er τ s2 := fun d σ H' f' x re so => h d σ H' (f.trans f') x re so
theorem postD.up (f : Fut s H s1 H1) : DS.Le (postD K cl Z s H W D) (postD K cl Z s1 H1 W D) := ⟨fun _ _ => postE.up f, fun _ _ => post.up f, fun _ _ => postE.up f, fun _ _ => postE.up f, fun _ _ _ => postXE.up f⟩
end
def tT (K : PySem.W.Frag) (cl : CL) (W : WX) (F : FE) : TE := fun σ H Q => ∃ Z τ s, REnv K cl Z s H σ τ ∧ Sto K cl Z s H ∧ F τ s (post K cl Z s H Q) (postW K cl Z s H σ W)
def tTT (K : PySem.W.Frag) (cl : CL) (W : WX) (F : FT) : TT := fun σ H Q => ∃ Z τ s, REnv K cl Z s H σ τ ∧ Sto K cl Z s H ∧ F τ s (postB K cl Z s H Q) (postW K cl Z s H σ W)
def tTA (K : PySem.W.Frag) (cl : CL) (W : WX) (F : FA) : TA := fun σ H Q => ∃ Z τ s, REnv K cl Z s H σ τ ∧ Sto K cl Z s H ∧ F τ s (postA K cl Z s H Q) (postW K cl Z s H σ W)
def tTS (K : PySem.W.Frag) (cl : CL) (W : WX) (F : FS) : TS := fun D σ H => ∃ Z τ s, REnv K cl Z s H σ τ ∧ Sto K cl Z s H ∧ F τ s (postD K cl Z s H W D)
end
def MonE (F : FE) : Prop := ∀ τ s (Q Q' : KT) (E E' : KX), (∀ t s, Q t s → Q' t s) → (∀ e s, E e s → E' e s) → F τ s Q E → F τ s Q' E'
def MonT (F : FT) : Prop := ∀ τ s (Q Q' : Bool → S → Prop) (E E' : KX), (∀ t s, Q t s → Q' t s) → (∀ e s, E e s → E' e s) → F τ s Q E → F τ s Q' E'
def MonA (F : FA) : Prop := ∀ τ s (Q Q' : List T → S → Prop) (E E' : KX), (∀ t s, Q t s → Q' t s) → (∀ e s, E e s → E' e s) → F τ s Q E → F τ s Q' E'
def MonS (F : FS) : Prop := ∀ τ s (D D' : DS), D.Le D' → F τ s D → F τ s D'
structure JE (X : Cx) (cl : CL) (W : WX) (e : Expr) (F : FE) : Prop where
  mon : MonE F
  pe : PE X e (tT X.K cl W F)
structure JT (X : Cx) (cl : CL) (W : WX) (e : Expr) (F : FT) : Prop where
  mon : MonT F
  pt : PT X e (tTT X.K cl W F)
structure JW (X : Cx) (cl : CL) (W : WX) (e : Expr) (F : FT) : Prop where
  mon : MonT F
  pw : PW X e (tTT X.K cl W F)
structure JA (X : Cx) (cl : CL) (W : WX) (es : List Expr) (F : FA) : Prop where
  mon : MonA F
  pa : PA X es (tTA X.K cl W F)
structure JS (X : Cx) (cl : CL) (W : WX) (st : Stmt) (F : FS) : Prop where
  mon : MonS F
  ps : PS X st (tTS X.K cl W F)
structure JSs (X : Cx) (cl : CL) (W : WX) (sts : List Stmt) (F : FS) : Prop where
  mon : MonS F
  pss : PSs X sts (tTS X.K cl W F)
section
variable {X : Cx} {cl : CL} {W : WX} {e a b c : Expr} {es : List Expr} {F Fa Fb Fc : FE} {G Ga Gb : FT} {A : FA} {st : Stmt} {sts : List Stmt} {B B1 B2 : FS} {pos p : Pos}
theorem PE.imp {t t' : TE} (h : PE X e t) (i : ∀ σ H Q, t' σ H Q → t σ H Q) : PE X e t' := ⟨fun pins s σ H Q I z => h.run pins s σ H Q I (i σ H Q z)⟩
theorem PT.imp {t t' : TT} (h : PT X e t) (i : ∀ σ H Q, t' σ H Q → t σ H Q) : PT X e t' := ⟨fun pins s σ H Q I z => h.run pins s σ H Q I (i σ H Q z)⟩
theorem PW.imp {t t' : TT} (h : PW X e t) (i : ∀ σ H Q, t' σ H Q → t σ H Q) : PW X e t' := ⟨fun wh pins s σ H Q I z => h.run wh pins s σ H Q I (i σ H Q z)⟩
theorem PA.imp {t t' : TA} (h : PA X es t) (i : ∀ σ H Q, t' σ H Q → t σ H Q) : PA X es t' := ⟨fun pos pins s σ H Q I z => h.run pos pins s σ H Q I (i σ H Q z)⟩
theorem PS.imp {t t' : TS} (h : PS X st t) (i : ∀ D σ H, t' D σ H → t D σ H) : PS X st t' := ⟨fun pins s σ H D I z => h.run pins s σ H D I (i D σ H z)⟩
theorem PSs.imp {t t' : TS} (h : PSs X sts t) (i : ∀ D σ H, t' D σ H → t D σ H) : PSs X sts t' := ⟨fun pins s σ H D I z => h.run pins s σ H D I (i D σ H z)⟩
section
variable {Z : Addr → Prop} {σ : L2.St} {τ : Env} {H : Hp} {s : S} {P : KT} {E : KX} {Q : VK}
/-- to use a reading -/
theorem go (mon : MonE F) (re : REnv X.K cl Z s H σ τ) (so : Sto X.K cl Z s H) (h : F τ s P E)
    (hP : ∀ t s1 v H1, P t s1 → Fut s H s1 H1 → REnv X.K cl Z s1 H1 σ τ → Rep X.K cl Z s1 H1 v t → Sto X.K cl Z s1 H1 → Q v H1) (hE : ∀ er s1, E er s1 → postW X.K cl Z s H σ W er s1) : tT X.K cl W F σ H Q :=
  ⟨Z, τ, s, re, so, mon _ _ _ _ _ _ (fun t s1 p v H1 f r so1 => hP t s1 v H1 p f (re.fut f) r so1) hE h⟩
theorem goT {P : Bool → S → Prop} {Q : Bool → Hp → Prop} (mon : MonT G) (re : REnv X.K cl Z s H σ τ) (so : Sto X.K cl Z s H) (h : G τ s P E)
    (hP : ∀ t s1 H1, P t s1 → Fut s H s1 H1 → REnv X.K cl Z s1 H1 σ τ → Sto X.K cl Z s1 H1 → Q t H1) (hE : ∀ er s1, E er s1 → postW X.K cl Z s H σ W er s1) : tTT X.K cl W G σ H Q :=
  ⟨Z, τ, s, re, so, mon _ _ _ _ _ _ (fun t s1 p H1 f so1 => hP t s1 H1 p f (re.fut f) so1) hE h⟩
theorem goA {P : List T → S → Prop} {Q : List V → Hp → Prop} (mon : MonA A) (re : REnv X.K cl Z s H σ τ) (so : Sto X.K cl Z s H) (h : A τ s P E)
    (hP : ∀ ts s1 vs H1, P ts s1 → Fut s H s1 H1 → REnv X.K cl Z s1 H1 σ τ → Reps X.K cl Z s1 H1 vs ts → Sto X.K cl Z s1 H1 → Q vs H1) (hE : ∀ er s1, E er s1 → postW X.K cl Z s H σ W er s1) : tTA X.K cl W A σ H Q :=
  ⟨Z, τ, s, re, so, mon _ _ _ _ _ _ (fun t s1 p v H1 f r so1 => hP t s1 v H1 p f (re.fut f) r so1) hE h⟩
theorem goS {D : DS} {D' : Ends} (mon : MonS B) (re : REnv X.K cl Z s H σ τ) (so : Sto X.K cl Z s H) (h : B τ s D) (le : D.Le (postD X.K cl Z s H W D')) : tTS X.K cl W B D' σ H :=
  ⟨Z, τ, s, re, so, mon _ _ _ _ le h⟩
end
def fVar (i : Nat) : FE := fun τ s Q _ => match τ[i]? with | some (some t) => Q t s | _ => False
theorem mon_var (i : Nat) : MonE (fVar i) := by
  intro τ s Q Q' E E' hq _ h
  unfold fVar at h ⊢
  split at h
  · exact hq _ _ h
  · exact h.elim
theorem je_var (i : Nat) {x : Str} (hN : X.N[i]? = some x := by rfl) (hv : Vis X.env.scope x := by first | exact Or.inl rfl | exact Or.inr (Or.inl rfl) | exact Or.inr (Or.inr rfl)) (hd : (x == ("__debug__" : Str)) = false := by decide)
    (hcd : (x == ("__classdict__" : Str)) = false := by decide) : JE X cl W (.Name x pos) (fVar i) := by
  refine ⟨mon_var i, PE.imp (pe_var hN hv hd hcd) ?_⟩
  rintro σ H Q ⟨Z, τ, s, re, so, h⟩
  unfold fVar at h
  split at h
  · rename_i t e
    obtain ⟨v, e1, r⟩ := re.get i e
    exact ⟨v, e1, h v H (Fut.refl _ _) r so⟩
  · exact h.elim
/-- a value that is at hand -/
def fC (t : T) : FE := fun _ s Q _ => Q t s
theorem mon_c (t : T) : MonE (fC t) := fun _ _ _ _ _ _ hq _ h => hq _ _ h
theorem je_c {v : V} {t : T} (h : PE X e (tC v)) (r : ∀ Z s H, Rep X.K cl Z s H v t) : JE X cl W e (fC t) := by
  refine ⟨mon_c t, PE.imp h ?_⟩
  rintro σ H Q ⟨Z, τ, s, re, so, h⟩
  exact h v H (Fut.refl _ _) (r Z s H) so
theorem je_int {i : Int} {j : Nat} : JE X cl W (.Constant (.int i) j pos) (fC (.int i)) := je_c pe_int fun _ _ _ => .int i
theorem je_bl {i : Bool} {j : Nat} : JE X cl W (.Constant (.bool i) j pos) (fC (.bl i)) := je_c pe_bl fun _ _ _ => .bl i
theorem je_non {j : Nat} : JE X cl W (.Constant .none j pos) (fC .non) := je_c pe_non fun _ _ _ => .non
theorem je_str {z : Str} {j : Nat} : JE X cl W (.Constant (.str z) j pos) (fC (.str z)) := je_c pe_str fun _ _ _ => .str z
theorem je_glob {x : Str} {v : V} {t : T} (hg : Gl X x) (h : ∃ u, X.mg x = some u ∧ RelV v u) (r : ∀ Z s H, Rep X.K cl Z s H v t) (hd : (x == ("__debug__" : Str)) = false := by decide) : JE X cl W (.Name x pos) (fC t) := je_c (C8.pe_gc hg h hd) r
theorem Ty.rel (cl : CL) : ∀ k : Ty, RelV (k.v cl) (k.u cl)
  | .non => rfl | .bool => rfl | .int => rfl | .str => rfl | .list => rfl | .tup => rfl | .dict => rfl | .own _ => rfl | .vex => rfl
/-- a built-in class by its name -/
theorem je_ty (k : Ty) {x : Str} (hg : Gl X x) (hm : X.mg x = none) (hv : bootBuiltins x = some (k.u ⟨fun _ => 0, [], false, []⟩)) (he : (k.u ⟨fun _ => 0, [], false, []⟩) = k.u cl := by rfl) (hn : x ≠ "__name__" := by decide) (hd : (x == ("__debug__" : Str)) = false := by decide) : JE X cl W (.Name x pos) (fC (.ty k)) :=
  je_c (pe_bltn (v := k.v cl) hg hm (he ▸ hv) (k.rel cl) hn hd) fun _ _ _ => .ty k
/-- an own class by its name -/
theorem je_cls (c : Nat) {x : Str} (hg : Gl X x) (hm : X.mg x = some (.ref (cl c))) (hd : (x == ("__debug__" : Str)) = false := by decide) : JE X cl W (.Name x pos) (fC (.ty (.own c))) :=
  je_glob (v := .ref (cl c)) hg ⟨_, hm, rfl⟩ (fun _ _ _ => .ty (.own c)) hd
def Mon2 (g : S → T → T → KT → KX → Prop) : Prop := ∀ s x y (Q Q' : KT) (E E' : KX), (∀ t s, Q t s → Q' t s) → (∀ e s, E e s → E' e s) → g s x y Q E → g s x y Q' E'
structure OpT (X : Cx) (cl : CL) (W : WX) (f : Value → Value → Sem Value) (g : S → T → T → KT → KX → Prop) : Prop where
  mon : Mon2 g
  run : ∀ (Z : Addr → Prop) (pins : List (Addr × Obj)) (sh : Shared) (σ : L2.St) (H : Hp) (x y : V) (v u : Value) (Q : VK) (s : S) (tx ty : T), Inv X pins σ H sh → RelV x v → RelV y u → Rep X.K cl Z s H x tx → Rep X.K cl Z s H y ty → Sto X.K cl Z s H →
    g s tx ty (post X.K cl Z s H Q) (postW X.K cl Z s H σ W) → wpAny (model X.prog X.w) X.A (f v u) (EP X pins σ Q) X.xe sh
theorem OpT.of {f : Value → Value → Sem Value} {g : S → T → T → KT → KX → Prop} {r : R2} (mon : Mon2 g) (h : OpR X f r)
    (i : ∀ (Z : Addr → Prop) (H : Hp) (x y : V) (Q : VK) (s : S) (tx ty : T) (E : KX), Rep X.K cl Z s H x tx → Rep X.K cl Z s H y ty → Sto X.K cl Z s H → g s tx ty (post X.K cl Z s H Q) E → r x y H Q) : OpT X cl W f g :=
  ⟨mon, fun Z pins sh σ H x y v u Q s tx ty I rx ry px py so q => h pins sh σ H x y v u Q I rx ry (i Z H x y Q s tx ty _ px py so q)⟩
def f2 (g : S → T → T → KT → KX → Prop) (Fa Fb : FE) : FE := fun τ s Q E => Fa τ s (fun x s1 => Fb τ s1 (fun y s2 => g s2 x y Q E) E) E
theorem mon_2 {g : S → T → T → KT → KX → Prop} (mg : Mon2 g) (ma : MonE Fa) (mb : MonE Fb) : MonE (f2 g Fa Fb) :=
  fun τ s Q Q' E E' hq he h => ma τ s _ _ _ _ (fun x s1 h1 => mb τ s1 _ _ _ _ (fun y s2 h2 => mg s2 x y _ _ _ _ hq he h2) he h1) he h
def R2T (X : Cx) (cl : CL) (W : WX) (σ : L2.St) (g : S → T → T → KT → KX → Prop) (Q : VK) : V → V → Hp → Prop := fun x y H2 => ∃ Z s2 tx ty, Rep X.K cl Z s2 H2 x tx ∧ Rep X.K cl Z s2 H2 y ty ∧ Sto X.K cl Z s2 H2 ∧ g s2 tx ty (post X.K cl Z s2 H2 Q) (postW X.K cl Z s2 H2 σ W)
theorem two {Z : Addr → Prop} {g : S → T → T → KT → KX → Prop} {σ : L2.St} {τ : Env} {H : Hp} {s : S} {Q : VK} (mg : Mon2 g) (ma : MonE Fa) (mb : MonE Fb) (re : REnv X.K cl Z s H σ τ) (so : Sto X.K cl Z s H) (h : f2 g Fa Fb τ s (post X.K cl Z s H Q) (postW X.K cl Z s H σ W)) :
    tT X.K cl W Fa σ H fun x H1 => tT X.K cl W Fb σ H1 fun y H2 => R2T X cl W σ g Q x y H2 := by
  refine go ma re so h (fun tx s1 x H1 p1 f1 re1 r1 so1 => ?_) fun _ _ q => q
  refine go mb re1 so1 p1 (fun ty s2 y H2 p2 f2 re2 r2 so2 => ?_) fun _ _ q => postW.up f1 q
  exact ⟨Z, s2, tx, ty, r1.fut f2, r2, so2, mg _ _ _ _ _ _ _ (fun _ _ q => post.up (f1.trans f2) q) (fun _ _ q => postW.up (f1.trans f2) q) p2⟩
theorem je_op {op : Operator} {g : S → T → T → KT → KX → Prop} (ho : OpT X cl W (binaryOp op) g) (ha : JE X cl W a Fa) (hb : JE X cl W b Fb) : JE X cl W (.BinOp a op b pos) (f2 g Fa Fb) := by
  refine ⟨mon_2 ho.mon ha.mon hb.mon, ⟨fun pins sh σ H Q I h => ?_⟩⟩
  obtain ⟨Z, τ, s, re, so, h⟩ := h
  refine wpAny_BinOp (binT ha.pe hb.pe I (two ho.mon ha.mon hb.mon re so h) fun v u s2 x y H2 I2 rx ry q => ?_)
  obtain ⟨Z3, s3, tx, ty, p1, p2, so2, q⟩ := q
  exact ho.run Z3 pins s2 σ H2 x y v u Q s3 tx ty I2 rx ry p1 p2 so2 q
/-- as a rule of values -/
theorem OpT.opr {f : Value → Value → Sem Value} {g : S → T → T → KT → KX → Prop} (ho : OpT X cl W f g) (pins : List (Addr × Obj)) (sh : Shared) (σ : L2.St) (H : Hp) (x y : V) (v u : Value) (Q : VK) (I : Inv X pins σ H sh) (rx : RelV x v) (ry : RelV y u) (q : R2T X cl W σ g Q x y H) :
    wpAny (model X.prog X.w) X.A (f v u) (EP X pins σ Q) X.xe sh := by
  obtain ⟨Z3, s3, tx, ty, p1, p2, so2, q⟩ := q
  exact ho.run Z3 pins sh σ H x y v u Q s3 tx ty I rx ry p1 p2 so2 q
theorem je_cmp {op : CmpOp} {g : S → T → T → KT → KX → Prop} (ho : OpT X cl W (compareOp op) g) (ha : JE X cl W a Fa) (hb : JE X cl W b Fb) (hm : behindInMarks op b = false) : JE X cl W (.Compare a [op] [b] pos) (f2 g Fa Fb) := by
  refine ⟨mon_2 ho.mon ha.mon hb.mon, ⟨fun pins sh σ H Q I h => ?_⟩⟩
  obtain ⟨Z, τ, s, re, so, h⟩ := h
  exact wpAny_Compare1 (binT ha.pe hb.pe I (two ho.mon ha.mon hb.mon re so h) fun v u s2 x y H2 I2 rx ry q => ho.opr pins s2 σ H2 x y v u Q I2 rx ry q) hm
end
end Mr
namespace Mr
open PySem PySem.Spec PyProof.Rows L2 Tw
def S.lst? (s : S) : T → Option (List T)
  | .lst xs => some xs
  | .cell a => match s.on a with | some (.lst xs) => some xs | _ => none
  | _ => none
/-- a list (true) or a tuple (false) -/
def S.seq? (s : S) : T → Option (Bool × List T)
  | .lst xs => some (true, xs)
  | .tup xs => some (false, xs)
  | .cell a => match s.on a with | some (.lst xs) => some (true, xs) | _ => none
  | _ => none
section
variable {K : PySem.W.Frag} {cl : CL} {Z : Addr → Prop} {s s' : S} {H : Hp} {v : V} {t : T} {xs : List T} {Q : VK}
theorem lst_of (so : Sto K cl Z s H) (r : Rep K cl Z s H v t) (e : s.lst? t = some xs) : ∃ a vs, v = .ref a ∧ H a = some (.lst vs) ∧ Reps K cl Z s H vs xs := by
  cases r with
  | lst h n q =>
    cases e
    exact ⟨_, _, rfl, h, q⟩
  | cell a =>
    unfold S.lst? at e
    dsimp only at e
    split at e
    · rename_i ys ho
      cases e
      obtain ⟨vs, h1, h2⟩ := so.cells a _ ho
      exact ⟨a, vs, rfl, h1, h2⟩
    · cases e
  | _ => cases e
theorem tup_of (r : Rep K cl Z s H v (.tup xs)) : ∃ a vs, v = .ref a ∧ SqT K H a vs ∧ Reps K cl Z s H vs xs := by
  cases r with
  | tup h n q => exact ⟨_, _, rfl, SqT.of h, q⟩
  | tupK a b c d e q => exact ⟨_, _, rfl, .inr ⟨_, _, _, a, b, c, d, e⟩, q⟩
theorem seq_of {b : Bool} (so : Sto K cl Z s H) (r : Rep K cl Z s H v t) (e : s.seq? t = some (b, xs)) : ∃ a vs, v = .ref a ∧ (if b = true then H a = some (.lst vs) else SqT K H a vs) ∧ Reps K cl Z s H vs xs := by
  cases t with
  | lst ys =>
    cases e
    obtain ⟨a, vs, h1, h2, h3⟩ := lst_of so r rfl
    exact ⟨a, vs, h1, by rw [if_pos rfl]; exact h2, h3⟩
  | tup ys =>
    cases e
    obtain ⟨a, vs, h1, h2, h3⟩ := tup_of r
    exact ⟨a, vs, h1, by rw [if_neg Bool.false_ne_true]; exact h2, h3⟩
  | cell a =>
    unfold S.seq? at e
    dsimp only at e
    split at e
    · rename_i ys ho
      cases e
      obtain ⟨a, vs, h1, h2, h3⟩ := lst_of (xs := xs) so r (by unfold S.lst?; dsimp only; rw [ho])
      exact ⟨a, vs, h1, by rw [if_pos rfl]; exact h2, h3⟩
    · cases e
  | _ => cases e
theorem seq_sq {b : Bool} (so : Sto K cl Z s H) (r : Rep K cl Z s H v t) (e : s.seq? t = some (b, xs)) : ∃ a vs, v = .ref a ∧ (SqL K H a vs ∨ SqT K H a vs) ∧ Reps K cl Z s H vs xs := by
  obtain ⟨a, vs, h1, h2, h3⟩ := seq_of so r e
  cases b with
  | true =>
    rw [if_pos rfl] at h2
    exact ⟨a, vs, h1, .inl (SqL.of h2), h3⟩
  | false =>
    rw [if_neg Bool.false_ne_true] at h2
    exact ⟨a, vs, h1, .inr h2, h3⟩
theorem post.here (p : post K cl Z s H Q t s) (r : Rep K cl Z s H v t) (so : Sto K cl Z s H) : Q v H := p v H (Fut.refl _ _) r so
theorem post.newL {vs : List V} (p : post K cl Z s H Q (.lst xs) s) (so : Sto K cl Z s H) (r : Reps K cl Z s H vs xs) : ∀ a, H a = none → Q (.ref a) (upd H a (.lst vs)) :=
  fun a ha => p _ _ (Fut.new ha) (.lst upd_same (so.nomut ha) (r.fut (Fut.new ha))) (so.new ha)
theorem post.newT {vs : List V} (p : post K cl Z s H Q (.tup xs) s) (so : Sto K cl Z s H) (r : Reps K cl Z s H vs xs) : ∀ a, H a = none → Q (.ref a) (upd H a (.tup vs)) :=
  fun a ha => p _ _ (Fut.new ha) (.tup upd_same (so.nomut ha) (r.fut (Fut.new ha))) (so.new ha)
theorem on_none {a : Addr} (so : Sto K cl Z s H) (ha : H a = none) : s.on a = none := by
  have n := (so.nomut ha).1
  cases q : s.on a with
  | none => rfl
  | some c => exact absurd (.inr (by rw [q]; exact Option.some_ne_none c)) n
end
abbrev O2 := S → T → T → Option (Prop × T)
def g2 (o : O2) : S → T → T → KT → KX → Prop := fun s x y Q _ => match o s x y with | some (c, t) => c ∧ Q t s | none => False
theorem mon_g2 (o : O2) : Mon2 (g2 o) := by
  intro s x y Q Q' E E' hq _ h
  unfold g2 at h ⊢
  split at h
  · exact ⟨h.1, hq _ _ h.2⟩
  · exact h
section
variable {X : Cx} {cl : CL} {W : WX}
theorem OpT.pure {f : Value → Value → Sem Value} {o : O2} {r : R2} (h : OpR X f r)
    (i : ∀ (Z : Addr → Prop) (H : Hp) (x y : V) (Q : VK) (s : S) (tx ty : T) (c : Prop) (t : T), Rep X.K cl Z s H x tx → Rep X.K cl Z s H y ty → Sto X.K cl Z s H → o s tx ty = some (c, t) → c → post X.K cl Z s H Q t s → r x y H Q) : OpT X cl W f (g2 o) := by
  refine OpT.of (mon_g2 o) h fun Z H x y Q s tx ty E px py so q => ?_
  unfold g2 at q
  split at q
  · rename_i c t e
    exact i Z H x y Q s tx ty c t px py so e q.1 q.2
  · exact q.elim
theorem opr_or {f : Value → Value → Sem Value} {r r' : R2} (h : OpR X f r) (h' : OpR X f r') : OpR X f (fun x y H Q => r x y H Q ∨ r' x y H Q) := by
  intro pins s σ H x y v u Q I rx ry q
  rcases q with q | q
  · exact h pins s σ H x y v u Q I rx ry q
  · exact h' pins s σ H x y v u Q I rx ry q
def addO : O2
  | _, .int i, .int j => some (True, .int (i + j))
  | _, .str a, .str b => some (a.length + b.length ≤ 1000000, .str (a ++ b))
  | _, .tup xs, .tup ys => some (xs.length + ys.length ≤ 1000000, .tup (xs ++ ys))
  | s, x, y => match s.lst? x, s.lst? y with | some xs, some ys => some (xs.length + ys.length ≤ 1000000, .lst (xs ++ ys)) | _, _ => none
theorem rep_i {K : PySem.W.Frag} {Z : Addr → Prop} {s : S} {H : Hp} {v : V} {i : Int} (r : Rep K cl Z s H v (.int i)) : v = .int i := by cases r; rfl
theorem rep_b {K : PySem.W.Frag} {Z : Addr → Prop} {s : S} {H : Hp} {v : V} {i : Bool} (r : Rep K cl Z s H v (.bl i)) : v = .bl i := by cases r; rfl
theorem rep_s {K : PySem.W.Frag} {Z : Addr → Prop} {s : S} {H : Hp} {v : V} {i : Str} (r : Rep K cl Z s H v (.str i)) : v = .str i := by cases r; rfl
theorem o_add : OpT X cl W (binaryOp .Add) (g2 addO) := by
  refine OpT.pure (opr_or op_add (opr_or op_add_str (opr_or op_catA op_cat))) fun Z H x y Q s tx ty c t px py so e hc p => ?_
  unfold addO at e
  split at e
  · cases e
    cases rep_i px
    cases rep_i py
    exact .inl ⟨_, _, rfl, rfl, p.here (.int _) so⟩
  · cases e
    cases rep_s px
    cases rep_s py
    exact .inr (.inl ⟨_, _, rfl, rfl, Nat.le_trans hc (by decide), p.here (.str _) so⟩)
  · cases e
    obtain ⟨a, vs, rfl, h1, r1⟩ := tup_of px
    obtain ⟨b, ws, rfl, h2, r2⟩ := tup_of py
    refine .inr (.inr (.inl ⟨a, b, vs, ws, rfl, rfl, h1, h2, by rw [r1.length, r2.length]; exact Nat.le_trans hc (by decide), fun z => ?_, fun _ z => ?_, fun _ _ => p.newT so (Reps.append r1 r2)⟩))
    · subst z
      cases r1
      exact p.here py so
    · subst z
      cases r2
      rw [List.append_nil] at p
      exact p.here px so
  · split at e
    · rename_i e1 e2
      cases e
      obtain ⟨a, vs, rfl, h1, r1⟩ := lst_of so px e1
      obtain ⟨b, ws, rfl, h2, r2⟩ := lst_of so py e2
      exact .inr (.inr (.inr ⟨a, b, vs, ws, rfl, rfl, h1, h2, by rw [r1.length, r2.length]; exact Nat.le_trans hc (by decide), p.newL so (Reps.append r1 r2)⟩))
    · cases e
/-- an int operator -/
def intO (c : Int → Int → Prop) (f : Int → Int → T) : O2
  | _, .int i, .int j => some (c i j, f i j)
  | _, _, _ => none
theorem o_int {f : Value → Value → Sem Value} {c : Int → Int → Prop} {g : Int → Int → V} {gt : Int → Int → T} (h : OpR X f (rI c g)) (hg : ∀ i j Z s H, Rep X.K cl Z s H (g i j) (gt i j)) : OpT X cl W f (g2 (intO c gt)) := by
  refine OpT.pure h fun Z H x y Q s tx ty c' t px py so e hc p => ?_
  unfold intO at e
  split at e
  · cases e
    cases rep_i px
    cases rep_i py
    exact ⟨_, _, rfl, rfl, hc, p.here (hg _ _ _ _ _) so⟩
  · cases e
theorem opr_I0 {f : Value → Value → Sem Value} {g : Int → Int → V} (h : OpR X f (rI0 g)) : OpR X f (rI (fun _ _ => True) g) := fun pins s σ H x y v u Q I rx ry ⟨i, j, e1, e2, _, q⟩ => h pins s σ H x y v u Q I rx ry ⟨i, j, e1, e2, q⟩
theorem o_sub : OpT X cl W (binaryOp .Sub) (g2 (intO (fun _ _ => True) fun i j => .int (i - j))) := o_int (opr_I0 op_sub) fun _ _ _ _ _ => .int _
theorem o_pow : OpT X cl W (binaryOp .Pow) (g2 (intO CPow fun i j => .int (i ^ j.toNat))) := o_int op_pow fun _ _ _ _ _ => .int _
theorem Reps.flat {K : PySem.W.Frag} {Z : Addr → Prop} {s : S} {H : Hp} {vs : List V} {xs : List T} (r : Reps K cl Z s H vs xs) : ∀ n : Nat, Reps K cl Z s H (List.replicate n vs).flatten (List.replicate n xs).flatten
  | 0 => .nil
  | n + 1 => by
    rw [List.replicate_succ, List.replicate_succ, List.flatten_cons, List.flatten_cons]
    exact Reps.append r (Reps.flat r n)
/-- comparisons of ints and of texts -/
def ltO : O2
  | _, .int i, .int j => some (True, .bl (decide (i < j)))
  | _, .str i, .str j => some (True, .bl (decide (i.cps.toList < j.cps.toList)))
  | _, _, _ => none
def leO : O2
  | _, .int i, .int j => some (True, .bl (decide (i ≤ j)))
  | _, .str i, .str j => some (True, .bl (!decide (j.cps.toList < i.cps.toList)))
  | _, _, _ => none
def gtO : O2
  | _, .int i, .int j => some (True, .bl (decide (j < i)))
  | _, .str i, .str j => some (True, .bl (decide (j.cps.toList < i.cps.toList)))
  | _, _, _ => none
theorem o_lt : OpT X cl W (compareOp .Lt) (g2 ltO) := by
  refine OpT.pure (opr_or op_lt op_lt_str) fun Z H x y Q s tx ty c t px py so e hc p => ?_
  unfold ltO at e
  split at e
  · cases e
    cases rep_i px
    cases rep_i py
    exact .inl ⟨_, _, rfl, rfl, p.here (.bl _) so⟩
  · cases e
    cases rep_s px
    cases rep_s py
    exact .inr ⟨_, _, rfl, rfl, p.here (.bl _) so⟩
  · cases e
theorem o_le : OpT X cl W (compareOp .LtE) (g2 leO) := by
  refine OpT.pure (opr_or op_le op_le_str) fun Z H x y Q s tx ty c t px py so e hc p => ?_
  unfold leO at e
  split at e
  · cases e
    cases rep_i px
    cases rep_i py
    exact .inl ⟨_, _, rfl, rfl, p.here (.bl _) so⟩
  · cases e
    cases rep_s px
    cases rep_s py
    exact .inr ⟨_, _, rfl, rfl, p.here (.bl _) so⟩
  · cases e
theorem o_gt : OpT X cl W (compareOp .Gt) (g2 gtO) := by
  refine OpT.pure (opr_or op_gt op_gt_str) fun Z H x y Q s tx ty c t px py so e hc p => ?_
  unfold gtO at e
  split at e
  · cases e
    cases rep_i px
    cases rep_i py
    exact .inl ⟨_, _, rfl, rfl, p.here (.bl _) so⟩
  · cases e
    cases rep_s px
    cases rep_s py
    exact .inr ⟨_, _, rfl, rfl, p.here (.bl _) so⟩
  · cases e
end
mutual
def T.dat : T → Option PyData
  | .non => some .none
  | .bl b => some (.bool b)
  | .int i => some (.int i)
  | .str z => some (.str z)
  | .lst xs => (dats xs).map .list
  | .tup xs => (dats xs).map .tuple
  | _ => none
def dats : List T → Option (List PyData)
  | [] => some []
  | x :: xs => match x.dat, dats xs with | some d, some ds => some (d :: ds) | _, _ => none
end
def S.dat (s : S) (t : T) : Option PyData :=
  match t with
  | .cell a => match s.on a with | some (.lst xs) => (dats xs).map .list | _ => none
  | t => t.dat
section
variable {K : PySem.W.Frag} {cl : CL} {Z : Addr → Prop} {s : S} {H : Hp}
mutual
theorem Rep.dp (so : Sto K cl Z s H) : ∀ {v : V} {t : T} {d : PyData}, Rep K cl Z s H v t → t.dat = some d → Dp K H v d
  | _, .non, _, r, e => by
    cases r
    rw [T.dat] at e
    cases e
    exact .non
  | _, .bl b, _, r, e => by
    cases r
    rw [T.dat] at e
    cases e
    exact .bl b
  | _, .int b, _, r, e => by
    cases r
    rw [T.dat] at e
    cases e
    exact .int b
  | _, .str b, _, r, e => by
    cases r
    rw [T.dat] at e
    cases e
    exact .str b
  | _, .lst xs, _, r, e => by
    obtain ⟨a, vs, rfl, h, q⟩ := lst_of so r rfl
    rw [T.dat] at e
    obtain ⟨ds, e1, rfl⟩ := Option.map_eq_some_iff.mp e
    exact .lst (SqL.of h) (Reps.dp so q e1)
  | _, .tup xs, _, r, e => by
    obtain ⟨a, vs, rfl, h, q⟩ := tup_of r
    rw [T.dat] at e
    obtain ⟨ds, e1, rfl⟩ := Option.map_eq_some_iff.mp e
    exact .tup h (Reps.dp so q e1)
  | _, .dct _, _, _, e => by rw [T.dat] at e <;> first | cases e | (intros; intro h; cases h)
  | _, .obj _ _, _, _, e => by rw [T.dat] at e <;> first | cases e | (intros; intro h; cases h)
  | _, .err _ _, _, _, e => by rw [T.dat] at e <;> first | cases e | (intros; intro h; cases h)
  | _, .cell _, _, _, e => by rw [T.dat] at e <;> first | cases e | (intros; intro h; cases h)
  | _, .pen, _, _, e => by rw [T.dat] at e <;> first | cases e | (intros; intro h; cases h)
  | _, .ty _, _, _, e => by rw [T.dat] at e <;> first | cases e | (intros; intro h; cases h)
theorem Reps.dp (so : Sto K cl Z s H) : ∀ {vs : List V} {ts : List T} {ds : List PyData}, Reps K cl Z s H vs ts → dats ts = some ds → DpAll K H vs ds
  | _, [], _, r, e => by
    cases r
    rw [dats] at e
    cases e
    exact .nil
  | _, t :: ts, _, r, e => by
    cases r with
    | cons h q =>
      rw [dats] at e
      split at e
      · rename_i d ds e1 e2
        cases e
        exact .cons (Rep.dp so h e1) (Reps.dp so q e2)
      · cases e
end
theorem Rep.sdp {v : V} {t : T} {d : PyData} (so : Sto K cl Z s H) (r : Rep K cl Z s H v t) (e : s.dat t = some d) : Dp K H v d := by
  unfold S.dat at e
  split at e
  · split at e
    · rename_i ho
      cases r
      obtain ⟨vs, h1, h2⟩ := so.cells _ _ ho
      obtain ⟨ds, e1, rfl⟩ := Option.map_eq_some_iff.mp e
      exact .lst (SqL.of h1) (Reps.dp so h2 e1)
    · cases e
  · exact Rep.dp so r e
end
def eqO : O2
  | _, .int i, .int j => some (True, .bl (decide (i = j)))
  | _, .str i, .str j => some (True, .bl (decide (i = j)))
  | _, .bl i, .bl j => some (True, .bl (decide (i = j)))
  | s, x, y => match s.dat x, s.dat y with | some d, some e => some (SeqAt.shaped d = true ∧ SeqAt.shaped e = true, .bl (PyData.eqv d e)) | _, _ => none
def neO : O2
  | _, .int i, .int j => some (True, .bl (!decide (i = j)))
  | _, .str i, .str j => some (True, .bl (!decide (i = j)))
  | _, .bl i, .bl j => some (True, .bl (!decide (i = j)))
  | s, x, y => match s.dat x, s.dat y with | some d, some e => some (SeqAt.shaped d = true ∧ SeqAt.shaped e = true, .bl (!PyData.eqv d e)) | _, _ => none
section
variable {X : Cx} {cl : CL} {W : WX} {k : Nat}
theorem o_eq (hr : Rm k X.A) : OpT X cl W (compareOp .Eq) (g2 eqO) := by
  refine OpT.pure (opr_or op_eq (op_eqD hr.u)) fun Z H x y Q s tx ty c t px py so e hc p => ?_
  unfold eqO at e
  split at e
  · cases e
    cases rep_i px
    cases rep_i py
    exact .inl (r_eqI (p.here (.bl _) so))
  · cases e
    cases rep_s px
    cases rep_s py
    exact .inl (r_eqS (p.here (.bl _) so))
  · cases e
    cases rep_b px
    cases rep_b py
    exact .inl (r_eqB (p.here (.bl _) so))
  · split at e
    · rename_i e1 e2
      cases e
      exact .inr ⟨_, _, px.sdp so e1, py.sdp so e2, hc.1, hc.2, p.here (.bl _) so⟩
    · cases e
theorem o_ne (hr : Rm k X.A) : OpT X cl W (compareOp .NotEq) (g2 neO) := by
  refine OpT.pure (opr_or op_ne (op_neD hr.u)) fun Z H x y Q s tx ty c t px py so e hc p => ?_
  unfold neO at e
  split at e
  · cases e
    cases rep_i px
    cases rep_i py
    exact .inl (r_neI (p.here (.bl _) so))
  · cases e
    cases rep_s px
    cases rep_s py
    exact .inl (r_neS (p.here (.bl _) so))
  · cases e
    cases rep_b px
    cases rep_b py
    exact .inl (r_neB (p.here (.bl _) so))
  · split at e
    · rename_i e1 e2
      cases e
      exact .inr ⟨_, _, px.sdp so e1, py.sdp so e2, hc.1, hc.2, p.here (.bl _) so⟩
    · cases e
def T.isN : T → Bool
  | .non => true
  | _ => false
theorem isN_of {K : PySem.W.Frag} {Z : Addr → Prop} {s : S} {H : Hp} {v : V} {t : T} (r : Rep K cl Z s H v t) : decide (v = .non) = t.isN := by
  cases r with
  | ty k => cases k <;> rfl
  | _ => rfl
def isO : O2
  | _, x, .non => some (True, .bl x.isN)
  | _, _, _ => none
theorem o_is : OpT X cl W (compareOp .Is) (g2 isO) := by
  refine OpT.pure op_isN fun Z H x y Q s tx ty c t px py so e hc p => ?_
  unfold isO at e
  split at e
  · cases e
    cases py
    refine ⟨rfl, ?_⟩
    rw [isN_of px]
    exact p.here (.bl _) so
  · cases e
/-- in: a text in a text; data in a list of data -/
def occ (z w : Str) : Bool := !(Builtin.Str.occurrences z w 0 z.length 1).isEmpty
end
end Mr
namespace Mr
open PySem PySem.Spec PyProof.Rows L2 Tw
def truO (s : S) : T → Option (Prop × Bool)
  | .non => some (True, false)
  | .bl b => some (True, b)
  | .int i => some (True, i != 0)
  | .str z => some (z.length ≤ 1000000, (z.length : Int) != 0)
  | .lst xs => some (True, !xs.isEmpty)
  | .tup xs => some (True, !xs.isEmpty)
  | .cell a => match s.on a with | some (.lst xs) => some (True, !xs.isEmpty) | some (.dct xs) => some (True, !xs.isEmpty) | _ => none
  | _ => none
theorem size6 : (1000000 : Nat) ≤ sizeLine := by decide
section
variable {K : PySem.W.Frag} {cl : CL} {Z : Addr → Prop} {s : S} {H : Hp}
theorem Reps.emp {vs : List V} {xs : List T} (r : Reps K cl Z s H vs xs) : vs.isEmpty = xs.isEmpty := by cases r <;> rfl
theorem RepK.emp {vs : List (Key × V)} {xs : List (Key × T)} (r : RepK K cl Z s H vs xs) : vs.isEmpty = xs.isEmpty := by cases r <;> rfl
theorem tru_of {v : V} {t : T} {c : Prop} {b : Bool} (so : Sto K cl Z s H) (r : Rep K cl Z s H v t) (e : truO s t = some (c, b)) (hc : c) : TruV K v H b := by
  cases t with
  | non => cases r; cases e; exact rfl
  | bl x => cases r; cases e; exact rfl
  | int x => cases r; cases e; exact rfl
  | str x => cases r; cases e; exact ⟨Nat.le_trans hc size6, rfl⟩
  | lst xs =>
    obtain ⟨a, vs, rfl, h, q⟩ := lst_of so r rfl
    cases e
    exact .inl ⟨vs, SqL.of h, by rw [q.emp]⟩
  | tup xs =>
    obtain ⟨a, vs, rfl, h, q⟩ := tup_of r
    cases e
    exact .inr (.inl ⟨vs, h, by rw [q.emp]⟩)
  | cell a =>
    cases r
    unfold truO at e
    dsimp only at e
    split at e
    · rename_i ho
      obtain ⟨vs, h1, h2⟩ := so.cells _ _ ho
      cases e
      exact .inl ⟨vs, SqL.of h1, by rw [h2.emp]⟩
    · rename_i ho
      obtain ⟨vs, h1, h2⟩ := so.cells _ _ ho
      cases e
      exact .inr (.inr ⟨vs, h1, by rw [h2.emp]⟩)
    · cases e
  | _ => cases e
end
def onB (s : S) (t : T) (Q : Bool → Prop) : Prop := match truO s t with | some (c, b) => c ∧ Q b | none => False
theorem onB.mon {s : S} {t : T} {Q Q' : Bool → Prop} (i : ∀ b, Q b → Q' b) (h : onB s t Q) : onB s t Q' := by
  unfold onB at h ⊢
  split at h
  · exact ⟨h.1, i _ h.2⟩
  · exact h
theorem onB.tru {K : PySem.W.Frag} {cl : CL} {Z : Addr → Prop} {s : S} {H : Hp} {v : V} {t : T} {Q : Bool → Prop} (so : Sto K cl Z s H) (r : Rep K cl Z s H v t) (h : onB s t Q) : ∃ b, TruV K v H b ∧ Q b := by
  unfold onB at h
  split at h
  · rename_i c b e
    exact ⟨b, tru_of so r e h.1, h.2⟩
  · exact h.elim
def kB (Q : Bool → S → Prop) : KT := fun t s => match t with | .bl b => Q b s | _ => False
theorem kB.mon {Q Q' : Bool → S → Prop} (i : ∀ b s, Q b s → Q' b s) {t : T} {s : S} (h : kB Q t s) : kB Q' t s := by
  unfold kB at h ⊢
  split at h
  · exact i _ _ h
  · exact h
section
variable {X : Cx} {cl : CL} {W : WX} {e a b c : Expr} {es : List Expr} {F Fa Fb Fc : FE} {G Ga Gb : FT} {A : FA} {pos p : Pos} {rest : List Expr}
def fTru (Fa : FE) : FT := fun τ s Q E => Fa τ s (fun x s1 => onB s1 x fun b => Q b s1) E
theorem jt_val (ha : JE X cl W a Fa) (he : ∀ whole, isTrue a X.env whole = (do let v ← whole; standAt a.pos; holding [v] (truthy v)) := by intro _; rfl) : JT X cl W a (fTru Fa) := by
  refine ⟨fun τ s Q Q' E E' hq he h => ha.mon _ _ _ _ _ _ (fun x s1 h1 => h1.mon fun b => hq b s1) he h, PT.imp (pt_truth ha.pe he) ?_⟩
  rintro σ H Q ⟨Z, τ, s, re, so, h⟩
  refine go ha.mon re so h (fun tx s1 x H1 p1 f1 re1 r1 so1 => ?_) fun _ _ q => q
  obtain ⟨b, t, q⟩ := p1.tru so1 r1
  exact ⟨b, t, q H1 f1 so1⟩
def fTest (F : FE) : FT := fun τ s Q E => F τ s (kB Q) E
theorem mon_test (m : MonE F) : MonT (fTest F) := fun τ s Q Q' E E' hq he h => m _ _ _ _ _ _ (fun t s1 h1 => kB.mon hq h1) he h
theorem test_post {K : PySem.W.Frag} {Z : Addr → Prop} {s s1 : S} {H : Hp} {QB : Bool → Hp → Prop} {t : T} (h : kB (postB K cl Z s H QB) t s1) : post K cl Z s H (fun x H' => ∃ k, x = .bl k ∧ QB k H') t s1 := by
  intro v H' f r so
  unfold kB at h
  split at h
  · cases r
    exact ⟨_, rfl, h H' f so⟩
  · exact h.elim
theorem jt_cmp {op : CmpOp} {g : S → T → T → KT → KX → Prop} (ho : OpT X cl W (compareOp op) g) (ha : JE X cl W a Fa) (hb : JE X cl W b Fb) (hm : behindInMarks op b = false) : JT X cl W (.Compare a [op] [b] pos) (fTest (f2 g Fa Fb)) := by
  refine ⟨mon_test (mon_2 ho.mon ha.mon hb.mon), ⟨fun pins sh σ H Q I h => ?_⟩⟩
  obtain ⟨Z, τ, s, re, so, h⟩ := h
  have h' := two ho.mon ha.mon hb.mon re so (mon_2 ho.mon ha.mon hb.mon _ _ _ _ _ _ (fun _ _ => test_post) (fun _ _ q => q) h)
  refine wpAny_isTrue_Compare1 (thn (ha.pe.run pins sh σ H _ I h') fun v s1 ⟨x, H1, I1, r1, q1⟩ => thn (hb.pe.run pins s1 σ H1 _ I1 q1) fun u s2 ⟨y, H2, I2, r2, q2⟩ =>
    thn (ho.opr pins s2 σ H2 x y v u _ I2 r1 r2 q2) fun c s3 ⟨z, H3, I3, r3, k, e, q3⟩ => ?_) hm
  subst e
  cases r3
  exact wpAny_truthy_bool ⟨H3, I3, q3⟩
/-- a op1 b op2 c -/
def f3 (g g' : S → T → T → KT → KX → Prop) (Fa Fb Fc : FE) : FE := fun τ s Q E => Fa τ s (fun x s1 => Fb τ s1 (fun y s2 => g s2 x y (kB fun k s3 => if k = true then Fc τ s3 (fun z s4 => g' s4 y z Q E) E else Q (.bl false) s3) E) E) E
theorem mon_3 {g g' : S → T → T → KT → KX → Prop} (mg : Mon2 g) (mg' : Mon2 g') (ma : MonE Fa) (mb : MonE Fb) (mc : MonE Fc) : MonE (f3 g g' Fa Fb Fc) := fun τ s Q Q' E E' hq he h =>
  ma _ _ _ _ _ _ (fun x s1 h1 => mb _ _ _ _ _ _ (fun y s2 h2 => mg _ _ _ _ _ _ _ (fun z s3 h3 => kB.mon (fun k s4 h4 => by
    cases k with
    | true => exact w_T (mc _ _ _ _ _ _ (fun z s5 h5 => mg' _ _ _ _ _ _ _ hq he h5) he (by rw [if_pos rfl] at h4; exact h4))
    | false => exact w_F (hq _ _ (by rw [if_neg Bool.false_ne_true] at h4; exact h4))) h3) he h2) he h1) he h
theorem chain_go {Z : Addr → Prop} {g g' : S → T → T → KT → KX → Prop} {σ : L2.St} {τ : Env} {H : Hp} {s : S} {Q : VK} (mg : Mon2 g) (mg' : Mon2 g') (ma : MonE Fa) (mb : MonE Fb) (mc : MonE Fc) (re : REnv X.K cl Z s H σ τ) (so : Sto X.K cl Z s H)
    (h : f3 g g' Fa Fb Fc τ s (post X.K cl Z s H Q) (postW X.K cl Z s H σ W)) :
    tT X.K cl W Fa σ H fun x H1 => tT X.K cl W Fb σ H1 fun y H2 => R2T X cl W σ g (fun z H3 => ∃ k, z = .bl k ∧ (if k = true then tT X.K cl W Fc σ H3 fun w H4 => R2T X cl W σ g' Q y w H4 else Q (.bl false) H3)) x y H2 := by
  refine go ma re so h (fun tx s1 x H1 p1 f1 re1 r1 so1 => ?_) fun _ _ q => q
  refine go mb re1 so1 p1 (fun ty s2 y H2 p2 f2 re2 r2 so2 => ?_) fun _ _ q => postW.up f1 q
  refine ⟨Z, s2, tx, ty, r1.fut f2, r2, so2, mg _ _ _ _ _ _ _ (fun t s3 h3 => ?_) (fun _ _ q => postW.up (f1.trans f2) q) p2⟩
  intro v H3 f3 r3 so3
  unfold kB at h3
  split at h3
  · cases r3
    rename_i k
    refine ⟨k, rfl, ?_⟩
    cases k with
    | false =>
      refine w_F ?_
      rw [if_neg Bool.false_ne_true] at h3
      exact h3 _ _ (f1.trans (f2.trans f3)) (.bl false) so3
    | true =>
      refine w_T ?_
      rw [if_pos rfl] at h3
      refine go mc (re2.fut f3) so3 h3 (fun tz s4 z H4 p4 f4 re4 r4 so4 => ?_) fun _ _ q => postW.up (f1.trans (f2.trans f3)) q
      exact ⟨Z, s4, ty, tz, (r2.fut f3).fut f4, r4, so4, mg' _ _ _ _ _ _ _ (fun _ _ q => post.up (f1.trans (f2.trans (f3.trans f4))) q) (fun _ _ q => postW.up (f1.trans (f2.trans (f3.trans f4))) q) p4⟩
  · exact h3.elim
theorem je_chain {op op' : CmpOp} {g g' : S → T → T → KT → KX → Prop} (ho : OpT X cl W (compareOp op) g) (ho' : OpT X cl W (compareOp op') g') (ha : JE X cl W a Fa) (hb : JE X cl W b Fb) (hc : JE X cl W c Fc)
    (hm : lastMarks [op, op'] [b, c] = false := by with_unfolding_all rfl) : JE X cl W (.Compare a [op, op'] [b, c] pos) (f3 g g' Fa Fb Fc) := by
  refine ⟨mon_3 ho.mon ho'.mon ha.mon hb.mon hc.mon, ⟨fun pins s σ H Q I h => ?_⟩⟩
  obtain ⟨Z, τ, st, re, so, h⟩ := h
  have h' := chain_go ho.mon ho'.mon ha.mon hb.mon hc.mon re so h
  refine Compare_chain (thn (ha.pe.run pins s σ H _ I h') fun v s1 ⟨x, H1, I1, r1, q1⟩ => chain_link (thn (hb.pe.run pins s1 σ H1 _ I1 q1) fun u s2 ⟨y, H2, I2, r2, q2⟩ =>
    thn (ho.opr pins s2 σ H2 x y v u _ I2 r1 r2 q2) fun d s3 ⟨z, H3, I3, r3, k, e, q3⟩ => ?_)) hm
  subst e
  cases r3
  refine wpAny_truthy_bool ?_
  cases k with
  | false => exact ite_ff ⟨.bl false, H3, I3, rfl, q3⟩
  | true => exact ite_tt (chain_last (thn (hc.pe.run pins s3 σ H3 _ I3 q3) fun w' s4 ⟨z', H4, I4, r4, q4⟩ => ho'.opr pins s4 σ H4 y z' u w' Q I4 r2 r4 q4))
theorem jt_chain {op op' : CmpOp} {g g' : S → T → T → KT → KX → Prop} (ho : OpT X cl W (compareOp op) g) (ho' : OpT X cl W (compareOp op') g') (ha : JE X cl W a Fa) (hb : JE X cl W b Fb) (hc : JE X cl W c Fc)
    (hm : lastMarks [op, op'] [b, c] = false := by with_unfolding_all rfl) : JT X cl W (.Compare a [op, op'] [b, c] pos) (fTest (f3 g g' Fa Fb Fc)) := by
  refine ⟨mon_test (mon_3 ho.mon ho'.mon ha.mon hb.mon hc.mon), ⟨fun pins s σ H Q I h => ?_⟩⟩
  obtain ⟨Z, τ, st, re, so, h⟩ := h
  have h' := chain_go ho.mon ho'.mon ha.mon hb.mon hc.mon re so (mon_3 ho.mon ho'.mon ha.mon hb.mon hc.mon _ _ _ _ _ _ (fun _ _ => test_post) (fun _ _ q => q) h)
  refine isTrue_chain (thn (ha.pe.run pins s σ H _ I h') fun v s1 ⟨x, H1, I1, r1, q1⟩ => test_link (thn (hb.pe.run pins s1 σ H1 _ I1 q1) fun u s2 ⟨y, H2, I2, r2, q2⟩ =>
    thn (ho.opr pins s2 σ H2 x y v u _ I2 r1 r2 q2) fun d s3 ⟨z, H3, I3, r3, k, e, q3⟩ => ?_)) hm
  subst e
  cases r3
  refine wpAny_truthy_bool ?_
  cases k with
  | false =>
    obtain ⟨k', e', q'⟩ := q3
    cases e'
    exact ite_ff ⟨H3, I3, q'⟩
  | true =>
    refine ite_tt (test_last (thn (hc.pe.run pins s3 σ H3 _ I3 q3) fun w' s4 ⟨z', H4, I4, r4, q4⟩ => thn (ho'.opr pins s4 σ H4 y z' u w' _ I4 r2 r4 q4) fun d' s5 ⟨z2, H5, I5, r5, k2, e2, q5⟩ => ?_))
    subst e2
    cases r5
    exact wpAny_truthy_bool ⟨H5, I5, q5⟩
def fAnd (Ga Gb : FT) : FT := fun τ s Q E => Ga τ s (fun b s1 => if b = true then Gb τ s1 Q E else Q false s1) E
def fOr (Ga Gb : FT) : FT := fun τ s Q E => Ga τ s (fun b s1 => if b = true then Q true s1 else Gb τ s1 Q E) E
def fNot (Ga : FT) : FT := fun τ s Q E => Ga τ s (fun b s1 => Q (!b) s1) E
theorem w_ite {b : Bool} {A B A' B' : Prop} (h : if b = true then A else B) (i : A → A') (j : B → B') : if b = true then A' else B' := by
  cases b with
  | true => exact w_T (i (by rw [if_pos rfl] at h; exact h))
  | false => exact w_F (j (by rw [if_neg Bool.false_ne_true] at h; exact h))
theorem mon_and (ma : MonT Ga) (mb : MonT Gb) : MonT (fAnd Ga Gb) := fun τ s Q Q' E E' hq he h => ma _ _ _ _ _ _ (fun b s1 h1 => w_ite h1 (mb _ _ _ _ _ _ hq he) (hq _ _)) he h
theorem mon_or (ma : MonT Ga) (mb : MonT Gb) : MonT (fOr Ga Gb) := fun τ s Q Q' E E' hq he h => ma _ _ _ _ _ _ (fun b s1 h1 => w_ite h1 (hq _ _) (mb _ _ _ _ _ _ hq he)) he h
theorem jw_and1 (ha : JT X cl W a Ga) : JW X cl W (.BoolOp .And [a] pos) Ga := ⟨ha.mon, pw_and1 ha.pt⟩
theorem jw_or1 (ha : JT X cl W a Ga) : JW X cl W (.BoolOp .Or [a] pos) Ga := ⟨ha.mon, pw_or1 ha.pt⟩
theorem jw_and (ha : JT X cl W a Ga) (hb : JW X cl W (.BoolOp .And (b :: rest) pos) Gb) : JW X cl W (.BoolOp .And (a :: b :: rest) pos) (fAnd Ga Gb) := by
  refine ⟨mon_and ha.mon hb.mon, PW.imp (pw_and ha.pt hb.pw) ?_⟩
  rintro σ H Q ⟨Z, τ, s, re, so, h⟩
  refine goT ha.mon re so h (fun b s1 H1 p1 f1 re1 so1 => w_ite p1 (fun q => ?_) (fun q => q H1 f1 so1)) fun _ _ q => q
  exact goT hb.mon re1 so1 q (fun b s2 H2 p2 f2 re2 so2 => p2 H2 (f1.trans f2) so2) fun _ _ q => postW.up f1 q
theorem jw_or (ha : JT X cl W a Ga) (hb : JW X cl W (.BoolOp .Or (b :: rest) pos) Gb) : JW X cl W (.BoolOp .Or (a :: b :: rest) pos) (fOr Ga Gb) := by
  refine ⟨mon_or ha.mon hb.mon, PW.imp (pw_or ha.pt hb.pw) ?_⟩
  rintro σ H Q ⟨Z, τ, s, re, so, h⟩
  refine goT ha.mon re so h (fun b s1 H1 p1 f1 re1 so1 => w_ite p1 (fun q => q H1 f1 so1) (fun q => ?_)) fun _ _ q => q
  exact goT hb.mon re1 so1 q (fun b s2 H2 p2 f2 re2 so2 => p2 H2 (f1.trans f2) so2) fun _ _ q => postW.up f1 q
theorem JW.jt (h : JW X cl W e G) : JT X cl W e G := ⟨h.mon, h.pw.pt⟩
theorem jt_not (ha : JT X cl W a Ga) : JT X cl W (.UnaryOp .Not a pos) (fNot Ga) := by
  refine ⟨fun τ s Q Q' E E' hq he h => ha.mon _ _ _ _ _ _ (fun b s1 h1 => hq _ _ h1) he h, PT.imp (pt_not ha.pt) ?_⟩
  rintro σ H Q ⟨Z, τ, s, re, so, h⟩
  exact goT ha.mon re so h (fun b s1 H1 p1 f1 re1 so1 => p1 H1 f1 so1) fun _ _ q => q
def fAndV (Fa Fb : FE) : FE := fun τ s Q E => Fa τ s (fun x s1 => onB s1 x fun b => if b = true then Fb τ s1 Q E else Q x s1) E
def fOrV (Fa Fb : FE) : FE := fun τ s Q E => Fa τ s (fun x s1 => onB s1 x fun b => if b = true then Q x s1 else Fb τ s1 Q E) E
def fNotV (Fa : FE) : FE := fun τ s Q E => Fa τ s (fun x s1 => onB s1 x fun b => Q (.bl (!b)) s1) E
theorem je_one {op : BoolOp} (ha : JE X cl W a Fa) : JE X cl W (.BoolOp op [a] pos) Fa := ⟨ha.mon, pe_one ha.pe⟩
theorem je_and (ha : JE X cl W a Fa) (hb : JE X cl W (.BoolOp .And (b :: rest) pos) Fb) : JE X cl W (.BoolOp .And (a :: b :: rest) pos) (fAndV Fa Fb) := by
  refine ⟨fun τ s Q Q' E E' hq he h => ha.mon _ _ _ _ _ _ (fun x s1 h1 => h1.mon fun b h2 => w_ite h2 (hb.mon _ _ _ _ _ _ hq he) (hq _ _)) he h, PE.imp (pe_andT ha.pe hb.pe) ?_⟩
  rintro σ H Q ⟨Z, τ, s, re, so, h⟩
  refine go ha.mon re so h (fun tx s1 x H1 p1 f1 re1 r1 so1 => ?_) fun _ _ q => q
  obtain ⟨b, t, q⟩ := p1.tru so1 r1
  refine ⟨b, t, w_ite q (fun q => ?_) fun q => q _ _ f1 r1 so1⟩
  exact go hb.mon re1 so1 q (fun ty s2 y H2 p2 f2 re2 r2 so2 => p2 _ _ (f1.trans f2) r2 so2) fun _ _ q => postW.up f1 q
theorem je_not (ha : JE X cl W a Fa) : JE X cl W (.UnaryOp .Not a pos) (fNotV Fa) := by
  refine ⟨fun τ s Q Q' E E' hq he h => ha.mon _ _ _ _ _ _ (fun x s1 h1 => h1.mon fun b h2 => hq _ _ h2) he h, PE.imp (pe_notT ha.pe) ?_⟩
  rintro σ H Q ⟨Z, τ, s, re, so, h⟩
  refine go ha.mon re so h (fun tx s1 x H1 p1 f1 re1 r1 so1 => ?_) fun _ _ q => q
  obtain ⟨b, t, q⟩ := p1.tru so1 r1
  exact ⟨b, t, q _ _ f1 (.bl _) so1⟩
def fIf (G : FT) (Fa Fb : FE) : FE := fun τ s Q E => G τ s (fun b s1 => if b = true then Fa τ s1 Q E else Fb τ s1 Q E) E
theorem je_if (hc : JT X cl W c G) (ha : JE X cl W a Fa) (hb : JE X cl W b Fb) : JE X cl W (.IfExp c a b pos) (fIf G Fa Fb) := by
  refine ⟨fun τ s Q Q' E E' hq he h => hc.mon _ _ _ _ _ _ (fun b s1 h1 => w_ite h1 (ha.mon _ _ _ _ _ _ hq he) (hb.mon _ _ _ _ _ _ hq he)) he h, PE.imp (pe_ifExp hc.pt ha.pe hb.pe) ?_⟩
  rintro σ H Q ⟨Z, τ, s, re, so, h⟩
  refine goT hc.mon re so h (fun b s1 H1 p1 f1 re1 so1 => w_ite p1 (fun q => ?_) (fun q => ?_)) fun _ _ q => q
  · exact go ha.mon re1 so1 q (fun ty s2 y H2 p2 f2 re2 r2 so2 => p2 _ _ (f1.trans f2) r2 so2) fun _ _ q => postW.up f1 q
  · exact go hb.mon re1 so1 q (fun ty s2 y H2 p2 f2 re2 r2 so2 => p2 _ _ (f1.trans f2) r2 so2) fun _ _ q => postW.up f1 q
abbrev O1 := S → T → Option (Prop × T)
def onO (s : S) (o : Option (Prop × T)) (Q : KT) : Prop := match o with | some (c, t) => c ∧ Q t s | none => False
theorem onO.mon {s : S} {o : Option (Prop × T)} {Q Q' : KT} (i : ∀ t s, Q t s → Q' t s) (h : onO s o Q) : onO s o Q' := by
  unfold onO at h ⊢
  split at h
  · exact ⟨h.1, i _ _ h.2⟩
  · exact h
def fUn (o : O1) (Fa : FE) : FE := fun τ s Q E => Fa τ s (fun x s1 => onO s1 (o s1 x) Q) E
theorem mon_un {o : O1} (ma : MonE Fa) : MonE (fUn o Fa) := fun τ s Q Q' E E' hq he h => ma _ _ _ _ _ _ (fun x s1 h1 => h1.mon hq) he h
theorem je_un1 {t : TE → TE} {o : O1} {r : V → Hp → VK → Prop} (ht : ∀ te, t te = fun σ H Q => te σ H fun x H1 => r x H1 Q) (h : PE X e (t (tT X.K cl W Fa))) (ma : MonE Fa)
    (i : ∀ (Z : Addr → Prop) (H : Hp) (x : V) (Q : VK) (s : S) (tx : T) (c : Prop) (t : T), Rep X.K cl Z s H x tx → Sto X.K cl Z s H → o s tx = some (c, t) → c → post X.K cl Z s H Q t s → r x H Q) : JE X cl W e (fUn o Fa) := by
  rw [ht] at h
  refine ⟨mon_un ma, PE.imp h ?_⟩
  rintro σ H Q ⟨Z, τ, s, re, so, h⟩
  refine go ma re so h (fun tx s1 x H1 p1 f1 re1 r1 so1 => ?_) fun _ _ q => q
  unfold onO at p1
  split at p1
  · rename_i c t e1
    exact i Z H1 x Q s1 tx c t r1 so1 e1 p1.1 (post.up f1 p1.2)
  · exact p1.elim
def negO : O1
  | _, .int i => some (True, .int (-i))
  | _, _ => none
theorem je_neg (ha : JE X cl W a Fa) : JE X cl W (.UnaryOp .USub a pos) (fUn negO Fa) := by
  refine je_un1 (t := tUn _) (r := rU fun i => .int (-i)) (fun te => rfl) (pe_un un_neg ha.pe) ha.mon fun Z H x Q s tx c t px so e hc p => ?_
  unfold negO at e
  split at e
  · cases e
    cases rep_i px
    exact ⟨_, rfl, p.here (.int _) so⟩
  · cases e
def fNil : FA := fun _ s Q _ => Q [] s
def fCons (Fa : FE) (A : FA) : FA := fun τ s Q E => Fa τ s (fun x s1 => A τ s1 (fun xs s2 => Q (x :: xs) s2) E) E
theorem ja_nil : JA X cl W [] fNil := by
  refine ⟨fun τ s Q Q' E E' hq he h => hq _ _ h, PA.imp pa_nil ?_⟩
  rintro σ H Q ⟨Z, τ, s, re, so, h⟩
  exact h [] H (Fut.refl _ _) .nil so
theorem ja_cons (ha : JE X cl W e Fa) (hr : JA X cl W es A) (hs : starEach (e :: es) X.env = (false, eval e X.env) :: starEach es X.env := by rfl) : JA X cl W (e :: es) (fCons Fa A) := by
  refine ⟨fun τ s Q Q' E E' hq he h => ha.mon _ _ _ _ _ _ (fun x s1 h1 => hr.mon _ _ _ _ _ _ (fun xs s2 h2 => hq _ _ h2) he h1) he h, PA.imp (pa_cons ha.pe hr.pa hs) ?_⟩
  rintro σ H Q ⟨Z, τ, s, re, so, h⟩
  refine go ha.mon re so h (fun tx s1 x H1 p1 f1 re1 r1 so1 => ?_) fun _ _ q => q
  exact goA hr.mon re1 so1 p1 (fun ts s2 vs H2 p2 f2 re2 r2 so2 => p2 _ _ (f1.trans f2) (.cons (r1.fut f2) r2) so2) fun _ _ q => postW.up f1 q
def fLst (A : FA) : FE := fun τ s Q E => A τ s (fun ts s1 => ts.length ≤ 1000 ∧ Q (.lst ts) s1) E
def fTup (A : FA) : FE := fun τ s Q E => A τ s (fun ts s1 => ts.length ≤ 1000 ∧ Q (.tup ts) s1) E
def fLstC (A : FA) : FE := fun τ s Q E => A τ s (fun ts s1 => ts.length ≤ 1000 ∧ ∀ a, s1.on a = none → Q (.cell a) (s1.put a (.lst ts))) E
theorem je_lst (ha : JA X cl W es A) : JE X cl W (.List es pos) (fLst A) := by
  refine ⟨fun τ s Q Q' E E' hq he h => ha.mon _ _ _ _ _ _ (fun x s1 h1 => ⟨h1.1, hq _ _ h1.2⟩) he h, PE.imp (pe_lst ha.pa) ?_⟩
  rintro σ H Q ⟨Z, τ, s, re, so, h⟩
  refine goA ha.mon re so h (fun ts s1 vs H1 p1 f1 re1 r1 so1 => ⟨?_, post.newL (post.up f1 p1.2) so1 r1⟩) fun _ _ q => q
  rw [r1.length]
  exact Nat.le_trans p1.1 (by decide)
theorem je_tup {x1} (ha : JA X cl W es A) : JE X cl W (.Tuple es x1 pos) (fTup A) := by
  refine ⟨fun τ s Q Q' E E' hq he h => ha.mon _ _ _ _ _ _ (fun x s1 h1 => ⟨h1.1, hq _ _ h1.2⟩) he h, PE.imp (pe_tup ha.pa) ?_⟩
  rintro σ H Q ⟨Z, τ, s, re, so, h⟩
  refine goA ha.mon re so h (fun ts s1 vs H1 p1 f1 re1 r1 so1 => ⟨?_, post.newT (post.up f1 p1.2) so1 r1⟩) fun _ _ q => q
  rw [r1.length]
  exact Nat.le_trans p1.1 (by decide)
theorem je_lstC (ha : JA X cl W es A) : JE X cl W (.List es pos) (fLstC A) := by
  refine ⟨fun τ s Q Q' E E' hq he h => ha.mon _ _ _ _ _ _ (fun x s1 h1 => ⟨h1.1, fun a z => hq _ _ (h1.2 a z)⟩) he h, PE.imp (pe_lst ha.pa) ?_⟩
  rintro σ H Q ⟨Z, τ, s, re, so, h⟩
  refine goA ha.mon re so h (fun ts s1 vs H1 p1 f1 re1 r1 so1 => ⟨?_, fun a ha => ?_⟩) fun _ _ q => q
  · rw [r1.length]
    exact Nat.le_trans p1.1 (by decide)
  · exact p1.2 a (on_none so1 ha) _ _ (f1.trans (Fut.newC ha)) (.cell a) (so1.newC ha ⟨vs, upd_same, r1.fut (Fut.newC ha)⟩)
def ixO : O2
  | _, .str z, .int i => match atI z.cps.toList i with | some c => some (z.length ≤ 1000000, .str ⟨#[c]⟩) | none => none
  | s, x, .int i => match s.seq? x with | some (_, xs) => (match atI xs i with | some t => some (True, t) | none => none) | none => none
  | _, _, _ => none
theorem Reps.atI {K : PySem.W.Frag} {Z : Addr → Prop} {s : S} {H : Hp} {vs : List V} {ts : List T} {i : Int} {t : T} (r : Reps K cl Z s H vs ts) (e : L2.atI ts i = some t) : ∃ v, L2.atI vs i = some v ∧ Rep K cl Z s H v t := by
  unfold L2.atI at e ⊢
  rw [r.length]
  cases q : ixN ts.length i with
  | none => rw [q] at e; cases e
  | some j =>
    rw [q] at e
    exact r.get j e
theorem je_ix (ha : JE X cl W a Fa) (hb : JE X cl W b Fb) (hs : PlainIx b) : JE X cl W (.Subscript a b pos) (f2 (g2 ixO) Fa Fb) := by
  refine ⟨mon_2 (mon_g2 _) ha.mon hb.mon, PE.imp (pe_ix ix_seq ha.pe hb.pe hs) ?_⟩
  rintro σ H Q ⟨Z, τ, s, re, so, h⟩
  refine go ha.mon re so h (fun tx s1 x H1 p1 f1 re1 r1 so1 => ?_) fun _ _ q => q
  refine go hb.mon re1 so1 p1 (fun ty s2 y H2 p2 f2 re2 r2 so2 => ?_) fun _ _ q => postW.up f1 q
  have r1' := r1.fut f2
  unfold g2 at p2
  split at p2
  · rename_i c t e
    have p := post.up (f1.trans f2) p2.2
    unfold ixO at e
    split at e
    · cases rep_s r1'
      cases rep_i r2
      split at e
      · rename_i c' e'
        cases e
        exact .inr (.inr ⟨_, _, _, rfl, rfl, Nat.le_trans p2.1 size6, e', p.here (.str _) so2⟩)
      · cases e
    · cases rep_i r2
      split at e
      · rename_i b xs e1
        split at e
        · rename_i t' e2
          cases e
          obtain ⟨a', vs, rfl, hq, rs⟩ := seq_sq so2 r1' e1
          obtain ⟨v, e3, rv⟩ := rs.atI e2
          rcases hq with hq | hq
          · exact .inl ⟨a', vs, _, v, rfl, rfl, hq, e3, p.here rv so2⟩
          · exact .inr (.inl ⟨a', vs, _, v, rfl, rfl, hq, e3, p.here rv so2⟩)
        · cases e
      · cases e
    · cases e
  · exact p2.elim
end
end Mr
namespace Mr
open PySem PySem.Spec PyProof.Rows L2 Tw
abbrev ON := S → List T → Option (Prop × T)
structure BC (X : Cx) (cl : CL) (f : Value) (o : ON) : Prop where
  ex : ∃ r, CallR X f r ∧ ∀ (Z : Addr → Prop) (H : Hp) (xs : List V) (Q : VK) (s : S) (ts : List T) (c : Prop) (t : T), Reps X.K cl Z s H xs ts → Sto X.K cl Z s H → o s ts = some (c, t) → c → post X.K cl Z s H Q t s → r xs H Q
def fCB (o : ON) (A : FA) : FE := fun τ s Q E => A τ s (fun ts s1 => onO s1 (o s1 ts) Q) E
section
variable {X : Cx} {cl : CL} {W : WX} {e a b c : Expr} {es : List Expr} {F Fa Fb Fc : FE} {G Ga Gb : FT} {A : FA} {pos p apos : Pos} {rest : List Expr} {o : ON} {id : String} {x : Str} {k j : Nat}
theorem cb_imp {r : List V → Hp → VK → Prop} (ma : MonA A) (i : ∀ (Z : Addr → Prop) (H : Hp) (xs : List V) (Q : VK) (s : S) (ts : List T) (c : Prop) (t : T), Reps X.K cl Z s H xs ts → Sto X.K cl Z s H → o s ts = some (c, t) → c → post X.K cl Z s H Q t s → r xs H Q)
    (h : PE X e (tCB r (tTA X.K cl W A))) : JE X cl W e (fCB o A) := by
  refine ⟨fun τ s Q Q' E E' hq he h => ma _ _ _ _ _ _ (fun ts s1 h1 => h1.mon hq) he h, PE.imp h ?_⟩
  rintro σ H Q ⟨Z, τ, s, re, so, h⟩
  refine goA ma re so h (fun ts s1 vs H1 p1 f1 re1 r1 so1 => ?_) fun _ _ q => q
  unfold onO at p1
  split at p1
  · rename_i c t e1
    exact i Z H1 vs Q s1 ts c t r1 so1 e1 p1.1 (post.up f1 p1.2)
  · exact p1.elim
theorem je_b (hc : BC X cl (.builtin id) o) (hg : Gl X x) (hm : X.mg x = none) (hv : bootBuiltins x = some (.builtin id)) (ha : JA X cl W (e :: es) A) (hn : x ≠ "__name__" := by decide) (hdb : (x == ("__debug__" : Str)) = false := by decide)
    (he : starEach (e :: es) X.env = (false, eval e X.env) :: starEach es X.env := by rfl) (hpl : (backTo pos (starEach es X.env)).any (·.1) = false := by rfl) : JE X cl W (.Call (.Name x p) (e :: es) [] pos) (fCB o A) := by
  obtain ⟨r, h1, h2⟩ := hc.ex
  exact cb_imp ha.mon h2 (pe_callB h1 hg hm hv ha.pa hn hdb he hpl)
theorem je_bt {n : String} (hc : BC X cl (.type n) o) (hg : Gl X x) (hm : X.mg x = none) (hv : bootBuiltins x = some (.type n)) (ha : JA X cl W (e :: es) A) (hn : x ≠ "__name__" := by decide) (hdb : (x == ("__debug__" : Str)) = false := by decide)
    (he : starEach (e :: es) X.env = (false, eval e X.env) :: starEach es X.env := by rfl) (hpl : (backTo pos (starEach es X.env)).any (·.1) = false := by rfl) : JE X cl W (.Call (.Name x p) (e :: es) [] pos) (fCB o A) := by
  obtain ⟨r, h1, h2⟩ := hc.ex
  exact cb_imp ha.mon h2 (pe_callTy h1 hg hm hv ha.pa hn hdb he hpl)
theorem reps1 {K : PySem.W.Frag} {Z : Addr → Prop} {s : S} {H : Hp} {vs : List V} {t : T} (r : Reps K cl Z s H vs [t]) : ∃ v, vs = [v] ∧ Rep K cl Z s H v t := by
  cases r with
  | cons h q => cases q; exact ⟨_, rfl, h⟩
theorem reps2 {K : PySem.W.Frag} {Z : Addr → Prop} {s : S} {H : Hp} {vs : List V} {t u : T} (r : Reps K cl Z s H vs [t, u]) : ∃ v w, vs = [v, w] ∧ Rep K cl Z s H v t ∧ Rep K cl Z s H w u := by
  cases r with
  | cons h q =>
    obtain ⟨w, rfl, q2⟩ := reps1 q
    exact ⟨_, w, rfl, h, q2⟩
def lenO : ON
  | _, [.str z] => some (z.length ≤ 1000000, .int z.length)
  | s, [x] => match s.seq? x with | some (_, xs) => some (True, .int xs.length) | none => none
  | _, _ => none
theorem c_len : BC X cl (.builtin "len") lenO := by
  refine ⟨_, call_or Tw.c_len Tw.c_lenS, fun Z H xs Q s ts c t r so e hc p => ?_⟩
  unfold lenO at e
  split at e
  · cases e
    obtain ⟨v, rfl, rv⟩ := reps1 r
    cases rep_s rv
    exact .inr ⟨_, rfl, Nat.le_trans hc size6, p.here (.int _) so⟩
  · obtain ⟨v, rfl, rv⟩ := reps1 r
    split at e
    · rename_i e1
      cases e
      obtain ⟨a, vs, rfl, hq, rs⟩ := seq_sq so rv e1
      exact .inl ⟨a, vs, rfl, hq, p.here (by rw [rs.length]; exact .int _) so⟩
    · cases e
  · cases e
def absO : ON
  | _, [.int i] => some (True, .int (if i < 0 then -i else i))
  | _, _ => none
theorem c_abs : BC X cl (.builtin "abs") absO := by
  refine ⟨_, call_abs, fun Z H xs Q s ts c t r so e hc p => ?_⟩
  unfold absO at e
  split at e
  · cases e
    obtain ⟨v, rfl, rv⟩ := reps1 r
    cases rep_i rv
    exact ⟨_, rfl, p.here (.int _) so⟩
  · cases e
def intO1 : ON
  | _, [.int i] => some (True, .int i)
  | _, [.bl b] => some (True, .int (if b then 1 else 0))
  | _, _ => none
theorem c_int : BC X cl (.type "int") intO1 := by
  refine ⟨_, call_int1, fun Z H xs Q s ts c t r so e hc p => ?_⟩
  unfold intO1 at e
  split at e
  · cases e
    obtain ⟨v, rfl, rv⟩ := reps1 r
    cases rep_i rv
    exact .inl ⟨_, rfl, p.here (.int _) so⟩
  · cases e
    obtain ⟨v, rfl, rv⟩ := reps1 r
    cases rep_b rv
    exact .inr ⟨_, rfl, p.here (.int _) so⟩
  · cases e
def listO : ON
  | s, [x] => match s.seq? x with | some (_, xs) => some (True, .lst xs) | none => none
  | _, _ => none
theorem c_list : BC X cl (.type "list") listO := by
  refine ⟨_, call_list_of, fun Z H xs Q s ts c t r so e hc p => ?_⟩
  unfold listO at e
  split at e
  · obtain ⟨v, rfl, rv⟩ := reps1 r
    split at e
    · rename_i e1
      cases e
      obtain ⟨a, vs, rfl, hq, rs⟩ := seq_sq so rv e1
      exact ⟨a, vs, rfl, hq, p.newL so rs⟩
    · cases e
  · cases e
theorem seq_tup {s : S} {x : T} {xs : List T} (e : s.seq? x = some (false, xs)) : x = .tup xs := by
  cases x with
  | tup zs => cases e; rfl
  | lst zs => cases e
  | cell q =>
    unfold S.seq? at e
    dsimp only at e
    split at e <;> cases e
  | _ => cases e
def tupO : ON
  | s, [x] => match s.seq? x with | some (_, xs) => some (True, .tup xs) | none => none
  | _, _ => none
theorem c_tup : BC X cl (.type "tuple") tupO := by
  refine ⟨_, call_tuple_of, fun Z H xs Q s ts c t r so e hc p => ?_⟩
  unfold tupO at e
  split at e
  · obtain ⟨v, rfl, rv⟩ := reps1 r
    split at e
    · rename_i b ys e1
      cases e
      obtain ⟨a, vs, rfl, hq, rs⟩ := seq_of so rv e1
      cases b with
      | true =>
        rw [if_pos rfl] at hq
        exact ⟨a, vs, rfl, .inl ⟨SqL.of hq, p.newT so rs⟩⟩
      | false =>
        rw [if_neg Bool.false_ne_true] at hq
        refine ⟨a, vs, rfl, .inr ⟨hq, p.here ?_ so⟩⟩
        rw [← seq_tup e1]
        exact rv
    · cases e
  · cases e
def bools : List T → Option (List Bool)
  | [] => some []
  | .bl b :: r => (bools r).map (b :: ·)
  | _ => none
theorem Reps.bools {K : PySem.W.Frag} {Z : Addr → Prop} {s : S} {H : Hp} : ∀ {vs : List V} {ts : List T} {bs : List Bool}, Reps K cl Z s H vs ts → Mr.bools ts = some bs → vs = bs.map V.bl
  | _, [], _, r, e => by cases r; cases e; rfl
  | _, t :: ts, _, r, e => by
    cases r with
    | cons h q =>
      unfold Mr.bools at e
      split at e
      · rename_i e0
        cases e0
      · rename_i b r' e0
        injection e0 with e1 e2
        subst e1 e2
        obtain ⟨l, e3, rfl⟩ := Option.map_eq_some_iff.mp e
        cases rep_b h
        rw [List.map_cons, q.bools e3]
      · cases e
theorem bools_map (bs : List Bool) : bools (bs.map T.bl) = some bs := by
  induction bs with
  | nil => rfl
  | cons b r ih => rw [List.map_cons]; unfold bools; rw [ih]; rfl
def allO : ON
  | s, [x] => match s.lst? x with | some xs => (match bools xs with | some bs => some (True, .bl (bs.all fun b => b)) | none => none) | none => none
  | _, _ => none
theorem c_all (hcm : X.calm = true) : BC X cl (.builtin "all") allO := by
  refine ⟨_, cr_all hcm, fun Z H xs Q s ts c t r so e hc p => ?_⟩
  unfold allO at e
  split at e
  · obtain ⟨v, rfl, rv⟩ := reps1 r
    split at e
    · rename_i e1
      split at e
      · rename_i bs e2
        cases e
        obtain ⟨a, vs, rfl, hq, rs⟩ := lst_of so rv e1
        exact ⟨a, bs, rfl, SqL.of (by rw [hq, rs.bools e2]), p.here (.bl _) so⟩
      · cases e
    · cases e
  · cases e
/-- what a value is; whether it is an error -/
def S.ty? (s : S) : T → Option (Ty × Bool)
  | .non => some (.non, false) | .bl _ => some (.bool, false) | .int _ => some (.int, false) | .str _ => some (.str, false) | .lst _ => some (.list, false) | .tup _ => some (.tup, false) | .dct _ => some (.dict, false)
  | .obj c _ => some (.own c, false)
  | .err c _ => some (.own c, true)
  | .cell a => match s.on a with | some (.lst _) => some (.list, false) | some (.obj c _) => some (.own c, false) | some (.dct _) => some (.dict, false) | none => none
  | _ => none
/-- what is known of own classes -/
structure Wc (K : PySem.W.Frag) (cl : CL) (kk : Ty → Ty → Option Bool) (ins exc : List Nat) : Prop where
  kit : ∀ a b r, kk a b = some r → PySem.W.kitOne K (a.u cl) (b.u cl) = some r
  hi : ∀ c ∈ ins, C8.InsC K (cl c)
  he : ∀ c ∈ exc, ExcC K (cl c)
def okC (ins exc : List Nat) : Ty → Bool → Prop
  | .own c, true => c ∈ exc
  | .own c, false => c ∈ ins
  | _, _ => True
theorem ty_of {K : PySem.W.Frag} {kk : Ty → Ty → Option Bool} {ins exc : List Nat} {Z : Addr → Prop} {s : S} {H : Hp} {v : V} {t : T} {y : Ty} {g : Bool} (w : Wc K cl kk ins exc) (so : Sto K cl Z s H) (r : Rep K cl Z s H v t) (e : s.ty? t = some (y, g)) (h : okC ins exc y g) : TyE K H v (y.u cl) := by
  cases t with
  | non => cases r; cases e; exact .inl (.base .non)
  | bl b => cases r; cases e; exact .inl (.base (.bl b))
  | int b => cases r; cases e; exact .inl (.base (.int b))
  | str b => cases r; cases e; exact .inl (.base (.str b))
  | lst xs => obtain ⟨a, vs, rfl, hq, rs⟩ := lst_of so r rfl; cases e; exact .inl (.base (.lst hq))
  | tup xs =>
    cases e
    cases r with
    | tup h _ _ => exact .inl (.base (.tup h))
    | tupK a b _ _ _ _ => exact .inl (.kTuple a b)
  | dct xs =>
    cases e
    cases r with
    | dct h _ _ =>
      rcases h with h | ⟨od, h⟩
      · exact .inl (.base (.dK h))
      · exact .inr (.inr ⟨_, od, _, rfl, rfl, h⟩)
  | obj c fs =>
    cases e
    have i := w.hi c h
    cases r with
    | obj ho _ _ => exact .inl (.base (.ins ho i.cl i.ha i.hn i.htk i.hm))
  | err c fs =>
    cases e
    have i := w.he c h
    cases r with
    | err h1 _ h2 _ _ => exact .inr (.inl ⟨_, _, _, _, rfl, rfl, i, h1, h2⟩)
  | cell a =>
    cases r
    unfold S.ty? at e
    dsimp only at e
    split at e
    · rename_i ho
      cases e
      obtain ⟨vs, h1, h2⟩ := so.cells _ _ ho
      exact .inl (.base (.lst h1))
    · rename_i c fs ho
      cases e
      obtain ⟨dx, vs, h1, h2⟩ := so.cells _ _ ho
      have i := w.hi c h
      exact .inl (.base (.ins h1 i.cl i.ha i.hn i.htk i.hm))
    · rename_i ho
      cases e
      obtain ⟨vs, h1, h2⟩ := so.cells _ _ ho
      exact .inl (.base (.dK h1))
    · cases e
  | _ => cases e
def isiO (kk : Ty → Ty → Option Bool) (ins exc : List Nat) : ON
  | s, [x, .ty b] => match s.ty? x with | some (a, g) => (match kk a b with | some r => some (okC ins exc a g, .bl r) | none => none) | none => none
  | _, _ => none
theorem c_isi {kk : Ty → Ty → Option Bool} {ins exc : List Nat} (w : Wc X.K cl kk ins exc) : BC X cl (.builtin "isinstance") (isiO kk ins exc) := by
  refine ⟨_, call_isX, fun Z H xs Q s ts c t r so e hc p => ?_⟩
  unfold isiO at e
  split at e
  · obtain ⟨v, u, rfl, rv, ru⟩ := reps2 r
    cases ru
    split at e
    · rename_i a g e1
      split at e
      · rename_i q e2
        cases e
        exact r_isX (Ty.cls cl _) (ty_of w so rv e1 hc) (w.kit _ _ _ e2) (p.here (.bl _) so)
      · cases e
    · cases e
  · cases e
def S.obj? (s : S) : T → Option (Nat × List (Str × T))
  | .obj c fs => some (c, fs)
  | .cell a => match s.on a with | some (.obj c fs) => some (c, fs) | _ => none
  | _ => none
theorem obj_of {K : PySem.W.Frag} {Z : Addr → Prop} {s : S} {H : Hp} {v : V} {t : T} {n : Nat} {fs : List (Str × T)} (so : Sto K cl Z s H) (r : Rep K cl Z s H v t) (e : s.obj? t = some (n, fs)) :
    ∃ a dx fvs, v = .ref a ∧ H a = some (.ins (cl n) dx fvs) ∧ RepF K cl Z s H fvs fs := by
  cases t with
  | obj c fs =>
    cases e
    cases r with
    | obj h _ q => exact ⟨_, _, _, rfl, h, q⟩
  | cell a =>
    cases r
    unfold S.obj? at e
    dsimp only at e
    split at e
    · rename_i ho
      cases e
      obtain ⟨dx, fvs, h1, h2⟩ := so.cells _ _ ho
      exact ⟨a, dx, fvs, rfl, h1, h2⟩
    · cases e
  | _ => cases e
def fldO (cs : List Nat) (f : Str) : O1 := fun s x => match s.obj? x with | some (c, fs) => (match fs.lookup f with | some t => some (c ∈ cs, t) | none => none) | none => none
theorem je_fld {cs : List Nat} {f : Str} (hc : ∀ c ∈ cs, Cls X.K (cl c) ∧ NoAttr X.K (cl c) f) (ha : JE X cl W a Fa) (hb : attributeBase a f X.env (eval a X.env) = eval a X.env := by rfl) : JE X cl W (.Attribute a f pos) (fUn (fldO cs f) Fa) := by
  refine je_un1 (t := fun te => tFld X.K te f) (r := fun x H1 Q => ∃ a C dx fs v, x = .ref a ∧ H1 a = some (.ins C dx fs) ∧ Cls X.K C ∧ NoAttr X.K C f ∧ fs.lookup f = some v ∧ Q v H1) (fun te => rfl) (pe_fld ha.pe hb) ha.mon fun Z H x Q s tx c t px so e hcc p => ?_
  unfold fldO at e
  split at e
  · rename_i n fs e1
    split at e
    · rename_i t' e2
      cases e
      obtain ⟨a, dx, fvs, rfl, h1, rf⟩ := obj_of so px e1
      obtain ⟨v, e3, rv⟩ := rf.lookup e2
      exact ⟨a, _, dx, fvs, v, rfl, h1, (hc n hcc).1, (hc n hcc).2, e3, p.here rv so⟩
    · cases e
  · cases e
/-- a field of an error -/
def xgO (c : Nat) (f : Str) : O1
  | _, .err k fs => match fs.lookup f with | some t => some (k = c, t) | none => none
  | _, _ => none
def rXg (C : Addr) (f : Str) : V → Hp → VK → Prop := fun x H1 Q => ∃ (a d : Addr) (fs : List (Str × V)) (v : V), x = .ref a ∧ H1 a = some (exV C a d) ∧ H1 d = some (.xd fs) ∧ fs.lookup f = some v ∧ Q v H1
theorem je_xg {c : Nat} {f : Str} (hT : XfC X.K (cl c)) (hno : PySem.W.findIn X.K (.ref (cl c)) f = some none) (ha : JE X cl W a Fa) (hb : attributeBase a f X.env (eval a X.env) = eval a X.env := by rfl) : JE X cl W (.Attribute a f pos) (fUn (xgO c f) Fa) := by
  refine je_un1 (t := tXg (cl c) f) (r := rXg (cl c) f) (fun te => rfl) (pe_xg hT hno ha.pe hb) ha.mon fun Z H x Q s tx c' t px so e hcc p => ?_
  unfold xgO at e
  split at e
  · split at e
    · rename_i e2
      cases e
      cases hcc
      cases px with
      | err h1 _ h2 _ rf =>
        obtain ⟨v, e3, rv⟩ := rf.lookup e2
        exact ⟨_, _, _, v, rfl, h1, h2, e3, p.here rv so⟩
    · cases e
  · cases e
end
end Mr
namespace Mr
open PySem PySem.Spec PyProof.Rows L2 Tw
/-- as F does, or less -/
def cM (F : FD) : FD := fun ts s Q E => ∃ (Q0 : KT) (E0 : KX), F ts s Q0 E0 ∧ (∀ t s, Q0 t s → Q t s) ∧ ∀ e s, E0 e s → E e s
theorem cM.of {F : FD} {ts : List T} {s : S} {Q : KT} {E : KX} (h : F ts s Q E) : cM F ts s Q E := ⟨Q, E, h, fun _ _ q => q, fun _ _ q => q⟩
theorem cM.mon {F : FD} {ts : List T} {s : S} {Q Q' : KT} {E E' : KX} (hq : ∀ t s, Q t s → Q' t s) (he : ∀ e s, E e s → E' e s) (h : cM F ts s Q E) : cM F ts s Q' E' := by
  obtain ⟨Q0, E0, h1, h2, h3⟩ := h
  exact ⟨Q0, E0, h1, fun t s q => hq _ _ (h2 t s q), fun e s q => he _ _ (h3 e s q)⟩
def spM (K : PySem.W.Frag) (cl : CL) (F : FD) : Sp := fun vs H Q E => ∃ Z ts s, Reps K cl Z s H vs ts ∧ Sto K cl Z s H ∧ cM F ts s (post K cl Z s H Q) (postX K cl Z s H E)
structure CalM (P : Program) (w : World) (K : PySem.W.Frag) (mg : Str → Option Value) (base : Heap) (cl : CL) (k : Nat) (x : Str) (F : FD) (dts : List T) : Prop where
  ex : ∃ dvs, Cal P w K mg base k x (spM K cl F) dvs ∧ ∀ Z s H, Reps K cl Z s H dvs dts
structure MetM (P : Program) (w : World) (K : PySem.W.Frag) (mg : Str → Option Value) (base : Heap) (cl : CL) (k : Nat) (c : Nat) (m : Str) (F : FD) (dts : List T) : Prop where
  ex : ∃ dvs, Met P w K mg base k (cl c) m (spM K cl F) dvs ∧ ∀ Z s H, Reps K cl Z s H dvs dts
structure MakM (P : Program) (w : World) (K : PySem.W.Frag) (mg : Str → Option Value) (base : Heap) (cl : CL) (k : Nat) (x : Str) (c : Nat) (F : FD) (dts : List T) : Prop where
  ex : ∃ dvs, Mak P w K mg base k x (cl c) (spM K cl F) dvs ∧ ∀ Z s H, Reps K cl Z s H dvs dts
/-- the ends of a def's body -/
def endsM (Q : KT) (E : KX) : DS := ⟨fun _ s => Q .non s, Q, fun _ _ => False, fun _ _ => False, fun e _ s => E e s⟩
theorem spM.len {K : PySem.W.Frag} {cl : CL} {F : FD} {n : Nat} (h : ∀ ts s Q E, F ts s Q E → ts.length = n) : ∀ vs H Q E, spM K cl F vs H Q E → vs.length = n := by
  rintro vs H Q E ⟨Z, ts, s, r, _, Q0, E0, h1, _⟩
  rw [r.length]
  exact h _ _ _ _ h1
theorem body_go {P : Program} {w : World} {K : PySem.W.Frag} {mg : Str → Option Value} {base : Heap} {cl : CL} {N : List Str} {qual : Str} {sc : Scope} {f : Addr} {cdv : Value} {A : Around} {out : List PySem.Env} {sh : Shared} {H : Hp} {E : XK} {vs : List V} {Q : VK} {F : FD} {B : FS} {body : List Stmt}
    (hB : JSs (cxOf (L2.CX P w) P w K mg base N qual sc f cdv A out sh H E) cl (fun cls d _ H' => E cls d H') body B) (hF : ∀ ts s Q E, F ts s Q E → B (startT N ts) s (endsM Q E)) (h : spM K cl F vs H Q E) :
    ∃ t, PSs (cxOf (L2.CX P w) P w K mg base N qual sc f cdv A out sh H E) body t ∧ t { nx := fun _ H' => Q .non H', rt := Q } (L2.start N vs) H := by
  obtain ⟨Z, ts, s, r, so, Q0, E0, h1, h2, h3⟩ := h
  refine ⟨_, hB.pss, Z, startT N ts, s, RepE.start r, so, hB.mon _ _ _ _ ?_ (hF _ _ _ _ h1)⟩
  refine ⟨fun τ s' q σ H' f _ so' => h2 _ _ q _ _ f .non so', fun t s' q => h2 _ _ q, fun τ s' q => q.elim, fun τ s' q => q.elim, fun er τ s' q d σ H' f x _ so' => h3 _ _ q d H' f x so'⟩
section
variable {X : Cx} {cl : CL} {W : WX} {e a b c o : Expr} {es : List Expr} {F Fa Fb Fc Fo : FE} {G Ga Gb : FT} {A : FA} {pos p apos : Pos} {rest : List Expr} {x m : Str} {k j n : Nat} {D : FD} {dts : List T}
def fCall (D : FD) (dts : List T) (A : FA) : FE := fun τ s Q E => A τ s (fun ts s1 => cM D (ts ++ dts) s1 Q E) E
theorem mon_call (ma : MonA A) : MonE (fCall D dts A) := fun τ s Q Q' E E' hq he h => ma _ _ _ _ _ _ (fun ts s1 h1 => h1.mon hq he) he h
theorem sp_of {Z : Addr → Prop} {σ : L2.St} {s s1 : S} {H H1 : Hp} {Q : VK} {vs dvs : List V} {ts : List T} (f1 : Fut s H s1 H1) (r : Reps X.K cl Z s1 H1 vs ts) (hd : ∀ Z s H, Reps X.K cl Z s H dvs dts) (so : Sto X.K cl Z s1 H1)
    (h : cM D (ts ++ dts) s1 (post X.K cl Z s H Q) (postW X.K cl Z s H σ W)) : spM X.K cl D (vs ++ dvs) H1 Q (fun cls d H' => W cls d σ H') :=
  ⟨Z, ts ++ dts, s1, Reps.append r (hd _ _ _), so, h.mon (fun _ _ q => post.up f1 q) fun _ _ q => postX.up f1 q⟩
theorem je_call (tk : Takes X W) (d : CalM X.prog X.w X.K X.mg X.base cl k x D dts) (hr : Rm j X.A) (hk : k ≤ j) (hg : Gl X x) (ha : JA X cl W (e :: es) A) (hdb : (x == ("__debug__" : Str)) = false := by decide)
    (he : starEach (e :: es) X.env = (false, eval e X.env) :: starEach es X.env := by rfl) (hpl : (backTo pos (starEach es X.env)).any (·.1) = false := by rfl) : JE X cl W (.Call (.Name x p) (e :: es) [] pos) (fCall D dts A) := by
  obtain ⟨dvs, d, hd⟩ := d.ex
  refine ⟨mon_call ha.mon, PE.imp (pe_cW tk d hr hk hg ha.pa hdb he hpl) ?_⟩
  rintro σ H Q ⟨Z, τ, s, re, so, h⟩
  exact goA ha.mon re so h (fun ts s1 vs H1 p1 f1 re1 r1 so1 => sp_of f1 r1 hd so1 p1) fun _ _ q => q
/-- behind __init__: the instance as a tree (fz) or as a cell -/
def doneM (fz : Bool) (x : Addr) (Q : KT) : KT := fun t s => t = .non ∧ if fz = true then (match s.on x with | some (.obj c fs) => Q (.obj c fs) (s.del x) | _ => False) else Q (.cell x) s
def fMk (fz : Bool) (n : Nat) (D : FD) (dts : List T) (A : FA) : FE := fun τ s Q E => A τ s (fun ts s1 => ∀ x, s1.on x = none → cM D (.cell x :: (ts ++ dts)) (s1.put x (.obj n [])) (doneM fz x Q) (fun er s2 => E er (s2.del x))) E
theorem doneM.mon {fz : Bool} {x : Addr} {Q Q' : KT} (hq : ∀ t s, Q t s → Q' t s) {t : T} {s : S} (h : doneM fz x Q t s) : doneM fz x Q' t s := by
  refine ⟨h.1, ?_⟩
  have h2 := h.2
  refine w_ite h2 (fun q => ?_) (hq _ _)
  split at q
  · exact hq _ _ q
  · exact q.elim
theorem mon_mk {fz : Bool} (ma : MonA A) : MonE (fMk fz n D dts A) := fun τ s Q Q' E E' hq he h => ma _ _ _ _ _ _ (fun ts s1 h1 x hx => (h1 x hx).mon (fun _ _ q => q.mon hq) fun _ _ q => he _ _ q) he h
theorem mk_go {fz : Bool} {Z : Addr → Prop} {σ : L2.St} {s s1 : S} {H H1 : Hp} {Q : VK} {vs dvs : List V} {ts : List T} (f1 : Fut s H s1 H1) (r : Reps X.K cl Z s1 H1 vs ts) (hd : ∀ Z s H, Reps X.K cl Z s H dvs dts) (so : Sto X.K cl Z s1 H1)
    (h : ∀ x, s1.on x = none → cM D (.cell x :: (ts ++ dts)) (s1.put x (.obj n [])) (doneM fz x (post X.K cl Z s H Q)) (fun er s2 => postW X.K cl Z s H σ W er (s2.del x))) :
    ∀ x dx, H1 x = none → H1 dx = none → dx ≠ x → spM X.K cl D (.ref x :: (vs ++ dvs)) (upd (upd H1 dx (.own x)) x (.ins (cl n) dx [])) (fun v H2 => v = .non ∧ Q (.ref x) H2) (fun cls d H' => W cls d σ H') := by
  intro x dx hx hdx ne
  have so2 := so.new (o := .own x) hdx
  have fu2 : Fut s1 H1 s1 (upd H1 dx (.own x)) := Fut.new hdx
  have hx2 : upd H1 dx (.own x) x = none := by rw [upd_ne (Ne.symm ne)]; exact hx
  have fu3 : Fut s1 (upd H1 dx (.own x)) (s1.put x (.obj n [])) (upd (upd H1 dx (.own x)) x (.ins (cl n) dx [])) := Fut.newC hx2
  have so3 : Sto X.K cl Z (s1.put x (.obj n [])) (upd (upd H1 dx (.own x)) x (.ins (cl n) dx [])) := so2.newC hx2 ⟨dx, [], upd_same, .nil⟩
  have fu : Fut s H (s1.put x (.obj n [])) (upd (upd H1 dx (.own x)) x (.ins (cl n) dx [])) := f1.trans (fu2.trans fu3)
  refine ⟨Z, .cell x :: (ts ++ dts), s1.put x (.obj n []), .cons (.cell x) (Reps.append ((r.fut fu2).fut fu3) (hd _ _ _)), so3, (h x (on_none so hx)).mon (fun t s2 q => ?_) fun er s2 q => ?_⟩
  · obtain ⟨rfl, q⟩ := q
    intro v H2 f4 r4 so4
    cases r4
    refine ⟨rfl, ?_⟩
    cases fz with
    | false =>
      rw [if_neg Bool.false_ne_true] at q
      exact q _ _ (fu.trans f4) (.cell x) so4
    | true =>
      rw [if_pos rfl] at q
      split at q
      · rename_i c fs ho
        obtain ⟨dx2, fvs, h1, h2⟩ := so4.cells _ _ ho
        exact q _ _ (fu.trans (f4.trans (Fut.del _ _ x))) (.obj h1 (nomut_del so4 ho) (h2.fut (Fut.del _ _ x))) (so4.del x)
      · exact q.elim
  · intro d H2 f4 xd so4
    exact q d H2 (fu.trans (f4.trans (Fut.del _ _ x))) (xd.fut (Fut.del _ _ x)) (so4.del x)
theorem je_mk (fz : Bool) (tk : Takes X W) (d : MakM X.prog X.w X.K X.mg X.base cl k x n D dts) (hr : Rm j X.A) (hk : k + 1 ≤ j) (hg : Gl X x) (ha : JA X cl W (e :: es) A) (hdb : (x == ("__debug__" : Str)) = false := by decide)
    (he : starEach (e :: es) X.env = (false, eval e X.env) :: starEach es X.env := by rfl) (hpl : (backTo pos (starEach es X.env)).any (·.1) = false := by rfl) : JE X cl W (.Call (.Name x p) (e :: es) [] pos) (fMk fz n D dts A) := by
  obtain ⟨dvs, d, hd⟩ := d.ex
  refine ⟨mon_mk ha.mon, PE.imp (pe_mkW tk d hr hk hg ha.pa hdb he hpl) ?_⟩
  rintro σ H Q ⟨Z, τ, s, re, so, h⟩
  exact goA ha.mon re so h (fun ts s1 vs H1 p1 f1 re1 r1 so1 => mk_go f1 r1 hd so1 p1) fun _ _ q => q
theorem pe_mkW0 {sp : Sp} {dvs : List V} {C : Addr} (tk : Takes X W) (c : Mak X.prog X.w X.K X.mg X.base k x C sp dvs) (hr : Rm j X.A) (hk : k + 1 ≤ j) (hg : Gl X x) (hdb : (x == ("__debug__" : Str)) = false := by decide) : PE X (.Call (.Name x p) [] [] pos) (tMkW C sp dvs W tNil) := by
  obtain ⟨f, fd, ps, ds, M, F, hm, b, d⟩ := c.ex
  constructor
  intro pins s σ H Q I h
  exact wpAny_Call_Name_kw (ld_glob I hg hm (PySem.W.callWith_K0 I.kIn M.kp (makeG (us := []) (vs := []) M F (hr.mono hk) b d (pass_tk tk) I .nil h)) hdb)
theorem je_mk0 (fz : Bool) (tk : Takes X W) (d : MakM X.prog X.w X.K X.mg X.base cl k x n D dts) (hr : Rm j X.A) (hk : k + 1 ≤ j) (hg : Gl X x) (hdb : (x == ("__debug__" : Str)) = false := by decide) : JE X cl W (.Call (.Name x p) [] [] pos) (fMk fz n D dts fNil) := by
  obtain ⟨dvs, d, hd⟩ := d.ex
  refine ⟨mon_mk (ja_nil (X := X) (cl := cl) (W := W)).mon, PE.imp (pe_mkW0 tk d hr hk hg hdb) ?_⟩
  rintro σ H Q ⟨Z, τ, s, re, so, h⟩
  exact mk_go (ts := []) (vs := []) (Fut.refl _ _) .nil hd so h
def fMt (cs : List Nat) (m : Str) (D : Nat → FD) (dts : Nat → List T) (Fo : FE) (A : FA) : FE := fun τ s Q E => Fo τ s (fun x s1 => match s1.obj? x with | some (c, fs) => c ∈ cs ∧ fs.lookup m = none ∧ A τ s1 (fun ts s2 => cM (D c) (x :: (ts ++ dts c)) s2 Q E) E | none => False) E
theorem je_mt {cs : List Nat} {D : Nat → FD} {dts : Nat → List T} {pl : Sem Bool} (tk : Takes X W) (d : ∀ c ∈ cs, MetM X.prog X.w X.K X.mg X.base cl k c m (D c) (dts c)) (hr : Rm j X.A) (hk : k ≤ j) (ho : JE X cl W o Fo) (ha : JA X cl W (e :: es) A)
    (hst : starEach (e :: es) X.env = (false, eval e X.env) :: starEach es X.env := by rfl) (hpl : (backTo pos (starEach es X.env)).any (·.1) = false := by rfl)
    (ht : eval (.Call (.Attribute o m apos) (e :: es) [] pos) X.env = (do
      let ov ← eval o X.env
      standAt apos.atName
      let (g, first) ← holding [ov] (getMethod ov m pl)
      callWith pos g first (backTo pos (starEach (e :: es) X.env)) (backToKw pos (keywordEach [] X.env))) := by rfl) : JE X cl W (.Call (.Attribute o m apos) (e :: es) [] pos) (fMt cs m D dts Fo A) := by
  refine ⟨fun τ s Q Q' E E' hq he h => ho.mon _ _ _ _ _ _ (fun x s1 h1 => ?_) he h, ⟨fun pins sh σ H Q I h => ?_⟩⟩
  · split at h1
    · exact ⟨h1.1, h1.2.1, ha.mon _ _ _ _ _ _ (fun ts s2 h2 => h2.mon hq he) he h1.2.2⟩
    · exact h1
  obtain ⟨Z, τ, s, re, so, h⟩ := h
  have h' : tT X.K cl W Fo σ H fun x H1 => ∃ c dx fs a, c ∈ cs ∧ x = .ref a ∧ H1 a = some (.ins (cl c) dx fs) ∧ fs.lookup m = none ∧ tTA X.K cl W A σ H1 fun vs H2 => ∀ dvs, (∀ Z s H, Reps X.K cl Z s H dvs (dts c)) → spM X.K cl (D c) (.ref a :: (vs ++ dvs)) H2 Q (fun cls d H' => W cls d σ H') := by
    refine go ho.mon re so h (fun tx s1 x H1 p1 f1 re1 r1 so1 => ?_) fun _ _ q => q
    split at p1
    · rename_i c fs e1
      obtain ⟨a, dx, fvs, rfl, h1, rf⟩ := obj_of so1 r1 e1
      refine ⟨c, dx, fvs, a, p1.1, rfl, h1, rf.lookup0 p1.2.1, goA ha.mon re1 so1 p1.2.2 (fun ts s2 vs H2 p2 f2 re2 r2 so2 dvs hd => ?_) fun _ _ q => postW.up f1 q⟩
      exact ⟨Z, tx :: (ts ++ dts c), s2, .cons (r1.fut f2) (Reps.append r2 (hd _ _ _)), so2, p2.mon (fun _ _ q => post.up (f1.trans f2) q) fun _ _ q => postX.up (f1.trans f2) q⟩
    · exact p1.elim
  refine PySem.W.methodCall_KW (pl := pl) (thn (ho.pe.run pins sh σ H _ I h') ?_) ht
  rintro u s1 ⟨x, H1, I1, rx, c, dx, fs, a, hc, rfl, ea, l, q⟩
  obtain ⟨dvs, dd, hd⟩ := (d c hc).ex
  obtain ⟨f, fd, ps, ds, hcl, hm, F, b, dv⟩ := dd.ex
  cases rx
  refine getmeth_ok I1 ea hcl hm l ?_
  refine PySem.W.callWith_K (first := [.ref a]) (h₀ := X.base) I.ok.mod.kin hm.kp (thn (ha.pa.run pos pins s1 σ H1 _ I1 q) ?_) hst hpl
  rintro us s2 ⟨vs, H2, I2, r, q2⟩
  exact ⟨I2.kIn, runG (us := .ref a :: us) (vs := .ref a :: vs) F (hr.mono hk) b dv (pass_tk tk) I2 (Paired.cons rfl r) (q2 dvs hd)⟩
theorem je_mt0 {cs : List Nat} {D : Nat → FD} {dts : Nat → List T} {pl : Sem Bool} (tk : Takes X W) (d : ∀ c ∈ cs, MetM X.prog X.w X.K X.mg X.base cl k c m (D c) (dts c)) (hr : Rm j X.A) (hk : k ≤ j) (ho : JE X cl W o Fo)
    (ht : eval (.Call (.Attribute o m apos) [] [] pos) X.env = (do
      let ov ← eval o X.env
      standAt apos.atName
      let (g, first) ← holding [ov] (getMethod ov m pl)
      callWith pos g first (backTo pos (starEach [] X.env)) (backToKw pos (keywordEach [] X.env))) := by rfl) : JE X cl W (.Call (.Attribute o m apos) [] [] pos) (fMt cs m D dts Fo fNil) := by
  refine ⟨fun τ s Q Q' E E' hq he h => ho.mon _ _ _ _ _ _ (fun x s1 h1 => ?_) he h, ⟨fun pins sh σ H Q I h => ?_⟩⟩
  · split at h1
    · exact ⟨h1.1, h1.2.1, h1.2.2.mon hq he⟩
    · exact h1
  obtain ⟨Z, τ, s, re, so, h⟩ := h
  have h' : tT X.K cl W Fo σ H fun x H1 => ∃ c dx fs a, c ∈ cs ∧ x = .ref a ∧ H1 a = some (.ins (cl c) dx fs) ∧ fs.lookup m = none ∧ ∀ dvs, (∀ Z s H, Reps X.K cl Z s H dvs (dts c)) → spM X.K cl (D c) (.ref a :: dvs) H1 Q (fun cls d H' => W cls d σ H') := by
    refine go ho.mon re so h (fun tx s1 x H1 p1 f1 re1 r1 so1 => ?_) fun _ _ q => q
    split at p1
    · rename_i c fs e1
      obtain ⟨a, dx, fvs, rfl, h1, rf⟩ := obj_of so1 r1 e1
      refine ⟨c, dx, fvs, a, p1.1, rfl, h1, rf.lookup0 p1.2.1, fun dvs hd => ?_⟩
      exact ⟨Z, tx :: dts c, s1, .cons r1 (hd _ _ _), so1, cM.mon (fun _ _ q => post.up f1 q) (fun _ _ q => postX.up f1 q) p1.2.2⟩
    · exact p1.elim
  refine PySem.W.methodCall_KW (pl := pl) (thn (ho.pe.run pins sh σ H _ I h') ?_) ht
  rintro u s1 ⟨x, H1, I1, rx, c, dx, fs, a, hc, rfl, ea, l, q⟩
  obtain ⟨dvs, dd, hd⟩ := (d c hc).ex
  obtain ⟨f, fd, ps, ds, hcl, hm, F, b, dv⟩ := dd.ex
  cases rx
  refine getmeth_ok I1 ea hcl hm l ?_
  exact PySem.W.callWith_K0 (first := [.ref a]) I1.kIn hm.kp (runG (us := [.ref a]) (vs := [.ref a]) F (hr.mono hk) b dv (pass_tk tk) I1 (Paired.cons rfl .nil) (q dvs hd))
def fErr (n : Nat) (fs : List Str) (A : FA) : FE := fun τ s Q E => A τ s (fun ts s1 => ts.length = fs.length ∧ Q (.err n (fs.zip ts)) s1) E
theorem je_err {fs : List Str} (hX : XCall X.prog X.K (cl n) fs) (hT : OexC X.K (cl n)) (hr : Rm (k + 1) X.A) (hg : Gl X x) (hm : X.mg x = some (.ref (cl n))) (ha : JA X cl W (e :: es) A)
    (hdb : (x == ("__debug__" : Str)) = false := by decide) (he : starEach (e :: es) X.env = (false, eval e X.env) :: starEach es X.env := by rfl) (hpl : (backTo pos (starEach es X.env)).any (·.1) = false := by rfl) :
    JE X cl W (.Call (.Name x p) (e :: es) [] pos) (fErr n fs A) := by
  refine ⟨fun τ s Q Q' E E' hq he h => ha.mon _ _ _ _ _ _ (fun ts s1 h1 => ⟨h1.1, hq _ _ h1.2⟩) he h, PE.imp (pe_x hX hT hr hg hm ha.pa hdb he hpl) ?_⟩
  rintro σ H Q ⟨Z, τ, s, re, so, h⟩
  refine goA ha.mon re so h (fun ts s1 vs H1 p1 f1 re1 r1 so1 => ⟨by rw [r1.length]; exact p1.1, fun a dx ha hdx ne => ?_⟩) fun _ _ q => q
  have so2 := so1.new (o := .xd (fs.zip vs)) hdx
  have ha2 : upd H1 dx (.xd (fs.zip vs)) a = none := by rw [upd_ne (Ne.symm ne)]; exact ha
  have so3 := so2.new (o := exV (cl n) a dx) ha2
  have fu : Fut s1 H1 s1 (upd (upd H1 dx (.xd (fs.zip vs))) a (exV (cl n) a dx)) := (Fut.new hdx).trans (Fut.new ha2)
  exact p1.2 _ _ (f1.trans fu) (.err upd_same (so1.nomut ha) (by rw [upd_ne ne]; exact upd_same) (so1.nomut hdx) ((RepF.zip r1).fut fu)) so3
end
end Mr
namespace Mr
open PySem PySem.Spec PyProof.Rows L2 Tw
section
variable {X : Cx} {cl : CL} {W : WX} {e a b c o : Expr} {es : List Expr} {F Fa Fb Fc Fo : FE} {G Ga Gb : FT} {A : FA} {pos p apos pos' : Pos} {rest : List Expr} {x m : Str} {k j n i : Nat} {st : Stmt} {sts : List Stmt} {B B1 B2 : FS}
abbrev xk (τ : Env) (D : DS) : KX := fun er s => D.xr er τ s
theorem xe_w {K : PySem.W.Frag} {Z : Addr → Prop} {s s1 : S} {H : Hp} {σ : L2.St} {τ : Env} {er : Er} (re : REnv K cl Z s H σ τ) (h : postXE K cl Z s H W er τ s1) : postW K cl Z s H σ W er s1 := fun d H' f x so => h d σ H' f x (re.fut f) so
theorem DS.Le.refl (D : DS) : D.Le D := ⟨fun _ _ q => q, fun _ _ q => q, fun _ _ q => q, fun _ _ q => q, fun _ _ _ q => q⟩
def fSkip : FS := fun τ s D => D.nx τ s
def fSeq (B1 B2 : FS) : FS := fun τ s D => B1 τ s { D with nx := fun τ' s' => B2 τ' s' D }
theorem jss_nil : JSs X cl W [] fSkip := by
  refine ⟨fun τ s D D' le h => le.nx _ _ h, PSs.imp pss_nil ?_⟩
  rintro D σ H ⟨Z, τ, s, re, so, h⟩
  exact h σ H (Fut.refl _ _) re so
theorem mon_seq (m1 : MonS B1) (m2 : MonS B2) : MonS (fSeq B1 B2) := fun τ s D D' le h => by
  unfold fSeq at h ⊢
  refine m1 _ _ _ _ ?_ h
  exact ⟨fun τ' s' q => m2 _ _ _ _ le q, le.rt, le.bk, le.ct, le.xr⟩
theorem jss_cons (h1 : JS X cl W st B1) (h2 : JSs X cl W sts B2) : JSs X cl W (st :: sts) (fSeq B1 B2) := by
  refine ⟨mon_seq h1.mon h2.mon, PSs.imp (pss_cons h1.ps h2.pss) ?_⟩
  rintro D σ H ⟨Z, τ, s, re, so, h⟩
  refine goS h1.mon re so h ⟨fun τ' s' q σ' H' f re' so' => ?_, fun _ _ q => q, fun _ _ q => q, fun _ _ q => q, fun _ _ _ q => q⟩
  exact goS h2.mon re' so' q (postD.up f)
theorem jss_one (h1 : JS X cl W st B) : JSs X cl W [st] B := ⟨h1.mon, pss_one h1.ps⟩
def fBrk : FS := fun τ s D => D.bk τ s
def fCnt : FS := fun τ s D => D.ct τ s
def fDrop (Fa : FE) : FS := fun τ s D => Fa τ s (fun _ s1 => D.nx τ s1) (xk τ D)
theorem js_expr (ha : JE X cl W e Fa) (hs : swapsWith e none pos.line X.env = pure false := by rfl) : JS X cl W (.Expr e pos) (fDrop Fa) := by
  refine ⟨fun τ s D D' le h => ha.mon _ _ _ _ _ _ (fun _ _ q => le.nx _ _ q) (fun _ _ q => le.xr _ _ _ q) h, PS.imp (ps_expr ha.pe hs) ?_⟩
  rintro D σ H ⟨Z, τ, s, re, so, h⟩
  exact go ha.mon re so h (fun tx s1 v H1 p1 f1 re1 r1 so1 => p1 σ H1 f1 re1 so1) fun _ _ q => xe_w re q
def fRet (Fa : FE) : FS := fun τ s D => Fa τ s D.rt (xk τ D)
theorem js_ret (ha : JE X cl W e Fa) : JS X cl W (.Return (some e) pos) (fRet Fa) := by
  refine ⟨fun τ s D D' le h => ha.mon _ _ _ _ _ _ (fun _ _ q => le.rt _ _ q) (fun _ _ q => le.xr _ _ _ q) h, PS.imp (ps_ret ha.pe) ?_⟩
  rintro D σ H ⟨Z, τ, s, re, so, h⟩
  exact go ha.mon re so h (fun tx s1 v H1 p1 f1 re1 r1 so1 => p1 v H1 f1 r1 so1) fun _ _ q => xe_w re q
def fRetN : FS := fun _ s D => D.rt .non s
/-- what is handed back is no cell any more -/
def fRetF (Fa : FE) : FS := fun τ s D => Fa τ s (fun t s1 => match t with | .cell a => (match s1.on a with | some (.lst xs) => D.rt (.lst xs) (s1.del a) | some (.obj c fs) => D.rt (.obj c fs) (s1.del a) | _ => False) | _ => False) (xk τ D)
theorem js_retF (ha : JE X cl W e Fa) : JS X cl W (.Return (some e) pos) (fRetF Fa) := by
  refine ⟨fun τ s D D' le h => ha.mon _ _ _ _ _ _ (fun t s1 q => ?_) (fun _ _ q => le.xr _ _ _ q) h, PS.imp (ps_ret ha.pe) ?_⟩
  · split at q
    · split at q
      · exact le.rt _ _ q
      · exact le.rt _ _ q
      · exact q.elim
    · exact q.elim
  rintro D σ H ⟨Z, τ, s, re, so, h⟩
  refine go ha.mon re so h (fun tx s1 v H1 p1 f1 re1 r1 so1 => ?_) fun _ _ q => xe_w re q
  split at p1
  · rename_i a
    cases r1
    split at p1
    · rename_i xs ho
      obtain ⟨vs, h1, h2⟩ := so1.cells _ _ ho
      exact p1 _ _ (f1.trans (Fut.del _ _ a)) (.lst h1 (nomut_del so1 ho) (h2.fut (Fut.del _ _ a))) (so1.del a)
    · rename_i c fs ho
      obtain ⟨dx, fvs, h1, h2⟩ := so1.cells _ _ ho
      exact p1 _ _ (f1.trans (Fut.del _ _ a)) (.obj h1 (nomut_del so1 ho) (h2.fut (Fut.del _ _ a))) (so1.del a)
    · exact p1.elim
  · exact p1.elim
def fIfS (G : FT) (B1 B2 : FS) : FS := fun τ s D => G τ s (fun b s1 => if b = true then B1 τ s1 D else B2 τ s1 D) (xk τ D)
theorem js_if {ss ts : List Stmt} (hc : JT X cl W c G) (h1 : JSs X cl W ss B1) (h2 : JSs X cl W ts B2) : JS X cl W (.If c ss ts pos) (fIfS G B1 B2) := by
  refine ⟨fun τ s D D' le h => hc.mon _ _ _ _ _ _ (fun b s1 q => w_ite q (h1.mon _ _ _ _ le) (h2.mon _ _ _ _ le)) (fun _ _ q => le.xr _ _ _ q) h, PS.imp (ps_if hc.pt h1.pss h2.pss) ?_⟩
  rintro D σ H ⟨Z, τ, s, re, so, h⟩
  refine goT hc.mon re so h (fun b s1 H1 p1 f1 re1 so1 => w_ite p1 (fun q => ?_) fun q => ?_) fun _ _ q => xe_w re q
  · exact goS h1.mon re1 so1 q (postD.up f1)
  · exact goS h2.mon re1 so1 q (postD.up f1)
def fSet (i : Nat) (Fa : FE) : FS := fun τ s D => Fa τ s (fun t s1 => D.nx (τ.set i (some t)) s1) (xk τ D)
theorem js_set (hN : X.N.Nodup) (hi : X.N[i]? = some x) (hx : Loc X.env.scope x) (he : JE X cl W e Fa) (hs : swapsWith e (some (.Name x pos')) pos.line X.env = pure false := by rfl) (hf : X.fn x = true ∨ X.env.scope.names.lookup x = some .local := by first | exact .inl rfl | exact .inr rfl | assumption) :
    JS X cl W (.Assign [.Name x pos'] e pos) (fSet i Fa) := by
  refine ⟨fun τ s D D' le h => he.mon _ _ _ _ _ _ (fun _ _ q => le.nx _ _ q) (fun _ _ q => le.xr _ _ _ q) h, PS.imp (ps_set hN hi hx he.pe hs hf) ?_⟩
  rintro D σ H ⟨Z, τ, s, re, so, h⟩
  exact go he.mon re so h (fun tx s1 v H1 p1 f1 re1 r1 so1 => p1 _ H1 f1 (re1.set r1 i) so1) fun _ _ q => xe_w re q
/-- a target -/
abbrev FG := T → Env → S → (Env → S → Prop) → Prop
abbrev FGs := List T → Env → S → (Env → S → Prop) → Prop
structure JG (X : Cx) (cl : CL) (tg : Expr) (G : FG) : Prop where
  mon : ∀ t τ s (Q Q' : Env → S → Prop), (∀ τ s, Q τ s → Q' τ s) → G t τ s Q → G t τ s Q'
  ex : ∃ g, PG X tg g ∧ ∀ (Z : Addr → Prop) (t : T) (v : V) (σ : L2.St) (τ : Env) (H : Hp) (s : S) (Q : L2.St → Hp → Prop), Rep X.K cl Z s H v t → REnv X.K cl Z s H σ τ → Sto X.K cl Z s H → G t τ s (postE X.K cl Z s H Q) → g v σ H Q
structure JGs (X : Cx) (cl : CL) (tgs : List Expr) (G : FGs) : Prop where
  mon : ∀ ts τ s (Q Q' : Env → S → Prop), (∀ τ s, Q τ s → Q' τ s) → G ts τ s Q → G ts τ s Q'
  ex : ∃ g, PGs X tgs g ∧ ∀ (Z : Addr → Prop) (ts : List T) (vs : List V) (σ : L2.St) (τ : Env) (H : Hp) (s : S) (Q : L2.St → Hp → Prop), Reps X.K cl Z s H vs ts → REnv X.K cl Z s H σ τ → Sto X.K cl Z s H → G ts τ s (postE X.K cl Z s H Q) → g vs σ H Q
def gN (i : Nat) : FG := fun t τ s Q => Q (τ.set i (some t)) s
theorem jg_name (hN : X.N.Nodup) (hi : X.N[i]? = some x) (hx : Loc X.env.scope x) (hf : X.fn x = true ∨ X.env.scope.names.lookup x = some .local := by first | exact .inl rfl | exact .inr rfl | assumption) : JG X cl (.Name x pos) (gN i) :=
  ⟨fun _ _ _ _ _ hq h => hq _ _ h, _, pg_name hN hi hx hf, fun Z t v σ τ H s Q r re so h => h _ H (Fut.refl _ _) (re.set r i) so⟩
def gsNil : FGs := fun ts τ s Q => match ts with | [] => Q τ s | _ => False
def gsCons (g : FG) (gs : FGs) : FGs := fun ts τ s Q => match ts with | t :: r => g t τ s fun τ1 s1 => gs r τ1 s1 Q | [] => False
theorem jgs_nil : JGs X cl [] gsNil := by
  refine ⟨fun ts τ s Q Q' hq h => ?_, _, pgs_nil, fun Z ts vs σ τ H s Q r re so h => ?_⟩
  · unfold gsNil at h ⊢
    split at h
    · exact hq _ _ h
    · exact h
  · unfold gsNil at h
    split at h
    · cases r
      exact ⟨rfl, h _ H (Fut.refl _ _) re so⟩
    · exact h.elim
theorem jgs_cons {g : FG} {gs : FGs} (h1 : JG X cl e g) (h2 : JGs X cl es gs) (hs : (assignEach (e :: es) X.env).map (·.2) = assign e X.env :: (assignEach es X.env).map (·.2) := by rfl) : JGs X cl (e :: es) (gsCons g gs) := by
  obtain ⟨g1, p1, i1⟩ := h1.ex
  obtain ⟨g2, p2, i2⟩ := h2.ex
  refine ⟨fun ts τ s Q Q' hq h => ?_, _, pgs_cons p1 p2 hs, fun Z ts vs σ τ H s Q r re so h => ?_⟩
  · unfold gsCons at h ⊢
    split at h
    · exact h1.mon _ _ _ _ _ (fun _ _ q => h2.mon _ _ _ _ _ hq q) h
    · exact h
  · unfold gsCons at h
    split at h
    · cases r with
      | cons r rs =>
        refine ⟨_, _, rfl, i1 Z _ _ σ τ H s _ r re so (h1.mon _ _ _ _ _ (fun τ1 s1 q σ1 H1 f re1 so1 => ?_) h)⟩
        exact i2 Z _ _ σ1 τ1 H1 s1 Q (rs.fut f) re1 so1 (h2.mon _ _ _ _ _ (fun _ _ q => postE.up f q) q)
    · exact h.elim
def gT (n : Nat) (gs : FGs) : FG := fun t τ s Q => match t with | .tup xs => xs.length = n ∧ gs xs τ s Q | _ => False
theorem jg_tup {gs : FGs} {kk : Nat} (hc : X.calm = true) (h : JGs X cl es gs) (hn : (assignEach es X.env).length = n := by rfl) (hst : (assignEach es X.env).findIdx? (·.1) = none := by rfl) : JG X cl (.Tuple es kk pos) (gT n gs) := by
  obtain ⟨g1, p1, i1⟩ := h.ex
  refine ⟨fun ts τ s Q Q' hq q => ?_, _, pg_tup hc p1 hn hst, fun Z ts vs σ τ H s Q r re so q => ?_⟩
  · unfold gT at q ⊢
    split at q
    · exact ⟨q.1, h.mon _ _ _ _ _ hq q.2⟩
    · exact q
  · unfold gT at q
    split at q
    · obtain ⟨a, vs, rfl, ht, rs⟩ := tup_of r
      exact ⟨a, vs, rfl, ht, by rw [rs.length]; exact q.1, i1 Z _ _ σ τ H s Q rs re so q.2⟩
    · exact q.elim
def fAsg (Fa : FE) (g : FG) : FS := fun τ s D => Fa τ s (fun t s1 => g t τ s1 D.nx) (xk τ D)
theorem js_asg {g : FG} {tg : Expr} (he : JE X cl W e Fa) (hg : JG X cl tg g) (hs : swapsWithSole [tg] e pos.line X.env = pure false := by rfl) (hw : swappedStores [tg] e X.env = pure none := by rfl)
    (h1 : (assignEach [tg] X.env).map (·.2) = [assign tg X.env] := by rfl) : JS X cl W (.Assign [tg] e pos) (fAsg Fa g) := by
  obtain ⟨g1, p1, i1⟩ := hg.ex
  refine ⟨fun τ s D D' le h => he.mon _ _ _ _ _ _ (fun _ _ q => hg.mon _ _ _ _ _ le.nx q) (fun _ _ q => le.xr _ _ _ q) h, PS.imp (ps_asg he.pe p1 hs hw h1) ?_⟩
  rintro D σ H ⟨Z, τ, s, re, so, h⟩
  exact go he.mon re so h (fun tx s1 v H1 p f1 re1 r1 so1 => i1 Z _ _ σ τ H1 s1 _ r1 re1 so1 (hg.mon _ _ _ _ _ (fun _ _ q => postE.up f1 q) p)) fun _ _ q => xe_w re q
/-- a, b = x, y -/
def fPar (i j : Nat) (A : FA) : FS := fun τ s D => A τ s (fun ts s1 => match ts with | [t, u] => D.nx ((τ.set i (some t)).set j (some u)) s1 | _ => False) (xk τ D)
/-- o.f = e, o an instance that may change -/
def fFldS (cs : List Nat) (f : Str) (Fo Fa : FE) : FS := fun τ s D => Fa τ s (fun t s1 => Fo τ s1 (fun y s2 => match y with | .cell a => (match s2.on a with | some (.obj c fs) => c ∈ cs ∧ fs.length < 1000 ∧ D.nx τ (s2.put a (.obj c (putT f t fs))) | _ => False) | _ => False) (xk τ D)) (xk τ D)
theorem js_fld {cs : List Nat} {f : Str} (hcs : ∀ c ∈ cs, Cls X.K (cl c) ∧ NoAttr X.K (cl c) f) (ho : JE X cl W o Fo) (he : JE X cl W e Fa) (hs : swapsWith e (some (.Attribute o f pos')) pos.line X.env = pure false := by rfl) : JS X cl W (.Assign [.Attribute o f pos'] e pos) (fFldS cs f Fo Fa) := by
  refine ⟨fun τ s D D' le h => he.mon _ _ _ _ _ _ (fun t s1 q => ho.mon _ _ _ _ _ _ (fun y s2 q2 => ?_) (fun _ _ q => le.xr _ _ _ q) q) (fun _ _ q => le.xr _ _ _ q) h, PS.imp (ps_fld ho.pe he.pe hs) ?_⟩
  · split at q2
    · split at q2
      · exact ⟨q2.1, q2.2.1, le.nx _ _ q2.2.2⟩
      · exact q2.elim
    · exact q2.elim
  rintro D σ H ⟨Z, τ, s, re, so, h⟩
  refine go he.mon re so h (fun tx s1 v H1 p1 f1 re1 r1 so1 => ?_) fun _ _ q => xe_w re q
  refine go ho.mon re1 so1 p1 (fun ty s2 y H2 p2 f2 re2 r2 so2 => ?_) fun _ _ q => postW.up f1 (xe_w re q)
  split at p2
  · rename_i a
    cases r2
    split at p2
    · rename_i c fs hon
      obtain ⟨dx, fvs, h1, h2⟩ := so2.cells _ _ hon
      have hne : s2.on a ≠ none := by rw [hon]; exact Option.some_ne_none _
      refine ⟨a, _, dx, fvs, rfl, h1, (hcs c p2.1).1, (hcs c p2.1).2, by rw [h2.length]; exact p2.2.1, ?_⟩
      have fu : Fut s2 H2 (s2.put a (.obj c (putT f tx fs))) (upd H2 a (.ins (cl c) dx (putF f v fvs))) := Fut.cell hne
      exact p2.2.2 σ _ (f1.trans (f2.trans fu)) (re2.fut fu) (so2.cell hne ⟨dx, _, upd_same, (RepF.put (r1.fut f2) h2).fut fu⟩)
    · exact p2.elim
  · exact p2.elim
def fRaise (n : Nat) (fs : List Str) (A : FA) : FS := fun τ s D => A τ s (fun ts s1 => ts.length = fs.length ∧ D.xr ⟨n, fs.zip ts⟩ τ s1) (xk τ D)
theorem js_raise {fs : List Str} (hc : X.calm = true) (tk : Takes X W) (hX : XCall X.prog X.K (cl n) fs) (hT : OexC X.K (cl n)) (hr : Rm (k + 1) X.A) (hg : Gl X x) (hm : X.mg x = some (.ref (cl n))) (ha : JA X cl W (e :: es) A) (hbx : bx n = none := by rfl)
    (hdb : (x == ("__debug__" : Str)) = false := by decide) (he : starEach (e :: es) X.env = (false, eval e X.env) :: starEach es X.env := by rfl) (hpl : (backTo pos' (starEach es X.env)).any (·.1) = false := by rfl) :
    JS X cl W (.Raise (some (.Call (.Name x p) (e :: es) [] pos')) none pos) (fRaise n fs A) := by
  refine ⟨fun τ s D D' le h => ha.mon _ _ _ _ _ _ (fun ts s1 h1 => ⟨h1.1, le.xr _ _ _ h1.2⟩) (fun _ _ q => le.xr _ _ _ q) h, PS.imp (L2.ps_raise hc tk (pmk_x hX hT hr hg hm ha.pa hdb he hpl)) ?_⟩
  rintro D σ H ⟨Z, τ, s, re, so, h⟩
  refine goA ha.mon re so h (fun ts s1 vs H1 p1 f1 re1 r1 so1 => ⟨by rw [r1.length]; exact p1.1, fun dx hdx => ?_⟩) fun _ _ q => xe_w re q
  have fu : Fut s1 H1 s1 (upd H1 dx (.xd (fs.zip vs))) := Fut.new hdx
  have q := p1.2 (some dx) σ _ (f1.trans fu) (Xd.of upd_same (so1.nomut hdx) ((RepF.zip r1).fut fu)) (re1.fut fu) (so1.new hdx)
  rwa [CL.xv_own (show bx (Er.c ⟨n, fs.zip ts⟩) = none from hbx)] at q
/-- try: body except X as n: v = n -/
def fTry (ok : Nat → Prop) (i j : Nat) (B : FS) : FS := fun τ s D => B τ s { D with xr := fun er τ1 s1 => ok er.c ∧ D.nx (((τ1.set i (some (.err er.c er.fs))).set j (some (.err er.c er.fs))).set i none) s1 }
theorem js_try {body : List Stmt} {ok : Nat → Prop} {cc : Nat} {n v : Str} {np vp xp ap hp0 : Pos} (hs : X.stack = X.env :: X.outer) (hf : X.env.frame = some X.env.locals) (hex : X.ex = []) (hN : X.N.Nodup) (hi : X.N[i]? = some n) (hj : X.N[j]? = some v) (hln : X.env.kindOf n = some .local) (hlv : X.env.kindOf v = some .local) (hc : Names X x (.ref (cl cc)))
    (hok : ∀ c, ok c → PySem.W.exmOne X.K (.ref (cl c)) (.ref (cl cc)) = some true ∧ bx c = none)
    (nd : (n == ("__debug__" : Str)) = false) (ncd : (n == ("__classdict__" : Str)) = false) (hij : i < X.N.length)
    (hb : ∀ (W' : WX) (pn : List (Addr × Obj)) (xe : Value → Shared → Prop), Takes (X.tr pn xe) W' → JSs (X.tr pn xe) cl W' body B)
    (hsw : swapsWith (.Name n xp) (some (.Name v vp)) ap.line X.env = pure false := by rfl) :
    JS X cl W (.Try body [.ExceptHandler (some (.Name x np)) (some n) [.Assign [.Name v vp] (.Name n xp) ap] hp0] [] [] pos) (fTry ok i j B) := by
  have mB : MonS B := (hb (fun _ _ _ _ => True) [] (fun _ _ => True) (fun _ _ _ => trivial)).mon
  refine ⟨fun τ s D D' le h => by
    unfold fTry at h ⊢
    refine mB _ _ _ _ ?_ h
    exact ⟨le.nx, le.rt, le.bk, le.ct, fun er τ1 s1 q => ⟨q.1, le.nx _ _ q.2⟩⟩, PS.imp (ps_try_keep (tb := fun W' => tTS X.K cl W' B) hs hf hex hN hi hj hln hlv hc nd ncd hij (fun W' pn xe tk => (hb W' pn xe tk).pss) hsw) ?_⟩
  rintro D σ H ⟨Z, τ, s, re, so, h⟩
  refine goS mB re so h ⟨fun _ _ q => q, fun _ _ q => q, fun _ _ q => q, fun _ _ q => q, fun er τ1 s1 q => ?_⟩
  intro d σ1 H1 f1 xd re1 so1
  obtain ⟨hk, hb0⟩ := hok _ q.1
  obtain ⟨d, fvs, rfl, hd, m1, rf⟩ := xd.own hb0
  refine ⟨_, d, CL.xv_own hb0, rfl, by rw [CL.xv_own hb0]; exact hk, fun a ha => ?_⟩
  have fu : Fut s1 H1 s1 (upd H1 a (exV (cl er.c) a d)) := Fut.new ha
  have rr : Rep X.K cl Z s1 (upd H1 a (exV (cl er.c) a d)) (.ref a) (.err er.c er.fs) := .err upd_same (so1.nomut ha) (by rw [upd_ne (ne_of_none hd ha)]; exact hd) m1 (rf.fut fu)
  exact q.2 _ _ (f1.trans fu) ((((re1.fut fu).set rr i).set rr j).set0 i) (so1.new ha)
end
end Mr
namespace Mr
open PySem PySem.Spec PyProof.Rows L2 Tw
section
variable {K : PySem.W.Frag} {cl : CL} {Z Z' : Addr → Prop} {s s' : S} {H H' : Hp}
theorem Fz.futzD {a : Addr} {kvv : List (Key × V)} (n : Fz Z s a) (f : Fut s H s' H') (z : ∀ b, Z' b → Z b ∨ H b = none) (h : Rd H a (.dK kvv)) : Fz Z' s' a := ⟨(f.keepD a _ h n.1).2, fun q => (z a q).elim n.2 fun e => Rd.ne h e rfl⟩
theorem Fz.futz {a : Addr} {u : HO} (n : Fz Z s a) (f : Fut s H s' H') (z : ∀ b, Z' b → Z b ∨ H b = none) (h : H a = some u) (nt : NT u) : Fz Z' s' a := ⟨(f.keep a _ h n.1 nt).2, fun q => (z a q).elim n.2 fun e => by rw [h] at e; cases e⟩
mutual
theorem Rep.futz (f : Fut s H s' H') (z : ∀ b, Z' b → Z b ∨ H b = none) : ∀ {v : V} {t : T}, Rep K cl Z s H v t → Rep K cl Z' s' H' v t
  | _, _, .non => .non
  | _, _, .bl b => .bl b
  | _, _, .int i => .int i
  | _, _, .str z => .str z
  | _, _, .lst h n r => .lst (f.keep _ _ h n.1 (NT.lst _)).1 (n.futz f z h (NT.lst _)) (r.futz f z)
  | _, _, .tup h n r => .tup (f.keep _ _ h n.1 (NT.tup _)).1 (n.futz f z h (NT.tup _)) (r.futz f z)
  | _, _, .tupK a b d e g r => .tupK a b d e g (r.futz f z)
  | _, _, .dct h n r => .dct (f.keepD _ _ h n.1).1 (n.futzD f z h) (r.futz f z)
  | _, _, .obj h n r => .obj (f.keep _ _ h n.1 (NT.ins _ _ _)).1 (n.futz f z h (NT.ins _ _ _)) (r.futz f z)
  | _, _, .err h n h2 n2 r => .err (f.keep _ _ h n.1 (NT.exV _ _ _)).1 (n.futz f z h (NT.exV _ _ _)) (f.keep _ _ h2 n2.1 (NT.xd _)).1 (n2.futz f z h2 (NT.xd _)) (r.futz f z)
  | _, _, .cell a => .cell a
  | _, _, .pen h => .pen (f.pa _ h)
  | _, _, .ty n => .ty n
  | _, _, .lam h n r => .lam (f.keep _ _ h n.1 (NT.code _ _)).1 (n.futz f z h (NT.code _ _)) (r.futz f z)
theorem Reps.futz (f : Fut s H s' H') (z : ∀ b, Z' b → Z b ∨ H b = none) : ∀ {vs : List V} {ts : List T}, Reps K cl Z s H vs ts → Reps K cl Z' s' H' vs ts
  | _, _, .nil => .nil
  | _, _, .cons h r => .cons (h.futz f z) (r.futz f z)
theorem RepF.futz (f : Fut s H s' H') (z : ∀ b, Z' b → Z b ∨ H b = none) : ∀ {vs : List (Str × V)} {ts : List (Str × T)}, RepF K cl Z s H vs ts → RepF K cl Z' s' H' vs ts
  | _, _, .nil => .nil
  | _, _, .cons h r => .cons (h.futz f z) (r.futz f z)
theorem RepK.futz (f : Fut s H s' H') (z : ∀ b, Z' b → Z b ∨ H b = none) : ∀ {vs : List (Key × V)} {ts : List (Key × T)}, RepK K cl Z s H vs ts → RepK K cl Z' s' H' vs ts
  | _, _, .nil => .nil
  | _, _, .cons h r => .cons (h.futz f z) (r.futz f z)
theorem RepE.futz (f : Fut s H s' H') (z : ∀ b, Z' b → Z b ∨ H b = none) : ∀ {σ : L2.St} {τ : Env}, REnv K cl Z s H σ τ → REnv K cl Z' s' H' σ τ
  | _, _, .nil => .nil
  | _, _, .c0 r => .c0 (r.futz f z)
  | _, _, .c1 h r => .c1 (h.futz f z) (r.futz f z)
end
def wipeT (τ : Env) : List Nat → Env
  | [] => τ
  | v :: vs => (wipeT τ vs).set v none
theorem RepE.wipe {σ : L2.St} {τ : Env} (r : REnv K cl Z s H σ τ) : ∀ vs : List Nat, REnv K cl Z s H (L2.wipe σ vs) (wipeT τ vs)
  | [] => r
  | v :: vs => (RepE.wipe r vs).set0 v
end
/-- the source J gives the items ts one by one, as long as ok holds -/
structure Src (K : PySem.W.Frag) (cl : CL) (Z : Addr → Prop) (J : It) (ts : List T) (ok : S → Prop) (s0 : S) (H0 : Hp) : Prop where
  go : ∀ (Z' : Addr → Prop) (s : S) (H : Hp) (i : Nat) (t : T), Fut s0 H0 s H → (∀ b, Z' b → Z b ∨ H0 b = none) → ok s → Sto K cl Z' s H → ts[i]? = some t → J.go i H ∧ ∀ x H', J.yld i H x H' → Fut s H s H' ∧ Sto K cl Z' s H' ∧ Rep K cl Z' s H' x t
  stop : ∀ (Z' : Addr → Prop) (s : S) (H : Hp) (i : Nat), Fut s0 H0 s H → (∀ b, Z' b → Z b ∨ H0 b = none) → ok s → Sto K cl Z' s H → ts.length ≤ i → J.stop i H
abbrev FI := Env → S → (List T → (S → Prop) → S → Prop) → KX → Prop
def tTI (K : PySem.W.Frag) (cl : CL) (W : WX) (I : FI) : TI := fun σ H R => ∃ Z τ s, REnv K cl Z s H σ τ ∧ Sto K cl Z s H ∧ I τ s (fun ts ok s1 => ∀ J H1, Fut s H s1 H1 → Sto K cl Z s1 H1 → Src K cl Z J ts ok s1 H1 → R J H1) (postW K cl Z s H σ W)
def MonI (I : FI) : Prop := ∀ τ s (Q Q' : List T → (S → Prop) → S → Prop) (E E' : KX), (∀ ts ok s, Q ts ok s → Q' ts ok s) → (∀ e s, E e s → E' e s) → I τ s Q E → I τ s Q' E'
structure JI (X : Cx) (cl : CL) (W : WX) (tg iter : Expr) (I : FI) : Prop where
  mon : MonI I
  pi : PI X tg iter (tTI X.K cl W I)
section
variable {X : Cx} {cl : CL} {W : WX} {tg e a b c o : Expr} {es : List Expr} {F Fa Fb Fc Fo : FE} {G Ga Gb : FT} {A : FA} {pos p apos pos' : Pos} {rest : List Expr} {x m : Str} {k j n i : Nat} {st : Stmt} {sts : List Stmt} {B B1 B2 : FS} {I : FI}
theorem PI.imp {iter : Expr} {w w' : TI} (h : PI X tg iter w) (i : ∀ σ H R, w' σ H R → w σ H R) : PI X tg iter w' := ⟨fun pins s σ H R I z => h.run pins s σ H R I (i σ H R z)⟩
/-- a list, a tuple or a text, as it comes -/
def iAny (K : PySem.W.Frag) (te : TE) : TI := fun σ H R => te σ H fun x H1 => (∃ a, x = .ref a ∧ (∃ xs, SqL K H1 a xs) ∧ R (Itl K a) H1) ∨ (∃ a, x = .ref a ∧ (∃ xs, SqT K H1 a xs) ∧ R (Itt K a) H1) ∨ ∃ z, x = .str z ∧ R (Its z) H1
theorem pi_any {te : TE} (he : PE X e te) : PI X tg e (iAny X.K te) := by
  refine ⟨fun pins s σ H R I h => ?_⟩
  refine thn (he.run pins s σ H _ I h) fun v s1 ⟨x, H1, I1, r1, q1⟩ => ?_
  rcases q1 with ⟨a, rfl, ⟨xs, hq⟩, q⟩ | ⟨a, rfl, ⟨xs, hq⟩, q⟩ | ⟨z, rfl, q⟩
  · cases r1
    obtain ⟨its, rv, p, hz⟩ := I1.list hq
    refine wpAny_pyIter_list p.isList ?_
    refine ⟨s1.heap.objs.size, [s1.heap.objs.size], _, _, H1, rfl, I1.kept (t' := s1.toks) fun b o e => Heap.get?_push_of_some _ e, turn_list a _, ⟨_, Heap.get?_push_size _ rfl, rfl, rfl⟩, fun b hb => ?_, q⟩
    have e : b = s1.heap.objs.size := by simpa using hb
    subst e
    exact I1.fpOk (Nat.le_refl _) (I1.hok.fresh (Nat.le_refl _))
  · cases r1
    obtain ⟨its, rv, p, hz⟩ := I1.tuple hq
    refine wpAny_pyIter_tuple (show s1.heap.IsTuple a its.toArray from p) ?_
    refine ⟨s1.heap.objs.size, [s1.heap.objs.size], _, _, H1, rfl, I1.kept (t' := s1.toks) fun b o e => Heap.get?_push_of_some _ e, turn_tuple a _, ⟨_, Heap.get?_push_size _ rfl, rfl, rfl⟩, fun b hb => ?_, q⟩
    have e : b = s1.heap.objs.size := by simpa using hb
    subst e
    exact I1.fpOk (Nat.le_refl _) (I1.hok.fresh (Nat.le_refl _))
  · obtain ⟨t, rfl⟩ := r1
    cases ha : z.cps.all (· < 128)
    · exact wpAny_pyIter_wide ha (pi_one (tk := s1.toks) I1 _ (turn_str _ z t "str_iterator" (.inr rfl)) ⟨_, Heap.get?_push_size _ rfl, rfl, rfl⟩ q)
    · exact wpAny_pyIter_ascii ha (pi_one (tk := s1.toks) I1 _ (turn_str _ z t "str_ascii_iterator" (.inl rfl)) ⟨_, Heap.get?_push_size _ rfl, rfl, rfl⟩ q)
def okAt (t : T) (xs : List T) : S → Prop := match t with | .cell a => fun s => s.on a = some (.lst xs) | _ => fun _ => True
/-- the items of what is walked -/
def S.its? (s : S) : T → Option (List T)
  | .str z => some (z.cps.toList.map fun c => .str ⟨#[c]⟩)
  | t => (s.seq? t).map (·.2)
def iSeq (Fa : FE) : FI := fun τ s Q E => Fa τ s (fun x s1 => match s1.its? x with | some ts => Q ts (okAt x ts) s1 | none => False) E
theorem src_str {K : PySem.W.Frag} {Z : Addr → Prop} {s : S} {H : Hp} (z : Str) (ok : S → Prop) : Src K cl Z (Its z) (z.cps.toList.map fun c => .str ⟨#[c]⟩) ok s H where
  go := fun Z' s H i t f zz ok so e => by
    rw [List.getElem?_map, Array.getElem?_toList] at e
    obtain ⟨c, e1, rfl⟩ := Option.map_eq_some_iff.mp e
    refine ⟨?_, ?_⟩
    · show i < z.cps.size
      by_cases q : i < z.cps.size
      · exact q
      · rw [Array.getElem?_eq_none (by omega)] at e1
        cases e1
    · rintro x H' ⟨rfl, d, hd, rfl⟩
      rw [e1] at hd
      cases hd
      exact ⟨Fut.refl _ _, so, .str _⟩
  stop := fun Z' s H i f zz ok so h => by
    rw [List.length_map, Array.length_toList] at h
    exact h
theorem tup_keep {K : PySem.W.Frag} {Z : Addr → Prop} {s : S} {H : Hp} {v : V} {xs : List T} (r : Rep K cl Z s H v (.tup xs)) : ∃ a vs, v = .ref a ∧ Reps K cl Z s H vs xs ∧ ∀ s' H', Fut s H s' H' → SqT K H' a vs := by
  cases r with
  | tup h n q => exact ⟨_, _, rfl, q, fun s' H' f => SqT.of (f.keep _ _ h n.1 (NT.tup _)).1⟩
  | tupK a b c d e q => exact ⟨_, _, rfl, q, fun _ _ _ => .inr ⟨_, _, _, a, b, c, d, e⟩⟩
theorem ji_seq (ha : JE X cl W e Fa) : JI X cl W tg e (iSeq Fa) := by
  refine ⟨fun τ s Q Q' E E' hq he h => ha.mon _ _ _ _ _ _ (fun x s1 h1 => ?_) he h, PI.imp (pi_any ha.pe) ?_⟩
  · split at h1
    · exact hq _ _ _ h1
    · exact h1
  rintro σ H R ⟨Z, τ, s, re, so, h⟩
  refine go ha.mon re so h (fun tx s1 x H1 p1 f1 re1 r1 so1 => ?_) fun _ _ q => q
  split at p1
  · rename_i ts e1
    unfold S.its? at e1
    split at e1
    · rename_i z
      cases e1
      cases rep_s r1
      exact .inr (.inr ⟨z, rfl, p1 _ _ f1 so1 (src_str z _)⟩)
    · obtain ⟨⟨b, ys⟩, e2, rfl⟩ := Option.map_eq_some_iff.mp e1
      cases tx with
      | lst zs =>
        cases e2
        cases r1 with
        | lst h n rs =>
          refine .inl ⟨_, rfl, ⟨_, SqL.of h⟩, p1 _ _ f1 so1 ⟨fun Z' s2 H2 i t f zz ok so2 e => ?_, fun Z' s2 H2 i f zz ok so2 e => ?_⟩⟩
          · have h2 := (f.keep _ _ h n.1 (NT.lst _)).1
            obtain ⟨v, ev, rv⟩ := rs.get i e
            refine ⟨⟨_, v, SqL.of h2, ev⟩, ?_⟩
            rintro y H' ⟨rfl, hy⟩
            have ey := hy _ (SqL.of h2)
            rw [ev] at ey
            cases ey
            exact ⟨Fut.refl _ _, so2, rv.futz f zz⟩
          · have h2 := (f.keep _ _ h n.1 (NT.lst _)).1
            exact ⟨_, SqL.of h2, by rw [rs.length]; exact e⟩
      | tup zs =>
        cases e2
        obtain ⟨a, vs, rfl, rs, keep⟩ := tup_keep r1
        refine .inr (.inl ⟨a, rfl, ⟨vs, keep _ _ (Fut.refl _ _)⟩, p1 _ _ f1 so1 ⟨fun Z' s2 H2 i t f zz ok so2 e => ?_, fun Z' s2 H2 i f zz ok so2 e => ?_⟩⟩)
        · obtain ⟨v, ev, rv⟩ := rs.get i e
          refine ⟨⟨_, v, keep _ _ f, ev⟩, ?_⟩
          rintro y H' ⟨rfl, hy⟩
          have ey := hy _ (keep _ _ f)
          rw [ev] at ey
          cases ey
          exact ⟨Fut.refl _ _, so2, rv.futz f zz⟩
        · exact ⟨_, keep _ _ f, by rw [rs.length]; exact e⟩
      | cell a =>
        cases r1
        have e2' := e2
        unfold S.seq? at e2
        dsimp only at e2
        split at e2
        · rename_i zs ho
          cases e2
          obtain ⟨vs, h1, h2⟩ := so1.cells _ _ ho
          refine .inl ⟨_, rfl, ⟨_, SqL.of h1⟩, p1 _ _ f1 so1 ⟨fun Z' s2 H2 i t f zz ok so2 e => ?_, fun Z' s2 H2 i f zz ok so2 e => ?_⟩⟩
          · obtain ⟨ws, h3, h4⟩ := so2.cells _ _ (show s2.on a = some (.lst ys) from ok)
            obtain ⟨v, ev, rv⟩ := h4.get i e
            refine ⟨⟨_, v, SqL.of h3, ev⟩, ?_⟩
            rintro y H' ⟨rfl, hy⟩
            have ey := hy _ (SqL.of h3)
            rw [ev] at ey
            cases ey
            exact ⟨Fut.refl _ _, so2, rv⟩
          · obtain ⟨ws, h3, h4⟩ := so2.cells _ _ (show s2.on a = some (.lst ys) from ok)
            exact ⟨_, SqL.of h3, by rw [h4.length]; exact e⟩
        · cases e2
      | _ => cases e2
  · exact p1.elim
end
end Mr
namespace Mr
open PySem PySem.Spec PyProof.Rows L2 Tw
section
variable {X : Cx} {cl : CL} {W : WX} {tg e a b c o : Expr} {es : List Expr} {F Fa Fb Fc Fo : FE} {G Ga Gb : FT} {A : FA} {pos p apos pos' : Pos} {rest : List Expr} {x m : Str} {k j n i : Nat} {st : Stmt} {sts : List Stmt} {B B1 B2 : FS} {I : FI}
def rng (lo : Int) (n : Nat) : List T := (List.range n).map fun k : Nat => .int (lo + (k : Int))
theorem src_rng {K : PySem.W.Frag} {Z : Addr → Prop} {s : S} {H : Hp} (lo : Int) (n : Nat) : Src K cl Z (Itr lo n) (rng lo n) (fun _ => True) s H where
  go := fun Z' s H i t f zz ok so e => by
    unfold rng at e
    rw [List.getElem?_map] at e
    obtain ⟨c, e1, rfl⟩ := Option.map_eq_some_iff.mp e
    have hlt : i < n := by
      have := (List.getElem?_eq_some_iff.mp e1).1
      rw [List.length_range] at this
      exact this
    rw [List.getElem?_range hlt] at e1
    cases e1
    refine ⟨hlt, ?_⟩
    rintro x H' ⟨rfl, rfl⟩
    exact ⟨Fut.refl _ _, so, .int _⟩
  stop := fun Z' s H i f zz ok so h => by
    unfold rng at h
    rw [List.length_map, List.length_range] at h
    exact h
def iRange1 (A : FA) : FI := fun τ s Q E => A τ s (fun ts s1 => match ts with | [.int j] => (-(2 ^ 62) ≤ j ∧ j < 2 ^ 62) ∧ Q (rng 0 j.toNat) (fun _ => True) s1 | _ => False) E
def iRange2 (A : FA) : FI := fun τ s Q E => A τ s (fun ts s1 => match ts with | [.int i, .int j] => (-(2 ^ 62) ≤ i ∧ i < 2 ^ 62 ∧ -(2 ^ 62) ≤ j ∧ j < 2 ^ 62) ∧ Q (rng i (j - i).toNat) (fun _ => True) s1 | _ => False) E
theorem ji_range1 (hg : Gl X "range") (hm : X.mg "range" = none) (ha : JA X cl W [a] A) (hs : starEach [a] X.env = [(false, eval a X.env)] := by rfl) : JI X cl W tg (.Call (.Name "range" p) [a] [] pos) (iRange1 A) := by
  refine ⟨fun τ s Q Q' E E' hq he h => ha.mon _ _ _ _ _ _ (fun ts s1 h1 => ?_) he h, PI.imp (pi_range1 hg hm ha.pa hs) ?_⟩
  · split at h1
    · exact ⟨h1.1, hq _ _ _ h1.2⟩
    · exact h1
  rintro σ H R ⟨Z, τ, s, re, so, h⟩
  refine goA ha.mon re so h (fun ts s1 vs H1 p1 f1 re1 r1 so1 => ?_) fun _ _ q => q
  split at p1
  · obtain ⟨v, rfl, rv⟩ := reps1 r1
    cases rep_i rv
    exact ⟨_, rfl, p1.1.1, p1.1.2, p1.2 _ _ f1 so1 (src_rng _ _)⟩
  · exact p1.elim
theorem ji_range2 (hg : Gl X "range") (hm : X.mg "range" = none) (ha : JA X cl W [a, b] A) (hs : starEach [a, b] X.env = [(false, eval a X.env), (false, eval b X.env)] := by rfl) (hs2 : starEach [b] X.env = [(false, eval b X.env)] := by rfl) : JI X cl W tg (.Call (.Name "range" p) [a, b] [] pos) (iRange2 A) := by
  refine ⟨fun τ s Q Q' E E' hq he h => ha.mon _ _ _ _ _ _ (fun ts s1 h1 => ?_) he h, PI.imp (pi_range2 hg hm ha.pa hs hs2) ?_⟩
  · split at h1
    · exact ⟨h1.1, hq _ _ _ h1.2⟩
    · exact h1
  rintro σ H R ⟨Z, τ, s, re, so, h⟩
  refine goA ha.mon re so h (fun ts s1 vs H1 p1 f1 re1 r1 so1 => ?_) fun _ _ q => q
  split at p1
  · obtain ⟨v, w, rfl, rv, rw⟩ := reps2 r1
    cases rep_i rv
    cases rep_i rw
    exact ⟨_, _, rfl, p1.1, p1.2 _ _ f1 so1 (src_rng _ _)⟩
  · exact p1.elim
def forT (ok : S → Prop) (g : FG) (B : FS) : List T → Env → S → DS → Prop
  | [], τ, s, D => ok s ∧ D.nx τ s
  | t :: ts, τ, s, D => ok s ∧ g t τ s fun τ1 s1 => B τ1 s1 ⟨fun τ2 s2 => forT ok g B ts τ2 s2 D, D.rt, D.nx, fun τ2 s2 => forT ok g B ts τ2 s2 D, D.xr⟩
def fFor (I : FI) (g : FG) (B : FS) : FS := fun τ s D => I τ s (fun ts ok s1 => forT ok g B ts τ s1 D) (xk τ D)
theorem mon_forT {ok : S → Prop} {g : FG} (mg : ∀ t τ s (Q Q' : Env → S → Prop), (∀ τ s, Q τ s → Q' τ s) → g t τ s Q → g t τ s Q') (mB : MonS B) : ∀ (ts : List T) (τ : Env) (s : S) (D D' : DS), D.Le D' → forT ok g B ts τ s D → forT ok g B ts τ s D'
  | [], τ, s, D, D', le, h => ⟨h.1, le.nx _ _ h.2⟩
  | t :: ts, τ, s, D, D', le, h => by
    refine ⟨h.1, mg _ _ _ _ _ (fun τ1 s1 q => ?_) h.2⟩
    refine mB _ _ _ _ ?_ q
    exact ⟨fun _ _ q => mon_forT mg mB ts _ _ _ _ le q, le.rt, le.nx, fun _ _ q => mon_forT mg mB ts _ _ _ _ le q, le.xr⟩
theorem js_for {iter : Expr} {body : List Stmt} {g : FG} (hp : PassesOwn (model X.prog X.w) X.A X.env X.xe) (hc : X.calm = true) (hi : JI X cl W tg iter I) (hg : JG X cl tg g) (hb : JSs X cl W body B)
    (hs : ∀ x, foldedSetIterable iter X.env x = pure x := by intro _; rfl) : JS X cl W (.For tg iter body [] pos) (fFor I g B) := by
  obtain ⟨g1, pg, i1⟩ := hg.ex
  refine ⟨fun τ s D D' le h => hi.mon _ _ _ _ _ _ (fun ts ok s1 h1 => mon_forT hg.mon hb.mon _ _ _ _ _ le h1) (fun _ _ q => le.xr _ _ _ q) h, PS.imp (ps_for hp hc hi.pi pg hb.pss hs) ?_⟩
  rintro D σ H ⟨Z, τ, s, re, so, h⟩
  refine ⟨Z, τ, s, re, so, hi.mon _ _ _ _ _ _ (fun ts ok s1 h1 J H1 f1 so1 src => ?_) (fun _ _ q => xe_w re q) h⟩
  refine ⟨fun i m σ' H' => ∃ τ' s', m = ts.length - i ∧ i ≤ ts.length ∧ Fut s1 H1 s' H' ∧ REnv X.K cl Z s' H' σ' τ' ∧ Sto X.K cl Z s' H' ∧ forT ok g B (ts.drop i) τ' s' (postD X.K cl Z s H W D), ⟨_, τ, s1, rfl, Nat.zero_le _, Fut.refl _ _, re.fut f1, so1, h1⟩, ?_⟩
  rintro i m σ' H' ⟨τ', s', rfl, hi', f', re', so', h'⟩
  by_cases hlt : i < ts.length
  · rw [List.drop_eq_getElem_cons hlt] at h'
    obtain ⟨hok, h'⟩ := h'
    obtain ⟨jg, jy⟩ := src.go Z s' H' i _ f' (fun b q => .inl q) hok so' (List.getElem?_eq_getElem hlt)
    refine .inr ⟨jg, fun σ2 H2 => ∃ τ2 s2, Fut s1 H1 s2 H2 ∧ REnv X.K cl Z s2 H2 σ2 τ2 ∧ Sto X.K cl Z s2 H2 ∧ forT ok g B (ts.drop (i + 1)) τ2 s2 (postD X.K cl Z s H W D), ?_, fun y H2 yl => ?_⟩
    · rintro σ2 H2 ⟨τ2, s2, f2, re2, so2, h2⟩
      exact ⟨ts.length - (i + 1), by omega, τ2, s2, rfl, hlt, f2, re2, so2, h2⟩
    · obtain ⟨fy, soy, ry⟩ := jy y H2 yl
      refine i1 Z _ _ σ' τ' H2 s' _ ry (re'.fut fy) soy (hg.mon _ _ _ _ _ (fun τ3 s3 q σ3 H3 f3 re3 so3 => ?_) h')
      refine goS hb.mon re3 so3 q ?_
      have fu := f'.trans (fy.trans f3)
      exact ⟨fun τ4 s4 q4 σ4 H4 f4 re4 so4 => ⟨τ4, s4, fu.trans f4, re4, so4, q4⟩, fun t s4 q4 => post.up (f1.trans fu) q4, fun τ4 s4 q4 => postE.up (f1.trans fu) q4, fun τ4 s4 q4 σ4 H4 f4 re4 so4 => ⟨τ4, s4, fu.trans f4, re4, so4, q4⟩, fun er τ4 s4 q4 => postXE.up (f1.trans fu) q4⟩
  · have e : i = ts.length := by omega
    subst e
    rw [List.drop_length] at h'
    exact .inl ⟨src.stop Z s' H' _ f' (fun b q => .inl q) h'.1 so' (Nat.le_refl _), h'.2 σ' H' (f1.trans f') re' so'⟩
/-- a comprehension's target: its slots are among vs -/
structure GT (K : PySem.W.Frag) (cl : CL) (vs : List Nat) (g : TG) (G : FG) : Prop where
  mv : ∀ v σ H (Q Q' : L2.St → Hp → Prop), (∀ σ H, Q σ H → Q' σ H) → g v σ H Q → g v σ H Q'
  mon : ∀ t τ s (Q Q' : Env → S → Prop), (∀ τ s, Q τ s → Q' τ s) → G t τ s Q → G t τ s Q'
  go : ∀ (Z : Addr → Prop) (t : T) (v : V) (σ : L2.St) (τ : Env) (H : Hp) (s : S) (Q : L2.St → Hp → Prop), Rep K cl Z s H v t → REnv K cl Z s H σ τ → Sto K cl Z s H → G t τ s (postE K cl Z s H Q) → g v σ H fun σ2 H2 => L2.wipe σ2 vs = L2.wipe σ vs ∧ Q σ2 H2
structure GTs (K : PySem.W.Frag) (cl : CL) (vs : List Nat) (g : TGs) (G : FGs) : Prop where
  mv : ∀ ws σ H (Q Q' : L2.St → Hp → Prop), (∀ σ H, Q σ H → Q' σ H) → g ws σ H Q → g ws σ H Q'
  mon : ∀ t τ s (Q Q' : Env → S → Prop), (∀ τ s, Q τ s → Q' τ s) → G t τ s Q → G t τ s Q'
  go : ∀ (Z : Addr → Prop) (ts : List T) (ws : List V) (σ : L2.St) (τ : Env) (H : Hp) (s : S) (Q : L2.St → Hp → Prop), Reps K cl Z s H ws ts → REnv K cl Z s H σ τ → Sto K cl Z s H → G ts τ s (postE K cl Z s H Q) → g ws σ H fun σ2 H2 => L2.wipe σ2 vs = L2.wipe σ vs ∧ Q σ2 H2
theorem wipe_comm (σ : L2.St) (i : Nat) (x : Option V) : ∀ vs : List Nat, i ∈ vs → L2.wipe (σ.set i x) vs = L2.wipe σ vs
  | [], h => by cases h
  | v :: vs, h => by
    show (L2.wipe (σ.set i x) vs).set v none = (L2.wipe σ vs).set v none
    by_cases hv : i ∈ vs
    · rw [wipe_comm σ i x vs hv]
    · have e : i = v := (List.mem_cons.mp h).resolve_right hv
      subst e
      have out : ∀ (vs : List Nat), i ∉ vs → L2.wipe (σ.set i x) vs = (L2.wipe σ vs).set i x := by
        intro vs
        induction vs with
        | nil => intro _; rfl
        | cons w ws ih =>
          intro hn
          show (L2.wipe (σ.set i x) ws).set w none = ((L2.wipe σ ws).set w none).set i x
          rw [ih (fun q => hn (List.mem_cons_of_mem _ q)), List.set_comm _ _ (fun q => hn (by rw [q]; exact List.mem_cons_self))]
      rw [out vs hv, List.set_set]
theorem wipe_wipe (σ : L2.St) : ∀ vs : List Nat, L2.wipe (L2.wipe σ vs) vs = L2.wipe σ vs
  | [] => rfl
  | v :: vs => by
    show L2.wipe ((L2.wipe σ vs).set v none) (v :: vs) = (L2.wipe σ vs).set v none
    rw [wipe_comm _ v none (v :: vs) List.mem_cons_self]
    show (L2.wipe (L2.wipe σ vs) vs).set v none = _
    rw [wipe_wipe σ vs]
theorem gt_name {K : PySem.W.Frag} {vs : List Nat} (h : i ∈ vs) : GT K cl vs (gName i) (gN i) :=
  ⟨fun _ _ _ _ _ hq h => hq _ _ h, fun _ _ _ _ _ hq h => hq _ _ h, fun Z t v σ τ H s Q r re so q => ⟨wipe_comm σ i _ vs h, q _ H (Fut.refl _ _) (re.set r i) so⟩⟩
theorem gts_nil {K : PySem.W.Frag} {vs : List Nat} : GTs K cl vs gNil gsNil := by
  refine ⟨fun _ _ _ _ _ hq h => ⟨h.1, hq _ _ h.2⟩, fun ts τ s Q Q' hq h => ?_, fun Z ts ws σ τ H s Q r re so h => ?_⟩
  · unfold gsNil at h ⊢
    split at h
    · exact hq _ _ h
    · exact h
  · unfold gsNil at h
    split at h
    · cases r
      exact ⟨rfl, rfl, h _ H (Fut.refl _ _) re so⟩
    · exact h.elim
theorem gts_cons {K : PySem.W.Frag} {vs : List Nat} {g : TG} {gs : TGs} {G : FG} {Gs : FGs} (h1 : GT K cl vs g G) (h2 : GTs K cl vs gs Gs) : GTs K cl vs (gCons g gs) (gsCons G Gs) := by
  have mg := h1.mv
  have ms := h2.mv
  refine ⟨fun ws σ H Q Q' hq ⟨v, r, e, h⟩ => ⟨v, r, e, mg _ _ _ _ _ (fun σ1 H1 q => ms _ _ _ _ _ hq q) h⟩, fun ts τ s Q Q' hq h => ?_, fun Z ts ws σ τ H s Q r re so h => ?_⟩
  · unfold gsCons at h ⊢
    split at h
    · exact h1.mon _ _ _ _ _ (fun _ _ q => h2.mon _ _ _ _ _ hq q) h
    · exact h
  · unfold gsCons at h
    split at h
    · cases r with
      | @cons v0 t0 vs0 ts0 r rs =>
        have q1 : g v0 σ H fun σ1 H1 => L2.wipe σ1 vs = L2.wipe σ vs ∧ gs vs0 σ1 H1 fun σ2 H2 => L2.wipe σ2 vs = L2.wipe σ1 vs ∧ Q σ2 H2 := by
          refine h1.go Z _ _ σ τ H s _ r re so (h1.mon _ _ _ _ _ ?_ h)
          intro τ1 s1 q σ1 H1 f re1 so1
          exact h2.go Z _ _ σ1 τ1 H1 s1 Q (rs.fut f) re1 so1 (h2.mon _ _ _ _ _ (fun _ _ q => postE.up f q) q)
        exact ⟨_, _, rfl, mg _ _ _ _ _ (fun σ1 H1 q => ms _ _ _ _ _ (fun σ2 H2 q2 => ⟨q2.1.trans q.1, q2.2⟩) q.2) q1⟩
    · exact h.elim
theorem gt_tup {K : PySem.W.Frag} {vs : List Nat} {gs : TGs} {Gs : FGs} (h : GTs K cl vs gs Gs) : GT K cl vs (gTup K n gs) (gT n Gs) := by
  refine ⟨fun v σ H Q Q' hq ⟨a, xs, e, h1, h2, h3⟩ => ⟨a, xs, e, h1, h2, h.mv _ _ _ _ _ hq h3⟩, fun ts τ s Q Q' hq q => ?_, fun Z t v σ τ H s Q r re so q => ?_⟩
  · unfold gT at q ⊢
    split at q
    · exact ⟨q.1, h.mon _ _ _ _ _ hq q.2⟩
    · exact q
  · unfold gT at q
    split at q
    · obtain ⟨a, ws, rfl, ht, rs⟩ := tup_of r
      exact ⟨a, ws, rfl, ht, by rw [rs.length]; exact q.1, h.go Z _ _ σ τ H s Q rs re so q.2⟩
    · exact q.elim
abbrev W0 : WX := fun _ _ _ _ => False
abbrev noX : KX := fun _ _ => False
def lcT (ok : S → Prop) (g : FG) (tt : FT) (te : FE) (τ : Env) : List T → List T → S → (List T → S → Prop) → Prop
  | [], acc, s, Q => ok s ∧ Q acc s
  | t :: ts, acc, s, Q => ok s ∧ acc.length < 1000000 ∧ g t τ s fun τ1 s1 => tt τ1 s1 (fun b s2 => if b = true then te τ1 s2 (fun y s3 => lcT ok g tt te τ ts (acc ++ [y]) s3 Q) noX else lcT ok g tt te τ ts acc s2 Q) noX
def fLc (I : FI) (g : FG) (tt : FT) (te : FE) (vs : List Nat) : FE := fun τ s Q E => I τ s (fun ts ok s1 => lcT ok g tt te (wipeT τ vs) ts [] s1 fun ys s2 => Q (.lst ys) s2) E
theorem mon_lcT {ok : S → Prop} {g : FG} {tt : FT} {te : FE} {τ : Env} (mg : ∀ t τ s (Q Q' : Env → S → Prop), (∀ τ s, Q τ s → Q' τ s) → g t τ s Q → g t τ s Q') (mt : MonT tt) (me : MonE te) : ∀ (ts acc : List T) (s : S) (Q Q' : List T → S → Prop), (∀ ys s, Q ys s → Q' ys s) → lcT ok g tt te τ ts acc s Q → lcT ok g tt te τ ts acc s Q'
  | [], acc, s, Q, Q', hq, h => ⟨h.1, hq _ _ h.2⟩
  | t :: ts, acc, s, Q, Q', hq, h => ⟨h.1, h.2.1, mg _ _ _ _ _ (fun τ1 s1 q => mt _ _ _ _ _ _ (fun b s2 q2 => w_ite q2 (me _ _ _ _ _ _ (fun y s3 q3 => mon_lcT mg mt me ts _ _ _ _ hq q3) fun _ _ q => q) (mon_lcT mg mt me ts _ _ _ _ hq)) (fun _ _ q => q) q) h.2.2⟩
/-- the tests of a clause -/
def fYes : FT := fun _ s Q _ => Q true s
theorem mon_yes : MonT fYes := fun _ _ _ _ _ _ hq _ h => hq _ _ h
theorem yes_go {K : PySem.W.Frag} {W : WX} {σ : L2.St} {H : Hp} {Q : Bool → Hp → Prop} (h : tTT K cl W fYes σ H Q) : tYes σ H Q := by
  obtain ⟨Z, τ, s, re, so, h⟩ := h
  exact h H (Fut.refl _ _) so
theorem lc_imp {K : PySem.W.Frag} {vs : List Nat} {g : TG} {g' : FG} {ttV : TT} {tt : FT} {te : FE} (mi : MonI I) (hG : GT K cl vs g g') (mt : MonT tt) (ht : ∀ σ H Q, tTT K cl W0 tt σ H Q → ttV σ H Q) (me : MonE te)
    {σ : L2.St} {H : Hp} {Q : VK} (h : tT K cl W (fLc I g' tt te vs) σ H Q) : tLc (tTI K cl W I) g ttV (tT K cl W0 te) vs σ H Q := by
  obtain ⟨Z, τ, s, re, so, h⟩ := h
  refine ⟨Z, τ, s, re, so, mi _ _ _ _ _ _ (fun ts ok s1 h1 J H1 f1 so1 src D hD => ?_) (fun _ _ q => q) h⟩
  have k1 : Fut s1 H1 s1 (upd H1 D (.lst [])) := Fut.new hD
  have zz : ∀ b, Hide Z D b → Z b ∨ H1 b = none := fun b q => q.imp id fun e => by rw [e]; exact hD
  have reW : REnv K cl Z s1 H1 (L2.wipe σ vs) (wipeT τ vs) := (re.fut f1).wipe vs
  refine ⟨fun i m H' => ∃ s' acc av, m = ts.length - i ∧ i ≤ ts.length ∧ Fut s1 H1 s' H' ∧ Sto K cl (Hide Z D) s' H' ∧ H' D = some (.lst av) ∧ Reps K cl (Hide Z D) s' H' av acc ∧ lcT ok g' tt te (wipeT τ vs) (ts.drop i) acc s' (fun ys s2 => post K cl Z s H Q (.lst ys) s2), ⟨_, s1, [], [], rfl, Nat.zero_le _, k1, so1.hide hD, upd_same, .nil, h1⟩, ?_⟩
  rintro i m H' ⟨s', acc, av, rfl, hi', f', so', hDa, ra, h'⟩
  by_cases hlt : i < ts.length
  · rw [List.drop_eq_getElem_cons hlt] at h'
    obtain ⟨hok, hz, h'⟩ := h'
    obtain ⟨jg, jy⟩ := src.go (Hide Z D) s' H' i _ f' zz hok so' (List.getElem?_eq_getElem hlt)
    refine .inr ⟨jg, fun H2 => ∃ s2 acc2 av2, Fut s1 H1 s2 H2 ∧ Sto K cl (Hide Z D) s2 H2 ∧ H2 D = some (.lst av2) ∧ Reps K cl (Hide Z D) s2 H2 av2 acc2 ∧ lcT ok g' tt te (wipeT τ vs) (ts.drop (i + 1)) acc2 s2 (fun ys s2 => post K cl Z s H Q (.lst ys) s2), ?_, fun y H2 yl => ?_⟩
    · rintro H2 ⟨s2, acc2, av2, h1, h2, h3, h4, h5⟩
      exact ⟨ts.length - (i + 1), by omega, s2, acc2, av2, rfl, hlt, h1, h2, h3, h4, h5⟩
    · obtain ⟨fy, soy, ry⟩ := jy y H2 yl
      have reY : REnv K cl (Hide Z D) s' H2 (L2.wipe σ vs) (wipeT τ vs) := (reW.futz f' zz).fut fy
      have noD : ∀ s3 H3, Sto K cl (Hide Z D) s3 H3 → ¬ s3.mut D := fun s3 H3 so3 => (so3.hid D (.inr rfl)).1
      refine hG.mv _ _ _ _ _ ?_ (hG.go (Hide Z D) _ _ _ _ H2 s' (fun σ3 H3 => ∃ τ3 s3, Fut s' H2 s3 H3 ∧ REnv K cl (Hide Z D) s3 H3 σ3 τ3 ∧ Sto K cl (Hide Z D) s3 H3 ∧ tt τ3 s3 (fun b s2 => if b = true then te τ3 s2 (fun y s3 => lcT ok g' tt te (wipeT τ vs) (ts.drop (i + 1)) (acc ++ [y]) s3 (fun ys s2 => post K cl Z s H Q (.lst ys) s2)) noX else lcT ok g' tt te (wipeT τ vs) (ts.drop (i + 1)) acc s2 (fun ys s2 => post K cl Z s H Q (.lst ys) s2)) noX) ry reY soy (hG.mon _ _ _ _ _ (fun τ3 s3 q σ3 H3 f3 re3 so3 => ⟨τ3, s3, f3, re3, so3, q⟩) h'))
      rintro σ3 H3 ⟨ew, τ3, s3, f3, re3, so3, h3⟩
      refine ⟨ew.trans (wipe_wipe σ vs), ht _ _ _ ⟨Hide Z D, τ3, s3, re3, so3, mt _ _ _ _ _ _ (fun b s4 q4 H4 f4 so4 => ?_) (fun _ _ q => q.elim) h3⟩⟩
      have hD4 : H4 D = some (.lst av) := (f4.keep D _ (f3.keep D _ (fy.keep D _ hDa (noD _ _ so') (NT.lst _)).1 (noD _ _ soy) (NT.lst _)).1 (noD _ _ so3) (NT.lst _)).1
      have ra4 : Reps K cl (Hide Z D) s4 H4 av acc := ((ra.fut fy).fut f3).fut f4
      have fu4 : Fut s1 H1 s4 H4 := f'.trans (fy.trans (f3.trans f4))
      refine w_ite q4 (fun q => ?_) fun q => ⟨s4, acc, av, fu4, so4, hD4, ra4, q⟩
      refine ⟨Hide Z D, τ3, s4, re3.fut f4, so4, me _ _ _ _ _ _ (fun ty s5 q5 yv H5 f5 r5 so5 => ?_) (fun _ _ q => q.elim) q⟩
      have hD5 : H5 D = some (.lst av) := (f5.keep D _ hD4 (noD _ _ so4) (NT.lst _)).1
      have kk : ∀ b u, ¬ Hide Z D b → H5 b = some u → upd H5 D (.lst (av ++ [yv])) b = some u := fun b u n h => by rw [upd_ne (fun e => n (.inr e))]; exact h
      refine ⟨av, hD5, ?_, s5, acc ++ [ty], av ++ [yv], ?_, so5.turn, upd_same, ?_, q5⟩
      · rw [ra4.length]
        exact Nat.lt_of_lt_of_le hz size6
      · have fu5 : Fut s1 H1 s5 H5 := fu4.trans f5
        exact fu5.updN hD
      · exact (Reps.append (ra4.fut f5) (.cons r5 .nil)).turn (fun _ q => q) kk
  · have e : i = ts.length := by omega
    subst e
    rw [List.drop_length] at h'
    refine .inl ⟨src.stop (Hide Z D) s' H' _ f' zz h'.1 so' (Nat.le_refl _), ?_⟩
    have noD := so'.hid D (.inr rfl)
    have nz : ¬ Z D := fun q => by
      obtain ⟨_, o, ho⟩ := so1.hid D q
      rw [hD] at ho
      cases ho
    exact h'.2 _ _ (f1.trans f') (.lst hDa ⟨noD.1, nz⟩ (ra.turn (fun _ q => .inl q) fun _ _ _ h => h)) so'.bare
end
end Mr
namespace Mr
open PySem PySem.Spec PyProof.Rows L2 Tw
section
variable {X : Cx} {cl : CL} {W : WX} {tg e a b c o : Expr} {es : List Expr} {F Fa Fb Fc Fo : FE} {G Ga Gb : FT} {A : FA} {pos p apos pos' : Pos} {rest : List Expr} {x m : Str} {k j n i : Nat} {st : Stmt} {sts : List Stmt} {B B1 B2 : FS} {I : FI}
theorem je_lc {elt iter : Expr} {scope : Scope} {own : List (Str × Nat)} {g : TG} {g' : FG} {te : FE} (hc : X.calm = true) (hN : X.N.Nodup) (hi : JI X cl W tg iter I) (ok : BlkOk X.N X.env.scope scope own)
    (hg : ∀ (s : Shared) (H : Hp) (C : Addr) (cl : List (Str × Addr)) (fp : List Addr), PG (X.blk s H scope (compEnvC scope cl C X.env) fp) tg g) (hG : GT X.K cl (own.map (·.2)) g g')
    (he : ∀ (s : Shared) (H : Hp) (C : Addr) (cl' : List (Str × Addr)) (fp : List Addr), JE (X.blk s H scope (compEnvC scope cl' C X.env) fp) cl W0 elt te) (hs : ∀ x, foldedSetIterable iter X.env x = pure x := by intro _; rfl) :
    JE X cl W (.ListComp elt [⟨tg, iter, [], 0⟩] scope pos) (fLc I g' fYes te (own.map (·.2))) := by
  have me : MonE te := (he X.s_0 (fun _ => none) 0 [] []).mon
  refine ⟨fun τ s Q Q' E E' hq he h => hi.mon _ _ _ _ _ _ (fun ts ok s1 h1 => mon_lcT hG.mon mon_yes me _ _ _ _ _ (fun ys s2 q => hq _ _ q) h1) he h, ?_⟩
  exact PE.imp (pe_lc (te := tT X.K cl W0 te) hc hN hi.pi ok hg (fun _ _ _ _ _ => pts_nil) (fun s H C cl' fp => (he s H C cl' fp).pe) hs) fun σ H Q h => lc_imp hi.mon hG mon_yes (fun _ _ _ q => yes_go q) me h
theorem je_lcIf {elt iter : Expr} {scope : Scope} {own : List (Str × Nat)} {g : TG} {g' : FG} {te : FE} {tt : FT} (hc : X.calm = true) (hN : X.N.Nodup) (hi : JI X cl W tg iter I) (ok : BlkOk X.N X.env.scope scope own)
    (hg : ∀ (s : Shared) (H : Hp) (C : Addr) (cl : List (Str × Addr)) (fp : List Addr), PG (X.blk s H scope (compEnvC scope cl C X.env) fp) tg g) (hG : GT X.K cl (own.map (·.2)) g g')
    (ht : ∀ (s : Shared) (H : Hp) (C : Addr) (cl' : List (Str × Addr)) (fp : List Addr), JT (X.blk s H scope (compEnvC scope cl' C X.env) fp) cl W0 c tt)
    (he : ∀ (s : Shared) (H : Hp) (C : Addr) (cl' : List (Str × Addr)) (fp : List Addr), JE (X.blk s H scope (compEnvC scope cl' C X.env) fp) cl W0 elt te) (hs : ∀ x, foldedSetIterable iter X.env x = pure x := by intro _; rfl) :
    JE X cl W (.ListComp elt [⟨tg, iter, [c], 0⟩] scope pos) (fLc I g' tt te (own.map (·.2))) := by
  have me : MonE te := (he X.s_0 (fun _ => none) 0 [] []).mon
  have mt : MonT tt := (ht X.s_0 (fun _ => none) 0 [] []).mon
  refine ⟨fun τ s Q Q' E E' hq he h => hi.mon _ _ _ _ _ _ (fun ts ok s1 h1 => mon_lcT hG.mon mt me _ _ _ _ _ (fun ys s2 q => hq _ _ q) h1) he h, ?_⟩
  exact PE.imp (pe_lc (te := tT X.K cl W0 te) (tt := tTT X.K cl W0 tt) hc hN hi.pi ok hg (fun s H C cl' fp => pts_one (ht s H C cl' fp).pt) (fun s H C cl' fp => (he s H C cl' fp).pe) hs) fun σ H Q h => lc_imp hi.mon hG mt (fun _ _ _ q => q) me h
theorem setlc_imp {fl : FE} {ml : MonE fl} {tl : TE} (h : ∀ σ H Q, tT X.K cl W fl σ H Q → tl σ H Q) {D : Ends} {σ : L2.St} {H : Hp} (q : tTS X.K cl W (fSet i fl) D σ H) : tAsg tl (gName i) D σ H := by
  obtain ⟨Z, τ, s, re, so, q⟩ := q
  exact h _ _ _ (go ml re so q (fun tx s1 v H1 p1 f1 re1 r1 so1 => p1 _ H1 f1 (re1.set r1 i) so1) fun _ _ q => xe_w re q)
theorem js_setLcIf {y : Str} {py : Pos} {elt iter : Expr} {scope : Scope} {own : List (Str × Nat)} {spos : Pos} {g : TG} {g' : FG} {te : FE} {tt : FT} (hc : X.calm = true) (hN : X.N.Nodup) (hy : X.N[i]? = some y) (hyl : X.env.scope.names.lookup y = some .local)
    (hsw : swapsWith (.ListComp elt [⟨tg, iter, [c], 0⟩] scope pos) (some (.Name y py)) spos.line X.env = pure true) (hi : JI X cl W tg iter I) (ok : BlkOk X.N X.env.scope scope own)
    (hg : ∀ (s : Shared) (H : Hp) (C : Addr) (cl : List (Str × Addr)) (fp : List Addr), PG (X.blk s H scope (compEnvC scope cl C X.env) fp) tg g) (hG : GT X.K cl (own.map (·.2)) g g')
    (ht : ∀ (s : Shared) (H : Hp) (C : Addr) (cl' : List (Str × Addr)) (fp : List Addr), JT (X.blk s H scope (compEnvC scope cl' C X.env) fp) cl W0 c tt)
    (he : ∀ (s : Shared) (H : Hp) (C : Addr) (cl' : List (Str × Addr)) (fp : List Addr), JE (X.blk s H scope (compEnvC scope cl' C X.env) fp) cl W0 elt te) (hs : ∀ x, foldedSetIterable iter X.env x = pure x := by intro _; rfl) :
    JS X cl W (.Assign [.Name y py] (.ListComp elt [⟨tg, iter, [c], 0⟩] scope pos) spos) (fSet i (fLc I g' tt te (own.map (·.2)))) := by
  have me : MonE te := (he X.s_0 (fun _ => none) 0 [] []).mon
  have mt : MonT tt := (ht X.s_0 (fun _ => none) 0 [] []).mon
  have ml : MonE (fLc I g' tt te (own.map (·.2))) := fun τ s Q Q' E E' hq he h => hi.mon _ _ _ _ _ _ (fun ts ok s1 h1 => mon_lcT hG.mon mt me _ _ _ _ _ (fun ys s2 q => hq _ _ q) h1) he h
  refine ⟨fun τ s D D' le h => ml _ _ _ _ _ _ (fun _ _ q => le.nx _ _ q) (fun _ _ q => le.xr _ _ _ q) h, ?_⟩
  exact PS.imp (ps_setLc (te := tT X.K cl W0 te) (tt := tTT X.K cl W0 tt) hc hN hy hyl hsw hi.pi ok hg (fun s H C cl' fp => pts_one (ht s H C cl' fp).pt) (fun s H C cl' fp => (he s H C cl' fp).pe) hs) fun D σ H h => setlc_imp (ml := ml) (fun σ H Q h => lc_imp hi.mon hG mt (fun _ _ _ q => q) me h) h
inductive JJ (X : Cx) (cl : CL) (W : WX) : List Expr → List FE → Prop where
  | nil : JJ X cl W [] []
  | cons {e : Expr} {F : FE} {es : List Expr} {Fs : List FE} (h : JE X cl W e F) (r : JJ X cl W es Fs) : JJ X cl W (e :: es) (F :: Fs)
def jsT : List FE → Str → Env → S → (Str → S → Prop) → KX → Prop
  | [], acc, _, s, Q, _ => Q acc s
  | F :: Fs, acc, τ, s, Q, E => F τ s (fun x s1 => match x with | .str y => acc.length + y.length ≤ 1000000 ∧ jsT Fs (acc ++ y) τ s1 Q E | _ => False) E
def fJs (Fs : List FE) : FE := fun τ s Q E => jsT Fs Str.empty τ s (fun z s1 => Q (.str z) s1) E
theorem JJ.mon {Fs : List FE} : ∀ {es : List Expr}, JJ X cl W es Fs → ∀ F ∈ Fs, MonE F
  | _, .nil, F, h => by cases h
  | _, .cons h r, F, hF => by
    rcases List.mem_cons.mp hF with rfl | hF
    · exact h.mon
    · exact r.mon F hF
def txts : List T → Option (List Str)
  | [] => some []
  | .str b :: r => (txts r).map (b :: ·)
  | _ => none
def gEqOwn (cc : Nat) (ins exc : List Nat) (nfs : List Ty) (D : FD) : S → T → T → KT → KX → Prop := fun s x y Q _ => match s.obj? x, s.ty? y with | some (c, _), some (t, g) => c = cc ∧ okC ins exc t g ∧ t ∈ nfs ∧ cM D [x, y] s Q noX | _, _ => False
theorem noX_post {K : PySem.W.Frag} {Z : Addr → Prop} {s : S} {H : Hp} {E : XK} {er : Er} {s1 : S} (h : noX er s1) : postX K cl Z s H E er s1 := h.elim
theorem o_eqOwn {cc : Nat} {ins exc : List Nat} {kk : Ty → Ty → Option Bool} {nfs : List Ty} {D : FD} (w : Wc X.K cl kk ins exc) (d : MetM X.prog X.w X.K X.mg X.base cl k cc "__eq__" D []) (hn : ∀ t ∈ nfs, PySem.W.notFirst X.K (cl cc) (t.u cl) = true) (hr : Rm j X.A) (hk : k ≤ j) :
    OpT X cl W (compareOp .Eq) (gEqOwn cc ins exc nfs D) := by
  obtain ⟨dvs, d, hd⟩ := d.ex
  have e0 : dvs = [] := by
    have := hd (fun _ => False) ⟨none, 0, fun _ => none⟩ (fun _ => none)
    cases this
    rfl
  subst e0
  refine OpT.of ?_ (op_ownEqA d hr hk) fun Z H x y Q s tx ty E px py so q => ?_
  · intro s x y Q Q' E E' hq he h
    unfold gEqOwn at h ⊢
    split at h
    · exact ⟨h.1, h.2.1, h.2.2.1, h.2.2.2.mon hq fun _ _ q => q⟩
    · exact h
  · unfold gEqOwn at q
    split at q
    · rename_i c fs t g e1 e2
      obtain ⟨rfl, h1, h2, h3⟩ := q
      obtain ⟨a, dx, fvs, rfl, h4, rf⟩ := obj_of so px e1
      exact ⟨a, dx, fvs, t.u cl, rfl, h4, ty_of w so py e2 h1, hn t h2, Z, [tx, ty], s, .cons px (.cons py .nil), so, h3.mon (fun _ _ q => q) fun _ _ q => noX_post q⟩
    · exact q.elim
def gNeOwn (cc : Nat) (D : FD) : S → T → T → KT → KX → Prop := fun s x y Q _ => match s.obj? x, s.obj? y with | some (c, _), some (c', _) => c = cc ∧ c' = cc ∧ cM D [x, y] s (fun t s1 => match t with | .bl b => Q (.bl (!b)) s1 | _ => False) noX | _, _ => False
/-- str(x), x an instance whose class has __str__ -/
def fStrO (cc : Nat) (D : FD) (A : FA) : FE := fun τ s Q E => A τ s (fun ts s1 => match ts with | [x] => (match s1.obj? x with | some (c, _) => c = cc ∧ cM D [x] s1 (fun t s2 => match t with | .str z => Q (.str z) s2 | _ => False) noX | none => False) | _ => False) E
end
end Mr
namespace Mr
open PySem PySem.Spec PyProof.Rows L2 Tw
section
variable {X : Cx} {cl : CL} {W : WX} {tg e a b c o : Expr} {es : List Expr} {F Fa Fb Fc Fo : FE} {G Ga Gb : FT} {A : FA} {pos p apos pos' p2 : Pos} {rest : List Expr} {x m : Str} {k j n i : Nat} {st : Stmt} {sts : List Stmt} {B B1 B2 : FS} {I : FI}
def T.flat : T → Bool
  | .non | .bl _ | .int _ | .str _ => true
  | _ => false
/-- == of flat trees -/
def eqF : T → T → Bool
  | .non, .non => true
  | .bl a, .bl b => a == b
  | .bl a, .int b => (if a then 1 else 0) == b
  | .int a, .bl b => a == (if b then 1 else 0)
  | .int a, .int b => a == b
  | .str a, .str b => a == b
  | _, _ => false
theorem flat_of {K : PySem.W.Frag} {Z : Addr → Prop} {s : S} {H : Hp} {v : V} {t : T} (r : Rep K cl Z s H v t) (h : t.flat = true) : flatV v = true := by
  cases r <;> first | rfl | (cases h; done)
theorem eqF_of {K : PySem.W.Frag} {Z : Addr → Prop} {s : S} {H : Hp} {v w : V} {t u : T} (r : Rep K cl Z s H v t) (q : Rep K cl Z s H w u) (h : t.flat = true) (h' : u.flat = true) : eqV v w = eqF t u := by
  cases r <;> first | (cases h; done) | skip
  all_goals (cases q <;> first | rfl | (cases h'; done))
theorem Reps.flats {K : PySem.W.Frag} {Z : Addr → Prop} {s : S} {H : Hp} : ∀ {vs : List V} {ts : List T}, Reps K cl Z s H vs ts → ts.all T.flat = true → vs.all flatV = true
  | _, _, .nil, _ => rfl
  | _, _, .cons h r, e => by
    rw [List.all_cons, Bool.and_eq_true] at e ⊢
    exact ⟨flat_of h e.1, r.flats e.2⟩
theorem Reps.inF {K : PySem.W.Frag} {Z : Addr → Prop} {s : S} {H : Hp} {v : V} {t : T} (q : Rep K cl Z s H v t) (h : t.flat = true) : ∀ {vs : List V} {ts : List T}, Reps K cl Z s H vs ts → ts.all T.flat = true → inV v vs = ts.any fun y => eqF y t
  | _, _, .nil, _ => rfl
  | _, _, .cons r rs, e => by
    rw [List.all_cons, Bool.and_eq_true] at e
    unfold inV
    rw [List.any_cons, List.any_cons, eqF_of r q e.1 h]
    exact congrArg _ (rs.inF q h e.2)
/-- in: a text in a text; a flat thing in a list or tuple of such; data in a list of data -/
def inB (s : S) : T → T → Option (Prop × Bool)
  | .str w, .str z => some (True, occ z w)
  | x, y => match s.seq? y with
    | some (l, ys) => if x.flat = true then (if ys.all T.flat = true then some (True, ys.any fun y => eqF y x) else none) else
      (if l = true then (match s.dat x, s.dat y with | some d, some (.list ds) => some (SeqAt.shaped d = true ∧ SeqAt.shaped (.list ds) = true, ds.any fun z => PyData.eqv z d) | _, _ => none) else none)
    | none => none
def inO' : O2 := fun s x y => (inB s x y).map fun q => (q.1, .bl q.2)
theorem in_go {neg : Bool} {K : PySem.W.Frag} {Z : Addr → Prop} {s : S} {H : Hp} {x y : V} {tx ty : T} {c : Prop} {r : Bool} {Q : VK} (px : Rep K cl Z s H x tx) (py : Rep K cl Z s H y ty) (so : Sto K cl Z s H) (e : inB s tx ty = some (c, r)) (hc : c) (q : Q (.bl (if neg then !r else r)) H) :
    (∃ i j, x = .str i ∧ y = .str j ∧ Q (.bl (if neg then !(occ j i) else occ j i)) H) ∨ rIn K neg x y H Q ∨ (∃ d ds, Dp K H x d ∧ Dp K H y (.list ds) ∧ SeqAt.shaped d = true ∧ SeqAt.shaped (.list ds) = true ∧ Q (.bl (if neg then !(ds.any fun z => PyData.eqv z d) else ds.any fun z => PyData.eqv z d)) H) := by
  unfold inB at e
  split at e
  · cases e
    cases rep_s px
    cases rep_s py
    exact .inl ⟨_, _, rfl, rfl, q⟩
  · split at e
    · rename_i l ys e1
      split at e
      · rename_i hf
        split at e
        · rename_i ha
          cases e
          obtain ⟨a, vs, rfl, hq, rs⟩ := seq_sq so py e1
          exact .inr (.inl ⟨a, vs, rfl, hq, flat_of px hf, rs.flats ha, by rw [rs.inF px hf ha]; exact q⟩)
        · cases e
      · split at e
        · split at e
          · rename_i e2 e3
            cases e
            exact .inr (.inr ⟨_, _, px.sdp so e2, py.sdp so e3, hc.1, hc.2, q⟩)
          · cases e
        · cases e
    · cases e
theorem o_in (hr : Rm k X.A) : OpT X cl W (compareOp .In) (g2 inO') := by
  have hu : X.A.units + 65 < cLine := by have := hr.room.un; omega
  refine OpT.pure (opr_or op_in_str (opr_or op_in_seq (op_inD hu))) fun Z H x y Q s tx ty c t px py so e hc p => ?_
  obtain ⟨⟨c', r⟩, e1, e2⟩ := Option.map_eq_some_iff.mp e
  cases e2
  exact in_go (neg := false) px py so e1 hc (p.here (.bl _) so)
def cutT (xs : List T) (lo hi : Option Int) : List T := (xs.drop (HT.sIx xs.length 0 lo)).take (HT.sIx xs.length xs.length hi - HT.sIx xs.length 0 lo)
theorem Reps.cut {K : PySem.W.Frag} {Z : Addr → Prop} {s : S} {H : Hp} {vs : List V} {ts : List T} (r : Reps K cl Z s H vs ts) (lo hi : Option Int) : Reps K cl Z s H (cutV vs lo hi) (cutT ts lo hi) := by
  unfold cutV cutT
  rw [r.length]
  exact (r.drop _).take _
abbrev FO := Env → S → (Option Int → S → Prop) → KX → Prop
structure JO (X : Cx) (cl : CL) (W : WX) (e : Option Expr) (F : FO) : Prop where
  mon : ∀ τ s (Q Q' : Option Int → S → Prop) (E E' : KX), (∀ t s, Q t s → Q' t s) → (∀ e s, E e s → E' e s) → F τ s Q E → F τ s Q' E'
  po : ∃ t, PO X e t ∧ ∀ (Z : Addr → Prop) (σ : L2.St) (τ : Env) (s : S) (H : Hp) (Q : Option Int → Hp → Prop) (P : Option Int → S → Prop) (E : KX), REnv X.K cl Z s H σ τ → Sto X.K cl Z s H → F τ s P E →
    (∀ i s1 H1, P i s1 → Fut s H s1 H1 → REnv X.K cl Z s1 H1 σ τ → Sto X.K cl Z s1 H1 → Q i H1) → (∀ er s1, E er s1 → postW X.K cl Z s H σ W er s1) → t σ H Q
def oNone : FO := fun _ s Q _ => Q none s
def oSome (Fa : FE) : FO := fun τ s Q E => Fa τ s (fun x s1 => match x with | .int i => Q (some i) s1 | _ => False) E
theorem jo_none : JO X cl W none oNone := ⟨fun _ _ _ _ _ _ hq _ h => hq _ _ h, _, po_none, fun Z σ τ s H Q P E re so h hP _ => hP _ _ _ h (Fut.refl _ _) re so⟩
theorem jo_some (ha : JE X cl W e Fa) : JO X cl W (some e) (oSome Fa) := by
  refine ⟨fun τ s Q Q' E E' hq he h => ha.mon _ _ _ _ _ _ (fun x s1 q => ?_) he h, _, po_some ha.pe, fun Z σ τ s H Q P E re so h hP hE => ?_⟩
  · split at q
    · exact hq _ _ q
    · exact q
  · refine go ha.mon re so h (fun tx s1 x H1 p1 f1 re1 r1 so1 => ?_) hE
    split at p1
    · cases rep_i r1
      exact ⟨_, rfl, hP _ _ _ p1 f1 re1 so1⟩
    · exact p1.elim
def slO (s : S) (x : T) (lo hi : Option Int) : Option (Prop × T) :=
  match x with
  | .str z => some (z.length ≤ 1000000, .str (Txt.slice z lo hi))
  | .tup xs => some (True, .tup (cutT xs lo hi))
  | x => match s.lst? x with | some xs => some (True, .lst (cutT xs lo hi)) | none => none
def fSl (Fa : FE) (Fl Fh : FO) : FE := fun τ s Q E => Fa τ s (fun x s1 => Fl τ s1 (fun l s2 => Fh τ s2 (fun h s3 => onO s3 (slO s3 x l h) Q) E) E) E
theorem cut_all (xs : List T) (lo hi : Option Int) (h : HT.sIx xs.length 0 lo = 0 ∧ HT.sIx xs.length xs.length hi = xs.length) : cutT xs lo hi = xs := by
  unfold cutT
  rw [h.1, h.2, List.drop_zero, Nat.sub_zero, List.take_length]
theorem je_slice {lo hi : Option Expr} {Fl Fh : FO} (ha : JE X cl W e Fa) (hl : JO X cl W lo Fl) (hh : JO X cl W hi Fh) : JE X cl W (.Subscript e (.Slice lo hi none p2) pos) (fSl Fa Fl Fh) := by
  obtain ⟨tl, pl, gl⟩ := hl.po
  obtain ⟨th, ph, gh⟩ := hh.po
  refine ⟨fun τ s Q Q' E E' hq he h => ha.mon _ _ _ _ _ _ (fun x s1 q => hl.mon _ _ _ _ _ _ (fun l s2 q => hh.mon _ _ _ _ _ _ (fun u s3 q => q.mon hq) he q) he q) he h, PE.imp (pe_slice (SlR.or sl_list (SlR.or sl_tupA C8.sl_txt)) ha.pe pl ph) ?_⟩
  rintro σ H Q ⟨Z, τ, s, re, so, h⟩
  refine go ha.mon re so h (fun tx s1 x H1 p1 f1 re1 r1 so1 => ?_) fun _ _ q => q
  refine gl Z σ τ s1 H1 _ _ _ re1 so1 p1 (fun l s2 H2 p2 f2 re2 so2 => ?_) fun _ _ q => postW.up f1 q
  refine gh Z σ τ s2 H2 _ _ _ re2 so2 p2 (fun u s3 H3 p3 f3 re3 so3 => ?_) fun _ _ q => postW.up (f1.trans f2) q
  have r3 := (r1.fut f2).fut f3
  unfold onO at p3
  split at p3
  · rename_i c t e1
    have p := post.up (f1.trans (f2.trans f3)) p3.2
    unfold slO at e1
    split at e1
    · cases e1
      cases rep_s r3
      exact .inr (.inr ⟨_, rfl, Nat.le_trans p3.1 size6, p.here (.str _) so3⟩)
    · cases e1
      have r4 := r3
      obtain ⟨a, vs, rfl, hq, rs⟩ := tup_of r3
      refine .inr (.inl ⟨a, vs, rfl, hq, fun z => ?_, fun z => p.newT so3 (rs.cut l u)⟩)
      rw [rs.length] at z
      rw [cut_all _ _ _ z] at p
      exact p.here r4 so3
    · split at e1
      · rename_i e2
        cases e1
        obtain ⟨a, vs, rfl, hq, rs⟩ := lst_of so3 r3 e2
        exact .inl ⟨a, vs, rfl, SqL.of hq, p.newL so3 (rs.cut l u)⟩
      · cases e1
  · exact p3.elim
/-- a method of a list: its value, the list behind it -/
abbrev OL := List T → List T → Option (Prop × T × List T)
structure LM (X : Cx) (cl : CL) (id : String) (o : OL) : Prop where
  ex : ∃ r, MtR X id r ∧ ∀ (Z : Addr → Prop) (s : S) (H : Hp) (a : Addr) (xs zs : List T) (vs ws : List V) (Q : VK) (c : Prop) (t : T), H a = some (.lst vs) → Reps X.K cl Z s H vs xs → s.on a ≠ none → ∀ (ts : List T), Reps X.K cl Z s H ws ts → o xs ts = some (c, t, zs) → c →
    (∀ v us, Rep X.K cl Z s H v t → Reps X.K cl Z s H us zs → Q v (upd H a (.lst us))) → r (.ref a) ws H Q
def onL (s : S) (x : T) (o : OL) (ts : List T) (Q : KT) : Prop := match x with | .cell a => (match s.on a with | some (.lst xs) => (match o xs ts with | some (c, t, zs) => c ∧ Q t (s.put a (.lst zs)) | none => False) | _ => False) | _ => False
theorem onL.mon {s : S} {x : T} {o : OL} {ts : List T} {Q Q' : KT} (i : ∀ t s, Q t s → Q' t s) (h : onL s x o ts Q) : onL s x o ts Q' := by
  unfold onL at h ⊢
  split at h
  · split at h
    · split at h
      · exact ⟨h.1, i _ _ h.2⟩
      · exact h
    · exact h
  · exact h
def fLM (o : OL) (Fo : FE) (A : FA) : FE := fun τ s Q E => Fo τ s (fun x s1 => (s1.lst? x).isSome = true ∧ A τ s1 (fun ts s2 => onL s2 x o ts Q) E) E
theorem onL_go {o : OL} {id : String} {r : V → List V → Hp → VK → Prop} (hr : ∀ (Z : Addr → Prop) (s : S) (H : Hp) (a : Addr) (xs zs : List T) (vs ws : List V) (Q : VK) (c : Prop) (t : T), H a = some (.lst vs) → Reps X.K cl Z s H vs xs → s.on a ≠ none → ∀ (ts : List T), Reps X.K cl Z s H ws ts → o xs ts = some (c, t, zs) → c →
    (∀ v us, Rep X.K cl Z s H v t → Reps X.K cl Z s H us zs → Q v (upd H a (.lst us))) → r (.ref a) ws H Q) {Z : Addr → Prop} {s0 s : S} {H0 H : Hp} {x : V} {tx : T} {ws : List V} {ts : List T} {Q : VK} (f : Fut s0 H0 s H) (px : Rep X.K cl Z s H x tx) (pw : Reps X.K cl Z s H ws ts) (so : Sto X.K cl Z s H)
    (h : onL s tx o ts (post X.K cl Z s0 H0 Q)) : r x ws H Q := by
  unfold onL at h
  split at h
  · rename_i a
    cases px
    split at h
    · rename_i xs ho
      split at h
      · rename_i c t zs e
        obtain ⟨vs, h1, h2⟩ := so.cells _ _ ho
        have hne : s.on a ≠ none := by rw [ho]; exact Option.some_ne_none _
        refine hr Z s H a xs zs vs ws Q c t h1 h2 hne ts pw e h.1 fun v us rv ru => ?_
        have fu : Fut s H (s.put a (.lst zs)) (upd H a (.lst us)) := Fut.cell hne
        exact h.2 _ _ (f.trans fu) (rv.fut fu) (so.cell hne ⟨us, upd_same, ru.fut fu⟩)
      · exact h.elim
    · exact h.elim
  · exact h.elim
theorem tyV_lst {K : PySem.W.Frag} {Z : Addr → Prop} {s : S} {H : Hp} {v : V} {t : T} (so : Sto K cl Z s H) (r : Rep K cl Z s H v t) (h : (s.lst? t).isSome = true) : tyV K "list" v H := by
  obtain ⟨xs, e⟩ := Option.isSome_iff_exists.mp h
  obtain ⟨a, vs, rfl, h1, _⟩ := lst_of so r e
  exact .inl ⟨rfl, vs, SqL.of h1⟩
theorem mon_lm {o : OL} (mo : MonE Fo) (ma : MonA A) : MonE (fLM o Fo A) := fun τ s Q Q' E E' hq he h => mo _ _ _ _ _ _ (fun x s1 q => ⟨q.1, ma _ _ _ _ _ _ (fun ts s2 q => q.mon hq) he q.2⟩) he h
theorem je_lm {op : OL} {id : String} {name : Str} (hm : LM X cl id op) (slot : Slot "list" name id) (hty : typeOf (.builtin id) = pure (.type "method_descriptor")) (ho : JE X cl W o Fo) (ha : JA X cl W (e :: es) A)
    (hbase : attributeBase o name X.env (eval o X.env) = eval o X.env := by rfl)
    (hfew : ((backTo pos (starEach (e :: es) X.env)).all (fun x => !x.1) && (backToKw pos (keywordEach [] X.env)).all (fun x => x.1.isSome)
      && decide ((e :: es).length + ([] : List Keyword).length + (if ([] : List Keyword).isEmpty then 0 else 1) < 30)) = true := by rfl)
    (hline : (apos.endLine == pos.line) = true := by rfl) (hs : starEach (e :: es) X.env = (false, eval e X.env) :: starEach es X.env := by rfl) (hplain : (backTo pos (starEach es X.env)).any (·.1) = false := by rfl) :
    JE X cl W (.Call (.Attribute o name apos) (e :: es) [] pos) (fLM op Fo A) := by
  obtain ⟨r, h1, h2⟩ := hm.ex
  refine ⟨mon_lm ho.mon ha.mon, PE.imp (pe_bm PySem.F.plainAttrs_list slot hty h1 ho.pe ha.pa hbase hfew hline hs hplain) ?_⟩
  rintro σ H Q ⟨Z, τ, s, re, so, h⟩
  refine go ho.mon re so h (fun tx s1 x H1 p1 f1 re1 r1 so1 => ⟨tyV_lst so1 r1 p1.1, ?_⟩) fun _ _ q => q
  exact goA ha.mon re1 so1 p1.2 (fun ts s2 vs H2 p2 f2 re2 r2 so2 => onL_go (id := id) h2 (f1.trans f2) (r1.fut f2) r2 so2 p2) fun _ _ q => postW.up f1 q
def appO : OL
  | xs, [y] => some (xs.length < 1000000, .non, xs ++ [y])
  | _, _ => none
theorem lm_append : LM X cl "list.append" appO := by
  refine ⟨_, mt_append, fun Z s H a xs zs vs ws Q c t h r hne ts rt e hc q => ?_⟩
  unfold appO at e
  split at e
  · cases e
    obtain ⟨w, rfl, rw'⟩ := reps1 rt
    exact ⟨a, vs, w, rfl, rfl, h, by rw [r.length]; exact Nat.lt_of_lt_of_le hc size6, q _ _ .non (Reps.append r (.cons rw' .nil))⟩
  · cases e
end
end Mr
namespace Mr
open PySem PySem.Spec PyProof.Rows L2 Tw
section
variable {X : Cx} {cl : CL} {W : WX} {pos : Pos}
def fDct0 : FE := fun _ s Q _ => Q (.dct []) s
theorem je_dct0 : JE X cl W (.Dict [] [] pos) fDct0 := by
  refine ⟨fun _ _ _ _ _ _ hq _ h => hq _ _ h, PE.imp pe_dnewK ?_⟩
  rintro σ H Q ⟨Z, τ, s, re, so, h⟩
  intro a ha
  exact h _ _ (Fut.new ha) (.dct (.inl upd_same) (so.nomut ha) .nil) (so.new ha)
end
def drawF : FD := fun ts s Q _ => match ts with
  | [.pen, .int many] => (1 ≤ many ∧ many ≤ 10000000000000000000000000000000000000000 ∧ s.pen ≤ 1000000) ∧ ∀ k : Int, 0 ≤ k → k < many → Q (.int k) (s.pn (s.pen + 1))
  | _ => False
def spDrawX : Sp := fun vs H Q _ => ∃ (p L : Addr) (a r many : Int) (ns : List Int), vs = [.ref p, .int many] ∧ H p = some (.lst [.ref L, .int a, .int r]) ∧ H L = some (.lst (ns.map V.int)) ∧ 0 ≤ a ∧ a ≤ 1000000 ∧ ns.length ≤ 63 ∧ 1 ≤ many ∧ many ≤ 10000000000000000000000000000000000000000 ∧
  ∀ (k : Int) (H' : Hp) (a' r' : Int), 0 ≤ k → k < many → (∀ b o, b ≠ p → H b = some o → H' b = some o) → H' p = some (.lst [.ref L, .int a', .int r']) → 0 ≤ a' → a' ≤ a + 1 → Q (.int k) H'
theorem rep_pen {K : PySem.W.Frag} {cl : CL} {Z : Addr → Prop} {s : S} {H : Hp} {v : V} (r : Rep K cl Z s H v .pen) : ∃ p, v = .ref p ∧ s.pa = some p := by
  cases r with
  | pen h => exact ⟨_, rfl, h⟩
theorem draw_sp {K : PySem.W.Frag} {cl : CL} (hd : cl.d = false) : ∀ vs H Q E, spM K cl drawF vs H Q E → spDrawX vs H Q E := by
  rintro vs H Q E ⟨Z, ts, s, r, so, Q0, E0, h1, h2, h3⟩
  unfold drawF at h1
  split at h1
  · rename_i many
    obtain ⟨v, w, rfl, rv, rw'⟩ := reps2 r
    cases rep_i rw'
    obtain ⟨p, rfl, hp⟩ := rep_pen rv
    obtain ⟨⟨m1, m2, m3⟩, k⟩ := h1
    obtain ⟨L, a, q, ns, e1, e2, fz, a0, a1, hl, hcs⟩ := so.pen p hp
    rw [hd] at e1
    have nL : L ≠ p := fun e => fz.1 (.inl (by rw [e]; exact hp))
    refine ⟨p, L, a, q, many, ns, rfl, e1, e2, a0, by omega, hl, m1, m2, fun k' H' a' r' k0 k1 keep hp' ha0 ha1 => ?_⟩
    exact h2 _ _ (k k' k0 k1) _ _ (Fut.pen hp keep) (.int _) (so.pnn hp keep ⟨L, a', r', ns, by rw [hd]; exact hp', e2, nL, fz, ha0, by omega, hl, hcs⟩)
  · exact h1.elim
theorem drawM {P : Program} {w : World} {K : PySem.W.Frag} {mg : Str → Option Value} {base : Heap} {cl : CL} {k : Nat} {x : Str} (c : Cal P w K mg base k x spDrawX []) (hd : cl.d = false) : CalM P w K mg base cl k x drawF [] := by
  obtain ⟨f, fd, ps, ds, F, a, b, d, e⟩ := c.ex
  exact ⟨[], ⟨f, fd, ps, ds, F.imp (draw_sp hd), a, b, d, e⟩, fun _ _ _ => .nil⟩
theorem use_draw {s : S} {many : Int} {Q : KT} {E : KX} (h1 : 1 ≤ many) (h2 : many ≤ 10000000000000000000000000000000000000000) (h3 : s.pen ≤ 1000000) (h : ∀ k : Int, 0 ≤ k → k < many → Q (.int k) (s.pn (s.pen + 1))) : cM drawF [.pen, .int many] s Q E := cM.of ⟨⟨h1, h2, h3⟩, h⟩
/-- what the pen's def promises -/
def spPenX (K : PySem.W.Frag) : Sp := fun vs H Q _ => ∃ (a : Addr) (ns : List Int), vs = [.ref a] ∧ SqL K H a (ns.map V.int) ∧ ns.length ≤ 63 ∧
  ∀ (p L : Addr) (H' : Hp), Same H H' → H p = none → H L = none → p ≠ L → H' p = some (.lst [.ref L, .int 0, .int 0]) → H' L = some (.lst (ns.map V.int)) → Q (.ref p) H'
def spLaw (cl : CL) (K : PySem.W.Frag) : Sp := fun vs H Q _ => ∃ (a : Addr) (ns : List Int), vs = [.ref a] ∧ SqL K H a (ns.map V.int) ∧ ns.length ≤ 63 ∧ LamX.Tabs cl.t H ∧ ∀ H', Q (.bl true) H'
/-- behind the law's first statement -/
def s0 (p : Addr) : S := ⟨some p, 0, fun _ => none⟩
def lawEnds : DS := ⟨fun _ _ => False, fun t _ => t = .bl true, fun _ _ => False, fun _ _ => False, fun _ _ _ => False⟩
theorem law_go {K : PySem.W.Frag} {cl : CL} {W : WX} {B : FS} {H : Hp} {Q : VK} {N : List Str} (hd : cl.d = false) (hN : 2 ≤ N.length) (mB : MonS B) (hB : ∀ a p : Addr, B (some (.cell a) :: some .pen :: List.replicate (N.length - 2) none) (s0 p) lawEnds) {a : Addr} {ns : List Int} (hl : ns.length ≤ 63) (hT : LamX.Tabs cl.t H) (q : ∀ H', Q (.bl true) H') :
    ∀ (p L : Addr) (H' : Hp), Same H H' → H p = none → H L = none → p ≠ L → H' p = some (.lst [.ref L, .int 0, .int 0]) → H' L = some (.lst (ns.map V.int)) →
      tTS K cl W B { nx := fun _ H' => Q .non H', rt := Q } (List.set (L2.start N [.ref a]) 1 (some (.ref p))) H' := by
  intro p L H' sm _ _ ne hp hL
  have nL : ¬ (s0 p).mut L := by
    rintro (h | h)
    · injection h with h
      exact ne h
    · exact h rfl
  have so : Sto K cl (fun _ => False) (s0 p) H' := by
    refine ⟨fun q hq => ?_, fun b c h => ?_, fun q _ => rfl, fun b h => h.elim, hT.ext sm⟩
    · have e : p = q := by injection hq
      subst e
      exact ⟨L, 0, 0, ns, by rw [hd]; exact hp, hL, ⟨nL, fun h => h⟩, Int.le_refl 0, Int.le_refl 0, hl, fun h => by rw [hd] at h; cases h⟩
    · cases h
  refine ⟨fun _ => False, some (.cell a) :: some .pen :: List.replicate (N.length - 2) none, s0 p, ?_, so, mB _ _ _ _ ?_ (hB a p)⟩
  · have e : List.set (L2.start N [V.ref a]) 1 (some (V.ref p)) = some (V.ref a) :: some (V.ref p) :: List.replicate (N.length - 2) none := by
      unfold L2.start
      obtain ⟨k, hk⟩ : ∃ k, N.length = k + 2 := ⟨N.length - 2, by omega⟩
      rw [hk]
      show List.set (some (V.ref a) :: List.replicate (k + 2 - 1) none) 1 (some (V.ref p)) = _
      rw [show k + 2 - 1 = k + 1 from rfl, List.replicate_succ]
      rfl
    rw [e]
    exact .c1 (.cell a) (.c1 (.pen rfl) (RepE.nones _))
  · refine ⟨fun _ _ z => False.elim z, fun t s' e v H2 f r so => ?_, fun _ _ z => False.elim z, fun _ _ z => False.elim z, fun _ _ _ z => False.elim z⟩
    have e' : t = .bl true := e
    subst e'
    cases r
    exact q H2
section
variable {K : PySem.W.Frag}
def clsB (K : PySem.W.Frag) (C : Addr) : Bool := PySem.W.plainGet K C Str.empty && (PySem.W.hasDictIn K C && (PySem.W.plainOver K C && decide (PySem.W.findIn K (.ref C) "__setattr__" = some (some (.builtin "object.__setattr__")))))
theorem clsB_ok {C : Addr} (h : clsB K C = true) : Cls K C := by
  obtain ⟨h1, h⟩ := Bool.and_eq_true_iff.mp h
  obtain ⟨h2, h⟩ := Bool.and_eq_true_iff.mp h
  obtain ⟨h3, h4⟩ := Bool.and_eq_true_iff.mp h
  exact ⟨h1, h2, h3, of_decide_eq_true h4⟩
def insB (K : PySem.W.Frag) (C : Addr) : Bool := clsB K C && (decide (PySem.W.findIn K (.ref C) "__class__" = some (some (.builtin "object.__class__"))) && (decide (PySem.W.specialIn K (.builtin "object.__class__") "__get__" = some (some (.builtin "getset_descriptor.__get__"))) && (decide (PySem.W.takesIn K (.builtin "object.__class__") = some true) &&
  (decide (PySem.W.mroIn K C (.type "object") = some true) && decide (PySem.W.kitOne K (.ref C) (.ref C) = some true)))))
theorem insB_ok {C : Addr} (h : insB K C = true) : C8.InsC K C := by
  obtain ⟨h1, h⟩ := Bool.and_eq_true_iff.mp h
  obtain ⟨h2, h⟩ := Bool.and_eq_true_iff.mp h
  obtain ⟨h3, h⟩ := Bool.and_eq_true_iff.mp h
  obtain ⟨h4, h⟩ := Bool.and_eq_true_iff.mp h
  obtain ⟨h5, h6⟩ := Bool.and_eq_true_iff.mp h
  exact ⟨clsB_ok h1, of_decide_eq_true h2, of_decide_eq_true h3, of_decide_eq_true h4, of_decide_eq_true h5, of_decide_eq_true h6⟩
def excB (K : PySem.W.Frag) (C : Addr) : Bool := decide (PySem.W.findIn K (.ref C) "__getattribute__" = some (some (.builtin "BaseException.__getattribute__"))) && (decide (PySem.W.findIn K (.ref C) "__getattr__" = some none) && (decide (PySem.W.subIn K (.ref C) (.type "BaseException") = some true) && (PySem.W.hasDictIn K C &&
  (decide (PySem.W.findIn K (.ref C) "__class__" = some (some (.builtin "object.__class__"))) && (decide (PySem.W.specialIn K (.builtin "object.__class__") "__get__" = some (some (.builtin "getset_descriptor.__get__"))) && (decide (PySem.W.takesIn K (.builtin "object.__class__") = some true) && decide (PySem.W.mroIn K C (.type "object") = some true)))))))
theorem excB_ok {C : Addr} (h : excB K C = true) : ExcC K C := by
  obtain ⟨h1, h⟩ := Bool.and_eq_true_iff.mp h
  obtain ⟨h2, h⟩ := Bool.and_eq_true_iff.mp h
  obtain ⟨h3, h⟩ := Bool.and_eq_true_iff.mp h
  obtain ⟨h4, h⟩ := Bool.and_eq_true_iff.mp h
  obtain ⟨h5, h⟩ := Bool.and_eq_true_iff.mp h
  obtain ⟨h6, h⟩ := Bool.and_eq_true_iff.mp h
  obtain ⟨h7, h8⟩ := Bool.and_eq_true_iff.mp h
  exact ⟨of_decide_eq_true h1, of_decide_eq_true h2, of_decide_eq_true h3, h4, of_decide_eq_true h5, of_decide_eq_true h6, of_decide_eq_true h7, of_decide_eq_true h8⟩
theorem excB_xf {C : Addr} (h : excB K C = true) : XfC K C := by
  have e := excB_ok h
  exact ⟨e.hg, e.hk, e.hs, e.hd⟩
end
/-- a table of classes: their numbers in order -/
def clL (l : List Addr) (n : Nat) : Addr := l.getD n 0
theorem one_met {P : Program} {w : World} {K : PySem.W.Frag} {mg : Str → Option Value} {base : Heap} {cl : CL} {k c : Nat} {m : Str} {F : FD} {dts : List T} (h : MetM P w K mg base cl k c m F dts) : ∀ c' ∈ [c], MetM P w K mg base cl k c' m F dts := fun c' hc => by
  rw [List.mem_singleton.mp hc]
  exact h
theorem all_nil {P : Nat → Prop} : ∀ c ∈ ([] : List Nat), P c := fun _ h => nomatch h
theorem all_cons {P : Nat → Prop} {a : Nat} {l : List Nat} (h : P a) (r : ∀ c ∈ l, P c) : ∀ c ∈ a :: l, P c := fun c hc => by
  rcases List.mem_cons.mp hc with e | e
  · rw [e]
    exact h
  · exact r c e
/-- a table of answers to isinstance, by the class that is asked for -/
abbrev KkT := List (Ty × List (Ty × Bool))
def kkIn (l : List (Ty × Bool)) (a : Ty) : Option Bool := match l with
  | [] => none
  | (c, r) :: rest => if a = c then some r else kkIn rest a
def kkOf (tab : KkT) (a b : Ty) : Option Bool := match tab with
  | [] => none
  | (d, l) :: rest => if b = d then kkIn l a else kkOf rest a b
def kitL (K : PySem.W.Frag) (cl : CL) (d : Ty) : List (Ty × Bool) → Bool
  | [] => true
  | (c, r) :: rest => decide (PySem.W.kitOne K (c.u cl) (d.u cl) = some r) && kitL K cl d rest
def kitB' (K : PySem.W.Frag) (cl : CL) : KkT → Bool
  | [] => true
  | (d, l) :: rest => kitL K cl d l && kitB' K cl rest
theorem kit_in {K : PySem.W.Frag} {cl : CL} {d : Ty} : ∀ {l : List (Ty × Bool)}, kitL K cl d l = true → ∀ a r, kkIn l a = some r → PySem.W.kitOne K (a.u cl) (d.u cl) = some r
  | [], _, a, r, e => by cases e
  | (c, q) :: rest, h, a, r, e => by
    obtain ⟨h1, h2⟩ := Bool.and_eq_true_iff.mp h
    unfold kkIn at e
    split at e
    · rename_i hab
      cases e
      rw [hab]
      exact of_decide_eq_true h1
    · exact kit_in h2 a r e
theorem kit_all {K : PySem.W.Frag} {cl : CL} : ∀ {tab : KkT}, kitB' K cl tab = true → ∀ a b r, kkOf tab a b = some r → PySem.W.kitOne K (a.u cl) (b.u cl) = some r
  | [], _, a, b, r, e => by cases e
  | (d, l) :: rest, h, a, b, r, e => by
    obtain ⟨h1, h2⟩ := Bool.and_eq_true_iff.mp h
    unfold kkOf at e
    split at e
    · rename_i hab
      rw [hab]
      exact kit_in h1 a r e
    · exact kit_all h2 a b r e
def exmB (K : PySem.W.Frag) (cl : CL) (h : Nat) (l : List Nat) : Bool := l.all fun c => decide (PySem.W.exmOne K (.ref (cl c)) (.ref (cl h)) = some true) && decide (bx c = none)
theorem exm_all {K : PySem.W.Frag} {cl : CL} {h : Nat} {l : List Nat} (e : exmB K cl h l = true) : ∀ c, c ∈ l → PySem.W.exmOne K (.ref (cl c)) (.ref (cl h)) = some true ∧ bx c = none := fun c hc => by
  have q := List.all_eq_true.mp e c hc
  rw [Bool.and_eq_true] at q
  exact ⟨of_decide_eq_true q.1, of_decide_eq_true q.2⟩
def nfB (K : PySem.W.Frag) (cl : CL) (c : Nat) (l : List Ty) : Bool := l.all fun t => PySem.W.notFirst K (cl c) (t.u cl)
theorem nf_all {K : PySem.W.Frag} {cl : CL} {c : Nat} {l : List Ty} (e : nfB K cl c l = true) : ∀ t ∈ l, PySem.W.notFirst K (cl c) (t.u cl) = true := fun t ht => List.all_eq_true.mp e t ht
end Mr
namespace Mr
open PySem PySem.Spec PyProof.Rows L2 Tw
section
variable {P : Program} {w : World} {K : PySem.W.Frag} {mg : Str → Option Value} {base : Heap} {cl : CL} {k c n : Nat} {x m qual : Str} {st : Stmt} {ps N ks : List Str} {dvs : List V} {dts : List T} {D : FD} {B : FS} {f : Addr} {fd : FuncData} {gV : List V → List V → List V} {gT : List T → List T → List T}
/-- the body's walk -/
abbrev Walk (P : Program) (w : World) (K : PySem.W.Frag) (mg : Str → Option Value) (base : Heap) (cl : CL) (k : Nat) (N : List Str) (qual : Str) (st : Stmt) (B : FS) : Prop :=
  ∀ (f : Addr) (cdv : Value) (A : Around) (out : List PySem.Env) (s : Shared) (H : Hp) (E : XK), Rm k (A.deeper (envOfC qual (C8.fnScope st) s.heap.objs.size f cdv)) →
      JSs (cxOf (L2.CX P w) P w K mg base N qual (C8.fnScope st) f cdv A out s H E) cl (fun cls d _ H' => E cls d H') (C8.fnBody st) B
theorem fnM (S : FnScope N ps (C8.fnScope st)) (len : ∀ ts s Q E, D ts s Q E → ts.length = ps.length) (hB : Walk P w K mg base cl k N qual st B)
    (hF : ∀ ts s Q E, D ts s Q E → B (startT N ts) s (endsM Q E)) : ∀ {x : Str} {f : Addr} {fd : FuncData}, C8.Fun K x qual st f fd → FnG P w K mg base (k + 1) f fd ps (spM K cl D) :=
  fun F => fnGX F S (spM.len len) fun cdv A out s H vs Q E hr h => body_go (hB _ cdv A out s H E hr) hF h
theorem calOf (d : DefAt K mg x st ps dvs) (hd : ∀ Z s H, Reps K cl Z s H dvs dts) (fn : ∀ {y : Str} {f : Addr} {fd : FuncData}, C8.Fun K y x st f fd → FnG P w K mg base k f fd ps (spM K cl D)) : CalM P w K mg base cl k x D dts := by
  obtain ⟨f, fd, ds, F, g, kp, b, v⟩ := d.ex
  exact ⟨dvs, ⟨f, fd, ps, ds, fn F, g, kp, b, v⟩, hd⟩
theorem metOf (d : MetAt K (cl c) m qual st ps dvs) (hd : ∀ Z s H, Reps K cl Z s H dvs dts) (fn : ∀ {y : Str} {f : Addr} {fd : FuncData}, C8.Fun K y qual st f fd → FnG P w K mg base k f fd ps (spM K cl D)) : MetM P w K mg base cl k c m D dts := by
  obtain ⟨f, fd, ds, C, me, F, b, v⟩ := d.ex
  exact ⟨dvs, ⟨f, fd, ps, ds, C, me, fn F, b, v⟩, hd⟩
theorem makOf (d : MakAt K mg x (cl c) qual st ps dvs) (hd : ∀ Z s H, Reps K cl Z s H dvs dts) (fn : ∀ {y : Str} {f : Addr} {fd : FuncData}, C8.Fun K y qual st f fd → FnG P w K mg base k f fd ps (spM K cl D)) : MakM P w K mg base cl k x c D dts := by
  obtain ⟨f, fd, ds, M, F, g, b, v⟩ := d.ex
  exact ⟨dvs, ⟨f, fd, ps, ds, M, fn F, g, b, v⟩, hd⟩
structure MetAtK (K : PySem.W.Frag) (C : Addr) (m qual : Str) (st : Stmt) (ps : List Str) (n : Nat) (ks : List Str) (gV : List V → List V → List V) : Prop where
  ex : ∃ (f : Addr) (fd : FuncData) (g : List Value → List Value → List Value), Cls K C ∧ Meth K C m f ∧ C8.Fun K m qual st f fd ∧ KBn K fd ps n ks g gV
def KRel (K : PySem.W.Frag) (cl : CL) (gV : List V → List V → List V) (gT : List T → List T → List T) : Prop := ∀ {Z : Addr → Prop} {s : S} {H : Hp} {vs : List V} {ts : List T} {zs : List V} {us : List T}, Reps K cl Z s H vs ts → Reps K cl Z s H zs us → Reps K cl Z s H (gV vs zs) (gT ts us)
theorem Reps.getD {Z : Addr → Prop} {s : S} {H : Hp} : ∀ {vs : List V} {ts : List T} (i : Nat), Reps K cl Z s H vs ts → Rep K cl Z s H (vs.getD i .non) (ts.getD i .non)
  | _, _, _, .nil => by simp; exact .non
  | _, _, 0, .cons h _ => h
  | _, _, i + 1, .cons _ r => r.getD i
structure MetK (P : Program) (w : World) (K : PySem.W.Frag) (mg : Str → Option Value) (base : Heap) (cl : CL) (k : Nat) (c : Nat) (m : Str) (D : FD) (n : Nat) (ks : List Str) (gT : List T → List T → List T) : Prop where
  ex : ∃ (f : Addr) (fd : FuncData) (ps : List Str) (g : List Value → List Value → List Value) (gV : List V → List V → List V), KRel K cl gV gT ∧ Cls K (cl c) ∧ Meth K (cl c) m f ∧ FnG P w K mg base k f fd ps (spM K cl D) ∧ KBn K fd ps n ks g gV
theorem metKOf (d : MetAtK K (cl c) m qual st ps n ks gV) (hd : KRel K cl gV gT) (fn : ∀ {y : Str} {f : Addr} {fd : FuncData}, C8.Fun K y qual st f fd → FnG P w K mg base k f fd ps (spM K cl D)) : MetK P w K mg base cl k c m D n ks gT := by
  obtain ⟨f, fd, g, C, a, F, b⟩ := d.ex
  exact ⟨f, fd, ps, g, gV, hd, C, a, fn F, b⟩
end
section
variable {X : Cx} {cl : CL} {W : WX} {e a b c o : Expr} {es : List Expr} {F Fa Fb Fc Fo : FE} {A Ak : FA} {pos p apos kpos : Pos} {x m : Str} {k j n cc : Nat} {D : FD} {ks : List Str} {kws : List Keyword} {nm : Option Str} {gT : List T → List T → List T} {f : Addr} {fd : FuncData} {ps : List Str} {sp : Sp} {g : List Value → List Value → List Value} {gV : List V → List V → List V} {E : XK}
structure JK (X : Cx) (cl : CL) (W : WX) (kws : List Keyword) (F : FA) : Prop where
  mon : MonA F
  pk : PK X kws (tTA X.K cl W F)
theorem PK.imp {t t' : TA} (h : PK X kws t) (i : ∀ σ H Q, t' σ H Q → t σ H Q) : PK X kws t' := ⟨fun pos pins s σ H Q I z => h.run pos pins s σ H Q I (i σ H Q z)⟩
theorem jk_nil : JK X cl W [] fNil := by
  refine ⟨fun τ s Q Q' E E' hq he h => hq _ _ h, PK.imp pk_nil ?_⟩
  rintro σ H Q ⟨Z, τ, s, re, so, h⟩
  exact h [] H (Fut.refl _ _) .nil so
theorem jk_cons (ha : JE X cl W e Fa) (hr : JK X cl W kws A) : JK X cl W (⟨nm, e, kpos⟩ :: kws) (fCons Fa A) := by
  refine ⟨fun τ s Q Q' E E' hq he h => ha.mon _ _ _ _ _ _ (fun x s1 h1 => hr.mon _ _ _ _ _ _ (fun xs s2 h2 => hq _ _ h2) he h1) he h, PK.imp (pk_cons ha.pe hr.pk) ?_⟩
  rintro σ H Q ⟨Z, τ, s, re, so, h⟩
  refine go ha.mon re so h (fun tx s1 x H1 p1 f1 re1 r1 so1 => ?_) fun _ _ q => q
  exact goA hr.mon re1 so1 p1 (fun ts s2 vs H2 p2 f2 re2 r2 so2 => p2 _ _ (f1.trans f2) (.cons (r1.fut f2) r2) so2) fun _ _ q => postW.up f1 q
theorem goKw {pins : List (Addr × Obj)} {σ : L2.St} {H : Hp} {s : Shared} {Q : VK} {us ws : List Value} {vs zs : List V} (F : FnG X.prog X.w X.K X.mg X.base k f fd ps sp) {A : Around} (hr : Rm k A) (fr : A.frames = X.A.frames) (hb : KBn X.K fd ps n ks g gV) (hx : PassAt X pins σ E)
    (I : Inv X pins σ H s) (r : Vals vs us) (rz : Vals zs ws) (l1 : vs.length = n) (l2 : zs.length = ks.length) (h : sp (gV vs zs) H Q E) : wpAny (model X.prog X.w) A (call (.ref f) us (ks.zip ws)) (EP X pins σ Q) X.xe s := by
  have ev : Env0 X.prog X.w X.K X.mg X.base A X.stack s H := { I.env0 with frames := fr.trans I.env0.frames }
  refine wpAny_call (codeAny_mono (F.run A X.stack s H ⟨us, ks.zip ws⟩ (g us ws) (gV vs zs) Q E hr ev (hb.to s us ws I.kIn (r.length.symm.trans l1) (rz.length.symm.trans l2)) (hb.rel r rz) h) ?_)
  intro res s' z
  match res, z with
  | .error e, z => exact hx H s e s' I z
  | .ok (.ret u), z => exact I.after z
  | .ok .next, z => exact False.elim z
  | .ok .brk, z => exact False.elim z
  | .ok .cont, z => exact False.elim z
/-- o.m(k = v, ..) -/
def fMtK (cc n mm : Nat) (m : Str) (D : FD) (gT : List T → List T → List T) (Fo : FE) (A Ak : FA) : FE := fun τ s Q E => Fo τ s (fun x s1 => match s1.obj? x with | some (c, fs) => (c = cc ∧ fs.lookup m = none) ∧ A τ s1 (fun ts s2 => Ak τ s2 (fun us s3 => (ts.length + 1 = n ∧ us.length = mm) ∧ cM D (gT (x :: ts) us) s3 Q E) E) E | none => False) E
theorem je_mtK0 {pl : Sem Bool} (tk : Takes X W) (d : MetK X.prog X.w X.K X.mg X.base cl k cc m D n ks gT) (hr : Rm j X.A) (hk : k ≤ j) (ho : JE X cl W o Fo) (hkw : JK X cl W kws Ak)
    (hall : (backToKw pos (keywordEach kws X.env)).all (·.1.isSome) = true := by rfl) (hks : (backToKw pos (keywordEach kws X.env)).filterMap (·.1) = ks := by rfl)
    (hpl : ((backTo pos (starEach [] X.env)).any (·.1) || (backToKw pos (keywordEach kws X.env)).any (·.1.isNone)) = false := by rfl)
    (ht : eval (.Call (.Attribute o m apos) [] kws pos) X.env = (do
      let ov ← eval o X.env
      standAt apos.atName
      let (g, first) ← holding [ov] (getMethod ov m pl)
      callWith pos g first (backTo pos (starEach [] X.env)) (backToKw pos (keywordEach kws X.env))) := by rfl) : JE X cl W (.Call (.Attribute o m apos) [] kws pos) (fMtK cc n ks.length m D gT Fo fNil Ak) := by
  obtain ⟨f, fd, ps, g, gV, rel, hcl, hm, F, b⟩ := d.ex
  refine ⟨fun τ s Q Q' E E' hq he h => ho.mon _ _ _ _ _ _ (fun x s1 h1 => ?_) he h, ⟨fun pins sh σ H Q I h => ?_⟩⟩
  · split at h1
    · exact ⟨h1.1, hkw.mon _ _ _ _ _ _ (fun us s2 h2 => ⟨h2.1, h2.2.mon hq he⟩) he h1.2⟩
    · exact h1
  obtain ⟨Z, τ, s, re, so, h⟩ := h
  have h' : tT X.K cl W Fo σ H fun x H1 => ∃ dx fs a, x = .ref a ∧ H1 a = some (.ins (cl cc) dx fs) ∧ fs.lookup m = none ∧ tTA X.K cl W Ak σ H1 fun zs H2 => 1 = n ∧ zs.length = ks.length ∧ spM X.K cl D (gV [.ref a] zs) H2 Q (fun cls d H' => W cls d σ H') := by
    refine go ho.mon re so h (fun tx s1 x H1 p1 f1 re1 r1 so1 => ?_) fun _ _ q => q
    split at p1
    · rename_i c fs e1
      obtain ⟨⟨rfl, hl⟩, p1⟩ := p1
      obtain ⟨a, dx, fvs, rfl, h1, rf⟩ := obj_of so1 r1 e1
      refine ⟨dx, fvs, a, rfl, h1, rf.lookup0 hl, goA hkw.mon re1 so1 p1 (fun us s2 zs H2 p2 f2 re2 r2 so2 => ⟨p2.1.1, by rw [r2.length]; exact p2.1.2, ?_⟩) fun _ _ q => postW.up f1 q⟩
      exact ⟨Z, _, s2, rel (.cons (r1.fut f2) .nil) r2, so2, p2.2.mon (fun _ _ q => post.up (f1.trans f2) q) fun _ _ q => postX.up (f1.trans f2) q⟩
    · exact p1.elim
  refine PySem.W.methodCall_KW (pl := pl) (thn (ho.pe.run pins sh σ H _ I h') ?_) ht
  rintro u s1 ⟨x, H1, I1, rx, dx, fs, a, rfl, ea, l, q⟩
  cases rx
  refine getmeth_ok I1 ea hcl hm l ?_
  refine PySem.W.callWith_KW0 (first := [.ref a]) (h₀ := X.base) I.ok.mod.kin hm.kp hall (thn (hkw.pk.run pos pins s1 σ H1 _ I1 q) ?_) hpl
  rintro ws s2 ⟨zs, H2, I2, rz, hn, hz, q2⟩
  rw [hks]
  exact ⟨I2.kIn, goKw (us := [.ref a]) (vs := [.ref a]) F (hr.mono hk) rfl b (pass_tk tk) I2 (Paired.cons rfl .nil) rz hn hz q2⟩
/-- C(k = v, ..) -/
def fMkK (fz : Bool) (n mm cc : Nat) (D : FD) (gT : List T → List T → List T) (A Ak : FA) : FE := fun τ s Q E => A τ s (fun ts s1 => Ak τ s1 (fun us s2 => (ts.length + 1 = n ∧ us.length = mm) ∧ ∀ x, s2.on x = none → cM D (gT (.cell x :: ts) us) (s2.put x (.obj cc [])) (doneM fz x Q) (fun er s3 => E er (s3.del x))) E) E
end
theorem _root_.C8.Fun.kbn {K : PySem.W.Frag} {x qual : Str} {st : Stmt} {f : Addr} {fd : FuncData} {n : Nat} {ps ks : List Str} {gV : List V → List V → List V} (g : List Value → List Value → List Value) (F : C8.Fun K x qual st f fd) (df : fd.defaults = .none)
    (h : ∀ (kV doc pm : Value) (an : Option Addr) (cdv ct : Value) (us ws : List Value), us.length = n → ws.length = ks.length → bindArgs (PySem.W.fnOf x qual (C8.fnArgs st) (C8.fnBody st) (C8.fnScope st) .none kV doc pm an cdv ct) ⟨us, ks.zip ws⟩ = pure (ps.zip (g us ws)))
    (rel : ∀ {vs : List V} {us : List Value} {zs : List V} {ws : List Value}, Vals vs us → Vals zs ws → Vals (gV vs zs) (g us ws)) : KBn K fd ps n ks g gV := by
  obtain ⟨oc, od, dV, kV, doc, pm, an, cdv, ct, osl, rfl, lk, hcd⟩ := F.ex
  have e : dV = .none := df
  subst e
  exact ⟨fun s us ws _ l1 l2 => BindsTo.of_eq (h kV doc pm an cdv ct us ws l1 l2), rel⟩
theorem valsD {vs : List V} {us : List Value} : ∀ (i : Nat), Vals vs us → RelV (vs.getD i .non) (us.getD i .none) := by
  intro i r
  induction r generalizing i with
  | nil => simp; rfl
  | cons h _ ih =>
    cases i with
    | zero => exact h
    | succ i => exact ih i
end Mr
namespace Mr
open PySem PySem.Spec PyProof.Rows L2 Tw
class Bx (α : Type) where
  v : α
def hM (D : FD) (ts : List T) (s : S) [q : Bx KT] [e : Bx KX] : Prop := cM D ts s q.v e.v
theorem hold_cM {D : FD} {ts : List T} {s : S} {Q : KT} {E : KX} : cM D ts s Q E = @hM D ts s ⟨Q⟩ ⟨E⟩ := rfl
theorem hM.of {D : FD} {ts : List T} {s : S} {Q : KT} {E : KX} (h : D ts s Q E) : @hM D ts s ⟨Q⟩ ⟨E⟩ := cM.of h
theorem hM.to {D : FD} {ts : List T} {s : S} {Q : KT} {E : KX} (h : cM D ts s Q E) : @hM D ts s ⟨Q⟩ ⟨E⟩ := h
def hIte (b : Bool) [x : Bx Prop] [y : Bx Prop] : Prop := if b = true then x.v else y.v
theorem hold_ite {b : Bool} {A B : Prop} : (if b = true then A else B) = @hIte b ⟨A⟩ ⟨B⟩ := rfl
theorem hIte_true {A B : Prop} : @hIte true ⟨A⟩ ⟨B⟩ = A := by unfold hIte; exact if_pos rfl
theorem hIte_false {A B : Prop} : @hIte false ⟨A⟩ ⟨B⟩ = B := by unfold hIte; exact if_neg Bool.false_ne_true
theorem hIte.by {b : Bool} {A B : Prop} (h1 : b = true → A) (h2 : b = false → B) : @hIte b ⟨A⟩ ⟨B⟩ := w_bool h1 h2
def hFor (ok : S → Prop) (g : FG) (ts : List T) (τ : Env) (s : S) [B : Bx FS] [D : Bx DS] : Prop := forT ok g B.v ts τ s D.v
theorem hold_for {ok : S → Prop} {g : FG} {B : FS} {ts : List T} {τ : Env} {s : S} {D : DS} : forT ok g B ts τ s D = @hFor ok g ts τ s ⟨B⟩ ⟨D⟩ := rfl
def hLc (ok : S → Prop) (g : FG) (τ : Env) (ts acc : List T) (s : S) [tt : Bx FT] [te : Bx FE] [Q : Bx (List T → S → Prop)] : Prop := lcT ok g tt.v te.v τ ts acc s Q.v
theorem hold_lc {ok : S → Prop} {g : FG} {tt : FT} {te : FE} {τ : Env} {ts acc : List T} {s : S} {Q : List T → S → Prop} : lcT ok g tt te τ ts acc s Q = @hLc ok g τ ts acc s ⟨tt⟩ ⟨te⟩ ⟨Q⟩ := rfl
section
variable {s : S} {Q : Bool → Prop}
theorem onB_bl {b : Bool} : onB s (.bl b) Q = Q b := by simp [onB, truO]
end
section
variable {ok : S → Prop} {g : FG} {B : FS} {tt : FT} {te : FE} {τ : Env} {s : S} {D : DS} {Q : List T → S → Prop} {i : Nat} {ts acc : List T} {G : FT}
/-- [f(x) for x in ts], nothing changes -/
theorem lc_map (f : T → T) (h : ∀ t ∈ ts, ∀ Q : KT, Q (f t) s → te (τ.set i (some t)) s Q noX) (hl : acc.length + ts.length ≤ 1000000) (k : Q (acc ++ ts.map f) s) (ho : ok s) : lcT ok (gN i) fYes te τ ts acc s Q := by
  induction ts generalizing acc with
  | nil => exact ⟨ho, by simpa using k⟩
  | cons t ts ih =>
    rw [List.length_cons] at hl
    refine ⟨ho, by omega, ?_⟩
    show (if true = true then te (τ.set i (some t)) s (fun y s3 => lcT ok (gN i) fYes te τ ts (acc ++ [y]) s3 Q) noX else lcT ok (gN i) fYes te τ ts acc s Q)
    refine w_T (h t List.mem_cons_self _ ?_)
    refine ih (fun t ht => h t (List.mem_cons_of_mem _ ht)) (by simp; omega) ?_
    simpa using k
/-- [f(x) for x in ts if p(x)], nothing changes -/
theorem lc_filter (p : T → Bool) (f : T → T) (hp : ∀ t ∈ ts, ∀ Q : Bool → S → Prop, Q (p t) s → tt (τ.set i (some t)) s Q noX) (h : ∀ t ∈ ts, p t = true → ∀ Q : KT, Q (f t) s → te (τ.set i (some t)) s Q noX)
    (hl : acc.length + ts.length ≤ 1000000) (k : Q (acc ++ (ts.filter p).map f) s) (ho : ok s) : lcT ok (gN i) tt te τ ts acc s Q := by
  induction ts generalizing acc with
  | nil => exact ⟨ho, by simpa using k⟩
  | cons t ts ih =>
    rw [List.length_cons] at hl
    refine ⟨ho, by omega, ?_⟩
    refine hp t List.mem_cons_self _ ?_
    by_cases c : p t = true
    · rw [c]
      refine w_T (h t List.mem_cons_self c _ ?_)
      refine ih (fun t ht => hp t (List.mem_cons_of_mem _ ht)) (fun t ht => h t (List.mem_cons_of_mem _ ht)) (by simp; omega) ?_
      simpa [List.filter_cons, c] using k
    · rw [Bool.not_eq_true] at c
      rw [c]
      refine w_F (ih (fun t ht => hp t (List.mem_cons_of_mem _ ht)) (fun t ht => h t (List.mem_cons_of_mem _ ht)) (by omega) ?_)
      simpa [List.filter_cons, c] using k
/-- for x in all, the turn given for every end (no monotony asked) -/
theorem for_ind (I : List T → List T → Env → S → Prop) {all : List T} (h0 : I [] all τ s) (ho : ∀ pre post τ s, I pre post τ s → ok s)
    (hs : ∀ pre t post τ s (N : Env → S → Prop), all = pre ++ t :: post → I pre (t :: post) τ s → (∀ τ2 s2, I (pre ++ [t]) post τ2 s2 → N τ2 s2) → g t τ s fun τ1 s1 => B τ1 s1 ⟨N, D.rt, D.nx, N, D.xr⟩)
    (hd : ∀ τ s, I all [] τ s → D.nx τ s) : forT ok g B all τ s D := by
  have main : ∀ (post pre : List T) (τ : Env) (s : S), all = pre ++ post → I pre post τ s → forT ok g B post τ s D := by
    intro post
    induction post with
    | nil =>
      intro pre τ s e h
      rw [List.append_nil] at e
      exact ⟨ho _ _ _ _ h, hd _ _ (by rw [e]; exact h)⟩
    | cons t post ih =>
      intro pre τ s e h
      have e2 : all = (pre ++ [t]) ++ post := by rw [e, List.append_assoc]; rfl
      exact ⟨ho _ _ _ _ h, hs pre t post τ s _ e h fun τ2 s2 q => ih _ _ _ e2 q⟩
  exact main all [] τ s rfl h0
/-- a comprehension, the turn given for every end -/
theorem lc_ind (I : List T → List T → List T → S → Prop) {all : List T} (h0 : I [] all acc s) (ho : ∀ pre post a s, I pre post a s → ok s) (hl : acc.length + all.length ≤ 1000000)
    (hs : ∀ pre t post a s (N : List T → S → Prop), all = pre ++ t :: post → I pre (t :: post) a s → (∀ a2 s2, I (pre ++ [t]) post a2 s2 → N a2 s2) → g t τ s fun τ1 s1 => tt τ1 s1 (fun b s2 => if b = true then te τ1 s2 (fun y s3 => N (a ++ [y]) s3) noX else N a s2) noX)
    (hb : ∀ pre post a s, I pre post a s → a.length ≤ acc.length + pre.length) (hd : ∀ a s, I all [] a s → Q a s) : lcT ok g tt te τ all acc s Q := by
  have main : ∀ (post pre a : List T) (s : S), all = pre ++ post → I pre post a s → lcT ok g tt te τ post a s Q := by
    intro post
    induction post with
    | nil =>
      intro pre a s e h
      rw [List.append_nil] at e
      exact ⟨ho _ _ _ _ h, hd _ _ (by rw [e]; exact h)⟩
    | cons t post ih =>
      intro pre a s e h
      have le : all.length = pre.length + (post.length + 1) := by rw [e, List.length_append, List.length_cons]
      have := hb _ _ _ _ h
      have e2 : all = (pre ++ [t]) ++ post := by rw [e, List.append_assoc]; rfl
      exact ⟨ho _ _ _ _ h, by omega, hs pre t post a s (fun a2 s2 => lcT ok g tt te τ post a2 s2 Q) e h fun a2 s2 q => ih _ _ _ e2 q⟩
  exact main all [] acc s rfl h0
theorem rng_get {lo : Int} {n : Nat} {pre post : List T} {t : T} (e : rng lo n = pre ++ t :: post) : t = .int (lo + pre.length) ∧ pre.length < n := by
  have h1 : (rng lo n)[pre.length]? = some t := by
    rw [e, List.getElem?_append_right (Nat.le_refl _), Nat.sub_self]
    rfl
  unfold rng at h1
  rw [List.getElem?_map] at h1
  obtain ⟨c, e1, e2⟩ := Option.map_eq_some_iff.mp h1
  have hlt : pre.length < n := by
    have := (List.getElem?_eq_some_iff.mp e1).1
    rw [List.length_range] at this
    exact this
  rw [List.getElem?_range hlt] at e1
  cases e1
  exact ⟨e2.symm, hlt⟩
theorem rng_len (lo : Int) (n : Nat) : (rng lo n).length = n := by unfold rng; rw [List.length_map, List.length_range]
end
theorem use_drawH {s : S} {many : Int} {Q : KT} {E : KX} (h1 : 1 ≤ many) (h2 : many ≤ 10000000000000000000000000000000000000000) (h3 : s.pen ≤ 1000000) (h : ∀ k : Int, 0 ≤ k → k < many → Q (.int k) (s.pn (s.pen + 1))) : @hM drawF [.pen, .int many] s ⟨Q⟩ ⟨E⟩ := use_draw h1 h2 h3 h
end Mr
namespace Mr
open PySem PySem.Spec PyProof.Rows L2 Tw
mutual
/-- data of a tame kind -/
def niceD : PyData → Bool
  | .none | .bool _ => true
  | .int i => decide (i.natAbs < 10 ^ 100)
  | .str z => z.cps.all (· < 0x110000) && decide (z.length ≤ 1000)
  | .list xs | .tuple xs => niceAll xs
  | .dict _ => false
def niceAll : List PyData → Bool
  | [] => true
  | x :: xs => niceD x && niceAll xs
end
mutual
/-- how long it is, shown, at most -/
def wD : PyData → Nat
  | .none | .bool _ => 5
  | .int _ => 101
  | .str z => 10 * z.length + 2
  | .list xs | .tuple xs => wAll xs + 5
  | .dict _ => 0
def wAll : List PyData → Nat
  | [] => 0
  | x :: xs => wD x + 2 + wAll xs
end
theorem text_le {ts : List Str} : ∀ (k : Nat) (acc : Str), (textFrom k acc ts).length ≤ acc.length + piled ts := by
  induction ts with
  | nil => intro k acc; exact Nat.le_add_right _ _
  | cons t r ih =>
    intro k acc
    have h := ih (k + 1) (acc ++ (if k > 0 then ", " else "" : String) ++ t)
    refine Nat.le_trans h ?_
    rw [Str.length_append, Str.length_append]
    have e : (Str.ofString (if k > 0 then ", " else "")).length ≤ 2 := by
      split
      · exact Nat.le_refl 2
      · exact Nat.zero_le 2
    have e2 : piled (t :: r) = t.length + 2 + piled r := by simp [piled]
    omega
theorem listText_le (ts : List Str) : (listText ts).length ≤ piled ts + 2 := by
  unfold listText
  rw [Str.length_append]
  have := text_le (ts := ts) 0 "["
  have e1 : (Str.ofString "[").length = 1 := rfl
  have e2 : (Str.ofString "]").length = 1 := rfl
  omega
theorem tupleText_le (ts : List Str) : (tupleText ts).length ≤ piled ts + 3 := by
  unfold tupleText
  rw [Str.length_append, Str.length_append]
  have e1 : (Str.ofString "(").length = 1 := rfl
  have e2 : (Str.ofString (if (ts.length == 1) = true then ",)" else ")")).length ≤ 2 := by
    split
    · exact Nat.le_refl 2
    · exact Nat.le_succ 1
  cases ts with
  | nil =>
    have e3 : (Str.join ", " []).length = 0 := rfl
    omega
  | cons t r =>
    have := join_length_add (t :: r) (by simp)
    omega
mutual
theorem nice_show : ∀ d : PyData, niceD d = true → d.showable = true ∧ d.canLay0 = true ∧ d.shown.length ≤ wD d
  | .none, _ => ⟨by simp [PyData.showable], by simp [PyData.canLay0], by rw [PyData.shown, wD]; decide⟩
  | .bool b, _ => ⟨by simp [PyData.showable], by simp [PyData.canLay0], by rw [PyData.shown, wD]; cases b <;> decide⟩
  | .int i, h => by
    rw [niceD] at h
    have h := of_decide_eq_true h
    refine ⟨?_, by simp [PyData.canLay0], ?_⟩
    · rw [PyData.showable]
      refine decide_eq_true ?_
      by_cases z : i.natAbs = 0
      · rw [z]; decide
      · exact Nat.lt_trans ((Nat.log2_lt z).mpr (Nat.lt_trans h (show 10 ^ 100 < 2 ^ 333 by decide +kernel))) (by decide)
    · rw [PyData.shown, wD]
      show (Str.ofString (toString i)).length ≤ 101
      rw [PySem.ofString_length]
      exact int_text_length_le10 (k := 100) (by decide) h
  | .str z, h => by
    rw [niceD, Bool.and_eq_true] at h
    refine ⟨by simp [PyData.showable], ?_, ?_⟩
    · rw [PyData.canLay0]
      exact h.1
    · rw [PyData.shown, wD]
      refine PySem.StrLaws.reprText_len z fun c hc => ?_
      have := Array.all_eq_true_iff_forall_mem.mp h.1 c (by simpa using hc)
      have := of_decide_eq_true this
      omega
  | .list xs, h => by
    rw [niceD] at h
    obtain ⟨h1, h2, h3⟩ := nice_all xs h
    refine ⟨by rw [PyData.showable]; exact h1, by rw [PyData.canLay0]; exact h2, ?_⟩
    rw [PyData.shown, wD]
    have := listText_le (PyData.shownAll xs)
    omega
  | .tuple xs, h => by
    rw [niceD] at h
    obtain ⟨h1, h2, h3⟩ := nice_all xs h
    refine ⟨by rw [PyData.showable]; exact h1, by rw [PyData.canLay0]; exact h2, ?_⟩
    rw [PyData.shown, wD]
    have := tupleText_le (PyData.shownAll xs)
    omega
  | .dict _, h => by rw [niceD] at h; cases h
theorem nice_all : ∀ ds : List PyData, niceAll ds = true → PyData.showableAll ds = true ∧ PyData.canLayAll0 ds = true ∧ piled (PyData.shownAll ds) ≤ wAll ds
  | [], _ => ⟨by simp [PyData.showableAll], by simp [PyData.canLayAll0], by rw [PyData.shownAll]; exact Nat.zero_le _⟩
  | d :: ds, h => by
    rw [niceAll, Bool.and_eq_true] at h
    obtain ⟨a1, a2, a3⟩ := nice_show d h.1
    obtain ⟨b1, b2, b3⟩ := nice_all ds h.2
    refine ⟨by rw [PyData.showableAll, a1, b1]; rfl, by rw [PyData.canLayAll0, a2, b2]; rfl, ?_⟩
    rw [PyData.shownAll, wAll]
    have e2 : piled (d.shown :: PyData.shownAll ds) = d.shown.length + 2 + piled (PyData.shownAll ds) := by simp [piled]
    omega
end
/-- for repr -/
theorem rp {d : PyData} (h : niceD d = true) (h1 : d.depth ≤ 60) (h2 : wD d ≤ 1000000) : d.showable = true ∧ d.depth ≤ 60 ∧ d.shown.length ≤ 1000000 := ⟨(nice_show d h).1, h1, Nat.le_trans (nice_show d h).2.2 h2⟩
/-- for == -/
theorem sh {d : PyData} (h : niceD d = true) (h1 : d.depth ≤ 64) : SeqAt.shaped d = true := by
  unfold SeqAt.shaped
  rw [(nice_show d h).2.1, decide_eq_true h1]
  rfl
theorem eqvAll_self {d : List PyData} (h : niceAll d = true) : PyData.eqvAll d d = true := PySem.SeqAt.eqvAll_refl d (nice_all d h).2.1
section
variable {α : Type} {a b c d e : α} {xs : List α}
theorem atI_0 : L2.atI (a :: xs) 0 = some a := by
  unfold L2.atI L2.ixN
  rw [if_pos (Int.le_refl 0), if_pos (by rw [List.length_cons]; omega)]
  rfl
theorem atI_mem {k : Int} (h0 : 0 ≤ k) (h1 : k < xs.length) : ∃ t, L2.atI xs k = some t ∧ t ∈ xs := by
  have hj : k.toNat < xs.length := by omega
  refine ⟨xs[k.toNat], ?_, List.getElem_mem hj⟩
  unfold L2.atI L2.ixN
  rw [if_pos h0, if_pos h1]
  exact List.getElem?_eq_getElem hj
end
/-- the law's body: its first statement, then the rest in the mirror -/
theorem law_body {X : Cx} {cl : CL} {W : WX} {st : Stmt} {rest : List Stmt} {B : FS} {tA : TA} {N : List Str} {a : Addr} {ns : List Int} {H : Hp} {Q : VK} (hd : cl.d = false) (p1 : PS X st (tAsg (tCW (spPenX X.K) [] W tA) (gName 1))) (j : JSs X cl W rest B)
    (hN : 2 ≤ N.length) (hA : ∀ σ H Q', σ[0]? = some (some (.ref a)) → Q' [.ref a] H → tA σ H Q') (hS : SqL X.K H a (ns.map V.int)) (hl : ns.length ≤ 63) (hT : LamX.Tabs cl.t H) (q : ∀ H', Q (.bl true) H')
    (hB : ∀ a p : Addr, B (some (.cell a) :: some .pen :: List.replicate (N.length - 2) none) (s0 p) lawEnds) : ∃ t, PSs X (st :: rest) t ∧ t { nx := fun _ H' => Q .non H', rt := Q } (L2.start N [.ref a]) H :=
  ⟨_, pss_cons p1 j.pss, hA _ _ _ rfl ⟨a, ns, rfl, hS, hl, law_go hd hN j.mon hB hl hT q⟩⟩
/-- the rows of the combinators, made once -/
theorem rows_made : True := by
  have := @Mr.startT.eq_1
  have := @Mr.endsM.eq_1
  have := @Mr.lawEnds.eq_1
  have := @Mr.fSeq.eq_1
  have := @Mr.fSkip.eq_1
  have := @Mr.fRet.eq_1
  have := @Mr.fRetN.eq_1
  have := @Mr.fRetF.eq_1
  have := @Mr.fDrop.eq_1
  have := @Mr.fSet.eq_1
  have := @Mr.fAsg.eq_1
  have := @Mr.fPar.eq_1
  have := @Mr.fFldS.eq_1
  have := @Mr.fIfS.eq_1
  have := @Mr.fRaise.eq_1
  have := @Mr.fTry.eq_1
  have := @Mr.fBrk.eq_1
  have := @Mr.fCnt.eq_1
  have := @Mr.gN.eq_1
  have := @Mr.gT.eq_1
  have := @Mr.gsNil.eq_1
  have := @Mr.gsCons.eq_1
  have := @Mr.fVar.eq_1
  have := @Mr.fC.eq_1
  have := @Mr.f2.eq_1
  have := @Mr.f3.eq_1
  have := @Mr.g2.eq_1
  have := @Mr.kB.eq_1
  have := @Mr.fTest.eq_1
  have := @Mr.fTru.eq_1
  have := @Mr.fAnd.eq_1
  have := @Mr.fOr.eq_1
  have := @Mr.fNot.eq_1
  have := @Mr.fAndV.eq_1
  have := @Mr.fOrV.eq_1
  have := @Mr.fNotV.eq_1
  have := @Mr.fIf.eq_1
  have := @Mr.fUn.eq_1
  have := @Mr.onO.eq_1
  have := @Mr.fNil.eq_1
  have := @Mr.fCons.eq_1
  have := @Mr.fLst.eq_1
  have := @Mr.fTup.eq_1
  have := @Mr.fLstC.eq_1
  have := @Mr.fDct0.eq_1
  have := @Mr.fCB.eq_1
  have := @Mr.fCall.eq_1
  have := @Mr.fMk.eq_1
  have := @Mr.fMkK.eq_1
  have := @Mr.fMt.eq_1
  have := @Mr.fMtK.eq_1
  have := @Mr.fErr.eq_1
  have := @Mr.fStrO.eq_1
  have := @Mr.fJs.eq_1
  have := @Mr.jsT.eq_1
  have := @Mr.fSl.eq_1
  have := @Mr.oNone.eq_1
  have := @Mr.oSome.eq_1
  have := @Mr.fLM.eq_1
  have := @Mr.onL.eq_1
  have := @Mr.fLc.eq_1
  have := @Mr.fYes.eq_1
  have := @Mr.iSeq.eq_1
  have := @Mr.iRange1.eq_1
  have := @Mr.iRange2.eq_1
  have := @Mr.fFor.eq_1
  have := @Mr.doneM.eq_1
  have := @Mr.gEqOwn.eq_1
  have := @Mr.gNeOwn.eq_1
  trivial
end Mr
namespace Mr
open PySem PySem.Spec PyProof.Rows L2 Tw
/-- an own error's class, by one look at the rest -/
def oexB (K : PySem.W.Frag) (C : Addr) : Bool := decide (PySem.W.findIn K (.ref C) "__setattr__" = some (some (.builtin "object.__setattr__"))) && (decide (PySem.W.subIn K (.ref C) (.type "BaseException") = some true) && (decide (PySem.W.typeIn K (.ref C) = some (.type "type")) && PySem.W.keepIn K (.ref C)))
theorem oexB_ok {K : PySem.W.Frag} {C : Addr} (hc : ∃ nm q N bs bm sn sub ab col dd k0 k1 k2 k3 k5, K.lookup C = some (excClassObj nm q C N bs bm true sn sub ab col dd k0 k1 k2 k3 k5 "ValueError.__new__") ∧ PySem.HandSPX.refsVE bm = true) (h : oexB K C = true) : OexC K C := by
  obtain ⟨h1, h⟩ := Bool.and_eq_true_iff.mp h
  obtain ⟨h2, h⟩ := Bool.and_eq_true_iff.mp h
  obtain ⟨h3, h4⟩ := Bool.and_eq_true_iff.mp h
  exact ⟨hc, of_decide_eq_true h1, of_decide_eq_true h2, of_decide_eq_true h3, h4⟩
end Mr
namespace Mr
open PySem PySem.Spec PyProof.Rows L2 Tw
def kD : Key → PyData
  | .inl i => .int i
  | .inr x => .str x
mutual
def T.datX : T → Option PyData
  | .non => some .none
  | .bl b => some (.bool b)
  | .int i => some (.int i)
  | .str z => some (.str z)
  | .lst xs => (datsX xs).map .list
  | .tup xs => (datsX xs).map .tuple
  | .dct kvs => (datsK kvs).map .dict
  | _ => none
def datsX : List T → Option (List PyData)
  | [] => some []
  | x :: xs => match x.datX, datsX xs with | some d, some ds => some (d :: ds) | _, _ => none
def datsK : List (Key × T) → Option (List (PyData × PyData))
  | [] => some []
  | (k, x) :: xs => match x.datX, datsK xs with | some d, some ds => some ((kD k, d) :: ds) | _, _ => none
end
def S.datX (s : S) (t : T) : Option PyData :=
  match t with
  | .cell a => match s.on a with | some (.lst xs) => (datsX xs).map .list | _ => none
  | t => t.datX
mutual
/-- the value is the datum; lists and dicts of it are tracked -/
inductive DpX (K : PySem.W.Frag) (H : Hp) : V → PyData → Prop
  | non : DpX K H .non .none
  | bl (b : Bool) : DpX K H (.bl b) (.bool b)
  | int (i : Int) : DpX K H (.int i) (.int i)
  | str (x : Str) : DpX K H (.str x) (.str x)
  | lst {a : Addr} {xs : List V} {ds : List PyData} : H a = some (.lst xs) → DpXs K H xs ds → DpX K H (.ref a) (.list ds)
  | tup {a : Addr} {xs : List V} {ds : List PyData} : SqT K H a xs → DpXs K H xs ds → DpX K H (.ref a) (.tuple ds)
  | dct {a : Addr} {kvv : List (Key × V)} {ds : List (PyData × PyData)} : Rd H a (.dK kvv) → DpXk K H kvv ds → DpX K H (.ref a) (.dict ds)
inductive DpXs (K : PySem.W.Frag) (H : Hp) : List V → List PyData → Prop
  | nil : DpXs K H [] []
  | cons {v : V} {vs : List V} {d : PyData} {ds : List PyData} : DpX K H v d → DpXs K H vs ds → DpXs K H (v :: vs) (d :: ds)
inductive DpXk (K : PySem.W.Frag) (H : Hp) : List (Key × V) → List (PyData × PyData) → Prop
  | nil : DpXk K H [] []
  | cons {k : Key} {v : V} {vs : List (Key × V)} {d : PyData} {ds : List (PyData × PyData)} : DpX K H v d → DpXk K H vs ds → DpXk K H ((k, v) :: vs) ((kD k, d) :: ds)
end
mutual
/-- no list in it -/
def noList : PyData → Bool
  | .none | .bool _ | .int _ | .str _ => true
  | .list _ => false
  | .tuple xs => noLists xs
  | .dict kvs => noListK kvs
def noLists : List PyData → Bool
  | [] => true
  | x :: xs => noList x && noLists xs
def noListK : List (PyData × PyData) → Bool
  | [] => true
  | (_, x) :: xs => noList x && noListK xs
end
/-- a datum whose text can be had: no dict, or no list, or a list of such ones -/
def okD (d : PyData) : Bool := noList d || !d.hasDict
def okR : PyData → Bool
  | .list xs => xs.all okD
  | d => okD d
section
variable {X : Cx} {pins : List (Addr × Obj)} {σ : L2.St} {H : Hp} {s : Shared}
mutual
theorem DpX.readsN (I : Inv X pins σ H s) : ∀ (d : PyData) (v : V) (u : Value), DpX X.K H v d → RelV v u → noList d = true → ∃ as, Reads s.heap u d as ∧ sysModules ∉ as
  | .none, _, _, h, r, _ => by
    cases h
    cases r
    exact ⟨_, Reads.none, by simp⟩
  | .bool b, _, _, h, r, _ => by
    cases h
    cases r
    exact ⟨_, Reads.bool b, by simp⟩
  | .int i, _, _, h, r, _ => by
    cases h
    obtain ⟨t, rfl⟩ := r
    exact ⟨_, Reads.int i t, by simp⟩
  | .str x, _, _, h, r, _ => by
    cases h
    obtain ⟨t, rfl⟩ := r
    exact ⟨_, Reads.str x t, by simp⟩
  | .list ds, _, _, h, r, n => by rw [noList] at n; cases n
  | .tuple ds, _, _, h, r, n => by
    cases h with
    | tup hs ha =>
      cases r
      rw [noList] at n
      obtain ⟨its, rv, ⟨o, ho, hc, n', hd⟩, _⟩ := I.tuple hs
      obtain ⟨as, hr, hn⟩ := DpXs.readsN I ds _ its ha rv n
      exact ⟨_, Reads.tuple ho hc hd hr, hn⟩
  | .dict ds, _, _, h, r, n => by
    cases h with
    | dct hs ha =>
      cases r
      rw [noList] at n
      obtain ⟨_, ns, vs, rk, o, es, ep, ho, hx, hd, _, hp, _⟩ := dk_rd I.hok hs
      obtain ⟨as, bs, h1, h2, n1, n2⟩ := DpXk.readsN I ds _ vs es.toList ha rk hp n
      refine ⟨_, Reads.dict ho hx.1 hd h1 h2, ?_⟩
      rw [List.cons_append, List.mem_cons, List.mem_append, not_or, not_or]
      exact ⟨fun e => by rw [← e] at ns; exact absurd ns (by decide), n1, n2⟩
theorem DpXs.readsN (I : Inv X pins σ H s) : ∀ (ds : List PyData) (vs : List V) (us : List Value), DpXs X.K H vs ds → Vals vs us → noLists ds = true → ∃ as, ReadsAll s.heap us ds as ∧ sysModules ∉ as
  | [], _, _, h, r, _ => by
    cases h
    cases r
    exact ⟨_, ReadsAll.nil, by simp⟩
  | d :: ds, _, _, h, r, n => by
    rw [noLists, Bool.and_eq_true] at n
    cases h with
    | cons h1 h2 =>
      cases r with
      | cons r1 r2 =>
        obtain ⟨as, q1, n1⟩ := DpX.readsN I d _ _ h1 r1 n.1
        obtain ⟨bs, q2, n2⟩ := DpXs.readsN I ds _ _ h2 r2 n.2
        refine ⟨_, ReadsAll.cons q1 q2, ?_⟩
        rw [List.mem_append, not_or]
        exact ⟨n1, n2⟩
theorem DpXk.readsN (I : Inv X pins σ H s) : ∀ (ds : List (PyData × PyData)) (kvv : List (Key × V)) (vs : List (Key × Value)) (es : List DictEntry), DpXk X.K H kvv ds → KV kvv vs → Pairs (mixKind X.prog X.w) es vs → noListK ds = true →
    ∃ as bs, ReadsAll s.heap (es.map (·.key)) (ds.map (·.1)) as ∧ ReadsAll s.heap (es.map (·.val)) (ds.map (·.2)) bs ∧ sysModules ∉ as ∧ sysModules ∉ bs
  | [], _, _, _, h, r, p, _ => by
    cases h
    cases r
    cases p
    exact ⟨_, _, ReadsAll.nil, ReadsAll.nil, by simp, by simp⟩
  | d :: ds, _, _, _, h, r, p, n => by
    cases h with
    | cons h1 h2 =>
      rw [noListK, Bool.and_eq_true] at n
      cases r with
      | cons r1 r2 =>
        cases p with
        | cons p1 p2 p3 =>
          obtain ⟨as, q1, n1⟩ := DpX.readsN I _ _ _ h1 r1.2 n.1
          obtain ⟨bs, cs, q2, q3, n2, n3⟩ := DpXk.readsN I ds _ _ _ h2 r2 p3 n.2
          rw [← p2] at q1
          have e1 := r1.1
          simp only at e1
          subst e1
          rcases keyIs_shape p1 with ⟨i, t, e, e'⟩ | ⟨x, t, e, e'⟩
          · refine ⟨_, _, ReadsAll.cons (as := []) (d := kD _) ?_ q2, ReadsAll.cons q1 q3, ?_, ?_⟩
            · show Reads _ (DictEntry.key _) _ _
              rw [e, e']
              exact Reads.int i t
            · simpa using n2
            · rw [List.mem_append, not_or]
              exact ⟨n1, n3⟩
          · refine ⟨_, _, ReadsAll.cons (as := []) (d := kD _) ?_ q2, ReadsAll.cons q1 q3, ?_, ?_⟩
            · show Reads _ (DictEntry.key _) _ _
              rw [e, e']
              exact Reads.str x t
            · simpa using n2
            · rw [List.mem_append, not_or]
              exact ⟨n1, n3⟩
end
mutual
/-- a datum without dicts -/
theorem DpX.dp : ∀ {d : PyData} {v : V} {K : PySem.W.Frag} {H : Hp}, DpX K H v d → d.hasDict = false → Dp K H v d
  | .none, _, _, _, h, _ => by cases h; exact .non
  | .bool b, _, _, _, h, _ => by cases h; exact .bl b
  | .int b, _, _, _, h, _ => by cases h; exact .int b
  | .str b, _, _, _, h, _ => by cases h; exact .str b
  | .list ds, _, _, _, h, n => by
    cases h with
    | lst h1 h2 => exact .lst (SqL.of h1) (DpXs.dp h2 (by simpa [PyData.hasDict] using n))
  | .tuple ds, _, _, _, h, n => by
    cases h with
    | tup h1 h2 => exact .tup h1 (DpXs.dp h2 (by simpa [PyData.hasDict] using n))
  | .dict ds, _, _, _, h, n => by simp [PyData.hasDict] at n
theorem DpXs.dp : ∀ {ds : List PyData} {vs : List V} {K : PySem.W.Frag} {H : Hp}, DpXs K H vs ds → PyData.hasDictAll ds = false → DpAll K H vs ds
  | [], _, _, _, h, _ => by cases h; exact .nil
  | d :: ds, _, _, _, h, n => by
    cases h with
    | cons h1 h2 =>
      have n' : d.hasDict = false ∧ PyData.hasDictAll ds = false := by simpa [PyData.hasDictAll] using n
      exact .cons (DpX.dp h1 n'.1) (DpXs.dp h2 n'.2)
end
theorem DpX.readsO (I : Inv X pins σ H s) {d : PyData} {v : V} {u : Value} (h : DpX X.K H v d) (r : RelV v u) (k : okD d = true) : ∃ as, Reads s.heap u d as ∧ (d.hasDict = true → sysModules ∉ as) := by
  rcases Bool.or_eq_true_iff.mp k with e | e
  · obtain ⟨as, r1, n⟩ := DpX.readsN I _ _ _ h r e
    exact ⟨as, r1, fun _ => n⟩
  · have e : d.hasDict = false := by simpa using e
    obtain ⟨as, r1⟩ := Dp.reads I _ _ _ (h.dp e) r
    exact ⟨as, r1, fun z => by rw [e] at z; cases z⟩
theorem reads_each {w : World} {prog : Program} (I : Inv X pins σ H s) : ∀ {ds : List PyData} {vs : List V} {us : List Value}, DpXs X.K H vs ds → Vals vs us → ds.all okD = true → PyData.showableAll ds = true → (∀ t ∈ PyData.shownAll ds, t.length ≤ sizeLine) →
    ∃ as bs, ReadsAll s.heap us ds as ∧ ReadAtMost s.heap (PyData.depthAll ds) bs ∧ ReprAllK prog w bs s.heap (PyData.depthAll ds) us (PyData.shownAll ds)
  | [], _, _, h, r, _, _, _ => by
    cases h
    cases r
    exact ⟨[], [], .nil, (fun _ h => nomatch h), by simp only [PyData.shownAll]; exact .nil⟩
  | d :: ds, _, _, h, r, k, hs, hz => by
    cases h with
    | cons h1 h2 =>
      cases r with
      | cons r1 r2 =>
        rw [List.all_cons, Bool.and_eq_true] at k
        have hs' : d.showable = true ∧ PyData.showableAll ds = true := by simpa [PyData.showableAll] using hs
        obtain ⟨as, q, n⟩ := DpX.readsO I h1 r1 k.1
        obtain ⟨bs, c1, q1, q2, q3⟩ := reads_each (w := w) (prog := prog) I h2 r2 k.2 hs'.2 fun t ht => hz t (by simp only [PyData.shownAll]; exact List.mem_cons_of_mem _ ht)
        obtain ⟨b1, hb1, k1⟩ := ReprK.of_reads (prog := prog) (w := w) q hs'.1 n (hz _ (by simp only [PyData.shownAll]; exact List.mem_cons_self ..))
        have l1 : d.depth ≤ PyData.depthAll (d :: ds) := by simp only [PyData.depthAll]; exact Nat.le_max_left _ _
        have l2 : PyData.depthAll ds ≤ PyData.depthAll (d :: ds) := by simp only [PyData.depthAll]; exact Nat.le_max_right _ _
        refine ⟨_, b1 ++ c1, ReadsAll.cons q q1, (hb1.mono l1).append (q2.mono l2), ?_⟩
        simp only [PyData.shownAll]
        exact .cons ((k1.more fun b hb => List.mem_append_left _ hb).level_le l1) (q3.more_le (fun b hb => List.mem_append_right _ hb) l2)
def rReprX (K : PySem.W.Frag) : List V → Hp → VK → Prop := fun xs H Q => ∃ x d, xs = [x] ∧ DpX K H x d ∧ okR d = true ∧ d.showable = true ∧ d.depth ≤ 60 ∧ d.shown.length ≤ sizeLine ∧ Q (.str d.shown) H
theorem call_reprX {j : Nat} (hr : Rm j X.A) : CallR X (.builtin "repr") (rReprX X.K) := by
  intro pins s σ H xs us Q I r h
  obtain ⟨x, d, rfl, hd, hk, hs, hdp, hz, q⟩ := h
  obtain ⟨u, rfl, ru⟩ := vals1 r
  have un := hr.room.units
  cases hd with
  | non =>
    cases ru
    exact P.repr_of_none ⟨.str _, H, I.tok _, ⟨_, rfl⟩, q⟩
  | bl b =>
    cases ru
    refine P.repr_of_bool ⟨.str _, H, I.tok _, ⟨_, rfl⟩, ?_⟩
    simpa [PyData.shown] using q
  | int i =>
    obtain ⟨t, rfl⟩ := ru
    refine P.repr_of_int (by simpa [PyData.showable] using hs) ⟨.str _, H, I.tok _, ⟨_, rfl⟩, ?_⟩
    simpa [PyData.shown] using q
  | str x =>
    obtain ⟨t, rfl⟩ := ru
    refine P.repr_of_str ⟨.str _, H, I.tok _, ⟨_, rfl⟩, ?_⟩ (by simpa [PyData.shown] using hz)
    simpa [PyData.shown] using q
  | @lst a xs ds hsq ha =>
    cases ru
    have hz' : (listText (PyData.shownAll ds)).length ≤ sizeLine := by simpa only [PyData.shown] using hz
    obtain ⟨its, rv, ⟨o, n, ho, hc, _, hdt⟩, _⟩ := I.list (SqL.of hsq)
    obtain ⟨as, bs, h4, hb, hk'⟩ := reads_each (w := X.w) (prog := X.prog) I ha rv hk (by simpa [PyData.showable] using hs) fun t ht => Nat.le_trans (listText_mem_le ht) hz'
    have h4' : ReadsAll s.heap its.toArray.toList ds as := h4
    have hna : a ∉ bs := not_mem_of_deeper (.list ho hc hdt h4') (by simp only [PyData.depth]; omega) hb
    refine call_repr_slot (by omega) ⟨o, ho, hc⟩ F.slot_list_repr.toG ?_
    simp only [PyData.depth] at hdp
    simp only [PyData.shown] at q
    cases its with
    | nil =>
      cases h4
      simp only [PyData.shownAll, listText_nil] at q
      exact call_list_repr_empty ⟨o, ho, hc⟩ ho hdt ⟨_, _, rfl, .str _, H, I.tok _, ⟨_, rfl⟩, q⟩
    | cons y l =>
      exact call_list_reprK ho hc hdt hna (by simpa using hk'.length_eq) (fun i z e => hk'.item i z (by simpa using e)) hr.gd (fun b _ => Clear.nil b) (by show X.A.units + 1 + _ < cLine; omega) (fun _ _ z => z)
        (fun h' u' tk k => ⟨_, _, rfl, .str _, H, I.kept k, ⟨_, rfl⟩, q⟩) hz'
  | tup hsq ha =>
    obtain ⟨as, rd, nd⟩ := DpX.readsO I (.tup hsq ha) ru hk
    cases ru
    refine repr_of_reads' rd hs nd hr.gd (by omega) (fun _ _ z => z) (fun h' u tk k => ?_) hz
    exact ⟨.str _, H, I.kept k, ⟨_, rfl⟩, q⟩
  | dct hsq ha =>
    obtain ⟨as, rd, nd⟩ := DpX.readsO I (.dct hsq ha) ru hk
    cases ru
    refine repr_of_reads' rd hs nd hr.gd (by omega) (fun _ _ z => z) (fun h' u tk k => ?_) hz
    exact ⟨.str _, H, I.kept k, ⟨_, rfl⟩, q⟩
end
section
variable {K : PySem.W.Frag} {cl : CL} {Z : Addr → Prop} {s : S} {H : Hp}
mutual
theorem Rep.dpx (so : Sto K cl Z s H) : ∀ {v : V} {t : T} {d : PyData}, Rep K cl Z s H v t → t.datX = some d → DpX K H v d
  | _, .non, _, r, e => by
    cases r
    rw [T.datX] at e
    cases e
    exact .non
  | _, .bl b, _, r, e => by
    cases r
    rw [T.datX] at e
    cases e
    exact .bl b
  | _, .int b, _, r, e => by
    cases r
    rw [T.datX] at e
    cases e
    exact .int b
  | _, .str b, _, r, e => by
    cases r
    rw [T.datX] at e
    cases e
    exact .str b
  | _, .lst xs, _, r, e => by
    obtain ⟨a, vs, rfl, h, q⟩ := lst_of so r rfl
    rw [T.datX] at e
    obtain ⟨ds, e1, rfl⟩ := Option.map_eq_some_iff.mp e
    exact .lst h (Reps.dpx so q e1)
  | _, .tup xs, _, r, e => by
    obtain ⟨a, vs, rfl, h, q⟩ := tup_of r
    rw [T.datX] at e
    obtain ⟨ds, e1, rfl⟩ := Option.map_eq_some_iff.mp e
    exact .tup h (Reps.dpx so q e1)
  | _, .dct xs, _, r, e => by
    rw [T.datX] at e
    obtain ⟨ds, e1, rfl⟩ := Option.map_eq_some_iff.mp e
    cases r with
    | dct h n q => exact .dct h (RepK.dpx so q e1)
  | _, .obj _ _, _, _, e => by rw [T.datX] at e <;> first | cases e | (intros; intro h; cases h)
  | _, .err _ _, _, _, e => by rw [T.datX] at e <;> first | cases e | (intros; intro h; cases h)
  | _, .cell _, _, _, e => by rw [T.datX] at e <;> first | cases e | (intros; intro h; cases h)
  | _, .pen, _, _, e => by rw [T.datX] at e <;> first | cases e | (intros; intro h; cases h)
  | _, .ty _, _, _, e => by rw [T.datX] at e <;> first | cases e | (intros; intro h; cases h)
theorem Reps.dpx (so : Sto K cl Z s H) : ∀ {vs : List V} {ts : List T} {ds : List PyData}, Reps K cl Z s H vs ts → datsX ts = some ds → DpXs K H vs ds
  | _, [], _, r, e => by
    cases r
    rw [datsX] at e
    cases e
    exact .nil
  | _, t :: ts, _, r, e => by
    cases r with
    | cons h q =>
      rw [datsX] at e
      split at e
      · rename_i d ds e1 e2
        cases e
        exact .cons (Rep.dpx so h e1) (Reps.dpx so q e2)
      · cases e
theorem RepK.dpx (so : Sto K cl Z s H) : ∀ {vs : List (Key × V)} {ts : List (Key × T)} {ds : List (PyData × PyData)}, RepK K cl Z s H vs ts → datsK ts = some ds → DpXk K H vs ds
  | _, [], _, r, e => by
    cases r
    rw [datsK] at e
    cases e
    exact .nil
  | _, (k, t) :: ts, _, r, e => by
    cases r with
    | cons h q =>
      rw [datsK] at e
      split at e
      · rename_i d ds e1 e2
        cases e
        exact .cons (Rep.dpx so h e1) (RepK.dpx so q e2)
      · cases e
end
theorem Rep.sdpx {v : V} {t : T} {d : PyData} (so : Sto K cl Z s H) (r : Rep K cl Z s H v t) (e : s.datX t = some d) : DpX K H v d := by
  unfold S.datX at e
  split at e
  · split at e
    · rename_i ho
      cases r
      obtain ⟨vs, h1, h2⟩ := so.cells _ _ ho
      obtain ⟨ds, e1, rfl⟩ := Option.map_eq_some_iff.mp e
      exact .lst h1 (Reps.dpx so h2 e1)
    · cases e
  · exact Rep.dpx so r e
end
def reprX : ON
  | s, [x] => match s.datX x with | some d => some (okR d = true ∧ d.showable = true ∧ d.depth ≤ 60 ∧ d.shown.length ≤ 1000000, .str d.shown) | none => none
  | _, _ => none
theorem c_reprX {X : Cx} {cl : CL} {j : Nat} (hr : Rm j X.A) : BC X cl (.builtin "repr") reprX := by
  refine ⟨_, call_reprX hr, fun Z H xs Q s ts c t r so e hc p => ?_⟩
  unfold reprX at e
  split at e
  · obtain ⟨v, rfl, rv⟩ := reps1 r
    split at e
    · rename_i d e1
      cases e
      exact ⟨v, d, rfl, rv.sdpx so e1, hc.1, hc.2.1, hc.2.2.1, Nat.le_trans hc.2.2.2 size6, p.here (.str _) so⟩
    · cases e
  · cases e
def fDctC (kvs : List (Key × T)) : FE := fun _ s Q _ => Q (.dct kvs) s
mutual
def niceX : PyData → Bool
  | .none | .bool _ => true
  | .int i => decide (i.natAbs < 10 ^ 100)
  | .str z => z.cps.all (· < 0x110000) && decide (z.length ≤ 1000)
  | .list xs | .tuple xs => niceXs xs
  | .dict kvs => niceXk kvs
def niceXs : List PyData → Bool
  | [] => true
  | x :: xs => niceX x && niceXs xs
def niceXk : List (PyData × PyData) → Bool
  | [] => true
  | (k, x) :: xs => niceX k && niceX x && niceXk xs
end
mutual
def wX : PyData → Nat
  | .none | .bool _ => 5
  | .int _ => 101
  | .str z => 10 * z.length + 2
  | .list xs | .tuple xs => wXs xs + 5
  | .dict kvs => wXk kvs + 5
def wXs : List PyData → Nat
  | [] => 0
  | x :: xs => wX x + 2 + wXs xs
def wXk : List (PyData × PyData) → Nat
  | [] => 0
  | (k, x) :: xs => wX k + wX x + 4 + wXk xs
end
theorem dictText_le (ts : List Str) : (dictText ts).length ≤ piled ts + 3 := by
  unfold dictText
  rw [Str.length_append, Str.length_append]
  have e1 : (Str.ofString "{").length = 1 := rfl
  have e2 : (Str.ofString "}").length = 1 := rfl
  cases ts with
  | nil =>
    have e3 : (Str.join ", " []).length = 0 := rfl
    omega
  | cons t r =>
    have := join_length_add (t :: r) (by simp)
    omega
mutual
theorem showX : ∀ d : PyData, niceX d = true → d.showable = true ∧ d.shown.length ≤ wX d
  | .none, _ => ⟨by simp [PyData.showable], by rw [PyData.shown, wX]; decide⟩
  | .bool b, _ => ⟨by simp [PyData.showable], by rw [PyData.shown, wX]; cases b <;> decide⟩
  | .int i, h => by
    rw [niceX] at h
    have h' : niceD (.int i) = true := by rw [niceD]; exact h
    exact ⟨(nice_show _ h').1, by have := (nice_show _ h').2.2; rw [wD] at this; rw [wX]; exact this⟩
  | .str z, h => by
    rw [niceX] at h
    have h' : niceD (.str z) = true := by rw [niceD]; exact h
    exact ⟨(nice_show _ h').1, by have := (nice_show _ h').2.2; rw [wD] at this; rw [wX]; exact this⟩
  | .list xs, h => by
    rw [niceX] at h
    obtain ⟨h1, h3⟩ := showXs xs h
    refine ⟨by rw [PyData.showable]; exact h1, ?_⟩
    rw [PyData.shown, wX]
    have := listText_le (PyData.shownAll xs)
    omega
  | .tuple xs, h => by
    rw [niceX] at h
    obtain ⟨h1, h3⟩ := showXs xs h
    refine ⟨by rw [PyData.showable]; exact h1, ?_⟩
    rw [PyData.shown, wX]
    have := tupleText_le (PyData.shownAll xs)
    omega
  | .dict kvs, h => by
    rw [niceX] at h
    obtain ⟨h1, h3⟩ := showXk kvs h
    refine ⟨by rw [PyData.showable]; exact h1, ?_⟩
    rw [PyData.shown, wX]
    have := dictText_le (PyData.shownKv kvs)
    omega
theorem showXs : ∀ ds : List PyData, niceXs ds = true → PyData.showableAll ds = true ∧ piled (PyData.shownAll ds) ≤ wXs ds
  | [], _ => ⟨by simp [PyData.showableAll], by rw [PyData.shownAll]; exact Nat.zero_le _⟩
  | d :: ds, h => by
    rw [niceXs, Bool.and_eq_true] at h
    obtain ⟨a1, a3⟩ := showX d h.1
    obtain ⟨b1, b3⟩ := showXs ds h.2
    refine ⟨by rw [PyData.showableAll, a1, b1]; rfl, ?_⟩
    rw [PyData.shownAll, wXs]
    have e2 : piled (d.shown :: PyData.shownAll ds) = d.shown.length + 2 + piled (PyData.shownAll ds) := by simp [piled]
    omega
theorem showXk : ∀ ds : List (PyData × PyData), niceXk ds = true → PyData.showableKv ds = true ∧ piled (PyData.shownKv ds) ≤ wXk ds
  | [], _ => ⟨by simp [PyData.showableKv], by rw [PyData.shownKv]; exact Nat.zero_le _⟩
  | (k, d) :: ds, h => by
    rw [niceXk, Bool.and_eq_true, Bool.and_eq_true] at h
    obtain ⟨c1, c3⟩ := showX k h.1.1
    obtain ⟨a1, a3⟩ := showX d h.1.2
    obtain ⟨b1, b3⟩ := showXk ds h.2
    refine ⟨by rw [PyData.showableKv, c1, a1, b1]; rfl, ?_⟩
    rw [PyData.shownKv, wXk]
    have e2 : ∀ (t : Str) (ts : List Str), piled (t :: ts) = t.length + 2 + piled ts := by intros; simp [piled]
    rw [e2, Str.length_append, Str.length_append]
    have e3 : (Str.ofString ": ").length = 2 := rfl
    omega
end
/-- for repr -/
theorem rpX {d : PyData} (h0 : okR d = true) (h : niceX d = true) (h1 : d.depth ≤ 60) (h2 : wX d ≤ 1000000) : okR d = true ∧ d.showable = true ∧ d.depth ≤ 60 ∧ d.shown.length ≤ 1000000 := ⟨h0, (showX d h).1, h1, Nat.le_trans (showX d h).2 h2⟩
theorem lst_rp {ds : List PyData} (h : ∀ d ∈ ds, okD d = true ∧ niceX d = true ∧ d.depth ≤ 5 ∧ wX d ≤ 500) (hl : ds.length ≤ 100) : okR (.list ds) = true ∧ (PyData.list ds).showable = true ∧ (PyData.list ds).depth ≤ 60 ∧ (PyData.list ds).shown.length ≤ 1000000 := by
  have a : ∀ l : List PyData, (∀ d ∈ l, okD d = true ∧ niceX d = true ∧ d.depth ≤ 5 ∧ wX d ≤ 500) → niceXs l = true ∧ PyData.depthAll l ≤ 5 ∧ wXs l ≤ 502 * l.length := by
    intro l
    induction l with
    | nil => intro _; exact ⟨by rw [niceXs], by simp [PyData.depthAll], by rw [wXs]; exact Nat.zero_le _⟩
    | cons d l ih =>
      intro h
      obtain ⟨i1, i2, i3⟩ := ih fun d hd => h d (List.mem_cons_of_mem _ hd)
      obtain ⟨_, h2, h3, h4⟩ := h d List.mem_cons_self
      refine ⟨by rw [niceXs, h2, i1]; rfl, by rw [PyData.depthAll]; exact Nat.max_le.mpr ⟨h3, i2⟩, ?_⟩
      rw [wXs, List.length_cons]
      omega
  obtain ⟨a1, a2, a3⟩ := a ds h
  refine rpX ?_ (by rw [niceX]; exact a1) (by rw [PyData.depth]; omega) (by rw [wX]; omega)
  exact List.all_eq_true.mpr fun d hd => (h d hd).1
/-- a, b, c = x, y, z -/
def fPar3 (i j l : Nat) (A : FA) : FS := fun τ s D => A τ s (fun ts s1 => match ts with | [t, u, v] => D.nx (((τ.set i (some t)).set j (some u)).set l (some v)) s1 | _ => False) (xk τ D)
theorem rows_madeX : True := by
  have := @Mr.fDctC.eq_1
  have := @Mr.fPar3.eq_1
  trivial
end Mr
namespace Mr
open PySem PySem.Spec PyProof.Rows L2 Tw ClX
section
variable {X : Cx} {cl : CL} {W : WX} {e o : Expr} {Fa Fb : FE} {pos p apos : Pos} {j : Nat}
abbrev OS := S → Str → List T → Option (Prop × T)
def onS (f : OS) (s : S) (x : T) (ts : List T) (Q : KT) : Prop := match x with | .str z => (match f s z ts with | some (c, t) => c ∧ Q t s | none => False) | _ => False
theorem onS.mon {f : OS} {s : S} {x : T} {ts : List T} {Q Q' : KT} (hq : ∀ t s, Q t s → Q' t s) (h : onS f s x ts Q) : onS f s x ts Q' := by
  unfold onS at h ⊢
  split at h
  · split at h
    · exact ⟨h.1, hq _ _ h.2⟩
    · exact h
  · exact h
def isS : T → Prop
  | .str _ => True
  | _ => False
def fSm0 (f : OS) (Fa : FE) : FE := fun τ s Q E => Fa τ s (fun x s1 => onS f s1 x [] Q) E
def fSm1 (f : OS) (Fa Fb : FE) : FE := fun τ s Q E => Fa τ s (fun x s1 => isS x ∧ Fb τ s1 (fun y s2 => onS f s2 x [y] Q) E) E
end
theorem hFor.cons {ok : S → Prop} {g : FG} {B : FS} {t : T} {ts : List T} {τ : Env} {s : S} {D : DS} (ho : ok s) (h : g t τ s fun τ1 s1 => B τ1 s1 ⟨fun τ2 s2 => @hFor ok g ts τ2 s2 ⟨B⟩ ⟨D⟩, D.rt, D.nx, fun τ2 s2 => @hFor ok g ts τ2 s2 ⟨B⟩ ⟨D⟩, D.xr⟩) : @hFor ok g (t :: ts) τ s ⟨B⟩ ⟨D⟩ := ⟨ho, h⟩
theorem hFor.nil {ok : S → Prop} {g : FG} {B : FS} {τ : Env} {s : S} {D : DS} (ho : ok s) (h : D.nx τ s) : @hFor ok g [] τ s ⟨B⟩ ⟨D⟩ := ⟨ho, h⟩
theorem hLc.cons {ok : S → Prop} {g : FG} {tt : FT} {te : FE} {t : T} {ts acc : List T} {τ : Env} {s : S} {Q : List T → S → Prop} (ho : ok s) (hl : acc.length < 1000000)
    (h : g t τ s fun τ1 s1 => tt τ1 s1 (fun b s2 => if b = true then te τ1 s2 (fun y s3 => @hLc ok g τ ts (acc ++ [y]) s3 ⟨tt⟩ ⟨te⟩ ⟨Q⟩) noX else @hLc ok g τ ts acc s2 ⟨tt⟩ ⟨te⟩ ⟨Q⟩) noX) : @hLc ok g τ (t :: ts) acc s ⟨tt⟩ ⟨te⟩ ⟨Q⟩ := ⟨ho, by omega, h⟩
theorem hLc.nil {ok : S → Prop} {g : FG} {tt : FT} {te : FE} {acc : List T} {τ : Env} {s : S} {Q : List T → S → Prop} (ho : ok s) (h : Q acc s) : @hLc ok g τ [] acc s ⟨tt⟩ ⟨te⟩ ⟨Q⟩ := ⟨ho, h⟩
theorem rows_madeY : True := by
  have := @Mr.fSm0.eq_1
  have := @Mr.fSm1.eq_1
  have := @Mr.onS.eq_1
  trivial
end Mr
namespace Mr
open PySem PySem.Spec PyProof.Rows L2 Tw
/-- s' is s with fewer cells -/
structure Shr (s s' : S) : Prop where
  pa : s'.pa = s.pa
  pen : s'.pen = s.pen
  on : ∀ b, s'.on b = none ∨ s'.on b = s.on b
theorem Shr.refl (s : S) : Shr s s := ⟨rfl, rfl, fun _ => .inr rfl⟩
theorem Shr.trans {s s1 s2 : S} (a : Shr s s1) (b : Shr s1 s2) : Shr s s2 := ⟨b.pa.trans a.pa, b.pen.trans a.pen, fun c => by
  rcases b.on c with h | h
  · exact .inl h
  · rw [h]; exact a.on c⟩
theorem Shr.put {s : S} {a : Addr} {c : Cell} (h : s.on a = none) : Shr (s.put a c) s := ⟨rfl, rfl, fun b => by
  by_cases e : b = a
  · rw [e]; exact .inl h
  · exact .inr (S.put_ne e).symm⟩
theorem Shr.pn {s s' : S} {n : Nat} (h : Shr s s') : Shr (s.pn n) (s'.pn n) := ⟨h.pa, rfl, h.on⟩
section
variable {K : PySem.W.Frag} {cl : CL} {Z : Addr → Prop} {s s' : S} {H : Hp}
theorem Shr.mut (h : Shr s s') {b : Addr} (m : s'.mut b) : s.mut b := by
  rcases m with m | m
  · exact .inl (h.pa ▸ m)
  · refine .inr fun e => m ?_
    rcases h.on b with q | q
    · exact q
    · rw [q]; exact e
theorem Shr.fut (h : Shr s s') : Fut s H s' H := .all (fun _ _ k n _ => ⟨k, fun m => n (h.mut m)⟩) fun _ k => h.pa.trans k
theorem Shr.sto (h : Shr s s') (so : Sto K cl Z s H) : Sto K cl Z s' H where
  pen := fun q hq => by
    obtain ⟨L, x, r, ns, h1, h2, h3, h4⟩ := so.pen q (h.pa ▸ hq)
    exact ⟨L, x, r, ns, h1, h2, ⟨fun m => h3.1 (h.mut m), h3.2⟩, by rw [h.pen]; exact h4⟩
  cells := fun b c hb => by
    rcases h.on b with q | q
    · rw [q] at hb; cases hb
    · exact (so.cells b c (q ▸ hb)).at h.fut rfl
  apart := fun q hq => by
    rcases h.on q with e | e
    · exact e
    · rw [e]; exact so.apart q (h.pa ▸ hq)
  hid := fun b hb => ⟨fun m => (so.hid b hb).1 (h.mut m), (so.hid b hb).2⟩
  tabs := so.tabs
end
/-- what is left of cells may be forgotten -/
def shQ (Q : KT) : KT := fun t s => ∃ s', Shr s s' ∧ Q t s'
def shX (E : KX) : KX := fun e s => ∃ s', Shr s s' ∧ E e s'
theorem shQ.of {Q : KT} {t : T} {s : S} (h : Q t s) : shQ Q t s := ⟨s, Shr.refl s, h⟩
theorem shX.of {E : KX} {e : Er} {s : S} (h : E e s) : shX E e s := ⟨s, Shr.refl s, h⟩
section
variable {P : Program} {w : World} {K : PySem.W.Frag} {mg : Str → Option Value} {base : Heap} {cl : CL} {k : Nat} {qual : Str} {st : Stmt} {ps N : List Str} {D : FD} {B : FS}
theorem post.shr {Z : Addr → Prop} {s s1 s2 : S} {H : Hp} {Q : VK} {t : T} (h : Shr s1 s2) (q : post K cl Z s H Q t s2) : post K cl Z s H Q t s1 := fun v H' f r so => q v H' (f.trans h.fut) (r.fut h.fut) (h.sto so)
theorem postX.shr {Z : Addr → Prop} {s s1 s2 : S} {H : Hp} {Q : XK} {e : Er} (h : Shr s1 s2) (q : postX K cl Z s H Q e s2) : postX K cl Z s H Q e s1 := fun d H' f x so => q d H' (f.trans h.fut) (x.fut h.fut) (h.sto so)
theorem fnD (S : FnScope N ps (C8.fnScope st)) (len : ∀ ts s Q E, D ts s Q E → ts.length = ps.length) (hB : Walk P w K mg base cl k N qual st B)
    (hF : ∀ ts s Q E, D ts s Q E → B (startT N ts) s (endsM (shQ Q) (shX E))) : ∀ {x : Str} {f : Addr} {fd : FuncData}, C8.Fun K x qual st f fd → FnG P w K mg base (k + 1) f fd ps (spM K cl D) :=
  fun F => fnGX F S (spM.len len) fun cdv A out s H vs Q E hr h => by
    obtain ⟨Z, ts, s, r, so, Q0, E0, h1, h2, h3⟩ := h
    have hb := hB _ cdv A out _ H E hr
    refine ⟨_, hb.pss, Z, startT N ts, s, RepE.start r, so, hb.mon _ _ _ _ ?_ (hF _ _ _ _ h1)⟩
    refine ⟨fun τ s' q σ H' f _ so' => ?_, fun t s' q => ?_, fun τ s' q => q.elim, fun τ s' q => q.elim, fun er τ s' q d σ H' f x _ so' => ?_⟩
    · obtain ⟨s2, sh, q⟩ := q
      exact post.shr sh (h2 _ _ q) _ _ f .non so'
    · obtain ⟨s2, sh, q⟩ := q
      exact post.shr sh (h2 _ _ q)
    · obtain ⟨s2, sh, q⟩ := q
      exact postX.shr sh (h3 _ _ q) d H' f x so'
end
end Mr
namespace Mr
open PySem PySem.Spec PyProof.Rows L2 Tw
theorem no_dvs {K : PySem.W.Frag} {cl : CL} {dvs : List V} (hd : ∀ Z s H, Reps K cl Z s H dvs []) : dvs = [] := by
  have := hd (fun _ => False) ⟨none, 0, fun _ => none⟩ (fun _ => none)
  cases this
  rfl
section
variable {X : Cx} {cl : CL} {W : WX} {k j cc : Nat} {D : FD} {m : Str} {op : Operator}
/-- two instances of one class, by the left one's method -/
def gOwn2 (cc : Nat) (D : FD) : S → T → T → KT → KX → Prop := fun s x y Q E => match s.obj? x, s.obj? y with | some (c, _), some (c', _) => c = cc ∧ c' = cc ∧ cM D [x, y] s Q E | _, _ => False
/-- an instance and an int -/
def gOwnI (cc : Nat) (D : FD) : S → T → T → KT → KX → Prop := fun s x y Q E => match s.obj? x, y with | some (c, _), .int i => c = cc ∧ cM D [x, .int i] s Q E | _, _ => False
/-- an int times an instance -/
def gOwnR (cc : Nat) (D : FD) : S → T → T → KT → KX → Prop := fun s x y Q E => match x, s.obj? y with | .int i, some (c, _) => c = cc ∧ cM D [y, .int i] s Q E | _, _ => False
/-- what is done with an instance of the class cc -/
def kObj (cc : Nat) (s : S) (x : T) (P : Prop) : Prop := match s.obj? x with | some (c, _) => c = cc ∧ P | none => False
theorem kObj.mon {s : S} {x : T} {P P' : Prop} (h : P → P') (q : kObj cc s x P) : kObj cc s x P' := by
  unfold kObj at q ⊢
  split at q
  · exact ⟨q.1, h q.2⟩
  · exact q
theorem kObj.get {K : PySem.W.Frag} {Z : Addr → Prop} {s : S} {H : Hp} {v : V} {t : T} {P : Prop} (so : Sto K cl Z s H) (r : Rep K cl Z s H v t) (q : kObj cc s t P) : ∃ a dx fvs, v = .ref a ∧ H a = some (.ins (cl cc) dx fvs) ∧ P := by
  unfold kObj at q
  split at q
  · rename_i c fs e
    obtain ⟨rfl, p⟩ := q
    obtain ⟨a, dx, fvs, h1, h2, _⟩ := obj_of so r e
    exact ⟨a, dx, fvs, h1, h2, p⟩
  · exact q.elim
variable {e o fe : Expr} {es : List Expr} {Fa Fo : FE} {A : FA} {pos pp apos : Pos} {x : Str}
/-- - of an instance -/
def fNegO (cc : Nat) (D : FD) (Fa : FE) : FE := fun τ s Q E => Fa τ s (fun x s1 => kObj cc s1 x (cM D [x] s1 Q E)) E
end
end Mr
namespace Mr
open PySem PySem.Spec PyProof.Rows L2 Tw
section
variable {X : Cx} {cl : CL} {W : WX} {k j cc : Nat} {D : FD} {m : Str} {C : Addr} {sp : Sp}
variable {e o fe : Expr} {es : List Expr} {Fa Fo : FE} {A : FA} {pos pp apos : Pos} {x : Str} {tf : TE} {t : TA}
/-- f(e, ..), f an instance -/
def fOwnC (cc : Nat) (D : FD) (Fa : FE) (A : FA) : FE := fun τ s Q E => Fa τ s (fun x s1 => kObj cc s1 x (A τ s1 (fun ts s2 => kObj cc s2 x (cM D (x :: ts) s2 Q E)) E)) E
def fPro (cc : Nat) (D : FD) (Fa : FE) : FE := fun τ s Q E => Fa τ s (fun x s1 => kObj cc s1 x (cM D [x] s1 Q noX)) E
end
end Mr
namespace Mr
open PySem PySem.Spec PyProof.Rows L2 Tw
/-- the entries, as a table of trees -/
inductive EntT (K : PySem.W.Frag) (cl : CL) : List DictEntry → List (Str × T) → Prop
  | nil : EntT K cl [] []
  | cons {en : DictEntry} {z : Str} {t : T} {es : List DictEntry} {tab : List (Str × T)} : (∃ tk, en.key = .str z tk) → (∃ v, RelV v en.val ∧ ∀ Z s H, Rep K cl Z s H v t) → EntT K cl es tab → EntT K cl (en :: es) ((z, t) :: tab)
structure KDt (K : PySem.W.Frag) (w : World) (cl : CL) (d : Addr) (tab : List (Str × T)) : Prop where
  ex : ∃ es n, KDict K w d es n ∧ EntT K cl es.toList tab
section
variable {K : PySem.W.Frag} {cl : CL} {w : World} {d : Addr} {tab : List (Str × T)}
theorem EntT.find : ∀ {es : List DictEntry} {tab : List (Str × T)} (z : Str), EntT K cl es tab →
    match tab.lookup z with
    | some t => ∃ en, es.find? (·.key.isStr z) = some en ∧ ∃ v, RelV v en.val ∧ ∀ Z s H, Rep K cl Z s H v t
    | none => es.find? (·.key.isStr z) = none ∧ es.any (·.refKey) = false
  | _, _, z, .nil => ⟨rfl, rfl⟩
  | _, _, z, .cons (en := en) (z := y) (t := t) (es := es) (tab := tab) ⟨tk, ek⟩ hv r => by
    have ih := EntT.find z r
    have e1 : en.key.isStr z = (y == z) := by rw [ek]; rfl
    have e2 : en.refKey = false := by unfold DictEntry.refKey; rw [ek]
    rw [List.lookup_cons]
    by_cases q : z = y
    · subst q
      rw [beq_self_eq_true]
      refine ⟨en, ?_, hv⟩
      rw [List.find?_cons, e1, beq_self_eq_true]
    · have n1 : (z == y) = false := beq_eq_false_iff_ne.mpr q
      have n2 : (y == z) = false := beq_eq_false_iff_ne.mpr (Ne.symm q)
      rw [n1]
      show (match tab.lookup z with | some t => _ | none => _)
      split
      · rename_i t' e
        rw [e] at ih
        obtain ⟨en', h1, h2⟩ := ih
        exact ⟨en', by rw [List.find?_cons, e1, n2]; exact h1, h2⟩
      · rename_i e
        rw [e] at ih
        exact ⟨by rw [List.find?_cons, e1, n2]; exact ih.1, by rw [List.any_cons, e2, ih.2]; rfl⟩
theorem KDt.ns (D : KDt K w cl d tab) (z : Str) : match tab.lookup z with
    | some t => ∃ u v, PySem.W.nsIn K d z = some (some u) ∧ RelV v u ∧ ∀ Z s H, Rep K cl Z s H v t
    | none => PySem.W.nsIn K d z = some none := by
  obtain ⟨es, n, D, E⟩ := D.ex
  have h := E.find z
  split
  · rename_i t e
    rw [e] at h
    obtain ⟨en, h1, v, h2, h3⟩ := h
    refine ⟨en.val, v, ?_, h2, h3⟩
    unfold PySem.W.nsIn
    rw [D.at_]
    show (match es.toList.find? _ with | some e => _ | none => _) = _
    rw [h1]
  · rename_i e
    rw [e] at h
    unfold PySem.W.nsIn
    rw [D.at_]
    show (match es.toList.find? _ with | some e => _ | none => _) = _
    rw [h.1]
    show (if es.toList.any _ = true then _ else _) = _
    rw [h.2]
    rfl
theorem EntT.get : ∀ {es : List DictEntry} {tab : List (Str × T)} (i : Nat) {t : T}, EntT K cl es tab → (tab.map fun p => T.str p.1)[i]? = some t → ∃ en z tk, es[i]? = some en ∧ en.key = .str z tk ∧ t = .str z
  | _, _, i, t, .nil, e => by simp at e
  | _, _, 0, t, .cons ⟨tk, ek⟩ _ _, e => by
    simp only [List.map_cons, List.getElem?_cons_zero, Option.some.injEq] at e
    exact ⟨_, _, tk, rfl, ek, e.symm⟩
  | _, _, i + 1, t, .cons _ _ r, e => by
    simp only [List.map_cons, List.getElem?_cons_succ] at e
    exact r.get i e
theorem EntT.length : ∀ {es : List DictEntry} {tab : List (Str × T)}, EntT K cl es tab → es.length = tab.length
  | _, _, .nil => rfl
  | _, _, .cons _ _ r => congrArg (· + 1) r.length
end
section
variable {X : Cx} {cl : CL} {W : WX} {d : Addr} {tab : List (Str × T)} {tg e a b : Expr} {Fa Fb : FE} {pos : Pos}
/-- z in d, z not in d -/
def gInK (neg : Bool) (d : Addr) (tab : List (Str × T)) : S → T → T → KT → KX → Prop := fun s x y Q _ => match x, y with | .str z, .cell c => c = d ∧ Q (.bl (xor neg (tab.lookup z).isSome)) s | _, _ => False
/-- d[z], z a key -/
def gIxK (d : Addr) (tab : List (Str × T)) : S → T → T → KT → KX → Prop := fun s x y Q _ => match x, y with | .cell c, .str z => c = d ∧ (match tab.lookup z with | some t => Q t s | none => False) | _, _ => False
def iKeyK (d : Addr) (tab : List (Str × T)) (Fa : FE) : FI := fun τ s Q E => Fa τ s (fun x s1 => match x with | .cell c => c = d ∧ Q (tab.map fun p => .str p.1) (fun _ => True) s1 | _ => False) E
end
theorem rows_madeC : True := by
  have := @Mr.gOwn2.eq_1
  have := @Mr.gOwnI.eq_1
  have := @Mr.gOwnR.eq_1
  have := @Mr.kObj.eq_1
  have := @Mr.fNegO.eq_1
  have := @Mr.fOwnC.eq_1
  have := @Mr.fPro.eq_1
  have := @Mr.gInK.eq_1
  have := @Mr.gIxK.eq_1
  have := @Mr.iKeyK.eq_1
  trivial
end Mr
namespace Mr
open PySem PySem.Spec PyProof.Rows L2 Tw
section
variable {X : Cx} {cl : CL} {j : Nat}
theorem call_strD (hr : Rm j X.A) : CallR X (.type "str") (fun xs H Q => ∃ (p : Addr) (d : PyData), xs = [.ref p] ∧ Dp X.K H (.ref p) d ∧ d.showable = true ∧ d.depth ≤ 60 ∧ d.shown.length ≤ sizeLine ∧ Q (.str d.shown) H) := by
  intro pins s σ H xs us Q I r h
  obtain ⟨p, d, rfl, hd, hs, hdp, hz, q⟩ := h
  obtain ⟨u, rfl, ru⟩ := vals1 r
  have un := hr.room.units
  have nd := noDict hd
  obtain ⟨as, rd⟩ := Dp.reads I _ _ _ hd ru
  cases ru
  refine str_of_reads rd hs (fun z => by rw [nd] at z; cases z) hr.gd (by omega) (fun _ _ z => z) (fun h' u tk k => ?_) hz
  exact ⟨.str _, H, I.kept k, ⟨_, rfl⟩, q⟩
def strLO : ON
  | _, [.lst xs] => match dats xs with | some ds => some ((PyData.list ds).showable = true ∧ (PyData.list ds).depth ≤ 60 ∧ (PyData.list ds).shown.length ≤ 1000000, .str (PyData.list ds).shown) | none => none
  | _, _ => none
theorem c_strL (hr : Rm j X.A) : BC X cl (.type "str") strLO := by
  refine ⟨_, call_strD hr, fun Z H xs Q s ts c t r so e hc p => ?_⟩
  unfold strLO at e
  split at e
  · rename_i ys
    obtain ⟨v, rfl, rv⟩ := reps1 r
    split at e
    · rename_i ds e1
      cases e
      have hd := rv.sdp so (d := .list ds) (by show Option.map _ (dats ys) = _; rw [e1]; rfl)
      cases rv with
      | lst h n rs => exact ⟨_, _, rfl, hd, hc.1, hc.2.1, Nat.le_trans hc.2.2 size6, p.here (.str _) so⟩
    · cases e
  · cases e
end
section
variable {ok : S → Prop} {g : FG} {tt : FT} {te : FE} {τ : Env} {s : S} {Q : List T → S → Prop} {ts acc : List T}
/-- [f(x) for .. in ts if p(x)], any target, nothing changes -/
theorem lc_filterG (env : T → Env) (p : T → Bool) (f : T → T) (hg : ∀ t ∈ ts, ∀ Q : Env → S → Prop, Q (env t) s → g t τ s Q) (hp : ∀ t ∈ ts, ∀ Q : Bool → S → Prop, Q (p t) s → tt (env t) s Q noX) (h : ∀ t ∈ ts, p t = true → ∀ Q : KT, Q (f t) s → te (env t) s Q noX)
    (hl : acc.length + ts.length ≤ 1000000) (k : Q (acc ++ (ts.filter p).map f) s) (ho : ok s) : lcT ok g tt te τ ts acc s Q := by
  induction ts generalizing acc with
  | nil => exact ⟨ho, by simpa using k⟩
  | cons t ts ih =>
    rw [List.length_cons] at hl
    refine ⟨ho, by omega, hg t List.mem_cons_self _ ?_⟩
    refine hp t List.mem_cons_self _ ?_
    by_cases c : p t = true
    · rw [c]
      refine w_T (h t List.mem_cons_self c _ ?_)
      refine ih (fun t ht => hg t (List.mem_cons_of_mem _ ht)) (fun t ht => hp t (List.mem_cons_of_mem _ ht)) (fun t ht => h t (List.mem_cons_of_mem _ ht)) (by simp; omega) ?_
      simpa [List.filter_cons, c] using k
    · rw [Bool.not_eq_true] at c
      rw [c]
      refine w_F (ih (fun t ht => hg t (List.mem_cons_of_mem _ ht)) (fun t ht => hp t (List.mem_cons_of_mem _ ht)) (fun t ht => h t (List.mem_cons_of_mem _ ht)) (by omega) ?_)
      simpa [List.filter_cons, c] using k
end
end Mr
namespace Mr
open PySem PySem.Spec PyProof.Rows L2 Tw
section
variable {X : Cx} {cl : CL} {W : WX} {e a b c o : Expr} {es : List Expr} {F Fa Fb Fc Fo : FE} {A Ak : FA} {pos p apos kpos : Pos} {x m : Str} {k j n cc : Nat} {D : FD} {ks : List Str} {kws : List Keyword} {gT : List T → List T → List T}
/-- f(e, .., k = v, ..) -/
def fCallK (n mm : Nat) (D : FD) (gT : List T → List T → List T) (A Ak : FA) : FE := fun τ s Q E => A τ s (fun ts s1 => Ak τ s1 (fun us s2 => (ts.length = n ∧ us.length = mm) ∧ cM D (gT ts us) s2 Q E) E) E
end
theorem rows_madeE : True := by
  have := @Mr.fCallK.eq_1
  trivial
end Mr
namespace Mr
open PySem PySem.Spec PyProof.Rows L2 Tw
abbrev PH := S → KT → KX → Prop
abbrev FH := PH → PH
def MonP (φ : PH) : Prop := ∀ s (Q Q' : KT) (E E' : KX), (∀ t s, Q t s → Q' t s) → (∀ e s, E e s → E' e s) → φ s Q E → φ s Q' E'
def cH (D : FH) : FH := fun φ s Q E => ∃ (Q0 : KT) (E0 : KX), D φ s Q0 E0 ∧ (∀ t s, Q0 t s → Q t s) ∧ ∀ e s, E0 e s → E e s
theorem cH.of {D : FH} {φ : PH} {s : S} {Q : KT} {E : KX} (h : D φ s Q E) : cH D φ s Q E := ⟨Q, E, h, fun _ _ q => q, fun _ _ q => q⟩
theorem cH.mon {D : FH} {φ : PH} {s : S} {Q Q' : KT} {E E' : KX} (hq : ∀ t s, Q t s → Q' t s) (he : ∀ e s, E e s → E' e s) (h : cH D φ s Q E) : cH D φ s Q' E' := by
  obtain ⟨Q0, E0, h1, h2, h3⟩ := h
  exact ⟨Q0, E0, h1, fun t s q => hq _ _ (h2 t s q), fun e s q => he _ _ (h3 e s q)⟩
/-- the call of what was handed in -/
def fAct (i : Nat) (t0 : T) (φ : PH) : FE := fun τ s Q E => τ[i]? = some (some t0) ∧ φ s Q E
theorem mon_act {i : Nat} {t0 : T} {φ : PH} (m : MonP φ) : MonE (fAct i t0 φ) := fun τ s Q Q' E E' hq he h => ⟨h.1, m _ _ _ _ _ hq he h.2⟩
section
variable {P : Program} {w : World} {K : PySem.W.Frag} {mg : Str → Option Value} {base : Heap} {cl : CL}
/-- a def's run from one state -/
theorem fnS {k : Nat} {f : Addr} {ps N : List Str} {name qual : Str} {pr : Arguments} {body : List Stmt} {sc : Scope} {dV kV doc pm cdv ct oc : Value} {an od : Option Addr} {osl : Array (Option Value)}
    (lk : K.lookup f = some ⟨oc, od, .func (PySem.W.fnOf name qual pr body sc dV kV doc pm an cdv ct), osl⟩) (hcd : PySem.W.codeIn K cdv qual = true) (S : FnScope N ps sc)
    {A : Around} {out : List PySem.Env} {s : Shared} {H : Hp} {args : Args} {us : List Value} {vs : List V} {Q : VK} {E : XK} (rm : Rm (k + 1) A) (ev : Env0 P w K mg base A out s H) (bd : BindsTo s (PySem.W.fnOf name qual pr body sc dV kV doc pm an cdv ct) args (ps.zip us))
    (rel : Vals vs us) (len : vs.length = ps.length)
    (hb : Rm k (A.deeper (envOfC qual sc s.heap.objs.size f cdv)) → ∃ t, PSs (cxOf (L2.CX P w) P w K mg base N qual sc f cdv A out s H E) body t ∧ t { nx := fun _ H' => Q .non H', rt := Q } (L2.start N vs) H) :
    codeAny (model P w) A (.call (.ref f) args) (CR (L2.CX P w) out P w H s Q E) s := by
  have inK : K.In s.heap := ev.mod.kin.keeps fun b o q => (ev.bs b o q).1
  have nolim := ev.mod.nolimit.keeps fun b o q => (ev.bs b o q).1
  have kinds : ∀ z ∈ ps.zip us, sc.names.lookup z.1 = some .local ∨ (sc.names.lookup z.1 = some .cell ∧ ((cellsFrom (s.heap.objs.size + 1) sc.names []).lookup z.1).isSome = true) := by
    rintro ⟨n, v⟩ hz
    exact (S.par n (List.of_mem_zip hz).1).imp id fun q => ⟨q, PySem.W.cellsFrom_some _ _ _ (.inl q)⟩
  refine codeAny_call_function rm.room.depth (inK _ _ lk) rfl S.co S.gen rfl (PySem.W.codeRec_of inK hcd) (bd _ _ _ _ ?_)
  refine wpAny_newFunctionEnv_cells S.kind kinds ?_
  rintro env rfl s1 ic
  refine ⟨nolim.keeps ic.toInCall.keep, codeAny_func ?_⟩
  obtain ⟨t, der, rd⟩ := hb (rm.deeper _)
  have J := inv_start (CX := L2.CX P w) (P := P) (w := w) (K := K) (mg := mg) (base := base) (qual := qual) (f := f) (cd := cdv) (E := E) S rm.room.hd ev len rel ic
  refine wpAny_mono (der.run [] s1 (L2.start N vs) H _ J rd) ?_ fun _ _ z => z
  intro fl s' z
  cases fl with
  | ret u =>
    obtain ⟨v, _, H', I', r', q'⟩ := z
    exact ⟨v, H', I'.os, I'.bare, I'.base, I'.hok, r', q'⟩
  | next =>
    obtain ⟨_, H', I', q'⟩ := z
    exact ⟨.non, H', I'.os, I'.bare, I'.base, I'.hok, rfl, q'⟩
  | brk => exact z.elim fun _ z => z.elim fun _ z => z.2.elim
  | cont => exact z.elim fun _ z => z.elim fun _ z => z.2.elim
end
/-- the call, as the def's text has it, in the def's context Z -/
def Acts (Z : Cx) (cl : CL) (a : Str) (t0 : T) (φ : PH) : Prop := ∀ (W' : WX) (pn : List (Addr × Obj)) (xe : Value → Shared → Prop) (p1 p2 : Pos), Takes (Z.tr pn xe) W' → JE (Z.tr pn xe) cl W' (.Call (.Name a p1) [] [] p2) (fAct 0 t0 φ)
/-- a def of one parameter that may call what it gets -/
structure LamOk (P : Program) (w : World) (K : PySem.W.Frag) (mg : Str → Option Value) (base : Heap) (cl : CL) (k : Nat) (x : Str) (D : FH) : Prop where
  ex : ∃ (g : Addr) (fd : FuncData) (a : Str) (N : List Str) (st : Stmt), C8.Fun K x x st g fd ∧ mg x = some (.ref g) ∧ PySem.W.keepIn K (.ref g) = true ∧ Binds K fd [a] [] ∧ FnScope N [a] (C8.fnScope st) ∧ N[0]? = some a ∧ Vis (C8.fnScope st) a ∧ (a == ("__debug__" : Str)) = false ∧ (a == ("__classdict__" : Str)) = false ∧
    ∀ (φ : PH) (t0 : T), MonP φ → ∃ B : FS, (∀ s Q E, D φ s Q E → B (startT N [t0]) s (endsM Q E)) ∧
      ∀ (cdv : Value) (A : Around) (out : List PySem.Env) (s : Shared) (H : Hp) (E : XK), Rm k (A.deeper (envOfC x (C8.fnScope st) s.heap.objs.size g cdv)) →
        Acts (cxOf (L2.CX P w) P w K mg base N x (C8.fnScope st) g cdv A out s H E) cl a t0 φ →
        JSs (cxOf (L2.CX P w) P w K mg base N x (C8.fnScope st) g cdv A out s H E) cl (fun cls d _ H' => E cls d H') (C8.fnBody st) B
theorem tk_lam {X : Cx} {A : Around} {outer : List PySem.Env} {s : Shared} {H : Hp} {E : XK} {scope : Scope} {f c' : Addr} : Takes (LamX.lamCx X A outer s H E scope f c') (fun cls d _ H => E cls d H) := takes_of rfl rfl rfl rfl
section
variable {X : Cx} {cl : CL} {W : WX} {k : Nat} {params : Arguments} {body : Expr} {scope : Scope} {Fb : FE}
/-- what the lambda's text says -/
abbrev LBody (X : Cx) (cl : CL) (k : Nat) (scope : Scope) (body : Expr) (Fb : FE) : Prop := ∀ (A : Around) (outer : List PySem.Env) (s : Shared) (H : Hp) (E : XK) (f c' : Addr), Rm k (A.deeper (LamX.lamEnv X scope s.heap.objs.size f c')) →
  JE (LamX.lamCx X A outer s H E scope f c') cl (fun cls d _ H' => E cls d H') body Fb
theorem je_act {pins : List (Addr × Obj)} {σ : L2.St} {τ : Env} {H : Hp} {s : Shared} {Ng : List Str} {qg : Str} {sg : Scope} {g f c' : Addr} {cdg pm ctv : Value} {a : Str} {Eg : XK} (I : Inv X pins σ H s) (L : LamX.LamS X.env.scope scope)
    (hf : s.heap.get? f = some (PySem.W.kla_obj "<lambda>" (X.env.qual ++ "<lambda>") params body scope (cloFrom X.env.cells scope.names []) pm c' ctv)) (hfn : H f = none) (hfr : f ∉ frs X.stack)
    (hbind : bindArgs (PySem.W.kla_fn "<lambda>" (X.env.qual ++ "<lambda>") params body scope (cloFrom X.env.cells scope.names []) pm (.ref c') ctv) ⟨[], []⟩ = pure [])
    (hr : Rm (k + 1) (X.A.deeper (envOfC qg sg s.heap.objs.size g cdg))) (hbody : LBody X cl k scope body Fb) (mF : MonE Fb)
    (hN : Ng[0]? = some a) (hv : Vis sg a) (hd : (a == ("__debug__" : Str)) = false) (hcd : (a == ("__classdict__" : Str)) = false) :
    Acts (cxOf (L2.CX X.prog X.w) X.prog X.w X.K X.mg X.base Ng qg sg g cdg X.A X.stack s H Eg) cl a (.lam f c' (X.env.qual ++ "<lambda>") σ τ) (fun s Q E => Fb τ s Q E) := by
  intro W' pn xe p1 p2 tk
  refine ⟨mon_act fun s Q Q' E E' hq he h => mF _ _ _ _ _ _ hq he h, ⟨fun pinsZ sZ σZ HZ Q IZ h => ?_⟩⟩
  obtain ⟨Zz, τZ, sm, re, so, hs, hφ⟩ := h
  obtain ⟨v, e1, r⟩ := re.get 0 hs
  cases r with
  | lam hc fz rE =>
    refine wpAny_Call_Name_kw (thn ((pe_var (pos := p1) (i := 0) hN hv hd hcd).run pinsZ sZ σZ HZ (fun v H1 => v = .ref f ∧ H1 = HZ) IZ ⟨.ref f, e1, rfl, rfl⟩) fun u s1 ⟨v, H1, I1, r1, q1⟩ => ?_)
    obtain ⟨ev, eH⟩ := q1
    subst ev
    rw [eH] at I1
    obtain rfl : u = Value.ref f := r1
    have of1 : s1.heap.get? f = some (PySem.W.kla_obj "<lambda>" (X.env.qual ++ "<lambda>") params body scope (cloFrom X.env.cells scope.names []) pm c' ctv) := I1.base.keep f _ hf hfn hfr (fun z => nomatch (show f ∈ ([] : List Addr) from z))
    refine PySem.W.callWith_F0 ⟨_, _, _, _, of1⟩ ?_
    have un : Un (frs X.stack) [] H HZ s.heap s1.heap := I1.base
    obtain ⟨⟨oc, vs, t, hoc, hdc, hvc⟩, _, _⟩ := I1.hok c' _ hc
    have rc : codeAny (model X.prog X.w) (X.A.deeper (envOfC qg sg s.heap.objs.size g cdg)) (.call (.ref f) ⟨[], []⟩) (CR (L2.CX X.prog X.w) (envOfC qg sg s.heap.objs.size g cdg :: X.stack) X.prog X.w HZ s1 Q (fun c d H' => W' c d σZ H')) s1 := by
      refine PySem.W.kla_callFunE hr.room.depth of1 rfl L.co L.gen rfl ⟨c', oc, vs, t, rfl, hoc, hdc, hvc⟩ ?_
      rw [hbind]
      refine wpAny_pure (wpAny_newFunctionEnv (fun y hy => (L.own y hy).2) (fun y hy => absurd hy (by simp)) (fun h₁ hns hsb => ⟨I1.nolimit.fresh _ hsb, ?_⟩) L.kind)
      have kp : ∀ b o, s1.heap.get? b = some o → h₁.get? b = some o := fun b o e => hsb.extBut b o (Nat.ne_of_lt (Heap.lt_size e)) (Heap.get?_push_of_some _ e)
      have J : Inv (LamX.lamCx X (X.A.deeper (envOfC qg sg s.heap.objs.size g cdg)) (envOfC qg sg s.heap.objs.size g cdg :: X.stack) s1 HZ (fun c d H' => W' c d σZ H') scope f c') [] σ HZ { s1 with heap := h₁, toks := s1.toks + ([] : List (Str × Value)).length } :=
        LamX.lam_start2 I L I1.env0 hr.room.hd un hns kp
      have hb := hbody (X.A.deeper (envOfC qg sg s.heap.objs.size g cdg)) (envOfC qg sg s.heap.objs.size g cdg :: X.stack) s1 HZ (fun c d H' => W' c d σZ H') f c' (hr.deeper _)
      refine PySem.W.kla_codeExpr (wpAny_mono (hb.pe.run [] _ _ HZ Q J ⟨Zz, τ, sm, rE, so, hφ⟩) (fun v s' hq => ?_) fun e s' hq => hq)
      obtain ⟨w', H', J', rv, q⟩ := hq
      exact ⟨w', H', J'.os, J'.bare, J'.base, J'.hok, rv, q⟩
    refine wpAny_call (codeAny_mono rc fun r s' hq => ?_)
    match r, hq with
    | .error e, hq => exact pass_tk tk HZ s1 e s' I1 hq
    | .ok (.ret u), hq => exact I1.after hq
    | .ok .next, hq => exact False.elim hq
    | .ok .brk, hq => exact False.elim hq
    | .ok .cont, hq => exact False.elim hq
end
/-- tables grow, all else stays -/
theorem Fut.extN {s : S} {H H1 : Hp} (e : LamX.ExtN H H1) : Fut s H s H1 := .all (fun b o h n nt => ⟨e b o h nt, n⟩) fun _ h => h
theorem Sto.extN {K : PySem.W.Frag} {cl : CL} {Z : Addr → Prop} {s : S} {H H1 : Hp} (so : Sto K cl Z s H) (e : LamX.ExtN H H1) (t : LamX.Tabs cl.t H1) : Sto K cl Z s H1 where
  pen := fun q hq => by
    obtain ⟨L, a, r, ns, h1, h2, h3, h4⟩ := so.pen q hq
    exact ⟨L, a, r, ns, e _ _ h1 (penO_pl _ _ _ _).1, e _ _ h2 nofun, h3, h4⟩
  cells := fun a c h => by
    obtain ⟨o, ho, hp⟩ := crep_pl (so.cells a c h)
    exact (so.cells a c h).at (Fut.extN e) ((e a o ho hp.1).trans ho.symm)
  apart := so.apart
  hid := fun b hb => by
    obtain ⟨n, xs, hx⟩ := so.hid b hb
    exact ⟨n, xs, e _ _ hx nofun⟩
  tabs := t
theorem fz_code {K : PySem.W.Frag} {cl : CL} {Z : Addr → Prop} {s : S} {H : Hp} {c : Addr} {q : Str} (so : Sto K cl Z s H) (h : H c = some (LamX.CodeO c q)) : Fz Z s c := by
  constructor
  · rintro (m | m)
    · obtain ⟨L, a, r, ns, h1, _⟩ := so.pen c m
      rw [h] at h1
      exact (penO_pl _ _ _ _).2 _ (Option.some.inj h1).symm
    · obtain ⟨cc, hc⟩ := Option.ne_none_iff_exists'.mp m
      obtain ⟨o, ho, hp⟩ := crep_pl (so.cells c cc hc)
      rw [h] at ho
      exact hp.2 _ (Option.some.inj ho).symm
  · intro z
    obtain ⟨_, xs, hx⟩ := so.hid c z
    rw [h] at hx
    cases hx
section
variable {X : Cx} {cl : CL} {W : WX} {k kh j : Nat} {params : Arguments} {body : Expr} {scope : Scope} {Fb : FE} {D : FH} {x : Str} {p lpos pos : Pos} {c P : Addr}
def fLam (D : FH) (Fb : FE) : FE := fun τ s Q E => cH D (fun s Q E => Fb τ s Q E) s Q E
theorem mon_lam : MonE (fLam D Fb) := fun τ s Q Q' E E' hq he h => h.mon hq he
/-- x(lambda: body) -/
theorem je_lam (tk : Takes X W) (d : LamOk X.prog X.w X.K X.mg X.base cl kh x D) (hr : Rm j X.A) (hk : kh + 1 ≤ j) (hk2 : k + 2 ≤ j) (hg : Gl X x)
    (TB : LamX.TabB X.base X.mg c P) (hcode : X.env.code = .ref c) (hmT : (P, X.env.qual ++ "<lambda>") ∈ cl.t) (hu : ∀ p ∈ cl.t, p.1 = P → p.2 = X.env.qual ++ "<lambda>") (L : LamX.LamS X.env.scope scope)
    (hbody : LBody X cl k scope body Fb)
    (hdef : defaultsOf params X.env = ([], []) := by rfl)
    (hbind : ∀ (q : Str) (cs : List (Str × Addr)) (pm cv ctv : Value), bindArgs (PySem.W.kla_fn "<lambda>" q params body scope cs pm cv ctv) ⟨[], []⟩ = pure [] := by intros; rfl) (hdb : (x == ("__debug__" : Str)) = false := by decide) :
    JE X cl W (.Call (.Name x p) [.Lambda params body scope lpos] [] pos) (fLam D Fb) := by
  obtain ⟨g, fd, a, N, st, Fn, hm, kp, bd, Sg, hN, hva, hd, hcd, bod⟩ := d.ex
  refine ⟨mon_lam, ⟨fun pins s σ H Q I h => ?_⟩⟩
  obtain ⟨Zz, τ, sm, re, so, Q0, E0, h1, h2, h3⟩ := h
  obtain ⟨j', rfl⟩ : ∃ j', j = j' + 1 := ⟨j - 1, by omega⟩
  have mF : MonE Fb := (hbody (X.A.deeper X.env) [] s H (fun _ _ _ => False) 0 0 (((hr.deeper X.env).mono (show k + 1 ≤ j' by omega)).deeper _)).mon
  refine wpAny_Call_Name_kw (ld_glob I hg hm ?_ hdb)
  refine PySem.W.callWith_K (h₀ := X.base) I.ok.mod.kin kp ?_ (by rfl) (by rfl)
  show wpAny _ _ (spliced ((false, eval (.Lambda params body scope lpos) X.env) :: backTo pos (starEach [] X.env))) _ _ s
  refine Calls.spliced_cons (LamX.lam_make2 I TB hcode hmT hu so.tabs hdef (L.has I.ok) fun f c' pm' ctv H1 s' I1 eN T1 hf hfn hfr hco => ?_)
  refine Calls.spliced_nil ⟨I1.kIn, ?_⟩
  have so1 := so.extN eN T1
  have re1 : REnv X.K cl Zz sm H1 σ τ := re.fut (Fut.extN eN)
  have rl : Rep X.K cl Zz sm H1 (.ref f) (.lam f c' (X.env.qual ++ "<lambda>") σ τ) := .lam hco (fz_code so1 hco) re1
  obtain ⟨oc, od, dV, kV, doc, pm, an, cdv, ct, osl, rfl, lk, hcg⟩ := Fn.ex
  obtain ⟨B, hB, jB⟩ := bod (fun s Q E => Fb τ s Q E) (.lam f c' (X.env.qual ++ "<lambda>") σ τ) (fun s Q Q' E E' hq he h => mF _ _ _ _ _ _ hq he h)
  have rc : codeAny (model X.prog X.w) X.A (.call (.ref g) ⟨[.ref f], []⟩) (CR (L2.CX X.prog X.w) X.stack X.prog X.w H1 s' Q (fun c d H' => W c d σ H')) s' := by
    refine fnS (k := j') (ps := [a]) (us := [.ref f]) (vs := [.ref f]) lk hcg Sg hr I1.env0 (bd s' [.ref f] I1.kIn rfl) (.cons rfl .nil) rfl fun hr' => ?_
    have jj := jB cdv X.A X.stack s' H1 (fun c d H' => W c d σ H') (hr'.mono (by omega)) (je_act (k := k) I1 L hf hfn hfr (hbind _ _ _ _ _) (hr'.mono (by omega)) hbody mF hN hva hd hcd)
    refine ⟨_, jj.pss, Zz, startT N [.lam f c' (X.env.qual ++ "<lambda>") σ τ], sm, RepE.start (.cons rl .nil), so1, jj.mon _ _ _ _ ?_ (hB _ _ _ h1)⟩
    refine ⟨fun τ s' q σ' H' f' _ so' => post.up (Fut.extN eN) (h2 _ _ q) _ _ f' .non so', fun t s' q => post.up (Fut.extN eN) (h2 _ _ q), fun τ s' q => q.elim, fun τ s' q => q.elim, fun er τ s' q d σ' H' f' x _ so' => postX.up (Fut.extN eN) (h3 _ _ q) d H' f' x so'⟩
  refine wpAny_call (codeAny_mono rc fun r s2 hq => ?_)
  match r, hq with
  | .error e, hq => exact pass_tk tk H1 s' e s2 I1 hq
  | .ok (.ret u), hq => exact I1.after hq
  | .ok .next, hq => exact False.elim hq
  | .ok .brk, hq => exact False.elim hq
  | .ok .cont, hq => exact False.elim hq
end
end Mr
namespace Mr
open PySem PySem.Spec PyProof.Rows L2 Tw
section
variable {P : Program} {w : World} {K : PySem.W.Frag} {mg mb : Str → Option Value} {k : Nat} {fa a : Addr} {fd : FuncData} {x : Str} {sp : Sp} {s : Shared} {vs : List Value} {ns : List Int} {tb : List (Addr × Addr)}
theorem lawT_from {H : Hp} {ob : Obj} (inK0 : K.In s.heap) (gm : s.heap.Ns mainGlobals mg) (gb : s.heap.Ns builtinsNs mb) (gbb : ∀ x : Str, x ≠ "__name__" → mb x = bootBuiltins x) (lim : s.heap.NoLimit) (gs : s.gens = #[])
    (bmain : ∃ (bm : Addr) (o : Obj), mg "__builtins__" = some (.ref bm) ∧ bm ≠ builtinsNs ∧ s.heap.get? bm = some o ∧ o.cls = .type "module" ∧ o.dict = some builtinsNs ∧ o.data = .plain)
    (hob : s.heap.get? a = some ob) (hseq : ∃ its n, ob.data = .seq its n) (ok : HOk P w H s.heap)
    (only : ∀ b u, H b = some u → (b = a ∧ K.lookup a = none ∧ ∃ y, u = .frz ob y) ∨ ((∃ p ∈ tb, p.2 = b) ∧ u = .tbl #[])) (tH : ∀ p ∈ tb, H p.2 = some (.tbl #[]))
    (tK : ∀ p ∈ tb, K.lookup p.2 = none) (tC : ∀ p ∈ tb, PySem.W.CodeHd s.heap p.1 p.2) (rm : Rm k callerA)
    (F : ∀ base : Heap, (∀ p ∈ tb, LamX.TabB base mg p.1 p.2) → FnG P w K mg base k fa fd [x] sp) (bd : ∀ (s : Shared) (u : Value), BindsTo s fd ⟨[u], []⟩ [(x, u)]) (want : sp [.ref a] H (fun v _ => v = .bl true) fun _ _ _ => False) :
    codeAny (model P w) callerA (.call (.ref fa) ⟨[.ref a], []⟩) (Done s) s := by
  have tObj : ∀ p ∈ tb, s.heap.get? p.2 = some { cls := .none, data := .fields #[] } := fun p hp => ok p.2 _ (tH p hp)
  -- what is neither a sequence nor an empty table is not tracked
  have un0 : ∀ (b : Addr) (o : Obj), s.heap.get? b = some o → (∀ its n, o.data ≠ .seq its n) → o.data ≠ .fields #[] → H b = none := by
    intro b o g n1 n2
    rcases q : H b with _ | u
    · rfl
    · rcases only b u q with ⟨rfl, -, -⟩ | ⟨⟨p, hp, rfl⟩, -⟩
      · obtain ⟨its, n, d⟩ := hseq
        rw [hob] at g
        injection g with g
        subst g
        exact (n1 _ _ d).elim
      · rw [tObj p hp] at g
        injection g with g
        subst g
        exact (n2 rfl).elim
  have stays : ∀ (b : Addr) (m : Str → Option Value), s.heap.Ns b m → (hidT s.heap H).Ns b m := by
    rintro b m ⟨o, es, n, g, d, r⟩
    exact ⟨o, es, n, hidT_get g (un0 b o g (fun _ _ z => by rw [d] at z; cases z) fun z => by rw [d] at z; cases z), d, r⟩
  have inB : K.In (hidT s.heap H) := by
    intro b o g
    refine hidT_get (inK0 b o g) ?_
    rcases q : H b with _ | u
    · rfl
    · rcases only b u q with ⟨rfl, z, -⟩ | ⟨⟨p, hp, rfl⟩, -⟩
      · rw [z] at g
        cases g
      · rw [tK p hp] at g
        cases g
  have md : Mod K mg (hidT s.heap H) := by
    obtain ⟨mc, l1, l2⟩ := lim
    exact { kin := inB, glob := stays _ _ gm, blt := ⟨mb, stays _ _ gb, gbb⟩, nolimit := ⟨mc, stays _ _ l1, l2⟩ }
  have ev : Env0 P w K mg (hidT s.heap H) callerA [] s H :=
    { frames := rfl, mod := md, bs := fun _ _ g => of_hidT g, bsz := Nat.le_of_eq (hidT_size _ _), funs := trivial, frf := fun _ z => (nomatch z), hok := ok, bare := .of_eq gs }
  have tabB : ∀ p ∈ tb, LamX.TabB (hidT s.heap H) mg p.1 p.2 := by
    intro p hp
    have tP := tObj p hp
    have nG : mainGlobals ≠ p.2 := by
      intro z
      obtain ⟨o, es, n, g, d, _⟩ := gm
      rw [z, tP] at g
      injection g with g
      subst g
      cases d
    constructor
    · obtain ⟨o, us, fl, tf, fg, tg, inF, tx, tt, e1, r1, r2, r3, rest⟩ := tC p hp
      refine ⟨o, us, fl, tf, fg, tg, inF, tx, tt, hidT_get e1 (un0 _ _ e1 (fun _ _ z => ?_) fun z => ?_), r1, r2, r3, rest⟩
      · rw [r2] at z
        cases z
      · rw [r2] at z
        injection z with z
        rw [z] at r3
        simp at r3
    · obtain ⟨bm, o, b1, b2, b3, b4, b5, b6⟩ := bmain
      have x1 : bm ≠ mainGlobals := by
        intro z
        obtain ⟨o', es, n, g, d, _⟩ := gm
        rw [z, g] at b3
        injection b3 with b3
        subst b3
        rw [d] at b6
        cases b6
      have x2 : bm ≠ p.2 := by
        intro z
        rw [z, tP] at b3
        injection b3 with b3
        subst b3
        cases b6
      exact ⟨bm, o, b1, b2, x1, x2, hidT_get b3 (un0 _ _ b3 (fun _ _ z => by rw [b6] at z; cases z) fun z => by rw [b6] at z; cases z), b4, b5, b6⟩
    · exact nG
  have go := (F (hidT s.heap H) tabB).run callerA [] s H ⟨[.ref a], []⟩ [.ref a] [.ref a] _ _ rm ev (bd s (.ref a)) (Paired.cons rfl .nil) want
  refine codeAny_mono go ?_
  rintro (e | (_ | _ | _ | u)) s' h
  · obtain ⟨_, _, _, _, _, _, _, _, _, _, _, _, no⟩ := h
    exact no.elim
  · exact h.elim
  · exact h.elim
  · exact h.elim
  · obtain ⟨v, H', eo, eb, un, ok', rel, rfl⟩ := h
    have eu : u = Value.bool true := rel
    have grow : ∀ p ∈ tb, ∃ more : Array Value, s'.heap.get? p.2 = some { cls := .none, data := .fields more } := by
      intro p hp
      obtain ⟨more, z⟩ := un.tbls p.2 #[] (tH p hp)
      exact ⟨_, ok' p.2 _ z⟩
    have same : ∀ b o, s.heap.get? b = some o → (¬ ∃ p ∈ tb, p.2 = b) → s'.heap.get? b = some o := by
      intro b o g nt
      rcases q : H b with _ | y
      · exact un.keep b o g q (fun z => nomatch z) (fun z => nomatch z)
      · rcases only b y q with ⟨rfl, -, y, rfl⟩ | ⟨t, -⟩
        · rw [hob] at g
          injection g with g
          subst g
          exact (ok' b _ (un.frzs b _ _ q)).1
        · exact (nt t).elim
    refine ⟨by rw [eu], ⟨fun b o g => ?_, fun b o g => ?_⟩, eo, eb⟩
    · by_cases t : ∃ p ∈ tb, p.2 = b
      · obtain ⟨p, hp, rfl⟩ := t
        obtain ⟨more, m⟩ := grow p hp
        have tP := tObj p hp
        rw [tP] at g
        injection g with g
        subst g
        exact .inr (.inl ⟨((tC p hp).tab tP).isCodeTable, rfl, #[], more, rfl, by rw [Array.empty_append]; exact m⟩)
      · exact .inl (same b o g t)
    · by_cases t : ∃ p ∈ tb, p.2 = b
      · obtain ⟨p, hp, rfl⟩ := t
        obtain ⟨more, m⟩ := grow p hp
        exact ⟨_, m⟩
      · exact ⟨o, same b o g t⟩
end
section
variable {k : Nat} {x : Str}
theorem lawT {n : Nat} {l : PySem.W.OpenLaw} {q : Program} {loose : List Str} {XP : (Str → Option Value) → Heap → Prop} {YP : World → Heap → Prop} {d : DefRec} {K : Params → PySem.W.Frag}
    (hn : l.most = some n) (small : n ≤ 63) (nodef : d.params.defaults = []) (rm : Rm k callerA) (hY : ∀ (w : World) (h : Heap), YP w h → (K w.params).In h)
    (F : ∀ (w : World) (mg : Str → Option Value) (fa : Addr) (h : Heap), YP w h → (K w.params).In h → h.Ns mainGlobals mg → mg d.name = some (.ref fa) →
      ∃ (fd : FuncData) (tb : List (Addr × Addr)) (cl : CL), (∀ p ∈ tb, (K w.params).lookup p.2 = none ∧ PySem.W.CodeHd h p.1 p.2 ∧ h.get? p.2 = some { cls := .none, data := .fields #[] }) ∧ (∀ p ∈ cl.t, ∃ r ∈ tb, r.2 = p.1) ∧
        (∀ (s : Shared) (u : Value), BindsTo s fd ⟨[u], []⟩ [(x, u)]) ∧ ∀ base : Heap, (∀ p ∈ tb, LamX.TabB base mg p.1 p.2) → FnG l.prog w (K w.params) mg base k fa fd [x] (spLaw cl (K w.params))) :
    PySem.W.WalkO q loose XP YP l.row.toRowW d [] (fun f vs => PySem.call f vs) := by
  refine Att.attach_call hn nodef ?_
  intro w s₀ s mg mb fa o pm cd doc a vs ns G Y ho hd hcd hmg hobj hints hlen hg
  have inK := hY w _ Y
  obtain ⟨fd, tb, cl, tF, tS, bd, hF⟩ := F w mg fa _ Y inK G.T.g hmg
  have rel := vals_ints hints
  have len : vs.length = ns.length := hints.length
  have size : ns.length ≤ sizeLine := Nat.le_trans (Nat.le_trans hlen small) (by decide)
  have na : ¬ ∃ p ∈ tb, p.2 = a := by
    rintro ⟨p, hp, e⟩
    have z := (tF p hp).2.2
    rw [e, hobj] at z
    injection z with z
    injection z with z1 z2 z3 z4
    cases z3
  have wantT : ∀ H : Hp, (∀ p ∈ tb, H p.2 = some (.tbl #[])) → SqL (K w.params) H a (ns.map V.int) → spLaw cl (K w.params) [.ref a] H (fun v _ => v = .bl true) fun _ _ _ => False := by
    intro H tH sq
    refine ⟨a, ns, rfl, sq, Nat.le_trans hlen small, fun p hp => ?_, fun _ => rfl⟩
    obtain ⟨r, hr, e⟩ := tS p hp
    exact LamX.TabS.nil (e ▸ tH r hr)
  open Classical in
  rcases lk : (K w.params).lookup a with _ | o1
  · let H : Hp := fun b => if b = a then some (.frz { cls := .type "list", data := .seq vs.toArray } (.lst (ns.map V.int))) else if (∃ p ∈ tb, p.2 = b) then some (.tbl #[]) else none
    have at_a : H a = some (.frz { cls := .type "list", data := .seq vs.toArray } (.lst (ns.map V.int))) := if_pos rfl
    have tH : ∀ p ∈ tb, H p.2 = some (.tbl #[]) := fun p hp => (if_neg fun e => na ⟨p, hp, e⟩).trans (if_pos ⟨p, hp, rfl⟩)
    have only : ∀ b u, H b = some u → (b = a ∧ u = .frz { cls := .type "list", data := .seq vs.toArray } (.lst (ns.map V.int))) ∨ ((∃ p ∈ tb, p.2 = b) ∧ u = .tbl #[]) := by
      intro b u z
      by_cases e : b = a
      · subst e
        rw [at_a] at z
        injection z with z
        exact .inl ⟨rfl, z.symm⟩
      · by_cases t : ∃ p ∈ tb, p.2 = b
        · have z2 : H b = some (.tbl #[]) := (if_neg e).trans (if_pos t)
          rw [z2] at z
          injection z with z
          exact .inr ⟨t, z.symm⟩
        · have z2 : H b = none := (if_neg e).trans (if_neg t)
          rw [z2] at z
          cases z
    refine lawT_from (H := H) (tb := tb) inK G.T.g G.T.b G.T.builtins G.T.nolimit hg G.T.bmain hobj ⟨_, _, rfl⟩ ?_ ?_ tH (fun p hp => (tF p hp).1) (fun p hp => (tF p hp).2.1) rm hF bd (wantT H tH (.inl (.inr ⟨_, at_a⟩)))
    · intro b u z
      rcases only b u z with ⟨rfl, rfl⟩ | ⟨⟨p, hp, rfl⟩, rfl⟩
      · exact ⟨hobj, by rw [List.length_map]; exact size, vs, _, rel, hobj⟩
      · exact (tF p hp).2.2
    · intro b u z
      rcases only b u z with ⟨rfl, rfl⟩ | t
      · exact .inl ⟨rfl, lk, _, rfl⟩
      · exact .inr t
  · have g := inK a o1 lk
    rw [hobj] at g
    injection g with g
    subst g
    let H : Hp := fun b => if (∃ p ∈ tb, p.2 = b) then some (.tbl #[]) else none
    have tH : ∀ p ∈ tb, H p.2 = some (.tbl #[]) := fun p hp => if_pos ⟨p, hp, rfl⟩
    have only : ∀ b u, H b = some u → (∃ p ∈ tb, p.2 = b) ∧ u = .tbl #[] := by
      intro b u z
      by_cases t : ∃ p ∈ tb, p.2 = b
      · have z2 : H b = some (.tbl #[]) := if_pos t
        rw [z2] at z
        injection z with z
        exact ⟨t, z.symm⟩
      · have z2 : H b = none := if_neg t
        rw [z2] at z
        cases z
    refine lawT_from (H := H) (tb := tb) inK G.T.g G.T.b G.T.builtins G.T.nolimit hg G.T.bmain hobj ⟨_, _, rfl⟩ ?_ ?_ tH (fun p hp => (tF p hp).1) (fun p hp => (tF p hp).2.1) rm hF bd (wantT H tH (.inr ⟨_, vs.toArray, _, lk, rfl, rfl, rfl, ?_, ?_⟩))
    · intro b u z
      obtain ⟨⟨p, hp, rfl⟩, rfl⟩ := only b u z
      exact (tF p hp).2.2
    · intro b u z
      exact .inr (only b u z)
    · rw [List.size_toArray]
      omega
    · rw [List.toList_toArray]
      exact rel
end
/-- a name for a table, told once -/
theorem tab_one {t : List (Addr × Str)} {P : Addr} {q : Str} (h : (P, q) ∈ t) (nd : (t.map (·.1)).Nodup) : ∀ p ∈ t, p.1 = P → p.2 = q := by
  induction t with
  | nil => cases h
  | cons a r ih =>
    rw [List.map_cons, List.nodup_cons] at nd
    intro p hp e
    rcases List.mem_cons.mp h with h1 | h1
    · rcases List.mem_cons.mp hp with h2 | h2
      · rw [h2, ← h1]
      · exact (nd.1 (List.mem_map.mpr ⟨p, h2, by rw [e, ← h1]⟩)).elim
    · rcases List.mem_cons.mp hp with h2 | h2
      · exact (nd.1 (List.mem_map.mpr ⟨_, h1, by rw [← e, h2]⟩)).elim
      · exact ih h1 nd.2 p h2 e
end Mr
namespace Mr
open PySem PySem.Spec PyProof.Rows L2 Tw
section
variable {prog : Program} {w : World} {A : Around} {E : Value → Shared → Prop} {s : Shared}
theorem iter_by {M : Model} {v : Value} {Q P : Value → Shared → Prop} {E0 : Value → Shared → Prop} (h : wpAny M A (pyIter v) P E0 s) (hq : ∀ it s', P it s' → Q it s') (he : ∀ e s', E0 e s' → E e s') : wpAny M A (pyIter v) Q E s := wpAny_mono h hq he
theorem enum_new (a : Addr) (o : Obj) :
    MeetsIn prog w (Builtin.«enumerate.__new__» ⟨[.type "enumerate", .ref a], []⟩) (fun A R s => s.heap.get? a = some o ∧ wpAny (model prog w) A.in1 (pyIter (.ref a)) (fun it s1 => R (.ok (.ret (.ref s1.heap.objs.size)))
        { s1 with heap := s1.heap.push { cls := .type "enumerate", data := .fields #[.none, .bool false, it, rawInt 0, .none, .none] } }) (fun e s1 => R (.error e) s1) s) :=
  .of_wp fun A R s h => by
    obtain ⟨hp, g, d, tk, os⟩ := s
    obtain ⟨hl, h⟩ := h
    have hsub := sub_enumerate
    wp_walk using AutoSeq1.wpAny_loadPart' hl
    refine wpAny_stack_any fun st => wpAny_pure ?_
    split
    · rename_i c _ _ _ _ _
      cases (c == Value.type "enumerate")
      · wp_walk using AutoSeq1.wpAny_loadPart' hl, iter_by h
        case hq =>
          intro it s' hR
          wp_walk
          exact ⟨_, rfl, hR⟩
        case he => exact fun _ _ x => x
      · wp_walk using AutoSeq1.wpAny_loadPart' hl, iter_by h
        case hq =>
          intro it s' hR
          wp_walk
          exact ⟨_, rfl, hR⟩
        case he => exact fun _ _ x => x
    · wp_walk using AutoSeq1.wpAny_loadPart' hl, iter_by h
      case hq =>
        intro it s' hR
        wp_walk
        exact ⟨_, rfl, hR⟩
      case he => exact fun _ _ x => x
theorem call_enum {a : Addr} {o : Obj} {Q : Value → Shared → Prop} (ha : s.heap.get? a = some o)
    (h : wpAny (model prog w) A.in1.in1 (pyIter (.ref a)) (fun v s1 => ∃ it, v = .ref it ∧ ∀ h', IsEnum h' s1.heap.objs.size it 0 .none → h'.objs.size = s1.heap.objs.size + 1 → (∀ b o, s1.heap.get? b = some o → h'.get? b = some o) → Q (.ref s1.heap.objs.size) { s1 with heap := h' }) E s) :
    wpAny (model prog w) A (call (.type "enumerate") [.ref a]) Q E s := by
  refine callType_newIn F.called_enumerate (by decide) (F.typeCall_enumerate_1 _) (F.newCall_enumerate_1 _) (fun obj => F.args_object_init_2 obj _) F.entry_enumerate_new (enum_new a o) ⟨ha, ?_⟩
  refine wpAny_mono h (fun v s1 ⟨it, ev, q⟩ => ?_) fun e s1 q => q
  subst ev
  have he : IsEnum (s1.heap.push { cls := .type "enumerate", data := .fields #[.none, .bool false, .ref it, rawInt 0, .none, .none] }) s1.heap.objs.size it 0 .none := Heap.get?_push_size _ rfl
  exact ⟨⟨_, he, rfl⟩, q _ he (by rw [Heap.size_push]) fun b o x => Heap.get?_push_of_some _ x⟩
end
/-- the method __iter__ of the class c: return iter(self.f) -/
structure IterM (P : Program) (w : World) (K : PySem.W.Frag) (mg : Str → Option Value) (base : Heap) (cl : CL) (k : Nat) (c : Nat) (fn : Str) : Prop where
  ex : ∃ f : Addr, Cls K (cl c) ∧ Meth K (cl c) "__iter__" f ∧ ∀ (A : Around) (out : List PySem.Env) (s : Shared) (H : Hp) (a dx l : Addr) (fs : List (Str × V)) (zs : List V) (Q : VK), Rm k A → Env0 P w K mg base A out s H → H a = some (.ins (cl c) dx fs) → fs.lookup fn = some (.ref l) → SqL K H l zs →
    (∀ it, H it = none → s.heap.objs.size ≤ it → Q (.ref it) (upd H it (ItO l it 0))) → codeAny (model P w) A (.call (.ref f) ⟨[.ref a], []⟩) (CR (L2.CX P w) out P w H s Q (fun _ _ _ => False)) s
theorem iterOf {P : Program} {w : World} {K : PySem.W.Frag} {mg : Str → Option Value} {base : Heap} {cl : CL} {c : Nat} {fn qual self : Str} {st : Stmt} {N : List Str} {p1 p2 p3 p4 p5 : Pos} (d : MetAt K (cl c) "__iter__" qual st [self] []) (S : FnScope N [self] (C8.fnScope st)) (na : NoAttr K (cl c) fn) (hm : mg "iter" = none)
    (hb : C8.fnBody st = [.Return (some (.Call (.Name "iter" p1) [.Attribute (.Name self p2) fn p3] [] p4)) p5]) (hN : N[0]? = some self) (hv : Vis (C8.fnScope st) self) (hd : (self == ("__debug__" : Str)) = false) (hcd : (self == ("__classdict__" : Str)) = false)
    (hg : (C8.fnScope st).names.lookup ("iter" : Str) = some .globalImplicit) : IterM P w K mg base cl 2 c fn := by
  obtain ⟨f, fd, ds, C, me, F, b, v⟩ := d.ex
  cases v
  obtain ⟨oc, od, dV, kV, doc, pm, an, cdv, ct, osl, rfl, lk, hc⟩ := F.ex
  refine ⟨f, C, me, fun A out s H a dx l fs zs Q rm ev ha hl hq q => ?_⟩
  have bb := b s [.ref a] (ev.mod.kin.keeps fun b o q => (ev.bs b o q).1) rfl
  refine fnS (k := 1) (us := [.ref a]) (vs := [.ref a]) lk hc S rm ev bb (.cons rfl .nil) rfl fun _ => ?_
  rw [hb]
  refine ⟨_, pss_one (ps_ret (pe_callB (X := cxOf (L2.CX P w) P w K mg base N qual (C8.fnScope st) f cdv A out s H (fun _ _ _ => False)) ItX.call_iterN hg hm boot_iter (pa_cons (pe_fld (pe_var (i := 0) hN hv hd hcd) rfl) pa_nil))), ?_⟩
  have h0 : (L2.start N [V.ref a])[0]? = some (some (V.ref a)) := by
    unfold L2.start
    rfl
  exact ⟨_, h0, a, _, dx, fs, _, rfl, ha, C, na, hl, l, zs, rfl, hq, q⟩
section
variable {X : Cx} {cl : CL} {W : WX} {k j c : Nat} {fn : Str} {e : Expr} {Fa : FE} {p pos tpos : Pos} {elts : List Expr} {kk : Nat}
/-- pairs of a number and an item -/
def enumT : Nat → List T → List T
  | _, [] => []
  | n, t :: r => .tup [.int (n : Int), t] :: enumT (n + 1) r
theorem enumT_get : ∀ (n i : Nat) (ts : List T) (t : T), (enumT n ts)[i]? = some t → ∃ u, ts[i]? = some u ∧ t = .tup [.int ((n + i : Nat) : Int), u]
  | n, i, [], t, h => by simp [enumT] at h
  | n, 0, u :: r, t, h => by
    simp only [enumT, List.getElem?_cons_zero, Option.some.injEq] at h
    exact ⟨u, by simp, h.symm⟩
  | n, i + 1, u :: r, t, h => by
    simp only [enumT, List.getElem?_cons_succ] at h
    obtain ⟨u', h1, h2⟩ := enumT_get (n + 1) i r t h
    exact ⟨u', by simpa using h1, by rw [h2]; congr 3; omega⟩
theorem enumT_len : ∀ (n : Nat) (ts : List T), (enumT n ts).length = ts.length
  | _, [] => rfl
  | n, _ :: r => congrArg (· + 1) (enumT_len (n + 1) r)
theorem src_enum {K : PySem.W.Frag} {Z : Addr → Prop} {s : S} {H : Hp} {a : Addr} {vs : List V} {ts : List T} {ok : S → Prop} (keep : ∀ s' H', Fut s H s' H' → SqL K H' a vs) (r : Reps K cl Z s H vs ts) : Src K cl Z (Ite K a) (enumT 0 ts) ok s H where
  go := fun Z' s2 H2 i t f zz ok so2 e => by
    obtain ⟨u, e1, rfl⟩ := enumT_get 0 i ts t e
    obtain ⟨v, ev, rv⟩ := r.get i e1
    refine ⟨⟨_, v, keep _ _ f, ev⟩, ?_⟩
    rintro y H' ⟨T0, x, rfl, hT, rfl, hx⟩
    have ex := hx _ (keep _ _ f)
    rw [ev] at ex
    cases ex
    refine ⟨Fut.new hT, so2.new hT, ?_⟩
    rw [Nat.zero_add]
    exact .tup upd_same (so2.nomut hT) (.cons (.int _) (.cons ((rv.futz f zz).fut (Fut.new hT)) .nil))
  stop := fun Z' s2 H2 i f zz ok so2 e => by
    rw [enumT_len] at e
    exact ⟨_, keep _ _ f, by rw [r.length]; exact e⟩
theorem lst_keep {K : PySem.W.Frag} {Z : Addr → Prop} {s : S} {H : Hp} {v : V} {xs : List T} (r : Rep K cl Z s H v (.lst xs)) : ∃ a vs, v = .ref a ∧ Reps K cl Z s H vs xs ∧ ∀ s' H', Fut s H s' H' → SqL K H' a vs := by
  cases r with
  | lst h n q => exact ⟨_, _, rfl, q, fun s' H' f => SqL.of (f.keep _ _ h n.1 (NT.lst _)).1⟩
/-- what enumerate walks: a list, or an instance of the class c by its field fn -/
def S.enum? (s : S) (c : Nat) (fn : Str) (x : T) : Option (List T) := match x with
  | .lst ts => some ts
  | _ => match s.obj? x with | some (d, fs) => if d = c then (match fs.lookup fn with | some (.lst ts) => some ts | _ => none) else none | none => none
def iEnum (c : Nat) (fn : Str) (A : FA) : FI := fun τ s Q E => A τ s (fun xs s1 => match xs with | [x] => (match s1.enum? c fn x with | some ts => Q (enumT 0 ts) (fun _ => True) s1 | none => False) | _ => False) E
end
theorem rows_madeH : True := by
  have := @Mr.iEnum.eq_1
  have := @Mr.fAct.eq_1
  have := @Mr.fLam.eq_1
  trivial
end Mr
namespace Mr
open PySem PySem.Spec PyProof.Rows L2 Tw
section
variable {X : Cx} {cl : CL} {W : WX} {k j cc : Nat} {e o i : Expr} {es : List Expr} {Fa Fo Fi : FE} {A : FA} {D : FD} {p pos pos' : Pos}
/-- *e, .. -/
def fStar (Fa : FE) (A : FA) : FA := fun τ s Q E => Fa τ s (fun x s1 => match s1.seq? x with | some (_, xs) => A τ s1 (fun ys s2 => Q (xs ++ ys) s2) E | none => False) E
def fSetO (cc : Nat) (D : FD) (Fo Fi Fa : FE) : FS := fun τ s E => Fa τ s (fun v s1 => Fo τ s1 (fun x s2 => Fi τ s2 (fun y s3 => kObj cc s3 x (cM D [x, y, v] s3 (fun _ s4 => E.nx τ s4) (xk τ E))) (xk τ E)) (xk τ E)) (xk τ E)
def mCase (c : Str) (B : FS) (M : Str → FS) : Str → FS := fun z τ s D => if decide (z = c) = true then B τ s D else M z τ s D
def fMatch (Fa : FE) (M : Str → FS) : FS := fun τ s D => Fa τ s (fun x s1 => match x with | .str z => M z τ s1 D | _ => False) (xk τ D)
end
theorem rows_madeI : True := by
  have := @Mr.fStar.eq_1
  have := @Mr.fSetO.eq_1
  have := @Mr.mCase.eq_1
  have := @Mr.fMatch.eq_1
  trivial
end Mr
namespace Mr
open PySem PySem.Spec PyProof.Rows L2 Tw
section
variable {P : Program} {w : World} {K : PySem.W.Frag} {mg : Str → Option Value} {base : Heap} {cl : CL} {k : Nat} {x qual : Str} {st : Stmt} {ps N : List Str} {dvs : List V} {dts : List T} {D : FD} {B : FS} {c : Addr}
/-- a def whose code object is known -/
theorem fnGC {f : Addr} {fd : FuncData} {sp : Sp} (F : C8.Fun K x qual st f fd) (hc : fd.code = .ref c) (S : FnScope N ps (C8.fnScope st)) (len : ∀ vs H Q E, sp vs H Q E → vs.length = ps.length)
    (hb : ∀ (A : Around) (out : List PySem.Env) (s : Shared) (H : Hp) (vs : List V) (Q : VK) (E : XK), Rm k (A.deeper (envOfC qual (C8.fnScope st) s.heap.objs.size f (.ref c))) → sp vs H Q E →
      ∃ t, PSs (cxOf (L2.CX P w) P w K mg base N qual (C8.fnScope st) f (.ref c) A out s H E) (C8.fnBody st) t ∧ t { nx := fun _ H' => Q .non H', rt := Q } (L2.start N vs) H) : FnG P w K mg base (k + 1) f fd ps sp := by
  obtain ⟨oc, od, dV, kV, doc, pm, an, cdv, ct, osl, rfl, lk, hcd⟩ := F.ex
  have e : cdv = .ref c := hc
  subst e
  exact fnG lk hcd S len fun A out s H vs Q E rm want => hb A out s H vs Q E rm want
abbrev WalkC (P : Program) (w : World) (K : PySem.W.Frag) (mg : Str → Option Value) (base : Heap) (cl : CL) (k : Nat) (N : List Str) (qual : Str) (st : Stmt) (c : Addr) (B : FS) : Prop :=
  ∀ (f : Addr) (A : Around) (out : List PySem.Env) (s : Shared) (H : Hp) (E : XK), Rm k (A.deeper (envOfC qual (C8.fnScope st) s.heap.objs.size f (.ref c))) →
      JSs (cxOf (L2.CX P w) P w K mg base N qual (C8.fnScope st) f (.ref c) A out s H E) cl (fun cls d _ H' => E cls d H') (C8.fnBody st) B
/-- .. that leaves cells of its own behind -/
theorem fnDC (S : FnScope N ps (C8.fnScope st)) (len : ∀ ts s Q E, D ts s Q E → ts.length = ps.length) (hB : WalkC P w K mg base cl k N qual st c B)
    (hF : ∀ ts s Q E, D ts s Q E → B (startT N ts) s (endsM (shQ Q) (shX E))) : ∀ {x : Str} {f : Addr} {fd : FuncData}, C8.Fun K x qual st f fd → fd.code = .ref c → FnG P w K mg base (k + 1) f fd ps (spM K cl D) :=
  fun F hc => fnGC F hc S (spM.len len) fun A out s H vs Q E hr h => by
    obtain ⟨Z, ts, s, r, so, Q0, E0, h1, h2, h3⟩ := h
    have hb := hB _ A out _ H E hr
    refine ⟨_, hb.pss, Z, startT N ts, s, RepE.start r, so, hb.mon _ _ _ _ ?_ (hF _ _ _ _ h1)⟩
    refine ⟨fun τ s' q σ H' f _ so' => ?_, fun t s' q => ?_, fun τ s' q => q.elim, fun τ s' q => q.elim, fun er τ s' q d σ H' f x _ so' => ?_⟩
    · obtain ⟨s2, sh, q⟩ := q
      exact post.shr sh (h2 _ _ q) _ _ f .non so'
    · obtain ⟨s2, sh, q⟩ := q
      exact post.shr sh (h2 _ _ q)
    · obtain ⟨s2, sh, q⟩ := q
      exact postX.shr sh (h3 _ _ q) d H' f x so'
structure DefAtC (K : PySem.W.Frag) (mg : Str → Option Value) (x : Str) (st : Stmt) (ps : List Str) (dvs : List V) (c : Addr) : Prop where
  ex : ∃ (f : Addr) (fd : FuncData) (ds : List Value), C8.Fun K x x st f fd ∧ mg x = some (.ref f) ∧ PySem.W.keepIn K (.ref f) = true ∧ Binds K fd ps ds ∧ Vals dvs ds ∧ fd.code = .ref c
theorem calOfC (d : DefAtC K mg x st ps dvs c) (hd : ∀ Z s H, Reps K cl Z s H dvs dts) (fn : ∀ {y : Str} {f : Addr} {fd : FuncData}, C8.Fun K y x st f fd → fd.code = .ref c → FnG P w K mg base k f fd ps (spM K cl D)) : CalM P w K mg base cl k x D dts := by
  obtain ⟨f, fd, ds, F, g, kp, b, v, hc⟩ := d.ex
  exact ⟨dvs, ⟨f, fd, ps, ds, fn F hc, g, kp, b, v⟩, hd⟩
theorem lamOf {a : Str} {L : FH} (d : DefAt K mg x st [a] []) (S : FnScope N [a] (C8.fnScope st)) (hN : N[0]? = some a) (hv : Vis (C8.fnScope st) a) (hd : (a == ("__debug__" : Str)) = false) (hcd : (a == ("__classdict__" : Str)) = false)
    (h : ∀ (φ : PH) (t0 : T), MonP φ → ∃ B : FS, (∀ s Q E, L φ s Q E → B (startT N [t0]) s (endsM Q E)) ∧
      ∀ (g : Addr) (cdv : Value) (A : Around) (out : List PySem.Env) (s : Shared) (H : Hp) (E : XK), Rm k (A.deeper (envOfC x (C8.fnScope st) s.heap.objs.size g cdv)) →
        Acts (cxOf (L2.CX P w) P w K mg base N x (C8.fnScope st) g cdv A out s H E) cl a t0 φ →
        JSs (cxOf (L2.CX P w) P w K mg base N x (C8.fnScope st) g cdv A out s H E) cl (fun cls d _ H' => E cls d H') (C8.fnBody st) B) : LamOk P w K mg base cl k x L := by
  obtain ⟨f, fd, ds, F, g, kp, b, v⟩ := d.ex
  cases v
  refine ⟨f, fd, a, N, st, F, g, kp, b, S, hN, hv, hd, hcd, fun φ t0 m => ?_⟩
  obtain ⟨B, h1, h2⟩ := h φ t0 m
  exact ⟨B, h1, fun cdv A out s H E hr act => h2 f cdv A out s H E hr act⟩
end
def hP (φ : PH) (s : S) [q : Bx KT] [e : Bx KX] : Prop := φ s q.v e.v
theorem hold_act {i : Nat} {t0 : T} {φ : PH} {τ : Env} {s : S} {Q : KT} {E : KX} : fAct i t0 φ τ s Q E = (τ[i]? = some (some t0) ∧ @hP φ s ⟨Q⟩ ⟨E⟩) := rfl
theorem hP.of {φ : PH} {s : S} {Q : KT} {E : KX} (h : φ s Q E) : @hP φ s ⟨Q⟩ ⟨E⟩ := h
def hH (D : FH) (s : S) [f : Bx PH] [q : Bx KT] [e : Bx KX] : Prop := cH D f.v s q.v e.v
theorem hold_lam {D : FH} {Fb : FE} {τ : Env} {s : S} {Q : KT} {E : KX} : fLam D Fb τ s Q E = @hH D s ⟨fun s Q E => Fb τ s Q E⟩ ⟨Q⟩ ⟨E⟩ := rfl
theorem hH.of {D : FH} {φ : PH} {s : S} {Q : KT} {E : KX} (h : D φ s Q E) : @hH D s ⟨φ⟩ ⟨Q⟩ ⟨E⟩ := cH.of h
end Mr
namespace Mr
open PySem PySem.Spec PyProof.Rows L2 Tw
theorem cut_from {xs : List T} {i : Int} (h : 0 ≤ i) : cutT xs (some i) none = xs.drop i.toNat := by
  unfold cutT
  have e : HT.sIx xs.length 0 (some i) = min i.toNat xs.length := by
    have := HT.sIx_nat xs.length 0 i.toNat
    rw [Int.toNat_of_nonneg h] at this
    exact this
  rw [HT.sIx_none, e]
  by_cases q : i.toNat ≤ xs.length
  · rw [Nat.min_eq_left q, List.take_of_length_le (by rw [List.length_drop]; exact Nat.le_refl _)]
  · rw [Nat.min_eq_right (by omega), List.drop_of_length_le (Nat.le_refl _), List.drop_of_length_le (by omega), List.take_nil]
theorem cut_both {xs : List T} {i j : Int} (h : 0 ≤ i) (h2 : 0 ≤ j) : cutT xs (some i) (some j) = (xs.take j.toNat).drop i.toNat := by
  unfold cutT
  have e : HT.sIx xs.length 0 (some i) = min i.toNat xs.length := by
    have := HT.sIx_nat xs.length 0 i.toNat
    rw [Int.toNat_of_nonneg h] at this
    exact this
  have e2 : HT.sIx xs.length xs.length (some j) = min j.toNat xs.length := by
    have := HT.sIx_nat xs.length xs.length j.toNat
    rw [Int.toNat_of_nonneg h2] at this
    exact this
  rw [e, e2, List.take_drop]
  by_cases q : i.toNat ≤ xs.length
  · rw [Nat.min_eq_left q]
    by_cases q2 : i.toNat ≤ min j.toNat xs.length
    · rw [Nat.add_sub_cancel' q2, ← List.take_take, List.take_length]
    · rw [Nat.sub_eq_zero_of_le (by omega), Nat.add_zero, List.drop_of_length_le (by rw [List.length_take]; omega), List.drop_of_length_le (by rw [List.length_take]; omega)]
  · rw [Nat.min_eq_right (by omega : xs.length ≤ i.toNat), List.drop_of_length_le (by rw [List.length_take]; omega), List.drop_of_length_le (by rw [List.length_take]; omega)]
end Mr
namespace Mr
open PySem PySem.Spec PyProof.Rows L2 Tw
section
variable {X : Cx} {cl : CL} {W : WX} {k j cc : Nat} {D DR : FD} {m mr : Str} {op : Operator}
/-- whether a tree is a list or a tuple -/
def S.sq? (s : S) (t : T) : Bool := match s.ty? t with | some (.list, _) | some (.tup, _) => true | _ => false
/-- own operators of one class, a list or a tuple perhaps on one side -/
def gBag (cc : Nat) (D DR : FD) : S → T → T → KT → KX → Prop := fun s x y Q E => match s.obj? x with
  | some (c, _) => c = cc ∧ ((∃ fs, s.obj? y = some (cc, fs)) ∨ s.sq? y = true) ∧ cM D [x, y] s Q E
  | none => match s.obj? y with
    | some (c, _) => c = cc ∧ s.sq? x = true ∧ cM DR [y, x] s Q E
    | none => False
/-- an instance changed in place -/
def gInp (cc : Nat) (D : FD) : S → T → T → KT → KX → Prop := fun s x y Q E => kObj cc s x (cM D [x, y] s Q E)
/-- name op= e -/
def fAug (i : Nat) (g : S → T → T → KT → KX → Prop) (Fa : FE) : FS := fun τ s D => match τ[i]? with
  | some (some x) => Fa τ s (fun y s1 => g s1 x y (fun t s2 => D.nx (τ.set i (some t)) s2) (xk τ D)) (xk τ D)
  | _ => False
variable {x : Str} {e : Expr} {i : Nat} {pos pos' : Pos} {g : S → T → T → KT → KX → Prop} {Fa : FE}
theorem rows_madeL : True := by
  have := @Mr.gInp.eq_1
  have := @Mr.gBag.eq_1
  have := @Mr.fAug.eq_1
  trivial
end
end Mr
namespace PySem
namespace HandSPX
section
variable {M : Model} {A : Around} {E : Value → Shared → Prop} {s : Shared} {Z : Obj → Prop} {base : Heap} {env : Env} {outer l : List Env} {L L' e : Addr}
/-- noted by this frame, where another one had it in hand -/
theorem looks_heldZ {Q : Unit → Shared → Prop} (st : Steady Z) (fr : A.frames = some (env :: outer)) (hf : env.frame = some L) (ne : L' ≠ L) (held : HeldZ base (env :: outer) e Z L' s.heap)
    (then_ : ∀ g, HeldZ base (env :: outer) e Z L g → s.heap.UpToSlots g → Q () { s with heap := g }) : wpAny M A (noteFrame (.ref e) env) Q E s := by
  rcases held with ⟨stays, free, frms, oe, vs, T, oT, ts, ge, ze, de, tb, freeT, neT, gT, dT, fl⟩
  have off : ∀ b o, s.heap.get? b = some o → (∀ ws, o.data ≠ .fields ws) → b ≠ T := by
    rintro b o gb nf rfl
    cases gT.symm.trans gb
    exact nf ts dT
  have same : ∀ b, b ≠ T → (s.heap.update T (Obj.mapFields (·.setIfInBounds 3 Value.none))).get? b = s.heap.get? b := fun b n => Heap.get?_update_other _ _ n.symm
  have in3 : 3 < ts.size := (Array.getElem?_eq_some_iff.mp fl).1
  have in1 : 1 < vs.size := (Array.getElem?_eq_some_iff.mp tb).1
  have no : ¬ ((rawInt L' == rawInt L) = true) := by
    simp [rawInt]
    exact fun q => ne (Int.ofNat.inj q)
  unfold noteFrame
  simp only [hf]
  refine wpAny_bind (wpAny_field ge de tb ?_)
  rw [show (Value.ref T != Value.none) = true from rfl, if_pos rfl]
  refine wpAny_bind (wpAny_field gT dT fl ?_)
  rw [if_neg no]
  refine wpAny_bind (wpAny_setField gT dT in3 (wpAny_entryZ st fr (frms.of_keeps fun b o gb nf => ⟨o, (same b (off b o gb nf)).trans gb, rfl⟩) hf ((same e neT.symm).trans ge) (fun b o gb => ?_) free de in1 ze fun g ng => ?_))
  · refine (same b ?_).trans (stays b o gb)
    rintro rfl
    cases freeT.symm.trans gb
  · rcases ng with ⟨n1, n2, n3, n4⟩
    exact then_ g ⟨n1, free, n2, n3⟩ fun b o gb nf => n4 b o ((same b (off b o gb nf)).trans gb) nf
end
theorem frames_re {h h' B B' : Heap} (hb : ∀ b, B.get? b = none → B'.get? b = none) : ∀ {l : List Env}, (∀ b ∈ L2.frs l, h'.get? b = h.get? b) → h.FunFrames B l → h'.FunFrames B' l
  | [], _, _ => trivial
  | env :: rest, k, ⟨hk, ⟨L, o, hf, hn, ho, hd⟩, hr⟩ => by
    have m : L ∈ L2.frs (env :: rest) := List.mem_filterMap.mpr ⟨env, List.mem_cons_self, hf⟩
    refine ⟨hk, ⟨L, o, hf, hb L hn, (k L m).trans ho, hd⟩, frames_re hb (fun b hb' => k b ?_) hr⟩
    obtain ⟨e, he, hfe⟩ := List.mem_filterMap.mp hb'
    exact List.mem_filterMap.mpr ⟨e, List.mem_cons_of_mem _ he, hfe⟩
end HandSPX
end PySem
namespace Mr
open PySem PySem.Spec PyProof.Rows L2 Tw
section
variable {M : Model} {A : Around} {E : Value → Shared → Prop} {s : Shared}
/-- the block's own variables are let go -/
def gone (C : Addr) (sh : Shared) (P : Shared → Prop) : Prop := ∃ m, sh.heap.Ns C m ∧ ∀ g, Heap.SameBut C sh.heap g → P { sh with heap := g }
/-- what is wanted where the block's code has ended, or was left by an error -/
def compPostX (M : Model) (A : Around) (E : Value → Shared → Prop) (use : Option (Value → Sem Unit)) (Q : Value → Shared → Prop) (acc : Value) (ce : PySem.Env) (r : Result) (sh : Shared) : Prop :=
  match r with
  | .error x => gone ce.locals sh fun t => wpAny M A (PySem.passOn "comprehension.variables-let-go" x ce : Sem Value) (fun _ _ => False) E t
  | .ok _ => match use with
    | none => gone ce.locals sh (Q acc)
    | some f => wpAny M A (f acc) (fun _ t => gone ce.locals t (Q .none)) E sh
theorem comprehension_x {env : PySem.Env} {e : Expr} {scope : Scope} {pos : Pos} {mk first : Sem Value} {g : Comprehension} {gs : List Comprehension} {cs : List (Str × Addr)} {use : Option (Value → Sem Unit)} {Q : Value → Shared → Prop}
    (one : clausesOf e = g :: gs) (nofold : ∀ x, foldedSetIterable g.iter env x = pure x) (clo : closureFor scope env = pure cs) (kd : scope.kind = .function) (uq : ∀ y ∈ scope.names, y.2 = .local → scope.names.lookup y.1 = some .local)
    (h : wpAny M A first (fun x t1 => wpAny M A (pyIter x) (fun it t2 => wpAny M A mk (fun acc t3 => wpAny M A (newFunctionEnv scope env.globals cs [] env.qual none .none (some env)) (fun ce t4 =>
      codeAny M A (.compStart e 0 it acc { ce with scope := relabel scope env }) (compPostX M A E use Q acc { ce with scope := relabel scope env }) t4) E t3) E t2) E t1) E s) : wpAny M A (comprehension e scope env pos mk false first use) Q E s := by
  have tail : ∀ {α β : Type} {m : Sem α} {P : α → Shared → Prop} {f : α → Sem β} {R : β → Shared → Prop} {t : Shared}, wpAny M A m P E t → (∀ a u, P a u → wpAny M A (f a) R E u) → wpAny M A (m >>= f) R E t := fun h1 h2 => wpAny_bind (wpAny_mono h1 h2 fun _ _ z => z)
  unfold comprehension
  rw [clo, one]
  refine tail h fun x t1 h1 => ?_
  refine wpAny_bind (wpAny_standAt (wpAny_bind (wpAny_of_eq (nofold x) (wpAny_bind (wpAny_holding (wpAny_mono h1 (fun it t2 h2 => ?_) fun _ _ z => z))))))
  refine wpAny_standIf (tail h2 fun acc t3 h3 => wpAny_bind (wpAny_pure (tail h3 fun ce t4 h4 => ?_)))
  dsimp only
  have lo : ∀ y ∈ scope.names, y.2 = .local → Env.kindOf { ce with scope := relabel scope env } y.1 = some .local := fun y hy z => lookup_relabel_local (uq y hy z)
  have lo1 : ∀ y ∈ (scope.names.filter fun y => (y.2 == .local || y.2 == .cell) && y.1 != (".0" : Str)).reverse, y.2 = .local → Env.kindOf { ce with scope := relabel scope env } y.1 = some .local := fun y hy => lo y (List.mem_filter.mp (List.mem_reverse.mp hy)).1
  refine wpAny_holding (wpAny_bind (wpAny_attempt (wpAny_holding (wpAny_run (codeAny_mono h4 fun r t hr => ?_)))))
  rcases r with x | fl
  · obtain ⟨n, hn, q⟩ := hr
    refine wpAny_bind (wpAny_holding (wpAny_comp_letGo kd _ t n lo1 hn fun g n' _ sb => ?_))
    exact wpAny_mono (q g sb) (fun _ _ z => z.elim) fun _ _ z => z
  · rcases use with _ | f
    · obtain ⟨n, hn, q⟩ := hr
      exact wpAny_bind (wpAny_holding (wpAny_comp_letGo kd _ t n lo1 hn fun g n' _ sb => wpAny_pure (q g sb)))
    · refine wpAny_bind (wpAny_rule (tail (wpAny_holding hr) fun _ u hu => ?_))
      obtain ⟨n, hn, q⟩ := hu
      exact wpAny_bind (wpAny_comp_letGo kd _ u n (fun y hy => lo1 y ((List.mem_append.mp hy).elim List.mem_of_mem_drop List.mem_of_mem_take)) hn fun g n' _ sb => wpAny_pure (q g sb))
end
section
variable {X : Cx} {pins : List (Addr × Obj)} {σ : L2.St} {H3 : Hp} {s3 : Shared} {scope : Scope} {ce : PySem.Env} {fp : List Addr} {W Wb : WX} {xe : Value → Shared → Prop} {use : Option (Value → Sem Unit)} {Qf : Value → Shared → Prop} {acc u : Value} {s' : Shared} {E0 : Value → Shared → Prop}
theorem exc_out (hs : X.stack = X.env :: X.outer) (hf : X.env.frame = some X.env.locals) (hce : ce.frame = X.env.frame) (cL : ce.locals = s3.heap.objs.size) (I3 : Inv X pins σ H3 s3) (f3 : ∀ b ∈ fp, FpOk X pins H3 b ∧ b < s3.heap.objs.size)
    (tk : Takes X W) (hW : ∀ c d σ' H', Wb c d σ' H' → W c d σ H') (x : XE ((X.blk s3 H3 scope ce fp).wish xe) Wb u s') :
    wpAny (model X.prog X.w) X.A (noteFrame u ce) (fun _ s'' => compPostX (model X.prog X.w) X.A X.xe use Qf acc ce (.error u) s'') E0 s' := by
  obtain ⟨a, B, sI, pins', σb, Hb, cls, d, rfl, Ib, nb, up, sky, na, os, ag, w⟩ := x
  have I7 : Inv X pins σ Hb sI := I3.call' (ch := fp) Ib.os Ib.base Ib.hok Ib.bare fun b hb => ⟨(f3 b hb).1.2.2.2.1, (f3 b hb).1.2.1, (f3 b hb).1.2.2.2.2.1, (f3 b hb).1.2.2.2.2.2⟩
  generalize hC : s3.heap.objs.size = C at cL
  have nC : Hb C = none := by
    have z : Hb ce.locals = none := Ib.free
    rwa [cL] at z
  have fo : FpOk X pins Hb C := I3.fpOk (Nat.le_of_eq hC) nC
  obtain ⟨f0, f1, f2, f4, f5, f6⟩ := fo
  obtain ⟨mC, hn, _⟩ := Ib.loc
  have hn : sI.heap.Ns ce.locals mC := hn
  rw [cL] at hn
  have nfr : ∀ b ∈ frs X.stack, b ≠ C := fun b hb e => by
    rcases List.mem_cons.mp (I7.stkSub b hb) with z | z
    · exact f1 (e.symm.trans z)
    · exact f2 (e ▸ z)
  have sky : Sky B X.stack a (Zc cls d) C s'.heap := by
    have z : Sky B X.stack a (Zc cls d) ce.locals s'.heap := sky
    rwa [cL] at z
  have hfr : X.A.frames = some (X.env :: X.outer) := by rw [I7.ok.frames, hs]
  have en : noteFrame (.ref a) ce = noteFrame (.ref a) X.env := by
    unfold noteFrame PySem.frameOf
    rw [hce]
  rw [en]
  have fin : ∀ h1, HandSPX.HeldZ B (X.env :: X.outer) a (Zc cls d) X.env.locals h1 → s'.heap.UpToSlots h1 → compPostX (model X.prog X.w) X.A X.xe use Qf acc ce (.error (.ref a)) { s' with heap := h1 } := by
    intro h1 hh up1
    obtain ⟨oC, es, ep, eC, dC, rC⟩ := id hn
    have bC : B.get? C = some oC := nb C oC eC fun z => nfr C z rfl
    have h1C : h1.get? C = some oC := hh.1 C oC bC
    show ∃ m, h1.Ns ce.locals m ∧ _
    rw [cL]
    refine ⟨mC, ⟨oC, es, ep, h1C, dC, rC⟩, fun h' sb => ?_⟩
    obtain ⟨GB, g1, g2⟩ := restrict B fun b => decide (b ≠ C)
    obtain ⟨GI, i1, i2⟩ := restrict sI.heap fun b => decide (b ≠ C)
    have gb : ∀ b o, GB.get? b = some o → b ≠ C ∧ B.get? b = some o := fun b o e => by
      by_cases z : b = C
      · rw [g2 b (by simp [z])] at e; cases e
      · rw [g1 b (by simp [z])] at e; exact ⟨z, e⟩
    have gi : ∀ b o, GI.get? b = some o → b ≠ C ∧ sI.heap.get? b = some o := fun b o e => by
      by_cases z : b = C
      · rw [i2 b (by simp [z])] at e; cases e
      · rw [i1 b (by simp [z])] at e; exact ⟨z, e⟩
    have hh2 : HandSPX.HeldZ GB (X.env :: X.outer) a (Zc cls d) X.env.locals h' := by
      obtain ⟨hkb, hen, hl, oe, vs, T, oT, ts, he, hz, hd, h1v, hnT, hTe, hT, hdT, h3⟩ := hh
      have aC : a ≠ C := fun z => by
        rw [z, h1C] at he; cases he; rw [dC] at hd; cases hd
      have TC : T ≠ C := fun z => by
        rw [z, h1C] at hT; cases hT; rw [dC] at hdT; cases hdT
      refine ⟨fun b o e => ?_, ?_, HandSPX.frames_re (h := h1) (B := B) (fun b e => ?_) (fun b hb => sb.2 b (nfr b (hs ▸ hb))) hl, oe, vs, T, oT, ts, (sb.2 a aC).trans he, hz, hd, h1v, ?_, hTe, (sb.2 T TC).trans hT, hdT, h3⟩
      · obtain ⟨z, e⟩ := gb b o e
        exact (sb.2 b z).trans (hkb b o e)
      · rw [g1 a (by simp [aC])]; exact hen
      · by_cases z : b = C
        · exact g2 b (by simp [z])
        · rw [g1 b (by simp [z])]; exact e
      · rw [g1 T (by simp [TC])]; exact hnT
    unfold PySem.passOn
    obtain ⟨oe, vs, T, oT, ts, he, hz, hd, h1v, hnT, hTe, hT, hdT, h3⟩ := id hh2.2.2.2
    refine wpAny_bind (wpAny_field he hd h1v ?_)
    rw [if_neg (show ¬ ((Value.ref T == Value.none) = true) from by simp)]
    rw [hce, hf]
    refine wpAny_bind (HandSPX.setFlight_onZ hh2 fun h2 hh3 up2 => ?_)
    refine wpAny_throw ?_
    refine tk _ _ ⟨a, GB, { sI with heap := GI }, pins, σ, Hb, cls, d, rfl, ?_, fun b o e hb => ?_, fun b o e nf => ?_, .inr (.inr (hs ▸ hh3)), na, os, ag, hW _ _ _ _ w⟩
    · exact I7.turned (t' := sI.toks) (fun b o hb e => by rw [i1 b (by simp [hb])]; exact e) f0 f1 f4 f5 f6
    · obtain ⟨z, e⟩ := gi b o e
      rw [g1 b (by simp [z])]
      exact nb b o e hb
    · obtain ⟨z, e⟩ := gi b o e
      obtain ⟨sl, e1⟩ := up b o e nf
      obtain ⟨sl1, e2⟩ := up1 b _ e1 nf
      obtain ⟨sl2, e3⟩ := up2 b _ ((sb.2 b z).trans e2) nf
      exact ⟨sl2, e3⟩
  rw [hs] at sky
  rcases sky with ⟨hB, hn', hl, oe, vs, he, hz, hd, h1⟩ | fl | hd
  · exact HandSPX.look_newZ Zc.steady hfr hl hf he hB hn' hd h1 hz fin
  · exact HandSPX.looks_onZ Zc.steady hfr hf fl fin
  · exact HandSPX.looks_heldZ Zc.steady hfr hf f1 hd fin
end
/-- a comprehension whose items may be refused -/
def lcX (ok : S → Prop) (g : FG) (te : FE) (τ : Env) (E : KX) : List T → List T → S → (List T → S → Prop) → Prop
  | [], acc, s, Q => ok s ∧ Q acc s
  | t :: ts, acc, s, Q => ok s ∧ acc.length < 1000000 ∧ g t τ s fun τ1 s1 => te τ1 s1 (fun y s2 => lcX ok g te τ E ts (acc ++ [y]) s2 Q) E
def fLcX (I : FI) (g : FG) (te : FE) (vs : List Nat) : FE := fun τ s Q E => I τ s (fun ts ok s1 => lcX ok g te (wipeT τ vs) E ts [] s1 fun ys s2 => Q (.lst ys) s2) E
theorem mon_lcX {ok : S → Prop} {g : FG} {te : FE} {τ : Env} (mg : ∀ t τ s (Q Q' : Env → S → Prop), (∀ τ s, Q τ s → Q' τ s) → g t τ s Q → g t τ s Q') (me : MonE te) {E E' : KX} (he : ∀ e s, E e s → E' e s) :
    ∀ (ts acc : List T) (s : S) (Q Q' : List T → S → Prop), (∀ ys s, Q ys s → Q' ys s) → lcX ok g te τ E ts acc s Q → lcX ok g te τ E' ts acc s Q'
  | [], _, _, _, _, hq, h => ⟨h.1, hq _ _ h.2⟩
  | _ :: ts, _, _, _, _, hq, h => ⟨h.1, h.2.1, mg _ _ _ _ _ (fun _ _ q => me _ _ _ _ _ _ (fun _ _ q2 => mon_lcX mg me he ts _ _ _ _ hq q2) he q) h.2.2⟩
section
variable {X : Cx} {cl : CL} {W : WX} {tg iter elt : Expr} {I : FI} {g : TG} {g' : FG} {te : FE} {scope : Scope} {own : List (Str × Nat)} {pos pos' : Pos} {use : Option (Value → Sem Unit)} {Qf : Value → Shared → Prop} {Q : VK}
theorem mon_fLcX {vs : List Nat} (mi : MonI I) (mg : ∀ t τ s (Q Q' : Env → S → Prop), (∀ τ s, Q τ s → Q' τ s) → g' t τ s Q → g' t τ s Q') (me : MonE te) : MonE (fLcX I g' te vs) :=
  fun _ _ _ _ _ _ hq he h => mi _ _ _ _ _ _ (fun _ _ _ h1 => mon_lcX mg me he _ _ _ _ _ (fun _ _ q => hq _ _ q) h1) he h
/-- what the walk of a comprehension knows behind i items -/
structure LcAt (X : Cx) (cl : CL) (W : WX) (g' : FG) (te : FE) (vs : List Nat) (Q : VK) (σ : L2.St) (H H2 : Hp) (Z : Addr → Prop) (τ : Env) (s s1 : S) (ok : S → Prop) (ts : List T) (D : Addr) (i : Nat) (H' : Hp) : Prop where
  ex : ∃ s' acc av, i ≤ ts.length ∧ Fut s1 H2 s' H' ∧ Sto X.K cl (Hide Z D) s' H' ∧ H' D = some (.lst av) ∧ Reps X.K cl (Hide Z D) s' H' av acc ∧ lcX ok g' te (wipeT τ vs) (postW X.K cl Z s H σ W) (ts.drop i) acc s' (fun ys s2 => post X.K cl Z s H Q (.lst ys) s2)
theorem lcX_run {pins : List (Addr × Obj)} {sh : Shared} {σ : L2.St} {H : Hp} (hst : X.stack = X.env :: X.outer) (hf : X.env.frame = some X.env.locals) (tk : Takes X W) (hc : X.calm = true) (hN : X.N.Nodup) (hi : JI X cl W tg iter I) (ok : BlkOk X.N X.env.scope scope own)
    (hg : ∀ (s : Shared) (H : Hp) (C : Addr) (cc : List (Str × Addr)) (fp : List Addr), PG (X.blk s H scope (compEnvC scope cc C X.env) fp) tg g) (hG : GT X.K cl (own.map (·.2)) g g')
    (he : ∀ (s : Shared) (H : Hp) (C : Addr) (cc : List (Str × Addr)) (fp : List Addr) (xe : Value → Shared → Prop) (σ : L2.St), Takes ((X.blk s H scope (compEnvC scope cc C X.env) fp).wish xe) (fun c d _ H' => W c d σ H') → JE ((X.blk s H scope (compEnvC scope cc C X.env) fp).wish xe) cl (fun c d _ H' => W c d σ H') elt te)
    (me : MonE te) (hs : ∀ x, foldedSetIterable iter X.env x = pure x) (I0 : Inv X pins σ H sh) (h : tT X.K cl W (fLcX I g' te (own.map (·.2))) σ H Q)
    (fin : ∀ (D : Addr) (ce : PySem.Env) (s' : Shared) (H' : Hp), Inv X pins σ H' s' → Q (.ref D) H' → (∃ m, s'.heap.Ns ce.locals m) → FpOk X pins H' ce.locals → compPostX (model X.prog X.w) X.A X.xe use Qf (.ref D) ce (.ok .next) s') :
    wpAny (model X.prog X.w) X.A (comprehension (.ListComp elt [⟨tg, iter, [], 0⟩] scope pos) scope X.env pos' (newList []) false (eval iter X.env) use) Qf X.xe sh := by
  obtain ⟨Z, τ, s, re, so, h⟩ := h
  have cells : ∀ y ∈ scope.names, y.2 = .free → ∃ c, X.env.cells.lookup y.1 = some c := fun y hy e => I0.ok.has _ ((ok.free y hy e).elim .inl .inr)
  have h1 : tTI X.K cl W I σ H fun J H2 => ∃ ts okp s1, Fut s H s1 H2 ∧ Sto X.K cl Z s1 H2 ∧ Src X.K cl Z J ts okp s1 H2 ∧ lcX okp g' te (wipeT τ (own.map (·.2))) (postW X.K cl Z s H σ W) ts [] s1 fun ys s2 => post X.K cl Z s H Q (.lst ys) s2 :=
    ⟨Z, τ, s, re, so, hi.mon _ _ _ _ _ _ (fun ts okp s1 q J H2 f so1 src => ⟨ts, okp, s1, f, so1, src, q⟩) (fun _ _ q => q) h⟩
  refine comprehension_x (use := use) rfl hs (closure_ok cells) ok.kind (fun y hy e => (ok.uniq y hy).trans (congrArg some e)) ?_
  refine wpAny_mono (hi.pi.run pins sh σ H _ I0 h1) (fun xv s1 q1 => wpAny_mono q1 (fun itv s2 q2 => ?_) fun _ _ z => z) fun _ _ z => z
  obtain ⟨it, fp, tn, J, H2, rfl, I2, T, at2, f2, ts, okp, s1', fu1, so1, src, body⟩ := q2
  refine wpAny_newObj_type (newEnv_comp ?_) (Nat.zero_le _)
  -- the new list stands at D
  obtain ⟨D, eD⟩ : ∃ D, D = s2.heap.objs.size := ⟨_, rfl⟩
  have freeD : H2 D = none := I2.hok.fresh (Nat.le_of_eq eD.symm)
  obtain ⟨s3, e3⟩ : ∃ s3 : Shared, s3 = { s2 with heap := s2.heap.push { cls := .type "list", data := .seq ([] : List Value).toArray } } := ⟨_, rfl⟩
  have keep3 : ∀ b o, s2.heap.get? b = some o → s3.heap.get? b = some o := fun b o z => by rw [e3]; exact Heap.get?_push_of_some _ z
  have len3 : s3.heap.objs.size = s2.heap.objs.size + 1 := by rw [e3]; exact Heap.size_push ..
  have I3 : Inv X pins σ (upd H2 D (.lst [])) s3 := by
    subst e3
    subst eD
    exact I2.laid (t' := s2.toks) (fun b o z => Heap.get?_push_of_some _ z) (Nat.le_refl _) ⟨Nat.zero_le _, [], 0, .nil, Heap.get?_push_size _ rfl⟩
  have old : ∀ b ∈ fp, b < s2.heap.objs.size := fun b hb => let ⟨_, z, _⟩ := T.obj _ _ at2 b hb; Heap.lt_size z
  have f3 : ∀ b ∈ fp, FpOk X pins (upd H2 D (.lst [])) b ∧ b < s3.heap.objs.size := fun b hb => by
    have lt := old b hb
    refine ⟨⟨(upd_ne (show b ≠ D from eD ▸ Nat.ne_of_lt lt)).trans (f2 b hb).1, (f2 b hb).2⟩, by rw [len3]; exact Nat.lt_succ_of_lt lt⟩
  have I4 := block_start I3 ok hN f3
  rw [← e3, ← eD]
  obtain ⟨ce, ece⟩ : ∃ ce, ce = compEnvC scope (cellsFrom (s3.heap.objs.size + 1) scope.names (cloFrom X.env.cells scope.names [])) s3.heap.objs.size X.env := ⟨_, rfl⟩
  have pg := hg s3 (upd H2 D (.lst [])) s3.heap.objs.size (cellsFrom (s3.heap.objs.size + 1) scope.names (cloFrom X.env.cells scope.names [])) fp
  have pe := fun xe tkb => he s3 (upd H2 D (.lst [])) s3.heap.objs.size (cellsFrom (s3.heap.objs.size + 1) scope.names (cloFrom X.env.cells scope.names [])) fp xe σ tkb
  show codeAny _ _ (.compStart _ 0 (.ref it) (.ref D) (compEnvC scope (cellsFrom (s3.heap.objs.size + 1) scope.names (cloFrom X.env.cells scope.names [])) s3.heap.objs.size X.env)) (compPostX (model X.prog X.w) X.A X.xe use Qf (.ref D) (compEnvC scope (cellsFrom (s3.heap.objs.size + 1) scope.names (cloFrom X.env.cells scope.names [])) s3.heap.objs.size X.env)) _
  rw [← ece] at I4 pg ⊢
  simp only [← ece] at pe
  have loc : ce.locals = s3.heap.objs.size := by rw [ece]; rfl
  have frm : ce.frame = X.env.frame := by rw [ece]; rfl
  obtain ⟨s4, e4⟩ : ∃ s4 : Shared, s4 = { s3 with heap := pushCells (s3.heap.push { cls := .type "dict", data := .dict #[] }) scope.names } := ⟨_, rfl⟩
  rw [← e4] at I4 ⊢
  have at4 : tn 0 s4.heap := T.keep _ _ _ at2 fun b _ o z => by rw [e4]; exact pushCells_keeps _ _ _ _ (Heap.get?_push_of_some _ (keep3 b o z))
  have k1 : Fut s1' H2 s1' (upd H2 D (.lst [])) := Fut.new freeD
  have zz : ∀ b, Hide Z D b → Z b ∨ H2 b = none := fun b q => q.imp id fun e => by rw [e]; exact freeD
  have reW : REnv X.K cl Z s1' H2 (L2.wipe σ (own.map (·.2))) (wipeT τ (own.map (·.2))) := (re.fut fu1).wipe _
  obtain ⟨H3, eH3⟩ : ∃ H3, H3 = upd H2 D (.lst []) := ⟨_, rfl⟩
  rw [← eH3] at I3 I4 pg f3 k1
  simp only [← eH3] at pe
  have fpo : ∀ {pins' : List (Addr × Obj)} {σ' : L2.St} {H' : Hp} {s' : Shared}, Inv (X.blk s3 H3 scope ce fp) pins' σ' H' s' → (∀ b ∈ fp, H' b = none) → ∀ b ∈ fp, FpOk (X.blk s3 H3 scope ce fp) [] H' b := fun I' hn b hb =>
    ⟨hn b hb, (I'.ok.exf b hb).1, I'.ok.exfs b hb, .inl hb, fun x c z => (I'.ok.exf b hb).2 x c z, fun p hp => absurd (show p ∈ ([] : List (Addr × Obj)) ++ [] from hp) (by simp)⟩
  have start : LcAt X cl W g' te (own.map (·.2)) Q σ H H2 Z τ s s1' okp ts D 0 H3 := ⟨s1', [], [], Nat.zero_le _, k1, eH3 ▸ so1.hide freeD, by rw [eH3, upd_same], .nil, body⟩
  have loop : codeAny (model X.prog X.w) X.A (.compLoop (.ListComp elt [⟨tg, iter, [], 0⟩] scope pos) 0 (.ref it) (.ref D) ce) (compPostX (model X.prog X.w) X.A X.xe use Qf (.ref D) ce) s4 := by
    refine compLoop_any (fun n s' => ∃ i H', n = ts.length - i ∧ Inv (X.blk s3 H3 scope ce fp) [] (L2.wipe σ (own.map (·.2))) H' s' ∧ tn i s'.heap ∧ (∀ b ∈ fp, H' b = none) ∧ LcAt X cl W g' te (own.map (·.2)) Q σ H H2 Z τ s s1' okp ts D i H') ?_ _ ⟨0, H3, rfl, I4, at4, fun b hb => (f3 b hb).1.1, start⟩
    rintro n s5 ⟨i, H5, rfl, I5, at5, n5, ⟨s', acc, av, hi', f', so', hDa, ra, h'⟩⟩
    by_cases hlt : i < ts.length
    · rw [List.drop_eq_getElem_cons hlt] at h'
      obtain ⟨hok, hz, h'⟩ := h'
      obtain ⟨jg, jy⟩ := src.go (Hide Z D) s' H5 i _ f' zz hok so' (List.getElem?_eq_getElem hlt)
      have noD : ∀ s3 H3, Sto X.K cl (Hide Z D) s3 H3 → ¬ s3.mut D := fun s3 H3 so3 => (so3.hid D (.inr rfl)).1
      refine thnF (T.item (X.blk s3 H3 scope ce fp) rfl rfl rfl hc i [] s5 _ H5 (fun _ _ => False) I5 (fpo I5 n5) at5 jg) fun r s6 q6 => ?_
      obtain ⟨u, rfl, h6⟩ := q6
      refine thnF h6 fun _ s7 q7 => ?_
      obtain ⟨x, H7, I7, r7, y7, at7, n7⟩ := q7
      obtain ⟨fy, soy, ry⟩ := jy x H7 y7
      have reY : REnv X.K cl (Hide Z D) s' H7 (L2.wipe σ (own.map (·.2))) (wipeT τ (own.map (·.2))) := (reW.futz f' zz).fut fy
      have I7' := I7.pinned (fpo I7 n7) (T.obj _ _ at7)
      have st := hG.go (Hide Z D) _ _ _ _ H7 s' (fun σ8 H8 => ∃ τ8 s8, Fut s' H7 s8 H8 ∧ REnv X.K cl (Hide Z D) s8 H8 σ8 τ8 ∧ Sto X.K cl (Hide Z D) s8 H8 ∧ te τ8 s8 (fun y s2 => lcX okp g' te (wipeT τ (own.map (·.2))) (postW X.K cl Z s H σ W) (ts.drop (i + 1)) (acc ++ [y]) s2 fun ys s2 => post X.K cl Z s H Q (.lst ys) s2) (postW X.K cl Z s H σ W)) ry reY soy
        (hG.mon _ _ _ _ _ (fun τ8 s8 q σ8 H8 f8 re8 so8 => ⟨τ8, s8, f8, re8, so8, q⟩) h')
      refine thnF (pg.run _ s7 _ H7 x u _ I7' r7 st) fun _ s8 q8 => ?_
      obtain ⟨σ8, H8, I8, ew, τ8, t8, f8, re8, so8, h8⟩ := q8
      refine wpAny_tests_nil ?_
      rw [if_pos rfl]
      have hD8 : H8 D = some (.lst av) := (f8.keep D _ (fy.keep D _ hDa (noD _ _ so') (NT.lst _)).1 (noD _ _ soy) (NT.lst _)).1
      have fu8 : Fut s1' H2 t8 H8 := f'.trans (fy.trans f8)
      let bx : Value → Shared → Prop := notedBy (model X.prog X.w) X.A ce fun e s' => compPostX (model X.prog X.w) X.A X.xe use Qf (.ref D) ce (.error e) s'
      have tkb : Takes ((X.blk s3 H3 scope ce fp).wish bx) (fun c d _ H' => W c d σ H') := fun u s' z => exc_out (Wb := fun c d _ H' => W c d σ H') hst hf frm loc I3 f3 tk (fun _ _ _ _ q => q) z
      have run := (pe bx tkb).pe.run _ s8 σ8 H8 (fun yv H10 => ∃ t10 ty, Fut t8 H8 t10 H10 ∧ Rep X.K cl (Hide Z D) t10 H10 yv ty ∧ Sto X.K cl (Hide Z D) t10 H10 ∧ lcX okp g' te (wipeT τ (own.map (·.2))) (postW X.K cl Z s H σ W) (ts.drop (i + 1)) (acc ++ [ty]) t10 fun ys s2 => post X.K cl Z s H Q (.lst ys) s2) (I8.wish bx)
        ⟨Hide Z D, τ8, t8, re8, so8, me _ _ _ _ _ _ (fun ty t10 q v H10 f10 r10 so10 => ⟨t10, ty, f10, r10, so10, q⟩) (fun er t9 q d H9 f9 xd so9 => q d H9 (fu1.trans (fu8.trans f9)) (xd.map fun a fvs e9 m9 rf9 => ⟨e9, ⟨m9.1, fun z => m9.2 (.inl z)⟩, rf9.turn (fun _ z => .inl z) fun _ _ _ z => z⟩) so9.bare) h8⟩
      refine wpAny_mono run (fun z s10 q10 => ?_) fun _ _ z => z
      obtain ⟨yv, H10, I10, r10, t10, ty, f10, rep10, so10, q10⟩ := q10
      have hD10 : H10 D = some (.lst av) := (f10.keep D _ hD8 (noD _ _ so8) (NT.lst _)).1
      have ra10 : Reps X.K cl (Hide Z D) t10 H10 av acc := ((ra.fut fy).fut f8).fut f10
      refine app_ok (X := X.blk s3 H3 scope ce fp) I10.unwish hD10 (by rw [ra10.length]; exact Nat.lt_of_lt_of_le hz size6) r10 fun s11 I11 => ?_
      have kk : ∀ b u, ¬ Hide Z D b → H10 b = some u → upd H10 D (.lst (av ++ [yv])) b = some u := fun b u n z => by rw [upd_ne (fun e => n (.inr e))]; exact z
      have fu10 : Fut s1' H2 t10 H10 := fu8.trans f10
      have pin : ∀ b ∈ fp, ∀ o, s7.heap.get? b = some o → s11.heap.get? b = some o ∧ upd H10 D (.lst (av ++ [yv])) b = none := fun b hb o z =>
        let p := I11.pin (b, o) (List.mem_append_right _ (List.mem_append_right _ (mem_pinsAt hb z)))
        ⟨p.1, p.2.1⟩
      refine ⟨ts.length - (i + 1), by omega, i + 1, _, rfl, (I11.unpinned (pins := [])).weak ?_ (fun j v e => ?_), T.keep _ _ _ at7 fun b hb o z => (pin b hb o z).1, fun b hb => ?_, ⟨t10, acc ++ [ty], av ++ [yv], hlt, ?_, so10.turn, upd_same, ?_, q10⟩⟩
      · have := congrArg List.length ew
        rw [wipe_length, wipe_length, wipe_length] at this
        rw [wipe_length]
        exact this.symm
      · have w2 : L2.wipe σ8 (own.map (·.2)) = L2.wipe σ (own.map (·.2)) := ew.trans (wipe_wipe σ _)
        rw [← w2] at e
        exact (wipe_some e).1
      · obtain ⟨o, z, _⟩ := T.obj _ _ at7 b hb
        exact (pin b hb o z).2
      · exact fu10.updN freeD
      · exact (Reps.append ra10 (.cons rep10 .nil)).turn (fun _ q => q) kk
    · have e : i = ts.length := by omega
      subst e
      rw [List.drop_length] at h'
      have js := src.stop (Hide Z D) s' H5 _ f' zz h'.1 so' (Nat.le_refl _)
      refine thnF (T.done (X.blk s3 H3 scope ce fp) rfl rfl rfl hc _ [] s5 _ H5 (fun _ _ => False) I5 (fpo I5 n5) at5 js) fun r s6 q6 => ?_
      obtain ⟨rfl, I6⟩ := q6
      have I7 : Inv X pins σ H5 s6 := I3.call' (ch := fp) I6.os I6.base I6.hok I6.bare fun b hb => ⟨(f3 b hb).1.2.2.2.1, (f3 b hb).1.2.1, (f3 b hb).1.2.2.2.2.1, (f3 b hb).1.2.2.2.2.2⟩
      have nz : ¬ Z D := fun q => by
        obtain ⟨_, o, ho⟩ := so1.hid D q
        rw [freeD] at ho
        cases ho
      have noD := so'.hid D (.inr rfl)
      have nC : H5 ce.locals = none := I6.free
      obtain ⟨m, hm, _⟩ := I6.loc
      exact fin D ce s6 H5 I7 (h'.2 _ _ (fu1.trans f') (.lst hDa ⟨noD.1, nz⟩ (ra.turn (fun _ q => .inl q) fun _ _ _ z => z)) so'.bare) ⟨m, hm⟩ (I3.fpOk (Nat.le_of_eq loc.symm) nC)
  exact codeAny_compStart_list loop (T.self X.A 0 _ _ _ at4 loop)
end
section
variable {X : Cx} {cl : CL} {W : WX} {tg iter elt : Expr} {I : FI} {g : TG} {g' : FG} {te : FE} {scope : Scope} {own : List (Str × Nat)} {pos spos py : Pos} {i : Nat} {y : Str}
abbrev EltX (X : Cx) (cl : CL) (W : WX) (scope : Scope) (elt : Expr) (te : FE) : Prop := ∀ (s : Shared) (H : Hp) (C : Addr) (cc : List (Str × Addr)) (fp : List Addr) (xe : Value → Shared → Prop) (σ : L2.St), Takes ((X.blk s H scope (compEnvC scope cc C X.env) fp).wish xe) (fun c d _ H' => W c d σ H') →
  JE ((X.blk s H scope (compEnvC scope cc C X.env) fp).wish xe) cl (fun c d _ H' => W c d σ H') elt te
theorem EltX.mon (he : EltX X cl W scope elt te) : MonE te := (he X.s_0 (fun _ => none) 0 [] [] (fun _ _ => True) [] fun _ _ _ => trivial).mon
theorem js_setLcX (hst : X.stack = X.env :: X.outer) (hf : X.env.frame = some X.env.locals) (tk : Takes X W) (hc : X.calm = true) (hN : X.N.Nodup) (hy : X.N[i]? = some y) (hyl : X.env.scope.names.lookup y = some .local)
    (hsw : swapsWith (.ListComp elt [⟨tg, iter, [], 0⟩] scope pos) (some (.Name y py)) spos.line X.env = pure true) (hi : JI X cl W tg iter I) (ok : BlkOk X.N X.env.scope scope own)
    (hg : ∀ (s : Shared) (H : Hp) (C : Addr) (cc : List (Str × Addr)) (fp : List Addr), PG (X.blk s H scope (compEnvC scope cc C X.env) fp) tg g) (hG : GT X.K cl (own.map (·.2)) g g') (he : EltX X cl W scope elt te)
    (hs : ∀ x, foldedSetIterable iter X.env x = pure x := by intro _; rfl) : JS X cl W (.Assign [.Name y py] (.ListComp elt [⟨tg, iter, [], 0⟩] scope pos) spos) (fSet i (fLcX I g' te (own.map (·.2)))) := by
  have ml : MonE (fLcX I g' te (own.map (·.2))) := mon_fLcX hi.mon hG.mon he.mon
  refine ⟨fun τ s D D' le h => ml _ _ _ _ _ _ (fun _ _ q => le.nx _ _ q) (fun _ _ q => le.xr _ _ _ q) h, ⟨fun pins s σ H D I0 h => ?_⟩⟩
  obtain ⟨Z, τ, s0, re, so, h⟩ := h
  have h' : tT X.K cl W (fLcX I g' te (own.map (·.2))) σ H fun x H1 => D.nx (σ.set i (some x)) H1 :=
    go ml re so h (fun tx s1 v H1 p1 f1 re1 r1 so1 => p1 _ H1 f1 (re1.set r1 i) so1) fun _ _ q => xe_w re q
  rw [exec_Assign_Name_used _ _ _ _ hsw]
  refine wpAny_bind (wpAny_standAt (wpAny_bind (wpAny_bind (wpAny_mono (lcX_run (use := some (assign (.Name y py) X.env)) (Qf := fun _ s' => SP X pins D .next s') (pos' := firstIterPos [⟨tg, iter, [], 0⟩] pos) hst hf tk hc hN hi ok hg hG he he.mon hs I0 h' ?_) (fun _ s' hq => wpAny_pure (wpAny_pure hq)) fun _ _ z => z))))
  intro L ce s' H' I' q hn fo
  obtain ⟨m, hn⟩ := hn
  refine wpAny_assign_Name (store_ok2 (v := V.ref L) I' hN hy (.inl hyl) rfl (fun s2 I2 hx => ?_) (.inr hyl))
  obtain ⟨a, sb, ha⟩ := hx
  have na : ce.locals ≠ a := ha.elim (fun z => z ▸ fo.2.1) fun z e => fo.2.2.2.2.1 y a z e.symm
  exact ⟨m, hn.sameBut sb na, fun h3 sb3 => ⟨_, H', I2.turned (t' := s2.toks) (it := ce.locals) (fun b o hb z => (sb3.2 b hb).trans z) fo.1 fo.2.1 fo.2.2.2.1 fo.2.2.2.2.1 fo.2.2.2.2.2, q⟩⟩
end
def hLcX (ok : S → Prop) (g : FG) (τ : Env) (ts acc : List T) (s : S) [te : Bx FE] [E : Bx KX] [Q : Bx (List T → S → Prop)] : Prop := lcX ok g te.v τ E.v ts acc s Q.v
theorem hold_lcX {ok : S → Prop} {g : FG} {te : FE} {τ : Env} {E : KX} {ts acc : List T} {s : S} {Q : List T → S → Prop} : lcX ok g te τ E ts acc s Q = @hLcX ok g τ ts acc s ⟨te⟩ ⟨E⟩ ⟨Q⟩ := rfl
/-- where f first gives nothing -/
def badAt (f : T → Option T) : Nat → List T → Option Nat
  | _, [] => none
  | n, t :: r => match f t with | some _ => badAt f (n + 1) r | none => some n
/-- [f(t) for k, t in enumerate(xs)], nothing changes; the first t that f does not take is refused -/
theorem lcX_enum {s : S} {E : KX} {te : FE} {τ : Env} {i j : Nat} {Q : List T → S → Prop} {ok : S → Prop} (f : T → Option T) (er : Nat → Er) (ho : ok s) : ∀ {xs acc : List T} {n : Nat},
    (∀ (k : Nat) (t : T), t ∈ xs → ∀ Q : KT, (match f t with | some y => Q y s | none => E (er k) s) → te ((τ.set i (some (.int (k : Int)))).set j (some t)) s Q E) → acc.length + xs.length ≤ 1000000 →
    (match badAt f n xs with | some k => E (er k) s | none => Q (acc ++ xs.filterMap f) s) → lcX ok (gT 2 (gsCons (gN i) (gsCons (gN j) gsNil))) te τ E (enumT n xs) acc s Q
  | [], acc, n, _, _, k => ⟨ho, by simpa [badAt] using k⟩
  | t :: r, acc, n, h, hl, k => by
    rw [List.length_cons] at hl
    refine ⟨ho, by omega, ?_⟩
    show 2 = 2 ∧ _
    refine ⟨rfl, ?_⟩
    refine h n t List.mem_cons_self _ ?_
    unfold badAt at k
    rcases e : f t with _ | y
    · rw [e] at k
      exact k
    · rw [e] at k
      refine lcX_enum f er ho (fun k t m => h k t (List.mem_cons_of_mem _ m)) (by simp; omega) ?_
      simp only [List.filterMap_cons, e] at k
      simpa using k
theorem rows_madeM : True := by
  have := @Mr.fLcX.eq_1
  trivial
end Mr
namespace Mr
open PySem PySem.Spec PyProof.Rows L2 Tw
section
variable {prog : Program} {w : World} {A : Around} {E : Value → Shared → Prop} {s : Shared}
theorem tup_end (hh : A.handled = none) {it t : Addr} {items : Array Value} {n : Nat} {Q : Value → Shared → Prop} (hit : s.heap.IsTupleIter it t n) (tp : s.heap.IsTuple t items) (gn : items[n]? = none)
    (q : ∀ h' e, Heap.ExtBut it s.heap h' → (∃ o, h'.get? e = some o ∧ o.cls = .type "StopIteration") → E (.ref e) { s with heap := h' }) : wpAny (model prog w) A (Builtin.SmallTypes.nextOf (.ref it)) Q E s := by
    obtain ⟨o2, e2, c2, n2, d2⟩ := tp
    obtain ⟨o, e, c, d⟩ := id hit
    unfold Builtin.SmallTypes.nextOf
    refine wpAny_bind (wpAny_callSpecial?_slot (name := Str.ofString "__next__") hit.typeIs F.slot_tuple_iterator_next (wpAny_call_entry F.slot_tuple_iterator_next hit.typeIs F.entry_tuple_iterator_next ?_ (F.args_tuple_iterator_next_1 _)))
    refine wpAny_bind (m := field (.ref it) 0) (wpAny_field e d (x := .ref t) rfl ?_)
    rw [show (Value.ref t == Value.none) = false from rfl, if_neg Bool.false_ne_true]
    refine wpAny_bind (m := field (.ref it) 1) (wpAny_field e d (x := .int n 0) rfl (wpAny_bind (wpAny_seqItems e2 d2 ?_)))
    simp only [Int.toNat_natCast, gn]
    refine wpAny_bind (wpAny_rule (wpAny_bind (wpAny_setField e d (by simp) (wpAny_bind ?_))))
    simp only [newExc, newTuple]
    refine wpAny_bind (wpAny_newObj_type (wpAny_bind (m := firstArgMember _ _) (wpAny_of_eq (a := Value.none) (by first | rfl | (simp only [firstArgMember]; rfl)) (wpAny_newObj_type ?_ (by size_fits)))) (by size_fits))
    simp only [raiseNew]
    refine wpAny_bind (wpAny_handled ?_)
    first | rw [show A.in1.handled = none from hh] | rw [hh]
    exact wpAny_bind (wpAny_pure (wpAny_throw (q _ _ (((Heap.SameBut.update ..).extBut.push _).push _) ⟨_, Heap.get?_push_size _ rfl, rfl⟩)))
/-- a tuple's iterator hands out the tuple's items -/
theorem draws_tup (hh : A.handled = none) {it t : Addr} (items : Array Value) (ne : t ≠ it) :
    Draws prog w A it [it, t] items.size (fun i v => items[i]? = some v) (fun i h => h.IsTupleIter it t i ∧ h.IsTuple t items) where
  live := fun _ _ st => st.1.elim fun o h => ⟨o, h.1⟩
  frame := fun _ _ _ st k => by
    obtain ⟨⟨o, e, r⟩, o2, e2, r2⟩ := st
    exact ⟨⟨o, k it (by simp) o e, r⟩, o2, k t (by simp) o2 e2, r2⟩
  item := fun i s Q E lt st q => by
    obtain ⟨hit, o2, e2, c2, n2, d2⟩ := st
    obtain ⟨o, e, c, d⟩ := id hit
    have gi : items[i]? = some items[i] := by simp [lt]
    unfold Builtin.SmallTypes.nextOf
    refine wpAny_bind (wpAny_callSpecial?_slot (name := Str.ofString "__next__") hit.typeIs F.slot_tuple_iterator_next (wpAny_call_entry F.slot_tuple_iterator_next hit.typeIs F.entry_tuple_iterator_next ?_ (F.args_tuple_iterator_next_1 _)))
    refine wpAny_bind (m := field (.ref it) 0) (wpAny_field e d (x := .ref t) rfl ?_)
    rw [show (Value.ref t == Value.none) = false from rfl, if_neg Bool.false_ne_true]
    refine wpAny_bind (m := field (.ref it) 1) (wpAny_field e d (x := .int i 0) rfl (wpAny_bind (wpAny_seqItems e2 d2 ?_)))
    simp only [Int.toNat_natCast, gi]
    have sb := Heap.SameBut.update s.heap it (Obj.mapFields (·.setIfInBounds 1 (rawInt ((i : Int) + 1))))
    refine wpAny_bind (wpAny_setField e d (by simp) (wpAny_pure ⟨items[i], rfl, wpAny_pure (q _ _ s.toks gi ⟨⟨_, Heap.get?_update_self _ e (Obj.isFreed_of_fields (Obj.data_mapFields d _)), ?_, ?_⟩, o2, ?_, c2, n2, d2⟩ (Heap.SameBut.update ..))⟩))
    · rw [Obj.cls_mapFields]; exact c
    · rw [Obj.data_mapFields d]; simp [rawInt]
    · exact (Heap.get?_update_other _ _ (Ne.symm ne)).trans e2
  done := fun s Q E st q => tup_end hh st.1 st.2 (by simp) q
/-- behind the last item -/
theorem draws_end (hh : A.handled = none) {it t : Addr} (items : Array Value) (n : Nat) (hn : items[n]? = none) :
    Draws prog w A it [it, t] n (fun _ _ => True) (fun i h => i = n ∧ h.IsTupleIter it t n ∧ h.IsTuple t items) where
  live := fun _ _ st => st.2.1.elim fun o h => ⟨o, h.1⟩
  frame := fun _ _ _ st k => by
    obtain ⟨e0, ⟨o, e, r⟩, o2, e2, r2⟩ := st
    exact ⟨e0, ⟨o, k it (by simp) o e, r⟩, o2, k t (by simp) o2 e2, r2⟩
  item := fun i s Q E lt st q => absurd lt (by omega)
  done := fun s Q E st q => tup_end hh st.2.1 st.2.2 hn q
end
/-- the tuple at a, each item in a new pair with its number -/
def IteT (K : PySem.W.Frag) (a : Addr) : It where
  go := fun i H => ∃ xs x, SqT K H a xs ∧ xs[i]? = some x
  yld := fun i H v H' => ∃ p x, v = .ref p ∧ H p = none ∧ H' = upd H p (.tup [.int (i : Nat), x]) ∧ ∀ xs, SqT K H a xs → xs[i]? = some x
  stop := fun i H => ∃ xs, SqT K H a xs ∧ xs.length ≤ i
theorem turn_enumT {P : Program} {w : World} {K : PySem.W.Frag} {elts : List Expr} {kk : Nat} {tpos : Pos} (a e it : Addr) :
    Turn P w K (.Tuple elts kk tpos) (IteT K a) [e, it] e (fun i h => (∃ old, IsEnum h e it ((i : Nat) : Int) old) ∧ h.IsTupleIter it a i ∧ e ≠ it) where
  mem := List.mem_cons_self
  obj := fun i h st b hb => by
    obtain ⟨⟨old, he⟩, ⟨o, ho, hc, hd⟩, _⟩ := st
    rcases List.mem_cons.mp hb with rfl | hb
    · exact ⟨_, he, nofun⟩
    · cases List.mem_singleton.mp hb
      exact ⟨o, ho, fun v q => nomatch (hd.symm.trans q)⟩
  keep := fun i h h' st k => by
    obtain ⟨⟨old, he⟩, hi, ne⟩ := st
    exact ⟨⟨old, k e List.mem_cons_self _ he⟩, hi.at fun o q => k it (by simp) o q, ne⟩
  item := by
    rintro X rfl rfl rfl hc i pins s σ H E I hf ⟨⟨old, he⟩, hit, ne⟩ ⟨xs, x, hq, hx⟩
    obtain ⟨its, rv, tup, _⟩ := I.tuple hq
    obtain ⟨u, hu, ru⟩ := rv.get hx
    have le : e < s.heap.objs.size := Heap.lt_size he
    have li : it < s.heap.objs.size := hit.elim fun _ z => Heap.lt_size z.1
    have ai : a ≠ it := by
      rintro rfl
      obtain ⟨o, e1, c1, _⟩ := hit
      obtain ⟨o2, e2, c2, _⟩ := tup
      cases e1.symm.trans e2
      exact absurd (Value.type.inj (c1.symm.trans c2)) (by decide)
    have ae : a ≠ e := by
      rintro rfl
      obtain ⟨o2, e2, c2, _⟩ := tup
      cases he.symm.trans e2
      exact absurd (Value.type.inj c2) (by decide)
    have lt : i < its.toArray.size := by
      have := (List.getElem?_eq_some_iff.mp hu).1
      simpa using this
    have D := draws_tup (prog := X.prog) (w := X.w) (A := X.A.in1) (show X.A.in1.handled = none from I.ok.hd hc) its.toArray ai
    refine wpAny_pyNext_enum_itemD D he ⟨hit, tup⟩ lt ne (by simp [ne, Ne.symm ae]) fun y h1 tk py ho st1 hT hz keep => ?_
    have ey : y = u := by
      have z : its[i]? = some y := by simpa using py
      exact Option.some.inj (z.symm.trans hu)
    subst ey
    refine ⟨_, rfl, wpAny_letOwnedTupleGo_enum (s := { s with heap := h1, toks := tk + 1 }) ho fun h2 he2 sb => ?_⟩
    have pT : h2.get? s.heap.objs.size = some { cls := .type "tuple", data := .seq #[.int i tk, y] } := (sb.2 _ (Nat.ne_of_gt le)).trans hT
    have new : ObjOk X.prog X.w (upd H s.heap.objs.size (.tup [.int (i : Nat), x])) h2 s.heap.objs.size (.tup [.int (i : Nat), x]) := ⟨by show 2 ≤ sizeLine; decide, [.int i tk, y], .cons ⟨_, rfl⟩ (.cons ru .nil), _, pT, rfl, _, rfl⟩
    have I1 : Inv X pins σ (upd H s.heap.objs.size (.tup [.int (i : Nat), x])) { s with heap := h2, toks := tk + 1 } := by
      refine I.turnedNew (ch := [e, it]) (fun b ob hb q => ?_) hf (Nat.le_refl _) new
      have n1 : b ≠ e := fun z => hb (by simp [z])
      have n2 : b ≠ it := fun z => hb (by simp [z])
      exact (sb.2 b n1).trans (keep b ob n1 n2 q)
    refine ⟨.ref s.heap.objs.size, _, I1, rfl, ⟨_, x, rfl, I.hok.fresh (Nat.le_refl _), rfl, fun ys hy => by rw [I.tuple_inj hy hq]; exact hx⟩, ⟨⟨y, ?_⟩, st1.1.at fun o q => (sb.2 it (Ne.symm ne)).trans q, ne⟩, fun b hb => ?_⟩
    · rw [show ((i + 1 : Nat) : Int) = (i : Int) + 1 by omega]
      exact he2
    · have lb : b < s.heap.objs.size := by
        rcases List.mem_cons.mp hb with rfl | hb
        · exact le
        · cases List.mem_singleton.mp hb; exact li
      exact (upd_ne (Nat.ne_of_lt lb)).trans (hf b hb).1
  done := by
    rintro X rfl rfl rfl hc i pins s σ H E I hf ⟨⟨old, he⟩, hit, ne⟩ ⟨xs, hq, hx⟩
    obtain ⟨its, rv, tup, _⟩ := I.tuple hq
    obtain ⟨f0, f1, f2, f3, f4, f5⟩ := hf it (by simp)
    have none_ : its.toArray[i]? = none := by
      have := rv.length
      simp
      omega
    have D := draws_end (prog := X.prog) (w := X.w) (A := X.A.in1) (it := it) (t := a) (show X.A.in1.handled = none from I.ok.hd hc) its.toArray i none_
    exact wpAny_pyNext_enum_endD D he ⟨rfl, hit, tup⟩ fun h' eb => ⟨rfl, I.turned (t' := s.toks) (fun b o hb q => eb b o hb q) f0 f1 f3 f4 f5⟩
  self := fun A i s Q E st h => st.1.elim fun _ he => wpAny_pyIter_enum he h
section
variable {X : Cx} {cl : CL} {W : WX} {k j c : Nat} {fn : Str} {e : Expr} {Fa : FE} {p pos tpos : Pos} {elts : List Expr} {kk : Nat}
/-- enumerate(e), e a list, an instance of the class c, or a tuple -/
def iEnumAV (K : PySem.W.Frag) (C : Addr) (fn : Str) (ta : TA) : TI := fun σ H R => ta σ H fun vs H1 => ∃ a, vs = [.ref a] ∧ ((∃ xs, SqL K H1 a xs ∧ R (Ite K a) H1) ∨ (∃ dx fs l zs, H1 a = some (.ins C dx fs) ∧ fs.lookup fn = some (.ref l) ∧ SqL K H1 l zs ∧ R (Ite K l) H1) ∨ ∃ xs, SqT K H1 a xs ∧ R (IteT K a) H1)
theorem pi_enumA {ta : TA} (d : IterM X.prog X.w X.K X.mg X.base cl k c fn) (hr : Rm j X.A) (hk : k + 2 ≤ j) (hg : Gl X "enumerate") (hm : X.mg "enumerate" = none) (ha : PA X [e] ta) (hs : starEach [e] X.env = [(false, eval e X.env)] := by rfl) :
    PI X (.Tuple elts kk tpos) (.Call (.Name "enumerate" p) [e] [] pos) (iEnumAV X.K (cl c) fn ta) := by
  refine ⟨fun pins s σ H R I h => ?_⟩
  refine Call_ (ld_blt I hg hm boot_enumerate (PyProof.Rows.callWith_type1 (thn (ha.run pos pins s σ H _ I h) fun us s1 ⟨vs, H1, I1, r1, q1⟩ => ?_) hs rfl))
  obtain ⟨a, ex, q⟩ := q1
  subst ex
  cases r1 with
  | cons r rr =>
    cases rr
    cases r
    rcases q with ⟨xs, hq, q⟩ | ⟨dx, fs, l, zs, hin, hl, hq, q⟩ | ⟨xs, hq, q⟩
    · obtain ⟨its, rv, p', hz⟩ := I1.list hq
      refine call_enumerate_list p'.isList fun h' he hit hsz hk => wpAny_pyIter_enum he ?_
      have I2 : Inv X pins σ H1 { s1 with heap := h' } := I1.kept (t' := s1.toks) hk
      refine ⟨s1.heap.objs.size + 1, [s1.heap.objs.size + 1, s1.heap.objs.size], _, _, H1, rfl, I2, turn_enum a (s1.heap.objs.size + 1) s1.heap.objs.size, ⟨⟨.none, he⟩, hit, Nat.succ_ne_self _⟩, fun b hb => ?_, q⟩
      have hle : s1.heap.objs.size ≤ b := by
        have e' : b = s1.heap.objs.size + 1 ∨ b = s1.heap.objs.size := by simpa using hb
        rcases e' with rfl | rfl
        · exact Nat.le_add_right _ _
        · exact Nat.le_refl _
      exact I1.fpOk hle (I1.hok.fresh hle)
    · obtain ⟨f, cc, me, run⟩ := d.ex
      obtain ⟨mA, J, _⟩ := ins_get I1.hok hin
      obtain ⟨od, J, _⟩ := J.look
      obtain ⟨mm, hF⟩ := I1.fr
      obtain ⟨j', rfl⟩ : ∃ j', j = j' + 2 := ⟨j - 2, by omega⟩
      have rmA : Rm k X.A.in1.in1 := ((hr.in1).in1).mono (by omega)
      have rc := run X.A.in1.in1 X.stack s1 H1 a dx l fs zs (fun v H' => ∃ it, v = .ref it ∧ H1 it = none ∧ s1.heap.objs.size ≤ it ∧ H' = upd H1 it (ItO l it 0)) rmA I1.env0.in1.in1 hin hl hq fun it h1 h2 => ⟨it, rfl, h1, h2, rfl⟩
      refine call_enum J.at_ ?_
      refine PySem.W.owit_iter hF I.ok.mod.kin J me.at_ me.fn (wpAny_call (codeAny_mono rc fun r s2 hq2 => ?_))
      match r, hq2 with
      | .error e, z =>
        obtain ⟨_, _, _, _, _, _, _, _, _, _, _, _, no⟩ := z
        exact no.elim
      | .ok .next, z => exact False.elim z
      | .ok .brk, z => exact False.elim z
      | .ok .cont, z => exact False.elim z
      | .ok (.ret u), z =>
        obtain ⟨v, H2, I2, rv, it, rfl, hn, hge, rfl⟩ := I1.after z
        obtain rfl : u = Value.ref it := rv
        have hi : s2.heap.get? it = some (GNX.itObj l 0) := itO_get I2 upd_same
        have hT : s2.TypeIs (.ref it) "list_iterator" := ⟨_, hi, rfl⟩
        refine wpAny_specialOf hT slot_listiter_next.lookup ?_
        refine ⟨it, rfl, fun h' he hsz hkp => ?_⟩
        have I3 := ItX.inv_drop I2 upd_same
        rw [ItX.dropH_upd hn] at I3
        have hlt : it < s2.heap.objs.size := Heap.lt_size hi
        refine wpAny_pyIter_enum he ?_
        have I4 : Inv X pins σ H1 { s2 with heap := h' } := I3.kept (t' := s2.toks) hkp
        refine ⟨s2.heap.objs.size, [s2.heap.objs.size, it], _, _, H1, rfl, I4, turn_enum l s2.heap.objs.size it, ⟨⟨.none, he⟩, ⟨_, hkp _ _ hi, rfl, rfl⟩, Nat.ne_of_gt hlt⟩, fun b hb => ?_, q⟩
        have e' : b = s2.heap.objs.size ∨ b = it := by simpa using hb
        rcases e' with rfl | rfl
        · exact I3.fpOk (Nat.le_refl _) (I3.hok.fresh (Nat.le_refl _))
        · have z := ItX.inv_fp I2 upd_same (Nat.le_trans I1.sz hge)
          rw [ItX.dropH_upd hn] at z
          exact z
    · obtain ⟨its, rv, tup, _⟩ := I1.tuple hq
      obtain ⟨ob, eo, co, no, dO⟩ := id tup
      refine call_enum eo (wpAny_pyIter_tuple tup ⟨s1.heap.objs.size, rfl, fun h' he hz keep => wpAny_pyIter_enum he ?_⟩)
      have new : ∀ b o, s1.heap.get? b = some o → h'.get? b = some o := fun b o z => keep b o (Heap.get?_push_of_some _ z)
      have len : (s1.heap.push { cls := .type "tuple_iterator", data := .fields #[.ref a, .int 0 0] }).objs.size = s1.heap.objs.size + 1 := Heap.size_push ..
      rw [len] at he hz ⊢
      have hit : h'.IsTupleIter s1.heap.objs.size a 0 := ⟨_, keep _ _ (Heap.get?_push_size _ rfl), rfl, rfl⟩
      have I2 : Inv X pins σ H1 { s1 with heap := h' } := I1.kept (t' := s1.toks) new
      refine ⟨s1.heap.objs.size + 1, [s1.heap.objs.size + 1, s1.heap.objs.size], _, _, H1, rfl, I2, turn_enumT a (s1.heap.objs.size + 1) s1.heap.objs.size, ⟨⟨.none, he⟩, hit, Nat.succ_ne_self _⟩, fun b hb => ?_, q⟩
      have le : s1.heap.objs.size ≤ b := by
        rcases List.mem_cons.mp hb with rfl | hb
        · exact Nat.le_add_right _ _
        · cases List.mem_singleton.mp hb; exact Nat.le_refl _
      exact I1.fpOk le (I1.hok.fresh le)
theorem src_enumT {K : PySem.W.Frag} {Z : Addr → Prop} {s : S} {H : Hp} {a : Addr} {vs : List V} {ts : List T} {ok : S → Prop} (keep : ∀ s' H', Fut s H s' H' → SqT K H' a vs) (r : Reps K cl Z s H vs ts) : Src K cl Z (IteT K a) (enumT 0 ts) ok s H where
  go := fun Z' s2 H2 i t f zz ok so2 e => by
    obtain ⟨u, e1, rfl⟩ := enumT_get 0 i ts t e
    obtain ⟨v, ev, rv⟩ := r.get i e1
    refine ⟨⟨_, v, keep _ _ f, ev⟩, ?_⟩
    rintro y H' ⟨T0, x, rfl, hT, rfl, hx⟩
    have ex := hx _ (keep _ _ f)
    rw [ev] at ex
    cases ex
    refine ⟨Fut.new hT, so2.new hT, ?_⟩
    rw [Nat.zero_add]
    exact .tup upd_same (so2.nomut hT) (.cons (.int _) (.cons ((rv.futz f zz).fut (Fut.new hT)) .nil))
  stop := fun Z' s2 H2 i f zz ok so2 e => by
    rw [enumT_len] at e
    exact ⟨_, keep _ _ f, by rw [r.length]; exact e⟩
def S.enumA? (s : S) (c : Nat) (fn : Str) (x : T) : Option (List T) := match x with
  | .tup ts => some ts
  | _ => s.enum? c fn x
def iEnumA (c : Nat) (fn : Str) (A : FA) : FI := fun τ s Q E => A τ s (fun xs s1 => match xs with | [x] => (match s1.enumA? c fn x with | some ts => Q (enumT 0 ts) (fun _ => True) s1 | none => False) | _ => False) E
end
section
variable {X : Cx} {cl : CL}
def intsOf : List T → Option (List Int)
  | [] => some []
  | .int i :: r => (intsOf r).map (i :: ·)
  | _ => none
theorem Reps.intsOf {K : PySem.W.Frag} {Z : Addr → Prop} {s : S} {H : Hp} : ∀ {ts : List T} {vs : List V} {is : List Int}, Reps K cl Z s H vs ts → Mr.intsOf ts = some is → vs = is.map V.int
  | [], _, _, r, e => by
    cases r
    cases e
    rfl
  | .int i :: ts, _, _, r, e => by
    cases r with
    | cons r rs =>
      obtain ⟨l, e1, rfl⟩ := Option.map_eq_some_iff.mp (show (Mr.intsOf ts).map (i :: ·) = some _ from e)
      cases r
      rw [Reps.intsOf rs e1]
      rfl
  | .non :: _, _, _, _, e | .bl _ :: _, _, _, _, e | .str _ :: _, _, _, _, e | .lst _ :: _, _, _, _, e | .tup _ :: _, _, _, _, e | .dct _ :: _, _, _, _, e | .obj _ _ :: _, _, _, _, e | .err _ _ :: _, _, _, _, e
  | .cell _ :: _, _, _, _, e | .pen :: _, _, _, _, e | .ty _ :: _, _, _, _, e | .lam _ _ _ _ _ :: _, _, _, _, e => nomatch e
end
theorem rows_madeN : True := by
  have := @Mr.iEnumA.eq_1
  trivial
end Mr
namespace Mr
open PySem PySem.Spec PyProof.Rows L2 Tw
section
variable {X : Cx} {cl : CL} {W : WX} {e : Expr} {pos : Pos} {Fa : FE}
def fRetC (Fa : FE) : FS := fun τ s D => Fa τ s (fun t s1 => match t with | .cell a => (match s1.on a with | some (.lst xs) => D.rt (.lst xs) (s1.del a) | _ => False) | t => D.rt t s1) (xk τ D)
theorem rows_madeO : True := by
  have := @Mr.fRetC.eq_1
  trivial
end
end Mr
namespace Mr
open PySem PySem.Spec PyProof.Rows L2 Tw
section
variable {X : Cx} {cl : CL} {W : WX} {tg tg1 e a : Expr} {A : FA} {pos p : Pos} {I I1 : FI}
/-- the loop of two clauses -/
def lc2T (ok : S → Prop) (g : FG) (I1 : FI) (g1 : FG) (te : FE) (vs1 : List Nat) (τ : Env) : List T → List T → S → (List T → S → Prop) → Prop
  | [], acc, s, Q => ok s ∧ Q acc s
  | t :: ts, acc, s, Q => ok s ∧ g t τ s fun τ1 s1 => I1 τ1 s1 (fun ts1 ok1 s2 => lcT ok1 g1 fYes te (wipeT τ1 vs1) ts1 acc s2 fun acc' s3 => lc2T ok g I1 g1 te vs1 τ ts acc' s3 Q) noX
def fLc2 (I : FI) (g : FG) (I1 : FI) (g1 : FG) (te : FE) (vs vs1 : List Nat) : FE := fun τ s Q E => I τ s (fun ts ok s1 => lc2T ok g I1 g1 te vs1 (wipeT τ vs) ts [] s1 fun ys s2 => Q (.lst ys) s2) E
end
def hLc2 (ok : S → Prop) (g : FG) (vs1 : List Nat) (τ : Env) (ts acc : List T) (s : S) [I1 : Bx FI] [g1 : Bx FG] [te : Bx FE] [Q : Bx (List T → S → Prop)] : Prop := lc2T ok g I1.v g1.v te.v vs1 τ ts acc s Q.v
theorem hLc2.cons {ok : S → Prop} {g g1 : FG} {I1 : FI} {te : FE} {vs1 : List Nat} {t : T} {ts acc : List T} {τ : Env} {s : S} {Q : List T → S → Prop} (ho : ok s)
    (h : g t τ s fun τ1 s1 => I1 τ1 s1 (fun ts1 ok1 s2 => @hLc ok1 g1 (wipeT τ1 vs1) ts1 acc s2 ⟨fYes⟩ ⟨te⟩ ⟨fun acc' s3 => @hLc2 ok g vs1 τ ts acc' s3 ⟨I1⟩ ⟨g1⟩ ⟨te⟩ ⟨Q⟩⟩) noX) : @hLc2 ok g vs1 τ (t :: ts) acc s ⟨I1⟩ ⟨g1⟩ ⟨te⟩ ⟨Q⟩ := ⟨ho, h⟩
theorem hLc2.nil {ok : S → Prop} {g g1 : FG} {I1 : FI} {te : FE} {vs1 : List Nat} {acc : List T} {τ : Env} {s : S} {Q : List T → S → Prop} (ho : ok s) (h : Q acc s) : @hLc2 ok g vs1 τ [] acc s ⟨I1⟩ ⟨g1⟩ ⟨te⟩ ⟨Q⟩ := ⟨ho, h⟩
theorem rows_madeP : True := by
  have := @Mr.fLc2.eq_1
  trivial
end Mr
namespace Mr
open PySem PySem.Spec PyProof.Rows L2 Tw
section
variable {X : Cx} {cl : CL} {W : WX} {e : Expr} {es : List Expr} {pos p : Pos} {Fa : FE} {A : FA} {x : Str} {k j : Nat}
def fLenO (cc : Nat) (D : FD) (A : FA) : FE := fun τ s Q E => A τ s (fun ts s1 => match ts with | [x] => (match s1.obj? x with | some (c, _) => c = cc ∧ cM D [x] s1 (fun t s2 => match t with | .int z => (0 ≤ z ∧ z < 1000000000000) ∧ Q (.int z) s2 | _ => False) noX | none => False) | _ => False) E
/-- a list of the def's own that leaves it is changed no more -/
def frz (s : S) : T → Option (T × S)
  | .cell a => match s.on a with | some (.lst xs) => some (.lst xs, s.del a) | _ => none
  | t => some (t, s)
def fRetP (Fa : FE) : FS := fun τ s D => Fa τ s (fun t s1 => match t with | .tup [x, y] => (match frz s1 x with | some (x', s2) => (match frz s2 y with | some (y', s3) => D.rt (.tup [x', y']) s3 | none => False) | none => False) | _ => False) (xk τ D)
theorem rows_madeQ : True := by
  have := @Mr.fLenO.eq_1
  have := @Mr.fRetP.eq_1
  have := @Mr.frz.eq_1
  trivial
end
end Mr
namespace Mr
open PySem PySem.Spec PyProof.Rows L2 Tw
section
variable {X : Cx} {cl : CL}
def sumO : ON
  | s, [x] => match s.lst? x with | some xs => (match intsOf xs with | some is => some (True, .int is.sum) | none => none) | none => none
  | _, _ => none
end
section
variable {X : Cx} {cl : CL} {W : WX} {o e : Expr} {es : List Expr} {Fo : FE} {A : FA} {pos apos : Pos}
/-- xs.count(k) of a list of ints -/
def onCnt (s : S) (x : T) (ts : List T) (Q : KT) : Prop := match s.lst? x with
  | some xs => (match ts with | [.int k] => (match intsOf xs with | some is => Q (.int ((is.count k : Nat) : Int)) s | none => False) | _ => False)
  | none => False
theorem onCnt.mon {s : S} {x : T} {ts : List T} {Q Q' : KT} (i : ∀ t s, Q t s → Q' t s) (h : onCnt s x ts Q) : onCnt s x ts Q' := by
  unfold onCnt at h ⊢
  split at h
  · split at h
    · split at h
      · exact i _ _ h
      · exact h
    · exact h
  · exact h
def fCount (Fo : FE) (A : FA) : FE := fun τ s Q E => Fo τ s (fun x s1 => (s1.lst? x).isSome = true ∧ A τ s1 (fun ts s2 => onCnt s2 x ts Q) E) E
theorem je_count (slot : Slot "list" "count" "list.count") (hty : typeOf (.builtin "list.count") = pure (.type "method_descriptor")) (ho : JE X cl W o Fo) (ha : JA X cl W (e :: es) A)
    (hbase : attributeBase o "count" X.env (eval o X.env) = eval o X.env := by rfl)
    (hfew : ((backTo pos (starEach (e :: es) X.env)).all (fun x => !x.1) && (backToKw pos (keywordEach [] X.env)).all (fun x => x.1.isSome)
      && decide ((e :: es).length + ([] : List Keyword).length + (if ([] : List Keyword).isEmpty then 0 else 1) < 30)) = true := by rfl)
    (hline : (apos.endLine == pos.line) = true := by rfl) (hs : starEach (e :: es) X.env = (false, eval e X.env) :: starEach es X.env := by rfl) (hplain : (backTo pos (starEach es X.env)).any (·.1) = false := by rfl) :
    JE X cl W (.Call (.Attribute o "count" apos) (e :: es) [] pos) (fCount Fo A) := by
  refine ⟨fun τ s Q Q' E E' hq he h => ho.mon _ _ _ _ _ _ (fun x s1 q => ⟨q.1, ha.mon _ _ _ _ _ _ (fun ts s2 q => q.mon hq) he q.2⟩) he h, PE.imp (pe_bm PySem.F.plainAttrs_list slot hty mt_lcount ho.pe ha.pa hbase hfew hline hs hplain) ?_⟩
  rintro σ H Q ⟨Z, τ, s, re, so, h⟩
  refine go ho.mon re so h (fun tx s1 x H1 p1 f1 re1 r1 so1 => ⟨tyV_lst so1 r1 p1.1, ?_⟩) fun _ _ q => q
  refine goA ha.mon re1 so1 p1.2 (fun ts s2 vs H2 p2 f2 re2 r2 so2 => ?_) fun _ _ q => postW.up f1 q
  unfold onCnt at p2
  split at p2
  · rename_i xs e1
    split at p2
    · rename_i k
      split at p2
      · rename_i is e2
        obtain ⟨a, us, rfl, hq, rs⟩ := lst_of so2 (r1.fut f2) e1
        obtain ⟨v, rfl, rv⟩ := reps1 r2
        cases rep_i rv
        exact ⟨a, is, k, rfl, rfl, SqL.of (by rw [hq, rs.intsOf e2]), p2 _ _ (f1.trans f2) (.int _) so2⟩
      · exact p2.elim
    · exact p2.elim
  · exact p2.elim
theorem rows_madeR : True := by
  have := @Mr.fCount.eq_1
  trivial
end
end Mr
namespace Mr
open PySem PySem.Spec PyProof.Rows L2 Tw
/-- what is left over behind n arguments comes as a tuple -/
def vF (n : Nat) (D : FD) : FD := fun ts s Q E => ∃ as rs, ts = as ++ rs ∧ as.length = n ∧ rs.length ≤ 1000000 ∧ D (as ++ [.tup rs]) s Q E
theorem Reps.split {K : PySem.W.Frag} {cl : CL} {Z : Addr → Prop} {s : S} {H : Hp} : ∀ {as rs : List T} {vs : List V}, Reps K cl Z s H vs (as ++ rs) → ∃ v1 v2, vs = v1 ++ v2 ∧ Reps K cl Z s H v1 as ∧ Reps K cl Z s H v2 rs
  | [], _, vs, r => ⟨[], vs, rfl, .nil, r⟩
  | _ :: _, _, _, .cons h r => by
    obtain ⟨v1, v2, e, r1, r2⟩ := Reps.split r
    exact ⟨_ :: v1, v2, by rw [e]; rfl, .cons h r1, r2⟩
section
variable {X : Cx} {cl : CL} {W : WX} {e o : Expr} {es : List Expr} {Fa Fo : FE} {A : FA} {pos p pp apos sp_ : Pos} {x m : Str} {k j n c i : Nat} {D : FD} {dts : List T}
/-- C.m(e, ..) -/
def fCm (c n : Nat) (D : FD) (A : FA) : FE := fun τ s Q E => A τ s (fun ts s1 => cM (vF n D) (.ty (.own c) :: ts) s1 Q E) E
/-- an own class made, its __init__ with a star -/
def fMkV (fz : Bool) (c n : Nat) (D : FD) (A : FA) : FE := fMk fz c (vF n D) [] A
/-- v(e, ..), v a variable that holds the class c -/
def fMkL (i : Nat) (fz : Bool) (c : Nat) (D : FD) (dts : List T) (A : FA) : FE := fun τ s Q E => τ[i]? = some (some (.ty (.own c))) ∧ fMk fz c D dts A τ s Q E
theorem rows_madeS : True := by
  have := @Mr.fCm.eq_1
  have := @Mr.fMkV.eq_1
  have := @Mr.fMkL.eq_1
  have := @Mr.vF.eq_1
  trivial
end
end Mr
namespace Mr
open PySem PySem.Spec PyProof.Rows L2 Tw
section
variable {α β : Type} {lt : α → α → Bool}
def insK (lt : α → α → Bool) (x : α) : List α → List α
  | [] => [x]
  | y :: r => if lt y x = true then y :: insK lt x r else x :: y :: r
def isK (lt : α → α → Bool) : List α → List α
  | [] => []
  | x :: l => insK lt x (isK lt l)
theorem insK_perm (x : α) : ∀ l : List α, (insK lt x l).Perm (x :: l)
  | [] => .refl _
  | y :: r => by
    unfold insK
    split
    · exact ((insK_perm x r).cons y).trans (.swap x y r)
    · exact .refl _
theorem isK_perm : ∀ l : List α, (isK lt l).Perm l
  | [] => .refl _
  | x :: l => (insK_perm x _).trans ((isK_perm l).cons x)
theorem insK_map {lt2 : β → β → Bool} (f : α → β) (x : α) : ∀ l : List α, insK lt2 (f x) (l.map f) = (insK (fun a b => lt2 (f a) (f b)) x l).map f
  | [] => rfl
  | y :: r => by
    show (if lt2 (f y) (f x) = true then f y :: insK lt2 (f x) (r.map f) else f x :: f y :: r.map f) = (if lt2 (f y) (f x) = true then y :: insK (fun a b => lt2 (f a) (f b)) x r else x :: y :: r).map f
    split
    · rw [insK_map f x r]; rfl
    · rfl
theorem isK_map {lt2 : β → β → Bool} (f : α → β) : ∀ l : List α, isK lt2 (l.map f) = (isK (fun a b => lt2 (f a) (f b)) l).map f
  | [] => rfl
  | x :: l => by
    show insK lt2 (f x) (isK lt2 (l.map f)) = (insK _ x (isK _ l)).map f
    rw [isK_map f l, insK_map]
theorem isK_congr {lt2 : α → α → Bool} (l : List α) (h : ∀ x ∈ l, ∀ y ∈ l, lt x y = lt2 x y) : isK lt l = isK lt2 l := by
  have ins : ∀ (x : α) (m : List α), (∀ y ∈ m, lt y x = lt2 y x) → insK lt x m = insK lt2 x m := by
    intro x m
    induction m with
    | nil => intro _; rfl
    | cons y r ih =>
      intro k
      unfold insK
      rw [k y List.mem_cons_self, ih fun z hz => k z (List.mem_cons_of_mem _ hz)]
  induction l with
  | nil => rfl
  | cons x l ih =>
    show insK lt x (isK lt l) = insK lt2 x (isK lt2 l)
    rw [ih fun a ha b hb => h a (List.mem_cons_of_mem _ ha) b (List.mem_cons_of_mem _ hb)]
    exact ins x _ fun y hy => h y (List.mem_cons_of_mem _ ((isK_perm l).mem_iff.mp hy)) x List.mem_cons_self
end
section
variable {X : Cx}
theorem _root_.L2.FpOk.more {pins : List (Addr × Obj)} {H : Hp} {a : Addr} {p : Addr × Obj} (f : FpOk X pins H a) (n : p.1 ≠ a) : FpOk X (p :: pins) H a :=
  ⟨f.1, f.2.1, f.2.2.1, f.2.2.2.1, f.2.2.2.2.1, fun q hq => (List.mem_append.mp hq).elim (fun h => f.2.2.2.2.2 q (List.mem_append_left _ h)) fun h => (List.mem_cons.mp h).elim (fun e => by subst e; exact n) fun h => f.2.2.2.2.2 q (List.mem_append_right _ h)⟩
theorem _root_.L2.FpOk.at {pins : List (Addr × Obj)} {H H' : Hp} {a : Addr} (f : FpOk X pins H a) (n : H' a = none) : FpOk X pins H' a := ⟨n, f.2⟩
end
end Mr
namespace Mr
open PySem PySem.Spec PyProof.Rows L2 Tw
/-- four rows side by side -/
structure Quad (K : PySem.W.Frag) (cl : CL) (Z : Addr → Prop) (s : S) (H : Hp) (kf : T → Int) (ks its : List Value) (ws : List V) (xs : List T) : Prop where
  l1 : ks.length = its.length
  l2 : ws.length = its.length
  l3 : xs.length = its.length
  all : ∀ b ∈ (ks.zip its).zip (ws.zip xs), SrtO.iv b.1.1 = kf b.2.2 ∧ RelV b.2.1 b.1.2 ∧ Rep K cl Z s H b.2.1 b.2.2
theorem zipped {α β : Type} {l : List α} {m : List β} (h : l.length = m.length) : (l.zip m).map Prod.fst = l ∧ (l.zip m).map Prod.snd = m :=
  ⟨List.map_fst_zip (Nat.le_of_eq h), List.map_snd_zip (Nat.le_of_eq h.symm)⟩
theorem reps_map {K : PySem.W.Frag} {cl : CL} {Z : Addr → Prop} {s : S} {H : Hp} {α : Type} (f : α → V) (g : α → T) : ∀ l : List α, (∀ b ∈ l, Rep K cl Z s H (f b) (g b)) → Reps K cl Z s H (l.map f) (l.map g)
  | [], _ => .nil
  | b :: l, h => .cons (h b List.mem_cons_self) (reps_map f g l fun c hc => h c (List.mem_cons_of_mem _ hc))
theorem vals_map' {α : Type} (f : α → V) (g : α → Value) : ∀ l : List α, (∀ b ∈ l, RelV (f b) (g b)) → Vals (l.map f) (l.map g)
  | [], _ => .nil
  | b :: l, h => .cons (h b List.mem_cons_self) (vals_map' f g l fun c hc => h c (List.mem_cons_of_mem _ hc))
theorem Quad.out {K : PySem.W.Frag} {cl : CL} {Z : Addr → Prop} {s : S} {H : Hp} {kf : T → Int} {ks its : List Value} {ws : List V} {xs : List T} (q : Quad K cl Z s H kf ks its ws xs) :
    ∃ out : List V, Vals out ((isK (SrtO.lt2 SrtO.ltIv) (ks.zip its)).map (·.2)) ∧ Reps K cl Z s H out (isK (fun a b => decide (kf a < kf b)) xs) ∧ out.length = its.length := by
  obtain ⟨l1, l2, l3, all⟩ := q
  have z1 := zipped l1
  have z2 := zipped (show ws.length = xs.length by omega)
  have lz : (ks.zip its).length = (ws.zip xs).length := by rw [List.length_zip, List.length_zip]; omega
  have z3 := zipped lz
  generalize hB : (ks.zip its).zip (ws.zip xs) = B at all z3
  have e1 : isK (SrtO.lt2 SrtO.ltIv) (ks.zip its) = (isK (fun a b => SrtO.lt2 SrtO.ltIv a.1 b.1) B).map Prod.fst := by
    rw [← z3.1, isK_map]
  have e2 : isK (fun a b => decide (kf a < kf b)) xs = (isK (fun a b => decide (kf a.2.2 < kf b.2.2)) B).map (fun b => b.2.2) := by
    have : xs = B.map (fun b => b.2.2) := by
      rw [← z2.2, ← z3.2, List.map_map]
      rfl
    rw [this, isK_map]
  have e3 : isK (fun a b => SrtO.lt2 SrtO.ltIv a.1 b.1) B = isK (fun a b => decide (kf a.2.2 < kf b.2.2)) B := by
    refine isK_congr B fun x hx y hy => ?_
    show decide (SrtO.iv x.1.1 < SrtO.iv y.1.1) = _
    rw [(all x hx).1, (all y hy).1]
  rw [e3] at e1
  have mem := fun b => (isK_perm (lt := fun a b => decide (kf a.2.2 < kf b.2.2)) B).mem_iff (a := b)
  have len := (isK_perm (lt := fun a b => decide (kf a.2.2 < kf b.2.2)) B).length_eq
  generalize isK (fun a b => decide (kf a.2.2 < kf b.2.2)) B = C at e1 e2 mem len
  refine ⟨C.map (fun b => b.2.1), ?_, ?_, ?_⟩
  · rw [e1, List.map_map]
    exact vals_map' (fun b : (Value × Value) × (V × T) => b.2.1) _ C fun b hb => (all b ((mem b).mp hb)).2.1
  · rw [e2]
    exact reps_map _ _ C fun b hb => (all b ((mem b).mp hb)).2.2
  · rw [List.length_map, len, ← hB, List.length_zip, List.length_zip, List.length_zip]
    omega
def fSortL (A : FA) (Fb : FE) : FE := fun τ s Q E => A τ s (fun ts s1 => match ts.map s1.seq? with
  | [some (true, xs)] => xs.length ≤ 1000000 ∧ ∃ kf : T → Int, (∀ t ∈ xs, ∀ P : KT, P (.int (kf t)) s1 → Fb (τ ++ [some t]) s1 P noX) ∧ Q (.lst (isK (fun a b => decide (kf a < kf b)) xs)) s1
  | _ => False) E
section
variable {X : Cx} {cl : CL} {W : WX} {k j : Nat} {params : Arguments} {body e : Expr} {scope : Scope} {Fa Fb : FE} {A : FA} {y : Str} {p pos lpos kpos : Pos} {c P : Addr}
theorem rows_madeU : True := by
  have := @Mr.fSortL.eq_1
  trivial
end
end Mr
namespace Mr
open PySem PySem.Spec PyProof.Rows L2 Tw
section
variable {K : PySem.W.Frag} {cl : CL} {Z1 Z2 Z : Addr → Prop} {s s' : S} {H : Hp}
mutual
theorem Rep.gen (hz : ∀ a, Fz Z1 s a → Fz Z2 s' a) (hp : s'.pa = s.pa) : ∀ {v : V} {t : T}, Rep K cl Z1 s H v t → Rep K cl Z2 s' H v t
  | _, _, .non => .non
  | _, _, .bl b => .bl b
  | _, _, .int i => .int i
  | _, _, .str z => .str z
  | _, _, .lst h n r => .lst h (hz _ n) (r.gen hz hp)
  | _, _, .tup h n r => .tup h (hz _ n) (r.gen hz hp)
  | _, _, .tupK a b d e g r => .tupK a b d e g (r.gen hz hp)
  | _, _, .dct h n r => .dct h (hz _ n) (r.gen hz hp)
  | _, _, .obj h n r => .obj h (hz _ n) (r.gen hz hp)
  | _, _, .err h n h2 n2 r => .err h (hz _ n) h2 (hz _ n2) (r.gen hz hp)
  | _, _, .cell a => .cell a
  | _, _, .pen h => .pen (hp.trans h)
  | _, _, .ty n => .ty n
  | _, _, .lam h n r => .lam h (hz _ n) (r.gen hz hp)
theorem Reps.gen (hz : ∀ a, Fz Z1 s a → Fz Z2 s' a) (hp : s'.pa = s.pa) : ∀ {vs : List V} {ts : List T}, Reps K cl Z1 s H vs ts → Reps K cl Z2 s' H vs ts
  | _, _, .nil => .nil
  | _, _, .cons h r => .cons (h.gen hz hp) (r.gen hz hp)
theorem RepF.gen (hz : ∀ a, Fz Z1 s a → Fz Z2 s' a) (hp : s'.pa = s.pa) : ∀ {vs : List (Str × V)} {ts : List (Str × T)}, RepF K cl Z1 s H vs ts → RepF K cl Z2 s' H vs ts
  | _, _, .nil => .nil
  | _, _, .cons h r => .cons (h.gen hz hp) (r.gen hz hp)
theorem RepK.gen (hz : ∀ a, Fz Z1 s a → Fz Z2 s' a) (hp : s'.pa = s.pa) : ∀ {vs : List (Key × V)} {ts : List (Key × T)}, RepK K cl Z1 s H vs ts → RepK K cl Z2 s' H vs ts
  | _, _, .nil => .nil
  | _, _, .cons h r => .cons (h.gen hz hp) (r.gen hz hp)
theorem RepE.gen (hz : ∀ a, Fz Z1 s a → Fz Z2 s' a) (hp : s'.pa = s.pa) : ∀ {σ : List (Option V)} {τ : List (Option T)}, RepE K cl Z1 s H σ τ → RepE K cl Z2 s' H σ τ
  | _, _, .nil => .nil
  | _, _, .c0 r => .c0 (r.gen hz hp)
  | _, _, .c1 h r => .c1 (h.gen hz hp) (r.gen hz hp)
end
end
section
variable {X : Cx} {cl : CL} {W : WX} {tg e c : Expr} {pos : Pos} {I : FI}
/-- .. as a cell -/
def fLcC (I : FI) (g : FG) (tt : FT) (te : FE) (vs : List Nat) : FE := fun τ s Q E => I τ s (fun ts ok s1 => lcT ok g tt te (wipeT τ vs) ts [] s1 fun ys s2 => ∀ a, s2.on a = none → Q (.cell a) (s2.put a (.lst ys))) E
end
/-- list(xs) as a list of the caller's own -/
def onLs (t : T) (K : List T → Prop) : Prop := match t with | .lst xs => K xs | _ => False
def fListC (A : FA) : FE := fun τ s Q E => A τ s (fun ts s1 => onO s1 (listO s1 ts) fun t s2 => onLs t fun xs => ∀ a, s2.on a = none → Q (.cell a) (s2.put a (.lst xs))) E
section
variable {X : Cx} {cl : CL} {W : WX} {e : Expr} {es : List Expr} {A : FA} {pos p : Pos} {x : Str}
theorem onLs.mon {t : T} {K K' : List T → Prop} (h : ∀ xs, K xs → K' xs) (k : onLs t K) : onLs t K' := by
  unfold onLs at k ⊢
  split at k
  · exact h _ k
  · exact k
end
theorem src_enumC {K : PySem.W.Frag} {cl : CL} {Z : Addr → Prop} {s : S} {H : Hp} {a : Addr} {ts : List T} : Src K cl Z (Ite K a) (enumT 0 ts) (fun s => s.on a = some (.lst ts)) s H where
  go := fun Z' s2 H2 i t f zz ok so2 e => by
    obtain ⟨u, e1, rfl⟩ := enumT_get 0 i ts t e
    obtain ⟨ws, h3, h4⟩ := so2.cells _ _ ok
    obtain ⟨v, ev, rv⟩ := h4.get i e1
    refine ⟨⟨_, v, SqL.of h3, ev⟩, ?_⟩
    rintro y H' ⟨T0, x, rfl, hT, rfl, hx⟩
    have ex := hx _ (SqL.of h3)
    rw [ev] at ex
    cases ex
    refine ⟨Fut.new hT, so2.new hT, ?_⟩
    rw [Nat.zero_add]
    exact .tup upd_same (so2.nomut hT) (.cons (.int _) (.cons (rv.fut (Fut.new hT)) .nil))
  stop := fun Z' s2 H2 i f zz ok so2 e => by
    rw [enumT_len] at e
    obtain ⟨ws, h3, h4⟩ := so2.cells _ _ ok
    exact ⟨_, SqL.of h3, by rw [h4.length]; exact e⟩
def S.cellL? (s : S) (x : T) : Option (Addr × List T) := match x with
  | .cell a => match s.on a with | some (.lst ts) => some (a, ts) | _ => none
  | _ => none
def iEnumB (c : Nat) (fn : Str) (A : FA) : FI := fun τ s Q E => A τ s (fun xs s1 => match xs with | [x] => (match s1.cellL? x with | some (a, ts) => Q (enumT 0 ts) (fun s => s.on a = some (.lst ts)) s1 | none => match s1.enumA? c fn x with | some ts => Q (enumT 0 ts) (fun _ => True) s1 | none => False) | _ => False) E
section
variable {X : Cx} {cl : CL} {W : WX} {e : Expr} {A : FA} {pos p tpos : Pos} {elts : List Expr} {k j c : Nat} {fn : Str}
theorem ji_enumB {kk} (d : IterM X.prog X.w X.K X.mg X.base cl k c fn) (hr : Rm j X.A) (hk : k + 2 ≤ j) (hg : Gl X "enumerate") (hm : X.mg "enumerate" = none) (ha : JA X cl W [e] A) (hs : starEach [e] X.env = [(false, eval e X.env)] := by rfl) :
    JI X cl W (.Tuple elts kk tpos) (.Call (.Name "enumerate" p) [e] [] pos) (iEnumB c fn A) := by
  refine ⟨fun τ s Q Q' E E' hq he h => ha.mon _ _ _ _ _ _ (fun xs s1 h1 => ?_) he h, PI.imp (pi_enumA d hr hk hg hm ha.pa hs) ?_⟩
  · split at h1
    · split at h1
      · exact hq _ _ _ h1
      · split at h1
        · exact hq _ _ _ h1
        · exact h1
    · exact h1
  rintro σ H R ⟨Z, τ, s, re, so, h⟩
  refine goA ha.mon re so h (fun ts s1 vs H1 p1 f1 re1 r1 so1 => ?_) fun _ _ q => q
  split at p1
  · rename_i x
    obtain ⟨v, rfl, rv⟩ := reps1 r1
    split at p1
    · rename_i a ts e1
      unfold S.cellL? at e1
      split at e1
      · split at e1
        · rename_i ho
          cases e1
          cases rv
          obtain ⟨ws, h1, h2⟩ := so1.cells _ _ ho
          exact ⟨_, rfl, .inl ⟨ws, SqL.of h1, p1 _ _ f1 so1 src_enumC⟩⟩
        · cases e1
      · cases e1
    split at p1
    · rename_i ts e1
      unfold S.enumA? at e1
      split at e1
      · cases e1
        obtain ⟨a, ws, rfl, rs, keep⟩ := tup_keep rv
        exact ⟨a, rfl, .inr (.inr ⟨ws, keep _ _ (Fut.refl _ _), p1 _ _ f1 so1 (src_enumT keep rs)⟩)⟩
      unfold S.enum? at e1
      split at e1
      · cases e1
        obtain ⟨a, ws, rfl, rs, keep⟩ := lst_keep rv
        exact ⟨a, rfl, .inl ⟨ws, keep _ _ (Fut.refl _ _), p1 _ _ f1 so1 (src_enum keep rs)⟩⟩
      · split at e1
        · rename_i dd fs eo
          split at e1
          · rename_i ed
            subst ed
            split at e1
            · rename_i zs el
              cases e1
              obtain ⟨a, dx, fvs, rfl, hin, rf⟩ := obj_of so1 rv eo
              obtain ⟨u, eu, ru⟩ := rf.lookup el
              obtain ⟨l, ws, rfl, rs, keep⟩ := lst_keep ru
              exact ⟨a, rfl, .inr (.inl ⟨dx, fvs, l, ws, hin, eu, keep _ _ (Fut.refl _ _), p1 _ _ f1 so1 (src_enum keep rs)⟩)⟩
            · cases e1
          · cases e1
        · cases e1
    · exact p1.elim
  · exact p1.elim
end
/-- an own class made, its defaults told as trees -/
structure MakAtT (K : PySem.W.Frag) (mg : Str → Option Value) (cl : CL) (x : Str) (c : Nat) (qual : Str) (st : Stmt) (ps : List Str) (dts : List T) : Prop where
  ex : ∃ dvs, MakAt K mg x (cl c) qual st ps dvs ∧ ∀ Z s H, Reps K cl Z s H dvs dts
theorem makOfT {P : Program} {w : World} {K : PySem.W.Frag} {mg : Str → Option Value} {base : Heap} {cl : CL} {k c : Nat} {x qual : Str} {st : Stmt} {ps : List Str} {dts : List T} {D : FD} (d : MakAtT K mg cl x c qual st ps dts)
    (fn : ∀ {y : Str} {f : Addr} {fd : FuncData}, C8.Fun K y qual st f fd → FnG P w K mg base k f fd ps (spM K cl D)) : MakM P w K mg base cl k x c D dts := by
  obtain ⟨dvs, d, hd⟩ := d.ex
  exact makOf d hd fn
theorem rows_madeV : True := by
  have := @Mr.fLcC.eq_1
  have := @Mr.fListC.eq_1
  have := @Mr.iEnumB.eq_1
  trivial
end Mr
namespace Mr
open PySem PySem.Spec PyProof.Rows L2 Tw
def txtOf (e : Int × Value) : Str := match e.2 with | .str k _ => k | _ => Str.empty
def TxtE (w : World) (e : Int × Value) : Prop := ∃ k tk, e.2 = Value.str k tk ∧ e.1 = hashStr w k
/-- the entries of a set: the texts of l, each once; its table can be walked -/
structure TxTab (w : World) (l : List Str) (es : Array (Int × Value)) (t : SetTable) : Prop where
  good : ∀ e ∈ es.toList, TxtE w e
  nd : (es.toList.map txtOf).Nodup
  mem : ∀ k, k ∈ l ↔ k ∈ es.toList.map txtOf
  fit : t.fits es.size = true
  ris : Ris t.place.toList
  led : w.params.followText "set-order" = true ∨ t.led = true
/-- the set of the texts l at a -/
def TxSet (w : World) (h : Heap) (a : Addr) (l : List Str) (n : Nat) : Prop := ∃ o es ep t, h.get? a = some o ∧ o.ExactSet ∧ o.data = .set es ep t ∧ TxTab w l es t ∧ es.size ≤ n
section
variable {P : Program} {w : World} {A : Around} {E : Value → Shared → Prop} {s : Shared} {a : Addr} {l : List Str} {n : Nat}
theorem TxtE.el {es : List (Int × Value)} (g : ∀ e ∈ es, TxtE w e) : ElemsOf (strKind P w) es := fun e he => by
  obtain ⟨k, tk, h1, h2⟩ := g e he
  exact ⟨⟨k, by rw [h1]; exact strKind_is P w k tk, h2⟩, by rw [h1] <;> rfl⟩
theorem TxSet.at {h h' : Heap} (R : TxSet w h a l n) (k : ∀ o, h.get? a = some o → h'.get? a = some o) : TxSet w h' a l n := by
  obtain ⟨o, es, ep, t, ho, r⟩ := R
  exact ⟨o, es, ep, t, k o ho, r⟩
/-- an empty set's object -/
abbrev set0 (w : World) : Obj := { cls := .type "set", dict := none, data := .set #[] 0 (.fresh 0 0 (!w.params.followText "set-order")) }
end
end Mr
namespace Mr
open PySem PySem.Spec PyProof.Rows L2 Tw
/-- in order, each once -/
def OnceIn (xs ys : List Str) : Prop := ys.Nodup ∧ (∀ k, k ∈ ys ↔ k ∈ xs) ∧ sortedS ys = true
def strsOf : List T → Option (List Str)
  | [] => some []
  | .str z :: r => (strsOf r).map (z :: ·)
  | _ :: _ => none
def onTxs (s : S) (x : T) (P : List Str → Prop) : Prop := match s.lst? x with | some ts => (match strsOf ts with | some xs => xs.length < 64 ∧ P xs | none => False) | none => False
theorem onTxs.mon {s : S} {x : T} {P P' : List Str → Prop} (h : ∀ xs, P xs → P' xs) (k : onTxs s x P) : onTxs s x P' := by
  unfold onTxs at k ⊢
  split at k
  · split at k
    · exact ⟨k.1, h _ k.2⟩
    · exact k
  · exact k
/-- sorted(set(xs)): the texts in order, each once -/
def fSortSet (Fa : FE) : FE := fun τ s Q E => Fa τ s (fun x s1 => onTxs s1 x fun xs => ∀ ys, OnceIn xs ys → ys.length ≤ xs.length → Q (.lst (ys.map T.str)) s1) E
/-- .. as a list of the caller's own -/
def fSortSetC (Fa : FE) : FE := fun τ s Q E => Fa τ s (fun x s1 => onTxs s1 x fun xs => ∀ ys, OnceIn xs ys → ys.length ≤ xs.length → ∀ a, s1.on a = none → Q (.cell a) (s1.put a (.lst (ys.map T.str)))) E
section
variable {X : Cx} {cl : CL} {W : WX} {e : Expr} {A : FA} {p pos tpos : Pos} {elts : List Expr} {kk : Nat}
def iEnumP (A : FA) : FI := fun τ s Q E => A τ s (fun xs s1 => match xs with | [x] => (match s1.cellL? x with | some (a, ts) => Q (enumT 0 ts) (fun s => s.on a = some (.lst ts)) s1 | none => match x with | .lst ts => Q (enumT 0 ts) (fun _ => True) s1 | .tup ts => Q (enumT 0 ts) (fun _ => True) s1 | _ => False) | _ => False) E
end
theorem rows_madeX2 : True := by
  have := @Mr.fSortSet.eq_1
  have := @Mr.fSortSetC.eq_1
  have := @Mr.iEnumP.eq_1
  trivial
end Mr
namespace Mr
open PySem PySem.Spec PyProof.Rows L2 Tw
/-- a list or a tuple that none changes -/
def iVal (Fa : FE) : FI := fun τ s Q E => Fa τ s (fun x s1 => match x with | .lst ts => Q ts (fun _ => True) s1 | .tup ts => Q ts (fun _ => True) s1 | _ => False) E
theorem rows_madeYY : True := by
  have := @Mr.iVal.eq_1
  trivial
end Mr
namespace Mr
open PySem PySem.Spec PyProof.Rows L2 Tw
end Mr
namespace Mr
open PySem PySem.Spec PyProof.Rows L2 Tw
section
variable {X : Cx} {cl : CL} {W : WX} {tg c : Expr} {I : FI} {B U : FS} {G : FT} {pos : Pos}
def forTE (ok : S → Prop) (g : FG) (B U : FS) : List T → Env → S → DS → Prop
  | [], τ, s, D => ok s ∧ U τ s D
  | t :: ts, τ, s, D => ok s ∧ g t τ s fun τ1 s1 => B τ1 s1 ⟨fun τ2 s2 => forTE ok g B U ts τ2 s2 D, D.rt, D.nx, fun τ2 s2 => forTE ok g B U ts τ2 s2 D, D.xr⟩
def fForE (I : FI) (g : FG) (B U : FS) : FS := fun τ s D => I τ s (fun ts ok s1 => forTE ok g B U ts τ s1 D) (xk τ D)
end
section
variable {X : Cx} {cl : CL} {W : WX} {A : FA} {e : Expr} {es : List Expr} {x : Str} {p pos pos' : Pos} {B S1 : FS}
def fRaiseB (n : Nat) (A : FA) : FS := fun τ s D => A τ s (fun ts s1 => ts.length ≤ 1000 ∧ D.xr ⟨n, []⟩ τ s1) (xk τ D)
/-- try: body except X: suite; the suite raises nothing -/
def fTryC (ok : Nat → Prop) (B S1 : FS) : FS := fun τ s D => B τ s { D with xr := fun er τ1 s1 => ok er.c ∧ S1 τ1 s1 { D with xr := fun _ _ _ => False } }
end
end Mr
namespace Mr
open PySem PySem.Spec PyProof.Rows L2 Tw
def T.key? : T → Option Key
  | .str z => some (.inr z)
  | .int i => some (.inl i)
  | _ => none
def kT : Key → T
  | .inl i => .int i
  | .inr z => .str z
def S.dct? (s : S) : T → Option (List (Key × T))
  | .dct kvs => some kvs
  | .cell a => match s.on a with | some (.dct kvs) => some kvs | _ => none
  | _ => none
def valT (kvs : List (Key × T)) (k : Key) : Option T := (kvs.find? fun kv => decide (kv.1 = k)).map (·.2)
def putD (kvs : List (Key × T)) (k : Key) (t : T) : List (Key × T) := if (kvs.any fun kv => decide (kv.1 = k)) = true then kvs.map (fun kv => if kv.1 = k then (kv.1, t) else kv) else kvs ++ [(k, t)]
def mergeD (kvs more : List (Key × T)) : List (Key × T) := more.foldl (fun acc kv => putD acc kv.1 kv.2) kvs
section
variable {K : PySem.W.Frag} {cl : CL} {Z : Addr → Prop} {s : S} {H : Hp}
theorem RepK.val {k : Key} : ∀ {kvv : List (Key × V)} {kvs : List (Key × T)}, RepK K cl Z s H kvv kvs → match valT kvs k with | some t => ∃ v, valV kvv k = some v ∧ Rep K cl Z s H v t | none => valV kvv k = none
  | _, _, .nil => rfl
  | _, _, .cons (k := j) (v := v) (t := t) (vs := vs) (ts := ts) h r => by
    have ih := RepK.val (k := k) r
    by_cases e : j = k
    · have e1 : valT ((j, t) :: ts) k = some t := by unfold valT; simp [List.find?_cons, e]
      rw [e1]
      exact ⟨v, valV_pos e, h⟩
    · have e1 : valT ((j, t) :: ts) k = valT ts k := by unfold valT; simp [List.find?_cons, e]
      rw [e1, valV_neg e]
      exact ih
theorem RepK.any {k : Key} : ∀ {kvv : List (Key × V)} {kvs : List (Key × T)}, RepK K cl Z s H kvv kvs → (kvv.any fun kv => decide (kv.1 = k)) = kvs.any fun kv => decide (kv.1 = k)
  | _, _, .nil => rfl
  | _, _, .cons h r => by rw [List.any_cons, List.any_cons, RepK.any r]
theorem RepK.append {kvv' : List (Key × V)} {kvs' : List (Key × T)} (q : RepK K cl Z s H kvv' kvs') : ∀ {kvv : List (Key × V)} {kvs : List (Key × T)}, RepK K cl Z s H kvv kvs → RepK K cl Z s H (kvv ++ kvv') (kvs ++ kvs')
  | _, _, .nil => q
  | _, _, .cons h r => .cons h (RepK.append q r)
theorem RepK.map {k : Key} {v : V} {t : T} (q : Rep K cl Z s H v t) : ∀ {kvv : List (Key × V)} {kvs : List (Key × T)}, RepK K cl Z s H kvv kvs → RepK K cl Z s H (kvv.map fun kv => if kv.1 = k then (kv.1, v) else kv) (kvs.map fun kv => if kv.1 = k then (kv.1, t) else kv)
  | _, _, .nil => .nil
  | _, _, .cons (k := j) h r => by
    rw [List.map_cons, List.map_cons]
    by_cases e : j = k
    · rw [if_pos e, if_pos e]
      exact .cons q (RepK.map q r)
    · rw [if_neg e, if_neg e]
      exact .cons h (RepK.map q r)
theorem RepK.put {k : Key} {v : V} {t : T} (q : Rep K cl Z s H v t) {kvv : List (Key × V)} {kvs : List (Key × T)} (r : RepK K cl Z s H kvv kvs) : RepK K cl Z s H (putK kvv k v) (putD kvs k t) := by
  unfold putK putD
  rw [RepK.any r]
  split
  · exact RepK.map q r
  · exact RepK.append (.cons q .nil) r
theorem RepK.length : ∀ {kvv : List (Key × V)} {kvs : List (Key × T)}, RepK K cl Z s H kvv kvs → kvv.length = kvs.length
  | _, _, .nil => rfl
  | _, _, .cons _ r => congrArg (· + 1) (RepK.length r)
theorem RepK.zip {ks : List Key} {vs : List V} {ts : List T} (r : Reps K cl Z s H vs ts) : RepK K cl Z s H (ks.zip vs) (ks.zip ts) := by
  induction ks generalizing vs ts with
  | nil => rw [List.zip_nil_left, List.zip_nil_left]; exact .nil
  | cons k ks ih =>
    cases r with
    | nil => exact .nil
    | cons h r => exact .cons h (ih r)
theorem RepK.get : ∀ {kvv : List (Key × V)} {kvs : List (Key × T)} (i : Nat), RepK K cl Z s H kvv kvs → (kvv[i]?).map (·.1) = (kvs[i]?).map (·.1)
  | _, _, _, .nil => rfl
  | _, _, 0, .cons h r => rfl
  | _, _, i + 1, .cons h r => by
    rw [List.getElem?_cons_succ, List.getElem?_cons_succ]
    exact RepK.get i r
end
section
variable {X : Cx} {cl : CL} {W : WX} {tg a b c e f o : Expr} {es : List Expr} {Fa Fb Fi Fo Fe Ff : FE} {B : FS} {pos p apos cpos pos' : Pos} {j i : Nat} {x : Str}
/-- d[k] -/
def gIxD : S → T → T → KT → KX → Prop := fun s x y Q E => match s.dct? x, y.key? with
  | some kvs, some k => (match valT kvs k with | some t => Q t s | none => E ⟨1000001, []⟩ s)
  | _, _ => False
/-- k in d, k not in d -/
def gInD (neg : Bool) : S → T → T → KT → KX → Prop := fun s x y Q _ => match s.dct? y, x.key? with
  | some kvs, some k => Q (.bl (xor neg (valT kvs k).isSome)) s
  | _, _ => False
/-- d[k] = v -/
def fDPut (Fo Fi Fa : FE) : FS := fun τ s D => Fa τ s (fun t s1 => Fo τ s1 (fun x s2 => Fi τ s2 (fun y s3 => match x, y.key? with
  | .cell d, some k => (match s3.on d with | some (.dct kvs) => kvs.length < 1000 ∧ D.nx τ (s3.put d (.dct (putD kvs k t))) | _ => False)
  | _, _ => False) (xk τ D)) (xk τ D)) (xk τ D)
/-- {} as a cell -/
def fDct0C : FE := fun _ s Q _ => ∀ p, s.on p = none → Q (.cell p) (s.put p (.dct []))
def fDsp (cel : Bool) (ks : List Key) (A : FA) : FE := fun τ s Q E => ∀ p, s.on p = none → A τ (s.put p (.dct [])) (fun ts s1 => s1.on p = some (.dct []) ∧ (if cel = true then Q (.cell p) (s1.put p (.dct (ks.zip ts))) else Q (.dct (ks.zip ts)) (s1.del p))) (fun er s1 => E er (s1.del p))
def fFreeze (i : Nat) (B : FS) : FS := fun τ s D => match τ[i]? with
  | some (some (.cell a)) => (match s.on a with | some (.dct kvs) => B (τ.set i (some (.dct kvs))) (s.del a) D | some (.lst xs) => B (τ.set i (some (.lst xs))) (s.del a) D | _ => False)
  | _ => False
theorem RepE.keep {K : PySem.W.Frag} {Z : Addr → Prop} {s : S} {H : Hp} {v : V} {t : T} (q : Rep K cl Z s H v t) : ∀ {σ : L2.St} {τ : Env} (i : Nat), REnv K cl Z s H σ τ → σ[i]? = some (some v) → REnv K cl Z s H σ (τ.set i (some t))
  | _, _, _, .nil, e => by simp at e
  | _, _, 0, .c0 r, e => by simp at e
  | _, _, 0, .c1 _ r, e => by
    rw [List.getElem?_cons_zero] at e
    cases e
    exact .c1 q r
  | _, _, i + 1, .c0 r, e => by
    rw [List.getElem?_cons_succ] at e
    exact .c0 (RepE.keep q i r e)
  | _, _, i + 1, .c1 h r, e => by
    rw [List.getElem?_cons_succ] at e
    exact .c1 h (RepE.keep q i r e)
end
end Mr
namespace Mr
open PySem PySem.Spec PyProof.Rows L2 Tw
section
variable {X : Cx} {cl : CL} {W : WX} {tg a b c e f o : Expr} {es : List Expr} {Fa Fb Fi Fo Fe Ff : FE} {B : FS} {pos p apos cpos pos' : Pos} {j i : Nat} {x : Str}
theorem IsD.of {H : Hp} {d : Addr} {kvv : List (Key × V)} (h : Rd H d (.dK kvv)) : IsD H d := .inl ⟨kvv, h⟩
/-- d.get(k, x) -/
def fGet2 (Fo Fe Ff : FE) : FE := fun τ s Q E => Fo τ s (fun x s1 => (s1.dct? x).isSome = true ∧ Fe τ s1 (fun y s2 => Ff τ s2 (fun z s3 => match s3.dct? x, y.key? with
  | some kvs, some k => Q ((valT kvs k).getD z) s3
  | _, _ => False) E) E) E
/-- D.get(k, x), D a dict of the module -/
def fGet2K (d : Addr) (tab : List (Str × T)) (Fo Fe Ff : FE) : FE := fun τ s Q E => Fo τ s (fun x s1 => (match x with | .cell c => c = d | _ => False) ∧ Fe τ s1 (fun y s2 => Ff τ s2 (fun z s3 => match y with
  | .str y => Q ((tab.lookup y).getD z) s3
  | _ => False) E) E) E
/-- d.update(e) -/
def fUpd (Fo Fe : FE) : FE := fun τ s Q E => Fo τ s (fun x s1 => (match x with | .cell _ => (s1.dct? x).isSome = true | _ => False) ∧ Fe τ s1 (fun y s2 => match x, s2.dct? y with
  | .cell d, some more => (match s2.on d with | some (.dct kvs) => y ≠ .cell d ∧ kvs.length + more.length ≤ 1000 ∧ Q .non (s2.put d (.dct (mergeD kvs more))) | _ => False)
  | _, _ => False) E) E
end
section
variable {K : PySem.W.Frag} {cl : CL} {Z : Addr → Prop} {s s' : S} {H H' : Hp} {d : Addr} {od : Obj} {kvv : List (Key × V)}
theorem Sto.swap {o o' : HO} (so : Sto K cl Z s H) (hd : H d = some o) (nm : ¬ s.mut d) (nl : ∀ xs, o ≠ .lst xs) (hp : Pl o) (f : FutU s H s (upd H d o')) : Sto K cl Z s (upd H d o') where
  pen := fun q hq => by
    obtain ⟨L, x, r, ns, h1, h2, h3, h4⟩ := so.pen q hq
    have e1 : q ≠ d := fun e => nm (.inl (by rw [← e]; exact hq))
    have e2 : L ≠ d := fun e => nl _ (by rw [e, hd] at h2; exact Option.some.inj h2)
    exact ⟨L, x, r, ns, by rw [upd_ne e1]; exact h1, by rw [upd_ne e2]; exact h2, h3, h4⟩
  cells := fun a c h => (so.cells a c h).atU f (upd_ne fun e => nm (.inr (by rw [← e, h]; exact Option.some_ne_none c)))
  apart := so.apart
  hid := fun b hb => by
    obtain ⟨n, xs, hx⟩ := so.hid b hb
    exact ⟨n, xs, by rw [upd_ne (fun e => nl xs (by rw [e, hd] at hx; exact Option.some.inj hx))]; exact hx⟩
  tabs := tabs_upd hd hp (fun b u n e => by rw [upd_ne n]; exact e) so.tabs
end
section
variable {X : Cx} {cl : CL} {W : WX} {tg : Expr} {B : FS} {pos p : Pos} {i : Nat} {x : Str}
def keysT (kvs : List (Key × T)) : List T := kvs.map fun kv : Key × T => kT kv.1
def fForD (i : Nat) (g : FG) (B : FS) : FS := fun τ s D => match τ[i]? with
  | some (some (.dct kvs)) => forT (fun _ => True) g B (keysT kvs) τ s D
  | _ => False
end
end Mr
namespace Mr
open PySem PySem.Spec PyProof.Rows L2 Tw
abbrev PH1 := T → PH
abbrev FH1 := PH1 → T → PH
section
variable {X : Cx} {cl : CL} {W : WX} {k kh j cc : Nat} {params : Arguments} {body : Expr} {scope : Scope} {Fa Fb : FE} {D : FH1} {x y : Str} {p lpos pos : Pos} {c P : Addr}
def cL (D : FH1) : FH1 := fun φ x s Q E => ∃ (Q0 : KT) (E0 : KX), D φ x s Q0 E0 ∧ (∀ t s, Q0 t s → Q t s) ∧ ∀ e s, E0 e s → E e s
theorem cL.mon {D : FH1} {φ : PH1} {x : T} {s : S} {Q Q' : KT} {E E' : KX} (hq : ∀ t s, Q t s → Q' t s) (he : ∀ e s, E e s → E' e s) (h : cL D φ x s Q E) : cL D φ x s Q' E' := by
  obtain ⟨Q0, E0, h1, h2, h3⟩ := h
  exact ⟨Q0, E0, h1, fun t s q => hq _ _ (h2 t s q), fun e s q => he _ _ (h3 e s q)⟩
/-- the call, held -/
def hL (D : FH1) (τ : Env) (Fb : FE) (x : T) (s : S) [q : Bx KT] [e : Bx KX] : Prop := cL D (fun t s Q E => Fb (τ ++ [some t]) s Q E) x s q.v e.v
theorem hL.of {D : FH1} {τ : Env} {Fb : FE} {x : T} {s : S} {Q : KT} {E : KX} (h : D (fun t s Q E => Fb (τ ++ [some t]) s Q E) x s Q E) : @hL D τ Fb x s ⟨Q⟩ ⟨E⟩ := ⟨Q, E, h, fun _ _ q => q, fun _ _ q => q⟩
end
def hP1 (φ : PH1) (t : T) (s : S) [q : Bx KT] [e : Bx KX] : Prop := φ t s q.v e.v
theorem hP1.of {φ : PH1} {t : T} {s : S} {Q : KT} {E : KX} (h : φ t s Q E) : @hP1 φ t s ⟨Q⟩ ⟨E⟩ := h
theorem rows_madeTD : True := by
  have _ := @fRaiseB.eq_1
  have _ := @fTryC.eq_1
  have _ := @fForD.eq_1
  have _ := @fFreeze.eq_1
  have _ := @fDPut.eq_1
  have _ := @fDsp.eq_1
  have _ := @fDct0C.eq_1
  have _ := @fGet2.eq_1
  have _ := @fGet2K.eq_1
  have _ := @fUpd.eq_1
  have _ := @fForE.eq_1
  have _ := @gIxD.eq_1
  have _ := @gInD.eq_1
  trivial
end Mr
namespace Mr
open PySem PySem.Spec PyProof.Rows L2 Tw
section
variable {X : Cx} {cl : CL} {W : WX} {e o : Expr} {Fo Fa : FE} {pos tpos p sp_ : Pos} {op : Operator} {g : S → T → T → KT → KX → Prop} {cs : List Nat} {f : Str}
/-- o.f op= e -/
def fFldAug (cs : List Nat) (f : Str) (g : S → T → T → KT → KX → Prop) (Fo Fa : FE) : FS := fun τ s D => Fo τ s (fun y s1 => match y with
  | .cell a => (match s1.on a with
    | some (.obj c fs) => c ∈ cs ∧ (match fs.lookup f with
      | some t => Fa τ s1 (fun v s2 => g s2 t v (fun r s3 => match s3.on a with | some (.obj c' fs') => c' = c ∧ fs'.length < 1000 ∧ D.nx τ (s3.put a (.obj c (putT f r fs'))) | _ => False) (xk τ D)) (xk τ D)
      | none => False)
    | _ => False)
  | _ => False) (xk τ D)
def lstripO : OS
  | _, z, [.str b] => some (z.length ≤ 1000000, .str (Txt.lstripChars z b))
  | _, _, _ => none
def fMkLV (i : Nat) (fz : Bool) (c n : Nat) (D : FD) (Fa : FE) : FE := fun τ s Q E => τ[i]? = some (some (.ty (.own c))) ∧ fMkV fz c n D (fStar Fa fNil) τ s Q E
theorem rows_madeTE : True := by
  have := @Mr.fFldAug.eq_1
  have := @Mr.fMkLV.eq_1
  have := @Mr.lstripO.eq_1
  trivial
end
end Mr
namespace Mr
open PySem PySem.Spec PyProof.Rows L2 Tw
section
variable {X : Cx} {cl : CL} {W : WX} {e : Expr} {es : List Expr} {A Ak : FA} {pos p pp apos : Pos} {x m : Str} {k j n c : Nat} {D : FD} {kws : List Keyword} {ks : List Str} {gT : List T → List T → List T} {f : Addr} {fd : FuncData} {ps : List Str} {sp : Sp} {E : XK}
/-- C.m(e, ..) -/
def fCmM (c : Nat) (D : FD) (A : FA) : FE := fun τ s Q E => A τ s (fun ts s1 => cM D (.ty (.own c) :: ts) s1 Q E) E
/-- C.m(k = v, ..) -/
def fCmK (c n mm : Nat) (D : FD) (gT : List T → List T → List T) (Ak : FA) : FE := fun τ s Q E => Ak τ s (fun us s2 => (1 = n ∧ us.length = mm) ∧ cM D (gT [.ty (.own c)] us) s2 Q E) E
theorem rows_madeTF : True := by
  have := @Mr.fCmM.eq_1
  have := @Mr.fCmK.eq_1
  trivial
end
end Mr
namespace Mr
open PySem PySem.Spec PyProof.Rows L2 Tw
section
/-- what gives out a token -/
def Raises {α : Type} (t : Sem α) : Prop := ∀ (M : Model) (Γ : PySem.Ctx) (Q : α → Pos → Shared → Prop) (E : Value → Pos → Shared → Prop) (p : Pos) (s : Shared), Sem.wp M Γ t Q E p s → Sem.wp M Γ t (fun a p' s' => s.toks + 1 ≤ s'.toks ∧ Q a p' s') E p s
theorem Raises.bind {α β : Type} {m : Sem α} {f : α → Sem β} (h : Raises m) : Raises (m >>= f) := by
  intro M Γ Q E p s q
  rw [Sem.wp_bind'] at q ⊢
  refine Sem.wp_mono M Γ m (fun a p' s' z => ?_) (fun _ _ _ z => z) p s (h M Γ _ _ _ _ q)
  exact Sem.wp_mono M Γ (f a) (fun _ _ _ z => z) (fun _ _ _ z => z.2) p' s' (Sem.wp_toks M Γ _ _ _ _ _ _ z.1 z.2)
end
section
variable {X : Cx} {cl : CL} {W : WX} {st : Stmt} {sts ss ts : List Stmt} {e c o i : Expr} {F Fa Fo Fi : FE} {G : FT} {B B1 B2 : FS} {pos p apos : Pos}
structure JEt (X : Cx) (cl : CL) (W : WX) (e : Expr) (F : FE) : Prop where
  mon : MonE F
  pe : PET X e (tT X.K cl W F)
structure JSt (X : Cx) (cl : CL) (W : WX) (st : Stmt) (F : FS) : Prop where
  mon : MonS F
  ps : PST X st (tTS X.K cl W F)
structure JSst (X : Cx) (cl : CL) (W : WX) (sts : List Stmt) (F : FS) : Prop where
  mon : MonS F
  pss : PSsT X sts (tTS X.K cl W F)
theorem JS.t (h : JS X cl W st B) : JSt X cl W st B := ⟨h.mon, PST.of h.ps⟩
theorem JSs.t (h : JSs X cl W sts B) : JSst X cl W sts B := ⟨h.mon, PSsT.of h.pss⟩
theorem PSsT.imp {t t' : TS} (h : PSsT X sts t) (i : ∀ D σ H, t' D σ H → t D σ H) : PSsT X sts t' := fun pins s σ H D h0 I z => h pins s σ H D h0 I (i D σ H z)
theorem PST.imp {t t' : TS} (h : PST X st t) (i : ∀ D σ H, t' D σ H → t D σ H) : PST X st t' := fun pins s σ H D h0 I z => h pins s σ H D h0 I (i D σ H z)
/-- o.replace(y, [z0, z1, z2][i], 1): what comes out is some text, not much longer -/
def fRep3 (Fo Fi : FE) : FE := fun τ s Q E => Fo τ s (fun x s1 => match x with
  | .str z => z.length ≤ 100000 ∧ Fi τ s1 (fun t s2 => match t with | .int k => (0 ≤ k ∧ k < 3) ∧ ∀ r : Str, r.length ≤ 3 * z.length + 2 → Q (.str r) s2 | _ => False) E
  | _ => False) E
theorem rows_madeTG : True := by
  have := @Mr.fRep3.eq_1
  trivial
end
end Mr
namespace Mr
open PySem PySem.Spec PyProof.Rows L2 Tw
/-- super().__init__(e, ..), self the first slot -/
def fSup (cs : List Nat) (D' : FD) (A : FA) : FS := fun τ s D => match τ[0]? with
  | some (some x) => (match s.obj? x with | some (c, _) => c ∈ cs | none => False) ∧ A τ s (fun ts s1 => cM D' (x :: ts) s1 (fun _ s2 => D.nx τ s2) (xk τ D)) (xk τ D)
  | _ => False
end Mr
namespace Mr
open PySem PySem.Spec PyProof.Rows L2 Tw
theorem rows_madeTI : True := by
  have := @Mr.fFldAug.eq_1
  have := @Mr.fMkLV.eq_1
  have := @Mr.fCmM.eq_1
  have := @Mr.fCmK.eq_1
  have := @Mr.fRep3.eq_1
  have := @Mr.fSup.eq_1
  trivial
end Mr
namespace Mr
open PySem PySem.Spec PyProof.Rows L2 Tw
section
variable {X : Cx} {cl : CL} {W : WX} {a b c : Expr} {G Ga Gb : FT} {pos : Pos}
def fIfT (G Ga Gb : FT) : FT := fun τ s Q E => G τ s (fun b s1 => if b = true then Ga τ s1 Q E else Gb τ s1 Q E) E
theorem rows_madeTJ : True := by
  have := @Mr.fIfT.eq_1
  trivial
end
end Mr
namespace Mr
open PySem PySem.Spec PyProof.Rows L2 Tw
mutual
def clo : T → Bool
  | .non => true
  | .bl _ => true
  | .int _ => true
  | .str _ => true
  | .tup xs => clos xs
  | .obj _ fs => clof fs
  | _ => false
def clos : List T → Bool
  | [] => true
  | x :: xs => clo x && clos xs
def clof : List (Str × T) → Bool
  | [] => true
  | (_, x) :: xs => clo x && clof xs
end
def EqP (X : Cx) (cl : CL) (pins : List (Addr × Obj)) (σ : L2.St) (Z : Addr → Prop) (s : S) (H : Hp) (s' : Shared) : Prop := ∃ H', Inv X pins σ H' s' ∧ Fut s H s H' ∧ Sto X.K cl Z s H'
/-- == of tx and ty says r and changes nothing -/
def EqM (X : Cx) (cl : CL) (n : Nat) (s : S) (tx ty : T) (r : Bool) : Prop :=
  ∀ (A : Around) (pins : List (Addr × Obj)) (sh : Shared) (σ : L2.St) (H : Hp) (Z : Addr → Prop) (x y : V) (u v : Value), Rm n A → A.frames = X.A.frames → Inv X pins σ H sh → RelV x u → RelV y v → Rep X.K cl Z s H x tx → Rep X.K cl Z s H y ty → Sto X.K cl Z s H →
    wpAny (model X.prog X.w) A (eqBool u v) (fun b s' => b = r ∧ EqP X cl pins σ Z s H s') X.xe sh
def RcM (X : Cx) (cl : CL) (n : Nat) (s : S) (tx ty : T) (r : Bool) : Prop :=
  ∀ (A : Around) (pins : List (Addr × Obj)) (sh : Shared) (σ : L2.St) (H : Hp) (Z : Addr → Prop) (x y : V) (u v : Value), Rm n A → A.frames = X.A.frames → Inv X pins σ H sh → RelV x u → RelV y v → Rep X.K cl Z s H x tx → Rep X.K cl Z s H y ty → Sto X.K cl Z s H →
    wpAny (model X.prog X.w) A (richCompare .Eq u v) (fun b s' => b = .bool r ∧ EqP X cl pins σ Z s H s') X.xe sh
section
variable {X : Cx} {cl : CL} {n m : Nat} {s : S} {tx ty : T} {r : Bool}
theorem EqM.mono (h : EqM X cl n s tx ty r) (hn : n ≤ m) : EqM X cl m s tx ty r := fun A pins sh σ H Z x y u v rm => h A pins sh σ H Z x y u v (rm.mono hn)
theorem RcM.mono (h : RcM X cl n s tx ty r) (hn : n ≤ m) : RcM X cl m s tx ty r := fun A pins sh σ H Z x y u v rm => h A pins sh σ H Z x y u v (rm.mono hn)
/-- item by item -/
inductive EqMs (G : T → T → Bool → Prop) : List T → List T → Bool → Prop
  | nil : EqMs G [] [] true
  | less {y : T} {ys : List T} : EqMs G [] (y :: ys) false
  | more {x : T} {xs : List T} : EqMs G (x :: xs) [] false
  | cons {x y : T} {xs ys : List T} {r : Bool} : G x y true → EqMs G xs ys r → EqMs G (x :: xs) (y :: ys) r
  | stop {x y : T} {xs ys : List T} : G x y false → EqMs G (x :: xs) (y :: ys) false
theorem EqP.trans {pins : List (Addr × Obj)} {σ : L2.St} {Z : Addr → Prop} {H H' : Hp} {s' : Shared} (f : Fut s H s H') (q : EqP X cl pins σ Z s H' s') : EqP X cl pins σ Z s H s' := by
  obtain ⟨H2, I2, f2, so2⟩ := q
  exact ⟨H2, I2, f.trans f2, so2⟩
/-- a tuple == a tuple, part by part as G says -/
def gEqTup (G : S → T → T → Bool → Prop) : S → T → T → KT → KX → Prop := fun s x y Q _ => ∃ xs ys r, x = .tup xs ∧ y = .tup ys ∧ EqMs (G s) xs ys r ∧ Q (.bl r) s
end
section
variable {X : Cx} {cl : CL} {W : WX} {e : Expr} {Fa : FE} {k j : Nat} {pos : Pos}
def fProM (cs : List Nat) (D : Nat → FD) (Fa : FE) : FE := fun τ s Q E => Fa τ s (fun x s1 => match s1.obj? x with | some (c, _) => c ∈ cs ∧ kObj c s1 x (cM (D c) [x] s1 Q noX) | none => False) E
theorem rows_madeTK : True := by
  have := @Mr.fProM.eq_1
  have := @Mr.gEqTup.eq_1
  trivial
end
end Mr
namespace Mr
open PySem PySem.Spec PyProof.Rows L2 Tw RZ
open PySem.Builtin.SmallTypes in
section
variable {pg : Program} {wd : World}
/-- what an iterator does when it is asked: it stands at its turn, hands out an item, or ends -/
structure Leg (pg : Program) (wd : World) (it of_ : Addr) where
  St : Nat → Heap → Prop
  items : Array Value
  stay : ∀ {k : Nat} {h h' : Heap}, (∀ o, h.get? it = some o → h'.get? it = some o) → (∀ o, h.get? of_ = some o → h'.get? of_ = some o) → St k h → St k h'
  there : ∀ {k : Nat} {h : Heap}, St k h → ∃ o, h.get? it = some o
  go : ∀ {k : Nat} {x : Value} {B : Around} {sh : Shared} {Q : Value → Shared → Prop} {Ex : Value → Shared → Prop}, St k sh.heap → items[k]? = some x → (∀ h', St (k + 1) h' → Heap.SameBut it sh.heap h' → Q x { sh with heap := h' }) → wpAny (model pg wd) B (nextOf (.ref it)) Q Ex sh
  ended : ∀ {k : Nat} {B : Around} {sh : Shared} {Q : Value → Shared → Prop} {Ex : Value → Shared → Prop}, B.handled = none → St k sh.heap → items[k]? = none →
    (∀ h' e, Heap.ExtBut it sh.heap h' → (∃ o, h'.get? e = some o ∧ o.cls = .type "StopIteration") → Ex (.ref e) { sh with heap := h' }) → wpAny (model pg wd) B (nextOf (.ref it)) Q Ex sh
variable {B : Around} {Ex : Value → Shared → Prop} {sh : Shared} {z TI TO i1 i2 l1 l2 : Addr} {k1 k2 : Nat} {x y a b : Value}
theorem Leg.on {it of_ : Addr} (L : Leg pg wd it of_) {c : Addr} {k : Nat} {h h' : Heap} (e : Heap.ExtBut c h h') (n1 : it ≠ c) (n2 : of_ ≠ c) (st : L.St k h) : L.St k h' := L.stay (fun o q => e _ o n1 q) (fun o q => e _ o n2 q) st
end
section
variable {X : Cx} {cl : CL} {W : WX} {e e2 : Expr} {p pos tpos : Pos} {elts : List Expr} {kk : Nat} {A : FA}
/-- pairs, as far as both go -/
def zipT : List T → List T → List T
  | x :: xs, y :: ys => .tup [x, y] :: zipT xs ys
  | _, _ => []
def iZip (A : FA) : FI := fun τ s Q E => A τ s (fun xs s1 => match xs with | [.tup ts, .lst us] => Q (zipT ts us) (fun _ => True) s1 | _ => False) E
end
section
variable {X : Cx} {cl : CL} {W : WX} {o e : Expr} {es : List Expr} {Fo : FE} {A : FA} {pos apos : Pos}
def minO : ON
  | _, [.int i, .int j] => some (True, .int (if j < i then j else i))
  | _, _ => none
def insO : OL
  | xs, [.int i, y] => if 0 ≤ i then some (xs.length < 1000000 ∧ i < 1000000, .non, xs.take i.toNat ++ [y] ++ xs.drop i.toNat) else none
  | _, _ => none
/-- xs.index(text) of a list of texts, that has it -/
def onIdx (s : S) (x : T) (ts : List T) (Q : KT) : Prop := match s.lst? x with
  | some xs => (match ts with | [.str k] => (match txts xs with | some zs => k ∈ zs ∧ Q (.int ((zs.idxOf k : Nat) : Int)) s | none => False) | _ => False)
  | none => False
theorem onIdx.mon {s : S} {x : T} {ts : List T} {Q Q' : KT} (i : ∀ t s, Q t s → Q' t s) (h : onIdx s x ts Q) : onIdx s x ts Q' := by
  unfold onIdx at h ⊢
  split at h
  · split at h
    · split at h
      · exact ⟨h.1, i _ _ h.2⟩
      · exact h
    · exact h
  · exact h
def fIndex (Fo : FE) (A : FA) : FE := fun τ s Q E => Fo τ s (fun x s1 => (s1.lst? x).isSome = true ∧ A τ s1 (fun ts s2 => onIdx s2 x ts Q) E) E
end
theorem rows_madeTL : True := by
  have := @Mr.iZip.eq_1
  have := @Mr.zipT.eq_1
  have := @Mr.zipT.eq_2
  have := @Mr.fIndex.eq_1
  have := @Mr.onIdx.eq_1
  have := @Mr.insO.eq_1
  have := @Mr.minO.eq_1
  trivial
end Mr
namespace Mr
open PySem PySem.Spec PyProof.Rows L2 Tw
section
variable {X : Cx} {cl : CL}
def gEqR (G : S → T → T → Bool → Prop) : S → T → T → KT → KX → Prop := fun s x y Q _ => ∃ r, G s x y r ∧ Q (.bl r) s
end
theorem rows_madeTM : True := by
  have := @Mr.gEqR.eq_1
  trivial
end Mr
namespace Mr
open PySem PySem.Spec PyProof.Rows L2 Tw
section
variable {X : Cx} {cl : CL} {W : WX}
def onCat (s : S) (x y : T) (K : List T → Prop) : Prop := match s.lst? x, s.lst? y with | some xs, some ys => xs.length + ys.length ≤ 1000000 ∧ K (xs ++ ys) | _, _ => False
def gAddC : S → T → T → KT → KX → Prop := fun s x y Q _ => onCat s x y fun zs => ∀ a, s.on a = none → Q (.cell a) (s.put a (.lst zs))
end
theorem rows_madeTN : True := by
  have := @Mr.gAddC.eq_1
  trivial
end Mr
namespace Mr
open PySem PySem.Spec PyProof.Rows L2 Tw
noncomputable def sortS (xs : List Str) : List Str := Classical.epsilon fun ys => ys.Perm xs ∧ sortedS ys = true
section
variable {X : Cx} {cl : CL}
noncomputable def sortSO : ON
  | s, [x] => match s.lst? x with | some xs => (match strsOf xs with | some zs => some (zs.length < 64, .lst ((sortS zs).map T.str)) | none => none) | none => none
  | _, _ => none
end
theorem rows_madeMtO : True := by
  have h : @sortSO = @sortSO := rfl
  trivial
end Mr
namespace Mr
open PySem PySem.Spec PyProof.Rows L2 Tw GenW
section
variable {prog : Program} {w : World} {A : Around} {R : GenEnd} {Y : Protocol} {n : Nat} {s0 s : Shared} {fs : List Frame} {env : PySem.Env} {tg : Expr} {it : Value} {body : List Stmt}
/-- an exception that leaves the loop's code -/
abbrev outE (env : PySem.Env) (x : Value) : Sem PySem.Fin := (do noteFrame x env; theTreesLotGoes x : Sem Unit).wrap (fun _ => .raise x) .raise id id
end
/-- a generator that has not begun: woken it hands out what its body says -/
def GMd (P : Program) (w : World) (k : Nat) (out : List PySem.Env) (H : Hp) (s : Shared) (Q : List V → Hp → Prop) (E : XK) (u : Value) (s' : Shared) : Prop :=
  ∃ (a : Addr) (g : Nat) (c : Code), u = .ref a ∧ (s.heap.objs.size ≤ a ∧ a < s'.heap.objs.size) ∧ (s'.heap.IsGen a g ∧ s'.gens[g]? = some (.fresh c)) ∧ (s'.os = s.os ∧ AllBare s'.gens ∧ s'.heap.NoLimit) ∧ (∀ b o, s.heap.get? b = some o → s'.heap.get? b = some o) ∧
    ∀ (B : Around) (S : Addr) (s2 : Shared), Rm k B → B.frames = some out → s'.heap.objs.size ≤ S → (∀ b o, s'.heap.get? b = some o → s2.heap.get? b = some o) → (∃ c, s2.heap.get? S = some (lstObj #[] c)) → s2.os = s.os → AllBare s2.gens →
      Seg (model P w) B (REnd P w out H s [] S a g Q E) (YItem s S a g) sizeLine s2 c ((model P w).den c) [] s2
structure GnG (P : Program) (w : World) (K : PySem.W.Frag) (mg : Str → Option Value) (base : Heap) (k : Nat) (f : Addr) (fd : FuncData) (ps : List Str) (sp : SpG) : Prop where
  len : ∀ vs H Q E, sp vs H Q E → vs.length = ps.length
  run : ∀ (A : Around) (out : List PySem.Env) (s : Shared) (H : Hp) (args : Args) (us : List Value) (vs : List V) (Q : List V → Hp → Prop) (E : XK), Rm k A → Env0 P w K mg base A out s H → BindsTo s fd args (ps.zip us) → Vals vs us → sp vs H Q E →
    codeAny (model P w) A (.call (.ref f) args) (fun r s' => ∃ u, r = .ok (.ret u) ∧ GMd P w k out H s Q E u s') s
section
variable {P : Program} {w : World} {K : PySem.W.Frag} {mg : Str → Option Value} {base : Heap} {k : Nat} {f : Addr} {ps N : List Str} {sp : SpG}
theorem gnG {name qual : Str} {pr : Arguments} {body : List Stmt} {sc : Scope} {dV kV doc pm cdv ct oc : Value} {an od : Option Addr} {osl : Array (Option Value)}
    (lk : K.lookup f = some ⟨oc, od, .func (PySem.W.fnOf name qual pr body sc dV kV doc pm an cdv ct), osl⟩) (hcd : PySem.W.codeIn K cdv qual = true) (G : GScope N ps sc) (len : ∀ vs H Q E, sp vs H Q E → vs.length = ps.length)
    (hb : ∀ (A : Around) (out : List PySem.Env) (s : Shared) (H : Hp) (vs : List V) (Q : List V → Hp → Prop) (E : XK) (pn : List (Addr × Obj)), Rm k (A.deeper (envOfC qual sc s.heap.objs.size f cdv)) → sp vs H Q E →
      ∃ t, GSs (gcxOf P w K mg base N qual sc f cdv A out s H E pn) body t ∧ t { nx := fun ys _ H' => Q ys H', rt := fun ys v H' => v = .non ∧ Q ys H' } [] (start N vs) H) :
    GnG P w K mg base (k + 1) f (PySem.W.fnOf name qual pr body sc dV kV doc pm an cdv ct) ps sp := by
  constructor
  · exact len
  intro A out s H args us vs Q E rm ev bd rel want
  have hlen := len _ _ _ _ want
  have inK : K.In s.heap := ev.mod.kin.keeps fun b o q => (ev.bs b o q).1
  have nolim : s.heap.NoLimit := ev.mod.nolimit.keeps fun b o q => (ev.bs b o q).1
  have kinds : ∀ z ∈ ps.zip us, sc.names.lookup z.1 = some .local ∨ (sc.names.lookup z.1 = some .cell ∧ ((cellsFrom (s.heap.objs.size + 1) sc.names []).lookup z.1).isSome = true) := by
    rintro ⟨n, v⟩ hz
    exact (G.par n (List.of_mem_zip hz).1).imp id fun q => ⟨q, PySem.W.cellsFrom_some _ _ _ (.inl q)⟩
  refine codeAny_call_generator rm.room.depth (inK _ _ lk) rfl G.co G.gen rfl (PySem.W.codeRec_of inK hcd) (bd _ _ _ _ ?_)
  refine wpAny_newFunctionEnv_cells G.kind kinds ?_
  rintro env rfl s1 ic
  have lim1 : s1.heap.NoLimit := nolim.keeps ic.toInCall.keep
  have old1 : ∀ b o, s.heap.get? b = some o → s1.heap.get? b = some o := ic.toInCall.keep
  have new1 : s.heap.objs.size < s1.heap.objs.size := ic.toInCall.ns.lt
  obtain ⟨os1, gens1⟩ : s1.os = s.os ∧ s1.gens = s.gens := by
    obtain ⟨h1, tk, e, _⟩ := ic.done
    rw [e]
    exact ⟨rfl, rfl⟩
  refine ⟨lim1, _, rfl, ?_⟩
  -- the generator's object, whatever it is made of
  have made : ∀ (go : Obj) (nm qn : Value) (tk : Nat), go.cls = .type "generator" → go.data = .fields #[.int s1.gens.size 0, nm, qn] → go.slots = #[] → (∀ h : Heap, (h.push go).get? h.objs.size = some go) →
      GMd P w (k + 1) out H s Q E (.ref s1.heap.objs.size) { s1 with gens := s1.gens.push (.fresh (.func body (envOfC qual sc s.heap.objs.size f cdv))), toks := tk, heap := s1.heap.push go } := by
    intro go nm qn tk hcls hdat hslo hat
    have gen : ∀ h : Heap, h.get? s1.heap.objs.size = some go → h.IsGen s1.heap.objs.size s1.gens.size := fun h q => ⟨go, nm, qn, q, hcls, hdat, hslo⟩
    have noCell : ∀ v, go.data ≠ .cell v := by
      intro v q
      rw [hdat] at q
      cases q
    have grown : (s1.heap.push go).objs.size = s1.heap.objs.size + 1 := Heap.size_push _ _
    have bare1 : AllBare s1.gens := by rw [gens1]; exact ev.bare
    refine ⟨s1.heap.objs.size, s1.gens.size, _, rfl, ⟨Nat.le_of_lt new1, ?_⟩, ⟨gen _ (hat _), Array.getElem?_push_size ..⟩, ⟨os1, AllBare.push bare1 rfl, lim1.keeps fun b o q => Heap.get?_push_of_some _ q⟩, fun b o q => Heap.get?_push_of_some _ (old1 b o q), ?_⟩
    · show s1.heap.objs.size < (s1.heap.push go).objs.size
      omega
    intro B S s2 rmB frB hS old2 emptyS os2 bare2
    have evB : Env0 P w K mg base B out s H := ⟨frB, ev.mod, ev.bs, ev.bsz, ev.funs, ev.frf, ev.hok, ev.bare⟩
    have newS : s1.heap.objs.size < S := by
      have q : (s1.heap.push go).objs.size ≤ S := hS
      omega
    have goS : s1.heap.objs.size ≠ S := Nat.ne_of_lt newS
    have old12 : ∀ b o, s1.heap.get? b = some o → s2.heap.get? b = some o := fun b o q => old2 b o (Heap.get?_push_of_some _ q)
    have I1 : Inv (gcxOf P w K mg base N qual sc f cdv B out s H E []) [] (start N vs) H s1 := inv_startG G rmB.room.hd evB hlen rel ic
    have I2 : Inv (gcxOf P w K mg base N qual sc f cdv B out s H E []) [] (start N vs) H s2 := I1.call' (ch := []) (os2.trans os1.symm) (Un.kept old12) (I1.hok.kept old12) bare2 fun b z => by cases z
    obtain ⟨cS, atS⟩ := emptyS
    have atG : s2.heap.get? s1.heap.objs.size = some go := old2 _ go (hat _)
    -- what is younger than the frame is none of its own
    have apart : ∀ b, s1.heap.objs.size ≤ b → H b = none ∧ b ≠ s.heap.objs.size ∧ b ∉ frs out ∧ s.heap.objs.size ≤ b ∧ ∀ y c, (cellsFrom (s.heap.objs.size + 1) sc.names []).lookup y = some c → c ≠ b := by
      intro b hb
      refine ⟨I1.hok.fresh hb, by omega, I1.nofs hb, by omega, ?_⟩
      intro y c e z
      obtain ⟨v, ob, ho, _⟩ := I1.cell y c e
      exact Nat.lt_irrefl _ (Nat.lt_of_lt_of_le (z ▸ Heap.lt_size ho) hb)
    have pins : ∀ p ∈ [(s1.heap.objs.size, go)] ++ [(S, lstObj #[] cS)], s2.heap.get? p.1 = some p.2 ∧ H p.1 = none ∧ p.1 ≠ (envOfC qual sc s.heap.objs.size f cdv).locals ∧ p.1 ∉ frs out ∧ ∀ v, p.2.data ≠ .cell v := by
      intro p hp
      simp only [List.cons_append, List.nil_append, List.mem_cons, List.not_mem_nil, or_false] at hp
      rcases hp with rfl | rfl
      · obtain ⟨y1, y2, y3, _, _⟩ := apart s1.heap.objs.size (Nat.le_refl _)
        exact ⟨atG, y1, y2, y3, noCell⟩
      · obtain ⟨y1, y2, y3, _, _⟩ := apart S (Nat.le_of_lt newS)
        exact ⟨atS, y1, y2, y3, fun v q => by cases q⟩
    have start0 : GI (gcxOf P w K mg base N qual sc f cdv B out s H E [(s1.heap.objs.size, go)]) S [] [] (start N vs) H s2 := ⟨#[], cS, .nil, Inv.pinnedG I2 pins⟩
    have apS : Apart (gcxOf P w K mg base N qual sc f cdv B out s H E [(s1.heap.objs.size, go)]) S := by
      obtain ⟨_, y2, _, y4, y5⟩ := apart S (Nat.le_of_lt newS)
      exact ⟨y4, y2, y5⟩
    have stays : ∀ {ip : List (Addr × Obj)} {ys : List V} {s' : Shared} {σ' : L2.St} {H' : Hp}, GI (gcxOf P w K mg base N qual sc f cdv B out s H E [(s1.heap.objs.size, go)]) S ip ys σ' H' s' → s'.heap.IsGen s1.heap.objs.size s1.gens.size := by
      rintro ip ys s' σ' H' ⟨acc, cc, _, J⟩
      exact gen _ (J.pin (s1.heap.objs.size, go) (List.mem_append_left _ List.mem_cons_self)).1
    obtain ⟨t, ht, hq⟩ := hb B out s H vs Q E [(s1.heap.objs.size, go)] (rmB.deeper _) want
    refine seg_func (seg_imp (R := GR (gcxOf P w K mg base N qual sc f cdv B out s H E [(s1.heap.objs.size, go)]) S (fun ys v H' => v = .non ∧ Q ys H') fun e s' => L2.CX P w out H s E e s' ∧ ∀ p ∈ [(s1.heap.objs.size, go)], s'.heap.get? p.1 = some p.2)
      (Y := GY (gcxOf P w K mg base N qual sc f cdv B out s H E [(s1.heap.objs.size, go)]) S) ?ends ?hands sizeLine ?body)
    case ends =>
      intro n s0 r s3 hR
      match r, hR with
      | .error e, hR => exact .inr ⟨e, rfl, hR.1, gen _ (hR.2 _ List.mem_cons_self)⟩
      | .ok (.ret u), hR =>
        obtain ⟨ys, v, ip, σ', H', hn, hI, rv, rfl, hQ⟩ := hR
        cases rv
        have keepI := hI
        obtain ⟨none_, _, _, got, cc, rel_, at_⟩ := hI.at
        obtain ⟨_, _, _, J⟩ := keepI
        exact .inl ⟨.inl rfl, H', ys, got, cc, J.os, J.bare, J.base, J.hok, none_, at_, rel_, by omega, hQ⟩
    case hands =>
      intro n s0 v s3 kap kap' hkk hY
      obtain ⟨ys, x, ip, σ', H', hn, rx, hI, more⟩ := hY
      obtain ⟨_, _, _, got, cc, rel_, at_⟩ := hI.at
      have isG := stays hI
      obtain ⟨_, _, _, J⟩ := hI
      have lenA : got.size = ys.length := by
        have q := rel_.length
        rw [Array.length_toList] at q
        exact q.symm
      exact ⟨J.os, J.bare, J.nolimit, isG, ⟨got, cc, at_, by omega⟩, fun s' z => hkk _ _ (more s' z)⟩
    case body =>
      refine ht.run B S [] _ sizeLine [] s2 _ [] _ _ id id s2 (start N vs) H _ ⟨fun p hp => ?_, fun p hp => (by cases hp), apS, over_func, rfl, rfl, rfl⟩ (Nat.add_zero _) ⟨fun n ys s0 s' fl hn hs => ?_, fun n s0 e s' hx => ?_⟩ start0 hq
      · rw [List.mem_singleton.mp hp]
        exact goS
      · match fl, hs with
        | .next, ⟨σ', H', hI, hQ⟩ => exact seg_end (.ok (.ret .none)) ⟨ys, .non, [], σ', H', hn, hI, rfl, rfl, hQ⟩
        | .ret u, ⟨v, σ', H', hI, rv, ev, hQ⟩ => exact seg_end (.ok (.ret u)) ⟨ys, v, [], σ', H', hn, hI, rv, ev, hQ⟩
        | .brk, ⟨_, _, _, q⟩ => exact q.elim
        | .cont, ⟨_, _, _, q⟩ => exact q.elim
      · refine seg_wrap ?_
        rw [over_func]
        have hx' : wpAny (model P w) (B.deeper (envOfC qual sc s.heap.objs.size f cdv)) (leaving (envOfC qual sc s.heap.objs.size f cdv) e) (fun _ s'' => L2.CX P w out H s E e s'' ∧ ∀ p ∈ [(s1.heap.objs.size, go)], s''.heap.get? p.1 = some p.2) (fun _ _ => False) s' := hx
        exact wpAny_mono hx' (fun _ s'' q => seg_end (.error e) q) fun _ s'' q => q.elim
  exact made _ _ _ _ rfl rfl rfl fun h => Heap.get?_push_size _ rfl
end
/-- no exception -/
def noXK : XK := fun _ _ _ => False
section
variable {P : Program} {w : World} {k : Nat} {A : Around} {out : List PySem.Env} {H : Hp} {sc s : Shared} {Q : List V → Hp → Prop} {u : Value} {Q' E : Value → Shared → Prop}
/-- list(g) of a generator that has not begun -/
theorem list_gmd (rm : Rm (k + 3) A) (fr : A.frames = some out) (h : GMd P w k out H sc Q noXK u s)
    (hQ : ∀ S s' acc c H' ys, s.heap.objs.size ≤ S → s'.heap.get? S = some (lstObj acc c) → Vals ys acc.toList → ys.length ≤ sizeLine → s'.os = sc.os → AllBare s'.gens → Un (frs out) [] H H' sc.heap s'.heap → HOk P w H' s'.heap → H' S = none → Q ys H' → Q' (.ref S) s') :
    wpAny (model P w) A (call (.type "list") [u]) Q' E s := by
  obtain ⟨a, g, c, rfl, ⟨ha1, ha2⟩, ⟨isG, fresh⟩, ⟨hos, bare, lim⟩, old, wake⟩ := h
  have neA : s.heap.objs.size ≠ a := (Nat.ne_of_lt ha2).symm
  have neC : s.heap.objs.size ≠ cStatics := by
    obtain ⟨_, z, _⟩ := lim
    exact (Nat.ne_of_lt z.lt).symm
  refine callType_codes (Q₁ := fun o s1 => o = .ref s.heap.objs.size ∧ s1 = { s with heap := s.heap.push { cls := .type "list", data := .seq #[] } }) F.called_list (F.typeCall_list_1 _) F.entry_list_init (code_list_new _ ⟨rfl, rfl⟩) ?_
  rintro _ _ ⟨rfl, rfl⟩
  have at1 : (s.heap.push { cls := .type "list", data := .seq #[] }).get? s.heap.objs.size = some { cls := .type "list", data := .seq #[] } := Heap.get?_push_size _ rfl
  refine ⟨⟨_, at1, rfl⟩, F.args_list_init_2 _ _, ?_⟩
  show wpAny _ A.in1.in1 (Builtin.List.listItems (.ref s.heap.objs.size) >>= fun old => Builtin.List.listUpdate (.ref s.heap.objs.size) (fun _ => #[]) >>= fun _ => letGo old.toList.reverse >>= fun _ => Builtin.List.listExtendWith (.ref s.heap.objs.size) (.ref a) .none) _ _ _
  refine wpAny_bind ?_
  unfold Builtin.List.listItems
  refine wpAny_bind (wpAny_seqItems at1 rfl (wpAny_pure ?_))
  refine wpAny_bind (wpAny_updateSeq at1 rfl ?_)
  have at2 := Heap.get?_update_self (Obj.mapSeq fun _ => (#[] : Array Value)) at1 rfl
  refine wpAny_bind (wpAny_letGo ?_)
  unfold Builtin.List.listExtendWith
  -- the heap up to here: the list is new, all else stands
  have upd_ : ∀ (h : Heap) (f : Obj → Obj), (∀ b o, s.heap.get? b = some o → h.get? b = some o) → ∀ b o, s.heap.get? b = some o → (h.update s.heap.objs.size f).get? b = some o := by
    intro h f q b o e
    rw [Heap.get?_update_other _ _ (Ne.symm (Nat.ne_of_lt (Heap.lt_size e)))]
    exact q b o e
  have o1 : ∀ b o, s.heap.get? b = some o → (s.heap.push { cls := .type "list", data := .seq #[] }).get? b = some o := fun b o => Heap.get?_push_of_some _
  have o2 := upd_ _ (Obj.mapSeq fun _ => (#[] : Array Value)) o1
  have genAt : ∀ {h : Heap}, (∀ b o, s.heap.get? b = some o → h.get? b = some o) → h.IsGen a g := fun q => isG.keeps q
  refine wpAny_bind (wpAny_typeOf (Heap.IsGen.typeIs (s := { s with heap := _ }) (genAt o2)) ?_)
  have c1 : Builtin.List.listSameRef (.ref s.heap.objs.size) (.ref a) = false := by simp [Builtin.List.listSameRef, neA]
  have c2 : ((Value.type "generator" == Value.type "list") || (Value.type "generator" == Value.type "tuple")) = false := by decide
  rw [Bool.or_eq_false_iff] at c2
  simp only [c1, c2.1, c2.2, Bool.or_false, Bool.false_eq_true, if_false]
  refine wpAny_bind (wpAny_pyIter_gen (s := { s with heap := _ }) (genAt o2) (wpAny_bind (wpAny_holding ?_)))
  unfold Builtin.List.listLengthHint
  refine wpAny_bind (wpAny_specialOf (Heap.IsGen.typeIs (s := { s with heap := _ }) (genAt o2)) F.gen_no_len ?_)
  refine wpAny_bind (m := specialOf (Value.ref a) (Str.ofString "__length_hint__")) (wpAny_specialOf (Heap.IsGen.typeIs (s := { s with heap := _ }) (genAt o2)) F.gen_no_hint (wpAny_pure ?_))
  show wpAny _ A.in1.in1 (rule "list.extend.makes-room" >>= fun _ => Builtin.List.listTouch (.ref s.heap.objs.size) >>= fun _ => again (.builtin "list.extend.loop" ⟨[.ref s.heap.objs.size, .ref a, .none], []⟩)) _ _ _
  refine wpAny_bind (wpAny_rule (wpAny_bind ?_))
  show wpAny _ A.in1.in1 (updateSeq s.heap.objs.size (fun x => x.push .none) >>= fun _ => updateSeq s.heap.objs.size fun x => x.pop) _ _ _
  refine wpAny_bind (wpAny_updateSeq at2 rfl ?_)
  have at3 := Heap.get?_update_self (Obj.mapSeq (·.push Value.none)) at2 rfl
  refine wpAny_updateSeq (hz := by seq_fits) at3 rfl (wpAny_pure ⟨plainId_quiet F.plain_extend_loop _, ?_⟩)
  have at4 := Heap.get?_update_self (Obj.mapSeq (·.pop)) at3 rfl
  have o4 := upd_ _ (Obj.mapSeq (·.pop)) (upd_ _ (Obj.mapSeq (·.push Value.none)) o2)
  have dp := rm.room.dp
  have un := rm.room.un
  refine drain (P := P) (w := w) (outer := out) (H := H) (sc := sc) (ex := []) (Q := Q) (EX := noXK) (A := A.in1) (g := g) rm.room.hd (by show A.depth < _; omega) neA neC ?ends ?exc sizeLine _ (genAt o4) (lim.keeps o4) ⟨_, fresh, rfl, ?wake⟩
  case ends =>
    intro s' acc c H' ys q1 q2 q3 q4 q5 q6 q7 q8 q9
    exact ⟨rfl, hQ _ s' acc c H' ys (Nat.le_refl _) q1 q2 q3 q4 q5 q6 q7 q8 q9⟩
  case exc =>
    intro e s' hc
    obtain ⟨_, _, _, _, _, _, _, _, _, _, _, _, no⟩ := hc
    exact no.elim
  case wake =>
    refine wake _ _ _ ⟨⟨rm.room.hd, ?_, ?_⟩, rm.gd⟩ fr (Nat.le_refl _) o4 ⟨_, at4⟩ hos (allBare_setGen (s := { s with heap := _ }) bare rfl)
    · show A.depth + 3 * k + 5 < _
      omega
    · show A.units + 1 + 1 + 1 + 16 * k + 200 < _
      omega
end
/-- what a generator def hands out, all of it -/
abbrev FGn := List T → S → (List T → S → Prop) → Prop
def cG (G : FGn) : FGn := fun ts s Q => ∃ Q0 : List T → S → Prop, G ts s Q0 ∧ ∀ outs s1, Q0 outs s1 → Q outs s1
theorem cG.of {G : FGn} {ts : List T} {s : S} {Q : List T → S → Prop} (h : G ts s Q) : cG G ts s Q := ⟨Q, h, fun _ _ q => q⟩
theorem cG.mon {G : FGn} {ts : List T} {s : S} {Q Q' : List T → S → Prop} (i : ∀ outs s1, Q outs s1 → Q' outs s1) (h : cG G ts s Q) : cG G ts s Q' := by
  obtain ⟨Q0, h1, h2⟩ := h
  exact ⟨Q0, h1, fun outs s1 q => i _ _ (h2 _ _ q)⟩
def spGn (K : PySem.W.Frag) (cl : CL) (G : FGn) : SpG := fun vs H cont E => E = noXK ∧ ∃ Z ts s, Reps K cl Z s H vs ts ∧ Sto K cl Z s H ∧ cG G ts s (postA K cl Z s H cont)
structure MetGM (P : Program) (w : World) (K : PySem.W.Frag) (mg : Str → Option Value) (base : Heap) (cl : CL) (k : Nat) (c : Nat) (m : Str) (G : FGn) : Prop where
  ex : ∃ (f : Addr) (fd : FuncData) (ps : List Str), Cls K (cl c) ∧ Meth K (cl c) m f ∧ GnG P w K mg base k f fd ps (spGn K cl G) ∧ Binds K fd ps []
section
variable {X : Cx} {cl : CL} {W : WX} {o : Expr} {Fo : FE} {G : FGn} {k j c : Nat} {m : Str} {p pos pos' apos : Pos}
def fListG (c : Nat) (m : Str) (G : FGn) (Fo : FE) : FE := fun τ s Q E => Fo τ s (fun x s1 => match s1.obj? x with | some (c', fs) => c' = c ∧ fs.lookup m = none ∧ cG G [x] s1 (fun outs s2 => Q (.lst outs) s2) | none => False) E
/-- list(o.m()) of a generator method -/
theorem je_listG {pl : Sem Bool} (d : MetGM X.prog X.w X.K X.mg X.base cl k c m G) (hr : Rm j X.A) (hk : k + 3 ≤ j) (hg : Gl X "list") (hmg : X.mg "list" = none) (ho : JE X cl W o Fo)
    (ht : eval (.Call (.Attribute o m apos) [] [] pos') X.env = (do
      let ov ← eval o X.env
      standAt apos.atName
      let (f, first) ← holding [ov] (getMethod ov m pl)
      callWith pos' f first (backTo pos' (starEach [] X.env)) (backToKw pos' (keywordEach [] X.env))) := by rfl)
    (he : starEach [.Call (.Attribute o m apos) [] [] pos'] X.env = (false, eval (.Call (.Attribute o m apos) [] [] pos') X.env) :: starEach [] X.env := by rfl) :
    JE X cl W (.Call (.Name "list" p) [.Call (.Attribute o m apos) [] [] pos'] [] pos) (fListG c m G Fo) := by
  refine ⟨fun τ s Q Q' E E' hq hE h => ho.mon _ _ _ _ _ _ (fun x s1 h1 => ?_) hE h, ⟨fun pins sh σ H Q I h => ?_⟩⟩
  · split at h1
    · exact ⟨h1.1, h1.2.1, h1.2.2.mon fun outs s2 q => hq _ _ q⟩
    · exact h1
  obtain ⟨Z, τ, s, re, so, h⟩ := h
  have h' : tT X.K cl W Fo σ H fun x H1 => ∃ dx fs a, x = .ref a ∧ H1 a = some (.ins (cl c) dx fs) ∧ fs.lookup m = none ∧ spGn X.K cl G [.ref a] H1 (fun ys H2 => ∀ b, H2 b = none → Q (.ref b) (upd H2 b (.lst ys))) noXK := by
    refine go ho.mon re so h (fun tx s1 x H1 p1 f1 re1 r1 so1 => ?_) fun _ _ q => q
    split at p1
    · rename_i c' fs e1
      obtain ⟨rfl, l, hG⟩ := p1
      obtain ⟨a, dx, fvs, rfl, h1, rf⟩ := obj_of so1 r1 e1
      refine ⟨dx, fvs, a, rfl, h1, rf.lookup0 l, rfl, Z, [tx], s1, .cons r1 .nil, so1, hG.mon fun outs s2 q ys H2 f2 r2 so2 b hb => ?_⟩
      exact q _ _ (f1.trans (f2.trans (Fut.new hb))) (.lst upd_same (so2.nomut hb) (r2.fut (Fut.new hb))) (so2.new hb)
    · exact p1.elim
  obtain ⟨f, fd, ps, hcl, hm, F, b⟩ := d.ex
  refine wpAny_Call_Name_kw (ld_blt I hg hmg boot_list ?_ (by decide) (by decide))
  refine PyProof.Rows.callWith_type1 ?_ he rfl
  rw [he]
  show wpAny _ _ (spliced ((false, eval (.Call (.Attribute o m apos) [] [] pos') X.env) :: backTo pos (starEach [] X.env))) _ _ sh
  have made : wpAny (model X.prog X.w) X.A (eval (.Call (.Attribute o m apos) [] [] pos') X.env) (fun u s1 => ∃ H1 sc, Inv X pins σ H1 sc ∧ GMd X.prog X.w k X.stack H1 sc (fun ys H2 => ∀ b, H2 b = none → Q (.ref b) (upd H2 b (.lst ys))) noXK u s1) X.xe sh := by
    refine PySem.W.methodCall_KW (pl := pl) (thn (ho.pe.run pins sh σ H _ I h') ?_) ht
    rintro u s1 ⟨x, H1, I1, rx, dx, fs, a, rfl, ea, l, q⟩
    cases rx
    refine getmeth_ok I1 ea hcl hm l ?_
    refine PySem.W.callWith_K0 (first := [.ref a]) I1.kIn hm.kp ?_
    have len1 : ([Value.ref a] ++ []).length = ps.length := F.len _ _ _ _ q
    refine wpAny_call (codeAny_mono (F.run X.A X.stack s1 H1 ⟨[.ref a], []⟩ [.ref a] [.ref a] _ _ (hr.mono (by omega)) I1.env0 (by have := b s1 [.ref a] I1.kIn len1; rwa [List.append_nil] at this) (.cons rfl .nil) q) ?_)
    rintro r s' ⟨u, rfl, hG⟩
    exact ⟨H1, s1, I1, hG⟩
  refine Calls.spliced_cons (thn made fun u s1 ⟨H1, sc, I1, hG⟩ => Calls.spliced_nil ?_)
  have big : sc.heap.objs.size ≤ s1.heap.objs.size := by
    obtain ⟨a, g, c, _, ⟨h1, h2⟩, _⟩ := hG
    exact Nat.le_of_lt (Nat.lt_of_le_of_lt h1 h2)
  refine list_gmd (hr.mono hk) I1.ok.frames hG fun S s' acc cc H' ys q0 q1 q2 q3 q4 q5 q6 q7 q8 q9 => ?_
  exact ⟨.ref S, upd H' S (.lst ys), I1.drained (Nat.le_trans big q0) q3 q1 q2 ExOk.nil q4 q5 q6 q7 q8, rfl, q9 S q8⟩
end
theorem rows_madeMtP : True := by
  have := @Mr.fListG.eq_1
  trivial
end Mr
namespace Mr
open PySem PySem.Spec PyProof.Rows L2 Tw
section
variable {X : Cx} {cl : CL} {W : WX} {k j cc : Nat} {D : FD} {o i : Expr} {pos : Pos} {Fo Fi : FE}
/-- o[i], o an instance -/
def fIxO (cc : Nat) (D : FD) (Fo Fi : FE) : FE := fun τ s Q E => Fo τ s (fun x s1 => kObj cc s1 x (Fi τ s1 (fun y s2 => kObj cc s2 x (cM D [x, y] s2 Q E)) E)) E
theorem mon_ixO (ma : MonE Fo) (mb : MonE Fi) : MonE (fIxO cc D Fo Fi) := fun τ s Q Q' E E' hq he h => ma _ _ _ _ _ _ (fun x s1 h1 => h1.mon fun q => mb _ _ _ _ _ _ (fun ts s2 h2 => h2.mon fun q => q.mon hq he) he q) he h
theorem ixO_go {σ : L2.St} {H : Hp} {Q : VK} (ma : MonE Fo) (mb : MonE Fi) (h : tT X.K cl W (fIxO cc D Fo Fi) σ H Q) :
    tT X.K cl W Fo σ H fun y H1 => ∃ a, y = .ref a ∧ tT X.K cl W Fi σ H1 fun v H2 => (∃ dx fs, H2 a = some (.ins (cl cc) dx fs)) ∧ spM X.K cl D [.ref a, v] H2 Q (fun c d H' => W c d σ H') := by
  obtain ⟨Z, τ, s, re, so, h⟩ := h
  refine go ma re so h (fun tx s1 x H1 p1 f1 re1 r1 so1 => ?_) fun _ _ q => q
  obtain ⟨a, dx, fvs, rfl, h2, p⟩ := p1.get so1 r1
  refine ⟨a, rfl, go mb re1 so1 p (fun t s2 v H2 p2 f2 re2 r2 so2 => ?_) fun _ _ q => postW.up f1 q⟩
  have r1' := r1.fut f2
  obtain ⟨a', dx2, fvs2, e2, h3, p3⟩ := p2.get so2 r1'
  cases e2
  exact ⟨⟨dx2, fvs2, h3⟩, Z, [tx, t], s2, .cons r1' (.cons r2 .nil), so2, p3.mon (fun _ _ q => post.up (f1.trans f2) q) fun _ _ q => postX.up (f1.trans f2) q⟩
theorem je_ixO (tk : Takes X W) (d : MetM X.prog X.w X.K X.mg X.base cl k cc "__getitem__" D []) (gi : ∀ f, PySem.W.findIn X.K (.ref (cl cc)) "__getitem__" = some (some (.ref f)) → PySem.W.fnIn X.K f = true) (hr : Rm (j + 1) X.A) (hk : k ≤ j) (ho : JE X cl W o Fo) (hi : JE X cl W i Fi)
    (hsl : ∀ a u, subscripted i true (.ref a) u = runValue (.builtin "lifetime.subscript" ⟨[.ref a, u], []⟩) := by intro _ _; rfl) : JE X cl W (.Subscript o i pos) (fIxO cc D Fo Fi) := by
  obtain ⟨dvs, d, hd⟩ := d.ex
  obtain rfl := no_dvs hd
  refine ⟨mon_ixO ho.mon hi.mon, ⟨fun pins s σ H Q I h => ?_⟩⟩
  refine Subscript_ (thn (ho.pe.run pins s σ H _ I (ixO_go ho.mon hi.mon h)) ?_)
  rintro u s1 ⟨x, H1, I1, rx, a, rfl, q⟩
  cases rx
  refine thn (hi.pe.run pins s1 σ H1 _ I1 q) ?_
  rintro v s2 ⟨y, H2, I2, ry, ⟨dx, fs, hh⟩, q2⟩
  obtain ⟨f, fd, ps, ds, hc, me, F, bd, dv⟩ := d.ex
  obtain ⟨mA, J, _⟩ := ins_get I2.hok hh
  obtain ⟨od, J, _⟩ := J.look
  obtain ⟨mm, hF⟩ := I2.fr
  exact PySem.W.sub_K hF I2.ok.mod.kin J me.at_ (gi f me.at_) me.fn (goG (us := [.ref a, v]) (vs := [.ref a, y]) (dvs := []) F ((hr.in1).mono hk) rfl bd dv (pass_tk tk) I2 (.cons rfl (.cons ry .nil)) (by rw [List.append_nil]; exact q2)) (hsl a v)
end
/-- the draw's division, by a great number, too -/
theorem r_divL {H : Hp} {Q : VK} {i j : Int} (h0 : 0 < j) (h1 : j < 1606938044258990275541962092341162602522202993782792835301376) (h : Q (.int (i / j)) H) : rI CDivW (fun i j => .int (i / j)) (.int i) (.int j) H Q :=
  ⟨i, j, rfl, rfl, wide_div (b := 200) h0 (by omega) (by decide) (by decide), h⟩
theorem nodup_le {α : Type} [DecidableEq α] : ∀ {l ds : List α}, l.Nodup → (∀ x ∈ l, x ∈ ds) → l.length ≤ ds.length
  | [], _, _, _ => Nat.zero_le _
  | x :: r, ds, hn, h => by
    rw [List.nodup_cons] at hn
    have hx := h x List.mem_cons_self
    have := nodup_le (l := r) (ds := ds.erase x) hn.2 fun y hy => (List.mem_erase_of_ne fun e : y = x => hn.1 (e ▸ hy)).mpr (h y (List.mem_cons_of_mem _ hy))
    rw [List.length_erase_of_mem hx] at this
    have := List.length_pos_of_mem hx
    rw [List.length_cons]
    omega
theorem TxSet.cut {w : World} {h : Heap} {a : Addr} {l ds : List Str} {n : Nat} (R : TxSet w h a l n) (hd : ∀ k ∈ l, k ∈ ds) : TxSet w h a l ds.length := by
  obtain ⟨o, es, ep, t, h1, h2, h3, F, _⟩ := R
  refine ⟨o, es, ep, t, h1, h2, h3, F, ?_⟩
  have := nodup_le F.nd fun k hk => hd k ((F.mem k).mpr hk)
  rwa [List.length_map, Array.length_toList] at this
def FewS (xs : List Str) : Prop := xs.length < 4000 ∧ ∃ ds : List Str, ds.length < 64 ∧ ∀ k ∈ xs, k ∈ ds
def onTxsN (s : S) (x : T) (P : List Str → Prop) : Prop := match s.lst? x with | some ts => (match strsOf ts with | some xs => FewS xs ∧ P xs | none => False) | none => False
theorem onTxsN.mon {s : S} {x : T} {P P' : List Str → Prop} (h : ∀ xs, P xs → P' xs) (k : onTxsN s x P) : onTxsN s x P' := by
  unfold onTxsN at k ⊢
  split at k
  · split at k
    · exact ⟨k.1, h _ k.2⟩
    · exact k
  · exact k
def fSortSetN (Fa : FE) : FE := fun τ s Q E => Fa τ s (fun x s1 => onTxsN s1 x fun xs => ∀ ys, OnceIn xs ys → ys.length ≤ xs.length → Q (.lst (ys.map T.str)) s1) E
theorem rows_madeMtQ : True := by
  have := @Mr.fSortSetN.eq_1
  have := @Mr.fIxO.eq_1
  trivial
end Mr
namespace Mr
open PySem PySem.Spec PyProof.Rows L2 Tw
section
variable {X : Cx} {cl : CL} {W : WX} {e a b o : Expr} {es : List Expr} {F Fa Fb Fo : FE} {A : FA} {pos p apos : Pos} {x : Str} {k j : Nat} {D : FD} {dts : List T}
theorem JE.t (h : JE X cl W e F) : JEt X cl W e F := ⟨h.mon, fun pins s σ H Q _ I q => h.pe.run pins s σ H Q I q⟩
theorem PAT.imp {t t' : TA} (h : PAT X es t) (i : ∀ σ H Q, t' σ H Q → t σ H Q) : PAT X es t' := fun pos pins s σ H Q h0 I z => h pos pins s σ H Q h0 I (i σ H Q z)
theorem PET.imp {t t' : TE} (h : PET X e t) (i : ∀ σ H Q, t' σ H Q → t σ H Q) : PET X e t' := fun pins s σ H Q h0 I z => h pins s σ H Q h0 I (i σ H Q z)
/-- o.replace(y, z, 1): as it was, or z in the place of one y -/
def fRep1 (y z : Str) (Fo : FE) : FE := fun τ s Q E => Fo τ s (fun x s1 => match x with
  | .str w => w.length ≤ 1000000 ∧ ∀ r : Str, (r = w ∨ ∃ p q, w = p ++ y ++ q ∧ r = p ++ z ++ q) → Q (.str r) s1
  | _ => False) E
theorem rows_madeTR : True := by
  have := @Mr.fRep1.eq_1
  trivial
end
end Mr
namespace Mr
open PySem PySem.Spec PyProof.Rows L2 Tw
def fLenSet (Fa : FE) : FE := fun τ s Q E => Fa τ s (fun x s1 => match s1.lst? x with | some ts => (match strsOf ts with | some xs => xs.length < 1000 ∧ ∀ ys : List Str, ys.Nodup → (∀ k, k ∈ ys ↔ k ∈ xs) → Q (.int (ys.length : Int)) s1 | none => False) | none => False) E
section
variable {X : Cx} {cl : CL} {W : WX} {e : Expr} {Fa : FE} {p p2 q pos : Pos}
theorem rows_madeTS : True := by
  have := @Mr.fLenSet.eq_1
  trivial
end
end Mr
namespace Mr
open PySem PySem.Spec PyProof.Rows L2 Tw
end Mr
namespace Mr
open PySem PySem.Spec PyProof.Rows L2 Tw
section
variable {X : Cx} {cl : CL} {W : WX} {o e : Expr} {f : Str} {Fo Fa : FE} {pos pos' : Pos}
def gFld (cs : List Nat) (f : Str) (Fo : FE) : FG := fun t τ s Q => Fo τ s (fun y s2 => match y with | .cell a => (match s2.on a with | some (.obj c fs) => c ∈ cs ∧ fs.length < 1000 ∧ Q τ (s2.put a (.obj c (putT f t fs))) | _ => False) | _ => False) fun _ _ => False
variable {c1 c2 c3 : Str} {k1 k2 k3 : Nat} {p1 p2 p3 q1 q2 q3 : Pos} {body : List Stmt} {rest : List MatchCase} {B : FS} {M : Str → FS}
/-- the last case: a name -/
def mCap (i : Nat) (B : FS) : Str → FS := fun z τ s D => B (τ.set i (some (.str z))) s D
end
section
variable {X : Cx} {x y n : Str} {cx cy : Value} {i : Nat} {body s1 s2 : List Stmt} {b1 b2 : Stmt} {np nq p1 p2 pos : Pos} {tb : WX → TS} {t1 t2 : TS}
/-- the same on trees: the suites raise nothing -/
def fTry2 (ok1 ok2 : Nat → Prop) (i : Nat) (B S1 S2 : FS) : FS := fun τ s D => B τ s { D with xr := fun er τ1 s1 =>
  (ok1 er.c ∧ S1 (τ1.set i (some (.err er.c er.fs))) s1 { nx := fun τ2 s2 => D.nx (τ2.set i none) s2, rt := D.rt, bk := fun τ2 s2 => D.bk (τ2.set i none) s2, ct := fun τ2 s2 => D.ct (τ2.set i none) s2, xr := fun _ _ _ => False }) ∨ (ok2 er.c ∧ S2 τ1 s1 { D with xr := fun _ _ _ => False }) }
end
theorem rows_madeMtU : True := by
  have := @Mr.fTry2.eq_1
  have := @Mr.mCap.eq_1
  have := @Mr.gFld.eq_1
  trivial
end Mr
namespace Mr
open PySem PySem.Spec PyProof.Rows L2 Tw
noncomputable def fSortKS (A : FA) : FE := fun τ s Q E => A τ s (fun ts s1 => match ts with
  | [x] => (match s1.lst? x with | some xs => (match strsOf xs with | some zs => zs.length < 64 ∧ Q (.lst ((sortS zs).map T.str)) s1 | none => False) | none => False)
  | _ => False) E
theorem rows_madeMtV : True := by
  have := @Mr.fSortKS.eq_1
  trivial
end Mr
namespace Mr
open PySem PySem.Spec PyProof.Rows L2 Tw
section
variable {X : Cx} {cl : CL} {W : WX} {k j cc n : Nat} {D : FD} {e e2 fe : Expr} {es : List Expr} {Fa Fo : FE} {A Ak : FA} {pos pp p sp_ : Pos} {x : Str} {kws : List Keyword} {ks : List Str} {gT : List T → List T → List T}
/-- f(k = v, ..), f an instance -/
def fOwnK (cc n mm : Nat) (D : FD) (gT : List T → List T → List T) (Fa : FE) (Ak : FA) : FE := fun τ s Q E => Fa τ s (fun x s1 => kObj cc s1 x (Ak τ s1 (fun us s2 => (1 = n ∧ us.length = mm) ∧ kObj cc s2 x (cM D (gT [x] us) s2 Q E)) E)) E
end
theorem rows_madeMtW : True := by
  have := @Mr.fOwnK.eq_1
  trivial
end Mr
namespace Mr
open PySem PySem.Spec PyProof.Rows L2 Tw
section
variable {X : Cx} {cl : CL} {W : WX} {k j c : Nat} {fn : Str} {e tg : Expr} {Fa : FE}
def iRow (c : Nat) (fn : Str) (Fa : FE) : FI := fun τ s Q E => Fa τ s (fun x s1 => match s1.enum? c fn x with | some ts => Q ts (fun _ => True) s1 | none => False) E
end
section
variable {X : Cx} {cl : CL} {W : WX} {e : Expr} {es : List Expr} {pos p : Pos} {A : FA} {x : Str} {k j cc : Nat} {fn : Str} {D : FD}
def fListO (cc : Nat) (fn : Str) (D : FD) (A : FA) : FE := fun τ s Q E => A τ s (fun ts s1 => match ts with
  | [x] => (match s1.obj? x with
    | some (c, fs) => c = cc ∧ (match fs.lookup fn with | some (.lst us) => cM D [x] s1 (fun t s2 => t = .int (us.length : Int) ∧ Q (.lst us) s2) noX | _ => False)
    | none => False)
  | _ => False) E
end
section
variable {X : Cx} {cl : CL} {W : WX} {es : List Expr} {A : FA} {pos : Pos}
/-- (*xs, ..): a long tuple -/
def fTupB (A : FA) : FE := fun τ s Q E => A τ s (fun ts s1 => ts.length ≤ 1000000 ∧ Q (.tup ts) s1) E
end
theorem rows_madeMtX : True := by
  have := @Mr.iRow.eq_1
  have := @Mr.fListO.eq_1
  have := @Mr.fTupB.eq_1
  trivial
end Mr
namespace Mr
open PySem PySem.Spec PyProof.Rows L2 Tw
def fEith (F G : FE) : FE := fun τ s Q E => F τ s Q E ∨ G τ s Q E
section
variable {X : Cx} {cl : CL} {W : WX} {o e : Expr} {es : List Expr} {Fo : FE} {A : FA} {pos apos : Pos}
def onCntB (s : S) (x : T) (ts : List T) (Q : KT) : Prop := match s.lst? x with
  | some xs => (match ts with | [.bl k] => (match bools xs with | some is => Q (.int ((is.count k : Nat) : Int)) s | none => False) | _ => False)
  | none => False
theorem onCntB.mon {s : S} {x : T} {ts : List T} {Q Q' : KT} (i : ∀ t s, Q t s → Q' t s) (h : onCntB s x ts Q) : onCntB s x ts Q' := by
  unfold onCntB at h ⊢
  split at h
  · split at h
    · split at h
      · exact i _ _ h
      · exact h
    · exact h
  · exact h
def fCountB (Fo : FE) (A : FA) : FE := fun τ s Q E => Fo τ s (fun x s1 => (s1.lst? x).isSome = true ∧ A τ s1 (fun ts s2 => onCntB s2 x ts Q) E) E
end
theorem rows_madeMtY : True := by
  have := @Mr.fEith.eq_1
  have := @Mr.fCountB.eq_1
  trivial
end Mr
namespace Mr
open PySem PySem.Spec PyProof.Rows L2 Tw
section
variable {X : Cx} {cl : CL} {W : WX} {e : Expr} {es : List Expr} {A Ak : FA} {pos p pp apos : Pos} {x m : Str} {k j n c : Nat} {D : FD} {kws : List Keyword} {ks : List Str} {gT : List T → List T → List T}
/-- C.m(k = v, ..), m static -/
def fStaK (n mm : Nat) (D : FD) (gT : List T → List T → List T) (Ak : FA) : FE := fun τ s Q E => Ak τ s (fun us s2 => (0 = n ∧ us.length = mm) ∧ cM D (gT [] us) s2 Q E) E
end
theorem rows_madeMtZ : True := by
  have := @Mr.fStaK.eq_1
  trivial
end Mr
namespace Mr
open PySem PySem.Spec PyProof.Rows L2 Tw GenW
section
variable {X : Cx} {test : Expr} {st : Stmt} {body orelse sts : List Stmt} {pos : Pos} {tc : TT} {t t' u : TGn}
theorem GS.imp (h : GS X st t) (i : ∀ D ys σ H, t' D ys σ H → t D ys σ H) : GS X st t' := ⟨fun A S ip R n ys s0 c fs K J gd lv s σ H D gc hn gk hI ht => h.run A S ip R n ys s0 c fs K J gd lv s σ H D gc hn gk hI (i _ _ _ _ ht)⟩
theorem GSs.imp (h : GSs X sts t) (i : ∀ D ys σ H, t' D ys σ H → t D ys σ H) : GSs X sts t' := ⟨fun A S ip R n ys s0 c fs K J gd lv s σ H D gc hn gk hI ht => h.run A S ip R n ys s0 c fs K J gd lv s σ H D gc hn gk hI (i _ _ _ _ ht)⟩
end
structure DG where
  nx : List T → Env → S → Prop
  rt : List T → S → Prop
  bk : List T → Env → S → Prop
  ct : List T → Env → S → Prop
structure DG.Le (D D' : DG) : Prop where
  nx : ∀ o τ s, D.nx o τ s → D'.nx o τ s
  rt : ∀ o s, D.rt o s → D'.rt o s
  bk : ∀ o τ s, D.bk o τ s → D'.bk o τ s
  ct : ∀ o τ s, D.ct o τ s → D'.ct o τ s
abbrev FGS := List T → Env → S → DG → Prop
def MonG (F : FGS) : Prop := ∀ o τ s (D D' : DG), D.Le D' → F o τ s D → F o τ s D'
section
variable (K : PySem.W.Frag) (cl : CL)
def postGE (Z : Addr → Prop) (s : S) (H : Hp) (Q : List V → L2.St → Hp → Prop) : List T → Env → S → Prop := fun o τ s' => ∀ ys σ H', Fut s H s' H' → REnv K cl Z s' H' σ τ → Sto K cl Z s' H' → Reps K cl Z s' H' ys o → Q ys σ H'
def postG (Z : Addr → Prop) (s : S) (H : Hp) (D : GEnds) : DG := ⟨postGE K cl Z s H D.nx, fun o s' => ∀ ys H', Fut s H s' H' → Sto K cl Z s' H' → Reps K cl Z s' H' ys o → D.rt ys .non H', postGE K cl Z s H D.bk, postGE K cl Z s H D.ct⟩
def tTGn (F : FGS) : TGn := fun D ys σ H => ∃ Z τ s o, REnv K cl Z s H σ τ ∧ Sto K cl Z s H ∧ Reps K cl Z s H ys o ∧ F o τ s (postG K cl Z s H D)
end
structure JY (X : Cx) (cl : CL) (st : Stmt) (F : FGS) : Prop where
  mon : MonG F
  gs : GS X st (tTGn X.K cl F)
structure JYs (X : Cx) (cl : CL) (sts : List Stmt) (F : FGS) : Prop where
  mon : MonG F
  gss : GSs X sts (tTGn X.K cl F)
section
variable {K : PySem.W.Frag} {cl : CL} {Z : Addr → Prop} {s s1 s2 : S} {H H1 : Hp} {D : GEnds}
theorem postGE.up {QE : List V → L2.St → Hp → Prop} {o : List T} {τ : Env} (f : Fut s H s1 H1) (h : postGE K cl Z s H QE o τ s2) : postGE K cl Z s1 H1 QE o τ s2 := fun ys σ H' f' r so ro => h ys σ H' (f.trans f') r so ro
theorem postG.up (f : Fut s H s1 H1) : DG.Le (postG K cl Z s H D) (postG K cl Z s1 H1 D) := ⟨fun _ _ _ => postGE.up f, fun _ _ q ys H' f' so ro => q ys H' (f.trans f') so ro, fun _ _ _ => postGE.up f, fun _ _ _ => postGE.up f⟩
theorem DG.Le.refl (D : DG) : D.Le D := ⟨fun _ _ _ q => q, fun _ _ q => q, fun _ _ _ q => q, fun _ _ _ q => q⟩
end
abbrev noW : WX := fun cls d _ H' => noXK cls d H'
section
variable {X : Cx} {cl : CL} {e c tg iter : Expr} {F Fe : FE} {G : FT} {st : Stmt} {sts ss ts : List Stmt} {B : FS} {C1 C2 : FGS} {pos yp : Pos} {I : FI} {g : FG}
def fG0 : FGS := fun o τ s D => D.nx o τ s
theorem jys_nil : JYs X cl [] fG0 := by
  refine ⟨fun o τ s D D' le h => le.nx _ _ _ h, GSs.imp gss_nil ?_⟩
  rintro D ys σ H ⟨Z, τ, s, o, re, so, ro, h⟩
  exact h ys σ H (Fut.refl _ _) re so ro
def fGThen (C1 C2 : FGS) : FGS := fun o τ s D => C1 o τ s { D with nx := fun o' τ' s' => C2 o' τ' s' D }
theorem jys_cons (h1 : JY X cl st C1) (h2 : JYs X cl sts C2) : JYs X cl (st :: sts) (fGThen C1 C2) := by
  refine ⟨fun o τ s D D' le h => ?_, GSs.imp (gss_cons h1.gs h2.gss) ?_⟩
  · refine h1.mon _ _ _ _ _ ?_ h
    exact ⟨fun _ _ _ q => h2.mon _ _ _ _ _ le q, le.rt, le.bk, le.ct⟩
  rintro D ys σ H ⟨Z, τ, s, o, re, so, ro, h⟩
  refine ⟨Z, τ, s, o, re, so, ro, h1.mon _ _ _ _ _ ?_ h⟩
  refine ⟨fun o' τ' s' q ys' σ' H' f re' so' ro' => ?_, fun _ _ q => q, fun _ _ _ q => q, fun _ _ _ q => q⟩
  exact ⟨Z, τ', s', o', re', so', ro', h2.mon _ _ _ _ _ (postG.up f) q⟩
/-- a statement that hands out nothing -/
def fGPl (B : FS) : FGS := fun o τ s D => B τ s ⟨D.nx o, fun t s1 => t = .non ∧ D.rt o s1, D.bk o, D.ct o, fun _ _ _ => False⟩
theorem mon_gpl (m : MonS B) : MonG (fGPl B) := by
  intro o τ s D D' le h
  refine m _ _ _ _ ?_ h
  exact ⟨fun _ _ q => le.nx _ _ _ q, fun _ _ q => ⟨q.1, le.rt _ _ q.2⟩, fun _ _ q => le.bk _ _ _ q, fun _ _ q => le.ct _ _ _ q, fun _ _ _ q => q⟩
theorem gpl_go {D : GEnds} {ys : List V} {σ : L2.St} {H : Hp} (m : MonS B) (h : tTGn X.K cl (fGPl B) D ys σ H) : tTS X.K cl noW B (D.at ys) σ H := by
  obtain ⟨Z, τ, s, o, re, so, ro, h⟩ := h
  refine ⟨Z, τ, s, re, so, m _ _ _ _ ?_ h⟩
  refine ⟨fun τ' s' q σ' H' f re' so' => q ys σ' H' f re' so' (ro.fut f), fun t s' q v H' f r so' => ?_, fun τ' s' q σ' H' f re' so' => q ys σ' H' f re' so' (ro.fut f), fun τ' s' q σ' H' f re' so' => q ys σ' H' f re' so' (ro.fut f), fun _ _ _ q => q.elim⟩
  obtain ⟨rfl, q⟩ := q
  cases r
  exact q ys H' f so' (ro.fut f)
theorem jy_pl (h : JS X cl noW st B) : JY X cl st (fGPl B) := ⟨mon_gpl h.mon, GS.imp (gs_ps h.ps) fun _ _ _ _ q => gpl_go h.mon q⟩
def fYield (Fe : FE) : FGS := fun o τ s D => o.length < 1000000 ∧ Fe τ s (fun v s1 => D.nx (o ++ [v]) τ s1) (fun _ _ => False)
theorem jy_yield (he : JE X cl noW e Fe) (hco : X.env.scope.isCoroutine = false := by rfl) (hi : interactive X.env = false := by rfl) : JY X cl (.Expr (.Yield (some e) yp) pos) (fYield Fe) := by
  refine ⟨fun o τ s D D' le h => ⟨h.1, he.mon _ _ _ _ _ _ (fun _ _ q => le.nx _ _ _ q) (fun _ _ q => q) h.2⟩, GS.imp (gs_yield he.pe hco hi) ?_⟩
  rintro D ys σ H ⟨Z, τ, s, o, re, so, ro, hl, h⟩
  refine ⟨Nat.lt_of_lt_of_le (by rw [ro.length]; exact hl) size6, go he.mon re so h (fun tx s1 v H1 p1 f1 re1 r1 so1 => ?_) fun _ _ q => q.elim⟩
  exact p1 _ σ H1 f1 re1 so1 (Reps.append (ro.fut f1) (.cons r1 .nil))
def fGIf (G : FT) (C1 C2 : FGS) : FGS := fun o τ s D => G τ s (fun b s1 => if b = true then C1 o τ s1 D else C2 o τ s1 D) (fun _ _ => False)
/-- the turns of a for -/
def genL (ok : S → Prop) (g : FG) (C : FGS) : List T → List T → Env → S → DG → Prop
  | [], o, τ, s, D => ok s ∧ D.nx o τ s
  | t :: ts, o, τ, s, D => ok s ∧ g t τ s fun τ1 s1 => C o τ1 s1 { nx := fun o' τ' s' => genL ok g C ts o' τ' s' D, ct := fun o' τ' s' => genL ok g C ts o' τ' s' D, bk := D.nx, rt := D.rt }
def fGFor (I : FI) (g : FG) (C : FGS) : FGS := fun o τ s D => I τ s (fun xs ok s1 => genL ok g C xs o τ s1 D) (fun _ _ => False)
end
section
variable {X : Cx} {cl : CL} {W : WX} {e : Expr} {es : List Expr} {A : FA} {G : FGn} {k j : Nat} {x : Str} {p px pos pos' : Pos}
def fListGF (G : FGn) (A : FA) : FE := fun τ s Q E => A τ s (fun ts s1 => cG G ts s1 (fun outs s2 => Q (.lst outs) s2)) E
end
mutual
def T.datC (s : S) : T → Option PyData
  | .non => some .none
  | .bl b => some (.bool b)
  | .int i => some (.int i)
  | .str z => some (.str z)
  | .lst xs => (datsC s xs).map .list
  | .tup xs => (datsC s xs).map .tuple
  | .cell a => match s.on a with | some (.lst xs) => (datsX xs).map .list | _ => none
  | _ => none
def datsC (s : S) : List T → Option (List PyData)
  | [] => some []
  | x :: xs => match x.datC s, datsC s xs with | some d, some ds => some (d :: ds) | _, _ => none
end
def reprC : ON
  | s, [x] => match x.datC s with | some d => some (okR d = true ∧ d.showable = true ∧ d.depth ≤ 60 ∧ d.shown.length ≤ 1000000, .str d.shown) | none => none
  | _, _ => none
theorem rows_madeMuA : True := by
  have := @Mr.fListGF.eq_1
  have := @Mr.fGFor.eq_1
  have := @Mr.fGIf.eq_1
  have := @Mr.fYield.eq_1
  have := @Mr.fGPl.eq_1
  have := @Mr.fGThen.eq_1
  have := @Mr.fG0.eq_1
  have := @Mr.genL.eq_1
  have := @Mr.genL.eq_2
  have := @Mr.reprC.eq_1
  trivial
end Mr
namespace Mr
open PySem PySem.Spec PyProof.Rows L2 Tw
section
variable {X : Cx} {cl : CL} {W : WX} {e o : Expr} {es : List Expr} {Fa Fo Fe : FE} {A : FA} {pos p apos cpos : Pos} {j : Nat}
/-- d.get(k) -/
def fGet1 (Fo Fe : FE) : FE := fun τ s Q E => Fo τ s (fun x s1 => (s1.dct? x).isSome = true ∧ Fe τ s1 (fun y s2 => match s2.dct? x, y.key? with
  | some kvs, some k => Q ((valT kvs k).getD .non) s2
  | _, _ => False) E) E
def fListK (d : Addr) (tab : List (Str × T)) (A : FA) : FE := fun τ s Q E => A τ s (fun ts s1 => match ts with | [.cell c] => c = d ∧ Q (.lst (tab.map fun p => .str p.1)) s1 | _ => False) E
end
theorem rows_madeMuB : True := by
  have := @Mr.fGet1.eq_1
  have := @Mr.fListK.eq_1
  trivial
end Mr
namespace Mr
open PySem PySem.Spec PyProof.Rows L2 Tw
section
variable {X : Cx} {cl : CL} {W : WX} {a b e o : Expr} {Fa Fb Fo Fi : FE} {pos pos' : Pos} {j : Nat}
/-- pen[k] -/
def gPen (cl : CL) : S → T → T → KT → KX → Prop := fun s x y Q _ => match x, y with
  | .pen, .str z => if z = Str.ofString "cells" then cl.ns.length ≤ 63 → Q (.lst (cl.ns.map .int)) s else if z = Str.ofString "at" then ∀ i : Int, 0 ≤ i → i ≤ s.pen → Q (.int i) s else if z = Str.ofString "left" then ∀ i : Int, Q (.int i) s else False
  | _, _ => False
def penW (s3 : S) (x y t : T) (N : S → Prop) : Prop := match x, y, t with
  | .pen, .str z, .int i => if z = Str.ofString "at" then 0 ≤ i ∧ i ≤ s3.pen + 1 ∧ N (s3.pn (s3.pen + 1)) else if z = Str.ofString "left" then N s3 ∨ N (s3.pn (s3.pen + 1)) else False
  | _, _, _ => False
/-- pen[k] = v -/
def fPenPut (Fo Fi Fa : FE) : FS := fun τ s D => Fa τ s (fun t s1 => Fo τ s1 (fun x s2 => Fi τ s2 (fun y s3 => penW s3 x y t (D.nx τ)) (xk τ D)) (xk τ D)) (xk τ D)
end
section
variable {X : Cx} {cl : CL} {W : WX} {o e : Expr} {Fo Fi : FE} {pos : Pos}
/-- xs[i] = .. -/
def gSubL (Fo Fi : FE) : FG := fun t τ s Q => Fo τ s (fun x s1 => Fi τ s1 (fun y s2 => match x, y with
  | .cell a, .int i => (match s2.on a with | some (.lst xs) => (match ixN xs.length i with | some j => Q τ (s2.put a (.lst (xs.set j t))) | none => False) | _ => False)
  | _, _ => False) fun _ _ => False) fun _ _ => False
end
theorem rows_madeMuC : True := by
  have := @Mr.gPen.eq_1
  have := @Mr.fPenPut.eq_1
  have := @Mr.gSubL.eq_1
  trivial
end Mr
namespace Mr
open PySem PySem.Spec PyProof.Rows L2 Tw GenW
section
variable {X : Cx} {cl : CL} {c : Expr} {G : FT} {sts : List Stmt} {C1 : FGS} {pos : Pos}
def whY (G : FT) (C : FGS) : Nat → List T → Env → S → DG → Prop
  | 0, _, _, _, _ => False
  | m + 1, o, τ, s, D => G τ s (fun b s1 => if b = true then C o τ s1 { nx := fun o2 τ2 s2 => whY G C m o2 τ2 s2 D, ct := fun o2 τ2 s2 => whY G C m o2 τ2 s2 D, bk := D.nx, rt := D.rt } else D.nx o τ s1) (fun _ _ => False)
def fGWh (G : FT) (C : FGS) : FGS := fun o τ s D => ∃ m, whY G C m o τ s D
theorem mon_whY (mG : MonT G) (mC : MonG C1) : ∀ (m : Nat) (o : List T) (τ : Env) (s : S) (D D' : DG), D.Le D' → whY G C1 m o τ s D → whY G C1 m o τ s D'
  | 0, _, _, _, _, _, _, h => h
  | m + 1, o, τ, s, D, D', le, h => by
    refine mG _ _ _ _ _ _ (fun b s1 q => w_ite q (fun q => ?_) (le.nx _ _ _)) (fun _ _ q => q) h
    refine mC _ _ _ _ _ ?_ q
    exact ⟨fun _ _ _ q => mon_whY mG mC m _ _ _ _ _ le q, le.rt, le.nx, fun _ _ _ q => mon_whY mG mC m _ _ _ _ _ le q⟩
theorem jy_wh (hp : PassesOwn (model X.prog X.w) X.A X.env X.xe) (hc : JT X cl noW c G) (hb : JYs X cl sts C1) : JY X cl (.While c sts [] pos) (fGWh G C1) := by
  refine ⟨fun o τ s D D' le ⟨m, h⟩ => ⟨m, mon_whY hc.mon hb.mon m _ _ _ _ _ le h⟩, GS.imp (gs_while hp hc.pt hb.gss) ?_⟩
  rintro D ys σ H ⟨Z, τ, s, o, re, so, ro, m, h⟩
  refine ⟨fun m ys' σ' H' => ∃ τ' s' o', Fut s H s' H' ∧ REnv X.K cl Z s' H' σ' τ' ∧ Sto X.K cl Z s' H' ∧ Reps X.K cl Z s' H' ys' o' ∧ whY G C1 m o' τ' s' (postG X.K cl Z s H D), ⟨m, τ, s, o, Fut.refl _ _, re, so, ro, h⟩, ?_⟩
  rintro m ys' σ' H' ⟨τ', s', o', f', re', so', ro', h'⟩
  cases m with
  | zero => exact h'.elim
  | succ m =>
    refine goT hc.mon re' so' h' (fun b s1 H1 p1 f1 re1 so1 => w_ite p1 (fun q => ?_) fun q => q _ σ' H1 (f'.trans f1) re1 so1 (ro'.fut f1)) fun _ _ q => q.elim
    refine ⟨fun ys2 σ2 H2 => ∃ τ2 s2 o2, Fut s H s2 H2 ∧ REnv X.K cl Z s2 H2 σ2 τ2 ∧ Sto X.K cl Z s2 H2 ∧ Reps X.K cl Z s2 H2 ys2 o2 ∧ whY G C1 m o2 τ2 s2 (postG X.K cl Z s H D), fun ys2 σ2 H2 q2 => ⟨m, Nat.lt_succ_self m, q2⟩, ?_⟩
    have fu := f'.trans f1
    refine ⟨Z, τ', s1, o', re1, so1, ro'.fut f1, hb.mon _ _ _ _ _ ?_ q⟩
    exact ⟨fun o4 τ4 s4 q4 ys4 σ4 H4 f4 re4 so4 ro4 => ⟨τ4, s4, o4, fu.trans f4, re4, so4, ro4, q4⟩, fun o4 s4 q4 ys4 H4 f4 so4 ro4 => q4 ys4 H4 (fu.trans f4) so4 ro4, fun o4 τ4 s4 q4 ys4 σ4 H4 f4 re4 so4 ro4 => q4 ys4 σ4 H4 (fu.trans f4) re4 so4 ro4, fun o4 τ4 s4 q4 ys4 σ4 H4 f4 re4 so4 ro4 => ⟨τ4, s4, o4, fu.trans f4, re4, so4, ro4, q4⟩⟩
theorem whY_fuel {G : FT} {C : FGS} {o : List T} {τ : Env} {s : S} {D : DG} (I : Nat → List T → Env → S → Prop) {n : Nat} (h0 : I n o τ s)
    (hs : ∀ n o τ s (N : List T → Env → S → Prop), I n o τ s → (∀ m o2 τ2 s2, m < n → I m o2 τ2 s2 → N o2 τ2 s2) → G τ s (fun b s1 => if b = true then C o τ s1 { nx := N, ct := N, bk := D.nx, rt := D.rt } else D.nx o τ s1) (fun _ _ => False)) : fGWh G C o τ s D := by
  have main : ∀ (m n : Nat) (o : List T) (τ : Env) (s : S), I n o τ s → n < m → whY G C m o τ s D := by
    intro m
    induction m with
    | zero => intro n o τ s _ h; exact absurd h (Nat.not_lt_zero _)
    | succ m ih => intro n o τ s h hm; exact hs n o τ s (fun o2 τ2 s2 => whY G C m o2 τ2 s2 D) h fun n2 o2 τ2 s2 lt h2 => ih n2 o2 τ2 s2 h2 (by omega)
  exact ⟨n + 1, main _ n o τ s h0 (Nat.lt_succ_self _)⟩
end
section
variable {P : Program} {w : World} {K : PySem.W.Frag} {mg : Str → Option Value} {base : Heap} {cl : CL} {k c : Nat} {m qual : Str} {st : Stmt} {ps N : List Str} {G : FGn} {C : FGS}
/-- a generator method of any statements -/
theorem metGF (D : MetAt K (cl c) m qual st ps []) (hS : GScope N ps (C8.fnScope st)) (len : ∀ ts s Q, G ts s Q → ts.length = ps.length)
    (hB : ∀ (f : Addr) (cdv : Value) (A : Around) (out : List PySem.Env) (s : Shared) (H : Hp) (pn : List (Addr × Obj)), Rm k (A.deeper (envOfC qual (C8.fnScope st) s.heap.objs.size f cdv)) →
      JYs (gcxOf P w K mg base N qual (C8.fnScope st) f cdv A out s H noXK pn) cl (C8.fnBody st) C)
    (hF : ∀ ts s Q, G ts s Q → C [] (startT N ts) s ⟨fun o _ s1 => Q o s1, Q, fun _ _ _ => False, fun _ _ _ => False⟩) : MetGM P w K mg base cl (k + 1) c m G := by
  obtain ⟨f, fd, ds, hc, hm, F, b, v⟩ := D.ex
  cases v
  obtain ⟨oc, od, dV, kV, doc, pm, an, cdv, ct, osl, rfl, lk, hcd⟩ := F.ex
  refine ⟨f, _, ps, hc, hm, gnG lk hcd hS ?len ?body, b⟩
  case len =>
    rintro vs H Q E ⟨_, Z, ts, s, r, _, Q0, h1, _⟩
    rw [r.length]
    exact len _ _ _ h1
  case body =>
    rintro A out s H vs Q E pn rm ⟨rfl, Z, ts, s1, r, so, Q0, h1, h2⟩
    have hb := hB f cdv A out s H pn rm
    refine ⟨_, hb.gss, Z, startT N ts, s1, [], RepE.start r, so, .nil, hb.mon _ _ _ _ _ ?_ (hF _ _ _ h1)⟩
    refine ⟨fun o τ s' q ys σ H' f re' so' ro => h2 _ _ q _ _ f ro so', fun o s' q ys H' f so' ro => ⟨rfl, h2 _ _ q _ _ f ro so'⟩, fun _ _ _ q => q.elim, fun _ _ _ q => q.elim⟩
end
def reprCL : ON
  | s, [x] => match x.datC s with | some d => some (okR d = true ∧ d.showable = true ∧ d.depth ≤ 60 ∧ d.shown.length ≤ 16000000, .str d.shown) | none => none
  | _, _ => none
theorem rows_madeMuD : True := by
  have := @Mr.fGWh.eq_1
  have := @Mr.reprCL.eq_1
  trivial
end Mr
namespace Mr
open PySem PySem.Spec PyProof.Rows L2 Tw
section
variable {X : Cx} {cl : CL} {W : WX} {a : Expr} {Fa : FE} {pos : Pos}
def xgMO (cs : List Nat) (f : Str) : O1 := fun _ x => match x with
  | .err k fs => match fs.lookup f with | some t => some (k ∈ cs, t) | none => none
  | _ => none
end
section
variable {X : Cx} {cl : CL} {es : List Expr} {n : Nat} {pos : Pos}
/-- a, b = a list of that length -/
def gLs (n : Nat) (gs : FGs) : FG := fun t τ s Q => match t with | .lst xs => xs.length = n ∧ gs xs τ s Q | _ => False
end
/-- is, is not: truths -/
def isBO : O2 := fun _ x y => match x, y with | .bl a, .bl b => some (True, .bl (a == b)) | _, _ => none
def isnBO : O2 := fun _ x y => match x, y with | .bl a, .bl b => some (True, .bl (a != b)) | _, _ => none
section
variable {X : Cx} {cl : CL} {W : WX}
theorem o_isB : OpT X cl W (compareOp .Is) (g2 isBO) := by
  refine OpT.pure (r := fun x y H Q => ∃ a b, x = .bl a ∧ y = .bl b ∧ Q (.bl (a == b)) H) ?_ fun Z H x y Q s tx ty c t px py so e hc p => ?_
  · intro pins s σ H x y v u Q I rx ry h
    obtain ⟨a, b, rfl, rfl, q⟩ := h
    cases rx
    cases ry
    exact is_bool (fin_bl I q rfl)
  · unfold isBO at e
    split at e
    · cases e
      cases px
      cases py
      exact ⟨_, _, rfl, rfl, p.here (.bl _) so⟩
    · cases e
theorem o_isnB : OpT X cl W (compareOp .IsNot) (g2 isnBO) := by
  refine OpT.pure (r := fun x y H Q => ∃ a b, x = .bl a ∧ y = .bl b ∧ Q (.bl (a != b)) H) ?_ fun Z H x y Q s tx ty c t px py so e hc p => ?_
  · intro pins s σ H x y v u Q I rx ry h
    obtain ⟨a, b, rfl, rfl, q⟩ := h
    cases rx
    cases ry
    exact isnot_bool (fin_bl I q rfl)
  · unfold isnBO at e
    split at e
    · cases e
      cases px
      cases py
      exact ⟨_, _, rfl, rfl, p.here (.bl _) so⟩
    · cases e
end
theorem rows_madeMuE : True := by
  have := @Mr.xgMO.eq_1
  have := @Mr.gLs.eq_1
  have := @Mr.isBO.eq_1
  have := @Mr.isnBO.eq_1
  trivial
end Mr
namespace Mr
open PySem PySem.Spec PyProof.Rows L2 Tw
end Mr
namespace L2
open PySem PySem.Spec PyProof.Rows HT
end L2
namespace Mr
open PySem PySem.Spec PyProof.Rows L2 Tw
section
variable {X : Cx} {cl : CL} {W : WX} {e : Expr} {Fa : FE} {p1 p2 p3 pos : Pos} {k : Nat}
def rev2 : T → Option T
  | .tup [a, b] => some (.tup [b, a])
  | _ => none
def fRev2 (Fa : FE) : FE := fun τ s Q E => Fa τ s (fun x s1 => match rev2 x with | some t => Q t s1 | none => False) E
end
end Mr
namespace Mr
open PySem PySem.Spec PyProof.Rows L2 Tw
end Mr
namespace Mr
open PySem PySem.Spec PyProof.Rows L2 Tw
section
variable {X : Cx} {x n : Str} {cx : Value} {i : Nat} {body s1 : List Stmt} {b1 : Stmt} {np p1 pos : Pos} {tb : WX → TS} {t1 : TS}
/-- the same on trees: the suite raises nothing -/
def fTry1 (ok1 : Nat → Prop) (i : Nat) (B S1 : FS) : FS := fun τ s D => B τ s { D with xr := fun er τ1 s1 =>
  (ok1 er.c ∧ S1 (τ1.set i (some (.err er.c er.fs))) s1 { nx := fun τ2 s2 => D.nx (τ2.set i none) s2, rt := D.rt, bk := fun τ2 s2 => D.bk (τ2.set i none) s2, ct := fun τ2 s2 => D.ct (τ2.set i none) s2, xr := fun _ _ _ => False }) }
end
theorem rows_madeMuF : True := by
  have := @Mr.fTry1.eq_1
  have := @Mr.fRev2.eq_1
  trivial
end Mr
namespace Mr
open PySem PySem.Spec PyProof.Rows L2 Tw
section
variable {X : Cx} {cl : CL} {W : WX} {e o : Expr} {Fa Fb : FE} {pos p apos : Pos} {j : Nat}
def onSpC (x y : T) (s : S) (Q : KT) : Prop := match x, y with
  | .str z, .str b => ((b.length == 0) = false ∧ z.length ≤ 1000000) ∧ ∀ a, s.on a = none → Q (.cell a) (s.put a (.lst ((Txt.split z b).map T.str)))
  | _, _ => False
theorem onSpC.mon {x y : T} {s : S} {Q Q' : KT} (hq : ∀ t s, Q t s → Q' t s) (h : onSpC x y s Q) : onSpC x y s Q' := by
  unfold onSpC at h ⊢
  split at h
  · exact ⟨h.1, fun a z => hq _ _ (h.2 a z)⟩
  · exact h
end
end Mr
namespace Mr
open PySem PySem.Spec PyProof.Rows L2 Tw RZ
section
variable {X : Cx} {cl : CL} {W : WX} {e e2 : Expr} {p pos tpos : Pos} {elts : List Expr} {kk : Nat} {A : FA}
def iZipL (A : FA) : FI := fun τ s Q E => A τ s (fun xs s1 => match xs with | [.lst ts, .lst us] => Q (zipT ts us) (fun _ => True) s1 | _ => False) E
end
theorem rows_madeMuG : True := by
  have := @Mr.iZipL.eq_1
  trivial
end Mr
namespace Mr
open PySem PySem.Spec PyProof.Rows L2 Tw RZ
section
variable {X : Cx} {cl : CL} {W : WX} {e e2 : Expr} {p pos tpos : Pos} {elts : List Expr} {kk : Nat} {A : FA}
def iZipN (A : FA) : FI := fun τ s Q E => A τ s (fun xs s1 => match xs with | [.lst ts, .tup us] => Q (zipT ts us) (fun _ => True) s1 | _ => False) E
end
theorem rows_madeMuH : True := by
  have := @Mr.iZipN.eq_1
  trivial
end Mr
namespace Mr
open PySem PyProof.Rows L2 GenW
open Sem (wp)
/-- the same to look at, but waking it ends nowhere -/
def psn : GenState → GenState
  | .suspended _ l c p fs cl => .suspended (fun _ => .unsupported "asleep") l c p fs cl
  | x => x
def Slp (G : GenState) : Prop := ∃ k l c p fs cl, G = .suspended k l c p fs cl
theorem psn_seen (G : GenState) : (psn G).seen = G.seen := by cases G <;> rfl
theorem psn_bare (G : GenState) : (psn G).bare = G.bare := by cases G <;> rfl
theorem runs_uns {M : Model} {Γ : PySem.Ctx} {p : Pos} {t : Sem PySem.Fin} {fs : List Frame} {s s' : Shared} {e : End} (h : Runs M Γ p t fs s e s') : ∀ z, t = .unsupported z → False := by
  induction h <;> intro z ez <;> first | (cases ez; done) | skip
  all_goals first | (rename_i ih _; exact ih z ez) | (rename_i ih; exact ih z ez)
/-- the sleepers put back -/
def unp (U : Nat → Option GenState) (s : Shared) : Shared := { s with gens := s.gens.mapIdx fun j x => (U j).getD x }
theorem unp_get (U : Nat → Option GenState) (s : Shared) (j : Nat) : (unp U s).gens[j]? = (s.gens[j]?).map fun x => (U j).getD x := by
  unfold unp
  exact Array.getElem?_mapIdx ..
theorem unp_size (U : Nat → Option GenState) (s : Shared) : (unp U s).gens.size = s.gens.size := by unfold unp; exact Array.size_mapIdx
theorem unp_none {U : Nat → Option GenState} {s : Shared} {j : Nat} {x : GenState} (h : s.gens[j]? = some x) (hU : U j = none) : (unp U s).gens[j]? = some x := by rw [unp_get, h, hU]; rfl
theorem unp_some {U : Nat → Option GenState} {s : Shared} {j : Nat} {x G : GenState} (h : s.gens[j]? = some x) (hU : U j = some G) : (unp U s).gens[j]? = some G := by rw [unp_get, h, hU]; rfl
theorem sg_get (s : Shared) (g j : Nat) (x : GenState) : (s.setGen g x).gens[j]? = if j = g ∧ g < s.gens.size then some x else s.gens[j]? := by
  show (s.gens.setIfInBounds g x)[j]? = _
  by_cases h : j = g
  · subst h
    by_cases hl : j < s.gens.size
    · rw [if_pos ⟨rfl, hl⟩]; simp [hl]
    · rw [if_neg (fun z => hl z.2), Array.setIfInBounds_eq_of_size_le (by omega)]
  · rw [if_neg (fun z => h z.1), Array.getElem?_setIfInBounds_ne (Ne.symm h)]
theorem shr_ext {s s' : Shared} (h1 : s.heap = s'.heap) (h2 : s.drawn = s'.drawn) (h3 : s.toks = s'.toks) (h4 : s.os = s'.os) (h5 : ∀ j : Nat, s.gens[j]? = s'.gens[j]?) : s = s' := by
  obtain ⟨a, b, c, d, e⟩ := s
  obtain ⟨a', b', c', d', e'⟩ := s'
  cases h1; cases h2; cases h3; cases h4
  have : b = b' := Array.ext_getElem? h5
  rw [this]
theorem unp_set {U : Nat → Option GenState} {s : Shared} {j : Nat} {x : GenState} (hU : U j = none) : unp U (s.setGen j x) = (unp U s).setGen j x := by
  refine shr_ext rfl rfl rfl rfl fun i => ?_
  rw [unp_get, sg_get, sg_get, unp_get, unp_size]
  by_cases h : i = j ∧ j < s.gens.size
  · rw [if_pos h, if_pos h, h.1, hU]; rfl
  · rw [if_neg h, if_neg h]
theorem push_get (a : Array GenState) (x : GenState) (j : Nat) : (a.push x)[j]? = if j = a.size then some x else a[j]? := by
  by_cases h : j = a.size
  · subst h; simp
  · rw [if_neg h]
    by_cases hl : j < a.size
    · rw [Array.getElem?_push_lt hl, Array.getElem?_eq_getElem hl]
    · rw [Array.getElem?_eq_none (by rw [Array.size_push]; omega), Array.getElem?_eq_none (by omega)]
theorem unp_push {U : Nat → Option GenState} {s : Shared} {x : GenState} (hU : U s.gens.size = none) : unp U { s with gens := s.gens.push x } = { unp U s with gens := (unp U s).gens.push x } := by
  refine shr_ext rfl rfl rfl rfl fun i => ?_
  rw [unp_get]
  show ((s.gens.push x)[i]?).map _ = ((unp U s).gens.push x)[i]?
  rw [push_get, push_get, unp_size, unp_get]
  by_cases h : i = s.gens.size
  · rw [if_pos h, if_pos h, h, hU]; rfl
  · rw [if_neg h, if_neg h]
/-- who sleeps at U is there, but not to be woken; all others that sleep have frames of their own alone -/
structure Bes (U : Nat → Option GenState) (s : Shared) : Prop where
  at_ : ∀ j G, U j = some G → Slp G ∧ s.gens[j]? = some (psn G)
  own : ∀ j k l c p fs cl, U j = none → s.gens[j]? = some (.suspended k l c p fs cl) → splitAtGen fs = none
def EndC : End → Prop
  | .susp _ _ _ _ _ _ fs => splitAtGen fs = none
  | _ => True
theorem split_ret {k : Result → Sem PySem.Fin} {h : Option Value} {g : Bool} {l : List Value} {c : Code} {p : Pos} {kp : List Value} {fs : List Frame} : splitAtGen (.ret k h g l c p kp :: fs) = none ↔ splitAtGen fs = none := by
  show (splitAtGen fs).map _ = none ↔ _
  cases splitAtGen fs <;> simp
theorem split_app : ∀ {fs gs : List Frame}, splitAtGen fs = none → splitAtGen gs = none → splitAtGen (fs ++ gs) = none
  | [], _, _, h => h
  | .ret .. :: fs, gs, h, h2 => split_ret.mpr (split_app (split_ret.mp h) h2)
  | .gen .. :: fs, _, h, _ => by rw [splitAtGen] at h; cases h
theorem EndC.of {U : Nat → Option GenState} {s : Shared} {j : Nat} {e : End} (b : Bes U s) (hU : U j = none) (he : EndC e) : Bes U (s.setGen j e.genState) := by
  refine ⟨fun i G h => ⟨(b.at_ i G h).1, ?_⟩, fun i k l c p fs cl hi h => ?_⟩
  · have hj : i ≠ j := fun z => by rw [z, hU] at h; cases h
    rw [sg_get, if_neg (fun z => hj z.1)]
    exact (b.at_ i G h).2
  · rw [sg_get] at h
    split at h
    · cases e with
      | ret r => cases h
      | susp v g0 l0 k0 c0 p0 fs0 =>
        have h := Option.some.inj h
        simp only [End.genState] at h
        injection h with h1 h2 h3 h4 h5 h6
        rw [← h5]
        exact he
    · exact b.own i k l c p fs cl hi h
theorem Bes.run {U : Nat → Option GenState} {s : Shared} {j : Nat} {x : GenState} (b : Bes U s) (hU : U j = none) (hx : ¬ Slp x) : Bes U (s.setGen j x) := by
  refine ⟨fun i G h => ⟨(b.at_ i G h).1, ?_⟩, fun i k l c p fs cl hi h => ?_⟩
  · have hj : i ≠ j := fun z => by rw [z, hU] at h; cases h
    rw [sg_get, if_neg (fun z => hj z.1)]
    exact (b.at_ i G h).2
  · rw [sg_get] at h
    split at h
    · exact (hx ⟨k, l, c, p, fs, cl, Option.some.inj h⟩).elim
    · exact b.own i k l c p fs cl hi h
theorem Bes.push {U : Nat → Option GenState} {s : Shared} {c : Code} (b : Bes U s) : U s.gens.size = none ∧ Bes U { s with gens := s.gens.push (.fresh c) } := by
  have h0 : U s.gens.size = none := by
    cases e : U s.gens.size with
    | none => rfl
    | some G =>
      have := (b.at_ _ G e).2
      rw [Array.getElem?_eq_none (Nat.le_refl _)] at this
      cases this
  refine ⟨h0, fun i G h => ⟨(b.at_ i G h).1, ?_⟩, fun i k l c' p fs cl hi h => ?_⟩
  · show (s.gens.push _)[i]? = _
    rw [push_get, if_neg (fun z => by rw [z, h0] at h; cases h)]
    exact (b.at_ i G h).2
  · have h' : (s.gens.push (.fresh c))[i]? = some (.suspended k l c' p fs cl) := h
    rw [push_get] at h'
    split at h'
    · cases h'
    · exact b.own i k l c' p fs cl hi h'
theorem Bes.none {U : Nat → Option GenState} {s : Shared} {j : Nat} {x : GenState} (b : Bes U s) (h : s.gens[j]? = some x) (hx : ¬ Slp x) : U j = none := by
  cases e : U j with
  | none => rfl
  | some G =>
    obtain ⟨⟨k, l, c, p, fs, cl, rfl⟩, h2⟩ := b.at_ _ G e
    rw [h] at h2
    exact (hx ⟨_, _, _, _, _, _, Option.some.inj h2⟩).elim
theorem not_run : ¬ Slp .running := fun ⟨_, _, _, _, _, _, h⟩ => by cases h
theorem not_fin : ¬ Slp .finished := fun ⟨_, _, _, _, _, _, h⟩ => by cases h
theorem not_fresh (c : Code) : ¬ Slp (.fresh c) := fun ⟨_, _, _, _, _, _, h⟩ => by cases h
theorem runs_beside {M : Model} {U : Nat → Option GenState} {Γ : PySem.Ctx} {p : Pos} {t : Sem PySem.Fin} {fs : List Frame} {s s' : Shared} {e : End} (h : Runs M Γ p t fs s e s') : splitAtGen fs = none → Bes U s →
    EndC e ∧ Bes U s' ∧ Runs M Γ p t fs (unp U s) e (unp U s') := by
  induction h with
  | done => exact fun hf b => ⟨trivial, b, .done⟩
  | raise => exact fun hf b => ⟨trivial, b, .raise⟩
  | again hq _ ih => exact fun hf b => let ⟨a, b, c⟩ := ih hf b; ⟨a, b, .again hq c⟩
  | rule _ ih => exact fun hf b => let ⟨a, b, c⟩ := ih hf b; ⟨a, b, .rule c⟩
  | «at» _ ih => exact fun hf b => let ⟨a, b, c⟩ := ih hf b; ⟨a, b, .at c⟩
  | load ho _ ih => exact fun hf b => let ⟨a, b, c⟩ := ih hf b; ⟨a, b, .load ho c⟩
  | update ho _ ih => exact fun hf b => let ⟨a, b, c⟩ := ih hf ⟨b.at_, b.own⟩; ⟨a, b, .update ho c⟩
  | loadIfAlive _ ih => exact fun hf b => let ⟨a, b, c⟩ := ih hf b; ⟨a, b, .loadIfAlive c⟩
  | point _ ih => exact fun hf b => let ⟨a, b, c⟩ := ih hf b; ⟨a, b, .point c⟩
  | alloc _ ih => exact fun hf b => let ⟨a, b, c⟩ := ih hf ⟨b.at_, b.own⟩; ⟨a, b, .alloc c⟩
  | fresh _ ih => exact fun hf b => let ⟨a, b, c⟩ := ih hf ⟨b.at_, b.own⟩; ⟨a, b, .fresh c⟩
  | ask _ ih => exact fun hf b => let ⟨a, b, c⟩ := ih hf b; ⟨a, b, .ask c⟩
  | choose hn _ ih => exact fun hf b => let ⟨a, b, c⟩ := ih hf ⟨b.at_, b.own⟩; ⟨a, b, .choose hn c⟩
  | os _ ih => exact fun hf b => let ⟨a, b, c⟩ := ih hf ⟨b.at_, b.own⟩; ⟨a, b, .os c⟩
  | handled _ ih => exact fun hf b => let ⟨a, b, c⟩ := ih hf b; ⟨a, b, .handled c⟩
  | stack _ ih => exact fun hf b => let ⟨a, b, c⟩ := ih hf b; ⟨a, b, .stack c⟩
  | thread _ ih => exact fun hf b => let ⟨a, b, c⟩ := ih hf b; ⟨a, b, .thread c⟩
  | «yield» => exact fun hf b => ⟨rfl, b, .yield⟩
  | genState hs hr ih =>
    intro hf b
    obtain ⟨a1, a2, a3⟩ := ih hf b
    refine ⟨a1, a2, ?_⟩
    cases e : U _ with
    | none => exact .genState (unp_none hs e) a3
    | some G =>
      have q := (b.at_ _ G e).2
      rw [hs] at q
      cases q
      rw [psn_seen] at a3
      exact .genState (unp_some hs e) a3
  | newGen _ ih =>
    intro hf b
    obtain ⟨q1, q2⟩ := b.push
    obtain ⟨a1, a2, a3⟩ := ih hf q2
    rw [unp_push q1] at a3
    refine ⟨a1, a2, .newGen ?_⟩
    rw [unp_size]
    exact a3
  | call _ _ ih1 ih2 =>
    intro hf b
    obtain ⟨_, a2, a3⟩ := ih1 rfl b
    obtain ⟨b1, b2, b3⟩ := ih2 hf a2
    exact ⟨b1, b2, .call a3 b3⟩
  | callSusp _ ih =>
    intro hf b
    obtain ⟨a1, a2, a3⟩ := ih rfl b
    exact ⟨split_app a1 rfl, a2, .callSusp a3⟩
  | resumeFresh hs _ hq _ ih1 ih2 =>
    intro hf b
    have hU := b.none hs (not_fresh _)
    obtain ⟨a1, a2, a3⟩ := ih1 rfl (b.run hU not_run)
    obtain ⟨b1, b2, b3⟩ := ih2 hf (a1.of a2 hU)
    rw [unp_set hU] at a3 b3
    exact ⟨b1, b2, .resumeFresh (unp_none hs hU) a3 hq b3⟩
  | resumeSuspended hs hr hq _ ih1 ih2 =>
    intro hf b
    cases e : U _ with
    | none =>
      obtain ⟨a1, a2, a3⟩ := ih1 (b.own _ _ _ _ _ _ _ e hs) (b.run e not_run)
      obtain ⟨b1, b2, b3⟩ := ih2 hf (a1.of a2 e)
      rw [unp_set e] at a3 b3
      exact ⟨b1, b2, .resumeSuspended (unp_none hs e) a3 hq b3⟩
    | some G =>
      obtain ⟨⟨_, _, _, _, _, _, rfl⟩, q⟩ := b.at_ _ G e
      rw [hs] at q
      cases q
      exact (runs_uns hr _ rfl).elim
  | resumeJustStarted hs hv _ ih =>
    intro hf b
    obtain ⟨a1, a2, a3⟩ := ih hf b
    exact ⟨a1, a2, .resumeJustStarted (unp_none hs (b.none hs (not_fresh _))) hv a3⟩
  | resumeThrowFresh hs _ ih =>
    intro hf b
    have hU := b.none hs (not_fresh _)
    obtain ⟨a1, a2, a3⟩ := ih hf (b.run hU not_fin)
    rw [unp_set hU] at a3
    exact ⟨a1, a2, .resumeThrowFresh (unp_none hs hU) a3⟩
  | resumeRunning hs _ ih =>
    intro hf b
    obtain ⟨a1, a2, a3⟩ := ih hf b
    exact ⟨a1, a2, .resumeRunning (unp_none hs (b.none hs not_run)) a3⟩
  | resumeFinished hs _ ih =>
    intro hf b
    obtain ⟨a1, a2, a3⟩ := ih hf b
    exact ⟨a1, a2, .resumeFinished (unp_none hs (b.none hs not_fin)) a3⟩
  | segRet _ _ ih1 ih2 =>
    intro hf b
    obtain ⟨_, a2, a3⟩ := ih1 rfl b
    obtain ⟨b1, b2, b3⟩ := ih2 (split_ret.mp hf) a2
    exact ⟨b1, b2, .segRet a3 b3⟩
  | segGen _ _ ih1 ih2 => intro hf; rw [splitAtGen] at hf; cases hf
  | segSuspOut hs _ ih =>
    intro hf b
    obtain ⟨a1, a2, a3⟩ := ih rfl b
    exact ⟨split_app a1 hs, a2, .segSuspOut hs a3⟩
  | segSuspGen hs _ hq _ ih1 ih2 => intro hf; rw [hf] at hs; cases hs
theorem wakes_beside {M : Model} {U : Nat → Option GenState} {Γ : PySem.Ctx} {p : Pos} {g : Nat} {r : Resume} {s s' : Shared} {res : GenResult} (h : Wakes M Γ p g r s res s') (b : Bes U s) :
    Bes U s' ∧ Wakes M Γ p g r (unp U s) res (unp U s') := by
  unfold Wakes at h ⊢
  cases hg : s.gens[g]? with
  | none => rw [hg] at h; exact h.elim
  | some x =>
    rw [hg] at h
    cases x with
    | fresh c =>
      have hU := b.none hg (not_fresh _)
      rw [unp_none hg hU]
      cases r with
      | throw x => obtain ⟨rfl, rfl⟩ := h; exact ⟨b.run hU not_fin, rfl, unp_set hU⟩
      | send v =>
        by_cases hv : v = .none
        · subst hv
          obtain ⟨e1, s1, h1, hq, rfl, rfl⟩ := h
          obtain ⟨a1, a2, a3⟩ := runs_beside h1 rfl (b.run hU not_run)
          rw [unp_set hU] at a3
          exact ⟨a1.of a2 hU, e1, _, a3, hq, rfl, unp_set hU⟩
        · cases v <;> first | exact absurd rfl hv | (obtain ⟨rfl, rfl⟩ := h; exact ⟨b, rfl, rfl⟩)
    | suspended k l c p0 fs cl =>
      cases e : U g with
      | none =>
        rw [unp_none hg e]
        obtain ⟨e1, s1, h1, hq, rfl, rfl⟩ := h
        obtain ⟨a1, a2, a3⟩ := runs_beside h1 (b.own _ _ _ _ _ _ _ e hg) (b.run e not_run)
        rw [unp_set e] at a3
        exact ⟨a1.of a2 e, e1, _, a3, hq, rfl, unp_set e⟩
      | some G =>
        obtain ⟨⟨_, _, _, _, _, _, rfl⟩, q⟩ := b.at_ _ G e
        rw [hg] at q
        cases q
        obtain ⟨e1, s1, h1, _⟩ := h
        exact (runs_uns h1 _ rfl).elim
    | running => rw [unp_none hg (b.none hg not_run)]; obtain ⟨rfl, rfl⟩ := h; exact ⟨b, rfl, rfl⟩
    | finished => rw [unp_none hg (b.none hg not_fin)]; obtain ⟨rfl, rfl⟩ := h; exact ⟨b, rfl, rfl⟩
theorem wp_beside {α : Type} (M : Model) (Γ : PySem.Ctx) (U : Nat → Option GenState) (t : Sem α) : ∀ (Q : α → Pos → Shared → Prop) (E : Value → Pos → Shared → Prop) (p : Pos) (s : Shared), Bes U s → wp M Γ t Q E p s →
    wp M Γ t (fun a p' s' => ∃ s1, s' = unp U s1 ∧ Bes U s1 ∧ Q a p' s1) (fun e p' s' => ∃ s1, s' = unp U s1 ∧ Bes U s1 ∧ E e p' s1) p (unp U s) := by
  induction t with
  | pure a => intro Q E p s b h; exact ⟨s, rfl, b, h⟩
  | raise e => intro Q E p s b h; exact ⟨s, rfl, b, h⟩
  | unsupported _ => intro Q E p s _ h; exact h
  | finish _ => intro Q E p s _ h; exact h
  | rule _ k ih => intro Q E p s b h; exact ih () Q E p s b h
  | «at» p' k ih => intro Q E p s b h; exact ih () Q E p' s b h
  | load a _ k ih => intro Q E p s b h; obtain ⟨o, ho, h⟩ := h; exact ⟨o, ho, ih o Q E p s b h⟩
  | update a _ f k ih => intro Q E p s b h; exact ⟨h.1, ih () Q E p { s with heap := s.heap.update a f } ⟨b.at_, b.own⟩ h.2⟩
  | loadIfAlive a k ih => intro Q E p s b h; exact ih _ Q E p s b h
  | point _ k ih => intro Q E p s b h; exact ih () Q E p s b h
  | register _ _ => intro Q E p s _ h; exact h
  | alloc o k ih => intro Q E p s b h; exact ih _ Q E p { s with heap := s.heap.push o } ⟨b.at_, b.own⟩ h
  | fresh k ih => intro Q E p s b h; exact ih _ Q E p { s with toks := s.toks + 1 } ⟨b.at_, b.own⟩ h
  | ask k ih => intro Q E p s b h; exact ih _ Q E p s b h
  | choose src m k ih => intro Q E p s b h; exact ⟨h.1, ih _ Q E p { s with drawn := s.drawn.bump src } ⟨b.at_, b.own⟩ h.2⟩
  | os q _ k ih => intro Q E p s b h; exact ih _ Q E p { s with os := (Os.step s.os q).1 } ⟨b.at_, b.own⟩ h
  | call c hd _ _ k ih =>
    intro Q E p s b h
    obtain ⟨r, s', hr, h⟩ := h
    obtain ⟨_, a2, a3⟩ := runs_beside hr rfl b
    exact ⟨r, _, a3, ih r Q E p s' a2 h⟩
  | handled own k ih => intro Q E p s b h; exact ih _ Q E p s b h
  | genState g k ih =>
    intro Q E p s b h
    obtain ⟨st, hs, h⟩ := h
    cases e : U g with
    | none => exact ⟨st, unp_none hs e, ih _ Q E p s b h⟩
    | some G =>
      have q := (b.at_ _ G e).2
      rw [hs] at q
      cases q
      rw [psn_seen] at h
      exact ⟨G, unp_some hs e, ih _ Q E p s b h⟩
  | newGen c k ih =>
    intro Q E p s b h
    obtain ⟨q1, q2⟩ := b.push
    have := ih _ Q E p _ q2 h
    rw [unp_push q1] at this
    show wp M Γ (k (unp U s).gens.size) _ _ p _
    rw [unp_size]
    exact this
  | resume g r _ k ih =>
    intro Q E p s b h
    obtain ⟨res, s', hw, h⟩ := h
    obtain ⟨a2, a3⟩ := wakes_beside hw b
    exact ⟨res, _, a3, ih res Q E p s' a2 h⟩
  | «yield» _ _ _ _ => intro Q E p s _ h; exact h
  | stack k ih => intro Q E p s b h; exact ih _ Q E p s b h
  | fork _ _ => intro Q E p s _ h; exact h
  | thread k ih => intro Q E p s b h; exact ih _ Q E p s b h
  | await _ _ _ _ _ => intro Q E p s _ h; exact h
/-- all that sleep are laid aside -/
def slpU (s : Shared) : Nat → Option GenState := fun j => match s.gens[j]? with | some (.suspended k l c p fs cl) => some (.suspended k l c p fs cl) | _ => none
def pall (s : Shared) : Shared := { s with gens := s.gens.map psn }
theorem bes_pall (s : Shared) : Bes (slpU s) (pall s) ∧ unp (slpU s) (pall s) = s := by
  have hg : ∀ j : Nat, (pall s).gens[j]? = (s.gens[j]?).map psn := fun j => Array.getElem?_map ..
  refine ⟨⟨fun j G h => ?_, fun j k l c p fs cl hU h => ?_⟩, shr_ext rfl rfl rfl rfl fun j => ?_⟩
  · unfold slpU at h
    split at h
    · rename_i e
      cases h
      exact ⟨⟨_, _, _, _, _, _, rfl⟩, by rw [hg, e]; rfl⟩
    · cases h
  · rw [hg] at h
    unfold slpU at hU
    cases e : s.gens[j]? with
    | none => rw [e] at h; cases h
    | some x =>
      rw [e] at h hU
      cases x <;> simp [psn] at h hU
  · rw [unp_get, hg]
    unfold slpU
    cases e : s.gens[j]? with
    | none => rfl
    | some x => cases x <;> rfl
theorem pall_bare {s : Shared} (h : AllBare s.gens) : AllBare (pall s).gens := fun y hy => by
  obtain ⟨x, hx, rfl⟩ := Array.mem_map.mp hy
  rw [psn_bare]
  exact h x hx
end Mr
namespace Mr
open PySem PySem.Spec PyProof.Rows L2 Tw GenW
/-- the heap as far as it was when the generator's frame was laid -/
def trc (L : Nat) (s : Shared) : Shared := { s with heap := ⟨s.heap.objs.extract 0 L, s.heap.life⟩ }
theorem ex_get {α : Type} (a : Array α) (L b : Nat) : (a.extract 0 L)[b]? = if b < L then a[b]? else none := by
  rw [Array.getElem?_extract]
  by_cases h : b < L
  · by_cases h2 : b < a.size
    · rw [if_pos (by omega), if_pos h, Nat.zero_add]
    · rw [if_neg (by omega), if_pos h, Array.getElem?_eq_none (by omega)]
  · rw [if_neg (by omega), if_neg h]
theorem trc_get {L : Nat} {s : Shared} {b : Addr} : (trc L s).heap.get? b = if b < L then s.heap.get? b else none := by
  show (match (s.heap.objs.extract 0 L)[b]? with | some ⟨_, _, .freed, _⟩ => none | o => o) = if b < L then (match s.heap.objs[b]? with | some ⟨_, _, .freed, _⟩ => none | o => o) else none
  have e : (s.heap.objs.extract 0 L)[b]? = if b < L then s.heap.objs[b]? else none := by
    exact ex_get s.heap.objs L b
  rw [e]
  by_cases h : b < L
  · rw [if_pos h, if_pos h]
  · rw [if_neg h, if_neg h]
theorem trc_some {L : Nat} {s : Shared} {b : Addr} {o : Obj} (h : (trc L s).heap.get? b = some o) : b < L ∧ s.heap.get? b = some o := by
  rw [trc_get] at h
  split at h
  · exact ⟨by assumption, h⟩
  · cases h
theorem trc_of {L : Nat} {s : Shared} {b : Addr} {o : Obj} (h : s.heap.get? b = some o) (hb : b < L) : (trc L s).heap.get? b = some o := by
  rw [trc_get, if_pos hb]
  exact h
theorem trc_size {L : Nat} {s : Shared} (h : L ≤ s.heap.objs.size) : (trc L s).heap.objs.size = L := by
  show (s.heap.objs.extract 0 L).size = L
  rw [Array.size_extract]
  omega
/-- what a waker lays down: the state, its abstract heap, the cells, what must stay -/
structure Wk where
  sh : Shared
  H : Hp
  m : S
  pn : List (Addr × Obj)
/-- a generator's def, and the frame that it was called in -/
structure Gf where
  P : Program
  w : World
  K : PySem.W.Frag
  mg : Str → Option Value
  base : Heap
  cl : CL
  N : List Str
  q : Str
  sc : Scope
  f : Addr
  cd : Value
  A : Around
  out : List PySem.Env
  L : Nat
  Z : Addr → Prop
def Gf.env (G : Gf) : PySem.Env := envOfC G.q G.sc G.L G.f G.cd
/-- the context of its body, as it was woken last -/
def Gf.X (G : Gf) (C : Wk) : Cx where
  prog := G.P
  w := G.w
  K := G.K
  mg := G.mg
  base := G.base
  A := G.A.deeper (envOfC G.q G.sc G.L G.f G.cd)
  N := G.N
  s_0 := trc G.L C.sh
  H_0 := C.H
  env := envOfC G.q G.sc G.L G.f G.cd
  outer := G.out
  stack := envOfC G.q G.sc G.L G.f G.cd :: G.out
  ex := []
  calm := true
  fn := fun _ => true
  pn := C.pn
  xe := fun e s' => wpAny (model G.P G.w) (G.A.deeper (envOfC G.q G.sc G.L G.f G.cd)) (leaving (envOfC G.q G.sc G.L G.f G.cd) e) (fun _ s'' => L2.CX G.P G.w G.out C.H (trc G.L C.sh) noXK e s'' ∧ ∀ p ∈ C.pn, s''.heap.get? p.1 = some p.2) (fun _ _ => False) s'
theorem Gf.X_of (G : Gf) (C : Wk) (h : (trc G.L C.sh).heap.objs.size = G.L) : G.X C = gcxOf G.P G.w G.K G.mg G.base G.N G.q G.sc G.f G.cd G.A G.out (trc G.L C.sh) C.H noXK C.pn := by
  unfold Gf.X gcxOf cxOf
  rw [h]
theorem Gf.owns (G : Gf) (C : Wk) (h : (trc G.L C.sh).heap.objs.size = G.L) : PassesOwn (model G.P G.w) (G.X C).A (G.X C).env (G.X C).xe := by
  rw [G.X_of C h]
  exact owns_gcx
theorem Gf.takes (G : Gf) (C : Wk) (h : (trc G.L C.sh).heap.objs.size = G.L) : Takes (G.X C) noW := by
  rw [G.X_of C h]
  exact takes_gcx
/-- where it stands: woken by C, now at sh -/
structure Gf.At (G : Gf) (C : Wk) (ip : List (Addr × Obj)) (σ : L2.St) (H : Hp) (sh : Shared) (s : S) : Prop where
  sz : (trc G.L C.sh).heap.objs.size = G.L
  inv : Inv (G.X C) ip σ H sh
  sto : Sto G.K G.cl G.Z s H
  fut : Fut C.m C.H s H
  up : ∀ q ∈ ip, G.L ≤ q.1
  ap : ∀ p ∈ C.pn, ∀ q ∈ ip, p.1 ≠ q.1
/-- it may go on -/
structure Gf.Up (G : Gf) (ip : List (Addr × Obj)) (σ : L2.St) (H : Hp) (s : S) (C : Wk) (sh : Shared) : Prop where
  sz : (trc G.L C.sh).heap.objs.size = G.L
  inv : Inv (G.X C) ip σ C.H sh
  sto : Sto G.K G.cl G.Z C.m C.H
  fut : Fut s H C.m C.H
  ap : ∀ p ∈ C.pn, ∀ q ∈ ip, p.1 ≠ q.1
/-- what the consumer keeps: its names, a list -/
abbrev AK := Env × List T
/-- what the consumer does with a thing that is handed out; it goes on by the last -/
abbrev YL := T → AK → S → (AK → S → Prop) → Prop
def MonY (yl : YL) : Prop := ∀ t κ s (r r' : AK → S → Prop), (∀ κ s, r κ s → r' κ s) → yl t κ s r → yl t κ s r'
structure DC where
  nx : Nat → AK → Env → S → Prop
  rt : AK → S → Prop
  bk : Nat → AK → Env → S → Prop
  ct : Nat → AK → Env → S → Prop
structure DC.Le (D D' : DC) : Prop where
  nx : ∀ c κ τ s, D.nx c κ τ s → D'.nx c κ τ s
  rt : ∀ κ s, D.rt κ s → D'.rt κ s
  bk : ∀ c κ τ s, D.bk c κ τ s → D'.bk c κ τ s
  ct : ∀ c κ τ s, D.ct c κ τ s → D'.ct c κ τ s
abbrev FCS := YL → Nat → AK → Env → S → DC → Prop
def MonC (F : FCS) : Prop := ∀ yl c κ τ s (D D' : DC), MonY yl → D.Le D' → F yl c κ τ s D → F yl c κ τ s D'
/-- a thing is handed out -/
def Gf.Y (G : Gf) (PC : Wk → AK → Prop) (yl : YL) : Protocol := fun n s0 v sh kap =>
  ∃ (c : Nat) (κ : AK) (C : Wk) (ip : List (Addr × Obj)) (σ : L2.St) (H : Hp) (s : S) (x : V) (t : T) (r : AK → S → Prop), n + 1 + c = sizeLine ∧ PC C κ ∧ RelV x v ∧ G.At C ip σ H sh s ∧ Rep G.K G.cl G.Z s H x t ∧ yl t κ s r ∧
    ∀ κ' C' sh', PC C' κ' → G.Up ip σ H s C' sh' → r κ' C'.m → kap (.send .none) sh'
/-- where its code stands -/
structure Gf.Co (G : Gf) (c : Code) (fs : List Frame) (gd : Bool → Bool) : Prop where
  over : G.A.over c fs = G.A.deeper G.env
  split : splitAtGen fs = none
  guard : fs.any Frame.guarded = false
  gd : gd false = false
def Gf.SP (G : Gf) (H0 : Hp) (m0 : S) (C : Wk) (ip : List (Addr × Obj)) (c : Nat) (κ : AK) (D : DC) (f : Flow) (sh : Shared) : Prop :=
  ∃ (σ : L2.St) (H : Hp) (s : S), G.At C ip σ H sh s ∧ Fut m0 H0 s H ∧ match f with
    | .next => ∃ τ, REnv G.K G.cl G.Z s H σ τ ∧ D.nx c κ τ s
    | .brk => ∃ τ, REnv G.K G.cl G.Z s H σ τ ∧ D.bk c κ τ s
    | .cont => ∃ τ, REnv G.K G.cl G.Z s H σ τ ∧ D.ct c κ τ s
    | .ret u => u = .none ∧ D.rt κ s
/-- what follows -/
structure Gf.Go (G : Gf) (H0 : Hp) (m0 : S) (PC : Wk → AK → Prop) (yl : YL) (ip : List (Addr × Obj)) (R : GenEnd) (c : Code) (fs : List Frame) (K : Flow → Sem PySem.Fin) (J : Value → Sem PySem.Fin) (D : DC) : Prop where
  ok : ∀ (n cn : Nat) (κ : AK) (C : Wk) (s0 sh : Shared) (f : Flow), n + cn = sizeLine → PC C κ → G.SP H0 m0 C ip cn κ D f sh → Seg (model G.P G.w) G.A R (G.Y PC yl) n s0 c (K f) fs sh
  exc : ∀ (n : Nat) (C : Wk) (s0 : Shared) (e : Value) (sh : Shared), (trc G.L C.sh).heap.objs.size = G.L → (G.X C).xe e sh → Seg (model G.P G.w) G.A R (G.Y PC yl) n s0 c (J e) fs sh
theorem Gf.Go.up {G : Gf} {H0 H1 : Hp} {m0 m1 : S} {PC : Wk → AK → Prop} {yl : YL} {ip : List (Addr × Obj)} {R : GenEnd} {c : Code} {fs : List Frame} {K : Flow → Sem PySem.Fin} {J : Value → Sem PySem.Fin} {D : DC} (g : G.Go H0 m0 PC yl ip R c fs K J D) (f : Fut m0 H0 m1 H1) : G.Go H1 m1 PC yl ip R c fs K J D :=
  ⟨fun n cn κ C s0 sh fl hn pc h => g.ok n cn κ C s0 sh fl hn pc (by obtain ⟨σ, H, s, a, f2, q⟩ := h; exact ⟨σ, H, s, a, f.trans f2, q⟩), g.exc⟩
structure JC (G : Gf) (st : Stmt) (F : FCS) : Prop where
  mon : MonC F
  run : ∀ (PC : Wk → AK → Prop) (yl : YL) (ip : List (Addr × Obj)) (R : GenEnd) (n cn : Nat) (κ : AK) (C : Wk) (s0 : Shared) (c : Code) (fs : List Frame) (K : Flow → Sem PySem.Fin) (J : Value → Sem PySem.Fin) (gd : Bool → Bool) (lv : List Value → List Value) (sh : Shared) (σ : L2.St) (τ : Env) (H : Hp) (s : S) (D : DC),
    MonY yl → G.Co c fs gd → n + cn = sizeLine → G.Go H s PC yl ip R c fs K J D → PC C κ → G.At C ip σ H sh s → REnv G.K G.cl G.Z s H σ τ → F yl cn κ τ s D →
    Seg (model G.P G.w) G.A R (G.Y PC yl) n s0 c ((exec st G.env).wrap K J gd lv) fs sh
structure JCs (G : Gf) (sts : List Stmt) (F : FCS) : Prop where
  mon : MonC F
  run : ∀ (PC : Wk → AK → Prop) (yl : YL) (ip : List (Addr × Obj)) (R : GenEnd) (n cn : Nat) (κ : AK) (C : Wk) (s0 : Shared) (c : Code) (fs : List Frame) (K : Flow → Sem PySem.Fin) (J : Value → Sem PySem.Fin) (gd : Bool → Bool) (lv : List Value → List Value) (sh : Shared) (σ : L2.St) (τ : Env) (H : Hp) (s : S) (D : DC),
    MonY yl → G.Co c fs gd → n + cn = sizeLine → G.Go H s PC yl ip R c fs K J D → PC C κ → G.At C ip σ H sh s → REnv G.K G.cl G.Z s H σ τ → F yl cn κ τ s D →
    Seg (model G.P G.w) G.A R (G.Y PC yl) n s0 c ((execs sts G.env).wrap K J gd lv) fs sh
/-- the contexts that it may be in -/
def Gf.Ok (G : Gf) (C : Wk) : Prop := (trc G.L C.sh).heap.objs.size = G.L
section
variable {G : Gf} {st : Stmt} {sts ss ts : List Stmt} {B : FS} {F F1 F2 : FCS} {e c tg iter : Expr} {Fe : FE} {T1 : FT} {I : FI} {g : FG} {pos yp : Pos}
theorem DC.Le.refl (D : DC) : D.Le D := ⟨fun _ _ _ _ q => q, fun _ _ q => q, fun _ _ _ _ q => q, fun _ _ _ _ q => q⟩
def fCNever : FCS := fun _ _ _ _ _ _ => False
def fC0 : FCS := fun _ c κ τ s D => D.nx c κ τ s
theorem jcs_nil : JCs G [] fC0 := by
  refine ⟨fun yl c κ τ s D D' my le h => le.nx _ _ _ _ h, fun PC yl ip R n cn κ C s0 c fs K J gd lv sh σ τ H s D my co hn go pc at_ re h => ?_⟩
  exact seg_execs_nil (go.ok n cn κ C s0 sh .next hn pc ⟨σ, H, s, at_, Fut.refl _ _, τ, re, h⟩)
def fCThen (F1 F2 : FCS) : FCS := fun yl c κ τ s D => F1 yl c κ τ s { D with nx := fun c' κ' τ' s' => F2 yl c' κ' τ' s' D }
theorem jcs_cons (h1 : JC G st F1) (h2 : JCs G sts F2) : JCs G (st :: sts) (fCThen F1 F2) := by
  refine ⟨fun yl c κ τ s D D' my le h => ?_, fun PC yl ip R n cn κ C s0 c fs K J gd lv sh σ τ H s D my co hn go pc at_ re h => ?_⟩
  · refine h1.mon _ _ _ _ _ _ _ my ?_ h
    exact ⟨fun _ _ _ _ q => h2.mon _ _ _ _ _ _ _ my le q, le.rt, le.bk, le.ct⟩
  refine seg_execs_cons (h1.run PC yl ip R n cn κ C s0 c fs _ J gd lv sh σ τ H s _ my co hn ⟨fun n' cn' κ' C' s0' sh' f hn' pc' hs => ?_, go.exc⟩ pc at_ re h)
  obtain ⟨σ', H', s', at', fu, q⟩ := hs
  cases f with
  | next =>
    obtain ⟨τ', re', q⟩ := q
    exact h2.run PC yl ip R n' cn' κ' C' s0' c fs K J gd lv sh' σ' τ' H' s' D my co hn' (go.up fu) pc' at' re' q
  | brk => exact go.ok n' cn' κ' C' s0' sh' .brk hn' pc' ⟨σ', H', s', at', fu, q⟩
  | cont => exact go.ok n' cn' κ' C' s0' sh' .cont hn' pc' ⟨σ', H', s', at', fu, q⟩
  | ret u => exact go.ok n' cn' κ' C' s0' sh' (.ret u) hn' pc' ⟨σ', H', s', at', fu, q⟩
theorem Gf.At.step {C : Wk} {ip : List (Addr × Obj)} {σ σ' : L2.St} {H H' : Hp} {sh sh' : Shared} {s s' : S} (a : G.At C ip σ H sh s) (I : Inv (G.X C) ip σ' H' sh') (so : Sto G.K G.cl G.Z s' H') (f : Fut s H s' H') : G.At C ip σ' H' sh' s' :=
  ⟨a.sz, I, so, a.fut.trans f, a.up, a.ap⟩
/-- a statement that hands out nothing -/
def fCPl (B : FS) : FCS := fun _ c κ τ s D => B τ s ⟨D.nx c κ, fun t s1 => t = .non ∧ D.rt κ s1, D.bk c κ, D.ct c κ, fun _ _ _ => False⟩
theorem mon_cpl (m : MonS B) : MonC (fCPl B) := by
  intro yl c κ τ s D D' my le h
  refine m _ _ _ _ ?_ h
  exact ⟨fun _ _ q => le.nx _ _ _ _ q, fun _ _ q => ⟨q.1, le.rt _ _ q.2⟩, fun _ _ q => le.bk _ _ _ _ q, fun _ _ q => le.ct _ _ _ _ q, fun _ _ _ q => q⟩
theorem Gf.ok0 (G : Gf) : ∃ C, G.Ok C := ⟨⟨{ heap := ⟨Array.replicate G.L { cls := .none, dict := none, data := .fields #[], slots := #[] }, {}⟩ }, fun _ => none, ⟨none, 0, fun _ => none⟩, []⟩, trc_size (by show G.L ≤ (Array.replicate G.L _).size; rw [Array.size_replicate]; exact Nat.le_refl _)⟩
theorem jc_pl (h : ∀ C, G.Ok C → JS (G.X C) G.cl noW st B) : JC G st (fCPl B) := by
  obtain ⟨C0, h0⟩ := G.ok0
  have hm := (h C0 h0).mon
  refine ⟨mon_cpl hm, fun PC yl ip R n cn κ C s0 c fs K J gd lv sh σ τ H s D my co hn go pc at_ re h' => ?_⟩
  refine seg_wrap ?_
  rw [co.over]
  have hs := h C at_.sz
  refine wpAny_mono (hs.ps.run ip sh σ H ⟨fun σ' H' => ∃ τ' s', REnv G.K G.cl G.Z s' H' σ' τ' ∧ Sto G.K G.cl G.Z s' H' ∧ Fut s H s' H' ∧ D.nx cn κ τ' s', fun v H' => ∃ s', v = .non ∧ Sto G.K G.cl G.Z s' H' ∧ Fut s H s' H' ∧ D.rt κ s', fun σ' H' => ∃ τ' s', REnv G.K G.cl G.Z s' H' σ' τ' ∧ Sto G.K G.cl G.Z s' H' ∧ Fut s H s' H' ∧ D.bk cn κ τ' s', fun σ' H' => ∃ τ' s', REnv G.K G.cl G.Z s' H' σ' τ' ∧ Sto G.K G.cl G.Z s' H' ∧ Fut s H s' H' ∧ D.ct cn κ τ' s'⟩ at_.inv ⟨G.Z, τ, s, re, at_.sto, hm _ _ _ _ ?_ h'⟩) ?_ fun x s' hx => go.exc n C s0 x s' at_.sz hx
  · refine ⟨fun τ' s' q σ' H' f re' so' => ⟨τ', s', re', so', f, q⟩, fun t s' q v H' f r so' => ?_, fun τ' s' q σ' H' f re' so' => ⟨τ', s', re', so', f, q⟩, fun τ' s' q σ' H' f re' so' => ⟨τ', s', re', so', f, q⟩, fun _ _ _ q => q.elim⟩
    obtain ⟨rfl, q⟩ := q
    cases r
    exact ⟨s', rfl, so', f, q⟩
  · intro f s' q
    refine go.ok n cn κ C s0 s' f hn pc ?_
    cases f with
    | next => obtain ⟨σ', H', I', τ', m', re', so', f', q⟩ := q; exact ⟨σ', H', m', at_.step I' so' f', f', τ', re', q⟩
    | brk => obtain ⟨σ', H', I', τ', m', re', so', f', q⟩ := q; exact ⟨σ', H', m', at_.step I' so' f', f', τ', re', q⟩
    | cont => obtain ⟨σ', H', I', τ', m', re', so', f', q⟩ := q; exact ⟨σ', H', m', at_.step I' so' f', f', τ', re', q⟩
    | ret u => obtain ⟨v, σ', H', I', rv, m', rfl, so', f', q⟩ := q; cases rv; exact ⟨σ', H', m', at_.step I' so' f', f', rfl, q⟩
def fCYield (Fe : FE) : FCS := fun yl c κ τ s D => c < 1000000 ∧ Fe τ s (fun v s1 => yl v κ s1 fun κ' s2 => D.nx (c + 1) κ' τ s2) (fun _ _ => False)
theorem jc_yield (he : ∀ C, G.Ok C → JE (G.X C) G.cl noW e Fe) (hco : G.sc.isCoroutine = false := by rfl) (hi : interactive G.env = false := by rfl) : JC G (.Expr (.Yield (some e) yp) pos) (fCYield Fe) := by
  obtain ⟨C0, h0⟩ := G.ok0
  have hm := (he C0 h0).mon
  refine ⟨fun yl c κ τ s D D' my le h => ⟨h.1, hm _ _ _ _ _ _ (fun _ _ q => my _ _ _ _ _ (fun _ _ q => le.nx _ _ _ _ q) q) (fun _ _ q => q) h.2⟩, fun PC yl ip R n cn κ C s0 c fs K J gd lv sh σ τ H s D my co hn go pc at_ re h' => ?_⟩
  obtain ⟨hlt, h'⟩ := h'
  have big : cn < sizeLine := Nat.lt_of_lt_of_le hlt size6
  obtain ⟨n, rfl⟩ : ∃ m, n = m + 1 := ⟨n - 1, by omega⟩
  refine seg_Expr_Yield co.split co.gd co.guard ?_ hco hi
  rw [co.over]
  refine wpAny_mono ((he C at_.sz).pe.run ip sh σ H (fun x H1 => ∃ s1 t, Fut s H s1 H1 ∧ REnv G.K G.cl G.Z s1 H1 σ τ ∧ Rep G.K G.cl G.Z s1 H1 x t ∧ Sto G.K G.cl G.Z s1 H1 ∧ yl t κ s1 fun κ' s2 => D.nx (cn + 1) κ' τ s2) at_.inv (go' (W := noW) hm re at_.sto h')) (fun v s' hv => ?_) fun x s' hx => go.exc _ C s0 x s' at_.sz hx
  obtain ⟨x, H1, I1, rv, s1, t, f1, re1, r1, so1, q⟩ := hv
  intro kap hk
  refine ⟨cn, κ, C, ip, σ, H1, s1, x, t, _, hn, pc, rv, at_.step I1 so1 f1, r1, q, fun κ' C' sh' pc' up q' => hk .none sh' ?_⟩
  exact go.ok n (cn + 1) κ' C' sh' sh' .next (by omega) pc' ⟨σ, C'.H, C'.m, ⟨up.sz, up.inv, up.sto, Fut.refl _ _, at_.up, up.ap⟩, f1.trans up.fut, τ, RepE.fut up.fut re1, q'⟩
where
  go' {W : WX} {σ : L2.St} {τ : Env} {H : Hp} {s : S} {P : KT} (mon : MonE Fe) (re : REnv G.K G.cl G.Z s H σ τ) (so : Sto G.K G.cl G.Z s H) (h : Fe τ s P (fun _ _ => False)) :
      tT G.K G.cl W Fe σ H (fun x H1 => ∃ s1 t, Fut s H s1 H1 ∧ REnv G.K G.cl G.Z s1 H1 σ τ ∧ Rep G.K G.cl G.Z s1 H1 x t ∧ Sto G.K G.cl G.Z s1 H1 ∧ P t s1) :=
    ⟨G.Z, τ, s, re, so, mon _ _ _ _ _ _ (fun t s1 p v H1 f r so1 => ⟨s1, t, f, RepE.fut f re, r, so1, p⟩) (fun _ _ q => q.elim) h⟩
section
def fCIf (T1 : FT) (F1 F2 : FCS) : FCS := fun yl c κ τ s D => T1 τ s (fun b s1 => if b = true then F1 yl c κ τ s1 D else F2 yl c κ τ s1 D) (fun _ _ => False)
/-- the turns of a for -/
def cenL (ok : S → Prop) (g : FG) (F : FCS) (yl : YL) : List T → Nat → AK → Env → S → DC → Prop
  | [], c, κ, τ, s, D => ok s ∧ D.nx c κ τ s
  | t :: ts, c, κ, τ, s, D => ok s ∧ g t τ s fun τ1 s1 => F yl c κ τ1 s1 { nx := fun c' κ' τ' s' => cenL ok g F yl ts c' κ' τ' s' D, ct := fun c' κ' τ' s' => cenL ok g F yl ts c' κ' τ' s' D, bk := D.nx, rt := D.rt }
def fCFor (I : FI) (g : FG) (F : FCS) : FCS := fun yl c κ τ s D => I τ s (fun xs ok s1 => cenL ok g F yl xs c κ τ s1 D) (fun _ _ => False)
/-- a loop's code over the frame -/
theorem Gf.Co.loop {c' : Code} {cc : Code} {fs : List Frame} {gd : Bool → Bool} {k : Result → Sem PySem.Fin} {l kp : List Value} {p : Pos} (co : G.Co cc fs gd) (hw : c'.weight = 0) (hu : c'.cUnits = 0) : G.Co c' (.ret k none (gd false) l cc p kp :: fs) id where
  over := (over_loop hw hu).trans co.over
  split := split_ret.mpr co.split
  guard := by
    show (gd false || fs.any Frame.guarded) = false
    rw [co.gd, co.guard]
    rfl
  gd := rfl
theorem seg_back {H0 : Hp} {m0 : S} {PC : Wk → AK → Prop} {yl : YL} {ip : List (Addr × Obj)} {R : GenEnd} {cc : Code} {fs : List Frame} {K : Flow → Sem PySem.Fin} {J : Value → Sem PySem.Fin} {gd : Bool → Bool} {lv : List Value → List Value} {D : DC} {n : Nat} {s0 s : Shared} {e : Value} {C : Wk}
    (co : G.Co cc fs gd) (go : G.Go H0 m0 PC yl ip R cc fs K J D) (hC : G.Ok C) (h : cameBackBy (model G.P G.w) (G.X C).A (G.X C).env (G.X C).xe e s) :
    Seg (model G.P G.w) G.A R (G.Y PC yl) n s0 cc (((Sem.raise e : Sem Flow).onRaise (cameBack G.env)).wrap K J gd lv) fs s := by
  show Seg _ _ _ _ _ _ _ (((cameBack G.env e).bind fun _ => (Sem.raise e : Sem Flow)).wrap K J gd lv) _ _
  rw [Sem.bind_eq_wrap, Sem.wrap_wrap]
  refine seg_wrap ?_
  rw [co.over]
  exact wpAny_mono h (fun _ s' hx => go.exc n C s0 e s' hC hx) fun x s' hx => go.exc n C s0 x s' hC hx
def cwhT (T1 : FT) (F : FCS) (yl : YL) : Nat → Nat → AK → Env → S → DC → Prop
  | 0, _, _, _, _, _ => False
  | m + 1, c, κ, τ, s, D => T1 τ s (fun b s1 => if b = true then F yl c κ τ s1 { nx := fun c' κ' τ' s' => cwhT T1 F yl m c' κ' τ' s' D, ct := fun c' κ' τ' s' => cwhT T1 F yl m c' κ' τ' s' D, bk := D.nx, rt := D.rt } else D.nx c κ τ s1) (fun _ _ => False)
theorem mon_cwhT {yl : YL} (my : MonY yl) (mt : MonT T1) (m : MonC F) : ∀ (j : Nat) (c : Nat) (κ : AK) (τ : Env) (s : S) (D D' : DC), D.Le D' → cwhT T1 F yl j c κ τ s D → cwhT T1 F yl j c κ τ s D'
  | 0, _, _, _, _, _, _, _, h => h
  | j + 1, c, κ, τ, s, D, D', le, h => by
    refine mt _ _ _ _ _ _ (fun b s1 q => w_ite q (fun q => ?_) (le.nx _ _ _ _)) (fun _ _ q => q) h
    refine m _ _ _ _ _ _ _ my ?_ q
    exact ⟨fun _ _ _ _ q => mon_cwhT my mt m j _ _ _ _ _ _ le q, le.rt, le.nx, fun _ _ _ _ q => mon_cwhT my mt m j _ _ _ _ _ _ le q⟩
def fCWhile (T1 : FT) (F : FCS) : FCS := fun yl c κ τ s D => ∃ m, cwhT T1 F yl m c κ τ s D
theorem jc_while (hc : ∀ C, G.Ok C → JT (G.X C) G.cl noW c T1) (hb : JCs G sts F) : JC G (.While c sts [] pos) (fCWhile T1 F) := by
  obtain ⟨C0, h0⟩ := G.ok0
  have mt := (hc C0 h0).mon
  refine ⟨fun yl cn κ τ s D D' my le ⟨m, h⟩ => ⟨m, mon_cwhT my mt hb.mon m _ _ _ _ _ _ le h⟩, fun PC yl ip R n cn κ C s0 cd fs K J gd lv sh σ τ H s D my co hn go pc at_ re h' => ?_⟩
  obtain ⟨j, h'⟩ := h'
  refine seg_While fun p => ?_
  have cl_ : G.Co (.whileLoop c sts [] G.env) (.ret (fun r => ((match r with | .ok f => (.pure f : Sem Flow) | .error e => .raise e).onRaise (cameBack G.env)).wrap K J gd lv) none (gd false) (lv []) cd p [] :: fs) id := co.loop rfl rfl
  have out : ∀ (n : Nat) (s0 : Shared) (x : Value) (C : Wk) (s' : Shared), G.Ok C → (G.X C).xe x s' → Seg (model G.P G.w) G.A R (G.Y PC yl) n s0 (.whileLoop c sts [] G.env) (outE G.env x)
      (.ret (fun r => ((match r with | .ok f => (.pure f : Sem Flow) | .error e => .raise e).onRaise (cameBack G.env)).wrap K J gd lv) none (gd false) (lv []) cd p [] :: fs) s' := by
    intro n s0 x C' s' hC hx
    refine seg_wrap ?_
    rw [cl_.over]
    refine wpAny_bind (wpAny_mono (G.owns C' hC x s' hx) (fun _ s'' hcb => wpAny_theTreesLotGoes ?_) fun y s'' hcb => ?_)
    · exact seg_leaf (.error x) (seg_back co go hC hcb)
    · exact seg_leaf (.error y) (seg_back co go hC hcb)
  have loop : ∀ (j n cn : Nat) (κ : AK) (C : Wk) (s0 sh : Shared) (σ : L2.St) (τ : Env) (H1 : Hp) (m1 : S), n + cn = sizeLine → PC C κ → G.At C ip σ H1 sh m1 → REnv G.K G.cl G.Z m1 H1 σ τ → Fut s H m1 H1 →
      cwhT T1 F yl j cn κ τ m1 D → Seg (model G.P G.w) G.A R (G.Y PC yl) n s0 (.whileLoop c sts [] G.env) ((model G.P G.w).den (.whileLoop c sts [] G.env))
        (.ret (fun r => ((match r with | .ok f => (.pure f : Sem Flow) | .error e => .raise e).onRaise (cameBack G.env)).wrap K J gd lv) none (gd false) (lv []) cd p [] :: fs) sh := by
    intro j
    induction j with
    | zero => intro n cn κ C s0 sh σ τ H1 m1 hn pc a1 re1 fu hw; exact hw.elim
    | succ j ih =>
      intro n cn κ C s0 sh σ τ H1 m1 hn pc a1 re1 fu hw
      refine seg_whileLoop ?_
      rw [cl_.over]
      refine wpAny_mono ((hc C a1.sz).pt.run ip sh σ H1 (fun b H2 => ∃ m2, Fut m1 H1 m2 H2 ∧ REnv G.K G.cl G.Z m2 H2 σ τ ∧ Sto G.K G.cl G.Z m2 H2 ∧ if b = true then F yl cn κ τ m2 { nx := fun c' κ' τ' s' => cwhT T1 F yl j c' κ' τ' s' D, ct := fun c' κ' τ' s' => cwhT T1 F yl j c' κ' τ' s' D, bk := D.nx, rt := D.rt } else D.nx cn κ τ m2) a1.inv
        ⟨G.Z, τ, m1, re1, a1.sto, mt _ _ _ _ _ _ (fun b s1 p H1 f so1 => ⟨s1, f, RepE.fut f re1, so1, p⟩) (fun _ _ q => q.elim) hw⟩) (fun b s1 q => ?_) fun x s' hx => out n s0 x C s' a1.sz hx
      obtain ⟨H2, I2, m2, f2, re2, so2, q⟩ := q
      have a2 := a1.step I2 so2 f2
      cases b with
      | true =>
        rw [if_pos rfl] at q ⊢
        refine hb.run PC yl ip R n cn κ C s0 _ _ _ _ id id s1 σ τ H2 m2 _ my cl_ hn ⟨fun n' cn' κ' C' s0' s7 f hn' pc' hs => ?_, fun n' C' s0' x s7 hC hx => out n' s0' x C' s7 hC hx⟩ pc a2 re2 q
        obtain ⟨σ7, H7, m7, at7, f7, q7⟩ := hs
        cases f with
        | next => obtain ⟨τ7, re7, q7⟩ := q7; exact seg_again rfl (ih n' cn' κ' C' s0' s7 σ7 τ7 H7 m7 hn' pc' at7 re7 (fu.trans (f2.trans f7)) q7)
        | cont => obtain ⟨τ7, re7, q7⟩ := q7; exact seg_again rfl (ih n' cn' κ' C' s0' s7 σ7 τ7 H7 m7 hn' pc' at7 re7 (fu.trans (f2.trans f7)) q7)
        | brk => obtain ⟨τ7, re7, q7⟩ := q7; exact seg_leaf (.ok .next) (go.ok n' cn' κ' C' s0' s7 .next hn' pc' ⟨σ7, H7, m7, at7, fu.trans (f2.trans f7), τ7, re7, q7⟩)
        | ret v => exact seg_leaf (.ok (.ret v)) (go.ok n' cn' κ' C' s0' s7 (.ret v) hn' pc' ⟨σ7, H7, m7, at7, fu.trans (f2.trans f7), q7⟩)
      | false =>
        rw [if_neg Bool.false_ne_true] at q ⊢
        refine seg_execs_nil ?_
        exact seg_leaf (.ok .next) (go.ok n cn κ C s0 s1 .next hn pc ⟨σ, H2, m2, a2, fu.trans f2, τ, re2, q⟩)
  exact loop j n cn κ C s0 sh σ τ H s hn pc at_ re (Fut.refl _ _) h'
end
end
end Mr
namespace Mr
open PySem PySem.Spec PyProof.Rows L2 Tw GenW
/-- where a generator ends: without an error -/
def endR (F : Shared → Prop) : GenEnd := fun _ _ r s1 => (r = .ok (.ret .none) ∨ r = .ok .next) ∧ F s1
def kapOf (M : Model) (A : Around) (R : GenEnd) (Y : Protocol) (n : Nat) (gs : GenState) : Resume → Shared → Prop := fun r s => match n with | 0 => False | m + 1 => gs.Goes M A R Y m r s
theorem wake_slp {M : Model} {A : Around} {R : GenEnd} {Y : Protocol} {n g : Nat} {E : Value → Shared → Prop} {s : Shared} {gs : GenState} {r : Resume} {l : List Value} {α : Type} {k : GenResult → Sem α} {Q : α → Shared → Prop} (at_ : s.gens[g]? = some gs)
    (goes : gs.Goes M A R Y n r (s.setGen g .running)) (ends : ∀ x s1, R n (s.setGen g .running) x s1 → wpAny M A (k (End.ret x).result) Q E (s1.setGen g .finished))
    (hands : ∀ v s1 gs', Slp gs' → gs'.bare = true → Y (n - 1) (s.setGen g .running) v s1 (kapOf M A R Y n gs') → wpAny M A (k (.yielded v)) Q E (s1.setGen g gs')) : wpAny M A (.resume g r l k) Q E s := by
  intro Γ p inA
  rw [Sem.wp_resume]
  have behind : ∀ e1 s1, SegEnd R Y n (Seg.next M A R Y n) (s.setGen g .running) e1 s1 → e1.quiet = true ∧ Sem.wp M Γ (k e1.result) (fun a _ => Q a) (fun e _ => E e) p (s1.setGen g e1.genState)
    | .ret x, s1, he => ⟨rfl, ends x s1 he Γ p inA⟩
    | .susp v g0 l0 k0 c0 p0 fs0, s1, he => by
      refine ⟨he.1, hands v s1 _ ⟨_, _, _, _, _, _, rfl⟩ (End.bare_of_quiet he.1) ?_ Γ p inA⟩
      unfold kapOf
      cases n <;> exact he.2
  cases gs with
  | fresh c =>
    obtain ⟨er, sg⟩ := goes
    subst er
    obtain ⟨e1, s1, run, he⟩ := seg_iff.mp sg (Γ.wake c p) p rfl (inA.wake c p)
    obtain ⟨b1, b2⟩ := behind e1 s1 he
    exact ⟨e1.result, s1.setGen g e1.genState, by unfold Wakes; rw [at_]; exact ⟨e1, s1, run, b1, rfl, rfl⟩, b2⟩
  | suspended k0 l0 c0 p0 fs0 cl =>
    obtain ⟨e1, s1, run, he⟩ := seg_iff.mp goes (Γ.wake c0 p) p0 rfl (inA.wake c0 p)
    obtain ⟨b1, b2⟩ := behind e1 s1 he
    exact ⟨e1.result, s1.setGen g e1.genState, by unfold Wakes; rw [at_]; exact ⟨e1, s1, run, b1, rfl, rfl⟩, b2⟩
  | running => cases goes
  | finished => cases goes
theorem next_slp {P : Program} {w : World} {A : Around} {E : Value → Shared → Prop} {s : Shared} {a : Addr} {g n : Nat} {gs : GenState} {F : Shared → Prop} {Y : Protocol} {Q : Option Value → Shared → Prop} (hd : A.handled = none) (lim : s.heap.NoLimit) (dp : A.depth < recursionLimit)
    (isG : s.heap.IsGen a g) (at_ : s.gens[g]? = some gs) (goes : gs.Goes (model P w) A.in1 (endR F) Y n (.send .none) (s.setGen g .running))
    (hands : ∀ v s1 gs', Slp gs' → gs'.bare = true → Y (n - 1) (s.setGen g .running) v s1 (kapOf (model P w) A.in1 (endR F) Y n gs') → Q (some v) (s1.setGen g gs'))
    (ends : ∀ s1, F s1 → ∀ h', (∀ b o, s1.heap.get? b = some o → h'.get? b = some o) → Q none { s1.setGen g .finished with heap := h' }) : wpAny (model P w) A (pyNext (.ref a)) Q E s := by
  unfold pyNext
  refine wpAny_bind (wpAny_attempt (wpAny_callSpecial?_slot (name := Str.ofString "__next__") isG.typeIs slot_gen_next (wpAny_call_entry slot_gen_next isG.typeIs entry_gen_next ?_ (args_gen_next _))))
  show wpAny _ A.in1 (Builtin.Generator.genWake (.ref a) (.send .none)) _ _ s
  unfold Builtin.Generator.genWake
  refine wpAny_bind (wpAny_holding (wpAny_genNumber isG (wpAny_bind (wpAny_genState at_ ?_))))
  have stop : ∀ {x : Result}, (x = .ok (.ret .none) ∨ x = .ok .next) → End.result (.ret x) = .returned .none := fun hr => by rcases hr with rfl | rfl <;> rfl
  cases gs with
  | running => cases goes
  | finished => cases goes
  | _ =>
    refine wpAny_bind (wpAny_roomToWake lim dp ?_)
    show wpAny _ A.in1 (Sem.resume g (.send .none) [] _) _ _ s
    refine wake_slp at_ goes ?_ fun v s1 gs' sl bare hv => wpAny_pure ⟨v, rfl, wpAny_pure (hands v s1 gs' sl bare hv)⟩
    rintro x s1 ⟨hr, hF⟩
    first | rw [stop hr] | simp only [stop hr]
    show wpAny _ A.in1 (newExc (.type "StopIteration") [] >>= _) _ _ _
    refine wpAny_bind ?_
    simp only [newExc, newTuple]
    refine wpAny_bind (wpAny_newObj_type (wpAny_bind (m := firstArgMember _ _) (wpAny_of_eq (a := Value.none) (by first | rfl | (simp only [firstArgMember]; rfl)) (wpAny_newObj_type ?_ (by size_fits)))) (by size_fits))
    simp only [raiseNew]
    refine wpAny_bind (wpAny_bind (wpAny_handled ?_))
    first | rw [show A.in1.handled = none from hd] | rw [hd]
    refine wpAny_throw (wpAny_bind (wpAny_isInstance (T := "StopIteration") (b := true) ⟨_, Heap.get?_push_size _ rfl, rfl⟩ isSubtype_stop ?_))
    exact wpAny_pure (ends s1 hF _ fun b o hb => Heap.get?_push_of_some _ (Heap.get?_push_of_some _ hb))
/-- its names, as its frame has them (none of them a cell) -/
def Gf.Lcs (G : Gf) (σ : L2.St) (h : Heap) : Prop := ∃ m, h.Ns G.L m ∧ ∀ (i : Nat) (x : Str) (v : V), G.N[i]? = some x → σ[i]? = some (some v) → Vis G.sc x → ∃ u, RelV v u ∧ G.env.kindOf x = some .local ∧ m x = some u
/-- what holds of its def -/
structure Gf.St (G : Gf) : Prop where
  kind : G.sc.kind = .function
  plain : ∀ x, G.sc.names.lookup x ≠ some .cell ∧ G.sc.names.lookup x ≠ some .free
  cells : cellsFrom (G.L + 1) G.sc.names [] = []
theorem Gf.St.nocell {G : Gf} (st : G.St) (x : Str) (c : Addr) : G.env.cells.lookup x ≠ some c := by
  show (cellsFrom (G.L + 1) G.sc.names []).lookup x ≠ some c
  rw [st.cells]
  exact nofun
theorem frames_trc {L : Nat} {s : Shared} {base : Heap} : ∀ (l : List PySem.Env), (∀ b ∈ frs l, b < L) → s.heap.FunFrames base l → (trc L s).heap.FunFrames base l
  | [], _, _ => trivial
  | env :: r, hb, ⟨hk, ⟨a, o, hf, hn, ho, hd⟩, hr⟩ => by
    refine ⟨hk, ⟨a, o, hf, hn, trc_of ho (hb a ?_), hd⟩, frames_trc r (fun b h => hb b ?_) hr⟩
    · unfold frs
      rw [List.filterMap_cons, hf]
      exact List.mem_cons_self
    · unfold frs at h ⊢
      rw [List.filterMap_cons, hf]
      exact List.mem_cons_of_mem _ h
section
variable {G : Gf} {X : Cx} {pins ip : List (Addr × Obj)} {σc σ : L2.St} {C : Wk} {sh : Shared}
theorem Gf.Lcs.keep {h h' : Heap} (l : G.Lcs σ h) (e : ∀ o, h.get? G.L = some o → h'.get? G.L = some o) : G.Lcs σ h' := by
  obtain ⟨m, ⟨o, es, ep, ho, r⟩, q⟩ := l
  exact ⟨m, ⟨o, es, ep, e o ho, r⟩, q⟩
theorem Gf.lcs_of (st : G.St) {H : Hp} (I : Inv (G.X C) ip σ H sh) : G.Lcs σ sh.heap := by
  obtain ⟨m, hn, hl⟩ := I.loc
  refine ⟨m, hn, fun i x v h1 h2 h3 => ?_⟩
  obtain ⟨u, r, q⟩ := hl i x v h1 h2 h3
  refine ⟨u, r, ?_⟩
  rcases q with q | ⟨_, c, e, _⟩
  · exact q
  · exact (st.nocell x c e).elim
/-- the context anew, from the consumer's -/
theorem Gf.mk_inv (I : Inv X pins σc C.H C.sh) (e1 : X.prog = G.P) (e2 : X.w = G.w) (e3 : X.K = G.K) (e4 : X.mg = G.mg) (e5 : X.base = G.base) (e6 : X.stack = G.out) (hh : sh.heap = C.sh.heap) (ho : sh.os = C.sh.os) (hb : AllBare sh.gens) (fr : G.A.frames = some G.out) (hd : G.A.handled = none)
    (st : G.St) (hL : G.L ≤ C.sh.heap.objs.size) (lo : ∀ b ∈ frs G.out, b < G.L) (hbs : G.base.objs.size ≤ G.L) (lcs : G.Lcs σ C.sh.heap) (hHL : C.H G.L = none) (len : σ.length = G.N.length)
    (pin : ∀ p ∈ C.pn ++ ip, C.sh.heap.get? p.1 = some p.2 ∧ C.H p.1 = none ∧ p.1 ≠ G.L ∧ p.1 ∉ frs G.out ∧ ∀ v, p.2.data ≠ .cell v) : Inv (G.X C) ip σ C.H sh := by
  obtain ⟨P, w, K, mg, base, cl, N, q, sc, f, cd, A, out, L, Z⟩ := G
  dsimp only at e1 e2 e3 e4 e5 e6
  subst e1 e2 e3 e4 e5 e6
  have sz : (trc L C.sh).heap.objs.size = L := trc_size hL
  have nc : ∀ x c, (cellsFrom (L + 1) sc.names []).lookup x = some c → False := fun x c h => st.nocell x c h
  have bl : ∀ b o, X.base.get? b = some o → b < L := fun b o e => Nat.lt_of_lt_of_le (Heap.lt_size e) hbs
  refine ⟨⟨I.ok.mod, st.kind, rfl, rfl, Nat.le_of_eq sz, fun x y c h => (nc x c h).elim, fun x h => ?_, fun x c _ h => (nc x c h).elim, fun _ => hd, Around.frames_deeper fr, .inr ⟨rfl, rfl⟩, fun b z => (nomatch z), fun b o e => ⟨trc_of (I.bs b o e).1 (bl b o e), (I.bs b o e).2⟩, ?_, fun b o _ => (nofun), fun b z => (nomatch z), frames_trc _ lo I.stack, fun b hb => I.stkFree b hb⟩,
    ho, hb, ⟨fun b o h n _ _ => ?_, fun b o h n _ _ => ?_, fun b o h n _ => n, fun b o h _ => ?_, fun b xs h => h, fun b o u h => h, fun b ps h => ⟨#[], by rw [Array.append_empty]; exact h⟩⟩, ?_, fun x c h => (nc x c h).elim, hHL, fun x c h => (nc x c h).elim, fun p hp => ?_, ?_, len⟩
  · rcases h with h | h
    · exact ((st.plain x).1 h).elim
    · exact ((st.plain x).2 h).elim
  · show X.base.objs.size ≤ (trc L C.sh).heap.objs.size
    rw [sz]
    exact hbs
  · rw [hh]; exact (trc_some h).2
  · rw [hh]; exact ⟨o.slots, (trc_some h).2⟩
  · rw [hh]; exact ⟨o, (trc_some h).2⟩
  · obtain ⟨m, hn, hl⟩ := lcs
    refine ⟨m, by rw [hh]; exact hn, fun i x v h1 h2 h3 => ?_⟩
    obtain ⟨u, r, q⟩ := hl i x v h1 h2 h3
    exact ⟨u, r, .inl q⟩
  · rw [hh]; exact pin p hp
  · rw [hh]; exact I.hok
end
/-- what it does by its consumer: the arguments, the store, what is done with a thing, what the consumer keeps, the end -/
abbrev FCn := List T → S → YL → AK → (AK → S → Prop) → Prop
/-- where it ends -/
def Gf.F (G : Gf) (PC : Wk → AK → Prop) (e : AK → S → Prop) (sh : Shared) : Prop := ∃ κ C ip σ H s, PC C κ ∧ G.At C ip σ H sh s ∧ e κ s
/-- a generator that has not begun -/
def Made (P : Program) (w : World) (K : PySem.W.Frag) (mg : Str → Option Value) (base : Heap) (cl : CL) (k : Nat) (out : List PySem.Env) (s : Shared) (vs : List V) (G : FCn) (u : Value) (s' : Shared) : Prop :=
  ∃ (a : Addr) (g : Nat) (c : Code) (N : List Str) (q : Str) (sc : Scope) (f : Addr) (cd : Value), u = .ref a ∧ (s.heap.objs.size < a ∧ a < s'.heap.objs.size) ∧ (s'.heap.IsGen a g ∧ s'.gens[g]? = some (.fresh c)) ∧ (s'.os = s.os ∧ AllBare s'.gens ∧ s'.heap.NoLimit) ∧ (∀ b o, s.heap.get? b = some o → s'.heap.get? b = some o) ∧
    ∀ (A : Around) (Z : Addr → Prop), Rm k A → A.frames = some out → ∀ G1 : Gf, G1 = ⟨P, w, K, mg, base, cl, N, q, sc, f, cd, A, out, s.heap.objs.size, Z⟩ → G1.St ∧ G1.Lcs (start N vs) s'.heap ∧ (start N vs).length = N.length ∧
      ∀ (yl : YL) (PC : Wk → AK → Prop) (e : AK → S → Prop) (κ : AK) (C : Wk) (ts : List T) (sh : Shared), MonY yl → G1.At C [] (start N vs) C.H sh C.m → Reps K cl Z C.m C.H vs ts → PC C κ → G ts C.m yl κ e → Seg (model P w) A (endR (G1.F PC e)) (G1.Y PC yl) sizeLine sh c ((model P w).den c) [] sh
structure GnC (P : Program) (w : World) (K : PySem.W.Frag) (mg : Str → Option Value) (base : Heap) (cl : CL) (k : Nat) (f : Addr) (fd : FuncData) (ps : List Str) (G : FCn) : Prop where
  len : ∀ ts s yl κ e, G ts s yl κ e → ts.length = ps.length
  run : ∀ (A : Around) (out : List PySem.Env) (s : Shared) (H : Hp) (args : Args) (us : List Value) (vs : List V), Rm k A → Env0 P w K mg base A out s H → BindsTo s fd args (ps.zip us) → Vals vs us → vs.length = ps.length →
    codeAny (model P w) A (.call (.ref f) args) (fun r s' => ∃ u, r = .ok (.ret u) ∧ Made P w K mg base cl k out s vs G u s') s
section
variable {P : Program} {w : World} {K : PySem.W.Frag} {mg : Str → Option Value} {base : Heap} {cl : CL} {k : Nat} {f : Addr} {ps N : List Str} {G : FCn} {F : FCS}
theorem gnC {name q : Str} {pr : Arguments} {body : List Stmt} {sc : Scope} {dV kV doc pm cdv ct oc : Value} {an od : Option Addr} {osl : Array (Option Value)}
    (lk : K.lookup f = some ⟨oc, od, .func (PySem.W.fnOf name q pr body sc dV kV doc pm an cdv ct), osl⟩) (hcd : PySem.W.codeIn K cdv q = true) (gs : GScope N ps sc) (hcl : ∀ L, cellsFrom (L + 1) sc.names [] = []) (len : ∀ ts s yl κ e, G ts s yl κ e → ts.length = ps.length)
    (hB : ∀ (A : Around) (out : List PySem.Env) (L : Nat) (Z : Addr → Prop), Rm k (A.deeper (envOfC q sc L f cdv)) → JCs ⟨P, w, K, mg, base, cl, N, q, sc, f, cdv, A, out, L, Z⟩ body F)
    (hF : ∀ ts s yl κ e, MonY yl → G ts s yl κ e → F yl 0 κ (startT N ts) s ⟨fun _ κ _ s => e κ s, e, fun _ _ _ _ => False, fun _ _ _ _ => False⟩) :
    GnC P w K mg base cl (k + 1) f (PySem.W.fnOf name q pr body sc dV kV doc pm an cdv ct) ps G := by
  refine ⟨len, ?_⟩
  intro A out s H args us vs rm ev bd rel hlen
  have inK : K.In s.heap := ev.mod.kin.keeps fun b o z => (ev.bs b o z).1
  have nolim : s.heap.NoLimit := ev.mod.nolimit.keeps fun b o z => (ev.bs b o z).1
  have noC : ∀ x, sc.names.lookup x ≠ some .cell ∧ sc.names.lookup x ≠ some .free := by
    intro x
    refine ⟨fun z => ?_, fun z => gs.nofree _ (PySem.mem_of_lookup z) rfl⟩
    obtain ⟨c, e⟩ := cell_has (n := 0 + 1) z
    rw [hcl 0] at e
    cases e
  have kinds : ∀ z ∈ ps.zip us, sc.names.lookup z.1 = some .local ∨ (sc.names.lookup z.1 = some .cell ∧ ((cellsFrom (s.heap.objs.size + 1) sc.names []).lookup z.1).isSome = true) := by
    rintro ⟨n, v⟩ hz
    rcases gs.par n (List.of_mem_zip hz).1 with h | h
    · exact .inl h
    · exact ((noC n).1 h).elim
  refine codeAny_call_generator rm.room.depth (inK _ _ lk) rfl gs.co gs.gen rfl (PySem.W.codeRec_of inK hcd) (bd _ _ _ _ ?_)
  refine wpAny_newFunctionEnv_cells gs.kind kinds ?_
  rintro env rfl s1 ic
  have lim1 : s1.heap.NoLimit := nolim.keeps ic.toInCall.keep
  have old1 : ∀ b o, s.heap.get? b = some o → s1.heap.get? b = some o := ic.toInCall.keep
  have new1 : s.heap.objs.size < s1.heap.objs.size := ic.toInCall.ns.lt
  obtain ⟨os1, gens1⟩ : s1.os = s.os ∧ s1.gens = s.gens := by
    obtain ⟨h1, tk, e, _⟩ := ic.done
    rw [e]
    exact ⟨rfl, rfl⟩
  have I1 : Inv (gcxOf P w K mg base N q sc f cdv A out s H noXK []) [] (start N vs) H s1 := inv_startG gs rm.room.hd ev hlen rel ic
  refine ⟨lim1, _, rfl, ?_⟩
  have made : ∀ (go : Obj) (nm qn : Value) (tk : Nat), go.cls = .type "generator" → go.data = .fields #[.int s1.gens.size 0, nm, qn] → go.slots = #[] → (∀ h : Heap, (h.push go).get? h.objs.size = some go) →
      Made P w K mg base cl (k + 1) out s vs G (.ref s1.heap.objs.size) { s1 with gens := s1.gens.push (.fresh (.func body (envOfC q sc s.heap.objs.size f cdv))), toks := tk, heap := s1.heap.push go } := by
    intro go nm qn tk hcls hdat hslo hat
    have bare1 : AllBare s1.gens := by rw [gens1]; exact ev.bare
    refine ⟨s1.heap.objs.size, s1.gens.size, _, N, q, sc, f, cdv, rfl, ⟨new1, ?_⟩, ⟨⟨go, nm, qn, hat _, hcls, hdat, hslo⟩, Array.getElem?_push_size ..⟩, ⟨os1, AllBare.push bare1 rfl, lim1.keeps fun b o z => Heap.get?_push_of_some _ z⟩, fun b o z => Heap.get?_push_of_some _ (old1 b o z), ?_⟩
    · show s1.heap.objs.size < (s1.heap.push go).objs.size
      rw [Heap.size_push]
      exact Nat.lt_succ_self _
    rintro B Z rmB frB G1 rfl
    refine ⟨⟨gs.kind, noC, hcl _⟩, ?_, I1.len, ?_⟩
    · obtain ⟨m, hn, hl⟩ := I1.loc
      refine ⟨m, ?_, fun i x v h1 h2 h3 => ?_⟩
      · obtain ⟨o, es, ep, ho, r⟩ := hn
        exact ⟨o, es, ep, Heap.get?_push_of_some _ ho, r⟩
      · obtain ⟨u, r, z⟩ := hl i x v h1 h2 h3
        refine ⟨u, r, ?_⟩
        rcases z with z | ⟨_, c, e, _⟩
        · exact z
        · have e' : (cellsFrom (s.heap.objs.size + 1) sc.names []).lookup x = some c := e
          rw [hcl] at e'
          cases e'
    intro yl PC e κ C ts sh my at_ rs pc hG
    refine seg_func ?_
    refine (hB B out s.heap.objs.size Z (rmB.deeper _)).run PC yl [] _ sizeLine 0 κ C sh _ [] _ _ id id sh (start N vs) (startT N ts) C.H C.m _ my ⟨over_func, rfl, rfl, rfl⟩ (Nat.add_zero _) ⟨fun n cn κ' C' s0 s' fl hn pc' hs => ?_, fun n C' s0 x s' hC hx => ?_⟩ pc at_ (RepE.start rs) (hF _ _ _ _ _ my hG)
    · obtain ⟨σ', H', m', a', f', z⟩ := hs
      match fl, z with
      | .next, ⟨τ', re', z⟩ => exact seg_end (.ok (.ret .none)) ⟨.inl rfl, κ', C', [], σ', H', m', pc', a', z⟩
      | .ret u, ⟨eu, z⟩ => subst eu; exact seg_end (.ok (.ret .none)) ⟨.inl rfl, κ', C', [], σ', H', m', pc', a', z⟩
      | .brk, ⟨_, _, z⟩ => exact z.elim
      | .cont, ⟨_, _, z⟩ => exact z.elim
    · refine seg_wrap ?_
      rw [over_func]
      have hx' : wpAny (model P w) (B.deeper (envOfC q sc s.heap.objs.size f cdv)) (leaving (envOfC q sc s.heap.objs.size f cdv) x) (fun _ s'' => L2.CX P w out C'.H (trc s.heap.objs.size C'.sh) noXK x s'' ∧ ∀ p ∈ C'.pn, s''.heap.get? p.1 = some p.2) (fun _ _ => False) s' := hx
      refine wpAny_mono hx' (fun _ s'' z => ?_) fun _ s'' z => z.elim
      obtain ⟨⟨_, _, _, _, _, _, _, _, _, _, _, _, no⟩, _⟩ := z
      exact no.elim
  exact made _ _ _ _ rfl rfl rfl fun h => Heap.get?_push_size _ rfl
end
def Bar (U : Nat → Option GenState) : Prop := ∀ j G, U j = some G → G.bare = true
theorem unp_bare {U : Nat → Option GenState} {s : Shared} (b : Bar U) (h : AllBare s.gens) : AllBare (unp U s).gens := fun y hy => by
  obtain ⟨i, hi, e⟩ := Array.mem_iff_getElem.mp hy
  have q : (unp U s).gens[i]? = some y := by rw [Array.getElem?_eq_getElem hi, e]
  rw [unp_get] at q
  cases e1 : s.gens[i]? with
  | none => rw [e1] at q; cases q
  | some x =>
    rw [e1] at q
    cases e2 : U i with
    | none =>
      rw [e2] at q
      cases q
      exact h _ (Array.mem_of_getElem? e1)
    | some G =>
      rw [e2] at q
      cases q
      exact b _ _ e2
theorem slpU_bare {s : Shared} (h : AllBare s.gens) : Bar (slpU s) := fun j G e => by
  unfold slpU at e
  split at e
  · rename_i e1
    cases e
    exact h _ (Array.mem_of_getElem? e1)
  · cases e
/-- an exception's way is not looked at by sleepers -/
def XeB (xe : Value → Shared → Prop) : Prop := ∀ x U s, xe x s → Bes U s → Bar U → xe x (unp U s)
/-- to be the same but for the sleepers -/
structure Bsd (s s1 s2 : Shared) : Prop where
  heap : s2.heap = s1.heap
  os : s2.os = s1.os
  bare : AllBare s1.gens → AllBare s2.gens
  slp : ∀ (g : Nat) (G : GenState), s.gens[g]? = some G → Slp G → s2.gens[g]? = some G
theorem beside {α : Type} {M : Model} {A : Around} {t : Sem α} {Q : α → Shared → Prop} {E : Value → Shared → Prop} {s : Shared} (hb : AllBare s.gens) (hE : XeB E) (h : wpAny M A t (fun a s1 => ∀ s2, Bsd s s1 s2 → Q a s2) E (pall s)) : wpAny M A t Q E s := by
  intro Γ p hΓ
  obtain ⟨b, e⟩ := bes_pall s
  have := wp_beside M Γ (slpU s) t _ _ p (pall s) b (h Γ p hΓ)
  rw [e] at this
  refine Sem.wp_mono M Γ t ?_ ?_ p s this
  · rintro a p' s' ⟨s1, rfl, b1, q⟩
    refine q _ ⟨rfl, rfl, unp_bare (slpU_bare hb), fun g G hg sl => ?_⟩
    obtain ⟨k, l, c, p, fs, cl, rfl⟩ := sl
    have hU : slpU s g = some (.suspended k l c p fs cl) := by unfold slpU; rw [hg]
    exact unp_some (b1.at_ _ _ hU).2 hU
  · rintro a p' s' ⟨s1, rfl, b1, q⟩
    exact hE _ _ _ q b1 (slpU_bare hb)
theorem inv_heap {X : Cx} {pins : List (Addr × Obj)} {σ : L2.St} {H : Hp} {s s2 : Shared} (I : Inv X pins σ H s) (h1 : s2.heap = s.heap) (h2 : s2.os = s.os) (h3 : AllBare s2.gens) : Inv X pins σ H s2 :=
  I.call' (ch := []) h2 (Un.kept fun b o e => by rw [h1]; exact e) (I.hok.kept fun b o e => by rw [h1]; exact e) h3 fun b z => (nomatch z)
structure MetGC (P : Program) (w : World) (K : PySem.W.Frag) (mg : Str → Option Value) (base : Heap) (cl : CL) (k : Nat) (c : Nat) (m : Str) (G : FCn) : Prop where
  ex : ∃ (f : Addr) (fd : FuncData) (ps : List Str), Cls K (cl c) ∧ Meth K (cl c) m f ∧ GnC P w K mg base cl k f fd ps G ∧ Binds K fd ps []
section
variable {P : Program} {w : World} {K : PySem.W.Frag} {mg : Str → Option Value} {base : Heap} {cl : CL} {k c : Nat} {x m qual : Str} {st : Stmt} {ps N : List Str} {G : FCn} {C : FCS}
theorem metC (D : MetAt K (cl c) m qual st ps []) (hS : GScope N ps (C8.fnScope st)) (hcl : ∀ L, cellsFrom (L + 1) (C8.fnScope st).names [] = []) (len : ∀ ts s yl κ e, G ts s yl κ e → ts.length = ps.length)
    (hB : ∀ (f : Addr) (cdv : Value) (A : Around) (out : List PySem.Env) (L : Nat) (Z : Addr → Prop), Rm k (A.deeper (envOfC qual (C8.fnScope st) L f cdv)) → JCs ⟨P, w, K, mg, base, cl, N, qual, C8.fnScope st, f, cdv, A, out, L, Z⟩ (C8.fnBody st) C)
    (hF : ∀ ts s yl κ e, MonY yl → G ts s yl κ e → C yl 0 κ (startT N ts) s ⟨fun _ κ _ s => e κ s, e, fun _ _ _ _ => False, fun _ _ _ _ => False⟩) : MetGC P w K mg base cl (k + 1) c m G := by
  obtain ⟨f, fd, ds, hc, hm, F, b, v⟩ := D.ex
  cases v
  obtain ⟨oc, od, dV, kV, doc, pm, an, cdv, ct, osl, rfl, lk, hcd⟩ := F.ex
  exact ⟨f, _, ps, hc, hm, gnC lk hcd hS hcl len (fun A out L Z rm => hB f cdv A out L Z rm) hF, b⟩
end
section
variable {X : Cx} {cl : CL} {W : WX} {tg e o : Expr} {es : List Expr} {A : FA} {Fo : FE} {g : FG} {B : FS} {body : List Stmt} {k j c : Nat} {G : FCn} {x m : Str} {px pos pos' apos : Pos}
/-- the body of a for over a generator, as its consumer -/
def ylF (g : FG) (B : FS) (D : DS) : YL := fun t κ s r => g t κ.1 s fun τ2 s3 => B τ2 s3 ⟨fun τ3 s4 => r (τ3, []) s4, D.rt, D.nx, fun τ3 s4 => r (τ3, []) s4, D.xr⟩
/-- a call that makes a generator: what its arguments are -/
structure JQ (X : Cx) (cl : CL) (W : WX) (k : Nat) (iter : Expr) (G : FCn) (A : FA) : Prop where
  mon : MonA A
  run : ∀ (pins : List (Addr × Obj)) (sh : Shared) (σ : L2.St) (H : Hp) (Z : Addr → Prop) (τ : Env) (s : S) (Q : List T → S → Prop) (E : KX), Inv X pins σ H sh → REnv X.K cl Z s H σ τ → Sto X.K cl Z s H → A τ s Q E → (∀ er s1, E er s1 → postW X.K cl Z s H σ W er s1) → (∀ ts s1, Q ts s1 → ∃ yl κ e, G ts s1 yl κ e) →
    wpAny (model X.prog X.w) X.A (eval iter X.env) (fun u s2 => ∃ (s1 : Shared) (H1 : Hp) (m1 : S) (vs : List V) (ts : List T), Inv X pins σ H1 s1 ∧ Made X.prog X.w X.K X.mg X.base cl k X.stack s1 vs G u s2 ∧ REnv X.K cl Z m1 H1 σ τ ∧ Sto X.K cl Z m1 H1 ∧ Reps X.K cl Z m1 H1 vs ts ∧ Fut s H m1 H1 ∧ Q ts m1) X.xe sh
/-- o.m() -/
def aMet0 (c : Nat) (m : Str) (Fo : FE) : FA := fun τ s Q E => Fo τ s (fun x s1 => match s1.obj? x with | some (c', fs) => c' = c ∧ fs.lookup m = none ∧ Q [x] s1 | none => False) E
theorem jq_meth0 {pl : Sem Bool} (d : MetGC X.prog X.w X.K X.mg X.base cl k c m G) (hr : Rm j X.A) (hk : k ≤ j) (ho : JE X cl W o Fo)
    (ht : eval (.Call (.Attribute o m apos) [] [] pos') X.env = (do
      let ov ← eval o X.env
      standAt apos.atName
      let (f, first) ← holding [ov] (getMethod ov m pl)
      callWith pos' f first (backTo pos' (starEach [] X.env)) (backToKw pos' (keywordEach [] X.env))) := by rfl) : JQ X cl W k (.Call (.Attribute o m apos) [] [] pos') G (aMet0 c m Fo) := by
  refine ⟨fun τ s Q Q' E E' hq hE h => ho.mon _ _ _ _ _ _ (fun x s1 h1 => ?_) hE h, fun pins sh σ H Z τ s Q E I re so h hE hl => ?_⟩
  · split at h1
    · exact ⟨h1.1, h1.2.1, hq _ _ h1.2.2⟩
    · exact h1
  obtain ⟨f, fd, ps, hcl, hm, F, b⟩ := d.ex
  have h' : tT X.K cl W Fo σ H fun x H1 => ∃ dx fs a tx s1, x = .ref a ∧ H1 a = some (.ins (cl c) dx fs) ∧ fs.lookup m = none ∧ Fut s H s1 H1 ∧ REnv X.K cl Z s1 H1 σ τ ∧ Rep X.K cl Z s1 H1 x tx ∧ Sto X.K cl Z s1 H1 ∧ Q [tx] s1 := by
    refine go ho.mon re so h (fun tx s1 x H1 p1 f1 re1 r1 so1 => ?_) hE
    split at p1
    · rename_i c' fs e1
      obtain ⟨rfl, l, q⟩ := p1
      obtain ⟨a, dx, fvs, rfl, h1, rf⟩ := obj_of so1 r1 e1
      exact ⟨dx, fvs, a, tx, s1, rfl, h1, rf.lookup0 l, f1, re1, r1, so1, q⟩
    · exact p1.elim
  refine PySem.W.methodCall_KW (pl := pl) (thn (ho.pe.run pins sh σ H _ I h') ?_) ht
  rintro u s1 ⟨x, H1, I1, rx, dx, fs, a, tx, m1, rfl, ea, l, f1, re1, r1, so1, q⟩
  cases rx
  refine getmeth_ok I1 ea hcl hm l ?_
  refine PySem.W.callWith_K0 (first := [.ref a]) I1.kIn hm.kp ?_
  obtain ⟨yl0, κ0, e0, hG⟩ := hl _ m1 q
  have len1 : ([Value.ref a] ++ []).length = ps.length := F.len _ _ _ _ _ hG
  refine wpAny_call (codeAny_mono (F.run X.A X.stack s1 H1 ⟨[.ref a], []⟩ [.ref a] [.ref a] (hr.mono hk) I1.env0 (by have := b s1 [.ref a] I1.kIn len1; rwa [List.append_nil] at this) (.cons rfl .nil) len1) ?_)
  rintro rr s' ⟨u, rfl, hG'⟩
  exact ⟨s1, H1, m1, [.ref a], [tx], I1, hG', re1, so1, .cons r1 .nil, f1, q⟩
/-- with less known of what follows -/
def cF (G : FCn) (g : FG) (B : FS) (ts : List T) (s : S) (τ : Env) (D : DS) : Prop := ∃ D0 : DS, D0.Le D ∧ G ts s (ylF g B D0) (τ, []) fun κ s2 => D0.nx κ.1 s2
def fForQ (G : FCn) (A : FA) (g : FG) (B : FS) : FS := fun τ s D => A τ s (fun ts s1 => cF G g B ts s1 τ D) (xk τ D)
theorem DS.Le.trans {D D' D2 : DS} (a : D.Le D') (b : D'.Le D2) : D.Le D2 := ⟨fun _ _ q => b.nx _ _ (a.nx _ _ q), fun _ _ q => b.rt _ _ (a.rt _ _ q), fun _ _ q => b.bk _ _ (a.bk _ _ q), fun _ _ q => b.ct _ _ (a.ct _ _ q), fun _ _ _ q => b.xr _ _ _ (a.xr _ _ _ q)⟩
end
/-- a generator whose things are all known ahead -/
def ylAll (yl : YL) (e : AK → S → Prop) : List T → AK → S → Prop
  | [], κ, s => e κ s
  | t :: ts, κ, s => yl t κ s fun κ' s' => ylAll yl e ts κ' s'
def gAll (R : List T → S → List T → Prop) : FCn := fun ts s yl κ e => ∃ outs, R ts s outs ∧ ylAll yl e outs κ s
theorem ylAll_for {g : FG} {B : FS} {D : DS} : ∀ (ts : List T) (τ : Env) (s : S), ylAll (ylF g B D) (fun κ s2 => D.nx κ.1 s2) ts (τ, []) s = forT (fun _ => True) g B ts τ s D
  | [], τ, s => by
    rw [ylAll, forT]
    exact (true_and _).symm
  | t :: ts, τ, s => by
    have e : (fun (τ3 : Env) (s4 : S) => ylAll (ylF g B D) (fun κ s2 => D.nx κ.1 s2) ts (τ3, []) s4) = fun τ2 s2 => forT (fun _ => True) g B ts τ2 s2 D := by
      funext τ2 s2
      exact ylAll_for ts τ2 s2
    rw [ylAll, forT]
    refine Eq.trans ?_ (true_and _).symm
    unfold ylF at e ⊢
    rw [e]
def hQ (G : FCn) (ts : List T) (s : S) (g : FG) (τ : Env) [B : Bx FS] [D : Bx DS] : Prop := cF G g B.v ts s τ D.v
theorem hQ.of {G : FCn} {ts : List T} {s : S} {g : FG} {τ : Env} {B : FS} {D : DS} (h : G ts s (ylF g B D) (τ, []) fun κ s2 => D.nx κ.1 s2) : @hQ G ts s g τ ⟨B⟩ ⟨D⟩ := ⟨D, ⟨fun _ _ q => q, fun _ _ q => q, fun _ _ q => q, fun _ _ q => q, fun _ _ _ q => q⟩, h⟩
theorem hQ.all {R : List T → S → List T → Prop} {ts outs : List T} {s : S} {g : FG} {τ : Env} {B : FS} {D : DS} (h : R ts s outs) (k : forT (fun _ => True) g B outs τ s D) : @hQ (gAll R) ts s g τ ⟨B⟩ ⟨D⟩ := hQ.of ⟨outs, h, by rw [ylAll_for]; exact k⟩
theorem rows_madeMuK : True := by
  have := @Mr.fForQ.eq_1
  have := @Mr.aMet0.eq_1
  have := @Mr.fC0.eq_1
  have := @Mr.fCThen.eq_1
  have := @Mr.fCPl.eq_1
  have := @Mr.fCYield.eq_1
  have := @Mr.fCIf.eq_1
  have := @Mr.fCFor.eq_1
  have := @Mr.fCWhile.eq_1
  have := @Mr.fCNever.eq_1
  trivial
end Mr
namespace Mr
open PySem PySem.Spec PyProof.Rows L2 Tw GenW
def cut (H : Hp) (D : Addr) : Hp := fun b => if b = D then none else H b
theorem cut_same {H : Hp} {D : Addr} : cut H D D = none := if_pos rfl
theorem cut_ne {H : Hp} {D b : Addr} (h : b ≠ D) : cut H D b = H b := if_neg h
theorem upd_cut {H : Hp} {D : Addr} {o : HO} (h : H D = some o) : upd (cut H D) D o = H := by
  funext b
  by_cases e : b = D
  · rw [e, upd_same, h]
  · rw [upd_ne e, cut_ne e]
theorem cut_upd {H : Hp} {D : Addr} {o : HO} (h : H D = none) : cut (upd H D o) D = H := by
  funext b
  by_cases e : b = D
  · rw [e, cut_same, h]
  · rw [cut_ne e, upd_ne e]
theorem cut_upd2 {H : Hp} {D : Addr} {o : HO} : cut (upd H D o) D = cut H D := by
  funext b
  by_cases e : b = D
  · rw [e, cut_same, cut_same]
  · rw [cut_ne e, cut_ne e, upd_ne e]
section
variable {K : PySem.W.Frag} {cl : CL} {Z : Addr → Prop} {s s' : S} {H H' : Hp} {D : Addr} {xs : List V}
theorem Sto.cut (so : Sto K cl (Hide Z D) s H) (nz : ¬ Z D) : Sto K cl Z s (Mr.cut H D) := by
  have nD := so.hid D (.inr rfl)
  obtain ⟨ys, hDo⟩ := nD.2
  have k : ∀ b u, ¬ Hide Z D b → H b = some u → Mr.cut H D b = some u := fun b u n h => by rw [cut_ne (fun e => n (.inr e))]; exact h
  refine ⟨fun p hp => ?_, fun a c h => ?_, so.apart, fun b hb => ?_, tabs_upd hDo ⟨nofun, nofun⟩ (fun b u n e => by rw [cut_ne n]; exact e) so.tabs⟩
  · obtain ⟨L, a, r, ns, h1, h2, h3, h4⟩ := so.pen p hp
    have e1 : p ≠ D := fun e => nD.1 (.inl (by rw [← e]; exact hp))
    exact ⟨L, a, r, ns, by rw [cut_ne e1]; exact h1, k _ _ h3.2 h2, ⟨h3.1, fun z => h3.2 (.inl z)⟩, h4⟩
  · have e1 : a ≠ D := fun e => nD.1 (.inr (by rw [← e, h]; exact Option.some_ne_none c))
    exact (so.cells a c h).move (cut_ne e1) (Reps.turn (fun _ q => .inl q) k) (RepF.turn (fun _ q => .inl q) k) (RepK.turn (fun _ q => .inl q) k)
  · obtain ⟨n, o, ho⟩ := so.hid b (.inl hb)
    exact ⟨n, o, by rw [cut_ne (fun e => nz (by rw [← e]; exact hb))]; exact ho⟩
theorem Fut.cut (f : Fut s H s' H') (h : H D = none) : Fut s H s' (Mr.cut H' D) :=
  ⟨fun b u hb n nt => ⟨by rw [cut_ne (ne_of_none hb h)]; exact (f.keep b u hb n nt).1, (f.keep b u hb n nt).2⟩, fun b kvv hb n => ⟨Rd.to (f.keepD b kvv hb n).1 fun o e => by rw [cut_ne (Rd.ne hb h)]; exact e, (f.keepD b kvv hb n).2⟩, f.pa⟩
theorem HOk.cut {P : Program} {w : World} {h : Heap} (ok : HOk P w H h) (hD : H D = some (.lst xs)) : HOk P w (Mr.cut H D) h := fun b u e => by
  by_cases z : b = D
  · rw [z, cut_same] at e; cases e
  · rw [cut_ne z] at e
    refine (ok b u e).stay (fun _ _ _ q => q) (fun d q => ?_) fun d ys q => ?_
    · rw [cut_ne (fun y => by rw [y, hD] at q; cases q)]; exact q
    · rw [cut_ne (fun y => by rw [y, hD] at q; cases q)]; exact q
end
section
variable {G : Gf} {X : Cx} {pins ip : List (Addr × Obj)} {σc σ : L2.St} {C : Wk} {sh : Shared} {D : Addr} {xs : List V}
theorem inv_cut {H : Hp} (I : Inv X pins σ H sh) (hD : H D = some (.lst xs)) : Inv X pins σ (cut H D) sh := by
  refine I.call' (ch := []) rfl ⟨fun b o e _ _ _ => e, fun b o e _ _ _ => ⟨o.slots, e⟩, fun b o e n _ => ?_, fun b o e _ => ⟨o, e⟩, fun b ys q => ?_, fun b o u q => ?_, fun b ps q => ⟨#[], ?_⟩⟩ (HOk.cut I.hok hD) I.bare fun b z => (nomatch z)
  · by_cases z : b = D
    · rw [z]; exact cut_same
    · rw [cut_ne z]; exact n
  · rw [cut_ne (fun y => by rw [y, hD] at q; cases q)]; exact q
  · rw [cut_ne (fun y => by rw [y, hD] at q; cases q)]; exact q
  · rw [Array.append_empty, cut_ne (fun y => by rw [y, hD] at q; cases q)]; exact q
/-- the block's context, when a thing has been handed out -/
theorem Gf.backB (I : Inv X [] σc (upd C.H D (.lst xs)) C.sh) (e1 : X.prog = G.P) (e2 : X.w = G.w) (e6 : X.stack = G.out) (hpn : X.pn = []) (hex : ∀ b, G.L ≤ b → b ∉ C.pn.map (·.1) → b ∈ X.ex ∨ X.s_0.heap.objs.size ≤ b) (hlo : X.env.locals ∈ C.pn.map (·.1)) (hcl : ∀ x c, X.env.cells.lookup x = some c → c < G.L)
    (hp : ∀ p ∈ C.pn, C.sh.heap.get? p.1 = some p.2) (hDp : D ∈ C.pn.map (·.1)) (hCD : C.H D = none) {H : Hp} (J : Inv (G.X C) ip σ H sh) : H D = none ∧ Inv X [] σc (upd H D (.lst xs)) sh := by
  have os : sh.os = C.sh.os := J.os
  obtain ⟨ch, hch⟩ : ∃ ch, ch = (List.range C.sh.heap.objs.size).filter fun b => decide (G.L ≤ b) && decide (b ∉ C.pn.map (·.1)) := ⟨_, rfl⟩
  have two : ∀ b o, C.sh.heap.get? b = some o → b ∉ ch → (trc G.L C.sh).heap.get? b = some o ∨ b ∈ C.pn.map (·.1) := by
    intro b o h n
    by_cases z1 : b < G.L
    · exact .inl (trc_of h z1)
    by_cases z2 : b ∈ C.pn.map (·.1)
    · exact .inr z2
    refine (n ?_).elim
    rw [hch]
    refine List.mem_filter.mpr ⟨List.mem_range.mpr (Heap.lt_size h), ?_⟩
    rw [Bool.and_eq_true]
    exact ⟨decide_eq_true (Nat.le_of_not_lt z1), decide_eq_true z2⟩
  have up : ∀ b ∈ ch, G.L ≤ b ∧ b ∉ C.pn.map (·.1) := by
    intro b hb
    rw [hch] at hb
    have z := (List.mem_filter.mp hb).2
    rw [Bool.and_eq_true] at z
    exact ⟨of_decide_eq_true z.1, of_decide_eq_true z.2⟩
  have pinned : ∀ b ∈ C.pn.map (·.1), ∀ o, C.sh.heap.get? b = some o → sh.heap.get? b = some o ∧ H b = none := by
    intro b hb o h
    obtain ⟨p, hp', rfl⟩ := List.mem_map.mp hb
    obtain ⟨z1, z2, _⟩ := J.pin p (List.mem_append_left _ hp')
    rw [hp p hp'] at h
    cases h
    exact ⟨z1, z2⟩
  obtain ⟨hz, its, n, rv, eD⟩ := I.hok D _ upd_same
  obtain ⟨eD2, HD⟩ := pinned D hDp _ eD
  have B : Un (frs G.out) [] C.H H (trc G.L C.sh).heap sh.heap := J.base
  refine ⟨HD, I.call' (ch := ch) os ⟨fun b o h n hb hx => ?_, fun b o h n hb hx => ?_, fun b o h n hx => ?_, fun b o h hx => ?_, fun b ys q => ?_, fun b o u q => ?_, fun b ps q => ?_⟩ ?_ J.bare fun b hb => ?_⟩
  · have nD : b ≠ D := fun y => by rw [y, upd_same] at n; cases n
    rw [upd_ne nD] at n
    rcases two b o h hx with z | z
    · rw [e6] at hb; exact B.keep b o z n hb (by simp)
    · exact (pinned b z o h).1
  · have nD : b ≠ D := fun y => by rw [y, upd_same] at n; cases n
    rw [upd_ne nD] at n
    rcases two b o h hx with z | z
    · rw [e6] at hb; exact B.slot b o z n hb (by simp)
    · exact ⟨o.slots, (pinned b z o h).1⟩
  · have nD : b ≠ D := fun y => by rw [y, upd_same] at n; cases n
    rw [upd_ne nD] at n ⊢
    rcases two b o h hx with z | z
    · exact B.free b o z n (by simp)
    · exact (pinned b z o h).2
  · rcases two b o h hx with z | z
    · exact B.there b o z (by simp)
    · exact ⟨o, (pinned b z o h).1⟩
  · have nD : b ≠ D := fun y => by rw [y, upd_same] at q; cases q
    rw [upd_ne nD] at q ⊢
    exact B.tups b ys q
  · have nD : b ≠ D := fun y => by rw [y, upd_same] at q; cases q
    rw [upd_ne nD] at q ⊢
    exact B.frzs b o u q
  · have nD : b ≠ D := fun y => by rw [y, upd_same] at q; cases q
    rw [upd_ne nD] at q
    obtain ⟨more, z⟩ := B.tbls b ps q
    exact ⟨more, by rw [upd_ne nD]; exact z⟩
  · rw [e1, e2]
    intro b u q
    by_cases z : b = D
    · rw [z, upd_same] at q
      cases q
      rw [z]
      exact ⟨hz, its, n, rv, eD2⟩
    · rw [upd_ne z] at q
      refine (J.hok b u q).stay (fun _ _ _ y => y) (fun d y => ?_) fun d ys y => ?_
      · rw [upd_ne (ne_of_none y HD)]; exact y
      · rw [upd_ne (ne_of_none y HD)]; exact y
  · obtain ⟨z1, z2⟩ := up b hb
    refine ⟨hex b z1 z2, fun z => z2 (z ▸ hlo), fun x c e z => ?_, fun p hp' => ?_⟩
    · have := hcl x c e
      rw [z] at this
      exact absurd this (Nat.not_lt.mpr z1)
    · rw [hpn] at hp'
      cases hp'
end
section
variable {X : Cx} {cl : CL} {tg iter elt : Expr} {ifs : List Expr} {g : TG} {g' : FG} {ttV : TT} {tt : FT} {te : FE} {k j : Nat} {G : FCn} {scope : Scope} {own : List (Str × Nat)} {pos pos' : Pos} {use : Option (Value → Sem Unit)} {Qf : Value → Shared → Prop}
/-- a turn of a comprehension over a generator, as its consumer -/
def ylL (g : FG) (tt : FT) (te : FE) (τw : Env) : YL := fun t κ s r => κ.2.length < 1000000 ∧ g t τw s fun τ1 s1 => tt τ1 s1 (fun b s2 => if b = true then te τ1 s2 (fun y s3 => r (κ.1, κ.2 ++ [y]) s3) noX else r κ s2) noX
theorem mon_ylL (mg : ∀ t τ s (Q Q' : Env → S → Prop), (∀ τ s, Q τ s → Q' τ s) → g' t τ s Q → g' t τ s Q') (mt : MonT tt) (me : MonE te) (τw : Env) : MonY (ylL g' tt te τw) := fun t κ s r r' h q =>
  ⟨q.1, mg _ _ _ _ _ (fun τ1 s1 q => mt _ _ _ _ _ _ (fun b s2 q => w_ite q (me _ _ _ _ _ _ (fun y s3 q => h _ _ q) fun _ _ q => q) (h _ _)) (fun _ _ q => q) q) q.2⟩
theorem lcC_core {pins : List (Addr × Obj)} {s : Shared} {σ : L2.St} {τ : Env} {H : Hp} {m0 : S} {Z : Addr → Prop} {Q : VK} (hN : X.N.Nodup) (hr : Rm j X.A) (hk : k + 2 ≤ j) (ok : BlkOk X.N X.env.scope scope own) (hoc : ∀ y ∈ scope.names, y.2 ≠ .cell)
    (hg : ∀ (s : Shared) (H : Hp) (C : Addr) (cl : List (Str × Addr)) (fp : List Addr), PG (X.blk s H scope (compEnvC scope cl C X.env) fp) tg g) (hG : GT X.K cl (own.map (·.2)) g g') (ht : ∀ (s : Shared) (H : Hp) (C : Addr) (cl : List (Str × Addr)) (fp : List Addr), PTs (X.blk s H scope (compEnvC scope cl C X.env) fp) ifs ttV)
    (htV : ∀ σ H Q, tTT X.K cl W0 tt σ H Q → ttV σ H Q) (he : ∀ (s : Shared) (H : Hp) (C : Addr) (cl' : List (Str × Addr)) (fp : List Addr), JE (X.blk s H scope (compEnvC scope cl' C X.env) fp) cl W0 elt te) (mt : MonT tt) (me : MonE te) (hs : ∀ x, foldedSetIterable iter X.env x = pure x) (I : Inv X pins σ H s)
    (made : wpAny (model X.prog X.w) X.A (eval iter X.env) (fun u s2 => ∃ (s1 : Shared) (H1 : Hp) (m1 : S) (vs : List V) (ts : List T) (yl : YL) (e0 : AK → S → Prop), Inv X pins σ H1 s1 ∧ Made X.prog X.w X.K X.mg X.base cl k X.stack s1 vs G u s2 ∧ REnv X.K cl Z m1 H1 σ τ ∧ Sto X.K cl Z m1 H1 ∧ Reps X.K cl Z m1 H1 vs ts ∧ Fut m0 H m1 H1 ∧ MonY yl ∧
      (∀ t κ s r, yl t κ s r → ylL g' tt te (wipeT τ (own.map (·.2))) t κ s r) ∧ (∀ κ s, e0 κ s → post X.K cl Z m0 H Q (.lst κ.2) s) ∧ G ts m1 yl (τ, []) e0) X.xe s)
    (hRR : ∀ D C s' m H', Inv X pins σ H' s' → Q (.ref D) H' → s'.heap.Ns C m → FpOk X pins H' C → compPost (model X.prog X.w) X.A X.xe use Qf (.ref D) C (.ok .next) s') :
    wpAny (model X.prog X.w) X.A (comprehension (.ListComp elt [⟨tg, iter, ifs, 0⟩] scope pos) scope X.env pos' (newList []) false (eval iter X.env) use) Qf X.xe s := by
  have hfree : ∀ y ∈ scope.names, y.2 = .free → ∃ c, X.env.cells.lookup y.1 = some c := fun y hy e => (ok.free y hy e).elim (fun z => I.ok.has _ (.inl z)) fun z => I.ok.has _ (.inr z)
  refine wpAny_comprehension_free (use := use) rfl hs (closure_ok hfree) ok.kind (fun y hy e => by rw [ok.uniq y hy, e]) (thn made fun u s2 hm => ?_)
  obtain ⟨s1, H1, m1, vs, ts, yl, e0, I1, hm, re, so, rs, f1, my, hyl, hend, hG0⟩ := hm
  obtain ⟨a, gn, c, N, q, sc, f, cd, rfl, ⟨la, lt⟩, ⟨isG, fresh⟩, ⟨os2, bare2, lim2⟩, old, prom⟩ := hm
  obtain ⟨oa, nm, qn, ga, ca, da, sa⟩ := isG
  refine wpAny_pyIter_gen ⟨oa, nm, qn, ga, ca, da, sa⟩ ?_
  refine wpAny_newObj_type (newEnv_comp ?_) (by show 0 ≤ sizeLine; decide)
  obtain ⟨L, eL⟩ : ∃ L, L = s1.heap.objs.size := ⟨_, rfl⟩
  have I2 : Inv X pins σ H1 s2 := I1.call' (ch := []) os2 (Un.kept old) (I1.hok.kept old) bare2 fun b z => (nomatch z)
  obtain ⟨D, hD⟩ : ∃ D, D = s2.heap.objs.size := ⟨_, rfl⟩
  have aL : L < a := by rw [eL]; exact la
  have aD : a < D := by rw [hD]; exact lt
  have fr1 : ∀ b, L ≤ b → H1 b = none := fun b hb => I1.hok.fresh (by rw [eL] at hb; exact hb)
  have hDn : H1 D = none := fr1 D (Nat.le_of_lt (Nat.lt_trans aL aD))
  -- the new list
  obtain ⟨s3, hs3⟩ : ∃ s3 : Shared, s3 = { s2 with heap := s2.heap.push { cls := .type "list", data := .seq ([] : List Value).toArray } } := ⟨_, rfl⟩
  have I3 : Inv X pins σ (upd H1 D (.lst [])) s3 := by
    rw [hs3]
    refine I2.laid (t' := s2.toks) (fun b o e => Heap.get?_push_of_some _ e) (Nat.le_of_eq hD.symm) ⟨Nat.zero_le _, [], 0, .nil, ?_⟩
    rw [hD]
    exact Heap.get?_push_size _ rfl
  have h3 : s3.heap = s2.heap.push { cls := .type "list", data := .seq ([] : List Value).toArray } := by rw [hs3]
  have sz3 : s3.heap.objs.size = D + 1 := by rw [h3, Heap.size_push, hD]
  -- all that is young but the generator's object may turn
  obtain ⟨fp, hfp⟩ : ∃ fp, fp = (List.range D).filter fun b => decide (L ≤ b) && decide (b ≠ a) := ⟨_, rfl⟩
  have fpm : ∀ b, b ∈ fp ↔ b < D ∧ L ≤ b ∧ b ≠ a := fun b => by
    rw [hfp, List.mem_filter, List.mem_range, Bool.and_eq_true, decide_eq_true_eq, decide_eq_true_eq]
  have f3 : ∀ b ∈ fp, FpOk X pins (upd H1 D (.lst [])) b ∧ b < s3.heap.objs.size := fun b hb => by
    obtain ⟨z1, z2, _⟩ := (fpm b).mp hb
    refine ⟨I1.fpOk (by rw [eL] at z2; exact z2) ?_, by rw [sz3]; exact Nat.lt_succ_of_lt z1⟩
    rw [upd_ne (Nat.ne_of_lt z1)]
    exact fr1 b z2
  have I4 := block_start I3 ok hN f3
  have pg := hg s3 (upd H1 D (.lst [])) s3.heap.objs.size (cellsFrom (s3.heap.objs.size + 1) scope.names (cloFrom X.env.cells scope.names [])) fp
  have pt := ht s3 (upd H1 D (.lst [])) s3.heap.objs.size (cellsFrom (s3.heap.objs.size + 1) scope.names (cloFrom X.env.cells scope.names [])) fp
  have pe := he s3 (upd H1 D (.lst [])) s3.heap.objs.size (cellsFrom (s3.heap.objs.size + 1) scope.names (cloFrom X.env.cells scope.names [])) fp
  have clo : ∀ x c, (cellsFrom (s3.heap.objs.size + 1) scope.names (cloFrom X.env.cells scope.names [])).lookup x = some c → c < L := by
    intro x c e
    rw [← Heap.size_push s3.heap { cls := .type "dict", data := .dict #[] }] at e
    rcases cells_mem (PySem.mem_of_lookup e) with hm | ⟨z, _, _⟩
    · rcases cloFrom_mem hm with z | ⟨z1, z2⟩
      · cases z
      · obtain ⟨c2, hc⟩ := hfree _ z1 rfl
        obtain ⟨v, z⟩ := I1.cell _ _ hc
        rw [z2, hc, eL]
        exact z.lt
    · exact (hoc _ z rfl).elim
  rw [← hs3]
  show codeAny _ _ (.compStart (.ListComp elt [⟨tg, iter, ifs, 0⟩] scope pos) 0 (.ref a) (.ref s2.heap.objs.size) (compEnvC scope (cellsFrom (s3.heap.objs.size + 1) scope.names (cloFrom X.env.cells scope.names [])) s3.heap.objs.size X.env)) (compPost (model X.prog X.w) X.A X.xe use Qf (.ref s2.heap.objs.size) s3.heap.objs.size) { s3 with heap := pushCells (s3.heap.push { cls := .type "dict", data := .dict #[] }) scope.names }
  rw [← hD]
  generalize hce : compEnvC scope (cellsFrom (s3.heap.objs.size + 1) scope.names (cloFrom X.env.cells scope.names [])) s3.heap.objs.size X.env = ce at I4 pg pt pe ⊢
  have cL : ce.locals = s3.heap.objs.size := by subst hce; rfl
  have ccl : ∀ x c, ce.cells.lookup x = some c → c < L := by subst hce; exact clo
  have atD : upd H1 D (.lst []) D = some (.lst []) := upd_same
  have k1 : Fut m1 H1 m1 (upd H1 D (.lst [])) := Fut.new hDn
  have so3 : Sto X.K cl (Hide Z D) m1 (upd H1 D (.lst [])) := so.hide hDn
  have zz : ∀ b, Hide Z D b → Z b ∨ H1 b = none := fun b q => q.imp id fun e => by rw [e]; exact hDn
  have reW : REnv X.K cl Z m1 H1 (L2.wipe σ (own.map (·.2))) (wipeT τ (own.map (·.2))) := re.wipe _
  have old4 : ∀ b o, s2.heap.get? b = some o → (pushCells (s3.heap.push { cls := .type "dict", data := .dict #[] }) scope.names).get? b = some o := fun b o e => pushCells_keeps _ _ _ _ (Heap.get?_push_of_some _ (by rw [h3]; exact Heap.get?_push_of_some _ e))
  have freeG : ∀ b, L ≤ b → b ≠ D → upd H1 D (.lst []) b = none := fun b hb hn => by rw [upd_ne hn]; exact fr1 b hb
  generalize hH3 : upd H1 D (.lst []) = H3 at I3 I4 pg pt pe atD k1 so3 freeG f3
  generalize hs4 : ({ s3 with heap := pushCells (s3.heap.push { cls := .type "dict", data := .dict #[] }) scope.names } : Shared) = s4 at I4 ⊢
  have g4 : s4.gens = s2.gens := by rw [← hs4, hs3]
  have o4 : s4.os = s2.os := by rw [← hs4, hs3]
  have keep4 : ∀ b o, s2.heap.get? b = some o → s4.heap.get? b = some o := by rw [← hs4]; exact old4
  have nZD : ¬ Z D := fun z => by
    obtain ⟨_, o, ho⟩ := so.hid D z
    rw [hDn] at ho
    cases ho
  have eH : ∀ av, cut (upd H1 D (.lst av)) D = H1 := fun av => cut_upd hDn
  obtain ⟨G1, eG⟩ : ∃ G1 : Gf, G1 = ⟨X.prog, X.w, X.K, X.mg, X.base, cl, N, q, sc, f, cd, X.A.in1, X.stack, s1.heap.objs.size, Z⟩ := ⟨_, rfl⟩
  obtain ⟨st, lcs, len, prom⟩ := prom X.A.in1 Z ((hr.mono (by omega : k + 1 ≤ j)).in1) I1.ok.frames G1 eG
  have L_ : G1.L = L := by rw [eG, eL]
  have dn : ∀ v, oa.data ≠ .cell v := fun v z => by rw [da] at z; cases z
  have st1 : ∀ b ∈ frs X.stack, b < L := fun b hb => by
    obtain ⟨_, o, ho, _⟩ := I1.stack.mem hb
    rw [eL]; exact Heap.lt_size ho
  have bs1 : G1.base.objs.size ≤ G1.L := by
    rw [L_, eL, eG]
    exact Nat.le_trans I1.ok.bsz I1.sz
  have big3 : D < s3.heap.objs.size := by rw [sz3]; exact Nat.lt_succ_self _
  obtain ⟨Xb, eXb⟩ : ∃ Xb, Xb = X.blk s3 H3 scope ce fp := ⟨_, rfl⟩
  obtain ⟨vw, evw⟩ : ∃ vw, vw = own.map (·.2) := ⟨_, rfl⟩
  rw [← evw] at I4 reW hG hyl
  rw [← eXb] at I4 pg pt pe
  have xp : Xb.prog = X.prog ∧ Xb.w = X.w ∧ Xb.K = X.K ∧ Xb.mg = X.mg ∧ Xb.base = X.base ∧ Xb.stack = X.stack ∧ Xb.A = X.A := by rw [eXb]; exact ⟨rfl, rfl, rfl, rfl, rfl, rfl, rfl⟩
  obtain ⟨PC, ePC⟩ : ∃ PC : Wk → AK → Prop, PC = fun C κ => (a, oa) ∈ C.pn ∧ s3.heap.objs.size ∈ C.pn.map (·.1) ∧ D ∈ C.pn.map (·.1) ∧ (∀ p ∈ C.pn, C.sh.heap.get? p.1 = some p.2) ∧ L ≤ C.sh.heap.objs.size ∧ C.H D = none ∧ Fut m1 H1 C.m C.H ∧ κ.1 = τ ∧ ∃ av, Inv Xb [] (L2.wipe σ vw) (upd C.H D (.lst av)) C.sh ∧ Reps X.K cl Z C.m C.H av κ.2 := ⟨_, rfl⟩
  -- its context, from the block's
  have mk : ∀ {C : Wk} {sh : Shared} {σc σ' : L2.St} {ip : List (Addr × Obj)}, Inv Xb [] σc C.H C.sh → sh.heap = C.sh.heap → sh.os = C.sh.os → AllBare sh.gens → L ≤ C.sh.heap.objs.size → G1.Lcs σ' C.sh.heap → C.H L = none → σ'.length = G1.N.length →
      (∀ p ∈ C.pn ++ ip, C.sh.heap.get? p.1 = some p.2 ∧ C.H p.1 = none ∧ L ≤ p.1 ∧ p.1 ≠ L ∧ ∀ v, p.2.data ≠ .cell v) → Inv (G1.X C) ip σ' C.H sh := by
    intro C sh σc σ' ip I hh ho hb hL l hn hlen hpin
    refine Gf.mk_inv I (by rw [eG]; exact xp.1) (by rw [eG]; exact xp.2.1) (by rw [eG]; exact xp.2.2.1) (by rw [eG]; exact xp.2.2.2.1) (by rw [eG]; exact xp.2.2.2.2.1) (by rw [eG]; exact xp.2.2.2.2.2.1) hh ho hb (by rw [eG]; exact I1.ok.frames) (by rw [eG]; exact hr.room.hd) st (by rw [L_]; exact hL) (by rw [show G1.out = X.stack by rw [eG], L_]; exact st1) bs1 l (by rw [L_]; exact hn) hlen ?_
    intro p hp'
    obtain ⟨q1, q2, q3, q4, q5⟩ := hpin p hp'
    refine ⟨q1, q2, by rw [L_]; exact q4, fun z => ?_, q5⟩
    rw [show G1.out = X.stack by rw [eG]] at z
    exact Nat.lt_irrefl _ (Nat.lt_of_lt_of_le (st1 _ z) q3)
  -- the block's context, from its
  have back : ∀ {C : Wk} {κ : AK} {ip : List (Addr × Obj)} {σg : L2.St} {Hg : Hp} {sh : Shared} {mg : S}, PC C κ → G1.At C ip σg Hg sh mg → Hg D = none ∧ Fut m1 H1 mg Hg ∧ Sto X.K cl Z mg Hg ∧ κ.1 = τ ∧ ∃ av, Inv Xb [] (L2.wipe σ vw) (upd Hg D (.lst av)) sh ∧ Reps X.K cl Z mg Hg av κ.2 := by
    intro C κ ip σg Hg sh mg pc at_
    rw [ePC] at pc
    obtain ⟨p1, p2, p3, p4, p5, p6, fu, ek, av, Ib, rav⟩ := pc
    have soC : Sto X.K cl Z mg Hg := by have z := at_.sto; rw [eG] at z; exact z
    have hex : ∀ b, G1.L ≤ b → b ∉ C.pn.map (·.1) → b ∈ Xb.ex ∨ Xb.s_0.heap.objs.size ≤ b := by
      intro b h1 h2
      rw [L_] at h1
      rw [eXb]
      by_cases z : b < D
      · refine .inl ((fpm b).mpr ⟨z, h1, fun z => h2 ?_⟩)
        rw [z]
        exact List.mem_map.mpr ⟨_, p1, rfl⟩
      · refine .inr ?_
        show s3.heap.objs.size ≤ b
        rw [sz3]
        have z2 : b ≠ D := fun z => h2 (by rw [z]; exact p3)
        exact Nat.lt_of_le_of_ne (Nat.le_of_not_lt z) (Ne.symm z2)
    obtain ⟨z1, z2⟩ := Gf.backB Ib (by rw [eG]; exact xp.1) (by rw [eG]; exact xp.2.1) (by rw [eG]; exact xp.2.2.2.2.2.1) (by rw [eXb]) hex (by rw [eXb]; show ce.locals ∈ _; rw [cL]; exact p2) (fun x c e => by rw [eXb] at e; rw [L_]; exact ccl x c e) p4 p3 p6 at_.inv
    exact ⟨z1, fu.trans at_.fut, soC, ek, av, z2, rav.fut at_.fut⟩
  -- a waker's word
  have wk : ∀ {H' : Hp} {sh : Shared} {m' : S} {av : List V} {acc : List T}, Inv Xb [] (L2.wipe σ vw) H' sh → H' D = some (.lst av) → sh.heap.get? a = some oa → H' a = none → sh.heap.get? L ≠ none → Fut m1 H1 m' (cut H' D) → Reps X.K cl Z m' (cut H' D) av acc →
      ∃ C : Wk, C.sh = sh ∧ C.H = cut H' D ∧ C.m = m' ∧ (∀ p ∈ C.pn, sh.heap.get? p.1 = some p.2 ∧ (cut H' D) p.1 = none ∧ L ≤ p.1 ∧ p.1 ≠ L ∧ ∀ v, p.2.data ≠ .cell v) ∧ (∀ p ∈ C.pn, p.1 = a ∨ p.1 = s3.heap.objs.size ∨ p.1 = D) ∧ PC C (τ, acc) := by
    intro H' sh m' av acc Ib hD' ha ha2 hL' fu rp
    obtain ⟨oB, hoB, doB⟩ : ∃ o, sh.heap.get? s3.heap.objs.size = some o ∧ ∀ v, o.data ≠ .cell v := by
      obtain ⟨m, ⟨o, es, ep, ho, hd, _⟩, _⟩ := Ib.loc
      rw [eXb] at ho
      have ho' : sh.heap.get? ce.locals = some o := ho
      rw [cL] at ho'
      exact ⟨o, ho', fun v z => by rw [hd] at z; cases z⟩
    have fB : H' s3.heap.objs.size = none := by
      have z := Ib.free
      rw [eXb] at z
      have z' : H' ce.locals = none := z
      rw [cL] at z'
      exact z'
    obtain ⟨_, its, n, rv, eD⟩ := Ib.hok D _ hD'
    have sub : ∀ p ∈ [(a, oa), (s3.heap.objs.size, oB), (D, lstObj its.toArray n)], p.1 = a ∨ p.1 = s3.heap.objs.size ∨ p.1 = D := by
      intro p hp
      simp only [List.mem_cons, List.not_mem_nil, or_false] at hp
      rcases hp with rfl | rfl | rfl
      · exact .inl rfl
      · exact .inr (.inl rfl)
      · exact .inr (.inr rfl)
    have all : ∀ p ∈ [(a, oa), (s3.heap.objs.size, oB), (D, lstObj its.toArray n)], sh.heap.get? p.1 = some p.2 ∧ (cut H' D) p.1 = none ∧ L ≤ p.1 ∧ p.1 ≠ L ∧ ∀ v, p.2.data ≠ .cell v := by
      intro p hp
      simp only [List.mem_cons, List.not_mem_nil, or_false] at hp
      rcases hp with rfl | rfl | rfl
      · exact ⟨ha, by rw [cut_ne (Nat.ne_of_lt aD)]; exact ha2, Nat.le_of_lt aL, Nat.ne_of_gt aL, dn⟩
      · exact ⟨hoB, by rw [cut_ne (Nat.ne_of_gt big3)]; exact fB, Nat.le_of_lt (Nat.lt_trans aL (Nat.lt_trans aD big3)), Nat.ne_of_gt (Nat.lt_trans aL (Nat.lt_trans aD big3)), doB⟩
      · exact ⟨eD, cut_same, Nat.le_of_lt (Nat.lt_trans aL aD), Nat.ne_of_gt (Nat.lt_trans aL aD), fun v z => by cases z⟩
    have szL : L ≤ sh.heap.objs.size := Nat.le_of_lt (Nat.lt_trans aL (Heap.lt_size ha))
    refine ⟨⟨sh, cut H' D, m', [(a, oa), (s3.heap.objs.size, oB), (D, lstObj its.toArray n)]⟩, rfl, rfl, rfl, all, sub, ?_⟩
    rw [ePC]
    refine ⟨List.mem_cons_self, List.mem_map.mpr ⟨(s3.heap.objs.size, oB), List.mem_cons_of_mem _ List.mem_cons_self, rfl⟩, List.mem_map.mpr ⟨(D, lstObj its.toArray n), List.mem_cons_of_mem _ (List.mem_cons_of_mem _ List.mem_cons_self), rfl⟩, fun p hp => (all p hp).1, szL, cut_same, fu, rfl, av, ?_, rp⟩
    show Inv Xb [] (L2.wipe σ vw) (upd (cut H' D) D (.lst av)) sh
    rw [upd_cut hD']
    exact Ib
  have aN : ∀ {H' : Hp} {sh : Shared} {σ' : L2.St} {P : List (Addr × Obj)}, (a, oa) ∈ P → Inv Xb P σ' H' sh → sh.heap.get? a = some oa ∧ H' a = none := fun hm I => by
    obtain ⟨z1, z2, _⟩ := I.pin (a, oa) (List.mem_append_right _ hm)
    exact ⟨z1, z2⟩
  have loop : codeAny (model X.prog X.w) X.A (.compLoop (.ListComp elt [⟨tg, iter, ifs, 0⟩] scope pos) 0 (.ref a) (.ref D) ce) (compPost (model X.prog X.w) X.A X.xe use Qf (.ref D) s3.heap.objs.size) s4 := by
    refine compLoop_any (fun n s' => ∃ H', Inv Xb [] (L2.wipe σ vw) H' s' ∧ s'.heap.IsGen a gn ∧ ∃ gs : GenState, s'.gens[gn]? = some gs ∧ gs.Goes (model X.prog X.w) X.A.in1 (endR (G1.F PC e0)) (G1.Y PC yl) n (.send .none) (s'.setGen gn .running)) ?_ sizeLine ?_
    rotate_left
    · have ga4 := keep4 a oa ga
      have Lin : s4.heap.get? L ≠ none := by
        obtain ⟨m, ⟨o, _, _, ho, _⟩, _⟩ := lcs
        rw [L_] at ho
        rw [keep4 L o ho]
        exact nofun
      obtain ⟨C, e1, e2, e3, hpn, hsub, pc⟩ := wk (m' := m1) (av := []) (acc := []) I4 atD ga4 (freeG a (Nat.le_of_lt aL) (Nat.ne_of_lt aD)) Lin (by rw [← hH3, eH]; exact Fut.refl _ _) .nil
      have eC : C.H = H1 := by rw [e2, ← hH3, eH]
      have bare4 : AllBare s4.gens := I4.bare
      refine ⟨H3, I4, ⟨oa, nm, qn, ga4, ca, da, sa⟩, .fresh c, by rw [g4]; exact fresh, rfl, ?_⟩
      have Ic : Inv Xb [] (L2.wipe σ vw) C.H C.sh := by
        rw [e1, e2]
        exact inv_cut I4 atD
      have szC : L ≤ C.sh.heap.objs.size := by rw [e1]; exact Nat.le_of_lt (Nat.lt_trans aL (Heap.lt_size ga4))
      have IG : Inv (G1.X C) [] (start N vs) C.H (s4.setGen gn .running) := by
        refine mk Ic (by rw [e1]; rfl) (by rw [e1]; rfl) (allBare_setGen bare4 rfl) szC (lcs.keep fun o z => by rw [e1]; exact keep4 _ o z) (by rw [eC]; exact fr1 _ (Nat.le_refl _)) (by rw [show G1.N = N by rw [eG]]; exact len) ?_
        intro p hp
        rw [List.append_nil] at hp
        rw [e1, e2]
        exact hpn p hp
      refine prom yl PC e0 (τ, []) C ts _ my ⟨trc_size (by rw [L_]; exact szC), IG, by rw [eG, e3, eC]; exact so, Fut.refl _ _, fun q z => (nomatch z), fun p _ q z => (nomatch z)⟩ (by rw [e3, eC]; exact rs) pc (by rw [e3]; exact hG0)
    rintro n s5 ⟨H5, I5, isG5, gs, at_, goes⟩
    have hgl : gn < s5.gens.size := (Array.getElem?_eq_some_iff.mp at_).1
    refine wpAny_gsz (n := gn + 1) hgl (next_slp hr.room.hd I5.nolimit hr.room.depth isG5 at_ goes (fun v s6 gs' sl bare hY hsz => ?_) fun s6 hF h' hk hsz => ?_)
    rotate_left
    · -- it has ended
      obtain ⟨κ, C, ip, σg, Hg, mg, pc, a6, q6⟩ := hF
      obtain ⟨HD, fu, so6, ek, av, I6, rav⟩ := back pc a6
      have J6 : Inv Xb [] (L2.wipe σ vw) (upd Hg D (.lst av)) { s6.setGen gn .finished with heap := h' } := I6.call' (ch := []) rfl (Un.kept hk) (I6.hok.kept hk) (allBare_setGen I6.bare rfl) fun b z => (nomatch z)
      rw [eXb] at J6
      have I7 : Inv X pins σ (upd Hg D (.lst av)) { s6.setGen gn .finished with heap := h' } := I3.call' (ch := fp) J6.os J6.base J6.hok J6.bare fun b hb => ⟨(f3 b hb).1.2.2.2.1, (f3 b hb).1.2.1, (f3 b hb).1.2.2.2.2.1, (f3 b hb).1.2.2.2.2.2⟩
      have nC : (upd Hg D (.lst av)) s3.heap.objs.size = none := by
        have z : (upd Hg D (.lst av)) ce.locals = none := J6.free
        rw [cL] at z
        exact z
      obtain ⟨m, hn, _⟩ := J6.loc
      have hn : ({ s6.setGen gn .finished with heap := h' } : Shared).heap.Ns ce.locals m := hn
      rw [cL] at hn
      refine hRR D s3.heap.objs.size _ m _ I7 ?_ hn (I3.fpOk (Nat.le_refl _) nC)
      exact hend κ mg q6 _ _ (f1.trans (fu.trans (Fut.new HD))) (.lst upd_same (so6.nomut HD) (rav.fut (Fut.new HD))) (so6.new HD)
    -- a thing has been handed out
    obtain ⟨cn, κ, C, ip, σg, Hg, mg, x, t, r, hn, pc, rv, a6, rp, hy, more⟩ := hY
    obtain ⟨HD, fu, so6, ek, av, I6, rav⟩ := back pc a6
    have pc' := pc
    rw [ePC] at pc'
    obtain ⟨p1, p2, p3, p4, p5, p6, _⟩ := pc'
    obtain ⟨oL, hoL, doL⟩ : ∃ o, s6.heap.get? L = some o ∧ ∀ v, o.data ≠ .cell v := by
      obtain ⟨m, ⟨o, es, ep, ho, hd, _⟩, _⟩ := a6.inv.loc
      have ho' : s6.heap.get? G1.L = some o := ho
      rw [L_] at ho'
      exact ⟨o, ho', fun v z => by rw [hd] at z; cases z⟩
    have HL : Hg L = none := by
      have z : Hg G1.L = none := a6.inv.free
      rw [L_] at z
      exact z
    have pinA : s6.heap.get? a = some oa ∧ Hg a = none := by
      obtain ⟨z1, z2, _⟩ := a6.inv.pin (a, oa) (List.mem_append_left _ p1)
      exact ⟨z1, z2⟩
    have ipne : ∀ p ∈ ip, p.1 ≠ L ∧ p.1 ≠ a ∧ p.1 ≠ s3.heap.objs.size ∧ p.1 ≠ D := by
      intro p hp
      have z0 := (a6.inv.pin p (List.mem_append_right _ hp)).2.2.1
      have z0' : p.1 ≠ G1.L := z0
      rw [L_] at z0'
      obtain ⟨y1, hy1, e1⟩ := List.mem_map.mp p2
      obtain ⟨y2, hy2, e2⟩ := List.mem_map.mp p3
      have e1' : y1.1 = s3.heap.objs.size := e1
      have e2' : y2.1 = D := e2
      refine ⟨z0', fun z => a6.ap _ p1 p hp z.symm, fun z => a6.ap _ hy1 p hp (by rw [e1', z]), fun z => a6.ap _ hy2 p hp (by rw [e2', z])⟩
    have priv : ∀ p ∈ (L, oL) :: (a, oa) :: ip, s6.heap.get? p.1 = some p.2 ∧ Hg p.1 = none ∧ L ≤ p.1 ∧ p.1 ≠ D ∧ p.1 ≠ s3.heap.objs.size ∧ ∀ v, p.2.data ≠ .cell v := by
      intro p hp
      rcases List.mem_cons.mp hp with z | z
      · rw [z]; exact ⟨hoL, HL, Nat.le_refl _, Nat.ne_of_lt (Nat.lt_trans aL aD), Nat.ne_of_lt (Nat.lt_trans aL (Nat.lt_trans aD big3)), doL⟩
      rcases List.mem_cons.mp z with z | z
      · rw [z]; exact ⟨pinA.1, pinA.2, Nat.le_of_lt aL, Nat.ne_of_lt aD, Nat.ne_of_lt (Nat.lt_trans aD big3), dn⟩
      · obtain ⟨z1, z2, _, _, z5⟩ := a6.inv.pin p (List.mem_append_right _ z)
        obtain ⟨_, _, y3, y4⟩ := ipne p z
        have z6 := a6.up p z
        rw [L_] at z6
        exact ⟨z1, z2, z6, y4, y3, z5⟩
    have gat : (s6.setGen gn gs').gens[gn]? = some gs' := by
      refine setGen_at ?_
      have z : (s6.setGen gn gs').gens.size = s6.gens.size := setGen_size _ _ _
      rw [z] at hsz
      exact hsz
    obtain ⟨Hh, eHh⟩ : ∃ Hh, Hh = upd Hg D (.lst av) := ⟨_, rfl⟩
    rw [← eHh] at I6
    have fh : Fut mg Hg mg Hh := by rw [eHh]; exact Fut.new HD
    have soh : Sto X.K cl (Hide Z D) mg Hh := by rw [eHh]; exact so6.hide HD
    have zh : ∀ b, Hide Z D b → Z b ∨ Hg b = none := fun b q => q.imp id fun e => by rw [e]; exact HD
    have reh : REnv X.K cl (Hide Z D) mg Hh (L2.wipe σ vw) (wipeT τ vw) := RepE.futz fh zh (RepE.fut fu reW)
    have rph : Rep X.K cl (Hide Z D) mg Hh x t := by
      rw [eG] at rp
      exact Rep.futz fh zh rp
    have I7 : Inv Xb ((L, oL) :: (a, oa) :: ip) (L2.wipe σ vw) Hh (s6.setGen gn gs') := by
      refine Inv.pins_of (inv_heap I6 rfl rfl (allBare_setGen I6.bare bare)) fun p hp => ?_
      obtain ⟨z1, z2, z3, z4, z5, z6⟩ := priv p hp
      refine ⟨z1, by rw [eHh, upd_ne z4]; exact z2, ?_, fun z => ?_, z6⟩
      · rw [eXb]
        show p.1 ≠ ce.locals
        rw [cL]
        exact z5
      · rw [eXb] at z
        exact Nat.lt_irrefl _ (Nat.lt_of_lt_of_le (st1 _ z) z3)
    obtain ⟨hz, hy⟩ := hyl t κ mg r hy
    -- the end of a turn
    have fin : ∀ {σ8 : L2.St} {H' : Hp} {s' : Shared} {m' : S} {av' : List V} {acc' : List T}, Inv Xb ((L, oL) :: (a, oa) :: ip) σ8 H' s' → s'.gens[gn]? = some gs' → L2.wipe σ8 vw = L2.wipe σ vw → H' D = some (.lst av') → Fut mg Hg m' (cut H' D) → Sto X.K cl Z m' (cut H' D) → Reps X.K cl Z m' (cut H' D) av' acc' → r (τ, acc') m' →
        ∃ n', n' < n ∧ ∃ H', Inv Xb [] (L2.wipe σ vw) H' s' ∧ s'.heap.IsGen a gn ∧ ∃ gs : GenState, s'.gens[gn]? = some gs ∧ gs.Goes (model X.prog X.w) X.A.in1 (endR (G1.F PC e0)) (G1.Y PC yl) n' (.send .none) (s'.setGen gn .running) := by
      intro σ8 H' s' m' av' acc' I' g8 ew hD' f' so' ra' q'
      have at8 : ∀ p ∈ (L, oL) :: (a, oa) :: ip, s'.heap.get? p.1 = some p.2 ∧ H' p.1 = none := fun p hp => by
        obtain ⟨z1, z2, _⟩ := I'.pin p (List.mem_append_right _ hp)
        exact ⟨z1, z2⟩
      have oL8 := at8 (L, oL) List.mem_cons_self
      have a8 := at8 (a, oa) (List.mem_cons_of_mem _ List.mem_cons_self)
      have J' : Inv Xb [] (L2.wipe σ vw) H' s' := by
        have z : Inv Xb [] σ8 H' s' := Inv.unpinned (pins := []) I'
        refine z.weak (by rw [← ew, wipe_length]) fun j v e => ?_
        rw [← ew] at e
        exact (wipe_some e).1
      obtain ⟨C', e1, e2, e3, hpn, hsub, pc8⟩ := wk (m' := m') (av := av') (acc := acc') J' hD' a8.1 a8.2 (by rw [oL8.1]; exact nofun) (fu.trans f') ra'
      have lc8 : G1.Lcs σg C'.sh.heap := by
        rw [e1]
        refine (Gf.lcs_of st a6.inv).keep fun o z => ?_
        rw [L_] at z ⊢
        rw [hoL] at z
        cases z
        exact oL8.1
      have szC : L ≤ C'.sh.heap.objs.size := by rw [e1]; exact Nat.le_of_lt (Heap.lt_size oL8.1)
      have IG : Inv (G1.X C') ip σg C'.H (s'.setGen gn .running) := by
        refine mk (σc := L2.wipe σ vw) (by rw [e1, e2]; exact inv_cut J' hD') (by rw [e1]; rfl) (by rw [e1]; rfl) (allBare_setGen J'.bare rfl) szC lc8 (by rw [e2, cut_ne (Nat.ne_of_lt (Nat.lt_trans aL aD))]; exact oL8.2) a6.inv.len ?_
        intro p hp
        rcases List.mem_append.mp hp with hp | hp
        · rw [e1, e2]
          exact hpn p hp
        · obtain ⟨z1, z2⟩ := at8 p (List.mem_cons_of_mem _ (List.mem_cons_of_mem _ hp))
          obtain ⟨_, _, z3, z4, _, z6⟩ := priv p (List.mem_cons_of_mem _ (List.mem_cons_of_mem _ hp))
          rw [e1, e2]
          exact ⟨z1, by rw [cut_ne z4]; exact z2, z3, (ipne p hp).1, z6⟩
      have kap := more (τ, acc') C' (s'.setGen gn .running) pc8 ⟨trc_size (by rw [L_]; exact szC), IG, by rw [eG, e3, e2]; exact so', by rw [e3, e2]; exact f', fun p hp w hw => by
        obtain ⟨y1, y2, y3, y4⟩ := ipne w hw
        rcases hsub p hp with z | z | z
        · rw [z]; exact fun h => y2 h.symm
        · rw [z]; exact fun h => y3 h.symm
        · rw [z]; exact fun h => y4 h.symm⟩ (by rw [e3]; exact q')
      unfold kapOf at kap
      cases n with
      | zero => exact kap.elim
      | succ n' => exact ⟨n', Nat.lt_succ_self _, H', J', ⟨oa, nm, qn, a8.1, ca, da, sa⟩, gs', g8, kap⟩
    have xebF : XeB (fun _ _ => False) := fun _ _ _ h _ _ => h
    refine go_of (o := oa) (n := "generator") pinA.1 ca da (by decide) ?_
    subst eXb
    refine thnF (beside (Q := fun _ s9 => ∃ σ8 H8, Inv (X.blk s3 H3 scope ce fp) ((L, oL) :: (a, oa) :: ip) σ8 H8 s9 ∧ s9.gens[gn]? = some gs' ∧ L2.wipe σ8 vw = L2.wipe (L2.wipe σ vw) vw ∧ ∃ τ8 m8, Fut mg Hh m8 H8 ∧ REnv X.K cl (Hide Z D) m8 H8 σ8 τ8 ∧ Sto X.K cl (Hide Z D) m8 H8 ∧ tt τ8 m8 (fun b s2 => if b = true then te τ8 s2 (fun y s3 => r (κ.1, κ.2 ++ [y]) s3) noX else r κ s2) noX) I7.bare xebF
      (thn (pg.run _ (pall (s6.setGen gn gs')) (L2.wipe σ vw) Hh x v _ (inv_heap I7 rfl rfl (pall_bare I7.bare)) rv (hG.go (Hide Z D) _ _ _ _ Hh mg (fun σ8 H8 => ∃ τ8 m8, Fut mg Hh m8 H8 ∧ REnv X.K cl (Hide Z D) m8 H8 σ8 τ8 ∧ Sto X.K cl (Hide Z D) m8 H8 ∧ tt τ8 m8 (fun b s2 => if b = true then te τ8 s2 (fun y s3 => r (κ.1, κ.2 ++ [y]) s3) noX else r κ s2) noX) rph reh soh
        (hG.mon _ _ _ _ _ (fun τ8 m8 q σ8 H8 f8 re8 so8 => ⟨τ8, m8, f8, re8, so8, q⟩) hy))) fun _ s8 ⟨σ8, H8, I8, ew, q8⟩ s9 b9 => ⟨σ8, H8, inv_heap I8 b9.heap b9.os (b9.bare I8.bare), b9.slp gn gs' gat sl, ew, q8⟩)) fun _ s9 h9 => ?_
    obtain ⟨σ8, H8, I9, g9, ew, τ8, m8, f8, re8, so8, q8⟩ := h9
    have ew8 : L2.wipe σ8 vw = L2.wipe σ vw := ew.trans (wipe_wipe σ vw)
    refine thnF (beside (Q := fun b s11 => ∃ H9, Inv (X.blk s3 H3 scope ce fp) ((L, oL) :: (a, oa) :: ip) σ8 H9 s11 ∧ s11.gens[gn]? = some gs' ∧ ∃ m9, Fut m8 H8 m9 H9 ∧ REnv X.K cl (Hide Z D) m9 H9 σ8 τ8 ∧ Sto X.K cl (Hide Z D) m9 H9 ∧ if b = true then te τ8 m9 (fun y s3 => r (κ.1, κ.2 ++ [y]) s3) noX else r κ m9) I9.bare xebF
      (thn (pt.run _ (pall s9) σ8 H8 (fun b H9 => ∃ m9, Fut m8 H8 m9 H9 ∧ REnv X.K cl (Hide Z D) m9 H9 σ8 τ8 ∧ Sto X.K cl (Hide Z D) m9 H9 ∧ if b = true then te τ8 m9 (fun y s3 => r (κ.1, κ.2 ++ [y]) s3) noX else r κ m9) (inv_heap I9 rfl rfl (pall_bare I9.bare))
        (htV _ _ _ ⟨Hide Z D, τ8, m8, re8, so8, mt _ _ _ _ _ _ (fun b m9 q H9 f9 so9 => ⟨m9, f9, RepE.fut f9 re8, so9, q⟩) (fun _ _ q => q.elim) q8⟩)) fun b s10 ⟨H9, I10, q9⟩ s11 b11 => ⟨H9, inv_heap I10 b11.heap b11.os (b11.bare I10.bare), b11.slp gn gs' g9 sl, q9⟩)) fun b s11 h11 => ?_
    obtain ⟨H9, I11, g11, m9, f9, re9, so9, q9⟩ := h11
    have keepD : ∀ {m' : S} {H' : Hp}, Fut mg Hh m' H' → H' D = some (.lst av) := fun f => (f.keep D _ (by rw [eHh]; exact upd_same) (soh.hid D (.inr rfl)).1 (NT.lst _)).1
    cases b with
    | false =>
      simp only [Bool.false_eq_true, if_false] at q9 ⊢
      have fa : Fut mg Hg m9 (cut H9 D) := (fh.trans (f8.trans f9)).cut HD
      have eκ : κ = (τ, κ.2) := by rw [← ek]
      exact fin I11 g11 ew8 (keepD (f8.trans f9)) fa (so9.cut nZD) (rav.fut fa) (by rw [← eκ]; exact q9)
    | true =>
      simp only [if_true] at q9 ⊢
      refine thnF (beside (Q := fun z s13 => ∃ yv H10, Inv (X.blk s3 H3 scope ce fp) ((L, oL) :: (a, oa) :: ip) σ8 H10 s13 ∧ RelV yv z ∧ s13.gens[gn]? = some gs' ∧ ∃ m10 ty, Fut m9 H9 m10 H10 ∧ Rep X.K cl (Hide Z D) m10 H10 yv ty ∧ Sto X.K cl (Hide Z D) m10 H10 ∧ r (κ.1, κ.2 ++ [ty]) m10) I11.bare xebF
        (thn (pe.pe.run _ (pall s11) σ8 H9 (fun yv H10 => ∃ m10 ty, Fut m9 H9 m10 H10 ∧ Rep X.K cl (Hide Z D) m10 H10 yv ty ∧ Sto X.K cl (Hide Z D) m10 H10 ∧ r (κ.1, κ.2 ++ [ty]) m10) (inv_heap I11 rfl rfl (pall_bare I11.bare))
          ⟨Hide Z D, τ8, m9, re9, so9, me _ _ _ _ _ _ (fun ty m10 q yv H10 f10 r10 so10 => ⟨m10, ty, f10, r10, so10, q⟩) (fun _ _ q => q.elim) q9⟩) fun z s12 ⟨yv, H10, I12, rz, q10⟩ s13 b13 => ⟨yv, H10, inv_heap I12 b13.heap b13.os (b13.bare I12.bare), rz, b13.slp gn gs' g11 sl, q10⟩)) fun z s13 h13 => ?_
      obtain ⟨yv, H10, I13, rz, g13, m10, ty, f10, ry, so10, q10⟩ := h13
      have fb := f8.trans (f9.trans f10)
      have hD10 := keepD fb
      have fa : Fut mg Hg m10 (cut H10 D) := (fh.trans fb).cut HD
      have lenA : av.length < sizeLine := by
        rw [rav.length]
        exact Nat.lt_of_lt_of_le hz size6
      have k10 : ∀ b u, ¬ Hide Z D b → H10 b = some u → cut H10 D b = some u := fun b u n h => by rw [cut_ne (fun e => n (.inr e))]; exact h
      refine thnF (beside (Q := fun _ s15 => ∃ n', n' < n ∧ ∃ H', Inv (X.blk s3 H3 scope ce fp) [] (L2.wipe σ vw) H' s15 ∧ s15.heap.IsGen a gn ∧ ∃ gs : GenState, s15.gens[gn]? = some gs ∧ gs.Goes (model X.prog X.w) X.A.in1 (endR (G1.F PC e0)) (G1.Y PC yl) n' (.send .none) (s15.setGen gn .running)) I13.bare xebF
        (app_ok (X := X.blk s3 H3 scope ce fp) (inv_heap I13 rfl rfl (pall_bare I13.bare)) hD10 lenA rz fun s14 I14 s15 b15 => fin (inv_heap I14 b15.heap b15.os (b15.bare I14.bare)) (b15.slp gn gs' g13 sl) ew8 upd_same (by rw [cut_upd2]; exact fa) (by rw [cut_upd2]; exact so10.cut nZD)
          (by rw [cut_upd2]; exact Reps.append (rav.fut fa) (.cons (Rep.turn (fun _ q => .inl q) k10 ry) .nil)) (by rw [← ek]; exact q10))) fun _ _ h => h
  exact codeAny_compStart_list loop (wpAny_pyIter_gen ⟨oa, nm, qn, keep4 a oa ga, ca, da, sa⟩ loop)
end
section
variable {X : Cx} {cl : CL} {W : WX} {tg iter elt c : Expr} {g : TG} {g' : FG} {tt : FT} {te : FE} {k j i : Nat} {G : FCn} {A : FA} {scope : Scope} {own : List (Str × Nat)} {pos pos' spos : Pos} {y : Str} {py : Pos}
/-- with less known of what follows -/
def cQL (G : FCn) (g : FG) (tt : FT) (te : FE) (τw : Env) (ts : List T) (s : S) (τ : Env) (Q : List T → S → Prop) : Prop := ∃ Q0 : List T → S → Prop, (∀ ys s, Q0 ys s → Q ys s) ∧ G ts s (ylL g tt te τw) (τ, []) fun κ s2 => Q0 κ.2 s2
def fLcQ (G : FCn) (A : FA) (g : FG) (tt : FT) (te : FE) (vs : List Nat) : FE := fun τ s Q E => A τ s (fun ts s1 => cQL G g tt te (wipeT τ vs) ts s1 τ fun ys s2 => Q (.lst ys) s2) E
theorem mon_lcQ {vs : List Nat} (ma : MonA A) : MonE (fLcQ G A g' tt te vs) := fun τ s Q Q' E E' hq hE h => ma _ _ _ _ _ _ (fun ts s1 ⟨Q0, i, q⟩ => ⟨Q0, fun ys s q => hq _ _ (i ys s q), q⟩) hE h
theorem lcQ_made (mgr : ∀ t τ s (Q Q' : Env → S → Prop), (∀ τ s, Q τ s → Q' τ s) → g' t τ s Q → g' t τ s Q') (mt : MonT tt) (me : MonE te) {pins : List (Addr × Obj)} {sh : Shared} {σ : L2.St} {H : Hp} {Z : Addr → Prop} {τ : Env} {s : S} {vs : List Nat} {Qm : KT} {E : KX} (hq : JQ X cl W k iter G A) (I : Inv X pins σ H sh) (re : REnv X.K cl Z s H σ τ) (so : Sto X.K cl Z s H) (h : fLcQ G A g' tt te vs τ s Qm E) (hE : ∀ er s1, E er s1 → postW X.K cl Z s H σ W er s1) :
    wpAny (model X.prog X.w) X.A (eval iter X.env) (fun u s2 => ∃ (s1 : Shared) (H1 : Hp) (m1 : S) (ws : List V) (ts : List T) (yl : YL) (e0 : AK → S → Prop), Inv X pins σ H1 s1 ∧ Made X.prog X.w X.K X.mg X.base cl k X.stack s1 ws G u s2 ∧ REnv X.K cl Z m1 H1 σ τ ∧ Sto X.K cl Z m1 H1 ∧ Reps X.K cl Z m1 H1 ws ts ∧ Fut s H m1 H1 ∧ MonY yl ∧
      (∀ t κ s r, yl t κ s r → ylL g' tt te (wipeT τ vs) t κ s r) ∧ (∀ κ s, e0 κ s → Qm (.lst κ.2) s) ∧ G ts m1 yl (τ, []) e0) X.xe sh := by
  refine thn (hq.run pins sh σ H Z τ s _ _ I re so h hE fun ts s1 ⟨Q0, _, hG⟩ => ⟨_, _, _, hG⟩) fun u s2 hm => ?_
  obtain ⟨s1, H1, m1, ws, ts, I1, made, re1, so1, rs, f1, Q0, i, hG⟩ := hm
  exact ⟨s1, H1, m1, ws, ts, _, _, I1, made, re1, so1, rs, f1, mon_ylL mgr mt me _, fun _ _ _ _ q => q, fun κ s q => i _ _ q, hG⟩
theorem je_lcQ (hN : X.N.Nodup) (hr : Rm j X.A) (hk : k + 2 ≤ j) (hq : JQ X cl W k iter G A) (ok : BlkOk X.N X.env.scope scope own) (hoc : ∀ y ∈ scope.names, y.2 ≠ .cell) (hg : ∀ (s : Shared) (H : Hp) (C : Addr) (cl : List (Str × Addr)) (fp : List Addr), PG (X.blk s H scope (compEnvC scope cl C X.env) fp) tg g) (hG : GT X.K cl (own.map (·.2)) g g')
    (he : ∀ (s : Shared) (H : Hp) (C : Addr) (cl' : List (Str × Addr)) (fp : List Addr), JE (X.blk s H scope (compEnvC scope cl' C X.env) fp) cl W0 elt te) (hs : ∀ x, foldedSetIterable iter X.env x = pure x := by intro _; rfl) : JE X cl W (.ListComp elt [⟨tg, iter, [], 0⟩] scope pos) (fLcQ G A g' fYes te (own.map (·.2))) := by
  refine ⟨mon_lcQ hq.mon, ⟨fun pins sh σ H Q I h => ?_⟩⟩
  obtain ⟨Z, τ, s, re, so, h⟩ := h
  rw [eval_ListComp]
  refine lcC_core hN hr hk ok hoc hg hG (fun _ _ _ _ _ => pts_nil) (fun _ _ _ q => yes_go q) he mon_yes (he X.s_0 (fun _ => none) 0 [] []).mon hs I (lcQ_made hG.mon mon_yes (he X.s_0 (fun _ => none) 0 [] []).mon hq I re so h fun _ _ q => q) fun D C s' m H' I' q hn f => ⟨m, hn, fun h'' sb => ?_⟩
  obtain ⟨f0, f1, f2, f3, f4, f5⟩ := f
  exact ⟨.ref D, H', I'.turned (t' := s'.toks) (fun b o hb e => (sb.2 b hb).trans e) f0 f1 f3 f4 f5, rfl, q⟩
end
theorem ylAll_lc {g : FG} {tt : FT} {te : FE} {τw τ : Env} {Q : List T → S → Prop} : ∀ (ts acc : List T) (s : S), ylAll (ylL g tt te τw) (fun κ s2 => Q κ.2 s2) ts (τ, acc) s = lcT (fun _ => True) g tt te τw ts acc s Q
  | [], acc, s => by
    rw [ylAll, lcT]
    exact (true_and _).symm
  | t :: ts, acc, s => by
    have e : (fun (acc : List T) (s4 : S) => ylAll (ylL g tt te τw) (fun κ s2 => Q κ.2 s2) ts (τ, acc) s4) = fun acc s4 => lcT (fun _ => True) g tt te τw ts acc s4 Q := by
      funext acc s2
      exact ylAll_lc ts acc s2
    have e2 : ∀ acc s4, ylAll (ylL g tt te τw) (fun κ s2 => Q κ.2 s2) ts (τ, acc) s4 = lcT (fun _ => True) g tt te τw ts acc s4 Q := fun acc s4 => congrFun (congrFun e acc) s4
    rw [ylAll, lcT]
    refine Eq.trans ?_ (true_and _).symm
    show (acc.length < 1000000 ∧ g t τw s fun τ1 s1 => tt τ1 s1 (fun b s2 => if b = true then te τ1 s2 (fun y s3 => ylAll (ylL g tt te τw) (fun κ s2 => Q κ.2 s2) ts (τ, acc ++ [y]) s3) noX else ylAll (ylL g tt te τw) (fun κ s2 => Q κ.2 s2) ts (τ, acc) s2) noX) = _
    simp only [e2]
def hQL (G : FCn) (ts : List T) (s : S) (g : FG) (τw τ : Env) [tt : Bx FT] [te : Bx FE] [Q : Bx (List T → S → Prop)] : Prop := cQL G g tt.v te.v τw ts s τ Q.v
theorem hold_QL {G : FCn} {ts : List T} {s : S} {g : FG} {τw τ : Env} {tt : FT} {te : FE} {Q : List T → S → Prop} : cQL G g tt te τw ts s τ Q = @hQL G ts s g τw τ ⟨tt⟩ ⟨te⟩ ⟨Q⟩ := rfl
theorem hQL.all {R : List T → S → List T → Prop} {ts outs : List T} {s : S} {g : FG} {τw τ : Env} {tt : FT} {te : FE} {Q : List T → S → Prop} (h : R ts s outs) (k : lcT (fun _ => True) g tt te τw outs [] s Q) : @hQL (gAll R) ts s g τw τ ⟨tt⟩ ⟨te⟩ ⟨Q⟩ := ⟨Q, fun _ _ q => q, outs, h, by rw [ylAll_lc]; exact k⟩
def hCwh (yl : YL) (c : Nat) (κ : AK) (τ : Env) (s : S) [G : Bx FT] [F : Bx FCS] [D : Bx DC] : Prop := fCWhile G.v F.v yl c κ τ s D.v
theorem hold_cwh {G : FT} {F : FCS} {yl : YL} {c : Nat} {κ : AK} {τ : Env} {s : S} {D : DC} : fCWhile G F yl c κ τ s D = @hCwh yl c κ τ s ⟨G⟩ ⟨F⟩ ⟨D⟩ := rfl
def hYl (yl : YL) (t : T) (κ : AK) (s : S) [r : Bx (AK → S → Prop)] : Prop := yl t κ s r.v
theorem row_CYield {Fe : FE} {yl : YL} {c : Nat} {κ : AK} {τ : Env} {s : S} {D : DC} : fCYield Fe yl c κ τ s D = (c < 1000000 ∧ Fe τ s (fun v s1 => @hYl yl v κ s1 ⟨fun κ' s2 => D.nx (c + 1) κ' τ s2⟩) fun _ _ => False) := rfl
/-- a while in a generator, by the things that are still to come -/
theorem cwh_all {T1 : FT} {F : FCS} {yl : YL} {e : AK → S → Prop} {D : DC} (I : List T → Env → Prop) (h0 : ∀ c κ τ s (N : Nat → AK → Env → S → Prop), I [] τ → e κ s → T1 τ s (fun b s1 => if b = true then F yl c κ τ s1 ⟨N, D.rt, D.nx, N⟩ else D.nx c κ τ s1) fun _ _ => False)
    (h1 : ∀ t ts c κ τ s (N : Nat → AK → Env → S → Prop), c < 1000000 → I (t :: ts) τ → (∀ κ' τ' s', I ts τ' → ylAll yl e ts κ' s' → N (c + 1) κ' τ' s') → yl t κ s (fun κ' s' => ylAll yl e ts κ' s') → T1 τ s (fun b s1 => if b = true then F yl c κ τ s1 ⟨N, D.rt, D.nx, N⟩ else D.nx c κ τ s1) fun _ _ => False) :
    ∀ (ts : List T) (c : Nat) (κ : AK) (τ : Env) (s : S), c + ts.length ≤ 1000000 → I ts τ → ylAll yl e ts κ s → fCWhile T1 F yl c κ τ s D := by
  intro ts c κ τ s hl hI hy
  refine ⟨ts.length + 1, ?_⟩
  induction ts generalizing c κ τ s with
  | nil => exact h0 c κ τ s _ hI hy
  | cons t ts ih =>
    rw [List.length_cons] at hl
    exact h1 t ts c κ τ s _ (by omega) hI (fun κ' τ' s' hI' hy' => ih (c + 1) κ' τ' s' (by omega) hI' hy') hy
theorem rows_madeMuL : True := by
  have := @Mr.fLcQ.eq_1
  trivial
end Mr
namespace Mr
open PySem PySem.Spec PyProof.Rows L2 Tw
section
variable {X : Cx} {k j : Nat} {C : Addr} {sp : Sp}
/-- a thing in an instance whose class has __contains__ -/
def rInOwn (C : Addr) (sp : Sp) : R2 := fun x y H Q => ∃ b dy gs, y = .ref b ∧ H b = some (.ins C dy gs) ∧ sp [.ref b, x] H (fun v H' => ∃ c, v = .bl c ∧ Q (.bl c) H') E0
theorem op_inOwn (c : Met X.prog X.w X.K X.mg X.base k C "__contains__" sp []) (hr : Rm j X.A) (hk : k ≤ j) : OpR X (compareOp .In) (rInOwn C sp) := by
  intro pins s σ H x y v u Q I rx ry h
  obtain ⟨b, dy, gs, rfl, hb, want⟩ := h
  cases ry
  obtain ⟨f, fd, ps, ds, hc, me, F, bd, dv⟩ := c.ex
  obtain ⟨mB, J, _⟩ := ins_get I.hok hb
  obtain ⟨od, J, _⟩ := J.look
  obtain ⟨mm, hF⟩ := I.fr
  refine PySem.W.in_K hF I.ok.mod.kin J me.at_ me.fn ?_
  refine wpAny_mono (goG (Q := fun v H' => ∃ c, v = .bl c ∧ Q (.bl c) H') (us := [.ref b, v]) (vs := [.ref b, x]) (dvs := []) F (hr.mono hk) rfl bd dv (passL _ _) I (.cons rfl (.cons rx .nil)) (by rw [List.append_nil]; exact want)) (fun v s' hv => ?_) fun _ _ e => e
  obtain ⟨v1, H1, I1, r1, c1, e1, q⟩ := hv
  subst e1
  obtain rfl : v = Value.bool c1 := r1
  exact wpAny_pure ⟨.bl c1, H1, I1, rfl, q⟩
end
section
variable {X : Cx} {cl : CL} {W : WX} {k j cc : Nat} {D : FD}
def gInOwn (cc : Nat) (D : FD) : S → T → T → KT → KX → Prop := fun s x y Q _ => match s.obj? y with | some (c, _) => c = cc ∧ cM D [y, x] s (fun t s1 => match t with | .bl b => Q (.bl b) s1 | _ => False) noX | none => False
theorem o_inOwn (d : MetM X.prog X.w X.K X.mg X.base cl k cc "__contains__" D []) (hr : Rm j X.A) (hk : k ≤ j) : OpT X cl W (compareOp .In) (gInOwn cc D) := by
  obtain ⟨dvs, d, hd⟩ := d.ex
  have e0 : dvs = [] := by
    have := hd (fun _ => False) ⟨none, 0, fun _ => none⟩ (fun _ => none)
    cases this
    rfl
  subst e0
  refine OpT.of ?_ (op_inOwn d hr hk) fun Z H x y Q s tx ty E px py so q => ?_
  · intro s x y Q Q' E E' hq he h
    unfold gInOwn at h ⊢
    split at h
    · refine ⟨h.1, h.2.mon (fun t s1 q => ?_) fun _ _ q => q⟩
      split at q
      · exact hq _ _ q
      · exact q
    · exact h
  · unfold gInOwn at q
    split at q
    · rename_i c fs e1
      obtain ⟨rfl, h3⟩ := q
      obtain ⟨b, dy, gvs, rfl, h5, rg⟩ := obj_of so py e1
      refine ⟨b, dy, gvs, rfl, h5, Z, [ty, tx], s, .cons py (.cons px .nil), so, h3.mon (fun t s1 q v H1 f r so1 => ?_) fun _ _ q => noX_post q⟩
      split at q
      · cases r
        exact ⟨_, rfl, q _ _ f (.bl _) so1⟩
      · exact q.elim
    · exact q.elim
end
section
variable {X : Cx} {cl : CL} {W : WX} {e : Expr} {pos p2 : Pos} {Fa : FE}
/-- a slice of a list, the new list as a cell -/
def slC (s : S) (x : T) (l h : Option Int) (Q : KT) : Prop := match s.lst? x with | some xs => ∀ a, s.on a = none → Q (.cell a) (s.put a (.lst (cutT xs l h))) | none => False
theorem slC.mon {s : S} {x : T} {l h : Option Int} {Q Q' : KT} (i : ∀ t s, Q t s → Q' t s) (k : slC s x l h Q) : slC s x l h Q' := by
  unfold slC at k ⊢
  split at k
  · exact fun a z => i _ _ (k a z)
  · exact k
def fSlC (Fa : FE) (Fl Fh : FO) : FE := fun τ s Q E => Fa τ s (fun x s1 => Fl τ s1 (fun l s2 => Fh τ s2 (fun h s3 => slC s3 x l h Q) E) E) E
theorem je_sliceC {lo hi : Option Expr} {Fl Fh : FO} (ha : JE X cl W e Fa) (hl : JO X cl W lo Fl) (hh : JO X cl W hi Fh) : JE X cl W (.Subscript e (.Slice lo hi none p2) pos) (fSlC Fa Fl Fh) := by
  obtain ⟨tl, pl, gl⟩ := hl.po
  obtain ⟨th, ph, gh⟩ := hh.po
  refine ⟨fun τ s Q Q' E E' hq he h => ha.mon _ _ _ _ _ _ (fun x s1 q => hl.mon _ _ _ _ _ _ (fun l s2 q => hh.mon _ _ _ _ _ _ (fun u s3 q => q.mon hq) he q) he q) he h, PE.imp (pe_slice sl_list ha.pe pl ph) ?_⟩
  rintro σ H Q ⟨Z, τ, s, re, so, h⟩
  refine go ha.mon re so h (fun tx s1 x H1 p1 f1 re1 r1 so1 => ?_) fun _ _ q => q
  refine gl Z σ τ s1 H1 _ _ _ re1 so1 p1 (fun l s2 H2 p2 f2 re2 so2 => ?_) fun _ _ q => postW.up f1 q
  refine gh Z σ τ s2 H2 _ _ _ re2 so2 p2 (fun u s3 H3 p3 f3 re3 so3 => ?_) fun _ _ q => postW.up (f1.trans f2) q
  have r3 := (r1.fut f2).fut f3
  unfold slC at p3
  split at p3
  · rename_i xs e2
    obtain ⟨a, vs, rfl, hq, rs⟩ := lst_of so3 r3 e2
    refine ⟨a, vs, rfl, SqL.of hq, fun D hD => ?_⟩
    exact p3 D (on_none so3 hD) _ _ ((f1.trans (f2.trans f3)).trans (Fut.newC hD)) (.cell D) (so3.newC hD ⟨_, upd_same, (rs.cut l u).fut (Fut.newC hD)⟩)
  · exact p3.elim
end
theorem rows_madeMuM : True := by
  have := @Mr.gInOwn.eq_1
  have := @Mr.slC.eq_1
  have := @Mr.fSlC.eq_1
  trivial
end Mr
namespace M04
open PySem PySem.Spec PyProof.Rows L2 Tw Mr
@[irreducible] def P : Program := PySem.Challenge.pw_twoheads_k04_rows_read
theorem P_def : P = PySem.Challenge.pw_twoheads_k04_rows_read := by unfold P; rfl
theorem P_sup : (List.lookup (Str.ofString "super") P.main.scope.names).isSome = false := by rw [P_def]; rfl
def top (i : Nat) : Stmt := PySem.Challenge.pw_twoheads_k04_rows_read.main.body.getD i (.Pass ⟨0, 0, 0, 0⟩)
abbrev s_XBadItem : Stmt := inClass (top 5) 0
abbrev s_XBadPlace : Stmt := inClass (top 6) 0
abbrev s_XDisordered : Stmt := inClass (top 7) 0
abbrev s_XTooMany : Stmt := inClass (top 8) 0
abbrev s_isint : Stmt := top 13
abbrev N_isint : List Str := ["value", "least", "most"]
theorem sc_isint : FnScope N_isint ["value", "least", "most"] (C8.fnScope s_isint) := ⟨rfl, rfl, rfl, by decide +kernel, rfl, by decide +kernel, by decide +kernel⟩
abbrev s_isrank : Stmt := top 14
abbrev N_isrank : List Str := ["value"]
theorem sc_isrank : FnScope N_isrank ["value"] (C8.fnScope s_isrank) := ⟨rfl, rfl, rfl, by decide +kernel, rfl, by decide +kernel, by decide +kernel⟩
abbrev s_isname : Stmt := top 15
abbrev N_isname : List Str := ["value", "sign"]
theorem sc_isname : FnScope N_isname ["value"] (C8.fnScope s_isname) := ⟨rfl, rfl, rfl, by decide +kernel, rfl, by decide +kernel, by decide +kernel⟩
abbrev s_Iinit : Stmt := inClass (top 16) 0
abbrev N_Iinit : List Str := ["self", "rank", "name"]
theorem sc_Iinit : FnScope N_Iinit ["self", "rank", "name"] (C8.fnScope s_Iinit) := ⟨rfl, rfl, rfl, by decide +kernel, rfl, by decide +kernel, by decide +kernel⟩
abbrev s_item_of : Stmt := top 19
abbrev N_item_of : List Str := ["value", "at"]
theorem sc_item_of : FnScope N_item_of ["value", "at"] (C8.fnScope s_item_of) := ⟨rfl, rfl, rfl, by decide +kernel, rfl, by decide +kernel, by decide +kernel⟩
abbrev s_need_few : Stmt := top 20
abbrev N_need_few : List Str := ["items"]
theorem sc_need_few : FnScope N_need_few ["items"] (C8.fnScope s_need_few) := ⟨rfl, rfl, rfl, by decide +kernel, rfl, by decide +kernel, by decide +kernel⟩
abbrev s_need_ascending : Stmt := top 21
abbrev N_need_ascending : List Str := ["items", "at"]
theorem sc_need_ascending : FnScope N_need_ascending ["items"] (C8.fnScope s_need_ascending) := ⟨rfl, rfl, rfl, by decide +kernel, rfl, by decide +kernel, by decide +kernel⟩
abbrev s_items_of : Stmt := top 22
abbrev N_items_of : List Str := ["values", "found", "at", "value"]
theorem sc_items_of : FnScope N_items_of ["values"] (C8.fnScope s_items_of) := ⟨rfl, rfl, rfl, by decide +kernel, rfl, by decide +kernel, by decide +kernel⟩
abbrev s_behind_block : Stmt := top 23
abbrev N_behind_block : List Str := ["items", "at", "rank", "item"]
theorem sc_behind_block : FnScope N_behind_block ["items", "at", "rank"] (C8.fnScope s_behind_block) := ⟨rfl, rfl, rfl, by decide +kernel, rfl, by decide +kernel, by decide +kernel⟩
abbrev s_chosen : Stmt := top 24
abbrev s_Rowinit : Stmt := inClass (top 26) 1
abbrev N_Rowinit : List Str := ["self", "items"]
theorem sc_Rowinit : FnScope N_Rowinit ["self", "items"] (C8.fnScope s_Rowinit) := ⟨rfl, rfl, rfl, by decide +kernel, rfl, by decide +kernel, by decide +kernel⟩
abbrev s_Rowlstd : Stmt := inClass (top 26) 3
abbrev N_Rowlstd : List Str := ["self"]
theorem sc_Rowlstd : FnScope N_Rowlstd ["self"] (C8.fnScope s_Rowlstd) := ⟨rfl, rfl, rfl, by decide +kernel, rfl, by decide +kernel, by decide +kernel⟩
abbrev s_Rowranks : Stmt := inClass (top 26) 4
abbrev N_Rowranks : List Str := ["self", "item"]
theorem sc_Rowranks : FnScope N_Rowranks ["self"] (C8.fnScope s_Rowranks) := ⟨rfl, rfl, rfl, by decide +kernel, rfl, by decide +kernel, by decide +kernel⟩
abbrev s_Rownumber : Stmt := inClass (top 26) 5
abbrev N_Rownumber : List Str := ["self", "rank"]
theorem sc_Rownumber : FnScope N_Rownumber ["self", "rank"] (C8.fnScope s_Rownumber) := ⟨rfl, rfl, rfl, by decide +kernel, rfl, by decide +kernel, by decide +kernel⟩
abbrev s_Rowblocks : Stmt := inClass (top 26) 6
abbrev N_Rowblocks : List Str := ["self", "at", "behind"]
theorem sc_Rowblocks : GScope N_Rowblocks ["self"] (C8.fnScope s_Rowblocks) := ⟨rfl, rfl, rfl, by decide +kernel, rfl, by decide +kernel, by decide +kernel⟩
abbrev s_Rowwithin : Stmt := inClass (top 26) 7
abbrev N_Rowwithin : List Str := ["self", "other", "rank", "many"]
theorem sc_Rowwithin : FnScope N_Rowwithin ["self", "other"] (C8.fnScope s_Rowwithin) := ⟨rfl, rfl, rfl, by decide +kernel, rfl, by decide +kernel, by decide +kernel⟩
abbrev s_Rowbetween : Stmt := inClass (top 26) 11
abbrev N_Rowbetween : List Str := ["self", "first", "stop"]
theorem sc_Rowbetween : FnScope N_Rowbetween ["self", "first", "stop"] (C8.fnScope s_Rowbetween) := ⟨rfl, rfl, rfl, by decide +kernel, rfl, by decide +kernel, by decide +kernel⟩
abbrev s_Rowneed : Stmt := inClass (top 26) 12
abbrev N_Rowneed : List Str := ["self", "at"]
theorem sc_Rowneed : FnScope N_Rowneed ["self", "at"] (C8.fnScope s_Rowneed) := ⟨rfl, rfl, rfl, by decide +kernel, rfl, by decide +kernel, by decide +kernel⟩
abbrev s_Rowget : Stmt := inClass (top 26) 13
abbrev N_Rowget : List Str := ["self", "at", "first", "stop"]
theorem sc_Rowget : FnScope N_Rowget ["self", "at"] (C8.fnScope s_Rowget) := ⟨rfl, rfl, rfl, by decide +kernel, rfl, by decide +kernel, by decide +kernel⟩
abbrev s_Rowlen : Stmt := inClass (top 26) 15
abbrev s_Rowiter : Stmt := inClass (top 26) 16
abbrev N_Rowiter : List Str := ["self"]
theorem sc_Rowiter : FnScope N_Rowiter ["self"] (C8.fnScope s_Rowiter) := ⟨rfl, rfl, rfl, by decide +kernel, rfl, by decide +kernel, by decide +kernel⟩
abbrev s_Rowin : Stmt := inClass (top 26) 17
abbrev N_Rowin : List Str := ["self", "x"]
theorem sc_Rowin : FnScope N_Rowin ["self", "x"] (C8.fnScope s_Rowin) := ⟨rfl, rfl, rfl, by decide +kernel, rfl, by decide +kernel, by decide +kernel⟩
abbrev s_Roweq : Stmt := inClass (top 26) 18
abbrev N_Roweq : List Str := ["self", "other"]
theorem sc_Roweq : FnScope N_Roweq ["self", "other"] (C8.fnScope s_Roweq) := ⟨rfl, rfl, rfl, by decide +kernel, rfl, by decide +kernel, by decide +kernel⟩
abbrev s_pen : Stmt := top 28
abbrev N_pen : List Str := ["_law_script"]
theorem sc_pen : FnScope N_pen ["_law_script"] (C8.fnScope s_pen) := ⟨rfl, rfl, rfl, by decide +kernel, rfl, by decide +kernel, by decide +kernel⟩
abbrev s_draw : Stmt := top 29
abbrev N_draw : List Str := ["_law_pen_here", "_law_many", "_law_digit", "_law_at", "_law_cell", "_law_great", "_law_mixed"]
theorem sc_draw : FnScope N_draw ["_law_pen_here", "_law_many"] (C8.fnScope s_draw) := ⟨rfl, rfl, rfl, by decide +kernel, rfl, by decide +kernel, by decide +kernel⟩
abbrev s_pick : Stmt := top 30
abbrev N_pick : List Str := ["_law_pen_here", "_law_some"]
theorem sc_pick : FnScope N_pick ["_law_pen_here", "_law_some"] (C8.fnScope s_pick) := ⟨rfl, rfl, rfl, by decide +kernel, rfl, by decide +kernel, by decide +kernel⟩
abbrev s_pairs : Stmt := top 31
abbrev N_pairs : List Str := ["_law_pen_here", "_law_most", "_law_height", "_law_found", "_law_k"]
theorem sc_pairs : FnScope N_pairs ["_law_pen_here", "_law_most"] (C8.fnScope s_pairs) := ⟨rfl, rfl, rfl, by decide +kernel, rfl, by decide +kernel, by decide +kernel⟩
abbrev s_values : Stmt := top 32
abbrev N_values : List Str := ["_law_pen_here", "_law_pairs_here", "_law_found", "_law_height", "_law_name"]
theorem sc_values : FnScope N_values ["_law_pen_here", "_law_pairs_here"] (C8.fnScope s_values) := ⟨rfl, rfl, rfl, by decide +kernel, rfl, by decide +kernel, by decide +kernel⟩
abbrev s_told : Stmt := top 33
abbrev N_told : List Str := ["_law_listed", "_law_item"]
theorem sc_told : FnScope N_told ["_law_listed"] (C8.fnScope s_told) := ⟨rfl, rfl, rfl, by decide +kernel, rfl, by decide +kernel, by decide +kernel⟩
abbrev s_heard : Stmt := top 34
abbrev N_heard : List Str := ["_law_ask", "_law_caught", "_law_found", "error"]
theorem sc_heard : FnScope N_heard ["_law_ask"] (C8.fnScope s_heard) := ⟨rfl, rfl, rfl, by decide +kernel, rfl, by decide +kernel, by decide +kernel⟩
abbrev s_lnum : Stmt := top 35
abbrev N_lnum : List Str := ["_law_pairs_here", "_law_height", "_law_pair"]
theorem sc_lnum : FnScope N_lnum ["_law_pairs_here", "_law_height"] (C8.fnScope s_lnum) := ⟨rfl, rfl, rfl, by decide +kernel, rfl, by decide +kernel, by decide +kernel⟩
abbrev s_lindex : Stmt := top 36
abbrev N_lindex : List Str := ["_law_pen_here", "_law_many"]
theorem sc_lindex : FnScope N_lindex ["_law_pen_here", "_law_many"] (C8.fnScope s_lindex) := ⟨rfl, rfl, rfl, by decide +kernel, rfl, by decide +kernel, by decide +kernel⟩
abbrev s_placer : Stmt := top 37
abbrev N_placer : List Str := ["_law_pen_here", "_law_row", "_law_pairs_here", "_law_many", "_law_turn", "_law_at", "_law_stop", "_law_heard_here"]
theorem sc_placer : FnScope N_placer ["_law_pen_here", "_law_row", "_law_pairs_here"] (C8.fnScope s_placer) := ⟨rfl, rfl, rfl, by decide +kernel, rfl, by decide +kernel, by decide +kernel⟩
abbrev s_lblocks : Stmt := top 38
abbrev N_lblocks : List Str := ["_law_pairs_here", "_law_found", "_law_height", "_law_name"]
theorem sc_lblocks : FnScope N_lblocks ["_law_pairs_here"] (C8.fnScope s_lblocks) := ⟨rfl, rfl, rfl, by decide +kernel, rfl, by decide +kernel, by decide +kernel⟩
abbrev s_memr : Stmt := top 39
abbrev N_memr : List Str := ["_law_pen_here", "_law_row", "_law_pairs_here", "_law_height", "_law_pair", "_law_there", "_law_found", "_law_one", "_law_odd", "_law_thing"]
theorem sc_memr : FnScope N_memr ["_law_pen_here", "_law_row", "_law_pairs_here"] (C8.fnScope s_memr) := ⟨rfl, rfl, rfl, by decide +kernel, rfl, by decide +kernel, by decide +kernel⟩
abbrev s_compd : Stmt := top 40
abbrev N_compd : List Str := ["_law_pen_here", "_law_row", "_law_pairs_here", "_law_bare", "_law_pair", "_law_kept", "_law_some", "_law_others", "_law_thing"]
theorem sc_compd : FnScope N_compd ["_law_pen_here", "_law_row", "_law_pairs_here"] (C8.fnScope s_compd) := ⟨rfl, rfl, rfl, by decide +kernel, rfl, by decide +kernel, by decide +kernel⟩
abbrev s_law : Stmt := top 41
abbrev N_law : List Str := ["_law_script", "_law_pen_here", "_law_turn", "_law_pairs_here", "_law_row"]
theorem sc_law : FnScope N_law ["_law_script"] (C8.fnScope s_law) := ⟨rfl, rfl, rfl, by decide +kernel, rfl, by decide +kernel, by decide +kernel⟩
def kkT : KkT := [(.int, [(.non, false), (.bool, true), (.int, true), (.str, false), (.list, false), (.tup, false), (.dict, false), (.own 3, false), (.own 4, false), (.own 5, false), (.own 6, false), (.own 7, false), (.own 8, false)]), (.bool, [(.non, false), (.bool, true), (.int, false), (.str, false), (.list, false), (.tup, false), (.dict, false), (.own 3, false), (.own 4, false), (.own 5, false), (.own 6, false), (.own 7, false), (.own 8, false)]), (.str, [(.non, false), (.bool, false), (.int, false), (.str, true), (.list, false), (.tup, false), (.dict, false), (.own 3, false), (.own 4, false), (.own 5, false), (.own 6, false), (.own 7, false), (.own 8, false)]), (.own 7, [(.non, false), (.bool, false), (.int, false), (.str, false), (.list, false), (.tup, false), (.dict, false), (.own 3, false), (.own 4, false), (.own 5, false), (.own 6, false), (.own 7, true), (.own 8, false)]), (.tup, [(.non, false), (.bool, false), (.int, false), (.str, false), (.list, false), (.tup, true), (.dict, false), (.own 3, false), (.own 4, false), (.own 5, false), (.own 6, false), (.own 7, false), (.own 8, false)]), (.own 8, [(.non, false), (.bool, false), (.int, false), (.str, false), (.list, false), (.tup, false), (.dict, false), (.own 3, false), (.own 4, false), (.own 5, false), (.own 6, false), (.own 7, false), (.own 8, true)]), (.own 3, [(.non, false), (.bool, false), (.int, false), (.str, false), (.list, false), (.tup, false), (.dict, false), (.own 3, true), (.own 4, false), (.own 5, false), (.own 6, false), (.own 7, false), (.own 8, false)]), (.own 4, [(.non, false), (.bool, false), (.int, false), (.str, false), (.list, false), (.tup, false), (.dict, false), (.own 3, false), (.own 4, true), (.own 5, false), (.own 6, false), (.own 7, false), (.own 8, false)]), (.own 5, [(.non, false), (.bool, false), (.int, false), (.str, false), (.list, false), (.tup, false), (.dict, false), (.own 3, false), (.own 4, false), (.own 5, true), (.own 6, false), (.own 7, false), (.own 8, false)]), (.own 6, [(.non, false), (.bool, false), (.int, false), (.str, false), (.list, false), (.tup, false), (.dict, false), (.own 3, false), (.own 4, false), (.own 5, false), (.own 6, true), (.own 7, false), (.own 8, false)]), (.list, [(.non, false), (.bool, false), (.int, false), (.str, false), (.list, true), (.tup, false), (.dict, false), (.own 3, false), (.own 4, false), (.own 5, false), (.own 6, false), (.own 7, false), (.own 8, false)])]
theorem kkA_int : kkOf kkT (.non) (.int) = some false ∧ kkOf kkT (.bool) (.int) = some true ∧ kkOf kkT (.int) (.int) = some true ∧ kkOf kkT (.str) (.int) = some false ∧ kkOf kkT (.list) (.int) = some false ∧ kkOf kkT (.tup) (.int) = some false ∧ kkOf kkT (.dict) (.int) = some false ∧ kkOf kkT (.own 3) (.int) = some false ∧ kkOf kkT (.own 4) (.int) = some false ∧ kkOf kkT (.own 5) (.int) = some false ∧ kkOf kkT (.own 6) (.int) = some false ∧ kkOf kkT (.own 7) (.int) = some false ∧ kkOf kkT (.own 8) (.int) = some false := ⟨rfl, rfl, rfl, rfl, rfl, rfl, rfl, rfl, rfl, rfl, rfl, rfl, rfl⟩
theorem kkA_bool : kkOf kkT (.non) (.bool) = some false ∧ kkOf kkT (.bool) (.bool) = some true ∧ kkOf kkT (.int) (.bool) = some false ∧ kkOf kkT (.str) (.bool) = some false ∧ kkOf kkT (.list) (.bool) = some false ∧ kkOf kkT (.tup) (.bool) = some false ∧ kkOf kkT (.dict) (.bool) = some false ∧ kkOf kkT (.own 3) (.bool) = some false ∧ kkOf kkT (.own 4) (.bool) = some false ∧ kkOf kkT (.own 5) (.bool) = some false ∧ kkOf kkT (.own 6) (.bool) = some false ∧ kkOf kkT (.own 7) (.bool) = some false ∧ kkOf kkT (.own 8) (.bool) = some false := ⟨rfl, rfl, rfl, rfl, rfl, rfl, rfl, rfl, rfl, rfl, rfl, rfl, rfl⟩
theorem kkA_str : kkOf kkT (.non) (.str) = some false ∧ kkOf kkT (.bool) (.str) = some false ∧ kkOf kkT (.int) (.str) = some false ∧ kkOf kkT (.str) (.str) = some true ∧ kkOf kkT (.list) (.str) = some false ∧ kkOf kkT (.tup) (.str) = some false ∧ kkOf kkT (.dict) (.str) = some false ∧ kkOf kkT (.own 3) (.str) = some false ∧ kkOf kkT (.own 4) (.str) = some false ∧ kkOf kkT (.own 5) (.str) = some false ∧ kkOf kkT (.own 6) (.str) = some false ∧ kkOf kkT (.own 7) (.str) = some false ∧ kkOf kkT (.own 8) (.str) = some false := ⟨rfl, rfl, rfl, rfl, rfl, rfl, rfl, rfl, rfl, rfl, rfl, rfl, rfl⟩
theorem kkA_Item : kkOf kkT (.non) (.own 7) = some false ∧ kkOf kkT (.bool) (.own 7) = some false ∧ kkOf kkT (.int) (.own 7) = some false ∧ kkOf kkT (.str) (.own 7) = some false ∧ kkOf kkT (.list) (.own 7) = some false ∧ kkOf kkT (.tup) (.own 7) = some false ∧ kkOf kkT (.dict) (.own 7) = some false ∧ kkOf kkT (.own 3) (.own 7) = some false ∧ kkOf kkT (.own 4) (.own 7) = some false ∧ kkOf kkT (.own 5) (.own 7) = some false ∧ kkOf kkT (.own 6) (.own 7) = some false ∧ kkOf kkT (.own 7) (.own 7) = some true ∧ kkOf kkT (.own 8) (.own 7) = some false := ⟨rfl, rfl, rfl, rfl, rfl, rfl, rfl, rfl, rfl, rfl, rfl, rfl, rfl⟩
theorem kkA_tup : kkOf kkT (.non) (.tup) = some false ∧ kkOf kkT (.bool) (.tup) = some false ∧ kkOf kkT (.int) (.tup) = some false ∧ kkOf kkT (.str) (.tup) = some false ∧ kkOf kkT (.list) (.tup) = some false ∧ kkOf kkT (.tup) (.tup) = some true ∧ kkOf kkT (.dict) (.tup) = some false ∧ kkOf kkT (.own 3) (.tup) = some false ∧ kkOf kkT (.own 4) (.tup) = some false ∧ kkOf kkT (.own 5) (.tup) = some false ∧ kkOf kkT (.own 6) (.tup) = some false ∧ kkOf kkT (.own 7) (.tup) = some false ∧ kkOf kkT (.own 8) (.tup) = some false := ⟨rfl, rfl, rfl, rfl, rfl, rfl, rfl, rfl, rfl, rfl, rfl, rfl, rfl⟩
theorem kkA_Row : kkOf kkT (.non) (.own 8) = some false ∧ kkOf kkT (.bool) (.own 8) = some false ∧ kkOf kkT (.int) (.own 8) = some false ∧ kkOf kkT (.str) (.own 8) = some false ∧ kkOf kkT (.list) (.own 8) = some false ∧ kkOf kkT (.tup) (.own 8) = some false ∧ kkOf kkT (.dict) (.own 8) = some false ∧ kkOf kkT (.own 3) (.own 8) = some false ∧ kkOf kkT (.own 4) (.own 8) = some false ∧ kkOf kkT (.own 5) (.own 8) = some false ∧ kkOf kkT (.own 6) (.own 8) = some false ∧ kkOf kkT (.own 7) (.own 8) = some false ∧ kkOf kkT (.own 8) (.own 8) = some true := ⟨rfl, rfl, rfl, rfl, rfl, rfl, rfl, rfl, rfl, rfl, rfl, rfl, rfl⟩
theorem kkA_BadItem : kkOf kkT (.non) (.own 3) = some false ∧ kkOf kkT (.bool) (.own 3) = some false ∧ kkOf kkT (.int) (.own 3) = some false ∧ kkOf kkT (.str) (.own 3) = some false ∧ kkOf kkT (.list) (.own 3) = some false ∧ kkOf kkT (.tup) (.own 3) = some false ∧ kkOf kkT (.dict) (.own 3) = some false ∧ kkOf kkT (.own 3) (.own 3) = some true ∧ kkOf kkT (.own 4) (.own 3) = some false ∧ kkOf kkT (.own 5) (.own 3) = some false ∧ kkOf kkT (.own 6) (.own 3) = some false ∧ kkOf kkT (.own 7) (.own 3) = some false ∧ kkOf kkT (.own 8) (.own 3) = some false := ⟨rfl, rfl, rfl, rfl, rfl, rfl, rfl, rfl, rfl, rfl, rfl, rfl, rfl⟩
theorem kkA_BadPlace : kkOf kkT (.non) (.own 4) = some false ∧ kkOf kkT (.bool) (.own 4) = some false ∧ kkOf kkT (.int) (.own 4) = some false ∧ kkOf kkT (.str) (.own 4) = some false ∧ kkOf kkT (.list) (.own 4) = some false ∧ kkOf kkT (.tup) (.own 4) = some false ∧ kkOf kkT (.dict) (.own 4) = some false ∧ kkOf kkT (.own 3) (.own 4) = some false ∧ kkOf kkT (.own 4) (.own 4) = some true ∧ kkOf kkT (.own 5) (.own 4) = some false ∧ kkOf kkT (.own 6) (.own 4) = some false ∧ kkOf kkT (.own 7) (.own 4) = some false ∧ kkOf kkT (.own 8) (.own 4) = some false := ⟨rfl, rfl, rfl, rfl, rfl, rfl, rfl, rfl, rfl, rfl, rfl, rfl, rfl⟩
theorem kkA_Disordered : kkOf kkT (.non) (.own 5) = some false ∧ kkOf kkT (.bool) (.own 5) = some false ∧ kkOf kkT (.int) (.own 5) = some false ∧ kkOf kkT (.str) (.own 5) = some false ∧ kkOf kkT (.list) (.own 5) = some false ∧ kkOf kkT (.tup) (.own 5) = some false ∧ kkOf kkT (.dict) (.own 5) = some false ∧ kkOf kkT (.own 3) (.own 5) = some false ∧ kkOf kkT (.own 4) (.own 5) = some false ∧ kkOf kkT (.own 5) (.own 5) = some true ∧ kkOf kkT (.own 6) (.own 5) = some false ∧ kkOf kkT (.own 7) (.own 5) = some false ∧ kkOf kkT (.own 8) (.own 5) = some false := ⟨rfl, rfl, rfl, rfl, rfl, rfl, rfl, rfl, rfl, rfl, rfl, rfl, rfl⟩
theorem kkA_TooMany : kkOf kkT (.non) (.own 6) = some false ∧ kkOf kkT (.bool) (.own 6) = some false ∧ kkOf kkT (.int) (.own 6) = some false ∧ kkOf kkT (.str) (.own 6) = some false ∧ kkOf kkT (.list) (.own 6) = some false ∧ kkOf kkT (.tup) (.own 6) = some false ∧ kkOf kkT (.dict) (.own 6) = some false ∧ kkOf kkT (.own 3) (.own 6) = some false ∧ kkOf kkT (.own 4) (.own 6) = some false ∧ kkOf kkT (.own 5) (.own 6) = some false ∧ kkOf kkT (.own 6) (.own 6) = some true ∧ kkOf kkT (.own 7) (.own 6) = some false ∧ kkOf kkT (.own 8) (.own 6) = some false := ⟨rfl, rfl, rfl, rfl, rfl, rfl, rfl, rfl, rfl, rfl, rfl, rfl, rfl⟩
theorem kkA_list : kkOf kkT (.non) (.list) = some false ∧ kkOf kkT (.bool) (.list) = some false ∧ kkOf kkT (.int) (.list) = some false ∧ kkOf kkT (.str) (.list) = some false ∧ kkOf kkT (.list) (.list) = some true ∧ kkOf kkT (.tup) (.list) = some false ∧ kkOf kkT (.dict) (.list) = some false ∧ kkOf kkT (.own 3) (.list) = some false ∧ kkOf kkT (.own 4) (.list) = some false ∧ kkOf kkT (.own 5) (.list) = some false ∧ kkOf kkT (.own 6) (.list) = some false ∧ kkOf kkT (.own 7) (.list) = some false ∧ kkOf kkT (.own 8) (.list) = some false := ⟨rfl, rfl, rfl, rfl, rfl, rfl, rfl, rfl, rfl, rfl, rfl, rfl, rfl⟩
theorem lkA_rank_name : (∀ v0 v1 : T, List.lookup (Str.ofString "rank") ([("rank", v0), ("name", v1)] : List (Str × T)) = some v0) ∧
  (∀ v0 v1 : T, List.lookup (Str.ofString "name") ([("rank", v0), ("name", v1)] : List (Str × T)) = some v1) ∧
  (∀ v0 v1 : T, List.lookup (Str.ofString "before") ([("rank", v0), ("name", v1)] : List (Str × T)) = none) ∧
  (∀ v0 v1 : T, List.lookup (Str.ofString "same") ([("rank", v0), ("name", v1)] : List (Str × T)) = none) ∧
  (∀ w : T, putT (Str.ofString "rank") w ([] : List (Str × T)) = ([("rank", w)] : List (Str × T))) ∧
  (∀ v0 v1 w : T, putT (Str.ofString "rank") w ([("rank", v0), ("name", v1)] : List (Str × T)) = ([("rank", w), ("name", v1)] : List (Str × T))) ∧
  (∀ v0 w : T, putT (Str.ofString "name") w ([("rank", v0)] : List (Str × T)) = ([("rank", v0), ("name", w)] : List (Str × T))) ∧
  (∀ v0 v1 w : T, putT (Str.ofString "name") w ([("rank", v0), ("name", v1)] : List (Str × T)) = ([("rank", v0), ("name", w)] : List (Str × T))) := ⟨by intros; rfl, by intros; rfl, by intros; rfl, by intros; rfl, by intros; rfl, by intros; rfl, by intros; rfl, by intros; rfl⟩
theorem lkA_held : (∀ v0 : T, List.lookup (Str.ofString "held") ([("held", v0)] : List (Str × T)) = some v0) ∧
  (∀ v0 : T, List.lookup (Str.ofString "attempt") ([("held", v0)] : List (Str × T)) = none) ∧
  (∀ v0 : T, List.lookup (Str.ofString "between") ([("held", v0)] : List (Str × T)) = none) ∧
  (∀ v0 : T, List.lookup (Str.ofString "blocks") ([("held", v0)] : List (Str × T)) = none) ∧
  (∀ v0 : T, List.lookup (Str.ofString "listed") ([("held", v0)] : List (Str × T)) = none) ∧
  (∀ v0 : T, List.lookup (Str.ofString "need_index") ([("held", v0)] : List (Str × T)) = none) ∧
  (∀ v0 : T, List.lookup (Str.ofString "number") ([("held", v0)] : List (Str × T)) = none) ∧
  (∀ v0 : T, List.lookup (Str.ofString "of") ([("held", v0)] : List (Str × T)) = none) ∧
  (∀ v0 : T, List.lookup (Str.ofString "ranks") ([("held", v0)] : List (Str × T)) = none) ∧
  (∀ v0 : T, List.lookup (Str.ofString "settle") ([("held", v0)] : List (Str × T)) = none) ∧
  (∀ v0 : T, List.lookup (Str.ofString "trial") ([("held", v0)] : List (Str × T)) = none) ∧
  (∀ v0 : T, List.lookup (Str.ofString "within") ([("held", v0)] : List (Str × T)) = none) ∧
  (∀ w : T, putT (Str.ofString "held") w ([] : List (Str × T)) = ([("held", w)] : List (Str × T))) ∧
  (∀ v0 w : T, putT (Str.ofString "held") w ([("held", v0)] : List (Str × T)) = ([("held", w)] : List (Str × T))) := ⟨by intros; rfl, by intros; rfl, by intros; rfl, by intros; rfl, by intros; rfl, by intros; rfl, by intros; rfl, by intros; rfl, by intros; rfl, by intros; rfl, by intros; rfl, by intros; rfl, by intros; rfl, by intros; rfl⟩
theorem lkA_part : ∀ v0 : T, List.lookup (Str.ofString "part") ([("part", v0)] : List (Str × T)) = some v0 := by intros; rfl
theorem lkA_at : ∀ v0 : T, List.lookup (Str.ofString "at") ([("at", v0)] : List (Str × T)) = some v0 := by intros; rfl
theorem lkA_most : ∀ v0 : T, List.lookup (Str.ofString "most") ([("most", v0)] : List (Str × T)) = some v0 := by intros; rfl
def insL : List Nat := [7, 8]
def excL : List Nat := [3, 4, 5, 6]
structure Txt (K : PySem.W.Frag) (w : World) (mg : Str → Option Value) (cl : CL) (base : Heap) : Prop where
  n_len : mg "len" = none
  n_abs : mg "abs" = none
  n_int : mg "int" = none
  n_list : mg "list" = none
  n_tuple : mg "tuple" = none
  n_repr : mg "repr" = none
  n_str : mg "str" = none
  n_range : mg "range" = none
  n_isinstance : mg "isinstance" = none
  n_all : mg "all" = none
  n_bool : mg "bool" = none
  n_sorted : mg "sorted" = none
  n_super : mg "super" = none
  n_enumerate : mg "enumerate" = none
  n_iter : mg "iter" = none
  n_ValueError : mg "ValueError" = none
  mx_HeadsError : mg "HeadsError" = some (.ref (cl 0))
  mx_BadInput : mg "BadInput" = some (.ref (cl 1))
  mx_Refused : mg "Refused" = some (.ref (cl 2))
  mx_BadItem : mg "BadItem" = some (.ref (cl 3))
  mx_BadPlace : mg "BadPlace" = some (.ref (cl 4))
  mx_Disordered : mg "Disordered" = some (.ref (cl 5))
  mx_TooMany : mg "TooMany" = some (.ref (cl 6))
  mx_Item : mg "Item" = some (.ref (cl 7))
  mx_Row : mg "Row" = some (.ref (cl 8))
  fld_rank : ∀ c ∈ [7], Cls K (cl c) ∧ NoAttr K (cl c) "rank"
  fld_name : ∀ c ∈ [7], Cls K (cl c) ∧ NoAttr K (cl c) "name"
  fld_held : ∀ c ∈ [8], Cls K (cl c) ∧ NoAttr K (cl c) "held"
  x_BadItem : Tw.XCall P K (cl 3) ["part"]
  oex_BadItem : OexC K (cl 3)
  xf_BadItem : XfC K (cl 3)
  na_BadItem_part : PySem.W.findIn K (.ref (cl 3)) "part" = some none
  x_BadPlace : Tw.XCall P K (cl 4) ["at"]
  oex_BadPlace : OexC K (cl 4)
  xf_BadPlace : XfC K (cl 4)
  na_BadPlace_at : PySem.W.findIn K (.ref (cl 4)) "at" = some none
  x_Disordered : Tw.XCall P K (cl 5) ["at"]
  oex_Disordered : OexC K (cl 5)
  xf_Disordered : XfC K (cl 5)
  na_Disordered_at : PySem.W.findIn K (.ref (cl 5)) "at" = some none
  x_TooMany : Tw.XCall P K (cl 6) ["most"]
  oex_TooMany : OexC K (cl 6)
  xf_TooMany : XfC K (cl 6)
  na_TooMany_most : PySem.W.findIn K (.ref (cl 6)) "most" = some none
  em_HeadsError : ∀ c, c ∈ [3, 4, 5, 6] → PySem.W.exmOne K (.ref (cl c)) (.ref (cl 0)) = some true ∧ bx c = none
  wc : Wc K cl (kkOf kkT) insL excL
  g_LETTERS : ∃ u, mg "LETTERS" = some u ∧ RelV (.str "abcdefghijklmnopqrstuvwxyz") u
  g_MOST_LETTERS : ∃ u, mg "MOST_LETTERS" = some u ∧ RelV (.int (8)) u
  g_GREATEST : ∃ u, mg "GREATEST" = some u ∧ RelV (.int (999999999999999999999999999999)) u
  g_MOST_ITEMS : ∃ u, mg "MOST_ITEMS" = some u ∧ RelV (.int (200)) u
  d_isint : Tw.DefAt K mg "is_integer" s_isint ["value", "least", "most"] []
  d_isrank : Tw.DefAt K mg "is_rank" s_isrank ["value"] []
  d_isname : Tw.DefAt K mg "is_item_name" s_isname ["value"] []
  d_Iinit : Tw.MakAt K mg "Item" (cl 7) "Item.__init__" s_Iinit ["self", "rank", "name"] []
  d_item_of : Tw.DefAt K mg "item_of" s_item_of ["value", "at"] []
  d_need_few : Tw.DefAt K mg "need_few" s_need_few ["items"] []
  d_need_ascending : Tw.DefAt K mg "need_ascending" s_need_ascending ["items"] []
  d_items_of : Tw.DefAt K mg "items_of" s_items_of ["values"] []
  d_behind_block : Tw.DefAt K mg "behind_block" s_behind_block ["items", "at", "rank"] []
  d_chosen : Tw.DefAt K mg "chosen" s_chosen ["word", "mine", "theirs"] []
  d_Rowinit : Tw.MakAt K mg "Row" (cl 8) "Row.__init__" s_Rowinit ["self", "items"] []
  d_Rowlstd : Tw.MetAt K (cl 8) "listed" "Row.listed" s_Rowlstd ["self"] []
  d_Rowranks : Tw.MetAt K (cl 8) "ranks" "Row.ranks" s_Rowranks ["self"] []
  d_Rownumber : Tw.MetAt K (cl 8) "number" "Row.number" s_Rownumber ["self", "rank"] []
  d_Rowblocks : Tw.MetAt K (cl 8) "blocks" "Row.blocks" s_Rowblocks ["self"] []
  d_Rowwithin : Tw.MetAt K (cl 8) "within" "Row.within" s_Rowwithin ["self", "other"] []
  d_Rowbetween : Tw.MetAt K (cl 8) "between" "Row.between" s_Rowbetween ["self", "first", "stop"] []
  d_Rowneed : Tw.MetAt K (cl 8) "need_index" "Row.need_index" s_Rowneed ["self", "at"] []
  d_Rowget : Tw.MetAt K (cl 8) "__getitem__" "Row.__getitem__" s_Rowget ["self", "at"] []
  d_Rowlen : Tw.MetAt K (cl 8) "__len__" "Row.__len__" s_Rowlen ["self"] []
  d_Rowiter : Tw.MetAt K (cl 8) "__iter__" "Row.__iter__" s_Rowiter ["self"] []
  d_Rowin : Tw.MetAt K (cl 8) "__contains__" "Row.__contains__" s_Rowin ["self", "x"] []
  d_Roweq : Tw.MetAt K (cl 8) "__eq__" "Row.__eq__" s_Roweq ["self", "other"] []
  d_pen : Tw.DefAt K mg "_law_pen" s_pen ["_law_script"] []
  d_draw : Tw.DefAt K mg "_law_draw" s_draw ["_law_pen_here", "_law_many"] []
  d_pick : Tw.DefAt K mg "_law_pick" s_pick ["_law_pen_here", "_law_some"] []
  d_pairs : Tw.DefAt K mg "_law_pairs" s_pairs ["_law_pen_here", "_law_most"] []
  d_values : Tw.DefAt K mg "_law_values" s_values ["_law_pen_here", "_law_pairs_here"] []
  d_told : Tw.DefAt K mg "_law_told" s_told ["_law_listed"] []
  d_heard : Tw.DefAt K mg "_law_heard" s_heard ["_law_ask"] []
  d_lnum : Tw.DefAt K mg "_law_number" s_lnum ["_law_pairs_here", "_law_height"] []
  d_lindex : Tw.DefAt K mg "_law_index" s_lindex ["_law_pen_here", "_law_many"] []
  d_placer : DefAtC K mg "_law_places_right" s_placer ["_law_pen_here", "_law_row", "_law_pairs_here"] [] (cl 9)
  d_lblocks : Tw.DefAt K mg "_law_blocks" s_lblocks ["_law_pairs_here"] []
  d_memr : Tw.DefAt K mg "_law_members_right" s_memr ["_law_pen_here", "_law_row", "_law_pairs_here"] []
  d_compd : Tw.DefAt K mg "_law_compared" s_compd ["_law_pen_here", "_law_row", "_law_pairs_here"] []
  d_law : Tw.DefAt K mg "law" s_law ["_law_script"] []
  d1_Iinit : Tw.MakAt K mg "Item" (cl 7) "Item.__init__" s_Iinit ["self", "rank", "name"] [.str ""]
  d0_Rowinit : MakAtT K mg cl "Row" 8 "Row.__init__" s_Rowinit ["self", "items"] [.tup []]
  dk_Rownumber_0_rank : MetAtK K (cl 8) "number" "Row.number" s_Rownumber ["self", "rank"] 1 ["rank"] (fun xs ys => [xs.getD 0 .non, ys.getD 0 .non])
  dk_Rowwithin_0_other : MetAtK K (cl 8) "within" "Row.within" s_Rowwithin ["self", "other"] 1 ["other"] (fun xs ys => [xs.getD 0 .non, ys.getD 0 .non])
  nf_Row : ∀ t ∈ [(.own 8 : Ty), (.own 7 : Ty), (.non : Ty), (.list : Ty), (.int : Ty), (.str : Ty), (.tup : Ty)], PySem.W.notFirst K (cl 8) (t.u cl) = true
  tb_placer : LamX.TabB base mg (cl 9) (cl 10)
  tm_placer : (cl 10, (envOfC "_law_places_right" (C8.fnScope s_placer) 0 0 .none).qual ++ "<lambda>") ∈ cl.t
  tu_placer : ∀ p ∈ cl.t, p.1 = cl 10 → p.2 = (envOfC "_law_places_right" (C8.fnScope s_placer) 0 0 .none).qual ++ "<lambda>"
  gi_Row : ∀ f, PySem.W.findIn K (.ref (cl 8)) "__getitem__" = some (some (.ref f)) → PySem.W.fnIn K f = true
  pend : cl.d = false
end M04
namespace M04
open PySem PySem.Spec PyProof.Rows L2 Tw Mr
local macro_rules | `(tactic| walk_at "mm") => `(tactic| simp -implicitDefEqProofs only [↓Mr.hold_cM, ↓Mr.hold_ite, ↓Mr.hold_for, Mr.hIte_true, Mr.hIte_false, ↓Mr.startT.eq_1, ↓Mr.endsM.eq_1, ↓Mr.fSeq.eq_1, ↓Mr.fSkip.eq_1, ↓Mr.fRet.eq_1, ↓Mr.fFldS.eq_1, ↓Mr.fIfS.eq_1, ↓Mr.fRaise.eq_1, ↓Mr.gN.eq_1, ↓Mr.xk, ↓Mr.fVar.eq_1, ↓Mr.fC.eq_1, ↓Mr.f2.eq_1, ↓Mr.f3.eq_1, ↓Mr.g2.eq_1, ↓Mr.kB.eq_1, ↓Mr.fTest.eq_1, ↓Mr.fTru.eq_1, ↓Mr.fNot.eq_1, ↓Mr.fAndV.eq_1, ↓Mr.fNotV.eq_1, ↓Mr.fUn.eq_1, ↓Mr.onO.eq_1, Mr.onB_bl, ↓Mr.fNil.eq_1, ↓Mr.fCons.eq_1, Mr.eqF, ↓Mr.fCB.eq_1, ↓Mr.fCall.eq_1, ↓Mr.fMk.eq_1, Mr.intO, Mr.ltO, Mr.leO, Mr.gtO, Mr.negO, Mr.ixO, Mr.lenO, Mr.isiO, Mr.fldO, Mr.inO', Mr.inB, Mr.T.flat, Mr.S.put_same, Mr.S.put_put, ↓Mr.iRange2.eq_1, Mr.okAt, Mr.wipeT, ↓Mr.fFor.eq_1, Mr.allO, ↓Mr.doneM.eq_1, Option.map_some, Mr.S.lst?, Mr.S.seq?, Mr.S.ty?, Mr.S.obj?, Mr.S.dat, Mr.T.dat, Mr.dats, PyData.eqv, PyData.eqvAll, Bool.true_and, decide_true, decide_false, Mr.okC, List.map_cons, List.map_nil, List.length_cons, List.length_nil, List.cons_append, List.nil_append, List.append_nil, List.replicate_succ, List.replicate_zero, List.getElem?_cons_zero, List.getElem?_cons_succ, List.set_cons_zero, List.set_cons_succ, Int.reduceToNat, Int.reducePow, Int.reduceAbs, Int.reduceLE, Int.reduceLT, Int.reduceSub, Int.reduceAdd, Int.reduceNeg, Int.reduceMul, Int.reduceEq, Nat.reducePow, Nat.sub_self, Nat.reduceSub, Nat.reduceAdd, Nat.reduceLeDiff, Nat.reduceLT, Nat.reduceEqDiff, Nat.zero_add, Nat.add_one_sub_one, true_and, and_true, ↓reduceIte, Bool.not_true, Bool.not_false, List.zip_cons_cons, List.zip_nil_right, M04.kkA_int, M04.kkA_bool, M04.kkA_str, M04.kkA_Item, M04.lkA_rank_name, M04.insL, M04.excL, List.mem_cons, List.not_mem_nil, or_false, or_true, true_or, false_or, reduceCtorEq, Bool.not_eq_true])
def G : Int := 999999999999999999999999999999
def plainT : Mr.T → Bool
  | .non | .bl _ | .int _ | .str _ | .lst _ | .tup _ | .dct _ => true
  | _ => false
/-- plain data, a row, an error -/
def oddT (v : Mr.T) : Prop := plainT v = true ∨ (∃ fs, v = .obj 8 fs) ∨ ∃ fs, v = .err 4 fs
def isIntB (v : Mr.T) (lo hi : Int) : Bool := match v with | .int i => decide (lo ≤ i) && decide (i ≤ hi) | _ => false
def F_isint : FD := fun ts s Q _ => ∃ v lo hi, ts = [v, .int lo, .int hi] ∧ oddT v ∧ Q (.bl (isIntB v lo hi)) s
def rankB (v : Mr.T) : Bool := isIntB v (-G) G
def F_isrank : FD := fun ts s Q _ => ∃ v, ts = [v] ∧ oddT v ∧ Q (.bl (rankB v)) s
def L : Str := "abcdefghijklmnopqrstuvwxyz"
def nameB (v : Mr.T) : Bool := match v with | .str z => decide (z.length ≤ 8) && z.cps.toList.all (fun c => occ L ⟨#[c]⟩) | _ => false
def F_isname : FD := fun ts s Q _ => ∃ z, ts = [.str z] ∧ z.length ≤ 100000 ∧ Q (.bl (nameB (.str z))) s
abbrev Pr := Int × Str
def itm (p : Pr) : Mr.T := .obj 7 [("rank", .int p.1), ("name", .str p.2)]
def okP (p : Pr) : Prop := rankB (.int p.1) = true ∧ nameB (.str p.2) = true
/-- Item(i, z), both right -/
def F_Iinit : FD := fun ts s Q _ => ∃ x i z, ts = [.cell x, .int i, .str z] ∧ s.on x = some (.obj 7 []) ∧ okP (i, z) ∧ Q .non (s.put x (itmC (i, z)))
  where itmC (p : Pr) : Cell := .obj 7 [("rank", .int p.1), ("name", .str p.2)]
/-- the pair that a value stands for -/
def toP : Mr.T → Option Pr
  | .obj 7 [(_, .int i), (_, .str z)] => some (i, z)
  | .int i => if rankB (.int i) = true then some (i, Str.ofString "") else none
  | _ => none
def okV (v : Mr.T) : Prop := plainT v = true ∨ ∃ p, v = itm p
def F_item_of : FD := fun ts s Q E => ∃ v i, ts = [v, .int i] ∧ okV v ∧ (match toP v with | some p => Q (itm p) s | none => E ⟨3, [("part", .int i)]⟩ s)
def F_need_few : FD := fun ts s Q E => ∃ xs, ts = [.lst xs] ∧ (if xs.length ≤ 200 then Q .non s else E ⟨6, [("most", .int 200)]⟩ s)
def rk (ps : List Pr) (k : Nat) : Int := (ps.getD k (0, "")).1
def pT (ps : List Pr) : Mr.T → Bool
  | .int i => decide (rk ps i.toNat < rk ps (i.toNat - 1))
  | _ => false
/-- the places at which a row falls -/
def FL (ps : List Pr) : List Mr.T := (rng 1 (ps.length - 1)).filter (pT ps)
def F_need_ascending : FD := fun ts s Q E => ∃ ps : List Pr, ts = [.lst (ps.map itm)] ∧ ps.length ≤ 100000 ∧ (match FL ps with | [] => Q .non s | t :: _ => E ⟨5, [("at", t)]⟩ s)
theorem toP_itm (p : Pr) : toP (itm p) = some p := rfl
theorem toP_int {i : Int} (h : rankB (.int i) = true) : toP (.int i) = some (i, Str.ofString "") := by
  show (if rankB (.int i) = true then _ else _) = _
  rw [h]
  rfl
theorem toP_none {v : Mr.T} (hp : plainT v = true) (h : rankB v = false) : toP v = none := by
  cases v <;> first | rfl | (cases hp; done) | skip
  show (if rankB _ = true then _ else _) = _
  rw [h]
  rfl
theorem allC (z : Str) : bools (z.cps.toList.map fun c => Mr.T.bl (occ L ⟨#[c]⟩)) = some (z.cps.toList.map fun c => occ L ⟨#[c]⟩) := by
  have := bools_map (z.cps.toList.map fun c => occ L ⟨#[c]⟩)
  rw [List.map_map] at this
  exact this
theorem name_len {z : Str} (h : nameB (.str z) = true) : z.length ≤ 8 := by
  unfold nameB at h
  exact of_decide_eq_true (Bool.and_eq_true_iff.mp h).1
theorem of_rank {i : Int} (h1 : -G ≤ i) (h2 : i ≤ G) : rankB (.int i) = true := by
  show (decide (-G ≤ i) && decide (i ≤ G)) = true
  rw [decide_eq_true h1, decide_eq_true h2]
  rfl
theorem name_nil : nameB (.str (Str.ofString "")) = true := by decide +kernel
theorem mk_item {x : Addr} {s : S} {Q : KT} {E : KX} {i : Int} {z : Str} (hx : s.on x = none) (ok : okP (i, z)) (k : Q (itm (i, z)) s) : @hM F_Iinit [.cell x, .int i, .str z] (s.put x (.obj 7 [])) ⟨doneM true x Q⟩ ⟨E⟩ := by
  refine hM.of ⟨x, _, _, rfl, S.put_same _ _ _, ok, ?_⟩
  unfold F_Iinit.itmC
  walk_at "mm"
  rw [S.del_put hx]
  exact k
/-- an item of a list, by its place -/
theorem atI_ps {ps : List Pr} {f : Pr → Mr.T} {i : Int} (h0 : 0 ≤ i) (h1 : i < ps.length) : atI (ps.map f) i = some (f (ps.getD i.toNat (0, ""))) := by
  have hj : i.toNat < ps.length := by omega
  unfold L2.atI L2.ixN
  rw [if_pos h0, if_pos (by rw [List.length_map]; exact h1)]
  show (List.map f ps)[i.toNat]? = _
  rw [List.getElem?_map, List.getD_eq_getElem?_getD, List.getElem?_eq_getElem hj]
  rfl
section
variable {w : World} {K : PySem.W.Frag} {mg : Str → Option Value} {base : Heap} {cl : CL}
theorem fn_isint (T : Txt K w mg cl base) : ∀ {x : Str} {f : Addr} {fd : FuncData}, C8.Fun K x "is_integer" s_isint f fd → FnG P w K mg base 3 f fd ["value", "least", "most"] (spM K cl F_isint) := by
  refine fnM (k := 2) (N := N_isint) sc_isint ?len (fun f cdv A out s H E hr => (jss_one (js_ret (je_and (je_b (c_isi T.wc) (by rfl) T.n_isinstance (by decide +kernel) (ja_cons (je_var 0) (ja_cons (je_ty .int (by rfl) T.n_int (by decide +kernel)) ja_nil))) (je_and (je_not (je_b (c_isi T.wc) (by rfl) T.n_isinstance (by decide +kernel) (ja_cons (je_var 0) (ja_cons (je_ty .bool (by rfl) T.n_bool (by decide +kernel)) ja_nil)))) (je_one (je_chain o_le o_le (je_var 1) (je_var 0) (je_var 2)))))))) ?sem
  case len => rintro ts s Q E ⟨v, lo, hi, rfl, _⟩; rfl
  case sem =>
    rintro ts s Q E ⟨v, lo, hi, rfl, hp | ⟨fs, rfl⟩ | ⟨fs, rfl⟩, k⟩
    case' inr.inl =>
      walk_at "mm"
      exact k
    case' inr.inr =>
      walk_at "mm"
      exact k
    cases v <;> first | cases hp; done | skip
    all_goals walk_at "mm"
    all_goals first | exact k | skip
    unfold isIntB at k
    by_cases h : lo ≤ ‹Int›
    all_goals (simp [h] at k ⊢; walk_at "mm"; exact k)
theorem ok_isint (T : Txt K w mg cl base) : CalM P w K mg base cl 3 "is_integer" F_isint [] := calOf T.d_isint (fun _ _ _ => .nil) (fn_isint T)
theorem fn_isrank (T : Txt K w mg cl base) : ∀ {x : Str} {f : Addr} {fd : FuncData}, C8.Fun K x "is_rank" s_isrank f fd → FnG P w K mg base 6 f fd ["value"] (spM K cl F_isrank) := by
  refine fnM (k := 5) (N := N_isrank) sc_isrank ?len (fun f cdv A out s H E hr => (jss_one (js_ret (je_call Tw.tk_cx (ok_isint T) hr (by decide) (by rfl) (ja_cons (je_var 0) (ja_cons (je_neg (je_glob (by rfl) T.g_GREATEST (fun _ _ _ => .int _))) (ja_cons (je_glob (by rfl) T.g_GREATEST (fun _ _ _ => .int _)) ja_nil))))))) ?sem
  case len => rintro ts s Q E ⟨v, rfl, _⟩; rfl
  case sem =>
    rintro ts s Q E ⟨v, rfl, hp, k⟩
    walk_at "mm"
    exact hM.of ⟨v, _, _, rfl, hp, k⟩
theorem ok_isrank (T : Txt K w mg cl base) : CalM P w K mg base cl 6 "is_rank" F_isrank [] := calOf T.d_isrank (fun _ _ _ => .nil) (fn_isrank T)
theorem fn_isname (T : Txt K w mg cl base) : ∀ {x : Str} {f : Addr} {fd : FuncData}, C8.Fun K x "is_item_name" s_isname f fd → FnG P w K mg base 3 f fd ["value"] (spM K cl F_isname) := by
  refine fnM (k := 2) (N := N_isname) sc_isname ?len (fun f cdv A out s H E hr => (jss_one (js_ret (je_and (je_b (c_isi T.wc) (by rfl) T.n_isinstance (by decide +kernel) (ja_cons (je_var 0) (ja_cons (je_ty .str (by rfl) T.n_str (by decide +kernel)) ja_nil))) (je_and (je_cmp o_le (je_b c_len (by rfl) T.n_len (by decide +kernel) (ja_cons (je_var 0) ja_nil)) (je_glob (by rfl) T.g_MOST_LETTERS (fun _ _ _ => .int _)) (nomark _)) (je_one (je_b (c_all rfl) (by rfl) T.n_all (by decide +kernel) (ja_cons (je_lc (own := [("sign", 1)]) (by rfl) sc_isname.nd (ji_seq (je_var 0)) (blkOk_by (own := [("sign", 1)]) (N := N_isname) (sc := C8.fnScope s_isname) (by decide +kernel)) (fun _ _ _ _ _ => (pg_name (i := 1) sc_isname.nd rfl (Or.inl rfl))) (gt_name (i := 1) (by decide))  (fun _ _ _ _ _ => (je_cmp (o_in hr) (je_var 1) (je_glob (by rfl) T.g_LETTERS (fun _ _ _ => .str _)) (by rfl)))) ja_nil)))))))) ?sem
  case len => rintro ts s Q E ⟨v, rfl, _⟩; rfl
  case sem =>
    rintro ts s Q E ⟨z, rfl, hs, k⟩
    walk_at "mm"
    refine ⟨Nat.le_trans hs (by decide), ?_⟩
    refine hIte.by (fun h => ?_) fun h => ?_
    · refine lc_map (fun t => match t with | .str w => .bl (occ L w) | t => t) ?_ ?_ ?_ trivial
      · intro t ht Q' k'
        obtain ⟨c, _, rfl⟩ := List.mem_map.mp ht
        walk_at "mm"
        exact k'
      · have := of_decide_eq_true h
        simp [Str.length] at this ⊢
        omega
      · walk_at "mm"
        rw [List.map_map, show ((fun t : Mr.T => match t with | .str w => .bl (occ L w) | t => t) ∘ fun c => Mr.T.str ⟨#[c]⟩) = fun c => Mr.T.bl (occ L ⟨#[c]⟩) from rfl, allC]
        walk_at "mm"
        have h' := of_decide_eq_true h
        have e : nameB (.str z) = (z.cps.toList.map fun c => occ L ⟨#[c]⟩).all fun b => b := by
          show (decide (z.length ≤ 8) && z.cps.toList.all fun c => occ L ⟨#[c]⟩) = _
          rw [decide_eq_true (show z.length ≤ 8 by omega), Bool.true_and, List.all_map]
          rfl
        rw [e] at k
        exact k
    · have h' := of_decide_eq_false h
      have e : nameB (.str z) = false := by
        show (decide (z.length ≤ 8) && z.cps.toList.all fun c => occ L ⟨#[c]⟩) = _
        rw [decide_eq_false (show ¬ z.length ≤ 8 by omega)]
        rfl
      rw [e] at k
      rw [h]
      exact k
theorem ok_isname (T : Txt K w mg cl base) : CalM P w K mg base cl 3 "is_item_name" F_isname [] := calOf T.d_isname (fun _ _ _ => .nil) (fn_isname T)
theorem fn_Iinit (T : Txt K w mg cl base) : ∀ {x : Str} {f : Addr} {fd : FuncData}, C8.Fun K x "Item.__init__" s_Iinit f fd → FnG P w K mg base 9 f fd ["self", "rank", "name"] (spM K cl F_Iinit) := by
  refine fnM (k := 8) (N := N_Iinit) sc_Iinit ?len (fun f cdv A out s H E hr => (jss_cons (js_if (jt_not (jt_val (je_call Tw.tk_cx (ok_isrank T) hr (by decide) (by rfl) (ja_cons (je_var 1) ja_nil)))) (jss_one (js_raise (by rfl) Tw.tk_cx T.x_BadItem T.oex_BadItem hr (by rfl) T.mx_BadItem (ja_cons je_str ja_nil))) jss_nil)
    (jss_cons (js_if (jt_not (jt_val (je_call Tw.tk_cx (ok_isname T) hr (by decide) (by rfl) (ja_cons (je_var 2) ja_nil)))) (jss_one (js_raise (by rfl) Tw.tk_cx T.x_BadItem T.oex_BadItem hr (by rfl) T.mx_BadItem (ja_cons je_str ja_nil))) jss_nil)
    (jss_cons (js_fld T.fld_rank (je_var 0) (je_var 1))
    (jss_one (js_fld T.fld_name (je_var 0) (je_var 2))))))) ?sem
  case len => rintro ts s Q E ⟨x, v, u, rfl, _⟩; rfl
  case sem =>
    rintro ts s Q E ⟨x, i, z, rfl, hx, ⟨hi, hz⟩, k⟩
    walk_at "mm"
    refine hM.of ⟨_, rfl, .inl rfl, ?_⟩
    rw [hi]
    walk_at "mm"
    refine hM.of ⟨_, rfl, Nat.le_trans (name_len hz) (by decide), ?_⟩
    rw [hz]
    walk_at "mm"
    rw [hx]
    walk_at "mm"
    exact k
theorem mk_Iinit (T : Txt K w mg cl base) : MakM P w K mg base cl 9 "Item" 7 F_Iinit [] := makOf T.d_Iinit (fun _ _ _ => .nil) (fn_Iinit T)
theorem mk1_Iinit (T : Txt K w mg cl base) : MakM P w K mg base cl 9 "Item" 7 F_Iinit [.str ""] := makOf T.d1_Iinit (fun _ _ _ => (.cons (.str _) .nil)) (fn_Iinit T)
theorem fn_item_of (T : Txt K w mg cl base) : ∀ {x : Str} {f : Addr} {fd : FuncData}, C8.Fun K x "item_of" s_item_of f fd → FnG P w K mg base 12 f fd ["value", "at"] (spM K cl F_item_of) := by
  refine fnM (k := 11) (N := N_item_of) sc_item_of ?len (fun f cdv A out s H E hr => (jss_cons (js_if (jt_val (je_b (c_isi T.wc) (by rfl) T.n_isinstance (by decide +kernel) (ja_cons (je_var 0) (ja_cons (je_cls 7 (by rfl) T.mx_Item) ja_nil)))) (jss_one (js_ret (je_var 0))) jss_nil)
    (jss_cons (js_if (jt_not (jt_val (je_call Tw.tk_cx (ok_isrank T) hr (by decide) (by rfl) (ja_cons (je_var 0) ja_nil)))) (jss_one (js_raise (by rfl) Tw.tk_cx T.x_BadItem T.oex_BadItem hr (by rfl) T.mx_BadItem (ja_cons (je_var 1) ja_nil))) jss_nil)
    (jss_one (js_ret (je_mk true Tw.tk_cx (mk1_Iinit T) hr (by decide) (by rfl) (ja_cons (je_var 0) ja_nil))))))) ?sem
  case len => rintro ts s Q E ⟨_, _, rfl, _⟩; rfl
  case sem =>
    rintro ts s Q E ⟨v, i, rfl, hv, k⟩
    rcases hv with hp | ⟨p, rfl⟩
    · by_cases hb : rankB v = true
      · cases v <;> first | cases hb; done | skip
        rename_i j
        rw [toP_int hb] at k
        walk_at "mm"
        refine hM.of ⟨_, rfl, .inl rfl, ?_⟩
        rw [hb]
        walk_at "mm"
        exact fun x hx => mk_item hx ⟨hb, name_nil⟩ k
      · rw [Bool.not_eq_true] at hb
        rw [toP_none hp hb] at k
        cases v <;> first | cases hp; done | skip
        all_goals walk_at "mm"
        all_goals refine hM.of ⟨_, rfl, .inl rfl, ?_⟩
        all_goals rw [hb]
        all_goals walk_at "mm"
        all_goals exact k
    · rw [toP_itm] at k
      unfold itm
      walk_at "mm"
      exact k
theorem ok_item_of (T : Txt K w mg cl base) : CalM P w K mg base cl 12 "item_of" F_item_of [] := calOf T.d_item_of (fun _ _ _ => .nil) (fn_item_of T)
theorem fn_need_few (T : Txt K w mg cl base) : ∀ {x : Str} {f : Addr} {fd : FuncData}, C8.Fun K x "need_few" s_need_few f fd → FnG P w K mg base 3 f fd ["items"] (spM K cl F_need_few) := by
  refine fnM (k := 2) (N := N_need_few) sc_need_few ?len (fun f cdv A out s H E hr => (jss_one (js_if (jt_cmp o_gt (je_b c_len (by rfl) T.n_len (by decide +kernel) (ja_cons (je_var 0) ja_nil)) (je_glob (by rfl) T.g_MOST_ITEMS (fun _ _ _ => .int _)) (nomark _)) (jss_one (js_raise (by rfl) Tw.tk_cx T.x_TooMany T.oex_TooMany hr (by rfl) T.mx_TooMany (ja_cons (je_glob (by rfl) T.g_MOST_ITEMS (fun _ _ _ => .int _)) ja_nil))) jss_nil))) ?sem
  case len => rintro ts s Q E ⟨_, rfl, _⟩; rfl
  case sem =>
    rintro ts s Q E ⟨xs, rfl, k⟩
    walk_at "mm"
    refine hIte.by (fun h => ?_) fun h => ?_
    · have h := of_decide_eq_true h
      rw [if_neg (by omega)] at k
      walk_at "mm"
      exact k
    · have h := of_decide_eq_false h
      rw [if_pos (by omega)] at k
      walk_at "mm"
      exact k
theorem ok_need_few (T : Txt K w mg cl base) : CalM P w K mg base cl 3 "need_few" F_need_few [] := calOf T.d_need_few (fun _ _ _ => .nil) (fn_need_few T)
theorem fn_need_ascending (T : Txt K w mg cl base) : ∀ {x : Str} {f : Addr} {fd : FuncData}, C8.Fun K x "need_ascending" s_need_ascending f fd → FnG P w K mg base 3 f fd ["items"] (spM K cl F_need_ascending) := by
  refine fnM (k := 2) (N := N_need_ascending) sc_need_ascending ?len (fun f cdv A out s H E hr => (jss_one (js_for (L2.passes_of rfl) rfl (ji_range2 (by rfl) T.n_range (ja_cons je_int (ja_cons (je_b c_len (by rfl) T.n_len (by decide +kernel) (ja_cons (je_var 0) ja_nil)) ja_nil))) (jg_name (i := 1) sc_need_ascending.nd rfl (Or.inl rfl))
      (jss_one (js_if (jt_cmp o_lt (je_fld T.fld_rank (je_ix (je_var 0) (je_var 1) (fun _ _ => rfl))) (je_fld T.fld_rank (je_ix (je_var 0) (je_op o_sub (je_var 1) je_int) (fun _ _ => rfl))) (nomark _)) (jss_one (js_raise (by rfl) Tw.tk_cx T.x_Disordered T.oex_Disordered hr (by rfl) T.mx_Disordered (ja_cons (je_var 1) ja_nil))) jss_nil))))) ?sem
  case len => rintro ts s Q E ⟨_, rfl, _⟩; rfl
  case sem =>
    rintro ts s Q E ⟨ps, rfl, hl, k⟩
    walk_at "mm"
    rw [List.length_map, show ((ps.length : Int) - 1).toNat = ps.length - 1 by omega]
    refine ⟨⟨by omega, by omega⟩, ?_⟩
    refine for_ind (fun pre post τ s' => s' = s ∧ (∃ x, τ = [some (.lst (ps.map itm)), x]) ∧ pre.filter (pT ps) = []) ⟨rfl, ⟨_, rfl⟩, rfl⟩ (fun _ _ _ _ _ => trivial) ?_ ?_
    · rintro pre t post τ s' N e ⟨rfl, ⟨x, rfl⟩, hf⟩ k'
      obtain ⟨rfl, hp⟩ := rng_get e
      walk_at "mm"
      rw [atI_ps (by omega) (by omega)]
      unfold itm
      walk_at "mm"
      rw [show (fun p : Pr => Mr.T.obj 7 [(Str.ofString "rank", .int p.1), (Str.ofString "name", .str p.2)]) = itm from rfl, atI_ps (by omega) (by omega)]
      unfold itm
      walk_at "mm"
      have ep : pT ps (.int (1 + (pre.length : Int))) = decide ((ps.getD (1 + (pre.length : Int)).toNat (0, Str.ofString "")).1 < (ps.getD (1 + (pre.length : Int) - 1).toNat (0, Str.ofString "")).1) := by
        show decide (rk ps _ < rk ps _) = _
        unfold rk
        rw [show (1 + (pre.length : Int)).toNat - 1 = (1 + (pre.length : Int) - 1).toNat by omega]
      refine hIte.by (fun h => ?_) fun h => ?_
      · rw [h] at ep
        have ef : FL ps = .int (1 + (pre.length : Int)) :: post.filter (pT ps) := by
          unfold FL
          rw [e, List.filter_append, hf, List.filter_cons, if_pos ep]
          rfl
        rw [ef] at k
        walk_at "mm"
        exact k
      · rw [h] at ep
        walk_at "mm"
        refine k' _ _ ⟨rfl, ⟨_, rfl⟩, ?_⟩
        rw [List.filter_append, hf, List.filter_cons, if_neg (by rw [ep]; exact Bool.false_ne_true)]
        rfl
    · rintro τ s' ⟨rfl, ⟨x, rfl⟩, hf⟩
      rw [show FL ps = [] from hf] at k
      walk_at "mm"
      exact k
theorem ok_need_ascending (T : Txt K w mg cl base) : CalM P w K mg base cl 3 "need_ascending" F_need_ascending [] := calOf T.d_need_ascending (fun _ _ _ => .nil) (fn_need_ascending T)
theorem iter_Row (T : Txt K w mg cl base) : IterM P w K mg base cl 2 8 "held" := iterOf T.d_Rowiter sc_Rowiter (T.fld_held 8 (by decide)).2 T.n_iter rfl rfl (Or.inl rfl) (by decide) (by decide) rfl
end
end M04
local macro_rules | `(tactic| walk_at "hp") => `(tactic| first
  | assumption
  | (exact L2.upd_same)
  | (refine Tw.Same.tr (by assumption) ?_ <;> walk_at "hp")
  | ((refine' Tw.SP.tr (by assumption) ?hq ?hn); (case hq => walk_at "hp"); (case hn => first | rfl | exact Tw.isPen_ints _)))
local macro_rules | `(tactic| walk_at "pen") => `(tactic| first
  | assumption
  | ((refine' Tw.PenAt.same (by assumption) ?hq); (case hq => walk_at "pen")))
local macro_rules | `(tactic| walk_at "same") => `(tactic| first
  | assumption
  | exact L2.Same.refl _
  | ((refine' L2.Same.trans ?x ?y); (case y => assumption); (case x => walk_at "same")))
local macro_rules | `(tactic| walk_at "sp") => `(tactic| first
  | assumption
  | exact Tw.SP.refl _
  | ((refine' Tw.SP.trans ?x ?y); (case y => assumption); (case x => walk_at "sp"))
  | ((refine' Tw.SP.trans ?x (L2.Same.sp ?y)); (case y => assumption); (case x => walk_at "sp")))
local macro_rules | `(tactic| walk_at "len") => `(tactic| first
  | exact Nat.lt_of_le_of_lt (Nat.le_refl 0) (by decide)
  | exact Nat.lt_of_le_of_lt (Tw.put_len (Nat.le_refl 0)) (by decide)
  | exact Nat.lt_of_le_of_lt (Tw.put_len (Tw.put_len (Nat.le_refl 0))) (by decide)
  | exact Nat.lt_of_le_of_lt (Tw.put_len (Tw.put_len (Tw.put_len (Nat.le_refl 0)))) (by decide))
local macro_rules | `(tactic| walk_at "r1") => `(tactic| first
  | with_reducible refine Tw.u_seq ?_
  | with_reducible refine Tw.u_lcS ?_
  | with_reducible refine Tw.u_xr ?_
  | with_reducible refine Tw.u_js ?_
  | with_reducible refine Tw.u_js0 ?_
  | with_reducible refine Tw.u_fmt ?_
  | with_reducible refine Tw.u_xv ?_
  | with_reducible refine Tw.u_xg ?_
  | with_reducible refine Tw.u_mkW ?_
  | with_reducible refine Tw.u_lcL ?_
  | with_reducible refine Tw.u_lcR ?_
  | with_reducible refine Tw.k_str ?_
  | with_reducible refine Tw.u_asg ?_
  | with_reducible refine Tw.u_if ?_
  | with_reducible refine Tw.u_ret ?_
  | with_reducible refine Tw.u_op ?_
  | ((with_reducible refine' Tw.u_var ?e ?_); (case e => exact rfl))
  | with_reducible refine Tw.u_c ?_
  | with_reducible refine Tw.u_gname ?_
  | with_reducible refine Tw.u_test ?_
  | with_reducible refine Tw.k_bl ?_
  | with_reducible refine Tw.u_next ?_
  | with_reducible refine Tw.u_cb ?_
  | with_reducible refine Tw.u_cons ?_
  | with_reducible refine Tw.u_nil ?_
  | with_reducible refine Tw.r_I0 ?_
  | with_reducible refine Tw.u_and ?_
  | with_reducible refine Tw.u_or ?_
  | with_reducible refine Tw.u_not ?_
  | with_reducible refine Tw.u_B ?_
  | with_reducible refine Tw.u_un ?_
  | with_reducible refine Tw.r_U ?_
  | with_reducible refine Tw.r_int ?_
  | with_reducible refine Tw.r_intB ?_
  | with_reducible refine Tw.r_abs ?_
  | with_reducible refine Tw.u_gsub ?_
  | with_reducible refine Tw.u_drop ?_
  | with_reducible refine Tw.u_ifE ?_
  | with_reducible refine Tw.u_andV ?_
  | with_reducible refine Tw.u_orV ?_
  | with_reducible refine Tw.u_notV ?_
  | with_reducible refine Tw.u_call0 ?_
  | with_reducible refine Tw.u_call ?_
  | with_reducible refine Tw.u_sl ?_
  | with_reducible refine Tw.u_nopart ?_
  | with_reducible refine Tw.u_part ?_
  | with_reducible refine Tw.k_part ?_
  | with_reducible refine Tw.u_lstK ?_
  | with_reducible refine Tw.u_tupK ?_
  | ((with_reducible refine' Tw.k_lst ?z ?_); (case z => exact Nat.le_of_ble_eq_true rfl); intro _ _ _ _ _)
  | ((with_reducible refine' Tw.k_tup ?z ?_); (case z => exact Nat.le_of_ble_eq_true rfl); intro _ _ _ _ _)
  | with_reducible refine Tw.u_parK ?_
  | with_reducible refine Tw.k_par ?_
  | with_reducible refine Tw.u_fld ?_
  | with_reducible refine Tw.u_chain ?_
  | with_reducible refine Tw.u_meth0 ?_
  | with_reducible refine Tw.u_meth ?_
  | with_reducible refine Tw.r_eqI ?_
  | with_reducible refine Tw.r_neI ?_
  | with_reducible refine Tw.r_eqS ?_
  | with_reducible refine Tw.r_neS ?_
  | with_reducible refine Tw.r_eqB ?_
  | with_reducible refine Tw.r_neB ?_
  | with_reducible refine Tw.r_isB ?_
  | with_reducible refine Tw.r_notB ?_
  | with_reducible refine Tw.r_reprB ?_
  | ((with_reducible refine' Tw.r_reprBB ?a ?_); (case a => walk_at "hp"))
  | with_reducible refine Tw.u_forR ?_
  | with_reducible refine Tw.u_forL ?_
  | with_reducible refine Tw.u_forT ?_
  | with_reducible refine Tw.u_sfld ?_
  | with_reducible refine Tw.u_make0 ?_
  | with_reducible refine Tw.u_make ?_
  | with_reducible refine Tw.u_ownC ?_
  | with_reducible refine Tw.k_ownC ?_
  | with_reducible refine Tw.u_sm ?_
  | with_reducible refine Tw.k_sm0 ?_
  | with_reducible refine Tw.k_sm ?_
  | with_reducible refine Tw.u_gcons ?_
  | with_reducible refine Tw.u_gnil ?_
  | ((with_reducible refine' Tw.u_gtup ?a ?b ?_); (case a => exact L2.SqT.of (by walk_at "hp")); (case b => exact rfl))
  | ((with_reducible refine' Tw.k_ownC2 ?a ?_); (case a => walk_at "hp"))
  | ((with_reducible refine' Tw.r_own2 ?a ?b ?_); (case a => walk_at "hp"); (case b => walk_at "hp"))
  | ((with_reducible refine' Tw.r_ownI ?a ?_); (case a => walk_at "hp"))
  | ((with_reducible refine' Tw.r_ownR ?a ?_); (case a => walk_at "hp"))
  | ((with_reducible refine' Tw.r_own1 ?a ?_); (case a => walk_at "hp"))
  | ((with_reducible refine' Tw.k_meth ?a ?b ?_); (case a => walk_at "hp"); (case b => walk_at "lk"))
  | ((with_reducible refine' Tw.k_fld ?a ?b ?c ?d ?_); (case a => walk_at "hp"); (case b => assumption); (case c => assumption); (case d => walk_at "lk"))
  | ((with_reducible refine' Tw.k_set ?a ?b ?c ?d ?_); (case a => walk_at "hp"); (case b => assumption); (case c => assumption); (case d => walk_at "len"))
  | walk_at "c1"
  | with_reducible refine Tw.w_T ?_
  | with_reducible refine Tw.w_F ?_
  | with_reducible refine Tw.w_nT ?_
  | with_reducible refine Tw.w_nF ?_
  | ((with_reducible refine' Tw.r_mod ?a ?_); (case a => omega); intro _ _)
  | ((with_reducible refine' Tw.r_mul ?a ?_); (case a => first | exact Or.inl ⟨by omega, by omega⟩ | exact Or.inr ⟨by omega, by omega⟩))
  | ((with_reducible refine' Tw.r_div ?a ?b ?_); (case a => omega); (case b => omega))
  | ((with_reducible refine' Mr.r_divL ?a ?b ?_); (case a => omega); (case b => omega))
  | ((with_reducible refine' Tw.r_pow ?a ?b ?c ?d ?_); (case a => omega); (case b => omega); (case c => exact ⟨by omega, by omega⟩); (case d => (simp only [Int.reduceToNat, Int.reducePow]; exact rfl)))
  | ((with_reducible refine' Tw.r_ixL' ?a ?b ?_); (case a => walk_at "hp"); (case b => exact rfl))
  | ((with_reducible refine' Tw.r_ixT' ?a ?b ?_); (case a => walk_at "hp"); (case b => exact rfl))
  | ((with_reducible refine' Tw.r_setL ?a ?b ?_); (case a => walk_at "hp"); (case b => exact rfl))
  | ((with_reducible refine' Tw.r_lenL ?a ?_); (case a => walk_at "hp")))
local macro_rules | `(tactic| walk_at "r") => `(tactic| repeat walk_at "r1")
local macro_rules | `(tactic| walk_at "lk") => `(tactic| fail)
local macro_rules | `(tactic| walk_at "c1") => `(tactic| fail)
namespace M04
open PySem PySem.Spec PyProof.Rows L2 Tw Mr
section
variable {w : World} {K : PySem.W.Frag} {mg : Str → Option Value} {base : Heap} {cl : CL}
theorem ok_draw0 (T : Txt K w mg cl base) : Cal P w K mg base 3 "_law_draw" spDrawX [] := by
  refine cal0 (k := 2) (N := N_draw) T.d_draw sc_draw (by rintro vs H Q E ⟨_, _, _, _, _, _, rfl, _⟩; rfl) ?_
  rintro f cdv A out s H vs Q E hr ⟨p, L, a, r, many, ns, rfl, hp, hL, ha0, han, hlen, hm1, hm2, k⟩
  refine ⟨_, (pss_cons (ps_if (pt_cmpR op_gt (pe_ix ix_list (pv 0) pe_int (fun _ _ => rfl)) pe_int (nomark _)) (pss_cons (ps_set (i := 2) sc_draw.nd rfl (Or.inl rfl) (pe_op op_mod (pe_callTy Tw.c_int (by rfl) T.n_int (by decide +kernel) (pa_cons (pe_ix ix_list (pv 0) pe_int (fun _ _ => rfl)) pa_nil)) (pv 1)))
      (pss_cons (ps_asg (pe_op op_fdivW (pe_callTy Tw.c_int (by rfl) T.n_int (by decide +kernel) (pa_cons (pe_ix ix_list (pv 0) pe_int (fun _ _ => rfl)) pa_nil)) (pv 1)) (pg_sub (pv 0) pe_int set_list))
      (pss_one (ps_ret (pv 2))))) pss_nil)
    (pss_cons (ps_set (i := 3) sc_draw.nd rfl (Or.inl rfl) (pe_ix ix_list (pv 0) pe_int (fun _ _ => rfl)))
    (pss_cons (ps_asg (pe_op op_add (pv 3) pe_int) (pg_sub (pv 0) pe_int set_list))
    (pss_cons (ps_set (i := 4) sc_draw.nd rfl (Or.inl rfl) (pe_op op_add (pe_op op_mul pe_int (pv 3)) pe_int))
    (C8.pss_cut (ps_if (pt_cmpR (op_neD hr.u) (pe_ix ix_list (pv 0) pe_int (fun _ _ => rfl)) (pe_lst pa_nil) (nomark _)) (pss_one (ps_set (i := 4) sc_draw.nd rfl (Or.inl rfl) (pe_ix ix_list (pe_ix ix_list (pv 0) pe_int (fun _ _ => rfl)) (pe_op op_mod (pe_callTy Tw.c_int (by rfl) T.n_int (by decide +kernel) (pa_cons (pv 3) pa_nil)) (pe_callB Tw.c_len (by rfl) T.n_len (by decide +kernel) (pa_cons (pe_ix ix_list (pv 0) pe_int (fun _ _ => rfl)) pa_nil))) (fun _ _ => rfl)))) pss_nil)
    (pss_cons (ps_if (PW.pt (pw_and (pt_cmpR op_lt (pv 3) (pe_callB Tw.c_len (by rfl) T.n_len (by decide +kernel) (pa_cons (pe_ix ix_list (pv 0) pe_int (fun _ _ => rfl)) pa_nil)) (nomark _)) (pw_and1 (pt_cmpR op_ge (pe_callB Tw.c_abs (by rfl) T.n_abs (by decide +kernel) (pa_cons (pv 4) pa_nil)) (pe_op op_pow pe_int pe_int) (nomark _))))) (pss_cons (ps_set (i := 5) sc_draw.nd rfl (Or.inl rfl) (pe_op op_add (pe_op op_mul pe_int (pe_op op_sub (pe_callB Tw.c_abs (by rfl) T.n_abs (by decide +kernel) (pa_cons (pv 4) pa_nil)) (pe_op op_pow pe_int pe_int))) (pe_callTy Tw.c_int (by rfl) T.n_int (by decide +kernel) (pa_cons (pe_cmpR op_lt (pv 4) pe_int (nomark _)) pa_nil))))
      (pss_cons (ps_asg (pe_op op_fdivW (pe_callTy Tw.c_int (by rfl) T.n_int (by decide +kernel) (pa_cons (pv 5) pa_nil)) (pv 1)) (pg_sub (pv 0) pe_int set_list))
      (pss_one (ps_ret (pe_op op_mod (pe_callTy Tw.c_int (by rfl) T.n_int (by decide +kernel) (pa_cons (pv 5) pa_nil)) (pv 1)))))) pss_nil)
    (pss_cons (ps_set (i := 6) sc_draw.nd rfl (Or.inl rfl) (pe_op op_mod (pe_callTy Tw.c_int (by rfl) T.n_int (by decide +kernel) (pa_cons (pe_op op_pow (pe_op op_add (pe_op op_add (pe_op op_mod (pe_callTy Tw.c_int (by rfl) T.n_int (by decide +kernel) (pa_cons (pv 4) pa_nil)) pe_int) (pe_op op_mul pe_int (pv 3))) pe_int) pe_int) pa_nil)) pe_int))
    (pss_cons (ps_set (i := 6) sc_draw.nd rfl (Or.inl rfl) (pe_op op_mod (pe_callTy Tw.c_int (by rfl) T.n_int (by decide +kernel) (pa_cons (pe_op op_pow (pe_op op_add (pe_op op_add (pe_op op_mul (pv 6) (pe_op op_add (pe_op op_mul pe_int (pv 3)) pe_int)) (pe_op op_mul (pe_op op_mul pe_int (pv 3)) (pv 3))) pe_int) pe_int) pa_nil)) pe_int))
    (pss_one (ps_ret (pe_op op_mod (pe_callTy Tw.c_int (by rfl) T.n_int (by decide +kernel) (pa_cons (pe_op op_fdivW (pv 6) pe_int) pa_nil)) (pv 1)))))))))))), ?_⟩
  try dsimp only [cxK]
  walk_at "r"
  refine w_dec (fun h => ?_) (fun h => ?_)
  · walk_at "r"
    exact k _ _ _ _ (by assumption) (by assumption) (fun b o n h => by rw [upd_ne n]; exact h) upd_same ha0 (by omega)
  · walk_at "r"
    have hp1 : upd H p (.lst [.ref L, .int (a + 1), .int r]) p = some (.lst [.ref L, .int (a + 1), .int r]) := upd_same
    have hL1 : upd H p (.lst [.ref L, .int (a + 1), .int r]) L = some (.lst (ns.map V.int)) := penL hp hL
    have S1 : ∀ b o, b ≠ p → H b = some o → upd H p (.lst [.ref L, .int (a + 1), .int r]) b = some o := fun b o n h => by rw [upd_ne n]; exact h
    show C8.tCut _ _ _ _ (upd H p (.lst [.ref L, .int (a + 1), .int r]))
    generalize upd H p (.lst [.ref L, .int (a + 1), .int r]) = H1 at hp1 hL1 S1 ⊢
    refine u_cut (fun σ' H' => ∃ c, σ' = [some (.ref p), some (.int many), none, some (.int a), some (.int c), none, none] ∧ Same H1 H') ?_ ?_
    · walk_at "r"
      refine r_ne0 (ns := ns) (by walk_at "hp") (by walk_at "hp") ?_
      walk_at "r"
      refine w_ndec (fun hne => ?_) (fun he => ?_)
      · walk_at "r"
        have hpos : 0 < ns.length := List.length_pos_iff.mpr hne
        refine r_mod (by rw [List.length_map]; omega) fun h0 h1 => ?_
        rw [List.length_map] at h0 h1 ⊢
        obtain ⟨c, hc⟩ := atI_ints h0 h1
        refine r_ixL' (by walk_at "hp") hc ?_
        walk_at "r"
        exact ⟨_, rfl, by assumption⟩
      · walk_at "r"
        exact ⟨_, rfl, by assumption⟩
    · rintro σ' H' ⟨c, rfl, S2⟩
      have hp2 := S2 _ _ hp1
      have hL2 := S2 _ _ hL1
      have S12 : ∀ b o, b ≠ p → H b = some o → H' b = some o := fun b o n h => S2 _ _ (S1 b o n h)
      walk_at "r"
      refine w_dec (fun h3 => ?_) (fun h3 => ?_)
      · walk_at "r"
        refine w_dec (fun h4 => ?_) (fun h4 => ?_)
        · walk_at "r"
          exact k _ _ _ _ (by assumption) (by assumption) (fun b o n h => by rw [upd_ne n]; exact S12 b o n h) upd_same (by omega) (by omega)
        · walk_at "r"
          refine r_pow (z := _) (by decide) (by decide) (drawB (by assumption) (by omega) (by omega) (by omega) ha0 (by omega) (by decide) (by decide) (by decide) (by decide)) rfl ?_
          walk_at "r"
          exact k _ _ _ _ (by assumption) (by assumption) S12 hp2 (by omega) (by omega)
      · walk_at "r"
        refine r_pow (z := _) (by decide) (by decide) (drawB (by assumption) (by omega) (by omega) (by omega) ha0 (by omega) (by decide) (by decide) (by decide) (by decide)) rfl ?_
        walk_at "r"
        exact k _ _ _ _ (by assumption) (by assumption) S12 hp2 (by omega) (by omega)
theorem ok_draw (T : Txt K w mg cl base) : CalM P w K mg base cl 3 "_law_draw" drawF [] := drawM (ok_draw0 T) T.pend
theorem ok_pen (T : Txt K w mg cl base) : Cal P w K mg base 3 "_law_pen" (spPenX K) [] := by
  refine cal0 (k := 2) (N := N_pen) T.d_pen sc_pen (by rintro vs H Q E ⟨_, _, rfl, _⟩; rfl) ?_
  rintro f cdv A out s H vs Q E hr ⟨a, ns, rfl, hS, hl, k⟩
  refine ⟨_, (pss_one (ps_ret (pe_lst (pa_cons (pe_callTy Tw.c_list (by rfl) T.n_list (by decide +kernel) (pa_cons (pe_slice sl_list (pv 0) po_none (po_some pe_int)) pa_nil)) (pa_cons pe_int (pa_cons pe_int pa_nil)))))), ?_⟩
  try dsimp only [cxK]
  walk_at "r"
  refine r_slL hS fun p H1 S1 hp _ => ?_
  walk_at "r"
  have e : cutV (ns.map V.int) none (some 63) = ns.map V.int := by
    exact (cutV_to (k := 63)).trans (List.take_of_length_le (by rw [List.length_map]; exact hl))
  rw [e] at hp
  refine r_listL (SqL.of hp) fun l H2 S2 hl2 hl0 => ?_
  walk_at "r"
  rename_i q H3 S3 hq hq0
  have n2 : H2 l ≠ none := by rw [hl2]; exact Option.some_ne_none _
  refine k q l H3 (S1.trans (S2.trans S3)) ?_ ?_ ?_ hq (S3 _ _ hl2)
  · cases e0 : H q with
    | none => rfl
    | some o => exact absurd (S2 _ _ (S1 _ _ e0)) (by rw [hq0]; exact nofun)
  · cases e0 : H l with
    | none => rfl
    | some o => exact absurd (S1 _ _ e0) (by rw [hl0]; exact nofun)
  · rintro rfl
    exact n2 hq0
end
end M04
namespace M04
open PySem PySem.Spec PyProof.Rows L2 Tw Mr
local macro_rules | `(tactic| walk_at "mm") => `(tactic| simp -implicitDefEqProofs only [↓Mr.hold_cM, ↓Mr.hold_ite, ↓Mr.hold_lcX, ↓Mr.fLcX.eq_1, Mr.S.enumA?, Mr.S.enum?, Mr.hIte_true, ↓Mr.startT.eq_1, ↓Mr.endsM.eq_1, ↓Mr.fSeq.eq_1, ↓Mr.fRet.eq_1, ↓Mr.fDrop.eq_1, ↓Mr.fSet.eq_1, ↓Mr.fFldS.eq_1, ↓Mr.xk, ↓Mr.fVar.eq_1, ↓Mr.fUn.eq_1, ↓Mr.onO.eq_1, ↓Mr.fNil.eq_1, ↓Mr.fCons.eq_1, ↓Mr.fCB.eq_1, ↓Mr.fCall.eq_1, Mr.lenO, ↓Mr.iEnumB.eq_1, Mr.S.cellL?, Mr.fldO, Mr.S.put_same, Mr.S.put_put, Mr.wipeT, ↓Mr.doneM.eq_1, Mr.S.lst?, Mr.S.seq?, Mr.S.obj?, PyData.eqv, PyData.eqvAll, List.map_cons, List.map_nil, List.length_cons, List.length_nil, List.cons_append, List.nil_append, List.append_nil, List.replicate_succ, List.replicate_zero, List.getElem?_cons_zero, List.getElem?_cons_succ, List.set_cons_zero, List.set_cons_succ, Int.reduceToNat, Int.reducePow, Int.reduceAbs, Int.reduceLE, Int.reduceLT, Int.reduceSub, Int.reduceAdd, Int.reduceNeg, Int.reduceMul, Int.reduceEq, Nat.reducePow, Nat.sub_self, Nat.reduceSub, Nat.reduceAdd, Nat.reduceLeDiff, Nat.reduceLT, Nat.reduceEqDiff, Nat.zero_add, Nat.add_one_sub_one, true_and, and_true, ↓reduceIte, M04.lkA_held, List.mem_cons, List.not_mem_nil, or_false, or_true, true_or, false_or, reduceCtorEq])
def asc (ps : List Pr) : Prop := ps.Pairwise fun a b => a.1 ≤ b.1
def rowT (ps : List Pr) : Mr.T := .obj 8 [("held", .lst (ps.map itm))]
/-- the things xs are the items ps -/
def Vals (xs : List Mr.T) (ps : List Pr) : Prop := xs.map toP = ps.map some ∧ ∀ x ∈ xs, okV x
def toI (t : Mr.T) : Option Mr.T := (toP t).map itm
theorem vals_bad : ∀ {xs : List Mr.T} {ps : List Pr} (n : Nat), xs.map toP = ps.map some → badAt toI n xs = none ∧ xs.filterMap toI = ps.map itm
  | [], [], _, _ => ⟨rfl, rfl⟩
  | [], _ :: _, _, h => by cases h
  | _ :: _, [], _, h => by cases h
  | x :: xs, p :: ps, n, h => by
    rw [List.map_cons, List.map_cons, List.cons.injEq] at h
    obtain ⟨h1, h2⟩ := vals_bad (n + 1) h.2
    have e : toI x = some (itm p) := by unfold toI; rw [h.1]; rfl
    refine ⟨?_, ?_⟩
    · unfold badAt
      rw [e]
      exact h1
    · rw [List.filterMap_cons, e, List.map_cons]
      simp only [h2]
theorem Vals.len {xs : List Mr.T} {ps : List Pr} (h : Vals xs ps) : xs.length = ps.length := by
  have := congrArg List.length h.1
  rwa [List.length_map, List.length_map] at this
theorem fl_of {ps : List Pr} (h : ps.Pairwise fun a b => a.1 ≤ b.1) : FL ps = [] := by
  refine List.filter_eq_nil_iff.mpr fun t ht => ?_
  obtain ⟨c, hc, rfl⟩ := List.mem_map.mp ht
  rw [List.mem_range] at hc
  show ¬ decide (rk ps _ < rk ps _) = true
  rw [decide_eq_true_eq]
  have h1 : (1 + (c : Int)).toNat = c + 1 := by omega
  rw [h1, Nat.add_sub_cancel]
  unfold rk
  rw [List.getD_eq_getElem?_getD, List.getD_eq_getElem?_getD, List.getElem?_eq_getElem (show c + 1 < ps.length by omega), List.getElem?_eq_getElem (show c < ps.length by omega)]
  have := List.pairwise_iff_getElem.mp h c (c + 1) (by omega) (by omega) (by omega)
  exact Int.not_lt.mpr this
def srcT (s : S) (v : Mr.T) (xs : List Mr.T) : Prop := v = .lst xs ∨ v = .tup xs ∨ (∃ ps : List Pr, v = rowT ps ∧ xs = ps.map itm) ∨ ∃ x, v = .cell x ∧ s.on x = some (.lst xs)
theorem src_put {s : S} {v : Mr.T} {xs : List Mr.T} {y : Addr} {c : Cell} (hy : s.on y = none) (h : srcT s v xs) : srcT (s.put y c) v xs := by
  rcases h with h | h | h | ⟨x, h, hx⟩
  · exact .inl h
  · exact .inr (.inl h)
  · exact .inr (.inr (.inl h))
  · refine .inr (.inr (.inr ⟨x, h, ?_⟩))
    rw [S.put_ne (fun e => by rw [e, hy] at hx; cases hx)]
    exact hx
def F_items_of : FD := fun ts s Q _ => ∃ (v : Mr.T) (xs : List Mr.T) (ps : List Pr), ts = [v] ∧ srcT s v xs ∧ Vals xs ps ∧ ps.length ≤ 200 ∧ asc ps ∧ Q (.lst (ps.map itm)) s
def F_Rowinit : FD := fun ts s Q _ => ∃ y v xs ps, ts = [.cell y, v] ∧ srcT s v xs ∧ Vals xs ps ∧ s.on y = some (.obj 8 []) ∧ ps.length ≤ 200 ∧ asc ps ∧ Q .non (s.put y (.obj 8 [("held", .lst (ps.map itm))]))
def F_Rowlen : FD := fun ts s Q _ => ∃ ps, ts = [rowT ps] ∧ Q (.int (ps.length : Int)) s
theorem mk_rowV {y : Addr} {s : S} {Q : KT} {E : KX} {v : Mr.T} {xs : List Mr.T} {ps : List Pr} (hv : srcT s v xs) (hx : Vals xs ps) (hy : s.on y = none) (hl : ps.length ≤ 200) (ha : asc ps) (k : Q (rowT ps) s) : @hM F_Rowinit [.cell y, v] (s.put y (.obj 8 [])) ⟨doneM true y Q⟩ ⟨E⟩ := by
  refine hM.of ⟨y, v, xs, ps, rfl, src_put hy hv, hx, S.put_same _ _ _, hl, ha, ?_⟩
  walk_at "mm"
  rw [S.del_put hy]
  exact k
section
variable {w : World} {K : PySem.W.Frag} {mg : Str → Option Value} {base : Heap} {cl : CL}
theorem fn_items_of (T : Txt K w mg cl base) : ∀ {x : Str} {f : Addr} {fd : FuncData}, C8.Fun K x "items_of" s_items_of f fd → FnG P w K mg base 15 f fd ["values"] (spM K cl F_items_of) := by
  refine fnM (k := 14) (N := N_items_of) sc_items_of ?len (fun f cdv A out s H E hr => (jss_cons (js_setLcX (i := 1) (own := [("at", 2), ("value", 3)]) rfl rfl Tw.tk_cx (by rfl) sc_items_of.nd rfl rfl (sw_true rfl rfl rfl (by decide +kernel)) (ji_enumB (iter_Row T) hr (by decide) (by rfl) T.n_enumerate (ja_cons (je_var 0) ja_nil)) (blkOk_by (own := [("at", 2), ("value", 3)]) (N := N_items_of) (sc := C8.fnScope s_items_of) (by decide +kernel)) (fun _ _ _ _ _ => (pg_tup (n := 2) (by rfl) (pgs_cons (pg_name (i := 2) sc_items_of.nd rfl (Or.inl rfl)) (pgs_cons (pg_name (i := 3) sc_items_of.nd rfl (Or.inl rfl)) pgs_nil)))) (gt_tup (gts_cons (gt_name (i := 2) (by decide)) (gts_cons (gt_name (i := 3) (by decide)) gts_nil))) (fun _ _ _ _ _ _ _ tkb => (je_call tkb (ok_item_of T) hr (by decide) (by rfl) (ja_cons (je_var 3) (ja_cons (je_var 2) ja_nil)))))
    (jss_cons (js_expr (je_call Tw.tk_cx (ok_need_ascending T) hr (by decide) (by rfl) (ja_cons (je_var 1) ja_nil)))
    (jss_cons (js_expr (je_call Tw.tk_cx (ok_need_few T) hr (by decide) (by rfl) (ja_cons (je_var 1) ja_nil)))
    (jss_one (js_ret (je_var 1))))))) ?sem
  case len => rintro ts s Q E ⟨_, _, _, rfl, _⟩; rfl
  case sem =>
    rintro ts s Q E ⟨v, xs, ps, rfl, hv, hx, hl, ha, k⟩
    have hxl := hx.len
    rcases hv with rfl | rfl | ⟨qs, rfl, rfl⟩ | ⟨x, rfl, hc⟩
    case' inr.inr.inl => unfold rowT
    case' inr.inr.inr =>
      walk_at "mm"
      rw [hc]
    all_goals walk_at "mm"
    all_goals refine lcX_enum toI (fun k => ⟨3, [("part", .int (k : Int))]⟩) (by first | exact trivial | exact hc) ?_ (by first | simp; omega | (rw [List.length_map] at hxl; simp; omega)) ?_
    all_goals try (
      intro k0 t ht Q' k'
      walk_at "mm"
      refine hM.of ⟨_, _, rfl, hx.2 t ht, ?_⟩
      unfold toI at k'
      rcases e : toP t with _ | p
      · rw [e] at k'
        exact k'
      · rw [e] at k'
        exact k')
    all_goals (
      obtain ⟨b1, b2⟩ := vals_bad 0 hx.1
      rw [b1]
      simp only [List.nil_append, b2]
      walk_at "mm"
      refine hM.of ⟨ps, rfl, by omega, ?_⟩
      rw [fl_of ha]
      simp only
      walk_at "mm"
      refine hM.of ⟨_, rfl, ?_⟩
      rw [List.length_map, if_pos hl]
      walk_at "mm"
      exact k)
theorem ok_items_of (T : Txt K w mg cl base) : CalM P w K mg base cl 15 "items_of" F_items_of [] := calOf T.d_items_of (fun _ _ _ => .nil) (fn_items_of T)
theorem fn_Rowinit (T : Txt K w mg cl base) : ∀ {x : Str} {f : Addr} {fd : FuncData}, C8.Fun K x "Row.__init__" s_Rowinit f fd → FnG P w K mg base 18 f fd ["self", "items"] (spM K cl F_Rowinit) := by
  refine fnM (k := 17) (N := N_Rowinit) sc_Rowinit ?len (fun f cdv A out s H E hr => (jss_one (js_fld T.fld_held (je_var 0) (je_call Tw.tk_cx (ok_items_of T) hr (by decide) (by rfl) (ja_cons (je_var 1) ja_nil))))) ?sem
  case len => rintro ts s Q E ⟨_, _, _, _, rfl, _⟩; rfl
  case sem =>
    rintro ts s Q E ⟨y, v, xs, ps, rfl, hv, hx, hy, hl, ha, k⟩
    walk_at "mm"
    refine hM.of ⟨_, _, _, rfl, hv, hx, hl, ha, ?_⟩
    walk_at "mm"
    rw [hy]
    walk_at "mm"
    exact k
theorem mk_Rowinit (T : Txt K w mg cl base) : MakM P w K mg base cl 18 "Row" 8 F_Rowinit [] := makOf T.d_Rowinit (fun _ _ _ => .nil) (fn_Rowinit T)
theorem mk0_Rowinit (T : Txt K w mg cl base) : MakM P w K mg base cl 18 "Row" 8 F_Rowinit [.tup []] := makOfT T.d0_Rowinit (fn_Rowinit T)
end
end M04
namespace M04
open PySem PySem.Spec PyProof.Rows L2 Tw Mr
theorem drop_1 {l A : List Pr} {i : Nat} {x : Pr} (h : l.drop i = x :: A) : l[i]? = some x ∧ l.drop (i + 1) = A := by
  refine ⟨?_, ?_⟩
  · have := List.getElem?_drop (xs := l) (i := i) (j := 0)
    rw [h] at this
    simpa using this.symm
  · rw [← List.drop_drop, h]; rfl
/-- two ascending lists merged: what is put of a less head on the left, on the right, of equal ones (0: as a less one; 1: the left one; 2: none), what of the rests -/
structure Op where
  el : Bool
  er : Bool
  eq : Nat
  tl : Bool
  tr : Bool
def one (b : Bool) (x : Pr) : List Pr := if b then [x] else []
def mg (o : Op) : List Pr → List Pr → List Pr
  | [], B => if o.tr then B else []
  | x :: A, [] => if o.tl then x :: A else []
  | x :: A, y :: B => if x.1 < y.1 then one o.el x ++ mg o A (y :: B) else if y.1 < x.1 then one o.er y ++ mg o (x :: A) B else match o.eq with
    | 0 => x :: mg o A (y :: B)
    | 1 => x :: mg o A B
    | _ => mg o A B
termination_by A B => A.length + B.length
def eqs (k : Int) (A : List Pr) : List Pr := A.filter fun p => decide (p.1 = k)
def nes (k : Int) (A : List Pr) : List Pr := A.filter fun p => !decide (p.1 = k)
theorem eqs_cons (k : Int) (x : Pr) (A : List Pr) : eqs k (x :: A) = if x.1 = k then x :: eqs k A else eqs k A := by
  unfold eqs
  rw [List.filter_cons]
  by_cases h : x.1 = k
  · rw [if_pos h, decide_eq_true h, if_pos rfl]
  · rw [if_neg h, decide_eq_false h, if_neg Bool.false_ne_true]
theorem nes_cons (k : Int) (x : Pr) (A : List Pr) : nes k (x :: A) = if x.1 = k then nes k A else x :: nes k A := by
  unfold nes
  rw [List.filter_cons]
  by_cases h : x.1 = k
  · rw [if_pos h, decide_eq_true h]; rfl
  · rw [if_neg h, decide_eq_false h]; rfl
/-- an ascending list whose ranks are k at least begins with those of rank k -/
theorem blk : ∀ {A : List Pr} {k : Int}, asc A → (∀ p ∈ A, k ≤ p.1) → A = eqs k A ++ nes k A
  | [], k, _, _ => rfl
  | x :: A, k, ha, hk => by
    have ha' := List.pairwise_cons.mp ha
    rw [eqs_cons, nes_cons]
    by_cases h : x.1 = k
    · rw [if_pos h, if_pos h, List.cons_append, ← blk ha'.2 fun p hp => hk p (List.mem_cons_of_mem _ hp)]
    · rw [if_neg h, if_neg h]
      have hx := hk x List.mem_cons_self
      have e : eqs k A = [] := List.filter_eq_nil_iff.mpr fun p hp => by have := ha'.1 p hp; rw [decide_eq_true_eq]; omega
      have e2 : nes k A = A := List.filter_eq_self.mpr fun p hp => by have := ha'.1 p hp; rw [decide_eq_false (show ¬ p.1 = k by omega)]; rfl
      rw [e, e2]
      rfl
theorem blk_drop {A : List Pr} {k : Int} (ha : asc A) (hk : ∀ p ∈ A, k ≤ p.1) : A.drop (eqs k A).length = nes k A := by
  conv => lhs; arg 2; rw [blk ha hk]
  exact List.drop_left
theorem blk_len {A : List Pr} {k : Int} (ha : asc A) (hk : ∀ p ∈ A, k ≤ p.1) : A.length = (eqs k A).length + (nes k A).length := by
  conv => lhs; rw [blk ha hk]
  exact List.length_append
theorem asc_nes {A : List Pr} {k : Int} (h : asc A) : asc (nes k A) := List.Pairwise.sublist (List.filter_sublist) h
theorem nes_mem {A : List Pr} {k : Int} {p : Pr} (h : p ∈ nes k A) : p ∈ A ∧ p.1 ≠ k := by
  have := List.mem_filter.mp h
  refine ⟨this.1, fun e => ?_⟩
  rw [decide_eq_true e] at this
  cases this.2
theorem eqs_mem {A : List Pr} {k : Int} {p : Pr} (h : p ∈ eqs k A) : p ∈ A ∧ p.1 = k := by
  have := List.mem_filter.mp h
  exact ⟨this.1, of_decide_eq_true this.2⟩
end M04
namespace M04
open PySem PySem.Spec PyProof.Rows L2 Tw Mr
local macro_rules | `(tactic| walk_at "mm") => `(tactic| simp -implicitDefEqProofs only [↓Mr.hold_cM, Option.isSome_some, ↓Mr.hold_ite, ↓Mr.hold_lc, Mr.sumO, ↓Mr.fCount.eq_1, Mr.onCnt, Mr.intsOf, ↓Mr.mCase.eq_1, ↓Mr.fMatch.eq_1, ↓Mr.startT.eq_1, ↓Mr.endsM.eq_1, ↓Mr.fSeq.eq_1, ↓Mr.fSkip.eq_1, ↓Mr.fRet.eq_1, ↓Mr.xk, ↓Mr.fVar.eq_1, ↓Mr.f2.eq_1, ↓Mr.g2.eq_1, ↓Mr.kB.eq_1, ↓Mr.fTest.eq_1, ↓Mr.fUn.eq_1, ↓Mr.onO.eq_1, ↓Mr.fNil.eq_1, ↓Mr.fCons.eq_1, ↓Mr.fCB.eq_1, ↓Mr.fMt.eq_1, ↓Mr.fSl.eq_1, ↓Mr.oNone.eq_1, ↓Mr.oSome.eq_1, Mr.addO, Mr.eqO, Mr.lenO, Mr.fldO, Mr.slO, ↓Mr.fLc.eq_1, ↓Mr.iSeq.eq_1, Mr.S.its?, Mr.okAt, Mr.wipeT, Option.map_some, Mr.S.lst?, Mr.S.seq?, Mr.S.obj?, Mr.S.dat, Mr.T.dat, Mr.dats, PyData.eqv, PyData.eqvAll, List.map_cons, List.map_nil, List.length_cons, List.length_nil, List.cons_append, List.nil_append, List.append_nil, List.replicate_succ, List.replicate_zero, List.getElem?_cons_zero, List.getElem?_cons_succ, List.set_cons_zero, List.set_cons_succ, Int.reduceToNat, Int.reducePow, Int.reduceAbs, Int.reduceLE, Int.reduceLT, Int.reduceSub, Int.reduceAdd, Int.reduceNeg, Int.reduceMul, Int.reduceEq, Nat.reducePow, Nat.sub_self, Nat.reduceSub, Nat.reduceAdd, Nat.reduceLeDiff, Nat.reduceLT, Nat.reduceEqDiff, Nat.zero_add, Nat.add_one_sub_one, true_and, and_true, Bool.false_eq_true, ↓reduceIte, M04.lkA_rank_name, M04.lkA_held, List.mem_cons, List.not_mem_nil, or_false, or_true, true_or, false_or, reduceCtorEq])
def wdR : Nat → Str
  | 0 => "sum" | 1 => "union" | 2 => "both" | 3 => "first" | _ => "one"
def cho (w : Nat) (ms ns : List Pr) : List Pr := match w with
  | 0 => ms ++ ns | 1 => ms ++ ns.drop ms.length | 2 => ms.take ns.length | 3 => ms.drop ns.length | _ => ms.drop ns.length ++ ns.drop ms.length
def F_behind_block : FD := fun ts s Q _ => ∃ (ps : List Pr) (a : Nat) (r : Int), ts = [.lst (ps.map itm), .int a, .int r] ∧ ps.length ≤ 1000 ∧ Q (.int ((a + (eqs r (ps.drop a)).length : Nat) : Int)) s
def F_chosen : FD := fun ts s Q _ => ∃ (w : Nat) (ms ns : List Pr), ts = [.str (wdR w), .lst (ms.map itm), .lst (ns.map itm)] ∧ ms.length ≤ 1000 ∧ ns.length ≤ 1000 ∧ Q (.lst ((cho w ms ns).map itm)) s
/-- rows -/
structure okRow (ps : List Pr) : Prop where
  l : ps.length ≤ 200
  a : asc ps
def F_Rowranks : FD := fun ts s Q _ => ∃ ps : List Pr, ts = [rowT ps] ∧ ps.length ≤ 200 ∧ Q (.lst (ps.map fun p => .int p.1)) s
def F_Rownumber : FD := fun ts s Q _ => ∃ (ps : List Pr) (i : Int), ts = [rowT ps, .int i] ∧ ps.length ≤ 200 ∧ Q (.int ((eqs i ps).length : Nat)) s
theorem at_l {ps A : List Pr} {p : Pr} {l : Nat} (h : ps.drop l = p :: A) : atI (ps.map itm) (l : Nat) = some (itm p) := by
  have h1 := (drop_1 h).1
  have hl : l < ps.length := (List.getElem?_eq_some_iff.mp h1).1
  rw [atI_ps (f := itm) (by omega) (by omega), Int.toNat_natCast, List.getD_eq_getElem?_getD, h1]
  rfl
theorem drop_l {ps : List Pr} {k : Int} {l : Nat} (h : asc ps) (hk : ∀ p ∈ ps.drop l, k ≤ p.1) : ps.drop (l + (eqs k (ps.drop l)).length) = nes k (ps.drop l) := by
  rw [← List.drop_drop]
  exact blk_drop (List.Pairwise.sublist (List.drop_sublist _ _) h) hk
theorem asc_least {A : List Pr} {x : Pr} (h : asc (x :: A)) : ∀ p ∈ x :: A, x.1 ≤ p.1 := fun p hp => by
  rcases List.mem_cons.mp hp with rfl | hp
  · exact Int.le_refl _
  · exact (List.pairwise_cons.mp h).1 p hp
theorem ints_ranks : ∀ ps : List Pr, intsOf (ps.map fun p => Mr.T.int p.1) = some (ps.map (·.1))
  | [] => rfl
  | x :: ps => by rw [List.map_cons, intsOf, ints_ranks ps]; rfl
theorem cnt_ranks (i : Int) : ∀ ps : List Pr, (ps.map (·.1)).count i = (eqs i ps).length
  | [] => rfl
  | x :: ps => by
    rw [List.map_cons, List.count_cons, cnt_ranks i ps, eqs_cons]
    by_cases h : x.1 = i
    · rw [if_pos h, h]; simp
    · rw [if_neg h]; simp [h]
section
variable {w : World} {K : PySem.W.Frag} {mg : Str → Option Value} {base : Heap} {cl : CL}
theorem fn_behind_block (T : Txt K w mg cl base) : ∀ {x : Str} {f : Addr} {fd : FuncData}, C8.Fun K x "behind_block" s_behind_block f fd → FnG P w K mg base 3 f fd ["items", "at", "rank"] (spM K cl F_behind_block) := by
  refine fnM (k := 2) (N := N_behind_block) sc_behind_block ?len (fun f cdv A out s H E hr => (jss_one (js_ret (je_op o_add (je_var 1) (je_b c_len (by rfl) T.n_len (by decide +kernel) (ja_cons (je_lcIf (own := [("item", 3)]) (by rfl) sc_behind_block.nd (ji_seq (je_slice (je_var 0) (jo_some (je_var 1)) jo_none)) (blkOk_by (own := [("item", 3)]) (N := N_behind_block) (sc := C8.fnScope s_behind_block) (by decide +kernel)) (fun _ _ _ _ _ => (pg_name (i := 3) sc_behind_block.nd rfl (Or.inl rfl))) (gt_name (i := 3) (by decide)) (fun _ _ _ _ _ => (jt_cmp (o_eq hr) (je_fld T.fld_rank (je_var 3)) (je_var 2) (nomark _))) (fun _ _ _ _ _ => (je_var 3))) ja_nil)))))) ?sem
  case len => rintro ts s Q E ⟨_, _, _, rfl, _⟩; rfl
  case sem =>
    rintro ts s Q E ⟨ps, a, r, rfl, hl, k⟩
    walk_at "mm"
    rw [cut_from (by omega), Int.toNat_natCast, ← List.map_drop]
    refine lc_filter (fun t => match t with | .obj _ ((_, .int i) :: _) => decide (i = r) | _ => false) (fun t => t) ?_ ?_ (by simp; omega) ?_ trivial
    · intro t ht Q' k'
      obtain ⟨p, _, rfl⟩ := List.mem_map.mp ht
      unfold itm
      walk_at "mm"
      exact k'
    · intro t ht _ Q' k'
      walk_at "mm"
      exact k'
    rw [List.nil_append, List.map_id', List.filter_map]
    walk_at "mm"
    rw [List.length_map, ← Int.natCast_add]
    exact k
theorem ok_behind_block (T : Txt K w mg cl base) : CalM P w K mg base cl 3 "behind_block" F_behind_block [] := calOf T.d_behind_block (fun _ _ _ => .nil) (fn_behind_block T)
theorem fn_Rowranks (T : Txt K w mg cl base) : ∀ {x : Str} {f : Addr} {fd : FuncData}, C8.Fun K x "Row.ranks" s_Rowranks f fd → FnG P w K mg base 3 f fd ["self"] (spM K cl F_Rowranks) := by
  refine fnM (k := 2) (N := N_Rowranks) sc_Rowranks ?len (fun f cdv A out s H E hr => (jss_one (js_ret (je_lc (own := [("item", 1)]) (by rfl) sc_Rowranks.nd (ji_seq (je_fld T.fld_held (je_var 0))) (blkOk_by (own := [("item", 1)]) (N := N_Rowranks) (sc := C8.fnScope s_Rowranks) (by decide +kernel)) (fun _ _ _ _ _ => (pg_name (i := 1) sc_Rowranks.nd rfl (Or.inl rfl))) (gt_name (i := 1) (by decide))  (fun _ _ _ _ _ => (je_fld T.fld_rank (je_var 1))))))) ?sem
  case len => rintro ts s Q E ⟨_, rfl, _⟩; rfl
  case sem =>
    rintro ts s Q E ⟨ps, rfl, hl, k⟩
    unfold rowT
    walk_at "mm"
    refine lc_map (fun t => match t with | .obj _ ((_, x) :: _) => x | t => t) ?_ ?_ ?_ trivial
    · intro t ht Q' k'
      obtain ⟨p, _, rfl⟩ := List.mem_map.mp ht
      unfold itm at k' ⊢
      walk_at "mm"
      exact k'
    · simp
      omega
    · walk_at "mm"
      rw [List.map_map]
      exact k
theorem mt_Rowranks (T : Txt K w mg cl base) : MetM P w K mg base cl 3 8 "ranks" F_Rowranks [] := metOf T.d_Rowranks (fun _ _ _ => .nil) (fn_Rowranks T)
theorem fn_Rownumber (T : Txt K w mg cl base) : ∀ {x : Str} {f : Addr} {fd : FuncData}, C8.Fun K x "Row.number" s_Rownumber f fd → FnG P w K mg base 6 f fd ["self", "rank"] (spM K cl F_Rownumber) := by
  refine fnM (k := 5) (N := N_Rownumber) sc_Rownumber ?len (fun f cdv A out s H E hr => (jss_one (js_ret (je_count PySem.F.slot_list_count PySem.F.type_list_count (je_mt0 Tw.tk_cx (one_met (mt_Rowranks T)) hr (by decide) (je_var 0)) (ja_cons (je_var 1) ja_nil))))) ?sem
  case len => rintro ts s Q E ⟨_, _, rfl, _⟩; rfl
  case sem =>
    rintro ts s Q E ⟨ps, i, rfl, hl, k⟩
    unfold rowT
    walk_at "mm"
    refine hM.of ⟨ps, rfl, hl, ?_⟩
    unfold onCnt
    walk_at "mm"
    rw [ints_ranks]
    show Q (.int (((ps.map (·.1)).count i : Nat) : Int)) s
    rw [cnt_ranks]
    exact k
theorem mt_Rownumber (T : Txt K w mg cl base) : MetM P w K mg base cl 6 8 "number" F_Rownumber [] := metOf T.d_Rownumber (fun _ _ _ => .nil) (fn_Rownumber T)
theorem mtK_Rownumber_0_rank (T : Txt K w mg cl base) : MetK P w K mg base cl 6 8 "number" F_Rownumber 1 ["rank"] (fun xs ys => [xs.getD 0 .non, ys.getD 0 .non]) := metKOf T.dk_Rownumber_0_rank (fun r1 r2 => (.cons (r1.getD 0) (.cons (r2.getD 0) .nil))) (fn_Rownumber T)
end
end M04
namespace M04
open PySem PySem.Spec PyProof.Rows L2 Tw Mr
local macro_rules | `(tactic| walk_at "mm") => `(tactic| simp -implicitDefEqProofs only [↓Mr.hold_cM, ↓Mr.hold_ite, Mr.hIte_true, Mr.hIte_false, ↓Mr.startT.eq_1, ↓Mr.endsM.eq_1, ↓Mr.fRet.eq_1, ↓Mr.fSet.eq_1, ↓Mr.gN.eq_1, ↓Mr.gT.eq_1, ↓Mr.gsNil.eq_1, ↓Mr.gsCons.eq_1, ↓Mr.xk, ↓Mr.fVar.eq_1, ↓Mr.fC.eq_1, ↓Mr.f2.eq_1, ↓Mr.g2.eq_1, ↓Mr.kB.eq_1, ↓Mr.fTest.eq_1, ↓Mr.fAndV.eq_1, ↓Mr.fUn.eq_1, ↓Mr.onO.eq_1, Mr.onB_bl, ↓Mr.fNil.eq_1, ↓Mr.fCons.eq_1, ↓Mr.fTup.eq_1, ↓Mr.fCB.eq_1, ↓Mr.fCall.eq_1, ↓Mr.fMt.eq_1, Mr.intO, Mr.ltO, Mr.leO, Mr.eqO, Mr.ixO, Mr.lenO, ↓Mr.fLcQ.eq_1, ↓Mr.aMet0.eq_1, ↓Mr.hold_QL, ↓Mr.fC0.eq_1, ↓Mr.fCThen.eq_1, ↓Mr.fCPl.eq_1, ↓Mr.row_CYield, ↓Mr.hold_cwh, Mr.isiO, Mr.fldO, ↓Mr.fYes.eq_1, Mr.wipeT, Mr.allO, Mr.S.lst?, Mr.S.seq?, Mr.S.ty?, Mr.S.obj?, Mr.S.dat, Mr.T.dat, Mr.dats, PyData.eqv, PyData.eqvAll, Bool.true_and, Bool.and_self, decide_false, Mr.okC, List.map_cons, List.map_nil, List.length_cons, List.length_nil, List.cons_append, List.nil_append, List.append_nil, List.replicate_succ, List.replicate_zero, List.getElem?_cons_zero, List.getElem?_cons_succ, List.set_cons_zero, List.set_cons_succ, Int.reduceToNat, Int.reducePow, Int.reduceAbs, Int.reduceLE, Int.reduceLT, Int.reduceSub, Int.reduceAdd, Int.reduceNeg, Int.reduceMul, Int.reduceEq, Nat.reducePow, Nat.sub_self, Nat.reduceSub, Nat.reduceAdd, Nat.reduceLeDiff, Nat.reduceLT, Nat.reduceEqDiff, Nat.zero_add, Nat.add_one_sub_one, true_and, and_true, ↓reduceIte, M04.kkA_Row, M04.lkA_rank_name, M04.lkA_held, M04.insL, M04.excL, List.mem_cons, List.not_mem_nil, or_false, or_true, true_or, false_or, reduceCtorEq])
def rks (ps : List Pr) : List Int := ps.map (·.1)
def cntR (i : Int) (ps : List Pr) : Nat := (eqs i ps).length
def F_Roweq : FD := fun ts s Q _ => ∃ (ps : List Pr) (v : Mr.T), ts = [rowT ps, v] ∧ okRow ps ∧ ((∃ qs : List Pr, v = rowT qs ∧ okRow qs ∧ Q (.bl (decide (rks ps = rks qs))) s) ∨ ((plainT v = true ∨ ∃ p, v = itm p) ∧ Q (.bl false) s))
def blks : List Pr → List (Int × Nat)
  | [] => []
  | p :: A => (p.1, (eqs p.1 (p :: A)).length) :: blks (nes p.1 (p :: A))
termination_by A => A.length
decreasing_by
  rw [nes_cons, if_pos rfl, List.length_cons]
  exact Nat.lt_succ_of_le (List.length_filter_le _ _)
def blT (b : Int × Nat) : Mr.T := .tup [.int b.1, .int (b.2 : Int)]
def C_Rowblocks : FCn := gAll fun ts _ outs => ∃ ps : List Pr, ts = [rowT ps] ∧ okRow ps ∧ outs = (blks ps).map blT
def fstB : Mr.T → Mr.T
  | .tup [a, _] => a
  | _ => .non
def sndB : Mr.T → Mr.T
  | .tup [_, a] => a
  | _ => .non
def F_Rowwithin : FD := fun ts s Q _ => ∃ ps qs : List Pr, ts = [rowT ps, rowT qs] ∧ okRow ps ∧ okRow qs ∧ Q (.bl ((blks ps).all fun b => decide (b.2 ≤ cntR b.1 qs))) s
theorem ints_dats : ∀ l : List Int, dats (l.map Mr.T.int) = some (l.map PyData.int)
  | [] => rfl
  | x :: l => by rw [List.map_cons, dats, ints_dats l]; rfl
theorem ints_eqv : ∀ l m : List Int, PyData.eqvAll (l.map PyData.int) (m.map PyData.int) = decide (l = m)
  | [], [] => rfl
  | [], _ :: _ => by simp [PyData.eqvAll]
  | _ :: _, [] => by simp [PyData.eqvAll]
  | x :: l, y :: m => by
    rw [List.map_cons, List.map_cons, PyData.eqvAll, ints_eqv l m, PyData.eqv]
    by_cases h : x = y
    · subst h; simp
    · simp [h]
theorem blks_len : ∀ (n : Nat) (ps : List Pr), ps.length ≤ n → (blks ps).length ≤ ps.length
  | 0, [], _ => by rw [blks]; exact Nat.le_refl _
  | n + 1, [], _ => by rw [blks]; exact Nat.zero_le _
  | n + 1, p :: A, h => by
    rw [blks, List.length_cons, List.length_cons]
    have h1 : (nes p.1 (p :: A)).length ≤ A.length := by
      rw [nes_cons, if_pos rfl]
      exact List.length_filter_le _ _
    have := blks_len n (nes p.1 (p :: A)) (by rw [List.length_cons] at h; omega)
    omega
theorem dAll : ∀ l : List Int, PyData.depthAll (l.map PyData.int) ≤ 1
  | [] => by simp [PyData.depthAll]
  | x :: l => by
    have := dAll l
    rw [List.map_cons, PyData.depthAll]
    simp [PyData.depth]
    try omega
theorem cAll : ∀ l : List Int, PyData.canLayAll0 (l.map PyData.int) = true
  | [] => by simp [PyData.canLayAll0]
  | x :: l => by
    have := cAll l
    simp [PyData.canLayAll0, PyData.canLay0, this]
theorem shI (l : List Int) : ((PyData.list (l.map PyData.int)).canLay0 && decide ((PyData.list (l.map PyData.int)).depth ≤ 64)) = true := by
  have h := dAll l
  rw [PyData.canLay0, cAll, PyData.depth, Bool.true_and, decide_eq_true_eq]
  omega
section
variable {w : World} {K : PySem.W.Frag} {mg : Str → Option Value} {base : Heap} {cl : CL}
theorem fn_Roweq (T : Txt K w mg cl base) : ∀ {x : Str} {f : Addr} {fd : FuncData}, C8.Fun K x "Row.__eq__" s_Roweq f fd → FnG P w K mg base 6 f fd ["self", "other"] (spM K cl F_Roweq) := by
  refine fnM (k := 5) (N := N_Roweq) sc_Roweq ?len (fun f cdv A out s H E hr => (jss_one (js_ret (je_and (je_b (c_isi T.wc) (by rfl) T.n_isinstance (by decide +kernel) (ja_cons (je_var 1) (ja_cons (je_cls 8 (by rfl) T.mx_Row) ja_nil))) (je_one (je_cmp (o_eq hr) (je_mt0 Tw.tk_cx (one_met (mt_Rowranks T)) hr (by decide) (je_var 0)) (je_mt0 Tw.tk_cx (one_met (mt_Rowranks T)) hr (by decide) (je_var 1)) (nomark _))))))) ?sem
  case len => rintro ts s Q E ⟨_, _, rfl, _⟩; rfl
  case sem =>
    rintro ts s Q E ⟨ps, v, rfl, hp, ⟨qs, rfl, hq, k⟩ | ⟨hv, k⟩⟩
    · unfold rowT
      walk_at "mm"
      refine hM.of ⟨ps, rfl, hp.l, ?_⟩
      walk_at "mm"
      refine hM.of ⟨qs, rfl, hq.l, ?_⟩
      walk_at "mm"
      rw [show (ps.map fun p => Mr.T.int p.1) = (rks ps).map Mr.T.int by unfold rks; rw [List.map_map]; rfl, show (qs.map fun p => Mr.T.int p.1) = (rks qs).map Mr.T.int by unfold rks; rw [List.map_map]; rfl, ints_dats, ints_dats]
      simp only [Option.map_some]
      refine ⟨⟨shI _, shI _⟩, ?_⟩
      rw [PyData.eqv, ints_eqv]
      exact k
    · unfold rowT
      rcases hv with hv | ⟨p, rfl⟩
      · cases v <;> first | cases hv; done | skip
        all_goals walk_at "mm"
        all_goals exact k
      · unfold itm
        walk_at "mm"
        exact k
theorem mt_Roweq (T : Txt K w mg cl base) : MetM P w K mg base cl 6 8 "__eq__" F_Roweq [] := metOf T.d_Roweq (fun _ _ _ => .nil) (fn_Roweq T)
theorem mgc_Rowblocks (T : Txt K w mg cl base) : MetGC P w K mg base cl 6 8 "blocks" C_Rowblocks := by
  refine metC (k := 5) (N := N_Rowblocks) T.d_Rowblocks sc_Rowblocks (fun _ => rfl) ?len (fun f cdv A out L Z hr => (jcs_cons (jc_pl (fun C hC => (js_set (i := 1) sc_Rowblocks.nd rfl (Or.inl rfl) je_int)))
      (jcs_cons (jc_while (fun C hC => (jt_cmp o_lt (je_var 1) (je_b c_len (by rfl) T.n_len (by decide +kernel) (ja_cons (je_fld T.fld_held (je_var 0)) ja_nil)) (nomark _))) (jcs_cons (jc_pl (fun C hC => (js_set (i := 2) sc_Rowblocks.nd rfl (Or.inl rfl) (je_call (Gf.takes _ C hC) (ok_behind_block T) hr (by decide) (by rfl) (ja_cons (je_fld T.fld_held (je_var 0)) (ja_cons (je_var 1) (ja_cons (je_fld T.fld_rank (je_ix (je_fld T.fld_held (je_var 0)) (je_var 1) (fun _ _ => rfl))) ja_nil)))))))
      (jcs_cons (jc_yield (fun C hC => (je_tup (ja_cons (je_fld T.fld_rank (je_ix (je_fld T.fld_held (je_var 0)) (je_var 1) (fun _ _ => rfl))) (ja_cons (je_op o_sub (je_var 2) (je_var 1)) ja_nil)))))
      (jcs_cons (jc_pl (fun C hC => (js_set (i := 1) sc_Rowblocks.nd rfl (Or.inl rfl) (je_var 2))))
      jcs_nil))))
      jcs_nil))) ?sem
  case len => rintro ts s yl κ e ⟨_, ⟨_, rfl, _⟩, _⟩; rfl
  case sem =>
    rintro ts s yl κ e my ⟨_, ⟨ps, rfl, hp, rfl⟩, hy⟩
    unfold rowT
    walk_at "mm"
    refine cwh_all (e := e) (fun outs τ => ∃ (a : Nat) (x : Option Mr.T), τ = [some (rowT ps), some (.int (a : Int)), x] ∧ a ≤ ps.length ∧ outs = (blks (ps.drop a)).map blT) ?_ ?_ _ 0 κ _ s ?_ ⟨0, none, rfl, Nat.zero_le _, rfl⟩ hy
    · rintro c κ τ s N ⟨a, x, rfl, ha, eo⟩ he
      have e0 : ps.drop a = [] := by
        cases e1 : ps.drop a with
        | nil => rfl
        | cons p A =>
          rw [e1, blks] at eo
          cases eo
      have ea : a = ps.length := Nat.le_antisymm ha (List.drop_eq_nil_iff.mp e0)
      unfold rowT
      walk_at "mm"
      refine hIte.by (fun h => ?_) fun h => ?_
      · rw [List.length_map, decide_eq_true_eq] at h
        omega
      walk_at "mm"
      exact he
    · rintro t ts c κ τ s N hc ⟨a, x, rfl, ha, eo⟩ hN hy
      obtain ⟨p, A, e1⟩ : ∃ p A, ps.drop a = p :: A := by
        cases e1 : ps.drop a with
        | nil =>
          rw [e1, blks] at eo
          cases eo
        | cons p A => exact ⟨p, A, rfl⟩
      have h1 := (drop_1 e1).1
      have ip : itm p = .obj 7 [("rank", .int p.1), ("name", .str p.2)] := rfl
      have hla : a < ps.length := (List.getElem?_eq_some_iff.mp h1).1
      unfold rowT
      walk_at "mm"
      refine hIte.by (fun h => ?_) fun h => ?_
      case refine_2 =>
        rw [List.length_map, decide_eq_false_iff_not] at h
        omega
      walk_at "mm"
      rw [at_l e1, ip]
      walk_at "mm"
      refine hM.of ⟨ps, a, p.1, rfl, by have := hp.l; omega, ?_⟩
      rw [e1]
      walk_at "mm"
      rw [at_l e1, ip]
      walk_at "mm"
      have hap := asc_least (e1 ▸ List.Pairwise.sublist (List.drop_sublist a ps) hp.a : asc (p :: A))
      have hd := drop_l (l := a) hp.a (by rw [e1]; exact hap)
      rw [e1] at hd
      rw [e1, blks, List.map_cons, List.cons.injEq] at eo
      have el : a + (eqs p.1 (p :: A)).length ≤ ps.length := by
        have h2 := blk_len (e1 ▸ List.Pairwise.sublist (List.drop_sublist a ps) hp.a : asc (p :: A)) hap
        have h3 := congrArg List.length e1
        rw [List.length_drop] at h3
        omega
      refine ⟨hc, ?_⟩
      rw [show (((a + (eqs p.1 (p :: A)).length : Nat) : Int) - (a : Int)) = ((eqs p.1 (p :: A)).length : Int) by omega]
      rw [eo.1] at hy
      refine my _ _ _ _ _ (fun κ' s' hy' => ?_) hy
      walk_at "mm"
      exact hN κ' _ s' ⟨_, _, rfl, el, by rw [eo.2, hd]⟩ hy'
    · have := blks_len _ ps (Nat.le_refl _)
      have := hp.l
      rw [List.drop_zero, List.length_map]
      omega
theorem fn_Rowwithin (T : Txt K w mg cl base) : ∀ {x : Str} {f : Addr} {fd : FuncData}, C8.Fun K x "Row.within" s_Rowwithin f fd → FnG P w K mg base 9 f fd ["self", "other"] (spM K cl F_Rowwithin) := by
  refine fnM (k := 8) (N := N_Rowwithin) sc_Rowwithin ?len (fun f cdv A out s H E hr => (jss_one (js_ret (je_b (c_all rfl) (by rfl) T.n_all (by decide +kernel) (ja_cons (je_lcQ (own := [("rank", 2), ("many", 3)]) sc_Rowwithin.nd hr (by decide) (jq_meth0 (mgc_Rowblocks T) hr (by decide) (je_var 0)) (blkOk_by (own := [("rank", 2), ("many", 3)]) (N := N_Rowwithin) (sc := C8.fnScope s_Rowwithin) (by decide +kernel)) (by decide) (fun _ _ _ _ _ => (pg_tup (n := 2) (by rfl) (pgs_cons (pg_name (i := 2) sc_Rowwithin.nd rfl (Or.inl rfl)) (pgs_cons (pg_name (i := 3) sc_Rowwithin.nd rfl (Or.inl rfl)) pgs_nil)))) (gt_tup (gts_cons (gt_name (i := 2) (by decide)) (gts_cons (gt_name (i := 3) (by decide)) gts_nil)))  (fun _ _ _ _ _ => (je_cmp o_le (je_var 3) (je_mt L2.takes0 (one_met (mt_Rownumber T)) hr (by decide) (je_var 1) (ja_cons (je_var 2) ja_nil)) (nomark _)))) ja_nil))))) ?sem
  case len => rintro ts s Q E ⟨_, _, rfl, _⟩; rfl
  case sem =>
    rintro ts s Q E ⟨ps, qs, rfl, hp, hq, k⟩
    unfold rowT
    walk_at "mm"
    refine hQL.all ⟨ps, rfl, hp, rfl⟩ ?_
    have hb := blks_len _ ps (Nat.le_refl _)
    have hl := hp.l
    refine lc_filterG (fun t => [some (rowT ps), some (rowT qs), some (fstB t), some (sndB t)]) (fun _ => true) (fun t => .bl (match t with | .tup [.int r, .int m] => decide (m ≤ (cntR r qs : Int)) | _ => false)) ?_ ?_ ?_ (by rw [List.length_map, List.length_nil]; omega) ?_ trivial
    · intro t ht Q k
      obtain ⟨b, hb, rfl⟩ := List.mem_map.mp ht
      unfold blT
      walk_at "mm"
      exact k
    · intro t ht Q k
      walk_at "mm"
      exact k
    · intro t ht _ Q k
      obtain ⟨b, hb, rfl⟩ := List.mem_map.mp ht
      unfold blT rowT fstB sndB
      walk_at "mm"
      refine hM.of ⟨qs, b.1, rfl, hq.l, ?_⟩
      walk_at "mm"
      exact k
    · rw [List.nil_append, List.filter_eq_self.mpr fun _ _ => rfl, List.map_map]
      walk_at "mm"
      rw [show ((fun t => Mr.T.bl (match t with | .tup [.int r, .int m] => decide (m ≤ (cntR r qs : Int)) | _ => false)) ∘ blT) = Mr.T.bl ∘ fun b : Int × Nat => decide (b.2 ≤ cntR b.1 qs) from funext fun b => congrArg Mr.T.bl (decide_eq_decide.mpr Int.ofNat_le), ← List.map_map, bools_map]
      simp only [onO, List.all_map]
      exact ⟨trivial, k⟩
theorem mt_Rowwithin (T : Txt K w mg cl base) : MetM P w K mg base cl 9 8 "within" F_Rowwithin [] := metOf T.d_Rowwithin (fun _ _ _ => .nil) (fn_Rowwithin T)
theorem mtK_Rowwithin_0_other (T : Txt K w mg cl base) : MetK P w K mg base cl 9 8 "within" F_Rowwithin 1 ["other"] (fun xs ys => [xs.getD 0 .non, ys.getD 0 .non]) := metKOf T.dk_Rowwithin_0_other (fun r1 r2 => (.cons (r1.getD 0) (.cons (r2.getD 0) .nil))) (fn_Rowwithin T)
end
end M04
namespace M04
open PySem PySem.Spec PyProof.Rows L2 Tw Mr
theorem cnt_cons (i : Int) (p : Pr) (A : List Pr) : cntR i (p :: A) = (if p.1 = i then 1 else 0) + cntR i A := by
  unfold cntR
  rw [eqs_cons]
  split
  · rw [List.length_cons]; omega
  · omega
theorem cnt_rks (i : Int) (A : List Pr) : cntR i A = (rks A).count i := by
  induction A with
  | nil => rfl
  | cons p A ih =>
    rw [cnt_cons, ih]
    unfold rks
    rw [List.map_cons, List.count_cons]
    by_cases h : p.1 = i
    · simp [h]; omega
    · simp [h]
theorem cnt_not {i : Int} {A : List Pr} (h : ∀ p ∈ A, p.1 ≠ i) : cntR i A = 0 := by
  unfold cntR eqs
  rw [List.filter_eq_nil_iff.mpr fun p hp => by rw [decide_eq_true_eq]; exact h p hp]
  rfl
theorem cnt_nes {i k : Int} (h : i ≠ k) (A : List Pr) : cntR i (nes k A) = cntR i A := by
  induction A with
  | nil => rfl
  | cons p A ih =>
    rw [nes_cons, cnt_cons]
    split
    · rename_i e
      rw [if_neg (by omega), ih]; omega
    · rw [cnt_cons, ih]
theorem cnt_nes_self (k : Int) (A : List Pr) : cntR k (nes k A) = 0 := cnt_not fun p hp => (nes_mem hp).2
theorem rks_eq {A B : List Pr} (ha : asc A) (hb : asc B) (h : ∀ i, cntR i A = cntR i B) : rks A = rks B := by
  have p : (rks A).Perm (rks B) := List.perm_iff_count.mpr fun i => by rw [← cnt_rks, ← cnt_rks, h]
  refine p.eq_of_pairwise (le := fun a b => a ≤ b) (fun a b _ _ h1 h2 => Int.le_antisymm h1 h2) ?_ ?_
  · unfold rks
    rw [List.pairwise_map]
    exact ha
  · unfold rks
    rw [List.pairwise_map]
    exact hb
theorem blks_mem : ∀ (n : Nat) (ps : List Pr), ps.length ≤ n → ∀ b ∈ blks ps, b.2 = cntR b.1 ps ∧ b.2 ≠ 0
  | 0, [], _, b, hb => by rw [blks] at hb; cases hb
  | n + 1, [], _, b, hb => by rw [blks] at hb; cases hb
  | n + 1, p :: A, h, b, hb => by
    have h1 : (nes p.1 (p :: A)).length ≤ A.length := by
      rw [nes_cons, if_pos rfl]
      exact List.length_filter_le _ _
    rw [blks] at hb
    rcases List.mem_cons.mp hb with rfl | hb
    · refine ⟨rfl, ?_⟩
      rw [eqs_cons, if_pos rfl]
      exact Nat.succ_ne_zero _
    · have ih := blks_mem n _ (by rw [List.length_cons] at h; omega) b hb
      have e : b.1 ≠ p.1 := fun e => ih.2 (by rw [ih.1, e, cnt_nes_self])
      rw [cnt_nes e] at ih
      exact ih
theorem blks_all : ∀ (n : Nat) (ps : List Pr), ps.length ≤ n → ∀ i, cntR i ps ≠ 0 → (i, cntR i ps) ∈ blks ps
  | 0, [], _, i, hi => absurd rfl hi
  | n + 1, [], _, i, hi => absurd rfl hi
  | n + 1, p :: A, h, i, hi => by
    have h1 : (nes p.1 (p :: A)).length ≤ A.length := by
      rw [nes_cons, if_pos rfl]
      exact List.length_filter_le _ _
    rw [blks]
    by_cases e : i = p.1
    · subst e
      exact List.mem_cons_self
    · refine List.mem_cons_of_mem _ ?_
      have e2 : cntR i (nes p.1 (p :: A)) = cntR i (p :: A) := cnt_nes e _
      have ih := blks_all n (nes p.1 (p :: A)) (by rw [List.length_cons] at h; omega) i (by rw [e2]; exact hi)
      rw [e2] at ih
      exact ih
def wthB (A B : List Pr) : Bool := (blks A).all fun b => decide (b.2 ≤ cntR b.1 B)
theorem wth_iff {A B : List Pr} : wthB A B = true ↔ ∀ i, cntR i A ≤ cntR i B := by
  unfold wthB
  rw [List.all_eq_true]
  constructor
  · intro h i
    by_cases e : cntR i A = 0
    · rw [e]; exact Nat.zero_le _
    · exact of_decide_eq_true (h _ (blks_all _ A (Nat.le_refl _) i e))
  · intro h b hb
    rw [(blks_mem _ A (Nat.le_refl _) b hb).1]
    exact decide_eq_true (h _)
/-- the ranks of an ascending list, each once -/
def dis (acc : List Int) (ps : List Pr) : List Int := ps.foldl (fun acc p => if acc.getLast? = some p.1 then acc else acc ++ [p.1]) acc
theorem dis_snoc (acc : List Int) (ps : List Pr) (p : Pr) : dis acc (ps ++ [p]) = if (dis acc ps).getLast? = some p.1 then dis acc ps else dis acc ps ++ [p.1] := by
  unfold dis
  rw [List.foldl_append]
  rfl
theorem dis_app (acc : List Int) (A B : List Pr) : dis acc (A ++ B) = dis (dis acc A) B := by
  unfold dis
  rw [List.foldl_append]
theorem dis_same {k : Int} (acc : List Int) : ∀ {A : List Pr}, (∀ p ∈ A, p.1 = k) → dis (acc ++ [k]) A = acc ++ [k]
  | [], _ => rfl
  | p :: A, h => by
    have e := h p List.mem_cons_self
    show dis (if (acc ++ [k]).getLast? = some p.1 then acc ++ [k] else (acc ++ [k]) ++ [p.1]) A = _
    rw [List.getLast?_concat, e, if_pos rfl]
    exact dis_same acc fun q hq => h q (List.mem_cons_of_mem _ hq)
theorem dis_blks : ∀ (n : Nat) (acc : List Int) (ps : List Pr), ps.length ≤ n → asc ps → (∀ p ∈ ps, acc.getLast? ≠ some p.1) → dis acc ps = acc ++ (blks ps).map (·.1)
  | _, acc, [], _, _, _ => by rw [blks, List.map_nil, List.append_nil]; rfl
  | 0, _, _ :: _, h, _, _ => by simp at h
  | n + 1, acc, p :: A, h, ha, hn => by
    have h1 : (nes p.1 (p :: A)).length ≤ A.length := by
      rw [nes_cons, if_pos rfl]
      exact List.length_filter_le _ _
    have ih := dis_blks n (acc ++ [p.1]) (nes p.1 (p :: A)) (by rw [List.length_cons] at h; omega) (asc_nes ha) (fun q hq e => by
      rw [List.getLast?_concat] at e
      exact (nes_mem hq).2 (Option.some.inj e).symm)
    have e1 : dis acc (eqs p.1 (p :: A)) = acc ++ [p.1] := by
      rw [eqs_cons, if_pos rfl]
      show dis (if acc.getLast? = some p.1 then acc else acc ++ [p.1]) (eqs p.1 A) = _
      rw [if_neg (hn p List.mem_cons_self)]
      exact dis_same acc fun q hq => (eqs_mem hq).2
    rw [blks, List.map_cons]
    conv => lhs; rw [blk ha (asc_least ha)]
    rw [dis_app, e1, ih, List.append_assoc]
    rfl
theorem dis_all {ps : List Pr} (ha : asc ps) : (dis [] ps).map (fun r => (r, cntR r ps)) = blks ps := by
  rw [dis_blks _ [] ps (Nat.le_refl _) ha (fun _ _ e => by cases e), List.nil_append, List.map_map]
  conv => rhs; rw [← List.map_id (blks ps)]
  refine List.map_congr_left fun b hb => ?_
  exact Prod.ext rfl (blks_mem _ ps (Nat.le_refl _) b hb).1.symm
end M04
namespace M04
open PySem PySem.Spec PyProof.Rows L2 Tw Mr
local macro_rules | `(tactic| walk_at "mm") => `(tactic| simp -implicitDefEqProofs only [↓Mr.hold_cM, ↓Mr.hold_ite, Mr.hIte_true, Mr.hIte_false, ↓Mr.startT.eq_1, ↓Mr.endsM.eq_1, ↓Mr.fSeq.eq_1, ↓Mr.fSkip.eq_1, ↓Mr.fRet.eq_1, ↓Mr.fDrop.eq_1, ↓Mr.fAsg.eq_1, ↓Mr.fIfS.eq_1, ↓Mr.fRaise.eq_1, ↓Mr.gN.eq_1, ↓Mr.gT.eq_1, ↓Mr.gsNil.eq_1, ↓Mr.gsCons.eq_1, ↓Mr.xk, ↓Mr.fVar.eq_1, ↓Mr.fC.eq_1, ↓Mr.f2.eq_1, ↓Mr.f3.eq_1, ↓Mr.g2.eq_1, ↓Mr.kB.eq_1, ↓Mr.fTest.eq_1, ↓Mr.fTru.eq_1, ↓Mr.fNot.eq_1, ↓Mr.fAndV.eq_1, ↓Mr.fUn.eq_1, ↓Mr.onO.eq_1, Mr.onB_bl, ↓Mr.fNil.eq_1, ↓Mr.fCons.eq_1, Mr.eqF, ↓Mr.fCB.eq_1, ↓Mr.fCall.eq_1, ↓Mr.fMt.eq_1, ↓Mr.oSome.eq_1, Mr.ltO, Mr.leO, Mr.ixO, Mr.lenO, Mr.slC, ↓Mr.fSlC.eq_1, Mr.listO, Mr.isiO, Mr.fldO, Mr.inO', Mr.inB, Mr.T.flat, Mr.S.lst?, Mr.S.seq?, Mr.S.ty?, Mr.S.obj?, Mr.S.dat, Mr.T.dat, Mr.dats, PyData.eqv, PyData.eqvAll, Bool.true_and, beq_self_eq_true, Mr.okC, List.map_cons, List.map_nil, List.length_cons, List.length_nil, List.cons_append, List.nil_append, List.append_nil, List.replicate_succ, List.replicate_zero, List.getElem?_cons_zero, List.getElem?_cons_succ, List.set_cons_zero, List.set_cons_succ, Int.reduceToNat, Int.reducePow, Int.reduceAbs, Int.reduceLE, Int.reduceLT, Int.reduceSub, Int.reduceAdd, Int.reduceNeg, Int.reduceMul, Int.reduceEq, Nat.reducePow, Nat.sub_self, Nat.reduceSub, Nat.reduceAdd, Nat.reduceLeDiff, Nat.reduceLT, Nat.reduceEqDiff, Nat.zero_add, true_and, and_true, ↓reduceIte, Bool.not_false, List.zip_cons_cons, List.zip_nil_right, M04.kkA_Item, M04.kkA_tup, M04.lkA_rank_name, M04.lkA_held, M04.insL, M04.excL, List.mem_cons, List.not_mem_nil, or_false, or_true, true_or, false_or, reduceCtorEq])
def placeE (a : Int) : Er := ⟨4, [("at", .int a)]⟩
def F_Rowlstd : FD := fun ts s Q _ => ∃ ps : List Pr, ts = [rowT ps] ∧ ps.length ≤ 200 ∧ Q (.lst (ps.map itm)) s
def F_Rowneed : FD := fun ts s Q E => ∃ (ps : List Pr) (a : Int), ts = [rowT ps, .int a] ∧ ps.length ≤ 200 ∧ if 0 ≤ a ∧ a < ps.length then Q .non s else E (placeE a) s
def btw (ps : List Pr) (a b : Int) : List Pr := (ps.take b.toNat).drop a.toNat
def F_Rowbetween : FD := fun ts s Q E => ∃ (ps : List Pr) (a b : Int), ts = [rowT ps, .int a, .int b] ∧ ps.length ≤ 200 ∧ if 0 ≤ a ∧ a ≤ ps.length then (if a ≤ b ∧ b ≤ ps.length then (∀ y, s.on y = none → Q (.cell y) (s.put y (.lst ((btw ps a b).map itm)))) else E (placeE b) s) else E (placeE a) s
def F_Rowget : FD := fun ts s Q E => ∃ (ps : List Pr) (a : Int), ps.length ≤ 200 ∧ ((ts = [rowT ps, .int a] ∧ if 0 ≤ a ∧ a < ps.length then Q (itm (ps.getD a.toNat (0, ""))) s else E (placeE a) s) ∨ ∃ b : Int, ts = [rowT ps, .tup [.int a, .int b]] ∧ if 0 ≤ a ∧ a ≤ ps.length then (if a ≤ b ∧ b ≤ ps.length then (∀ y, s.on y = none → Q (.cell y) (s.put y (.lst ((btw ps a b).map itm)))) else E (placeE b) s) else E (placeE a) s)
def inB (ps : List Pr) (v : Mr.T) : Bool := match v with | .int i => rankB (.int i) && decide (i ∈ rks ps) | _ => false
def F_Rowin : FD := fun ts s Q _ => ∃ (ps : List Pr) (v : Mr.T), ts = [rowT ps, v] ∧ ps.length ≤ 200 ∧ ((∃ p, v = itm p ∧ Q (.bl (decide (p.1 ∈ rks ps))) s) ∨ (oddT v ∧ Q (.bl (inB ps v)) s))
theorem nd_true {p : Prop} [Decidable p] (h : (!decide p) = true) : ¬ p := fun z => by rw [decide_eq_true z] at h; cases h
theorem nd_false {p : Prop} [Decidable p] (h : (!decide p) = false) : p := Decidable.byContradiction fun z => by rw [decide_eq_false z] at h; cases h
theorem flat_ps (ps : List Pr) : (ps.map fun p => Mr.T.int p.1).all Mr.T.flat = true := by
  rw [List.all_map]
  exact List.all_eq_true.mpr fun _ _ => rfl
theorem any_ps (ps : List Pr) (i : Int) : ((ps.map fun p => Mr.T.int p.1).any fun y => eqF y (.int i)) = decide (i ∈ rks ps) := by
  rw [List.any_map]
  refine Bool.eq_iff_iff.mpr ?_
  rw [List.any_eq_true, decide_eq_true_eq]
  unfold rks
  rw [List.mem_map]
  constructor
  · rintro ⟨p, hp, h⟩
    exact ⟨p, hp, eq_of_beq (α := Int) h⟩
  · rintro ⟨p, hp, rfl⟩
    exact ⟨p, hp, beq_self_eq_true (α := Int) _⟩
section
variable {w : World} {K : PySem.W.Frag} {mg : Str → Option Value} {base : Heap} {cl : CL}
theorem fn_Rowlstd (T : Txt K w mg cl base) : ∀ {x : Str} {f : Addr} {fd : FuncData}, C8.Fun K x "Row.listed" s_Rowlstd f fd → FnG P w K mg base 3 f fd ["self"] (spM K cl F_Rowlstd) := by
  refine fnM (k := 2) (N := N_Rowlstd) sc_Rowlstd ?len (fun f cdv A out s H E hr => (jss_one (js_ret (je_bt c_list (by rfl) T.n_list (by decide +kernel) (ja_cons (je_fld T.fld_held (je_var 0)) ja_nil))))) ?sem
  case len => rintro ts s Q E ⟨_, rfl, _⟩; rfl
  case sem =>
    rintro ts s Q E ⟨ps, rfl, hl, k⟩
    unfold rowT
    walk_at "mm"
    exact k
theorem mt_Rowlstd (T : Txt K w mg cl base) : MetM P w K mg base cl 3 8 "listed" F_Rowlstd [] := metOf T.d_Rowlstd (fun _ _ _ => .nil) (fn_Rowlstd T)
theorem fn_Rowneed (T : Txt K w mg cl base) : ∀ {x : Str} {f : Addr} {fd : FuncData}, C8.Fun K x "Row.need_index" s_Rowneed f fd → FnG P w K mg base 3 f fd ["self", "at"] (spM K cl F_Rowneed) := by
  refine fnM (k := 2) (N := N_Rowneed) sc_Rowneed ?len (fun f cdv A out s H E hr => (jss_one (js_if (jt_not (jt_chain o_le o_lt je_int (je_var 1) (je_b c_len (by rfl) T.n_len (by decide +kernel) (ja_cons (je_fld T.fld_held (je_var 0)) ja_nil)))) (jss_one (js_raise (by rfl) Tw.tk_cx T.x_BadPlace T.oex_BadPlace hr (by rfl) T.mx_BadPlace (ja_cons (je_var 1) ja_nil))) jss_nil))) ?sem
  case len => rintro ts s Q E ⟨_, _, rfl, _⟩; rfl
  case sem =>
    rintro ts s Q E ⟨ps, a, rfl, hl, k⟩
    unfold rowT
    walk_at "mm"
    refine hIte.by (fun h => ?_) fun h => ?_
    · have h := of_decide_eq_true h
      walk_at "mm"
      rw [List.length_map]
      refine hIte.by (fun h2 => ?_) fun h2 => ?_
      · have h2 := nd_true h2
        rw [if_neg (fun z => h2 z.2)] at k
        walk_at "mm"
        exact k
      · have h2 := nd_false h2
        rw [if_pos ⟨h, h2⟩] at k
        walk_at "mm"
        exact k
    · have h := of_decide_eq_false h
      rw [if_neg (fun z => h z.1)] at k
      walk_at "mm"
      exact k
theorem mt_Rowneed (T : Txt K w mg cl base) : MetM P w K mg base cl 3 8 "need_index" F_Rowneed [] := metOf T.d_Rowneed (fun _ _ _ => .nil) (fn_Rowneed T)
theorem fn_Rowbetween (T : Txt K w mg cl base) : ∀ {x : Str} {f : Addr} {fd : FuncData}, C8.Fun K x "Row.between" s_Rowbetween f fd → FnG P w K mg base 3 f fd ["self", "first", "stop"] (spM K cl F_Rowbetween) := by
  refine fnM (k := 2) (N := N_Rowbetween) sc_Rowbetween ?len (fun f cdv A out s H E hr => (jss_cons (js_if (jt_not (jt_chain o_le o_le je_int (je_var 1) (je_b c_len (by rfl) T.n_len (by decide +kernel) (ja_cons (je_fld T.fld_held (je_var 0)) ja_nil)))) (jss_one (js_raise (by rfl) Tw.tk_cx T.x_BadPlace T.oex_BadPlace hr (by rfl) T.mx_BadPlace (ja_cons (je_var 1) ja_nil))) jss_nil)
    (jss_cons (js_if (jt_not (jt_chain o_le o_le (je_var 1) (je_var 2) (je_b c_len (by rfl) T.n_len (by decide +kernel) (ja_cons (je_fld T.fld_held (je_var 0)) ja_nil)))) (jss_one (js_raise (by rfl) Tw.tk_cx T.x_BadPlace T.oex_BadPlace hr (by rfl) T.mx_BadPlace (ja_cons (je_var 2) ja_nil))) jss_nil)
    (jss_one (js_ret (je_sliceC (je_fld T.fld_held (je_var 0)) (jo_some (je_var 1)) (jo_some (je_var 2)))))))) ?sem
  case len => rintro ts s Q E ⟨_, _, _, rfl, _⟩; rfl
  case sem =>
    rintro ts s Q E ⟨ps, a, b, rfl, hl, k⟩
    unfold rowT
    walk_at "mm"
    refine hIte.by (fun h => ?_) fun h => ?_
    case' refine_2 =>
      have h := of_decide_eq_false h
      rw [if_neg (fun z => h z.1)] at k
      walk_at "mm"
      exact k
    have h := of_decide_eq_true h
    walk_at "mm"
    rw [List.length_map]
    refine hIte.by (fun h2 => ?_) fun h2 => ?_
    case' refine_1 =>
      have h2 := nd_true h2
      rw [if_neg (fun z => h2 z.2)] at k
      walk_at "mm"
      exact k
    have h2 := nd_false h2
    rw [if_pos ⟨h, h2⟩] at k
    walk_at "mm"
    refine hIte.by (fun h3 => ?_) fun h3 => ?_
    case' refine_2 =>
      have h3 := of_decide_eq_false h3
      rw [if_neg (fun z => h3 z.1)] at k
      walk_at "mm"
      exact k
    have h3 := of_decide_eq_true h3
    walk_at "mm"
    rw [List.length_map]
    refine hIte.by (fun h4 => ?_) fun h4 => ?_
    case' refine_1 =>
      have h4 := nd_true h4
      rw [if_neg (fun z => h4 z.2)] at k
      walk_at "mm"
      exact k
    have h4 := nd_false h4
    rw [if_pos ⟨h3, h4⟩] at k
    walk_at "mm"
    rw [cut_both (by omega) (by omega)]
    rw [← List.map_take, ← List.map_drop]
    exact k
theorem mt_Rowbetween (T : Txt K w mg cl base) : MetM P w K mg base cl 3 8 "between" F_Rowbetween [] := metOf T.d_Rowbetween (fun _ _ _ => .nil) (fn_Rowbetween T)
theorem fn_Rowget (T : Txt K w mg cl base) : ∀ {x : Str} {f : Addr} {fd : FuncData}, C8.Fun K x "Row.__getitem__" s_Rowget f fd → FnG P w K mg base 6 f fd ["self", "at"] (spM K cl F_Rowget) := by
  refine fnM (k := 5) (N := N_Rowget) sc_Rowget ?len (fun f cdv A out s H E hr => (jss_cons (js_if (jt_val (je_b (c_isi T.wc) (by rfl) T.n_isinstance (by decide +kernel) (ja_cons (je_var 1) (ja_cons (je_ty .tup (by rfl) T.n_tuple (by decide +kernel)) ja_nil)))) (jss_cons (js_asg (je_var 1) (jg_tup (n := 2) (by rfl) (jgs_cons (jg_name (i := 2) sc_Rowget.nd rfl (Or.inl rfl)) (jgs_cons (jg_name (i := 3) sc_Rowget.nd rfl (Or.inl rfl)) jgs_nil))))
      (jss_one (js_ret (je_mt Tw.tk_cx (one_met (mt_Rowbetween T)) hr (by decide) (je_var 0) (ja_cons (je_var 2) (ja_cons (je_var 3) ja_nil)))))) jss_nil)
    (jss_cons (js_expr (je_mt Tw.tk_cx (one_met (mt_Rowneed T)) hr (by decide) (je_var 0) (ja_cons (je_var 1) ja_nil)))
    (jss_one (js_ret (je_ix (je_fld T.fld_held (je_var 0)) (je_var 1) (fun _ _ => rfl))))))) ?sem
  case len => rintro ts s Q E ⟨_, _, _, ⟨rfl, _⟩ | ⟨_, rfl, _⟩⟩ <;> rfl
  case sem =>
    rintro ts s Q E ⟨ps, a, hl, ⟨rfl, k⟩ | ⟨b, rfl, k⟩⟩
    all_goals unfold rowT
    all_goals walk_at "mm"
    case' inl =>
      refine hM.of ⟨ps, a, rfl, hl, ?_⟩
      split
      · rename_i h
        rw [if_pos h] at k
        walk_at "mm"
        rw [atI_ps (f := itm) h.1 h.2]
        exact ⟨trivial, k⟩
      · rename_i h
        rw [if_neg h] at k
        walk_at "mm"
        exact k
    refine hM.of ⟨ps, a, b, rfl, hl, ?_⟩
    split
    · rename_i h
      rw [if_pos h] at k
      split
      · rename_i h2
        rw [if_pos h2] at k
        walk_at "mm"
        exact k
      · rename_i h2
        rw [if_neg h2] at k
        walk_at "mm"
        exact k
    · rename_i h
      rw [if_neg h] at k
      walk_at "mm"
      exact k
theorem mt_Rowget (T : Txt K w mg cl base) : MetM P w K mg base cl 6 8 "__getitem__" F_Rowget [] := metOf T.d_Rowget (fun _ _ _ => .nil) (fn_Rowget T)
theorem fn_Rowin (T : Txt K w mg cl base) : ∀ {x : Str} {f : Addr} {fd : FuncData}, C8.Fun K x "Row.__contains__" s_Rowin f fd → FnG P w K mg base 9 f fd ["self", "x"] (spM K cl F_Rowin) := by
  refine fnM (k := 8) (N := N_Rowin) sc_Rowin ?len (fun f cdv A out s H E hr => (jss_cons (js_if (jt_val (je_b (c_isi T.wc) (by rfl) T.n_isinstance (by decide +kernel) (ja_cons (je_var 1) (ja_cons (je_cls 7 (by rfl) T.mx_Item) ja_nil)))) (jss_one (js_ret (je_cmp (o_in hr) (je_fld T.fld_rank (je_var 1)) (je_mt0 Tw.tk_cx (one_met (mt_Rowranks T)) hr (by decide) (je_var 0)) (by rfl)))) jss_nil)
    (jss_one (js_ret (je_and (je_call Tw.tk_cx (ok_isrank T) hr (by decide) (by rfl) (ja_cons (je_var 1) ja_nil)) (je_one (je_cmp (o_in hr) (je_var 1) (je_mt0 Tw.tk_cx (one_met (mt_Rowranks T)) hr (by decide) (je_var 0)) (by rfl)))))))) ?sem
  case len => rintro ts s Q E ⟨_, _, rfl, _⟩; rfl
  case sem =>
    rintro ts s Q E ⟨ps, v, rfl, hl, ⟨p, rfl, k⟩ | ⟨hv, k⟩⟩
    · rw [show itm p = .obj 7 [("rank", .int p.1), ("name", .str p.2)] from rfl]
      unfold rowT
      walk_at "mm"
      refine hM.of ⟨ps, rfl, hl, ?_⟩
      walk_at "mm"
      rw [flat_ps, if_pos rfl]
      refine ⟨trivial, ?_⟩
      have e := any_ps ps p.1
      unfold eqF at e
      rw [e]
      exact k
    · unfold rowT
      rcases hv with hv | ⟨fs, rfl⟩ | ⟨fs, rfl⟩
      case' inl => cases v <;> first | cases hv; done | skip
      all_goals walk_at "mm"
      all_goals refine hM.of ⟨_, rfl, by first | exact .inl rfl | exact .inr (.inl ⟨_, rfl⟩) | exact .inr (.inr ⟨_, rfl⟩), ?_⟩
      case' inl.int =>
        rename_i i
        replace k : Q (.bl (rankB (.int i) && decide (i ∈ rks ps))) s := k
        rcases e : rankB (.int i) with _ | _
        case' false =>
          rw [e] at k
          walk_at "mm"
          exact k
        rw [e, Bool.true_and] at k
        walk_at "mm"
        refine hM.of ⟨ps, rfl, hl, ?_⟩
        walk_at "mm"
        rw [flat_ps, if_pos rfl]
        refine ⟨trivial, ?_⟩
        have e := any_ps ps i
        unfold eqF at e
        rw [e]
        exact k
      all_goals (
        simp only [rankB, isIntB]
        walk_at "mm"
        exact k)
theorem mt_Rowin (T : Txt K w mg cl base) : MetM P w K mg base cl 9 8 "__contains__" F_Rowin [] := metOf T.d_Rowin (fun _ _ _ => .nil) (fn_Rowin T)
end
end M04
namespace M04
open PySem PySem.Spec PyProof.Rows L2 Tw Mr
local macro_rules | `(tactic| walk_at "mm") => `(tactic| simp -implicitDefEqProofs only [↓Mr.hold_cM, Option.isSome_some, ↓Mr.hold_ite, ↓Mr.hold_for, ↓Mr.hold_lc, ↓Mr.hold_act, Mr.hIte_true, Mr.hIte_false, ↓Mr.startT.eq_1, ↓Mr.endsM.eq_1, ↓Mr.fSeq.eq_1, ↓Mr.fSkip.eq_1, ↓Mr.fRet.eq_1, ↓Mr.fRetF.eq_1, ↓Mr.fDrop.eq_1, ↓Mr.fSet.eq_1, ↓Mr.fIfS.eq_1, ↓Mr.fTry.eq_1, ↓Mr.gN.eq_1, ↓Mr.gT.eq_1, ↓Mr.gsNil.eq_1, ↓Mr.gsCons.eq_1, ↓Mr.xk, ↓Mr.fVar.eq_1, ↓Mr.fC.eq_1, ↓Mr.f2.eq_1, ↓Mr.g2.eq_1, ↓Mr.kB.eq_1, ↓Mr.fTest.eq_1, ↓Mr.fTru.eq_1, ↓Mr.fAnd.eq_1, ↓Mr.fOr.eq_1, ↓Mr.fIf.eq_1, ↓Mr.fUn.eq_1, ↓Mr.onO.eq_1, Mr.onB_bl, ↓Mr.fNil.eq_1, ↓Mr.fCons.eq_1, ↓Mr.fLst.eq_1, ↓Mr.fTup.eq_1, ↓Mr.fLstC.eq_1, ↓Mr.fCB.eq_1, ↓Mr.fCall.eq_1, ↓Mr.fMk.eq_1, ↓Mr.fLM.eq_1, ↓Mr.onL.eq_1, Mr.addO, Mr.intO, Mr.eqO, Mr.neO, Mr.isO, Mr.T.isN, Mr.negO, Mr.ixO, Mr.lenO, Mr.S.put_pn, Mr.isiO, Mr.fldO, Mr.xgO, Mr.S.put_same, Mr.S.put_put, Mr.S.pn_on, Mr.S.pn_pen, Mr.S.put_pen, Mr.S.pn_pn, ↓Mr.fLc.eq_1, ↓Mr.iSeq.eq_1, ↓Mr.iRange1.eq_1, Mr.S.its?, Mr.okAt, Mr.wipeT, ↓Mr.fFor.eq_1, Option.map_some, Mr.appO, Mr.S.lst?, Mr.S.seq?, Mr.S.ty?, Mr.S.obj?, Mr.S.dat, Mr.T.dat, Mr.dats, Mr.atI_0, PyData.eqv, PyData.eqvAll, Bool.true_and, Bool.and_self, Mr.okC, List.map_cons, List.map_nil, List.length_cons, List.length_nil, List.cons_append, List.nil_append, List.append_nil, List.replicate_succ, List.replicate_zero, List.getElem?_cons_zero, List.getElem?_cons_succ, List.set_cons_zero, List.set_cons_succ, L2.CPow, Int.reduceToNat, Int.reducePow, Int.reduceAbs, Int.reduceLE, Int.reduceLT, Int.reduceSub, Int.reduceAdd, Int.reduceNeg, Int.reduceMul, Int.reduceEq, Nat.reducePow, Nat.sub_self, Nat.reduceSub, Nat.reduceAdd, Nat.reduceLeDiff, Nat.reduceLT, Nat.reduceEqDiff, Nat.zero_add, Nat.add_one_sub_one, true_and, and_true, ↓reduceIte, M04.kkA_BadItem, M04.kkA_BadPlace, M04.kkA_Disordered, M04.kkA_TooMany, M04.lkA_rank_name, M04.lkA_part, M04.lkA_at, M04.lkA_most, M04.insL, M04.excL, List.mem_cons, List.not_mem_nil, or_false, or_true, true_or, false_or, reduceCtorEq])
def pr (p : Pr) : Mr.T := .tup [.int p.1, .str p.2]
def F_pick : FD := fun ts s Q _ => ∃ v, ts = [.pen, v] ∧ s.pen ≤ 1000000 ∧ ∃ xs, v = .lst xs ∧ xs ≠ [] ∧ xs.length ≤ 1000 ∧ ∀ t ∈ xs, Q t (s.pn (s.pen + 1))
/-- pairs in order, of ranks within B -/
def Ok (B : Int) (ps : List Pr) : Prop := (∀ p ∈ ps, -B ≤ p.1 ∧ p.1 ≤ B ∧ nameB (.str p.2) = true) ∧ asc ps
def F_pairs : FD := fun ts s Q _ => ∃ m : Nat, ts = [.pen, .int m] ∧ m ≤ 100 ∧ s.pen ≤ 900000 ∧ ∀ (ps : List Pr) (n : Nat), ps.length ≤ m → Ok (100000000000000000000000000000 + 1000000000 * 100) ps → n ≤ s.pen + 2 + 2 * m → Q (.lst (ps.map pr)) (s.pn n)
def F_values : FD := fun ts s Q _ => ∃ ps B, ts = [.pen, .lst (ps.map pr)] ∧ ps.length ≤ 100 ∧ Ok B ps ∧ B ≤ G ∧ s.pen ≤ 900000 ∧ ∀ xs n, Vals xs ps → n ≤ s.pen + ps.length → Q (.lst xs) (s.pn n)
def F_told : FD := fun ts s Q _ => ∃ (v : Mr.T) (ps : List Pr), ts = [v] ∧ (v = .lst (ps.map itm) ∨ ∃ a, v = .cell a ∧ s.on a = some (.lst (ps.map itm))) ∧ ps.length ≤ 1000 ∧ Q (.lst (ps.map pr)) s
def heardR (er : Er) (t : Mr.T) : Prop := (∃ v, er = ⟨3, [("part", v)]⟩ ∧ t = .tup [.str "item", v]) ∨ (∃ v, er = ⟨4, [("at", v)]⟩ ∧ t = .tup [.str "place", v]) ∨ (∃ v, er = ⟨5, [("at", v)]⟩ ∧ t = .tup [.str "order", v]) ∨ ∃ v, er = ⟨6, [("most", v)]⟩ ∧ t = .tup [.str "many", v]
def F_heard : FH := fun φ s Q _ => φ s (fun t s1 => Q (.lst [t]) s1) (fun er s1 => ∃ t, heardR er t ∧ Q t s1)
theorem map_inj {f : Pr → Mr.T} (inj : ∀ p q : Pr, f p = f q → p = q) : ∀ ps qs : List Pr, ps.map f = qs.map f → ps = qs
  | [], [], _ => rfl
  | [], _ :: _, h => by simp at h
  | _ :: _, [], h => by simp at h
  | p :: ps, q :: qs, h => by
    simp only [List.map_cons, List.cons.injEq] at h
    rw [inj p q h.1, map_inj inj ps qs h.2]
def prd (p : Pr) : PyData := .tuple [.int p.1, .str p.2]
theorem pr_dats : ∀ ps : List Pr, dats (ps.map pr) = some (ps.map prd)
  | [] => rfl
  | p :: r => by
    have ih := pr_dats r
    simp only [List.map_cons, dats, ih]
    rfl
theorem occ_small (c : Nat) (h : occ L ⟨#[c]⟩ = true) : decide (c < 1114112) = true := by
  have e : occ L ⟨#[c]⟩ = decide (c ∈ L.cps.toList) := StrLaws.found_one L c
  rw [e] at h
  have a : ∀ d ∈ L.cps.toList, decide (d < 1114112) = true := by decide +kernel
  exact a c (of_decide_eq_true h)
theorem name_nice {z : Str} (hz : nameB (.str z) = true) : niceD (.str z) = true := by
  have hl := name_len hz
  rw [niceD, Bool.and_eq_true]
  refine ⟨?_, decide_eq_true (by omega)⟩
  have h : (decide (z.length ≤ 8) && z.cps.toList.all fun c => occ L ⟨#[c]⟩) = true := hz
  rw [Bool.and_eq_true] at h
  have h2 := h.2
  rw [← Array.all_toList]
  refine List.all_eq_true.mpr fun c hc => ?_
  have := List.all_eq_true.mp h2 c hc
  exact occ_small c this
theorem pr_nice {B : Int} (hB : B ≤ 10 ^ 40) {ps : List Pr} (h : ∀ p ∈ ps, -B ≤ p.1 ∧ p.1 ≤ B ∧ nameB (.str p.2) = true) : niceAll (ps.map prd) = true ∧ PyData.depthAll (ps.map prd) ≤ 3 := by
  induction ps with
  | nil => exact ⟨rfl, by simp [PyData.depthAll]⟩
  | cons p r ih =>
    obtain ⟨h1, h2⟩ := ih fun p hp => h p (List.mem_cons_of_mem _ hp)
    obtain ⟨b1, b2, hz⟩ := h p List.mem_cons_self
    rw [List.map_cons, niceAll, PyData.depthAll]
    refine ⟨?_, ?_⟩
    · rw [h1, prd, niceD, niceAll, niceAll, niceAll, name_nice hz, niceD, decide_eq_true (Nat.lt_of_le_of_lt (show p.1.natAbs ≤ 10 ^ 40 by omega) (by decide +kernel))]
      rfl
    · show max (PyData.depth (prd p)) (PyData.depthAll (r.map prd)) ≤ 3
      have : PyData.depth (prd p) ≤ 3 := by
        unfold prd
        simp only [PyData.depth, PyData.depthAll]
        omega
      omega
theorem pr_sh {B : Int} (hB : B ≤ 10 ^ 40) {ps : List Pr} (h : ∀ p ∈ ps, -B ≤ p.1 ∧ p.1 ≤ B ∧ nameB (.str p.2) = true) : SeqAt.shaped (.list (ps.map prd)) = true := by
  obtain ⟨h1, h2⟩ := pr_nice hB h
  refine sh (by rw [niceD]; exact h1) ?_
  simp only [PyData.depth]
  omega
theorem pr_eqv {B : Int} (hB : B ≤ 10 ^ 40) {ps : List Pr} (h : ∀ p ∈ ps, -B ≤ p.1 ∧ p.1 ≤ B ∧ nameB (.str p.2) = true) : PyData.eqvAll (ps.map prd) (ps.map prd) = true := eqvAll_self (pr_nice hB h).1
def prE (i : Int) (t : Mr.T) : Bool := match t with | .tup [.int r, _] => decide (r = i) | _ => false
def F_lnum : FD := fun ts s Q _ => ∃ (ps : List Pr) (i : Int), ts = [.lst (ps.map pr), .int i] ∧ ps.length ≤ 200 ∧ Q (.int (cntR i ps : Nat)) s
def F_lindex : FD := fun ts s Q _ => ∃ n : Nat, ts = [.pen, .int n] ∧ n ≤ 100 ∧ s.pen ≤ 900000 ∧ ∀ (i : Int) (m : Nat), i.natAbs ≤ 10 ^ 20 → m ≤ s.pen + 3 → Q (.int i) (s.pn m)
def bzT (x : Int × Int) : Mr.T := .tup [.int x.1, .int x.2]
def bzD (x : Int × Int) : PyData := .tuple [.int x.1, .int x.2]
theorem bz_dats : ∀ l : List (Int × Int), dats (l.map bzT) = some (l.map bzD)
  | [] => rfl
  | x :: l => by rw [List.map_cons, bzT, dats, bz_dats l]; rfl
theorem bz_dep : ∀ l : List (Int × Int), PyData.depthAll (l.map bzD) ≤ 3
  | [] => by simp [PyData.depthAll]
  | x :: l => by
    have := bz_dep l
    rw [List.map_cons, PyData.depthAll, bzD]
    simp [PyData.depth, PyData.depthAll]
    omega
theorem bz_can : ∀ l : List (Int × Int), PyData.canLayAll0 (l.map bzD) = true
  | [] => by simp [PyData.canLayAll0]
  | x :: l => by
    have := bz_can l
    simp [PyData.canLayAll0, PyData.canLay0, this, bzD]
theorem bz_sh (l : List (Int × Int)) : SeqAt.shaped (.list (l.map bzD)) = true := by
  have h := bz_dep l
  show ((PyData.list (l.map bzD)).canLay0 && decide ((PyData.list (l.map bzD)).depth ≤ 64)) = true
  rw [PyData.canLay0, bz_can, PyData.depth, Bool.true_and, decide_eq_true_eq]
  omega
theorem eqv_nil : ∀ {l : List PyData}, l ≠ [] → PyData.eqvAll l [] = false
  | [], h => absurd rfl h
  | _ :: _, _ => by simp [PyData.eqvAll]
theorem atI_last {xs : List Mr.T} {y : Mr.T} : atI (xs ++ [y]) (-1) = some y := by
  unfold L2.atI L2.ixN
  rw [if_neg (by omega), List.length_append, List.length_singleton]
  rw [if_pos (by omega), show ((-1 : Int) + ((xs.length + 1 : Nat) : Int)).toNat = xs.length by omega]
  simp
def F_lblocks : FD := fun ts s Q _ => ∃ ps : List Pr, ts = [.lst (ps.map pr)] ∧ ps.length ≤ 200 ∧ asc ps ∧ Q (.lst ((blks ps).map blT)) s
section
variable {w : World} {K : PySem.W.Frag} {mg : Str → Option Value} {base : Heap} {cl : CL}
theorem fn_pick (T : Txt K w mg cl base) : ∀ {x : Str} {f : Addr} {fd : FuncData}, C8.Fun K x "_law_pick" s_pick f fd → FnG P w K mg base 6 f fd ["_law_pen_here", "_law_some"] (spM K cl F_pick) := by
  refine fnM (k := 5) (N := N_pick) sc_pick ?len (fun f cdv A out s H E hr => (jss_one (js_ret (je_ix (je_var 1) (je_call Tw.tk_cx (ok_draw T) hr (by decide) (by rfl) (ja_cons (je_var 0) (ja_cons (je_b c_len (by rfl) T.n_len (by decide +kernel) (ja_cons (je_var 1) ja_nil)) ja_nil))) (fun _ _ => rfl))))) ?sem
  case len => rintro ts s Q E ⟨_, rfl, _⟩; rfl
  case sem =>
    rintro ts s Q E ⟨v, rfl, hn, xs, rfl, h0, h1, k⟩
    have hpos := List.length_pos_iff.mpr h0
    walk_at "mm"
    refine use_drawH (by omega) (by omega) hn fun j j0 j1 => ?_
    obtain ⟨t, e, m⟩ := atI_mem j0 j1
    walk_at "mm"
    rw [e]
    exact ⟨trivial, k t m⟩
theorem ok_pick (T : Txt K w mg cl base) : CalM P w K mg base cl 6 "_law_pick" F_pick [] := calOf T.d_pick (fun _ _ _ => .nil) (fn_pick T)
theorem lam_heard (T : Txt K w mg cl base) : LamOk P w K mg base cl 2 "_law_heard" F_heard := by
  refine lamOf T.d_heard sc_heard rfl (Or.inl rfl) (by decide) (by decide) fun φ t0 mφ => ⟨_, ?sem, fun g cdv A out s H E hr act => (jss_cons (js_set (i := 1) sc_heard.nd rfl (Or.inl rfl) je_non)
    (jss_cons (js_set (i := 2) sc_heard.nd rfl (Or.inl rfl) je_non)
    (jss_cons (js_try (i := 3) (j := 1) rfl rfl rfl sc_heard.nd rfl rfl rfl rfl ⟨by rfl, by decide, .inl T.mx_HeadsError⟩ T.em_HeadsError (by decide) (by decide) (Nat.le_of_ble_eq_true rfl) (fun W' pn xe tk => (jss_one (js_set (i := 2) sc_heard.nd rfl (Or.inl rfl) (act _ _ _ _ _ tk)))))
    (jss_cons (js_if (jt_val (je_b (c_isi T.wc) (by rfl) T.n_isinstance (by decide +kernel) (ja_cons (je_var 1) (ja_cons (je_cls 3 (by rfl) T.mx_BadItem) ja_nil)))) (jss_one (js_ret (je_tup (ja_cons je_str (ja_cons (je_xg T.xf_BadItem T.na_BadItem_part (je_var 1)) ja_nil))))) jss_nil)
    (jss_cons (js_if (jt_val (je_b (c_isi T.wc) (by rfl) T.n_isinstance (by decide +kernel) (ja_cons (je_var 1) (ja_cons (je_cls 4 (by rfl) T.mx_BadPlace) ja_nil)))) (jss_one (js_ret (je_tup (ja_cons je_str (ja_cons (je_xg T.xf_BadPlace T.na_BadPlace_at (je_var 1)) ja_nil))))) jss_nil)
    (jss_cons (js_if (jt_val (je_b (c_isi T.wc) (by rfl) T.n_isinstance (by decide +kernel) (ja_cons (je_var 1) (ja_cons (je_cls 5 (by rfl) T.mx_Disordered) ja_nil)))) (jss_one (js_ret (je_tup (ja_cons je_str (ja_cons (je_xg T.xf_Disordered T.na_Disordered_at (je_var 1)) ja_nil))))) jss_nil)
    (jss_cons (js_if (jt_val (je_b (c_isi T.wc) (by rfl) T.n_isinstance (by decide +kernel) (ja_cons (je_var 1) (ja_cons (je_cls 6 (by rfl) T.mx_TooMany) ja_nil)))) (jss_one (js_ret (je_tup (ja_cons je_str (ja_cons (je_xg T.xf_TooMany T.na_TooMany_most (je_var 1)) ja_nil))))) jss_nil)
    (jss_one (js_ret (je_if (jt_cmp o_is (je_var 1) je_non (nomark _)) (je_lst (ja_cons (je_var 2) ja_nil)) (je_tup (ja_cons je_str (ja_cons je_int ja_nil)))))))))))))⟩
  case sem =>
    intro s Q E k
    walk_at "mm"
    refine hP.of (mφ _ _ _ _ _ ?_ ?_ k)
    · intro t s1 k1
      walk_at "mm"
      exact k1
    · rintro er s1 ⟨t, hr, k1⟩
      rcases hr with ⟨v, rfl, rfl⟩ | ⟨v, rfl, rfl⟩ | ⟨v, rfl, rfl⟩ | ⟨v, rfl, rfl⟩
      all_goals walk_at "mm"
      all_goals exact k1
theorem fn_told (T : Txt K w mg cl base) : ∀ {x : Str} {f : Addr} {fd : FuncData}, C8.Fun K x "_law_told" s_told f fd → FnG P w K mg base 3 f fd ["_law_listed"] (spM K cl F_told) := by
  refine fnM (k := 2) (N := N_told) sc_told ?len (fun f cdv A out s H E hr => (jss_one (js_ret (je_lc (own := [("_law_item", 1)]) (by rfl) sc_told.nd (ji_seq (je_var 0)) (blkOk_by (own := [("_law_item", 1)]) (N := N_told) (sc := C8.fnScope s_told) (by decide +kernel)) (fun _ _ _ _ _ => (pg_name (i := 1) sc_told.nd rfl (Or.inl rfl))) (gt_name (i := 1) (by decide))  (fun _ _ _ _ _ => (je_tup (ja_cons (je_fld T.fld_rank (je_var 1)) (ja_cons (je_fld T.fld_name (je_var 1)) ja_nil)))))))) ?sem
  case len => rintro ts s Q E ⟨_, _, rfl, _⟩; rfl
  case sem =>
    rintro ts s Q E ⟨v, ps, rfl, rfl | ⟨a, rfl, ha⟩, hl, k⟩
    case' inr =>
      walk_at "mm"
      rw [ha]
    all_goals walk_at "mm"
    all_goals (
      refine lc_map (fun t => match t with | .obj _ [(_, x), (_, y)] => .tup [x, y] | t => t) ?_ (by simp; omega) ?_ (by first | exact trivial | exact ha)
      · intro t ht Q' k'
        obtain ⟨p, _, rfl⟩ := List.mem_map.mp ht
        unfold itm
        walk_at "mm"
        exact k'
      rw [List.map_map]
      exact k)
theorem ok_told (T : Txt K w mg cl base) : CalM P w K mg base cl 3 "_law_told" F_told [] := calOf T.d_told (fun _ _ _ => .nil) (fn_told T)
theorem fn_pairs (T : Txt K w mg cl base) : ∀ {x : Str} {f : Addr} {fd : FuncData}, C8.Fun K x "_law_pairs" s_pairs f fd → FnG P w K mg base 9 f fd ["_law_pen_here", "_law_most"] (spM K cl F_pairs) := by
  refine fnM (k := 8) (N := N_pairs) sc_pairs ?len (fun f cdv A out s H E hr => (jss_cons (js_set (i := 2) sc_pairs.nd rfl (Or.inl rfl) (je_call Tw.tk_cx (ok_pick T) hr (by decide) (by rfl) (ja_cons (je_var 0) (ja_cons (je_lst (ja_cons je_int (ja_cons (je_neg je_int) (ja_cons je_int (ja_cons (je_neg (je_op o_pow je_int je_int)) (ja_cons (je_op o_pow je_int je_int) ja_nil)))))) ja_nil))))
    (jss_cons (js_set (i := 3) sc_pairs.nd rfl (Or.inl rfl) (je_lstC ja_nil))
    (jss_cons (js_for (L2.passes_of rfl) rfl (ji_range1 (by rfl) T.n_range (ja_cons (je_call Tw.tk_cx (ok_draw T) hr (by decide) (by rfl) (ja_cons (je_var 0) (ja_cons (je_op o_add (je_var 1) je_int) ja_nil))) ja_nil)) (jg_name (i := 4) sc_pairs.nd rfl (Or.inl rfl))
      (jss_cons (js_set (i := 2) sc_pairs.nd rfl (Or.inl rfl) (je_op o_add (je_var 2) (je_call Tw.tk_cx (ok_pick T) hr (by decide) (by rfl) (ja_cons (je_var 0) (ja_cons (je_lst (ja_cons je_int (ja_cons je_int (ja_cons je_int (ja_cons je_int (ja_cons je_int (ja_cons je_int (ja_cons (je_op o_pow je_int je_int) ja_nil)))))))) ja_nil)))))
      (jss_one (js_expr (je_lm lm_append PySem.F.slot_list_append PySem.F.type_list_append (je_var 3) (ja_cons (je_tup (ja_cons (je_var 2) (ja_cons (je_call Tw.tk_cx (ok_pick T) hr (by decide) (by rfl) (ja_cons (je_var 0) (ja_cons (je_lst (ja_cons je_str (ja_cons je_str (ja_cons je_str (ja_cons je_str (ja_cons je_str (ja_cons je_str ja_nil))))))) ja_nil))) ja_nil))) ja_nil))))))
    (jss_one (js_retF (je_var 3))))))) ?sem
  case len => rintro ts s Q E ⟨_, rfl, _⟩; rfl
  case sem =>
    rintro ts s Q E ⟨m, rfl, hm, hn, k⟩
    walk_at "mm"
    refine hM.of ⟨_, rfl, by omega, _, rfl, by simp, by simp, fun t ht => ?_⟩
    obtain ⟨r0, rfl, r1, r2⟩ : ∃ r : Int, t = .int r ∧ -100000000000000000000000000000 ≤ r ∧ r ≤ 100000000000000000000000000000 := by
      simp only [List.mem_cons, List.not_mem_nil, or_false] at ht
      rcases ht with rfl | rfl | rfl | rfl | rfl
      all_goals exact ⟨_, rfl, by omega, by omega⟩
    walk_at "mm"
    intro a ha
    refine use_drawH (by omega) (by omega) (by simp only [S.put_pen, S.pn_pen]; omega) fun j j0 j1 => ?_
    walk_at "mm"
    refine ⟨⟨by omega, by omega⟩, ?_⟩
    refine for_ind (fun pre post τ s' => ∃ (ps : List Pr) (r : Int) (x4 : Option Mr.T) (n : Nat), s' = (s.pn n).put a (.lst (ps.map pr)) ∧ n ≤ s.pen + 2 + 2 * pre.length ∧ ps.length = pre.length ∧ pre.length + post.length = j.toNat ∧ ps.Pairwise (fun a b => a.1 ≤ b.1) ∧ (∀ p ∈ ps, -100000000000000000000000000000 ≤ p.1 ∧ p.1 ≤ r ∧ nameB (.str p.2) = true) ∧ -100000000000000000000000000000 ≤ r ∧ r ≤ 100000000000000000000000000000 + 1000000000 * pre.length ∧ τ = [some .pen, some (.int m), some (.int r), some (.cell a), x4]) ?_ (fun _ _ _ _ _ => trivial) ?_ ?_
    · exact ⟨[], r0, none, s.pen + 1 + 1, rfl, by simp, rfl, by rw [rng_len]; simp, List.Pairwise.nil, by simp, r1, by simp; omega, rfl⟩
    · rintro pre t post τ s' N e ⟨ps, r, x4, n, rfl, hn', hl, hj, hpw, hb, b1, b2, rfl⟩ k'
      rw [List.length_cons] at hj
      walk_at "mm"
      refine hM.of ⟨_, rfl, by simp only [S.put_pen, S.pn_pen]; omega, _, rfl, by simp, by simp, fun t ht => ?_⟩
      obtain ⟨d, rfl, d1, d2⟩ : ∃ d : Int, t = .int d ∧ 0 ≤ d ∧ d ≤ 1000000000 := by
        simp only [List.mem_cons, List.not_mem_nil, or_false] at ht
        rcases ht with rfl | rfl | rfl | rfl | rfl | rfl | rfl
        all_goals exact ⟨_, rfl, by omega, by omega⟩
      walk_at "mm"
      refine hM.of ⟨_, rfl, by simp only [S.put_pen, S.pn_pen]; omega, _, rfl, by simp, by simp, fun t ht => ?_⟩
      obtain ⟨z, rfl, hz⟩ : ∃ z : Str, t = .str z ∧ nameB (.str z) = true := by
        simp only [List.mem_cons, List.not_mem_nil, or_false] at ht
        rcases ht with rfl | rfl | rfl | rfl | rfl | rfl
        all_goals exact ⟨_, rfl, by decide +kernel⟩
      walk_at "mm"
      refine ⟨by simp at hj ⊢; omega, k' _ _ ⟨ps ++ [(r + d, z)], r + d, _, n + 1 + 1, by rw [List.map_append]; rfl, by simp; omega, by simp [hl], by simp; omega, ?_, ?_, by omega, by simp; omega, rfl⟩⟩
      · rw [List.pairwise_append]
        refine ⟨hpw, by simp, fun x hx y hy => ?_⟩
        rw [List.mem_singleton] at hy
        subst hy
        have := hb x hx
        show x.1 ≤ r + d
        omega
      · intro p hp
        rcases List.mem_append.mp hp with h | h
        · have := hb p h
          exact ⟨this.1, by omega, this.2.2⟩
        · rw [List.mem_singleton] at h
          subst h
          exact ⟨by show _ ≤ r + d; omega, Int.le_refl _, hz⟩
    · rintro τ s' ⟨ps, r, x4, n, rfl, hn', hl, hj, hpw, hb, b1, b2, rfl⟩
      walk_at "mm"
      rw [S.del_put (by exact ha)]
      refine k ps n (by rw [hl]; simp at hj; omega) ⟨fun p hp => ?_, hpw⟩ (by simp at hj; omega)
      have := hb p hp
      simp at hj
      exact ⟨by omega, by omega, this.2.2⟩
theorem ok_pairs (T : Txt K w mg cl base) : CalM P w K mg base cl 9 "_law_pairs" F_pairs [] := calOf T.d_pairs (fun _ _ _ => .nil) (fn_pairs T)
theorem fn_values (T : Txt K w mg cl base) : ∀ {x : Str} {f : Addr} {fd : FuncData}, C8.Fun K x "_law_values" s_values f fd → FnG P w K mg base 12 f fd ["_law_pen_here", "_law_pairs_here"] (spM K cl F_values) := by
  refine fnM (k := 11) (N := N_values) sc_values ?len (fun f cdv A out s H E hr => (jss_cons (js_set (i := 2) sc_values.nd rfl (Or.inl rfl) (je_lstC ja_nil))
    (jss_cons (js_for (L2.passes_of rfl) rfl (ji_seq (je_var 1)) (jg_tup (n := 2) (by rfl) (jgs_cons (jg_name (i := 3) sc_values.nd rfl (Or.inl rfl)) (jgs_cons (jg_name (i := 4) sc_values.nd rfl (Or.inl rfl)) jgs_nil)))
      (jss_one (js_expr (je_lm lm_append PySem.F.slot_list_append PySem.F.type_list_append (je_var 2) (ja_cons (je_if (JW.jt (jw_and (jt_cmp (o_eq hr) (je_var 4) je_str (nomark _)) (jw_and1 (jt_cmp (o_eq hr) (je_call Tw.tk_cx (ok_draw T) hr (by decide) (by rfl) (ja_cons (je_var 0) (ja_cons je_int ja_nil))) je_int (nomark _))))) (je_var 3) (je_mk true Tw.tk_cx (mk_Iinit T) hr (by decide) (by rfl) (ja_cons (je_var 3) (ja_cons (je_var 4) ja_nil)))) ja_nil)))))
    (jss_one (js_retF (je_var 2)))))) ?sem
  case len => rintro ts s Q E ⟨_, _, rfl, _⟩; rfl
  case sem =>
    rintro ts s Q E ⟨ps, B, rfl, hl, ⟨hok, _⟩, hB, hn, k⟩
    walk_at "mm"
    intro a ha
    refine for_ind (fun pre post τ s' => ∃ (qs : List Pr) (xs : List Mr.T) (x3 x4 : Option Mr.T) (n : Nat), s' = (s.pn n).put a (.lst xs) ∧ pre = qs.map pr ∧ Vals xs qs ∧ n ≤ s.pen + pre.length ∧ pre.length + post.length = ps.length ∧ τ = [some .pen, some (.lst (ps.map pr)), some (.cell a), x3, x4]) ?_ (fun _ _ _ _ _ => trivial) ?_ ?_
    · exact ⟨[], [], none, none, s.pen, rfl, rfl, ⟨rfl, by simp⟩, by simp, by simp, rfl⟩
    · rintro pre t post τ s' N e ⟨qs, xs, x3, x4, n, rfl, rfl, hv, hn', hj, rfl⟩ k'
      rw [List.length_cons, List.length_map] at hj
      rw [List.length_map] at hn'
      have ht : t ∈ ps.map pr := by
        rw [e]
        exact List.mem_append_right _ List.mem_cons_self
      obtain ⟨⟨i, z⟩, hp, rfl⟩ := List.mem_map.mp ht
      have hxl : xs.length = qs.length := by
        have := congrArg List.length hv.1
        rwa [List.length_map, List.length_map] at this
      obtain ⟨b1, b2, hz⟩ := hok _ hp
      have okp : okP (i, z) := ⟨of_rank (by have : -B ≤ i := b1; omega) (by have : i ≤ B := b2; omega), hz⟩
      have step : ∀ y m', toP y = some (i, z) → okV y → m' ≤ s.pen + (qs.map pr).length + 1 → N [some .pen, some (.lst (ps.map pr)), some (.cell a), some (.int i), some (.str z)] ((s.pn m').put a (.lst (xs ++ [y]))) := by
        intro y m' hy hoy hm'
        refine k' _ _ ⟨qs ++ [(i, z)], xs ++ [y], _, _, m', rfl, by rw [List.map_append]; rfl, ⟨by rw [List.map_append, List.map_append, hv.1, List.map_singleton, hy]; rfl, fun x hx => ?_⟩, by simp at hm' ⊢; omega, by simp; omega, rfl⟩
        rcases List.mem_append.mp hx with h | h
        · exact hv.2 x h
        · rw [List.mem_singleton] at h
          subst h
          exact hoy
      have hlx : xs.length < 1000000 := by omega
      unfold pr
      walk_at "mm"
      refine hIte.by (fun h => ?_) fun h => ?_
      · have h := of_decide_eq_true h
        subst h
        walk_at "mm"
        refine use_drawH (by decide) (by decide) (by simp only [S.put_pen, S.pn_pen]; omega) fun j j0 j1 => ?_
        walk_at "mm"
        refine hIte.by (fun h2 => ?_) fun h2 => ?_
        · walk_at "mm"
          exact ⟨hlx, step _ (n + 1) (toP_int okp.1) (.inl rfl) (by simp; omega)⟩
        · walk_at "mm"
          refine fun x hx => mk_item hx okp ?_
          walk_at "mm"
          exact ⟨hlx, step _ (n + 1) rfl (.inr ⟨_, rfl⟩) (by simp; omega)⟩
      · walk_at "mm"
        refine fun x hx => mk_item hx okp ?_
        walk_at "mm"
        exact ⟨hlx, step _ n rfl (.inr ⟨_, rfl⟩) (by simp; omega)⟩
    · rintro τ s' ⟨qs, xs, x3, x4, n, rfl, hq, hv, hn', hj, rfl⟩
      walk_at "mm"
      rw [S.del_put (by exact ha)]
      have : ps = qs := by
        have inj : ∀ p q : Pr, pr p = pr q → p = q := fun p q h => by
          unfold pr at h
          simp at h
          exact Prod.ext h.1 h.2
        exact map_inj inj ps qs hq
      subst this
      exact k xs n hv (by simp at hn'; omega)
theorem ok_values (T : Txt K w mg cl base) : CalM P w K mg base cl 12 "_law_values" F_values [] := calOf T.d_values (fun _ _ _ => .nil) (fn_values T)
theorem fn_lnum (T : Txt K w mg cl base) : ∀ {x : Str} {f : Addr} {fd : FuncData}, C8.Fun K x "_law_number" s_lnum f fd → FnG P w K mg base 3 f fd ["_law_pairs_here", "_law_height"] (spM K cl F_lnum) := by
  refine fnM (k := 2) (N := N_lnum) sc_lnum ?len (fun f cdv A out s H E hr => (jss_one (js_ret (je_b c_len (by rfl) T.n_len (by decide +kernel) (ja_cons (je_lcIf (own := [("_law_pair", 2)]) (by rfl) sc_lnum.nd (ji_seq (je_var 0)) (blkOk_by (own := [("_law_pair", 2)]) (N := N_lnum) (sc := C8.fnScope s_lnum) (by decide +kernel)) (fun _ _ _ _ _ => (pg_name (i := 2) sc_lnum.nd rfl (Or.inl rfl))) (gt_name (i := 2) (by decide)) (fun _ _ _ _ _ => (jt_cmp (o_eq hr) (je_ix (je_var 2) je_int (fun _ _ => rfl)) (je_var 1) (nomark _))) (fun _ _ _ _ _ => (je_var 2))) ja_nil))))) ?sem
  case len => rintro ts s Q E ⟨_, _, rfl, _⟩; rfl
  case sem =>
    rintro ts s Q E ⟨ps, i, rfl, hl, k⟩
    walk_at "mm"
    refine lc_filterG (fun t => [some (.lst (ps.map pr)), some (.int i), some t]) (prE i) (fun t => t) ?_ ?_ ?_ (by rw [List.length_map, List.length_nil]; omega) ?_ trivial
    · intro t ht Q' k'
      walk_at "mm"
      exact k'
    · intro t ht Q' k'
      obtain ⟨p, hp, rfl⟩ := List.mem_map.mp ht
      unfold pr at k' ⊢
      walk_at "mm"
      exact k'
    · intro t ht _ Q' k'
      walk_at "mm"
      exact k'
    walk_at "mm"
    have e : (((ps.map pr).filter (prE i)).map fun t => t) = (eqs i ps).map pr := by
      rw [List.map_id', List.filter_map]
      rfl
    rw [e, List.length_map]
    exact k
theorem ok_lnum (T : Txt K w mg cl base) : CalM P w K mg base cl 3 "_law_number" F_lnum [] := calOf T.d_lnum (fun _ _ _ => .nil) (fn_lnum T)
theorem fn_lindex (T : Txt K w mg cl base) : ∀ {x : Str} {f : Addr} {fd : FuncData}, C8.Fun K x "_law_index" s_lindex f fd → FnG P w K mg base 9 f fd ["_law_pen_here", "_law_many"] (spM K cl F_lindex) := by
  refine fnM (k := 8) (N := N_lindex) sc_lindex ?len (fun f cdv A out s H E hr => (jss_one (js_ret (je_call Tw.tk_cx (ok_pick T) hr (by decide) (by rfl) (ja_cons (je_var 0) (ja_cons (je_lst (ja_cons (je_call Tw.tk_cx (ok_draw T) hr (by decide) (by rfl) (ja_cons (je_var 0) (ja_cons (je_op o_add (je_var 1) je_int) ja_nil))) (ja_cons (je_call Tw.tk_cx (ok_draw T) hr (by decide) (by rfl) (ja_cons (je_var 0) (ja_cons (je_op o_add (je_var 1) je_int) ja_nil))) (ja_cons (je_var 1) (ja_cons (je_op o_sub (je_var 1) je_int) (ja_cons je_int (ja_cons (je_neg je_int) (ja_cons (je_neg (je_var 1)) (ja_cons (je_op o_pow je_int je_int) ja_nil))))))))) ja_nil)))))) ?sem
  case len => rintro ts s Q E ⟨_, rfl, _⟩; rfl
  case sem =>
    rintro ts s Q E ⟨n, rfl, hn, hp, k⟩
    walk_at "mm"
    refine use_drawH (by omega) (by omega) (by omega) fun j j0 j1 => ?_
    walk_at "mm"
    refine use_drawH (by omega) (by omega) (by simp only [S.pn_pen]; omega) fun j2 j20 j21 => ?_
    walk_at "mm"
    refine hM.of ⟨_, rfl, by simp only [S.pn_pen]; omega, _, rfl, by simp, by simp, fun t ht => ?_⟩
    obtain ⟨d, rfl, hd⟩ : ∃ d : Int, t = .int d ∧ d.natAbs ≤ 10 ^ 20 := by
      simp only [List.mem_cons, List.not_mem_nil, or_false] at ht
      rcases ht with rfl | rfl | rfl | rfl | rfl | rfl | rfl | rfl
      all_goals exact ⟨_, rfl, by omega⟩
    walk_at "mm"
    exact k d _ hd (by omega)
theorem ok_lindex (T : Txt K w mg cl base) : CalM P w K mg base cl 9 "_law_index" F_lindex [] := calOf T.d_lindex (fun _ _ _ => .nil) (fn_lindex T)
theorem fn_lblocks (T : Txt K w mg cl base) : ∀ {x : Str} {f : Addr} {fd : FuncData}, C8.Fun K x "_law_blocks" s_lblocks f fd → FnG P w K mg base 6 f fd ["_law_pairs_here"] (spM K cl F_lblocks) := by
  refine fnM (k := 5) (N := N_lblocks) sc_lblocks ?len (fun f cdv A out s H E hr => (jss_cons (js_set (i := 1) sc_lblocks.nd rfl (Or.inl rfl) (je_lstC ja_nil))
    (jss_cons (js_for (L2.passes_of rfl) rfl (ji_seq (je_var 0)) (jg_tup (n := 2) (by rfl) (jgs_cons (jg_name (i := 2) sc_lblocks.nd rfl (Or.inl rfl)) (jgs_cons (jg_name (i := 3) sc_lblocks.nd rfl (Or.inl rfl)) jgs_nil)))
      (jss_one (js_if (JW.jt (jw_or (jt_cmp (o_eq hr) (je_var 1) (je_lst ja_nil) (nomark _)) (jw_or1 (jt_cmp (o_ne hr) (je_ix (je_ix (je_var 1) (je_neg je_int) (fun _ _ => rfl)) je_int (fun _ _ => rfl)) (je_var 2) (nomark _))))) (jss_one (js_expr (je_lm lm_append PySem.F.slot_list_append PySem.F.type_list_append (je_var 1) (ja_cons (je_tup (ja_cons (je_var 2) (ja_cons (je_call Tw.tk_cx (ok_lnum T) hr (by decide) (by rfl) (ja_cons (je_var 0) (ja_cons (je_var 2) ja_nil))) ja_nil))) ja_nil)))) jss_nil)))
    (jss_one (js_retF (je_var 1)))))) ?sem
  case len => rintro ts s Q E ⟨_, rfl, _⟩; rfl
  case sem =>
    rintro ts s Q E ⟨ps, rfl, hl, ha, k⟩
    walk_at "mm"
    intro a hna
    refine for_ind (fun pre post τ s' => ∃ (as bs : List Pr) (x2 x3 : Option Mr.T), s' = s.put a (.lst ((dis [] as).map fun r => blT (r, cntR r ps))) ∧ pre = as.map pr ∧ post = bs.map pr ∧ ps = as ++ bs ∧ (dis [] as).length ≤ as.length ∧ τ = [some (.lst (ps.map pr)), some (.cell a), x2, x3]) ?_ (fun _ _ _ _ _ => trivial) ?_ ?_
    · exact ⟨[], ps, none, none, rfl, rfl, rfl, rfl, Nat.le_refl _, rfl⟩
    · rintro pre t post τ s' N e ⟨as, bs, x2, x3, rfl, rfl, eb, e3, hd, rfl⟩ k'
      obtain ⟨p, bs, rfl, rfl, rfl⟩ := List.map_eq_cons_iff.mp eb.symm
      have l3 : as.length + 1 + bs.length = ps.length := by rw [e3, List.length_append, List.length_cons]; omega
      have hc : (eqs p.1 ps).length ≤ ps.length := List.length_filter_le _ _
      have ek : dis [] (as ++ [p]) = if (dis [] as).getLast? = some p.1 then dis [] as else dis [] as ++ [p.1] := dis_snoc _ _ _
      have done : ∀ y2 y3, N [some (.lst (ps.map pr)), some (.cell a), y2, y3] (s.put a (.lst ((dis [] (as ++ [p])).map fun r => blT (r, cntR r ps)))) := fun y2 y3 => k' _ _ ⟨as ++ [p], bs, y2, y3, rfl, by rw [List.map_append]; rfl, rfl, by rw [e3, List.append_assoc]; rfl, by rw [ek, List.length_append]; split <;> (try rw [List.length_append]) <;> simp <;> omega, rfl⟩
      clear k'
      unfold pr
      walk_at "mm"
      rw [show (fun p : Pr => Mr.T.tup [.int p.1, .str p.2]) = pr from rfl]
      rw [show ((dis [] as).map fun r => blT (r, cntR r ps)) = ((dis [] as).map fun r => (r, ((cntR r ps : Nat) : Int))).map bzT by rw [List.map_map]; rfl, bz_dats]
      simp only [Option.map_some]
      refine ⟨⟨bz_sh _, by decide +kernel⟩, ?_⟩
      rcases List.eq_nil_or_concat (dis [] as) with hE | ⟨ds, r, hE⟩
      · rw [hE] at ek ⊢
        rw [ek] at done
        walk_at "mm"
        refine hM.of ⟨ps, p.1, rfl, hl, ?_⟩
        walk_at "mm"
        exact done _ _
      · rw [List.concat_eq_append] at hE
        rw [hE] at ek hd ⊢
        rw [List.length_append] at hd
        walk_at "mm"
        rw [eqv_nil (by simp)]
        walk_at "mm"
        rw [List.map_append, List.map_append, List.map_singleton, List.map_singleton, atI_last]
        unfold bzT
        walk_at "mm"
        rw [List.getLast?_concat] at ek
        refine hIte.by (fun h => ?_) fun h => ?_
        · have h := nd_true h
          rw [if_neg (fun z => h (Option.some.inj z))] at ek
          rw [ek] at done
          walk_at "mm"
          refine hM.of ⟨ps, p.1, rfl, hl, ?_⟩
          walk_at "mm"
          refine ⟨by simp; omega, ?_⟩
          have d := done (some (.int p.1)) (some (.str p.2))
          simp only [List.map_append, List.map_cons, List.map_nil] at d
          rw [List.map_map]
          exact d
        · have h := nd_false h
          rw [if_pos (congrArg some h)] at ek
          rw [ek] at done
          walk_at "mm"
          have d := done (some (.int p.1)) (some (.str p.2))
          simp only [List.map_append, List.map_cons, List.map_nil] at d
          rw [List.map_map]
          exact d
    · rintro τ s' ⟨as, bs, x2, x3, rfl, e9, eb, e3, hd, rfl⟩
      obtain rfl : bs = [] := List.map_eq_nil_iff.mp eb.symm
      rw [List.append_nil] at e3
      subst e3
      walk_at "mm"
      rw [S.del_put hna]
      have e := congrArg (List.map blT) (dis_all ha)
      rw [List.map_map] at e
      rw [show ((dis [] ps).map fun r => blT (r, cntR r ps)) = _ from e]
      exact k
theorem ok_lblocks (T : Txt K w mg cl base) : CalM P w K mg base cl 6 "_law_blocks" F_lblocks [] := calOf T.d_lblocks (fun _ _ _ => .nil) (fn_lblocks T)
end
end M04
namespace M04
open PySem PySem.Spec PyProof.Rows L2 Tw Mr
local macro_rules | `(tactic| walk_at "mm") => `(tactic| simp -implicitDefEqProofs only [↓Mr.hold_cM, Option.isSome_some, ↓Mr.hold_ite, ↓Mr.hold_for, ↓Mr.hold_lam, Mr.hIte_true, Mr.hIte_false, ↓Mr.startT.eq_1, ↓Mr.endsM.eq_1, ↓Mr.fSeq.eq_1, ↓Mr.fSkip.eq_1, ↓Mr.fRet.eq_1, ↓Mr.fDrop.eq_1, ↓Mr.fSet.eq_1, ↓Mr.fAsg.eq_1, ↓Mr.fIfS.eq_1, ↓Mr.gN.eq_1, ↓Mr.gT.eq_1, ↓Mr.gsNil.eq_1, ↓Mr.gsCons.eq_1, ↓Mr.xk, ↓Mr.fVar.eq_1, ↓Mr.fC.eq_1, ↓Mr.f2.eq_1, ↓Mr.f3.eq_1, ↓Mr.g2.eq_1, ↓Mr.kB.eq_1, ↓Mr.fTest.eq_1, ↓Mr.fTru.eq_1, ↓Mr.fOr.eq_1, ↓Mr.fNot.eq_1, ↓Mr.onO.eq_1, Mr.onB_bl, ↓Mr.fNil.eq_1, ↓Mr.fCons.eq_1, ↓Mr.fLst.eq_1, ↓Mr.fTup.eq_1, ↓Mr.fCB.eq_1, ↓Mr.fCall.eq_1, ↓Mr.fSl.eq_1, ↓Mr.oSome.eq_1, ↓Mr.fLM.eq_1, ↓Mr.onL.eq_1, Mr.ltO, Mr.leO, Mr.eqO, Mr.neO, Mr.ixO, Mr.lenO, ↓Mr.fIxO.eq_1, Mr.isiO, Mr.slO, Mr.S.put_same, Mr.S.put_put, Mr.S.pn_pn, ↓Mr.iRange1.eq_1, ↓Mr.fFor.eq_1, Option.map_some, Mr.appO, ↓Mr.kObj.eq_1, Mr.S.lst?, Mr.S.seq?, Mr.S.ty?, Mr.S.obj?, Mr.S.dat, Mr.T.dat, Mr.dats, Mr.atI_0, PyData.eqv, PyData.eqvAll, beq_self_eq_true, Bool.and_self, Mr.okC, List.map_cons, List.map_nil, List.length_cons, List.length_nil, List.cons_append, List.nil_append, List.append_nil, List.replicate_succ, List.replicate_zero, List.getElem?_cons_zero, List.getElem?_cons_succ, List.set_cons_zero, List.set_cons_succ, Int.reduceToNat, Int.reducePow, Int.reduceAbs, Int.reduceLE, Int.reduceLT, Int.reduceSub, Int.reduceAdd, Int.reduceNeg, Int.reduceMul, Int.reduceEq, Nat.reducePow, Nat.reduceSub, Nat.reduceAdd, Nat.reduceLeDiff, Nat.reduceLT, Nat.reduceEqDiff, Nat.zero_add, true_and, and_true, ↓reduceIte, Bool.not_true, Bool.not_false, M04.kkA_list, M04.insL, M04.excL, or_false, or_true, true_or, false_or, reduceCtorEq])
def B40 : Int := 100000000000000000000000000000 + 1000000000 * 100
structure Rd (ps : List Pr) : Prop where
  l : ps.length ≤ 30
  o : Ok B40 ps
theorem Rd.row {ps : List Pr} (h : Rd ps) : okRow ps := ⟨Nat.le_trans h.l (by decide), h.o.2⟩
def F_placer : FD := fun ts s Q _ => ∃ ps : List Pr, ts = [.pen, rowT ps, .lst (ps.map pr)] ∧ Rd ps ∧ s.pen ≤ 800000 ∧ ∀ n, n ≤ s.pen + 36 → Q (.bl true) (s.pn n)
theorem getD_mem {ps : List Pr} {i : Int} (h0 : 0 ≤ i) (h1 : i < ps.length) : ps.getD i.toNat (0, "") ∈ ps := by
  rw [List.getD_eq_getElem?_getD, List.getElem?_eq_getElem (show i.toNat < ps.length by omega)]
  exact List.getElem_mem _
theorem b40 : B40 ≤ 10 ^ 40 := by decide +kernel
theorem shP {j : Int} (h : j.natAbs < 10 ^ 30) : SeqAt.shaped (.tuple [.str (Str.ofString "place"), .int j]) = true := by
  refine sh ?_ (by simp [PyData.depth, PyData.depthAll])
  rw [niceD, niceAll, niceAll, niceAll, show niceD (.str (Str.ofString "place")) = true by decide +kernel, niceD, decide_eq_true (Nat.lt_trans h (by decide +kernel))]
  rfl
section
variable {w : World} {K : PySem.W.Frag} {mg : Str → Option Value} {base : Heap} {cl : CL}
theorem fn_placer (T : Txt K w mg cl base) : ∀ {x : Str} {f : Addr} {fd : FuncData}, C8.Fun K x "_law_places_right" s_placer f fd → fd.code = .ref (cl 9) → FnG P w K mg base 12 f fd ["_law_pen_here", "_law_row", "_law_pairs_here"] (spM K cl F_placer) := by
  refine fnDC (k := 11) (N := N_placer) sc_placer ?len (fun f A out s H E hr => (jss_cons (js_set (i := 3) sc_placer.nd rfl (Or.inl rfl) (je_b c_len (by rfl) T.n_len (by decide +kernel) (ja_cons (je_var 2) ja_nil)))
    (jss_cons (js_for (L2.passes_of rfl) rfl (ji_range1 (by rfl) T.n_range (ja_cons je_int ja_nil)) (jg_name (i := 4) sc_placer.nd rfl (Or.inl rfl))
      (jss_cons (js_asg (je_tup (ja_cons (je_call Tw.tk_cx (ok_lindex T) hr (by decide) (by rfl) (ja_cons (je_var 0) (ja_cons (je_var 3) ja_nil))) (ja_cons (je_call Tw.tk_cx (ok_lindex T) hr (by decide) (by rfl) (ja_cons (je_var 0) (ja_cons (je_var 3) ja_nil))) ja_nil))) (jg_tup (n := 2) (by rfl) (jgs_cons (jg_name (i := 5) sc_placer.nd rfl (Or.inr rfl)) (jgs_cons (jg_name (i := 6) sc_placer.nd rfl (Or.inr rfl)) jgs_nil))))
      (jss_cons (js_set (i := 7) sc_placer.nd rfl (Or.inl rfl) (je_lam (k := 9) Tw.tk_cx (lam_heard T) hr (by decide) (by decide) (by rfl) T.tb_placer rfl T.tm_placer T.tu_placer (LamX.lamS_by (sc := C8.fnScope s_placer) (by decide +kernel)) (fun _ _ _ _ _ _ _ hr => (je_ixO tk_lam (mt_Rowget T) T.gi_Row hr (by decide) (je_var 1) (je_var 5)))))
      (jss_cons (js_if (jt_chain o_le o_lt je_int (je_var 5) (je_var 3)) (jss_one (js_if (JW.jt (jw_or (jt_not (jt_val (je_b (c_isi T.wc) (by rfl) T.n_isinstance (by decide +kernel) (ja_cons (je_var 7) (ja_cons (je_ty .list (by rfl) T.n_list (by decide +kernel)) ja_nil))))) (jw_or1 (jt_cmp (o_ne hr) (je_call Tw.tk_cx (ok_told T) hr (by decide) (by rfl) (ja_cons (je_var 7) ja_nil)) (je_lst (ja_cons (je_ix (je_var 2) (je_var 5) (fun _ _ => rfl)) ja_nil)) (nomark _))))) (jss_one (js_ret je_bl)) jss_nil)) (jss_one (js_if (jt_cmp (o_ne hr) (je_var 7) (je_tup (ja_cons je_str (ja_cons (je_var 5) ja_nil))) (nomark _)) (jss_one (js_ret je_bl)) jss_nil)))
      (jss_cons (js_set (i := 7) sc_placer.nd rfl (Or.inl rfl) (je_lam (k := 9) Tw.tk_cx (lam_heard T) hr (by decide) (by decide) (by rfl) T.tb_placer rfl T.tm_placer T.tu_placer (LamX.lamS_by (sc := C8.fnScope s_placer) (by decide +kernel)) (fun _ _ _ _ _ _ _ hr => (je_ixO tk_lam (mt_Rowget T) T.gi_Row hr (by decide) (je_var 1) (je_tup (ja_cons (je_var 5) (ja_cons (je_var 6) ja_nil)))))))
      (jss_one (js_if (jt_not (jt_chain o_le o_le je_int (je_var 5) (je_var 3))) (jss_one (js_if (jt_cmp (o_ne hr) (je_var 7) (je_tup (ja_cons je_str (ja_cons (je_var 5) ja_nil))) (nomark _)) (jss_one (js_ret je_bl)) jss_nil)) (jss_one (js_if (jt_not (jt_chain o_le o_le (je_var 5) (je_var 6) (je_var 3))) (jss_one (js_if (jt_cmp (o_ne hr) (je_var 7) (je_tup (ja_cons je_str (ja_cons (je_var 6) ja_nil))) (nomark _)) (jss_one (js_ret je_bl)) jss_nil)) (jss_one (js_if (JW.jt (jw_or (jt_not (jt_val (je_b (c_isi T.wc) (by rfl) T.n_isinstance (by decide +kernel) (ja_cons (je_var 7) (ja_cons (je_ty .list (by rfl) T.n_list (by decide +kernel)) ja_nil))))) (jw_or1 (jt_cmp (o_ne hr) (je_call Tw.tk_cx (ok_told T) hr (by decide) (by rfl) (ja_cons (je_ix (je_var 7) je_int (fun _ _ => rfl)) ja_nil)) (je_slice (je_var 2) (jo_some (je_var 5)) (jo_some (je_var 6))) (nomark _))))) (jss_one (js_ret je_bl)) jss_nil)))))))))))
    (jss_cons (js_expr (je_lm lm_append PySem.F.slot_list_append PySem.F.type_list_append (je_ixO Tw.tk_cx (mt_Rowget T) T.gi_Row hr (by decide) (je_var 1) (je_tup (ja_cons je_int (ja_cons (je_var 3) ja_nil)))) (ja_cons je_non ja_nil)))
    (jss_one (js_ret (je_cmp (o_eq hr) (je_call Tw.tk_cx (ok_told T) hr (by decide) (by rfl) (ja_cons (je_ixO Tw.tk_cx (mt_Rowget T) T.gi_Row hr (by decide) (je_var 1) (je_tup (ja_cons je_int (ja_cons (je_var 3) ja_nil)))) ja_nil)) (je_var 2) (nomark _)))))))) ?sem
  case len => rintro ts s Q E ⟨_, rfl, _⟩; rfl
  case sem =>
    rintro ts s Q E ⟨ps, rfl, hr, hn, k⟩
    unfold rowT
    have rl := hr.l
    walk_at "mm"
    rw [List.length_map]
    refine for_ind (fun pre post τ s' => ∃ (n : Nat) (x4 x5 x6 x7 : Option Mr.T), Shr s' (s.pn n) ∧ n ≤ s.pen + 6 * pre.length ∧ pre.length + post.length = 6 ∧ τ = [some .pen, some (rowT ps), some (.lst (ps.map pr)), some (.int (ps.length : Nat)), x4, x5, x6, x7]) ?_ (fun _ _ _ _ _ => trivial) ?_ ?_
    · exact ⟨s.pen, none, none, none, none, Shr.refl _, by simp, rfl, rfl⟩
    · rintro pre t post τ s' N e ⟨n, x4, x5, x6, x7, sh, hn', hj, rfl⟩ k'
      have sp : s'.pen = n := sh.pen.symm
      rw [List.length_cons] at hj
      walk_at "mm"
      refine hM.of ⟨ps.length, rfl, by omega, by omega, fun i m hi hm => ?_⟩
      walk_at "mm"
      refine hM.of ⟨ps.length, rfl, by omega, by simp only [S.pn_pen]; omega, fun j m2 hj2 hm2 => ?_⟩
      simp only [S.pn_pen] at hm2
      unfold rowT
      walk_at "mm"
      refine hH.of ?_
      unfold F_heard
      walk_at "mm"
      have sp2 : (s'.pn m2).pen = m2 := rfl
      have sh2 : Shr (s'.pn m2) (s.pn m2) := sh.pn (n := m2)
      generalize s'.pn m2 = s2 at sp2 sh2
      by_cases h1 : 0 ≤ i ∧ i < ps.length
      case' pos =>
        refine hM.of ⟨ps, i, by omega, .inl ⟨rfl, ?_⟩⟩
        rw [if_pos h1]
        walk_at "mm"
        rw [decide_eq_true h1.1]
        walk_at "mm"
        rw [decide_eq_true h1.2]
        walk_at "mm"
        refine hM.of ⟨_, [ps.getD i.toNat (0, "")], rfl, .inl rfl, by simp, ?_⟩
        walk_at "mm"
        rw [atI_ps (f := pr) h1.1 h1.2]
        have hp := getD_mem h1.1 h1.2
        generalize ps.getD i.toNat (0, "") = p at hp
        have h1p : ∀ q ∈ [p], -B40 ≤ q.1 ∧ q.1 ≤ B40 ∧ nameB (.str q.2) = true := fun q hq => by
          rw [List.mem_singleton] at hq
          rw [hq]
          exact hr.o.1 p hp
        walk_at "mm"
        rw [show (pr p).dat = some (prd p) from rfl]
        simp only [Option.map_some]
        refine ⟨⟨pr_sh (ps := [p]) b40 h1p, pr_sh (ps := [p]) b40 h1p⟩, ?_⟩
        rw [show (PyData.list [prd p]).eqv (.list [prd p]) = true from by rw [PyData.eqv]; exact pr_eqv (ps := [p]) b40 h1p]
        walk_at "mm"
      case' neg =>
        refine hM.of ⟨ps, i, by omega, .inl ⟨rfl, ?_⟩⟩
        rw [if_neg h1]
        refine ⟨.tup [.str "place", .int i], .inr (.inl ⟨_, rfl, rfl⟩), ?_⟩
        walk_at "mm"
        refine hIte.by (fun h2 => ?_) fun h2 => ?_
        case' refine_1 =>
          have h2 := of_decide_eq_true h2
          walk_at "mm"
          rw [decide_eq_false (show ¬ i < ps.length from fun z => h1 ⟨h2, z⟩)]
        all_goals walk_at "mm"
        all_goals refine ⟨⟨shP (by omega), shP (by omega)⟩, ?_⟩
      all_goals (
        refine hH.of ?_
        walk_at "mm"
        have fin : ∀ x4 x5 x6 x7 s3, Shr s3 (s.pn m2) → N [some .pen, some (rowT ps), some (.lst (ps.map pr)), some (.int (ps.length : Nat)), x4, x5, x6, x7] s3 := fun x4 x5 x6 x7 s3 h => k' _ _ ⟨m2, x4, x5, x6, x7, h, by rw [List.length_append, List.length_singleton]; omega, by rw [List.length_append, List.length_singleton]; omega, rfl⟩
        clear k'
        by_cases h3 : 0 ≤ i ∧ i ≤ ps.length
        case' neg =>
          refine hM.of ⟨ps, i, by omega, .inr ⟨j, rfl, ?_⟩⟩
          rw [if_neg h3]
          refine ⟨.tup [.str "place", .int i], .inr (.inl ⟨_, rfl, rfl⟩), ?_⟩
          walk_at "mm"
          refine hIte.by (fun h2 => ?_) fun h2 => ?_
          case' refine_1 =>
            have h2 := of_decide_eq_true h2
            walk_at "mm"
            rw [decide_eq_false (show ¬ i ≤ ps.length from fun z => h3 ⟨h2, z⟩)]
          all_goals walk_at "mm"
          all_goals refine ⟨⟨shP (by omega), shP (by omega)⟩, ?_⟩
          all_goals exact fin _ _ _ _ _ sh2
        by_cases h4 : i ≤ j ∧ j ≤ ps.length
        case' neg =>
          refine hM.of ⟨ps, i, by omega, .inr ⟨j, rfl, ?_⟩⟩
          rw [if_pos h3, if_neg h4]
          refine ⟨.tup [.str "place", .int j], .inr (.inl ⟨_, rfl, rfl⟩), ?_⟩
          walk_at "mm"
          rw [decide_eq_true h3.1]
          walk_at "mm"
          rw [decide_eq_true h3.2]
          walk_at "mm"
          refine hIte.by (fun h2 => ?_) fun h2 => ?_
          case' refine_1 =>
            have h2 := of_decide_eq_true h2
            walk_at "mm"
            rw [decide_eq_false (show ¬ j ≤ ps.length from fun z => h4 ⟨h2, z⟩)]
          all_goals walk_at "mm"
          all_goals refine ⟨⟨shP (by omega), shP (by omega)⟩, ?_⟩
          all_goals exact fin _ _ _ _ _ sh2
        refine hM.of ⟨ps, i, by omega, .inr ⟨j, rfl, ?_⟩⟩
        rw [if_pos h3, if_pos h4]
        intro y hy
        walk_at "mm"
        rw [decide_eq_true h3.1]
        walk_at "mm"
        rw [decide_eq_true h3.2]
        walk_at "mm"
        rw [decide_eq_true h4.1]
        walk_at "mm"
        rw [decide_eq_true h4.2]
        walk_at "mm"
        have hb : ∀ q ∈ btw ps i j, q ∈ ps := fun q hq => List.mem_of_mem_take (List.mem_of_mem_drop hq)
        refine hM.of ⟨_, btw ps i j, rfl, .inr ⟨y, rfl, S.put_same _ _ _⟩, by unfold btw; rw [List.length_drop, List.length_take]; omega, ?_⟩
        walk_at "mm"
        have hbo : ∀ q ∈ btw ps i j, -B40 ≤ q.1 ∧ q.1 ≤ B40 ∧ nameB (.str q.2) = true := fun q hq => hr.o.1 q (hb q hq)
        rw [cut_both (by omega) (by omega), ← List.map_take, ← List.map_drop, show (ps.take j.toNat).drop i.toNat = btw ps i j from rfl, pr_dats]
        simp only [Option.map_some]
        refine ⟨⟨pr_sh b40 hbo, pr_sh b40 hbo⟩, ?_⟩
        rw [PyData.eqv, pr_eqv b40 hbo]
        walk_at "mm"
        exact fin _ _ _ _ _ ((Shr.put hy).trans sh2))
    · rintro τ s' ⟨n, x4, x5, x6, x7, sh, hn', hj, rfl⟩
      have hb : btw ps 0 ps.length = ps := by unfold btw; simp
      unfold rowT
      walk_at "mm"
      refine hM.of ⟨ps, 0, by omega, .inr ⟨ps.length, rfl, ?_⟩⟩
      rw [if_pos ⟨by omega, by omega⟩, if_pos ⟨by omega, by omega⟩]
      intro y hy
      walk_at "mm"
      rw [hb]
      refine ⟨by rw [List.length_map]; omega, ?_⟩
      refine hM.of ⟨ps, 0, by omega, .inr ⟨ps.length, rfl, ?_⟩⟩
      rw [if_pos ⟨by omega, by omega⟩, if_pos ⟨by omega, by omega⟩]
      intro y2 hy2
      rw [hb]
      walk_at "mm"
      refine hM.of ⟨_, ps, rfl, .inr ⟨y2, rfl, S.put_same _ _ _⟩, by omega, ?_⟩
      walk_at "mm"
      rw [pr_dats]
      simp only [Option.map_some]
      refine ⟨⟨pr_sh b40 hr.o.1, pr_sh b40 hr.o.1⟩, ?_⟩
      rw [PyData.eqv, pr_eqv b40 hr.o.1]
      rw [List.length_nil] at hj
      exact ⟨s.pn n, (Shr.put hy2).trans ((Shr.put hy).trans sh), k n (by omega)⟩
theorem ok_placer (T : Txt K w mg cl base) : CalM P w K mg base cl 12 "_law_places_right" F_placer [] := calOfC T.d_placer (fun _ _ _ => .nil) (fn_placer T)
end
end M04
namespace M04
open PySem PySem.Spec PyProof.Rows L2 Tw Mr
local macro_rules | `(tactic| walk_at "mm") => `(tactic| simp -implicitDefEqProofs only [↓Mr.hold_cM, ↓Mr.hold_ite, ↓Mr.hold_lc, Mr.hIte_false, ↓Mr.startT.eq_1, ↓Mr.endsM.eq_1, ↓Mr.fSeq.eq_1, ↓Mr.fSkip.eq_1, ↓Mr.fRet.eq_1, ↓Mr.fSet.eq_1, ↓Mr.fIfS.eq_1, ↓Mr.gN.eq_1, ↓Mr.xk, ↓Mr.fVar.eq_1, ↓Mr.fC.eq_1, ↓Mr.f2.eq_1, ↓Mr.g2.eq_1, ↓Mr.kB.eq_1, ↓Mr.fTest.eq_1, ↓Mr.fTru.eq_1, ↓Mr.fOr.eq_1, ↓Mr.fNot.eq_1, ↓Mr.fUn.eq_1, ↓Mr.onO.eq_1, Mr.onB_bl, ↓Mr.fNil.eq_1, ↓Mr.fCons.eq_1, ↓Mr.fLst.eq_1, ↓Mr.fTup.eq_1, ↓Mr.fDct0.eq_1, Mr.reprX, Mr.S.datX, Mr.T.datX, Mr.datsX, Mr.datsK, Mr.kD, ↓Mr.fCB.eq_1, ↓Mr.fCall.eq_1, ↓Mr.fMk.eq_1, ↓Mr.fMt.eq_1, ↓Mr.fMtK.eq_1, ↓Mr.fErr.eq_1, Mr.addO, Mr.intO, Mr.gtO, Mr.eqO, Mr.neO, Mr.negO, Mr.ixO, Mr.lenO, Int.cast_ofNat_Int, Mr.isnBO, Mr.gInOwn, Mr.strLO, Mr.tupO, Mr.S.pn_on, Mr.S.pn_pn, ↓Mr.fLc.eq_1, ↓Mr.iSeq.eq_1, Mr.S.its?, Mr.okAt, Mr.wipeT, Option.map_some, ↓Mr.gEqOwn.eq_1, Bool.true_xor, Mr.S.lst?, Mr.S.seq?, Mr.S.ty?, Mr.S.obj?, Mr.S.dat, Mr.T.dat, Mr.dats, Mr.atI_0, PyData.eqv, PyData.eqvAll, Bool.and_true, Bool.true_and, beq_self_eq_true, Bool.and_self, decide_true, Mr.okC, List.map_cons, List.map_nil, List.length_cons, List.length_nil, List.cons_append, List.nil_append, List.append_nil, List.replicate_succ, List.replicate_zero, List.getElem?_cons_zero, List.getElem?_cons_succ, List.set_cons_zero, List.set_cons_succ, List.getD_cons_zero, L2.CPow, Int.reduceToNat, Int.reducePow, Int.reduceAbs, Int.reduceLE, Int.reduceLT, Int.reduceSub, Int.reduceAdd, Int.reduceNeg, Int.reduceMul, Int.reduceEq, Nat.reducePow, Nat.reduceSub, Nat.reduceAdd, Nat.reduceLeDiff, Nat.reduceLT, Nat.reduceEqDiff, Nat.zero_add, true_and, and_true, ↓reduceIte, Bool.not_true, List.zip_cons_cons, List.zip_nil_right, M04.lkA_held, M04.insL, M04.excL, List.mem_cons, List.not_mem_nil, or_false, or_true, true_or, false_or, reduceCtorEq])
def F_memr : FD := fun ts s Q _ => ∃ ps : List Pr, ts = [.pen, rowT ps, .lst (ps.map pr)] ∧ Rd ps ∧ s.pen ≤ 800000 ∧ Q (.bl true) (s.pn (s.pen + 1))
def F_compd : FD := fun ts s Q _ => ∃ ps : List Pr, ts = [.pen, rowT ps, .lst (ps.map pr)] ∧ Rd ps ∧ s.pen ≤ 800000 ∧ ∀ n, n ≤ s.pen + 60 → Q (.bl true) (s.pn n)
theorem oth : nameB (.str (Str.ofString "other")) = true := by decide +kernel
theorem mem_rks (h : Int) (ps : List Pr) : decide (h ∈ rks ps) = decide (0 < ((cntR h ps : Nat) : Int)) := by
  refine decide_eq_decide.mpr ?_
  rw [cnt_rks, ← List.count_pos_iff]
  omega
theorem in_int (ps : List Pr) {h : Int} (r : rankB (.int h) = true) : inB ps (.int h) = decide (0 < ((cntR h ps : Nat) : Int)) := by
  show (rankB (.int h) && decide (h ∈ rks ps)) = _
  rw [r, Bool.true_and, mem_rks]
theorem shB3 (a b c : Bool) : SeqAt.shaped (.list [.bool a, .bool b, .bool c]) = true := sh (by simp [niceD, niceAll]) (by simp [PyData.depth, PyData.depthAll])
theorem v01 : Vals [Mr.T.int 0, .int 1] [(0, ""), (1, "")] := ⟨rfl, fun x hx => by
  simp only [List.mem_cons, List.not_mem_nil, or_false] at hx
  rcases hx with rfl | rfl
  all_goals exact .inl rfl⟩
theorem lc_none {ok : S → Prop} {g : FG} {tt : FT} {te : FE} {τ : Mr.Env} {acc : List Mr.T} {s : S} {Q : List Mr.T → S → Prop} : ∀ ts : List Mr.T, (∀ t ∈ ts, ∀ Q' : Mr.Env → Bool → S → Prop, (∀ τ1, Q' τ1 false s) → g t τ s fun τ1 s1 => tt τ1 s1 (Q' τ1) noX) → ok s → acc.length < 1000000 → Q acc s → lcT ok g tt te τ ts acc s Q
  | [], _, ho, _, k => ⟨ho, k⟩
  | t :: ts, h, ho, hl, k => ⟨ho, hl, (by
      have := h t List.mem_cons_self (fun τ1 b s2 => if b = true then te τ1 s2 (fun y s3 => lcT ok g tt te τ ts (acc ++ [y]) s3 Q) noX else lcT ok g tt te τ ts acc s2 Q) (fun _ => by
        show lcT ok g tt te τ ts acc s Q
        exact lc_none ts (fun t ht => h t (List.mem_cons_of_mem _ ht)) ho hl k)
      exact this)⟩
theorem Rd.rk {ps : List Pr} (h : Rd ps) {p : Pr} (hp : p ∈ ps) : rankB (.int p.1) = true := by
  have := h.o.1 p hp
  exact of_rank (by unfold B40 at this; unfold G; omega) (by unfold B40 at this; unfold G; omega)
theorem Rd.bare {ps : List Pr} (h : Rd ps) : asc (ps.map fun p => (p.1, "")) := by
  unfold asc
  rw [List.pairwise_map]
  exact h.o.2
theorem Rd.vals {ps : List Pr} (h : Rd ps) : Vals (ps.map fun p => Mr.T.int p.1) (ps.map fun p => (p.1, "")) := by
  refine ⟨?_, fun x hx => ?_⟩
  · rw [List.map_map, List.map_map]
    exact List.map_congr_left fun p hp => toP_int (h.rk hp)
  · obtain ⟨q, hq, rfl⟩ := List.mem_map.mp hx
    exact .inl rfl
theorem rks_bare (ps : List Pr) : rks ps = rks (ps.map fun p => (p.1, Str.ofString "")) := by
  unfold rks
  rw [List.map_map]
  rfl
theorem rks_len {kept ps : List Pr} (h : kept.Sublist ps) : decide (rks kept = rks ps) = decide (kept.length = ps.length) := by
  refine decide_eq_decide.mpr ⟨fun e => ?_, fun e => by rw [h.eq_of_length e]⟩
  have := congrArg List.length e
  unfold rks at this
  rwa [List.length_map, List.length_map] at this
theorem wth_sub {kept ps : List Pr} (h : kept.Sublist ps) : wthB kept ps = true := wth_iff.mpr fun i => by
  rw [cnt_rks, cnt_rks]
  exact (h.map _).count_le i
theorem wth_len {kept ps : List Pr} (h : kept.Sublist ps) (ha : asc ps) : wthB ps kept = decide (kept.length = ps.length) := by
  rw [← rks_len h]
  refine Bool.eq_iff_iff.mpr ?_
  rw [decide_eq_true_eq, wth_iff]
  constructor
  · exact fun z => rks_eq (List.Pairwise.sublist h ha) ha fun i => Nat.le_antisymm (wth_iff.mp (wth_sub h) i) (z i)
  · intro z i
    rw [cnt_rks, cnt_rks, z]
    exact Nat.le_refl _
def fstT : Mr.T → Mr.T
  | .tup [x, _] => x
  | t => t
theorem fst_map (ps : List Pr) : (ps.map pr).map fstT = ps.map fun p => Mr.T.int p.1 := by
  rw [List.map_map]
  rfl
theorem int_ok {i : Int} (h : i.natAbs ≤ 10 ^ 30) : okD (.int i) = true ∧ niceX (.int i) = true ∧ (PyData.int i).depth ≤ 5 ∧ wX (.int i) ≤ 500 := by
  refine ⟨rfl, ?_, by simp [PyData.depth], ?_⟩
  · rw [niceX]
    exact decide_eq_true (Nat.lt_of_le_of_lt h (by decide +kernel))
  · rw [wX]
    decide
section
variable {w : World} {K : PySem.W.Frag} {mg : Str → Option Value} {base : Heap} {cl : CL}
theorem fn_memr (T : Txt K w mg cl base) : ∀ {x : Str} {f : Addr} {fd : FuncData}, C8.Fun K x "_law_members_right" s_memr f fd → FnG P w K mg base 21 f fd ["_law_pen_here", "_law_row", "_law_pairs_here"] (spM K cl F_memr) := by
  refine fnD (k := 20) (N := N_memr) sc_memr ?len (fun f cdv A out s H E hr => (jss_cons (js_set (i := 3) sc_memr.nd rfl (Or.inl rfl) (je_call Tw.tk_cx (ok_pick T) hr (by decide) (by rfl) (ja_cons (je_var 0) (ja_cons (je_op o_add (je_lc (own := [("_law_pair", 4)]) (by rfl) sc_memr.nd (ji_seq (je_var 2)) (blkOk_by (own := [("_law_pair", 4)]) (N := N_memr) (sc := C8.fnScope s_memr) (by decide +kernel)) (fun _ _ _ _ _ => (pg_name (i := 4) sc_memr.nd rfl (Or.inl rfl))) (gt_name (i := 4) (by decide))  (fun _ _ _ _ _ => (je_ix (je_var 4) je_int (fun _ _ => rfl)))) (je_lst (ja_cons je_int (ja_cons je_int (ja_cons (je_neg je_int) (ja_cons (je_op o_pow je_int je_int) ja_nil)))))) ja_nil))))
    (jss_cons (js_set (i := 5) sc_memr.nd rfl (Or.inl rfl) (je_cmp o_gt (je_call Tw.tk_cx (ok_lnum T) hr (by decide) (by rfl) (ja_cons (je_var 2) (ja_cons (je_var 3) ja_nil))) je_int (nomark _)))
    (jss_cons (js_set (i := 6) sc_memr.nd rfl (Or.inl rfl) (je_lst (ja_cons (je_cmp (o_inOwn (mt_Rowin T) hr (by decide)) (je_var 3) (je_var 1) (by rfl)) (ja_cons (je_cmp (o_inOwn (mt_Rowin T) hr (by decide)) (je_mk true Tw.tk_cx (mk_Iinit T) hr (by decide) (by rfl) (ja_cons (je_var 3) (ja_cons je_str ja_nil))) (je_var 1) (by rfl)) (ja_cons (je_cmp (o_inOwn (mt_Rowin T) hr (by decide)) (je_op o_add (je_var 3) (je_op o_pow je_int je_int)) (je_var 1) (by rfl)) ja_nil)))))
    (jss_cons (js_if (jt_cmp (o_ne hr) (je_var 6) (je_lst (ja_cons (je_var 5) (ja_cons (je_var 5) (ja_cons (je_cmp o_gt (je_call Tw.tk_cx (ok_lnum T) hr (by decide) (by rfl) (ja_cons (je_var 2) (ja_cons (je_op o_add (je_var 3) (je_op o_pow je_int je_int)) ja_nil))) je_int (nomark _)) ja_nil)))) (nomark _)) (jss_one (js_ret je_bl)) jss_nil)
    (jss_cons (js_if (JW.jt (jw_or (jt_cmp (o_ne hr) (je_mtK0 Tw.tk_cx (mtK_Rownumber_0_rank T) hr (by decide) (je_var 1)  (jk_cons (je_var 3) jk_nil)) (je_call Tw.tk_cx (ok_lnum T) hr (by decide) (by rfl) (ja_cons (je_var 2) (ja_cons (je_var 3) ja_nil))) (nomark _)) (jw_or1 (jt_cmp (o_ne hr) (je_mt Tw.tk_cx (one_met (mt_Rownumber T)) hr (by decide) (je_var 1) (ja_cons (je_op o_pow je_int je_int) ja_nil)) je_int (nomark _))))) (jss_one (js_ret je_bl)) jss_nil)
    (jss_cons (js_set (i := 7) sc_memr.nd rfl (Or.inr rfl) (je_mk true Tw.tk_cx (mk_Rowinit T) hr (by decide) (by rfl) (ja_cons (je_lst (ja_cons je_int (ja_cons je_int ja_nil))) ja_nil)))
    (jss_cons (js_set (i := 8) sc_memr.nd rfl (Or.inl rfl) (je_lst (ja_cons je_bl (ja_cons je_bl (ja_cons je_non (ja_cons je_str (ja_cons je_str (ja_cons (je_tup (ja_cons je_int ja_nil)) (ja_cons (je_lst (ja_cons je_int ja_nil)) (ja_cons je_dct0 (ja_cons (je_op o_pow je_int je_int) (ja_cons (je_tup (ja_cons (je_var 3) ja_nil)) (ja_cons je_str (ja_cons (je_mk true Tw.tk_cx (mk_Rowinit T) hr (by decide) (by rfl) (ja_cons (je_lst (ja_cons (je_var 3) ja_nil)) ja_nil)) (ja_cons (je_err T.x_BadPlace T.oex_BadPlace hr (by rfl) T.mx_BadPlace (ja_cons je_int ja_nil)) ja_nil)))))))))))))))
    (jss_one (js_ret (je_cmp (o_eq hr) (je_lcIf (own := [("_law_thing", 9)]) (by rfl) sc_memr.nd (ji_seq (je_var 8)) (blkOk_by (own := [("_law_thing", 9)]) (N := N_memr) (sc := C8.fnScope s_memr) (by decide +kernel)) (fun _ _ _ _ _ => (pg_name (i := 9) sc_memr.nd rfl (Or.inl rfl))) (gt_name (i := 9) (by decide)) (fun _ _ _ _ _ => (JW.jt (jw_or (jt_cmp (o_inOwn (mt_Rowin T) hr (by decide)) (je_var 9) (je_var 7) (by rfl)) (jw_or1 (jt_cmp (o_inOwn (mt_Rowin T) hr (by decide)) (je_var 9) (je_var 1) (by rfl)))))) (fun _ _ _ _ _ => (je_var 9))) (je_lst ja_nil) (nomark _)))))))))))) ?sem
  case len => rintro ts s Q E ⟨_, rfl, _⟩; rfl
  case sem =>
    rintro ts s Q E ⟨ps, rfl, hr, hn, k⟩
    have rl := hr.l
    unfold rowT
    walk_at "mm"
    refine lc_map (fun t => match t with | .tup [x, _] => x | t => t) (fun t ht Q' k2 => ?_) (by simp; omega) ?_ trivial
    · obtain ⟨p, _, rfl⟩ := List.mem_map.mp ht
      unfold pr
      walk_at "mm"
      exact k2
    rw [List.nil_append, List.map_map, show ((fun t : Mr.T => match t with | .tup [x, _] => x | t => t) ∘ pr) = fun p => Mr.T.int p.1 from rfl]
    walk_at "mm"
    refine ⟨by rw [List.length_map]; omega, ?_⟩
    refine hM.of ⟨_, rfl, by omega, _, rfl, by simp, by simp; omega, fun t ht => ?_⟩
    obtain ⟨h, rfl, h1, h2⟩ : ∃ h : Int, t = .int h ∧ -B40 ≤ h ∧ h ≤ B40 := by
      rcases List.mem_append.mp ht with ht | ht
      · obtain ⟨p, hp, rfl⟩ := List.mem_map.mp ht
        exact ⟨_, rfl, (hr.o.1 p hp).1, (hr.o.1 p hp).2.1⟩
      · simp only [List.mem_cons, List.not_mem_nil, or_false] at ht
        rcases ht with rfl | rfl | rfl | rfl
        all_goals exact ⟨_, rfl, by decide +kernel, by decide +kernel⟩
    generalize s.pn (s.pen + 1) = s2 at k
    have hB : B40 = 100000000000000000000000000000 + 1000000000 * 100 := rfl
    have r1 : rankB (.int h) = true := of_rank (by unfold G; omega) (by unfold G; omega)
    have r2 : rankB (.int (h + 100000000000000000000)) = true := of_rank (by unfold G; omega) (by unfold G; omega)
    walk_at "mm"
    refine hM.of ⟨ps, h, rfl, by omega, ?_⟩
    walk_at "mm"
    refine hM.of ⟨ps, .int h, rfl, by omega, .inr ⟨.inl rfl, ?_⟩⟩
    walk_at "mm"
    refine fun x hx => mk_item hx ⟨r1, oth⟩ ?_
    unfold itm
    walk_at "mm"
    refine hM.of ⟨ps, itm (h, "other"), rfl, by omega, .inl ⟨_, rfl, ?_⟩⟩
    walk_at "mm"
    refine hM.of ⟨ps, .int (h + 100000000000000000000), rfl, by omega, .inr ⟨.inl rfl, ?_⟩⟩
    walk_at "mm"
    refine hM.of ⟨ps, h + 100000000000000000000, rfl, by omega, ?_⟩
    walk_at "mm"
    rw [in_int ps r1, in_int ps r2, mem_rks]
    refine ⟨⟨shB3 _ _ _, shB3 _ _ _⟩, ?_⟩
    simp only [beq_self_eq_true, Bool.and_true]
    walk_at "mm"
    refine hM.of ⟨ps, h, rfl, by omega, ?_⟩
    walk_at "mm"
    refine hM.of ⟨ps, h, rfl, by omega, ?_⟩
    walk_at "mm"
    rw [show (eqs h ps).length = cntR h ps from rfl, decide_eq_true rfl]
    walk_at "mm"
    refine hM.of ⟨ps, _, rfl, by omega, ?_⟩
    walk_at "mm"
    rw [show (eqs 100000000000000000000000000000000000000000000000000000000000 ps).length = 0 from cnt_not (fun p hp => by have := hr.o.1 p hp; omega)]
    walk_at "mm"
    refine fun z hz => mk_rowV (ps := [(0, ""), (1, "")]) (.inl rfl) v01 hz (by decide) (by unfold asc; decide) ?_
    unfold rowT
    walk_at "mm"
    refine fun z2 hz2 => mk_rowV (ps := [(h, "")]) (.inl rfl) ⟨by rw [List.map_singleton, toP_int r1]; rfl, fun x hx => by rw [List.mem_singleton] at hx; exact .inl (by rw [hx]; rfl)⟩ hz2 (by simp) (by simp [asc]) ?_
    unfold rowT
    walk_at "mm"
    generalize hodd : [Mr.T.bl true, Mr.T.bl false, Mr.T.non, Mr.T.str (Str.ofString "0"), Mr.T.str (Str.ofString ""), Mr.T.tup [Mr.T.int 0], Mr.T.lst [Mr.T.int 0], Mr.T.dct [], Mr.T.int 100000000000000000000000000000000000000000000000000000000000, Mr.T.tup [Mr.T.int h], Mr.T.str (Str.ofString "1"), Mr.T.obj 8 [(Str.ofString "held", Mr.T.lst [itm (h, Str.ofString "")])], Mr.T.err 4 [(Str.ofString "at", Mr.T.int 1)]] = odd
    have ho : ∀ t ∈ odd, oddT t ∧ ∀ qs, inB qs t = false := by
      intro t ht
      rw [← hodd] at ht
      simp only [List.mem_cons, List.not_mem_nil, or_false] at ht
      rcases ht with rfl | rfl | rfl | rfl | rfl | rfl | rfl | rfl | rfl | rfl | rfl | rfl | rfl
      all_goals refine ⟨by first | exact .inl rfl | exact .inr (.inl ⟨_, rfl⟩) | exact .inr (.inr ⟨_, rfl⟩), fun qs => ?_⟩
      all_goals first
        | rfl
        | (show (rankB (.int 100000000000000000000000000000000000000000000000000000000000) && _) = false
           rw [show rankB (.int 100000000000000000000000000000000000000000000000000000000000) = false by decide +kernel]
           rfl)
    have hol : odd.length ≤ 20 := by rw [← hodd]; simp
    clear hodd
    refine lc_none odd (fun t ht Q' k2 => ?_) trivial (by decide) ?_
    · obtain ⟨o1, o2⟩ := ho t ht
      walk_at "mm"
      refine hM.of ⟨[(0, ""), (1, "")], t, rfl, by decide, .inr ⟨o1, ?_⟩⟩
      rw [o2]
      walk_at "mm"
      refine hM.of ⟨ps, t, rfl, by omega, .inr ⟨o1, ?_⟩⟩
      rw [o2]
      exact k2 _
    walk_at "mm"
    exact ⟨⟨sh rfl (by decide +kernel), sh rfl (by decide +kernel)⟩, shQ.of k⟩
theorem ok_memr (T : Txt K w mg cl base) : CalM P w K mg base cl 21 "_law_members_right" F_memr [] := calOf T.d_memr (fun _ _ _ => .nil) (fn_memr T)
theorem fn_compd (T : Txt K w mg cl base) : ∀ {x : Str} {f : Addr} {fd : FuncData}, C8.Fun K x "_law_compared" s_compd f fd → FnG P w K mg base 21 f fd ["_law_pen_here", "_law_row", "_law_pairs_here"] (spM K cl F_compd) := by
  refine fnD (k := 20) (N := N_compd) sc_compd ?len (fun f cdv A out s H E hr => (jss_cons (js_set (i := 3) sc_compd.nd rfl (Or.inl rfl) (je_mk true Tw.tk_cx (mk_Rowinit T) hr (by decide) (by rfl) (ja_cons (je_lc (own := [("_law_pair", 4)]) (by rfl) sc_compd.nd (ji_seq (je_var 2)) (blkOk_by (own := [("_law_pair", 4)]) (N := N_compd) (sc := C8.fnScope s_compd) (by decide +kernel)) (fun _ _ _ _ _ => (pg_name (i := 4) sc_compd.nd rfl (Or.inl rfl))) (gt_name (i := 4) (by decide))  (fun _ _ _ _ _ => (je_ix (je_var 4) je_int (fun _ _ => rfl)))) ja_nil)))
    (jss_cons (js_setLcIf (i := 5) (own := [("_law_pair", 4)]) (by rfl) sc_compd.nd rfl rfl (sw_true rfl rfl rfl (by decide +kernel)) (ji_seq (je_var 2)) (blkOk_by (own := [("_law_pair", 4)]) (N := N_compd) (sc := C8.fnScope s_compd) (by decide +kernel)) (fun _ _ _ _ _ => (pg_name (i := 4) sc_compd.nd rfl (Or.inl rfl))) (gt_name (i := 4) (by decide)) (fun _ _ _ _ _ => (jt_cmp o_gt (je_call L2.takes0 (ok_draw T) hr (by decide) (by rfl) (ja_cons (je_var 0) (ja_cons je_int ja_nil))) je_int (nomark _))) (fun _ _ _ _ _ => (je_var 4)))
    (jss_cons (js_set (i := 6) sc_compd.nd rfl (Or.inl rfl) (je_mk true Tw.tk_cx (mk_Rowinit T) hr (by decide) (by rfl) (ja_cons (je_call Tw.tk_cx (ok_values T) hr (by decide) (by rfl) (ja_cons (je_var 0) (ja_cons (je_var 5) ja_nil))) ja_nil)))
    (jss_cons (js_if (JW.jt (jw_or (jt_not (jt_cmp (o_eqOwn T.wc (mt_Roweq T) T.nf_Row hr (by decide)) (je_var 1) (je_var 3) (nomark _))) (jw_or (jt_cmp (o_ne hr) (je_cmp (o_eqOwn T.wc (mt_Roweq T) T.nf_Row hr (by decide)) (je_var 6) (je_var 1) (nomark _)) (je_cmp (o_eq hr) (je_b c_len (by rfl) T.n_len (by decide +kernel) (ja_cons (je_var 5) ja_nil)) (je_b c_len (by rfl) T.n_len (by decide +kernel) (ja_cons (je_var 2) ja_nil)) (nomark _)) (nomark _)) (jw_or1 (jt_not (jt_val (je_mtK0 Tw.tk_cx (mtK_Rowwithin_0_other T) hr (by decide) (je_var 6)  (jk_cons (je_var 1) jk_nil)))))))) (jss_one (js_ret je_bl)) jss_nil)
    (jss_cons (js_if (JW.jt (jw_or (jt_cmp (o_ne hr) (je_b (c_reprX hr) (by rfl) T.n_repr (by decide +kernel) (ja_cons (je_mt Tw.tk_cx (one_met (mt_Rowwithin T)) hr (by decide) (je_var 1) (ja_cons (je_var 6) ja_nil)) ja_nil)) (je_b (c_reprX hr) (by rfl) T.n_repr (by decide +kernel) (ja_cons (je_cmp (o_eq hr) (je_b c_len (by rfl) T.n_len (by decide +kernel) (ja_cons (je_var 5) ja_nil)) (je_b c_len (by rfl) T.n_len (by decide +kernel) (ja_cons (je_var 2) ja_nil)) (nomark _)) ja_nil)) (nomark _)) (jw_or1 (jt_cmp o_isnB (je_mt Tw.tk_cx (one_met (mt_Rowwithin T)) hr (by decide) (je_var 1) (ja_cons (je_var 3) ja_nil)) je_bl (nomark _))))) (jss_one (js_ret je_bl)) jss_nil)
    (jss_cons (js_set (i := 7) sc_compd.nd rfl (Or.inl rfl) (je_lst (ja_cons je_non (ja_cons (je_var 2) (ja_cons (je_lc (own := [("_law_pair", 4)]) (by rfl) sc_compd.nd (ji_seq (je_var 2)) (blkOk_by (own := [("_law_pair", 4)]) (N := N_compd) (sc := C8.fnScope s_compd) (by decide +kernel)) (fun _ _ _ _ _ => (pg_name (i := 4) sc_compd.nd rfl (Or.inl rfl))) (gt_name (i := 4) (by decide))  (fun _ _ _ _ _ => (je_ix (je_var 4) je_int (fun _ _ => rfl)))) (ja_cons (je_bt c_tup (by rfl) T.n_tuple (by decide +kernel) (ja_cons (je_var 2) ja_nil)) (ja_cons je_int (ja_cons (je_bt (c_strL hr) (by rfl) T.n_str (by decide +kernel) (ja_cons (je_mt0 Tw.tk_cx (one_met (mt_Rowranks T)) hr (by decide) (je_var 1)) ja_nil)) (ja_cons (je_mk true Tw.tk_cx (mk1_Iinit T) hr (by decide) (by rfl) (ja_cons je_int ja_nil)) ja_nil)))))))))
    (jss_one (js_ret (je_cmp (o_eq hr) (je_lcIf (own := [("_law_thing", 8)]) (by rfl) sc_compd.nd (ji_seq (je_var 7)) (blkOk_by (own := [("_law_thing", 8)]) (N := N_compd) (sc := C8.fnScope s_compd) (by decide +kernel)) (fun _ _ _ _ _ => (pg_name (i := 8) sc_compd.nd rfl (Or.inl rfl))) (gt_name (i := 8) (by decide)) (fun _ _ _ _ _ => (jt_cmp (o_eqOwn T.wc (mt_Roweq T) T.nf_Row hr (by decide)) (je_var 1) (je_var 8) (nomark _))) (fun _ _ _ _ _ => (je_var 8))) (je_lst ja_nil) (nomark _))))))))))) ?sem
  case len => rintro ts s Q E ⟨_, rfl, _⟩; rfl
  case sem =>
    rintro ts s Q E ⟨ps, rfl, hr, hn, k⟩
    have rl := hr.l
    unfold rowT
    walk_at "mm"
    refine lc_map (fun t => match t with | .tup [x, _] => x | t => t) (fun t ht Q' k2 => ?_) (by simp; omega) ?_ trivial
    · obtain ⟨p, _, rfl⟩ := List.mem_map.mp ht
      unfold pr
      walk_at "mm"
      exact k2
    rw [List.nil_append, List.map_map, show ((fun t : Mr.T => match t with | .tup [x, _] => x | t => t) ∘ pr) = fun p => Mr.T.int p.1 from rfl]
    walk_at "mm"
    refine fun z hz => mk_rowV (ps := ps.map fun p => (p.1, "")) (.inl rfl) hr.vals hz (by rw [List.length_map]; omega) hr.bare ?_
    unfold rowT
    walk_at "mm"
    refine lc_ind (fun pre post acc s2 => ∃ (n : Nat) (as bs kept : List Pr), s2 = s.pn n ∧ n ≤ s.pen + as.length ∧ pre = as.map pr ∧ post = bs.map pr ∧ ps = as ++ bs ∧ acc = kept.map pr ∧ kept.Sublist as) ⟨s.pen, [], ps, [], rfl, Nat.le_refl _, rfl, rfl, rfl, rfl, .slnil⟩ (fun _ _ _ _ _ => trivial) (by simp; omega) ?_ ?_ ?_
    · rintro pre t post acc s2 N2 e3 ⟨n, as, bs, kept, rfl, hn2, rfl, ep3, e4, rfl, hk⟩ k3
      obtain ⟨p, bs, rfl, rfl, rfl⟩ := List.map_eq_cons_iff.mp ep3.symm
      have l3 : as.length + 1 + bs.length = ps.length := by rw [e4, List.length_append, List.length_cons]; omega
      walk_at "mm"
      refine use_drawH (by decide) (by decide) (by simp only [S.pn_pen]; omega) fun j j0 j1 => ?_
      walk_at "mm"
      refine hIte.by (fun h => ?_) fun h => ?_
      · exact k3 _ _ ⟨n + 1, as ++ [p], bs, kept ++ [p], rfl, by rw [List.length_append, List.length_singleton]; omega, by rw [List.map_append]; rfl, rfl, by rw [e4, List.append_assoc]; rfl, by rw [List.map_append]; rfl, hk.append (.refl _)⟩
      · exact k3 _ _ ⟨n + 1, as ++ [p], bs, kept, rfl, by rw [List.length_append, List.length_singleton]; omega, by rw [List.map_append]; rfl, rfl, by rw [e4, List.append_assoc]; rfl, rfl, hk.trans (List.sublist_append_left _ _)⟩
    · rintro pre post acc s2 ⟨n, as, bs, kept, rfl, hn2, rfl, rfl, e4, rfl, hk⟩
      have := hk.length_le
      simp; omega
    rintro acc s2 ⟨n, as, bs, kept, rfl, hn2, e6, e5, e4, rfl, hk⟩
    obtain rfl : bs = [] := List.map_eq_nil_iff.mp e5.symm
    rw [List.append_nil] at e4
    subst e4
    walk_at "mm"
    have kl := hk.length_le
    have ok : Rd kept := ⟨by omega, fun p hp => hr.o.1 p (hk.subset hp), List.Pairwise.sublist hk hr.o.2⟩
    have bk : okRow (ps.map fun p => (p.1, Str.ofString "")) := ⟨by rw [List.length_map]; omega, hr.bare⟩
    refine hM.of ⟨kept, B40, rfl, by omega, ok.o, by decide +kernel, by simp only [S.pn_pen]; omega, fun xs n2 hv hn3 => ?_⟩
    simp only [S.pn_pen] at hn3
    walk_at "mm"
    refine fun z2 hz2 => mk_rowV (ps := kept) (.inl rfl) hv hz2 (by omega) ok.o.2 ?_
    unfold rowT
    walk_at "mm"
    have hn4 : n2 ≤ s.pen + 60 := by omega
    generalize s.pn n = s2 at hz2
    refine hM.of ⟨ps, _, rfl, hr.row, .inl ⟨_, rfl, bk, ?_⟩⟩
    rw [decide_eq_true (rks_bare ps)]
    walk_at "mm"
    refine hM.of ⟨kept, _, rfl, ok.row, .inl ⟨ps, rfl, hr.row, ?_⟩⟩
    rw [rks_len hk]
    walk_at "mm"
    have ed : decide (((kept.map pr).length : Int) = (ps.map pr).length) = decide (kept.length = ps.length) := by
      rw [List.length_map, List.length_map]
      exact decide_eq_decide.mpr (by omega)
    rw [ed, decide_eq_true rfl]
    walk_at "mm"
    refine hM.of ⟨kept, ps, rfl, ok.row, hr.row, ?_⟩
    rw [show ((blks kept).all fun b => decide (b.2 ≤ cntR b.1 ps)) = true from wth_sub hk]
    walk_at "mm"
    refine hM.of ⟨ps, kept, rfl, hr.row, ok.row, ?_⟩
    rw [show ((blks ps).all fun b => decide (b.2 ≤ cntR b.1 kept)) = _ from wth_len hk hr.o.2]
    walk_at "mm"
    rw [ed]
    generalize decide (kept.length = ps.length) = b
    have rb : ∀ b : Bool, okR (.bool b) = true ∧ (PyData.bool b).showable = true ∧ (PyData.bool b).depth ≤ 60 ∧ (PyData.bool b).shown.length ≤ 1000000 := fun b => by
      cases b
      all_goals exact rpX (by decide +kernel) (by decide +kernel) (by decide +kernel) (by decide +kernel)
    refine ⟨rb b, rb b, ?_⟩
    rw [decide_eq_true rfl]
    walk_at "mm"
    refine hM.of ⟨ps, _, rfl, hr.row, bk, ?_⟩
    rw [show ((blks ps).all fun b => decide (b.2 ≤ cntR b.1 (ps.map fun p => (p.1, Str.ofString "")))) = true from wth_iff.mpr fun i => by rw [cnt_rks, cnt_rks, rks_bare]; exact Nat.le_refl _]
    walk_at "mm"
    refine lc_map fstT (fun t ht Q' k2 => ?_) (by simp; omega) ?_ trivial
    · obtain ⟨p, _, rfl⟩ := List.mem_map.mp ht
      unfold pr
      walk_at "mm"
      exact k2
    rw [List.nil_append, fst_map]
    walk_at "mm"
    refine hM.of ⟨ps, rfl, by omega, ?_⟩
    walk_at "mm"
    rw [show (ps.map fun p => Mr.T.int p.1) = (rks ps).map Mr.T.int by unfold rks; rw [List.map_map]; rfl, ints_dats]
    have hs := lst_rp (ds := (rks ps).map PyData.int) (fun d hd => by
      obtain ⟨i, hi, rfl⟩ := List.mem_map.mp hd
      obtain ⟨p, hp, rfl⟩ := List.mem_map.mp hi
      have := hr.o.1 p hp
      exact int_ok (by unfold B40 at this; omega)) (by unfold rks; rw [List.length_map, List.length_map]; omega)
    refine ⟨hs.2, ?_⟩
    refine fun x hx => mk_item hx ⟨by decide +kernel, name_nil⟩ ?_
    walk_at "mm"
    generalize hodd : [Mr.T.non, Mr.T.lst (ps.map pr), Mr.T.lst ((rks ps).map Mr.T.int), Mr.T.tup (ps.map pr), Mr.T.int 0, Mr.T.str (PyData.list ((rks ps).map PyData.int)).shown, itm (0, Str.ofString "")] = odd
    refine lc_none odd (fun t ht Q' k2 => ?_) trivial (by decide) ?_
    · rw [← hodd] at ht
      simp only [List.mem_cons, List.not_mem_nil, or_false] at ht
      rcases ht with rfl | rfl | rfl | rfl | rfl | rfl | rfl
      case' inr.inr.inr.inr.inr.inr => unfold itm
      all_goals walk_at "mm"
      all_goals refine hM.of ⟨ps, _, rfl, hr.row, .inr ⟨by first | exact .inl rfl | exact .inr ⟨(0, Str.ofString ""), rfl⟩, ?_⟩⟩
      all_goals exact k2 _
    walk_at "mm"
    exact ⟨⟨sh rfl (by decide +kernel), sh rfl (by decide +kernel)⟩, shQ.of (k _ hn4)⟩
theorem ok_compd (T : Txt K w mg cl base) : CalM P w K mg base cl 21 "_law_compared" F_compd [] := calOf T.d_compd (fun _ _ _ => .nil) (fn_compd T)
end
end M04
namespace M04
open PySem PySem.Spec PyProof.Rows L2 Tw Mr
local macro_rules | `(tactic| walk_at "mm") => `(tactic| simp -implicitDefEqProofs only [↓Mr.hold_cM, ↓Mr.hold_ite, ↓Mr.startT.eq_1, ↓Mr.fSet.eq_1, ↓Mr.xk, ↓Mr.fVar.eq_1, ↓Mr.fC.eq_1, ↓Mr.f2.eq_1, ↓Mr.g2.eq_1, ↓Mr.kB.eq_1, ↓Mr.fTest.eq_1, ↓Mr.fUn.eq_1, ↓Mr.onO.eq_1, ↓Mr.fNil.eq_1, ↓Mr.fCons.eq_1, ↓Mr.fTup.eq_1, ↓Mr.fCB.eq_1, ↓Mr.fCall.eq_1, Mr.intO, Mr.ltO, Mr.ixO, Mr.lenO, ↓Mr.fGThen.eq_1, ↓Mr.fGPl.eq_1, ↓Mr.fG0.eq_1, Mr.fldO, Mr.S.lst?, Mr.S.seq?, Mr.S.obj?, PyData.eqv, PyData.eqvAll, List.map_cons, List.map_nil, List.length_cons, List.length_nil, List.cons_append, List.nil_append, List.append_nil, List.replicate_succ, List.replicate_zero, List.getElem?_cons_zero, List.getElem?_cons_succ, List.set_cons_zero, List.set_cons_succ, Int.reduceToNat, Int.reducePow, Int.reduceAbs, Int.reduceLE, Int.reduceLT, Int.reduceSub, Int.reduceAdd, Int.reduceNeg, Int.reduceMul, Int.reduceEq, Nat.reducePow, Nat.reduceSub, Nat.reduceAdd, Nat.reduceLeDiff, Nat.reduceLT, Nat.reduceEqDiff, Nat.zero_add, Nat.add_one_sub_one, true_and, and_true, ↓reduceIte, M04.lkA_rank_name, M04.lkA_held, List.mem_cons, List.not_mem_nil, or_false, or_true, true_or, false_or, reduceCtorEq])
def G_Rowblocks : FGn := fun ts s Q => ∃ ps : List Pr, ts = [rowT ps] ∧ okRow ps ∧ Q ((blks ps).map blT) s
section
variable {w : World} {K : PySem.W.Frag} {mg : Str → Option Value} {base : Heap} {cl : CL}
theorem mgn_Rowblocks (T : Txt K w mg cl base) : MetGM P w K mg base cl 6 8 "blocks" G_Rowblocks := by
  refine metGF (k := 5) (N := N_Rowblocks) T.d_Rowblocks sc_Rowblocks ?len (fun f cdv A out s H pn hr => (jys_cons (jy_pl (js_set (i := 1) sc_Rowblocks.nd rfl (Or.inl rfl) je_int))
      (jys_cons (jy_wh owns_gcx (jt_cmp o_lt (je_var 1) (je_b c_len (by rfl) T.n_len (by decide +kernel) (ja_cons (je_fld T.fld_held (je_var 0)) ja_nil)) (nomark _)) (jys_cons (jy_pl (js_set (i := 2) sc_Rowblocks.nd rfl (Or.inl rfl) (je_call takes_gcx (ok_behind_block T) hr (by decide) (by rfl) (ja_cons (je_fld T.fld_held (je_var 0)) (ja_cons (je_var 1) (ja_cons (je_fld T.fld_rank (je_ix (je_fld T.fld_held (je_var 0)) (je_var 1) (fun _ _ => rfl))) ja_nil))))))
      (jys_cons (jy_yield (je_tup (ja_cons (je_fld T.fld_rank (je_ix (je_fld T.fld_held (je_var 0)) (je_var 1) (fun _ _ => rfl))) (ja_cons (je_op o_sub (je_var 2) (je_var 1)) ja_nil))))
      (jys_cons (jy_pl (js_set (i := 1) sc_Rowblocks.nd rfl (Or.inl rfl) (je_var 2)))
      jys_nil))))
      jys_nil))) ?sem
  case len => rintro ts s Q ⟨_, rfl, _⟩; rfl
  case sem =>
    rintro ts s Q ⟨ps, rfl, hp, k⟩
    unfold rowT
    walk_at "mm"
    refine whY_fuel (fun n o τ s' => ∃ (a : Nat) (x : Option Mr.T), s' = s ∧ τ = [some (rowT ps), some (.int (a : Int)), x] ∧ a ≤ ps.length ∧ n = ps.length - a ∧ o.length ≤ a ∧ o ++ (blks (ps.drop a)).map blT = (blks ps).map blT) (n := ps.length) ⟨0, none, rfl, rfl, Nat.zero_le _, rfl, Nat.le_refl _, rfl⟩ ?_
    rintro n o τ s' N ⟨a, x, rfl, rfl, ha, rfl, hol, eo⟩ k2
    unfold rowT
    walk_at "mm"
    rw [List.length_map]
    rcases e1 : ps.drop a with _ | ⟨p, A⟩
    · have ea : a = ps.length := Nat.le_antisymm ha (List.drop_eq_nil_iff.mp e1)
      rw [e1, blks, List.map_nil, List.append_nil] at eo
      refine hIte.by (fun h => ?_) fun h => ?_
      · have h := of_decide_eq_true h
        omega
      walk_at "mm"
      rw [eo]
      exact k
    · have h1 := (drop_1 e1).1
      have ip : itm p = .obj 7 [("rank", .int p.1), ("name", .str p.2)] := rfl
      have hla : a < ps.length := (List.getElem?_eq_some_iff.mp h1).1
      have hpl := hp.l
      refine hIte.by (fun h => ?_) fun h => ?_
      case refine_2 =>
        have h := of_decide_eq_false h
        omega
      walk_at "mm"
      rw [at_l e1, ip]
      walk_at "mm"
      refine hM.of ⟨ps, a, p.1, rfl, by omega, ?_⟩
      rw [e1]
      walk_at "mm"
      unfold fYield
      refine ⟨by omega, ?_⟩
      walk_at "mm"
      rw [at_l e1, ip]
      walk_at "mm"
      have hap := asc_least (e1 ▸ List.Pairwise.sublist (List.drop_sublist a ps) hp.a : asc (p :: A))
      have hd := drop_l (l := a) hp.a (by rw [e1]; exact hap)
      rw [e1] at hd eo
      rw [blks, List.map_cons] at eo
      have el : a + (eqs p.1 (p :: A)).length ≤ ps.length := by
        have h2 := blk_len (e1 ▸ List.Pairwise.sublist (List.drop_sublist a ps) hp.a : asc (p :: A)) hap
        have h3 := congrArg List.length e1
        rw [List.length_drop] at h3
        omega
      have ep : 0 < (eqs p.1 (p :: A)).length := by rw [eqs_cons, if_pos rfl, List.length_cons]; omega
      rw [show (((a + (eqs p.1 (p :: A)).length : Nat) : Int) - (a : Int)) = ((eqs p.1 (p :: A)).length : Int) by omega]
      exact k2 (ps.length - (a + (eqs p.1 (p :: A)).length)) _ _ _ (by omega) ⟨_, _, rfl, rfl, el, rfl, by rw [List.length_append, List.length_singleton]; omega, by rw [hd, List.append_assoc]; exact eo⟩
end
end M04
namespace M04
open PySem PySem.Spec PyProof.Rows L2 Tw Mr
local macro_rules | `(tactic| walk_at "mm") => `(tactic| simp -implicitDefEqProofs only [↓Mr.hold_cM, ↓Mr.hold_ite, ↓Mr.hold_for, Mr.hIte_true, Mr.hIte_false, ↓Mr.lawEnds.eq_1, ↓Mr.fSeq.eq_1, ↓Mr.fSkip.eq_1, ↓Mr.fRet.eq_1, ↓Mr.fSet.eq_1, ↓Mr.fIfS.eq_1, ↓Mr.gN.eq_1, ↓Mr.xk, ↓Mr.fVar.eq_1, ↓Mr.fC.eq_1, ↓Mr.f2.eq_1, ↓Mr.g2.eq_1, ↓Mr.kB.eq_1, ↓Mr.fTest.eq_1, ↓Mr.fTru.eq_1, ↓Mr.fOr.eq_1, ↓Mr.fNot.eq_1, ↓Mr.fAndV.eq_1, Mr.onB_bl, ↓Mr.fNil.eq_1, ↓Mr.fCons.eq_1, ↓Mr.fLst.eq_1, ↓Mr.fCall.eq_1, ↓Mr.fMk.eq_1, ↓Mr.fMt.eq_1, Mr.eqO, Mr.neO, ↓Mr.fListG.eq_1, Mr.isBO, Mr.S.pn_on, Mr.S.pn_pn, ↓Mr.iRange1.eq_1, ↓Mr.fFor.eq_1, Option.map_some, Mr.S.obj?, Mr.S.dat, Mr.T.dat, Mr.dats, PyData.eqv, PyData.eqvAll, beq_self_eq_true, Bool.and_self, List.map_cons, List.map_nil, List.length_cons, List.length_nil, List.nil_append, List.append_nil, List.replicate_succ, List.replicate_zero, List.getElem?_cons_zero, List.getElem?_cons_succ, List.set_cons_zero, List.set_cons_succ, Int.reduceToNat, Int.reducePow, Int.reduceAbs, Int.reduceLE, Int.reduceLT, Int.reduceSub, Int.reduceAdd, Int.reduceNeg, Int.reduceMul, Int.reduceEq, Nat.reducePow, Nat.reduceSub, Nat.reduceAdd, Nat.reduceLeDiff, Nat.reduceLT, Nat.reduceEqDiff, Nat.zero_add, true_and, and_true, ↓reduceIte, Bool.not_true, M04.lkA_held, List.mem_cons, List.not_mem_nil, or_false, or_true, true_or, false_or, reduceCtorEq])
theorem bl_bz (l : List (Int × Nat)) : l.map blT = (l.map fun b => (b.1, (b.2 : Int))).map bzT := by
  rw [List.map_map]
  rfl
theorem bz_eqv : ∀ l : List (Int × Int), PyData.eqvAll (l.map bzD) (l.map bzD) = true
  | [] => by simp [PyData.eqvAll]
  | x :: l => by
    rw [List.map_cons, PyData.eqvAll, bz_eqv l, bzD, PyData.eqv]
    simp [PyData.eqvAll, PyData.eqv]
section
variable {w : World} {K : PySem.W.Frag} {mg : Str → Option Value} {base : Heap} {cl : CL}
theorem fn_law (T : Txt K w mg cl base) {f : Addr} {fd : FuncData} (F : C8.Fun K "law" "law" s_law f fd) : FnG P w K mg base 24 f fd ["_law_script"] (Mr.spLaw cl K) := by
  refine fnGX (k := 23) (N := N_law) F sc_law (by rintro vs H Q E ⟨_, _, rfl, _⟩; rfl) ?_
  rintro cdv A out s H vs Q E hr ⟨a, ns, rfl, hS, hl, hT, q⟩
  refine law_body T.pend (ps_set (i := 1) sc_law.nd rfl (Or.inl rfl) (pe_cW Tw.tk_cx (ok_pen T) hr (by decide) (by rfl) (pa_cons (pv 0) pa_nil))) (jss_cons (js_for (L2.passes_of rfl) rfl (ji_range1 (by rfl) T.n_range (ja_cons je_int ja_nil)) (jg_name (i := 2) sc_law.nd rfl (Or.inl rfl))
      (jss_cons (js_set (i := 3) sc_law.nd rfl (Or.inl rfl) (je_call Tw.tk_cx (ok_pairs T) hr (by decide) (by rfl) (ja_cons (je_var 1) (ja_cons je_int ja_nil))))
      (jss_cons (js_set (i := 4) sc_law.nd rfl (Or.inl rfl) (je_mk true Tw.tk_cx (mk_Rowinit T) hr (by decide) (by rfl) (ja_cons (je_call Tw.tk_cx (ok_values T) hr (by decide) (by rfl) (ja_cons (je_var 1) (ja_cons (je_var 3) ja_nil))) ja_nil)))
      (jss_cons (js_if (JW.jt (jw_or (jt_not (jt_val (je_call Tw.tk_cx (ok_placer T) hr (by decide) (by rfl) (ja_cons (je_var 1) (ja_cons (je_var 4) (ja_cons (je_var 3) ja_nil)))))) (jw_or1 (jt_not (jt_val (je_call Tw.tk_cx (ok_memr T) hr (by decide) (by rfl) (ja_cons (je_var 1) (ja_cons (je_var 4) (ja_cons (je_var 3) ja_nil))))))))) (jss_one (js_ret je_bl)) jss_nil)
      (jss_cons (js_if (JW.jt (jw_or (jt_cmp (o_ne hr) (je_listG (mgn_Rowblocks T) hr (by decide) (by rfl) T.n_list (je_var 4)) (je_call Tw.tk_cx (ok_lblocks T) hr (by decide) (by rfl) (ja_cons (je_var 3) ja_nil)) (nomark _)) (jw_or1 (jt_not (jt_val (je_call Tw.tk_cx (ok_compd T) hr (by decide) (by rfl) (ja_cons (je_var 1) (ja_cons (je_var 4) (ja_cons (je_var 3) ja_nil))))))))) (jss_one (js_ret je_bl)) jss_nil)
      (jss_one (js_if (jt_cmp (o_ne hr) (je_call Tw.tk_cx (ok_told T) hr (by decide) (by rfl) (ja_cons (je_mt0 Tw.tk_cx (one_met (mt_Rowlstd T)) hr (by decide) (je_var 4)) ja_nil)) (je_var 3) (nomark _)) (jss_one (js_ret je_bl)) jss_nil)))))))
    (jss_one (js_ret (je_and (je_cmp o_isB (je_mt Tw.tk_cx (one_met (mt_Rowwithin T)) hr (by decide) (je_mk0 true Tw.tk_cx (mk0_Rowinit T) hr (by decide) (by rfl)) (ja_cons (je_mk0 true Tw.tk_cx (mk0_Rowinit T) hr (by decide) (by rfl)) ja_nil)) je_bl (nomark _)) (je_one (je_cmp (o_eq hr) (je_listG (mgn_Rowblocks T) hr (by decide) (by rfl) T.n_list (je_mk0 true Tw.tk_cx (mk0_Rowinit T) hr (by decide) (by rfl))) (je_lst ja_nil) (nomark _))))))) (by decide) (fun σ H Q' e h => ⟨_, e, h⟩) hS hl hT q ?_
  clear hS hl hT q
  intro a p
  walk_at "mm"
  refine for_ind (fun pre post τ s' => ∃ (n : Nat) (x2 x3 x4 : Option Mr.T), s' = (s0 p).pn n ∧ n ≤ 400 * pre.length ∧ pre.length + post.length = 6 ∧ τ = [some (.cell a), some .pen, x2, x3, x4]) ?_ (fun _ _ _ _ _ => trivial) ?_ ?_
  · exact ⟨0, none, none, none, rfl, by simp, rfl, rfl⟩
  · rintro pre t post τ s' N e ⟨n, x2, x3, x4, rfl, hn, hj, rfl⟩ k'
    rw [List.length_cons] at hj
    walk_at "mm"
    refine hM.of ⟨30, rfl, by decide, by simp only [S.pn_pen]; omega, fun ps n1 hl1 ok1 hn1 => ?_⟩
    simp only [S.pn_pen] at hn1
    have hr : Rd ps := ⟨hl1, ok1⟩
    walk_at "mm"
    refine hM.of ⟨ps, B40, rfl, by omega, ok1, by decide +kernel, by simp only [S.pn_pen]; omega, fun xs n2 hv hn2 => ?_⟩
    simp only [S.pn_pen] at hn2
    walk_at "mm"
    refine fun z hz => mk_rowV (ps := ps) (.inl rfl) hv hz (by omega) ok1.2 ?_
    walk_at "mm"
    refine hM.of ⟨ps, rfl, hr, by simp only [S.pn_pen]; omega, fun n3 hn3 => ?_⟩
    simp only [S.pn_pen] at hn3
    walk_at "mm"
    refine hM.of ⟨ps, rfl, hr, by simp only [S.pn_pen]; omega, ?_⟩
    simp only [S.pn_pen]
    unfold rowT
    walk_at "mm"
    refine cG.of ⟨ps, rfl, hr.row, ?_⟩
    walk_at "mm"
    refine hM.of ⟨ps, rfl, by omega, ok1.2, ?_⟩
    walk_at "mm"
    rw [bl_bz, bz_dats]
    simp only [Option.map_some]
    refine ⟨⟨bz_sh _, bz_sh _⟩, ?_⟩
    rw [PyData.eqv, bz_eqv]
    walk_at "mm"
    refine hM.of ⟨ps, rfl, hr, by simp only [S.pn_pen]; omega, fun n4 hn4 => ?_⟩
    simp only [S.pn_pen] at hn4
    walk_at "mm"
    refine hM.of ⟨ps, rfl, by omega, ?_⟩
    walk_at "mm"
    refine hM.of ⟨_, ps, rfl, .inl rfl, by omega, ?_⟩
    walk_at "mm"
    rw [pr_dats]
    simp only [Option.map_some]
    refine ⟨⟨pr_sh b40 ok1.1, pr_sh b40 ok1.1⟩, ?_⟩
    rw [PyData.eqv, pr_eqv b40 ok1.1]
    walk_at "mm"
    exact k' _ _ ⟨n4, _, _, _, rfl, by rw [List.length_append, List.length_singleton]; omega, by rw [List.length_append, List.length_singleton]; omega, rfl⟩
  · rintro τ s' ⟨n, x2, x3, x4, rfl, hn, hj, rfl⟩
    walk_at "mm"
    refine fun z hz => mk_rowV (ps := []) (.inr (.inl rfl)) ⟨rfl, nofun⟩ hz (by decide) .nil ?_
    unfold rowT
    walk_at "mm"
    refine fun z2 hz2 => mk_rowV (ps := []) (.inr (.inl rfl)) ⟨rfl, nofun⟩ hz2 (by decide) .nil ?_
    unfold rowT
    walk_at "mm"
    have ok0 : okRow [] := ⟨by decide, .nil⟩
    refine hM.of ⟨[], [], rfl, ok0, ok0, ?_⟩
    rw [show (blks []).all _ = true by rw [blks]; rfl]
    walk_at "mm"
    refine fun z3 hz3 => mk_rowV (ps := []) (.inr (.inl rfl)) ⟨rfl, nofun⟩ hz3 (by decide) .nil ?_
    unfold rowT
    walk_at "mm"
    refine cG.of ⟨[], rfl, ok0, ?_⟩
    rw [blks]
    walk_at "mm"
    exact ⟨sh rfl (by decide +kernel), sh rfl (by decide +kernel)⟩
end
end M04
namespace M04
open PySem PySem.Spec PyProof.Rows L2 Tw Mr
theorem xc_BadItem {K : PySem.W.Frag} {C fI cc cda : Addr} (S : SupAt P K C s_XBadItem "BadItem.__init__" fI cc cda) (n0 : PySem.W.findIn K (.ref C) "part" = some none) : XCall P K C ["part"] := by
  refine' xcall1 (ar := argOf s_XBadItem) (y := "part") S ?X ?hb ?hbind ?ky ?yd ?yne n0
  case hb => exact rfl
  case X => exact ⟨rfl, rfl, rfl, rfl, by decide +kernel, rfl, rfl, rfl, by decide +kernel, fun _ => rfl, fun _ => ⟨_, rfl⟩, fun _ _ _ _ _ _ _ _ => rfl⟩
  case hbind => exact fun _ _ _ _ _ _ _ => rfl
  case ky => exact rfl
  case yd => decide
  case yne => decide +kernel
theorem xc_BadPlace {K : PySem.W.Frag} {C fI cc cda : Addr} (S : SupAt P K C s_XBadPlace "BadPlace.__init__" fI cc cda) (n0 : PySem.W.findIn K (.ref C) "at" = some none) : XCall P K C ["at"] := by
  refine' xcall1 (ar := argOf s_XBadPlace) (y := "at") S ?X ?hb ?hbind ?ky ?yd ?yne n0
  case hb => exact rfl
  case X => exact ⟨rfl, rfl, rfl, rfl, by decide +kernel, rfl, rfl, rfl, by decide +kernel, fun _ => rfl, fun _ => ⟨_, rfl⟩, fun _ _ _ _ _ _ _ _ => rfl⟩
  case hbind => exact fun _ _ _ _ _ _ _ => rfl
  case ky => exact rfl
  case yd => decide
  case yne => decide +kernel
theorem xc_Disordered {K : PySem.W.Frag} {C fI cc cda : Addr} (S : SupAt P K C s_XDisordered "Disordered.__init__" fI cc cda) (n0 : PySem.W.findIn K (.ref C) "at" = some none) : XCall P K C ["at"] := by
  refine' xcall1 (ar := argOf s_XDisordered) (y := "at") S ?X ?hb ?hbind ?ky ?yd ?yne n0
  case hb => exact rfl
  case X => exact ⟨rfl, rfl, rfl, rfl, by decide +kernel, rfl, rfl, rfl, by decide +kernel, fun _ => rfl, fun _ => ⟨_, rfl⟩, fun _ _ _ _ _ _ _ _ => rfl⟩
  case hbind => exact fun _ _ _ _ _ _ _ => rfl
  case ky => exact rfl
  case yd => decide
  case yne => decide +kernel
theorem xc_TooMany {K : PySem.W.Frag} {C fI cc cda : Addr} (S : SupAt P K C s_XTooMany "TooMany.__init__" fI cc cda) (n0 : PySem.W.findIn K (.ref C) "most" = some none) : XCall P K C ["most"] := by
  refine' xcall1 (ar := argOf s_XTooMany) (y := "most") S ?X ?hb ?hbind ?ky ?yd ?yne n0
  case hb => exact rfl
  case X => exact ⟨rfl, rfl, rfl, rfl, by decide +kernel, rfl, rfl, rfl, by decide +kernel, fun _ => rfl, fun _ => ⟨_, rfl⟩, fun _ _ _ _ _ _ _ _ => rfl⟩
  case hbind => exact fun _ _ _ _ _ _ _ => rfl
  case ky => exact rfl
  case yd => decide
  case yne => decide +kernel
open PySem.W
set_option maxHeartbeats 4000000 in
theorem all_mk {w : World} {K : Frag} {h : Heap} {mg : Str → Option Value} {fa : Addr} {ts : List Addr} (X : K.In h) (G : h.Ns mainGlobals mg) (hfa : mg "law" = some (.ref fa)) (tY : ∀ P ∈ ts, h.get? P = some (tabObj #[]))
    {C_HeadsError C_BadInput C_Refused C_BadItem C_BadPlace C_Disordered C_TooMany C_Item C_Row N_BadItem f_XBadItem cc_XBadItem cda_XBadItem N_BadPlace f_XBadPlace cc_XBadPlace cda_XBadPlace N_Disordered f_XDisordered cc_XDisordered cda_XDisordered N_TooMany f_XTooMany cc_XTooMany cda_XTooMany f_isint f_isrank f_isname f_Iinit D_Iinit f_item_of f_need_few f_need_ascending f_items_of f_behind_block f_chosen f_Rowinit D_Rowinit e_Rowinit0 f_Rowlstd f_Rowranks f_Rownumber f_Rowblocks f_Rowwithin f_Rowbetween f_Rowneed f_Rowget f_Rowlen f_Rowiter f_Rowin f_Roweq f_pen f_draw f_pick f_pairs f_values f_told f_heard f_lnum f_lindex f_placer cdv_placer pt_placer f_lblocks f_memr f_compd f_law : Addr}
    {nm_BadItem qq_BadItem fi_XBadItem nm_BadPlace qq_BadPlace fi_XBadPlace nm_Disordered qq_Disordered fi_XDisordered nm_TooMany qq_TooMany fi_XTooMany : Str}
    {bs_BadItem bm_BadItem sub_BadItem bs_BadPlace bm_BadPlace sub_BadPlace bs_Disordered bm_Disordered sub_Disordered bs_TooMany bm_TooMany sub_TooMany : List Value}
    {sn_BadItem sn_BadPlace sn_Disordered sn_TooMany : List Str}
    {ab_BadItem ab_BadPlace ab_Disordered ab_TooMany : Bool}
    {col_BadItem col_BadPlace col_Disordered col_TooMany : Option Bool}
    {dd_BadItem od_XBadItem an_XBadItem cdd_XBadItem eld_XBadItem dd_BadPlace od_XBadPlace an_XBadPlace cdd_XBadPlace eld_XBadPlace dd_Disordered od_XDisordered an_XDisordered cdd_XDisordered eld_XDisordered dd_TooMany od_XTooMany an_XTooMany cdd_XTooMany eld_XTooMany od_isint an_isint od_isrank an_isrank od_isname an_isname od_Iinit an_Iinit od2_Iinit od_item_of an_item_of od_need_few an_need_few od_need_ascending an_need_ascending od_items_of an_items_of od_behind_block an_behind_block od_chosen an_chosen od_Rowinit an_Rowinit od2_Rowinit oe_Rowinit od_Rowlstd an_Rowlstd od_Rowranks an_Rowranks od_Rownumber an_Rownumber od_Rowblocks an_Rowblocks od_Rowwithin an_Rowwithin od_Rowbetween an_Rowbetween od_Rowneed an_Rowneed od_Rowget an_Rowget od_Rowlen an_Rowlen od_Rowiter an_Rowiter od_Rowin an_Rowin od_Roweq an_Roweq od_pen an_pen od_draw an_draw od_pick an_pick od_pairs an_pairs od_values an_values od_told an_told od_heard an_heard od_lnum an_lnum od_lindex an_lindex od_placer an_placer ocd_placer od_lblocks an_lblocks od_memr an_memr od_compd an_compd od_law an_law : Option Addr}
    {k0_BadItem k1_BadItem k2_BadItem k3_BadItem k5_BadItem k0_BadPlace k1_BadPlace k2_BadPlace k3_BadPlace k5_BadPlace k0_Disordered k1_Disordered k2_Disordered k3_Disordered k5_Disordered k0_TooMany k1_TooMany k2_TooMany k3_TooMany k5_TooMany : Option Value}
    {osl_XBadItem ccs_XBadItem els_XBadItem osl_XBadPlace ccs_XBadPlace els_XBadPlace osl_XDisordered ccs_XDisordered els_XDisordered osl_XTooMany ccs_XTooMany els_XTooMany osl_isint osl_isrank osl_isname osl_Iinit sl2_Iinit osl_item_of osl_need_few osl_need_ascending osl_items_of osl_behind_block osl_chosen osl_Rowinit sl2_Rowinit se_Rowinit osl_Rowlstd osl_Rowranks osl_Rownumber osl_Rowblocks osl_Rowwithin osl_Rowbetween osl_Rowneed osl_Rowget osl_Rowlen osl_Rowiter osl_Rowin osl_Roweq osl_pen osl_draw osl_pick osl_pairs osl_values osl_told osl_heard osl_lnum osl_lindex osl_placer ocs_placer osl_lblocks osl_memr osl_compd osl_law : Array (Option Value)}
    {kV_XBadItem doc_XBadItem pm_XBadItem ct_XBadItem ccl_XBadItem el_XBadItem kV_XBadPlace doc_XBadPlace pm_XBadPlace ct_XBadPlace ccl_XBadPlace el_XBadPlace kV_XDisordered doc_XDisordered pm_XDisordered ct_XDisordered ccl_XDisordered el_XDisordered kV_XTooMany doc_XTooMany pm_XTooMany ct_XTooMany ccl_XTooMany el_XTooMany oc_isint kV_isint doc_isint pm_isint cdv_isint ct_isint oc_isrank kV_isrank doc_isrank pm_isrank cdv_isrank ct_isrank oc_isname kV_isname doc_isname pm_isname cdv_isname ct_isname oc_Iinit kV_Iinit doc_Iinit pm_Iinit cdv_Iinit ct_Iinit oc2_Iinit oc_item_of kV_item_of doc_item_of pm_item_of cdv_item_of ct_item_of oc_need_few kV_need_few doc_need_few pm_need_few cdv_need_few ct_need_few oc_need_ascending kV_need_ascending doc_need_ascending pm_need_ascending cdv_need_ascending ct_need_ascending oc_items_of kV_items_of doc_items_of pm_items_of cdv_items_of ct_items_of oc_behind_block kV_behind_block doc_behind_block pm_behind_block cdv_behind_block ct_behind_block oc_chosen kV_chosen doc_chosen pm_chosen cdv_chosen ct_chosen oc_Rowinit kV_Rowinit doc_Rowinit pm_Rowinit cdv_Rowinit ct_Rowinit oc2_Rowinit oc_Rowlstd kV_Rowlstd doc_Rowlstd pm_Rowlstd cdv_Rowlstd ct_Rowlstd oc_Rowranks kV_Rowranks doc_Rowranks pm_Rowranks cdv_Rowranks ct_Rowranks oc_Rownumber kV_Rownumber doc_Rownumber pm_Rownumber cdv_Rownumber ct_Rownumber oc_Rowblocks kV_Rowblocks doc_Rowblocks pm_Rowblocks cdv_Rowblocks ct_Rowblocks oc_Rowwithin kV_Rowwithin doc_Rowwithin pm_Rowwithin cdv_Rowwithin ct_Rowwithin oc_Rowbetween kV_Rowbetween doc_Rowbetween pm_Rowbetween cdv_Rowbetween ct_Rowbetween oc_Rowneed kV_Rowneed doc_Rowneed pm_Rowneed cdv_Rowneed ct_Rowneed oc_Rowget kV_Rowget doc_Rowget pm_Rowget cdv_Rowget ct_Rowget oc_Rowlen kV_Rowlen doc_Rowlen pm_Rowlen cdv_Rowlen ct_Rowlen oc_Rowiter kV_Rowiter doc_Rowiter pm_Rowiter cdv_Rowiter ct_Rowiter oc_Rowin kV_Rowin doc_Rowin pm_Rowin cdv_Rowin ct_Rowin oc_Roweq kV_Roweq doc_Roweq pm_Roweq cdv_Roweq ct_Roweq oc_pen kV_pen doc_pen pm_pen cdv_pen ct_pen oc_draw kV_draw doc_draw pm_draw cdv_draw ct_draw oc_pick kV_pick doc_pick pm_pick cdv_pick ct_pick oc_pairs kV_pairs doc_pairs pm_pairs cdv_pairs ct_pairs oc_values kV_values doc_values pm_values cdv_values ct_values oc_told kV_told doc_told pm_told cdv_told ct_told oc_heard kV_heard doc_heard pm_heard cdv_heard ct_heard oc_lnum kV_lnum doc_lnum pm_lnum cdv_lnum ct_lnum oc_lindex kV_lindex doc_lindex pm_lindex cdv_lindex ct_lindex oc_placer kV_placer doc_placer pm_placer ct_placer ocl_placer oc_lblocks kV_lblocks doc_lblocks pm_lblocks cdv_lblocks ct_lblocks oc_memr kV_memr doc_memr pm_memr cdv_memr ct_memr oc_compd kV_compd doc_compd pm_compd cdv_compd ct_compd oc_law kV_law doc_law pm_law cdv_law ct_law : Value}
    {vs_XBadItem vs_XBadPlace vs_XDisordered vs_XTooMany ovs_placer : Array Value}
    {tf_XBadItem tf_XBadPlace tf_XDisordered tf_XTooMany tg_LETTERS tg_MOST_LETTERS tg_GREATEST tg_MOST_ITEMS t_Iinit0 : Tok}
    {n2_Iinit n2_Rowinit ne_Rowinit : Nat}
    (z_len : nsIn K mainGlobals "len" = some none)
    (z_abs : nsIn K mainGlobals "abs" = some none)
    (z_int : nsIn K mainGlobals "int" = some none)
    (z_list : nsIn K mainGlobals "list" = some none)
    (z_tuple : nsIn K mainGlobals "tuple" = some none)
    (z_repr : nsIn K mainGlobals "repr" = some none)
    (z_str : nsIn K mainGlobals "str" = some none)
    (z_range : nsIn K mainGlobals "range" = some none)
    (z_isinstance : nsIn K mainGlobals "isinstance" = some none)
    (z_all : nsIn K mainGlobals "all" = some none)
    (z_bool : nsIn K mainGlobals "bool" = some none)
    (z_sorted : nsIn K mainGlobals "sorted" = some none)
    (z_super : nsIn K mainGlobals "super" = some none)
    (z_enumerate : nsIn K mainGlobals "enumerate" = some none)
    (z_iter : nsIn K mainGlobals "iter" = some none)
    (z_ValueError : nsIn K mainGlobals "ValueError" = some none)
    (aC_HeadsError : nsIn K mainGlobals "HeadsError" = some (some (.ref C_HeadsError)))
    (aC_BadInput : nsIn K mainGlobals "BadInput" = some (some (.ref C_BadInput)))
    (aC_Refused : nsIn K mainGlobals "Refused" = some (some (.ref C_Refused)))
    (aC_BadItem : nsIn K mainGlobals "BadItem" = some (some (.ref C_BadItem)))
    (aC_BadPlace : nsIn K mainGlobals "BadPlace" = some (some (.ref C_BadPlace)))
    (aC_Disordered : nsIn K mainGlobals "Disordered" = some (some (.ref C_Disordered)))
    (aC_TooMany : nsIn K mainGlobals "TooMany" = some (some (.ref C_TooMany)))
    (aC_Item : nsIn K mainGlobals "Item" = some (some (.ref C_Item)))
    (aC_Row : nsIn K mainGlobals "Row" = some (some (.ref C_Row)))
    (bC_Item : insB K C_Item = true)
    (na_Item_rank : findIn K (.ref C_Item) "rank" = some none)
    (na_Item_name : findIn K (.ref C_Item) "name" = some none)
    (bC_Row : insB K C_Row = true)
    (na_Row_held : findIn K (.ref C_Row) "held" = some none)
    (lC_BadItem : K.lookup C_BadItem = some (excClassObj nm_BadItem qq_BadItem C_BadItem N_BadItem bs_BadItem bm_BadItem true sn_BadItem sub_BadItem ab_BadItem col_BadItem dd_BadItem k0_BadItem k1_BadItem k2_BadItem k3_BadItem k5_BadItem "ValueError.__new__"))
    (rv_BadItem : PySem.HandSPX.refsVE bm_BadItem = true)
    (ob_BadItem : oexB K C_BadItem = true)
    (eb_BadItem : excB K C_BadItem = true)
    (na_BadItem_part : findIn K (.ref C_BadItem) "part" = some none)
    (i_XBadItem : findIn K (.ref C_BadItem) "__init__" = some (some (.ref f_XBadItem)))
    (l_XBadItem : K.lookup f_XBadItem = some ⟨.type "function", od_XBadItem, .func (ksFn "__init__" "BadItem.__init__" (C8.fnArgs s_XBadItem) (C8.fnBody s_XBadItem) (C8.fnScope s_XBadItem) .none kV_XBadItem doc_XBadItem pm_XBadItem an_XBadItem (.ref cda_XBadItem) ct_XBadItem cc_XBadItem), osl_XBadItem⟩)
    (cd_XBadItem : codeIn K (.ref cda_XBadItem) "BadItem.__init__" = true)
    (lc_XBadItem : K.lookup cda_XBadItem = some ⟨ccl_XBadItem, cdd_XBadItem, .fields vs_XBadItem, ccs_XBadItem⟩)
    (v2_XBadItem : vs_XBadItem[2]? = some (.str fi_XBadItem tf_XBadItem))
    (fi_e_XBadItem : ((P.main.file : Str) == fi_XBadItem) = true)
    (le_XBadItem : K.lookup cc_XBadItem = some ⟨el_XBadItem, eld_XBadItem, .cell (some (.ref C_BadItem)), els_XBadItem⟩)
    (su_XBadItem : ks_superIn K C_BadItem C_BadItem "__init__" = some (some (.builtin "ValueError.__init__")))
    (iv_XBadItem : subIn K (.ref C_BadItem) (.type "ValueError") = some true)
    (me_XBadItem : mroIn K C_BadItem (.ref C_BadItem) = some true)
    (opq : nsIn K cStatics "thirdparty.any" = some none)
    (lC_BadPlace : K.lookup C_BadPlace = some (excClassObj nm_BadPlace qq_BadPlace C_BadPlace N_BadPlace bs_BadPlace bm_BadPlace true sn_BadPlace sub_BadPlace ab_BadPlace col_BadPlace dd_BadPlace k0_BadPlace k1_BadPlace k2_BadPlace k3_BadPlace k5_BadPlace "ValueError.__new__"))
    (rv_BadPlace : PySem.HandSPX.refsVE bm_BadPlace = true)
    (ob_BadPlace : oexB K C_BadPlace = true)
    (eb_BadPlace : excB K C_BadPlace = true)
    (na_BadPlace_at : findIn K (.ref C_BadPlace) "at" = some none)
    (i_XBadPlace : findIn K (.ref C_BadPlace) "__init__" = some (some (.ref f_XBadPlace)))
    (l_XBadPlace : K.lookup f_XBadPlace = some ⟨.type "function", od_XBadPlace, .func (ksFn "__init__" "BadPlace.__init__" (C8.fnArgs s_XBadPlace) (C8.fnBody s_XBadPlace) (C8.fnScope s_XBadPlace) .none kV_XBadPlace doc_XBadPlace pm_XBadPlace an_XBadPlace (.ref cda_XBadPlace) ct_XBadPlace cc_XBadPlace), osl_XBadPlace⟩)
    (cd_XBadPlace : codeIn K (.ref cda_XBadPlace) "BadPlace.__init__" = true)
    (lc_XBadPlace : K.lookup cda_XBadPlace = some ⟨ccl_XBadPlace, cdd_XBadPlace, .fields vs_XBadPlace, ccs_XBadPlace⟩)
    (v2_XBadPlace : vs_XBadPlace[2]? = some (.str fi_XBadPlace tf_XBadPlace))
    (fi_e_XBadPlace : ((P.main.file : Str) == fi_XBadPlace) = true)
    (le_XBadPlace : K.lookup cc_XBadPlace = some ⟨el_XBadPlace, eld_XBadPlace, .cell (some (.ref C_BadPlace)), els_XBadPlace⟩)
    (su_XBadPlace : ks_superIn K C_BadPlace C_BadPlace "__init__" = some (some (.builtin "ValueError.__init__")))
    (iv_XBadPlace : subIn K (.ref C_BadPlace) (.type "ValueError") = some true)
    (me_XBadPlace : mroIn K C_BadPlace (.ref C_BadPlace) = some true)
    (lC_Disordered : K.lookup C_Disordered = some (excClassObj nm_Disordered qq_Disordered C_Disordered N_Disordered bs_Disordered bm_Disordered true sn_Disordered sub_Disordered ab_Disordered col_Disordered dd_Disordered k0_Disordered k1_Disordered k2_Disordered k3_Disordered k5_Disordered "ValueError.__new__"))
    (rv_Disordered : PySem.HandSPX.refsVE bm_Disordered = true)
    (ob_Disordered : oexB K C_Disordered = true)
    (eb_Disordered : excB K C_Disordered = true)
    (na_Disordered_at : findIn K (.ref C_Disordered) "at" = some none)
    (i_XDisordered : findIn K (.ref C_Disordered) "__init__" = some (some (.ref f_XDisordered)))
    (l_XDisordered : K.lookup f_XDisordered = some ⟨.type "function", od_XDisordered, .func (ksFn "__init__" "Disordered.__init__" (C8.fnArgs s_XDisordered) (C8.fnBody s_XDisordered) (C8.fnScope s_XDisordered) .none kV_XDisordered doc_XDisordered pm_XDisordered an_XDisordered (.ref cda_XDisordered) ct_XDisordered cc_XDisordered), osl_XDisordered⟩)
    (cd_XDisordered : codeIn K (.ref cda_XDisordered) "Disordered.__init__" = true)
    (lc_XDisordered : K.lookup cda_XDisordered = some ⟨ccl_XDisordered, cdd_XDisordered, .fields vs_XDisordered, ccs_XDisordered⟩)
    (v2_XDisordered : vs_XDisordered[2]? = some (.str fi_XDisordered tf_XDisordered))
    (fi_e_XDisordered : ((P.main.file : Str) == fi_XDisordered) = true)
    (le_XDisordered : K.lookup cc_XDisordered = some ⟨el_XDisordered, eld_XDisordered, .cell (some (.ref C_Disordered)), els_XDisordered⟩)
    (su_XDisordered : ks_superIn K C_Disordered C_Disordered "__init__" = some (some (.builtin "ValueError.__init__")))
    (iv_XDisordered : subIn K (.ref C_Disordered) (.type "ValueError") = some true)
    (me_XDisordered : mroIn K C_Disordered (.ref C_Disordered) = some true)
    (lC_TooMany : K.lookup C_TooMany = some (excClassObj nm_TooMany qq_TooMany C_TooMany N_TooMany bs_TooMany bm_TooMany true sn_TooMany sub_TooMany ab_TooMany col_TooMany dd_TooMany k0_TooMany k1_TooMany k2_TooMany k3_TooMany k5_TooMany "ValueError.__new__"))
    (rv_TooMany : PySem.HandSPX.refsVE bm_TooMany = true)
    (ob_TooMany : oexB K C_TooMany = true)
    (eb_TooMany : excB K C_TooMany = true)
    (na_TooMany_most : findIn K (.ref C_TooMany) "most" = some none)
    (i_XTooMany : findIn K (.ref C_TooMany) "__init__" = some (some (.ref f_XTooMany)))
    (l_XTooMany : K.lookup f_XTooMany = some ⟨.type "function", od_XTooMany, .func (ksFn "__init__" "TooMany.__init__" (C8.fnArgs s_XTooMany) (C8.fnBody s_XTooMany) (C8.fnScope s_XTooMany) .none kV_XTooMany doc_XTooMany pm_XTooMany an_XTooMany (.ref cda_XTooMany) ct_XTooMany cc_XTooMany), osl_XTooMany⟩)
    (cd_XTooMany : codeIn K (.ref cda_XTooMany) "TooMany.__init__" = true)
    (lc_XTooMany : K.lookup cda_XTooMany = some ⟨ccl_XTooMany, cdd_XTooMany, .fields vs_XTooMany, ccs_XTooMany⟩)
    (v2_XTooMany : vs_XTooMany[2]? = some (.str fi_XTooMany tf_XTooMany))
    (fi_e_XTooMany : ((P.main.file : Str) == fi_XTooMany) = true)
    (le_XTooMany : K.lookup cc_XTooMany = some ⟨el_XTooMany, eld_XTooMany, .cell (some (.ref C_TooMany)), els_XTooMany⟩)
    (su_XTooMany : ks_superIn K C_TooMany C_TooMany "__init__" = some (some (.builtin "ValueError.__init__")))
    (iv_XTooMany : subIn K (.ref C_TooMany) (.type "ValueError") = some true)
    (me_XTooMany : mroIn K C_TooMany (.ref C_TooMany) = some true)
    (em_HeadsError : exmB K (⟨clL [C_HeadsError, C_BadInput, C_Refused, C_BadItem, C_BadPlace, C_Disordered, C_TooMany, C_Item, C_Row, cdv_placer, pt_placer], [(pt_placer, (envOfC "_law_places_right" (C8.fnScope s_placer) 0 0 .none).qual ++ "<lambda>")], false, []⟩) 0 [3, 4, 5, 6] = true)
    (kit : kitB' K (⟨clL [C_HeadsError, C_BadInput, C_Refused, C_BadItem, C_BadPlace, C_Disordered, C_TooMany, C_Item, C_Row, cdv_placer, pt_placer], [(pt_placer, (envOfC "_law_places_right" (C8.fnScope s_placer) 0 0 .none).qual ++ "<lambda>")], false, []⟩) kkT = true)
    (g_LETTERS : nsIn K mainGlobals "LETTERS" = some (some (.str "abcdefghijklmnopqrstuvwxyz" tg_LETTERS)))
    (g_MOST_LETTERS : nsIn K mainGlobals "MOST_LETTERS" = some (some (.int (8) tg_MOST_LETTERS)))
    (g_GREATEST : nsIn K mainGlobals "GREATEST" = some (some (.int (999999999999999999999999999999) tg_GREATEST)))
    (g_MOST_ITEMS : nsIn K mainGlobals "MOST_ITEMS" = some (some (.int (200) tg_MOST_ITEMS)))
    (a_isint : nsIn K mainGlobals "is_integer" = some (some (.ref f_isint)))
    (l_isint : K.lookup f_isint = some ⟨oc_isint, od_isint, .func (fnOf "is_integer" "is_integer" (C8.fnArgs s_isint) (C8.fnBody s_isint) (C8.fnScope s_isint) .none kV_isint doc_isint pm_isint an_isint cdv_isint ct_isint), osl_isint⟩)
    (cd_isint : codeIn K cdv_isint "is_integer" = true)
    (k_isint : keepIn K (.ref f_isint) = true)
    (a_isrank : nsIn K mainGlobals "is_rank" = some (some (.ref f_isrank)))
    (l_isrank : K.lookup f_isrank = some ⟨oc_isrank, od_isrank, .func (fnOf "is_rank" "is_rank" (C8.fnArgs s_isrank) (C8.fnBody s_isrank) (C8.fnScope s_isrank) .none kV_isrank doc_isrank pm_isrank an_isrank cdv_isrank ct_isrank), osl_isrank⟩)
    (cd_isrank : codeIn K cdv_isrank "is_rank" = true)
    (k_isrank : keepIn K (.ref f_isrank) = true)
    (a_isname : nsIn K mainGlobals "is_item_name" = some (some (.ref f_isname)))
    (l_isname : K.lookup f_isname = some ⟨oc_isname, od_isname, .func (fnOf "is_item_name" "is_item_name" (C8.fnArgs s_isname) (C8.fnBody s_isname) (C8.fnScope s_isname) .none kV_isname doc_isname pm_isname an_isname cdv_isname ct_isname), osl_isname⟩)
    (cd_isname : codeIn K cdv_isname "is_item_name" = true)
    (k_isname : keepIn K (.ref f_isname) = true)
    (a_Iinit : findIn K (.ref C_Item) "__init__" = some (some (.ref f_Iinit)))
    (i_Iinit : isFn K (.ref f_Iinit) = true)
    (l_Iinit : K.lookup f_Iinit = some ⟨oc_Iinit, od_Iinit, .func (fnOf "__init__" "Item.__init__" (C8.fnArgs s_Iinit) (C8.fnBody s_Iinit) (C8.fnScope s_Iinit) (.ref D_Iinit) kV_Iinit doc_Iinit pm_Iinit an_Iinit cdv_Iinit ct_Iinit), osl_Iinit⟩)
    (cd_Iinit : codeIn K cdv_Iinit "Item.__init__" = true)
    (k_Iinit : keepIn K (.ref f_Iinit) = true)
    (d_Iinit : K.lookup D_Iinit = some ⟨oc2_Iinit, od2_Iinit, .seq #[.str "" t_Iinit0] n2_Iinit, sl2_Iinit⟩)
    (mkC_Item : makesIn K C_Item = true)
    (kcC_Item : keepIn K (.ref C_Item) = true)
    (a_item_of : nsIn K mainGlobals "item_of" = some (some (.ref f_item_of)))
    (l_item_of : K.lookup f_item_of = some ⟨oc_item_of, od_item_of, .func (fnOf "item_of" "item_of" (C8.fnArgs s_item_of) (C8.fnBody s_item_of) (C8.fnScope s_item_of) .none kV_item_of doc_item_of pm_item_of an_item_of cdv_item_of ct_item_of), osl_item_of⟩)
    (cd_item_of : codeIn K cdv_item_of "item_of" = true)
    (k_item_of : keepIn K (.ref f_item_of) = true)
    (a_need_few : nsIn K mainGlobals "need_few" = some (some (.ref f_need_few)))
    (l_need_few : K.lookup f_need_few = some ⟨oc_need_few, od_need_few, .func (fnOf "need_few" "need_few" (C8.fnArgs s_need_few) (C8.fnBody s_need_few) (C8.fnScope s_need_few) .none kV_need_few doc_need_few pm_need_few an_need_few cdv_need_few ct_need_few), osl_need_few⟩)
    (cd_need_few : codeIn K cdv_need_few "need_few" = true)
    (k_need_few : keepIn K (.ref f_need_few) = true)
    (a_need_ascending : nsIn K mainGlobals "need_ascending" = some (some (.ref f_need_ascending)))
    (l_need_ascending : K.lookup f_need_ascending = some ⟨oc_need_ascending, od_need_ascending, .func (fnOf "need_ascending" "need_ascending" (C8.fnArgs s_need_ascending) (C8.fnBody s_need_ascending) (C8.fnScope s_need_ascending) .none kV_need_ascending doc_need_ascending pm_need_ascending an_need_ascending cdv_need_ascending ct_need_ascending), osl_need_ascending⟩)
    (cd_need_ascending : codeIn K cdv_need_ascending "need_ascending" = true)
    (k_need_ascending : keepIn K (.ref f_need_ascending) = true)
    (a_items_of : nsIn K mainGlobals "items_of" = some (some (.ref f_items_of)))
    (l_items_of : K.lookup f_items_of = some ⟨oc_items_of, od_items_of, .func (fnOf "items_of" "items_of" (C8.fnArgs s_items_of) (C8.fnBody s_items_of) (C8.fnScope s_items_of) .none kV_items_of doc_items_of pm_items_of an_items_of cdv_items_of ct_items_of), osl_items_of⟩)
    (cd_items_of : codeIn K cdv_items_of "items_of" = true)
    (k_items_of : keepIn K (.ref f_items_of) = true)
    (a_behind_block : nsIn K mainGlobals "behind_block" = some (some (.ref f_behind_block)))
    (l_behind_block : K.lookup f_behind_block = some ⟨oc_behind_block, od_behind_block, .func (fnOf "behind_block" "behind_block" (C8.fnArgs s_behind_block) (C8.fnBody s_behind_block) (C8.fnScope s_behind_block) .none kV_behind_block doc_behind_block pm_behind_block an_behind_block cdv_behind_block ct_behind_block), osl_behind_block⟩)
    (cd_behind_block : codeIn K cdv_behind_block "behind_block" = true)
    (k_behind_block : keepIn K (.ref f_behind_block) = true)
    (a_chosen : nsIn K mainGlobals "chosen" = some (some (.ref f_chosen)))
    (l_chosen : K.lookup f_chosen = some ⟨oc_chosen, od_chosen, .func (fnOf "chosen" "chosen" (C8.fnArgs s_chosen) (C8.fnBody s_chosen) (C8.fnScope s_chosen) .none kV_chosen doc_chosen pm_chosen an_chosen cdv_chosen ct_chosen), osl_chosen⟩)
    (cd_chosen : codeIn K cdv_chosen "chosen" = true)
    (k_chosen : keepIn K (.ref f_chosen) = true)
    (a_Rowinit : findIn K (.ref C_Row) "__init__" = some (some (.ref f_Rowinit)))
    (i_Rowinit : isFn K (.ref f_Rowinit) = true)
    (l_Rowinit : K.lookup f_Rowinit = some ⟨oc_Rowinit, od_Rowinit, .func (fnOf "__init__" "Row.__init__" (C8.fnArgs s_Rowinit) (C8.fnBody s_Rowinit) (C8.fnScope s_Rowinit) (.ref D_Rowinit) kV_Rowinit doc_Rowinit pm_Rowinit an_Rowinit cdv_Rowinit ct_Rowinit), osl_Rowinit⟩)
    (cd_Rowinit : codeIn K cdv_Rowinit "Row.__init__" = true)
    (k_Rowinit : keepIn K (.ref f_Rowinit) = true)
    (d_Rowinit : K.lookup D_Rowinit = some ⟨oc2_Rowinit, od2_Rowinit, .seq #[.ref e_Rowinit0] n2_Rowinit, sl2_Rowinit⟩)
    (mkC_Row : makesIn K C_Row = true)
    (kcC_Row : keepIn K (.ref C_Row) = true)
    (le_Rowinit0 : K.lookup e_Rowinit0 = some ⟨.type "tuple", oe_Rowinit, .seq #[] ne_Rowinit, se_Rowinit⟩)
    (a_Rowlstd : findIn K (.ref C_Row) "listed" = some (some (.ref f_Rowlstd)))
    (i_Rowlstd : isFn K (.ref f_Rowlstd) = true)
    (l_Rowlstd : K.lookup f_Rowlstd = some ⟨oc_Rowlstd, od_Rowlstd, .func (fnOf "listed" "Row.listed" (C8.fnArgs s_Rowlstd) (C8.fnBody s_Rowlstd) (C8.fnScope s_Rowlstd) .none kV_Rowlstd doc_Rowlstd pm_Rowlstd an_Rowlstd cdv_Rowlstd ct_Rowlstd), osl_Rowlstd⟩)
    (cd_Rowlstd : codeIn K cdv_Rowlstd "Row.listed" = true)
    (k_Rowlstd : keepIn K (.ref f_Rowlstd) = true)
    (a_Rowranks : findIn K (.ref C_Row) "ranks" = some (some (.ref f_Rowranks)))
    (i_Rowranks : isFn K (.ref f_Rowranks) = true)
    (l_Rowranks : K.lookup f_Rowranks = some ⟨oc_Rowranks, od_Rowranks, .func (fnOf "ranks" "Row.ranks" (C8.fnArgs s_Rowranks) (C8.fnBody s_Rowranks) (C8.fnScope s_Rowranks) .none kV_Rowranks doc_Rowranks pm_Rowranks an_Rowranks cdv_Rowranks ct_Rowranks), osl_Rowranks⟩)
    (cd_Rowranks : codeIn K cdv_Rowranks "Row.ranks" = true)
    (k_Rowranks : keepIn K (.ref f_Rowranks) = true)
    (a_Rownumber : findIn K (.ref C_Row) "number" = some (some (.ref f_Rownumber)))
    (i_Rownumber : isFn K (.ref f_Rownumber) = true)
    (l_Rownumber : K.lookup f_Rownumber = some ⟨oc_Rownumber, od_Rownumber, .func (fnOf "number" "Row.number" (C8.fnArgs s_Rownumber) (C8.fnBody s_Rownumber) (C8.fnScope s_Rownumber) .none kV_Rownumber doc_Rownumber pm_Rownumber an_Rownumber cdv_Rownumber ct_Rownumber), osl_Rownumber⟩)
    (cd_Rownumber : codeIn K cdv_Rownumber "Row.number" = true)
    (k_Rownumber : keepIn K (.ref f_Rownumber) = true)
    (a_Rowblocks : findIn K (.ref C_Row) "blocks" = some (some (.ref f_Rowblocks)))
    (i_Rowblocks : isFn K (.ref f_Rowblocks) = true)
    (l_Rowblocks : K.lookup f_Rowblocks = some ⟨oc_Rowblocks, od_Rowblocks, .func (fnOf "blocks" "Row.blocks" (C8.fnArgs s_Rowblocks) (C8.fnBody s_Rowblocks) (C8.fnScope s_Rowblocks) .none kV_Rowblocks doc_Rowblocks pm_Rowblocks an_Rowblocks cdv_Rowblocks ct_Rowblocks), osl_Rowblocks⟩)
    (cd_Rowblocks : codeIn K cdv_Rowblocks "Row.blocks" = true)
    (k_Rowblocks : keepIn K (.ref f_Rowblocks) = true)
    (a_Rowwithin : findIn K (.ref C_Row) "within" = some (some (.ref f_Rowwithin)))
    (i_Rowwithin : isFn K (.ref f_Rowwithin) = true)
    (l_Rowwithin : K.lookup f_Rowwithin = some ⟨oc_Rowwithin, od_Rowwithin, .func (fnOf "within" "Row.within" (C8.fnArgs s_Rowwithin) (C8.fnBody s_Rowwithin) (C8.fnScope s_Rowwithin) .none kV_Rowwithin doc_Rowwithin pm_Rowwithin an_Rowwithin cdv_Rowwithin ct_Rowwithin), osl_Rowwithin⟩)
    (cd_Rowwithin : codeIn K cdv_Rowwithin "Row.within" = true)
    (k_Rowwithin : keepIn K (.ref f_Rowwithin) = true)
    (a_Rowbetween : findIn K (.ref C_Row) "between" = some (some (.ref f_Rowbetween)))
    (i_Rowbetween : isFn K (.ref f_Rowbetween) = true)
    (l_Rowbetween : K.lookup f_Rowbetween = some ⟨oc_Rowbetween, od_Rowbetween, .func (fnOf "between" "Row.between" (C8.fnArgs s_Rowbetween) (C8.fnBody s_Rowbetween) (C8.fnScope s_Rowbetween) .none kV_Rowbetween doc_Rowbetween pm_Rowbetween an_Rowbetween cdv_Rowbetween ct_Rowbetween), osl_Rowbetween⟩)
    (cd_Rowbetween : codeIn K cdv_Rowbetween "Row.between" = true)
    (k_Rowbetween : keepIn K (.ref f_Rowbetween) = true)
    (a_Rowneed : findIn K (.ref C_Row) "need_index" = some (some (.ref f_Rowneed)))
    (i_Rowneed : isFn K (.ref f_Rowneed) = true)
    (l_Rowneed : K.lookup f_Rowneed = some ⟨oc_Rowneed, od_Rowneed, .func (fnOf "need_index" "Row.need_index" (C8.fnArgs s_Rowneed) (C8.fnBody s_Rowneed) (C8.fnScope s_Rowneed) .none kV_Rowneed doc_Rowneed pm_Rowneed an_Rowneed cdv_Rowneed ct_Rowneed), osl_Rowneed⟩)
    (cd_Rowneed : codeIn K cdv_Rowneed "Row.need_index" = true)
    (k_Rowneed : keepIn K (.ref f_Rowneed) = true)
    (a_Rowget : findIn K (.ref C_Row) "__getitem__" = some (some (.ref f_Rowget)))
    (i_Rowget : isFn K (.ref f_Rowget) = true)
    (l_Rowget : K.lookup f_Rowget = some ⟨oc_Rowget, od_Rowget, .func (fnOf "__getitem__" "Row.__getitem__" (C8.fnArgs s_Rowget) (C8.fnBody s_Rowget) (C8.fnScope s_Rowget) .none kV_Rowget doc_Rowget pm_Rowget an_Rowget cdv_Rowget ct_Rowget), osl_Rowget⟩)
    (cd_Rowget : codeIn K cdv_Rowget "Row.__getitem__" = true)
    (k_Rowget : keepIn K (.ref f_Rowget) = true)
    (a_Rowlen : findIn K (.ref C_Row) "__len__" = some (some (.ref f_Rowlen)))
    (i_Rowlen : isFn K (.ref f_Rowlen) = true)
    (l_Rowlen : K.lookup f_Rowlen = some ⟨oc_Rowlen, od_Rowlen, .func (fnOf "__len__" "Row.__len__" (C8.fnArgs s_Rowlen) (C8.fnBody s_Rowlen) (C8.fnScope s_Rowlen) .none kV_Rowlen doc_Rowlen pm_Rowlen an_Rowlen cdv_Rowlen ct_Rowlen), osl_Rowlen⟩)
    (cd_Rowlen : codeIn K cdv_Rowlen "Row.__len__" = true)
    (k_Rowlen : keepIn K (.ref f_Rowlen) = true)
    (a_Rowiter : findIn K (.ref C_Row) "__iter__" = some (some (.ref f_Rowiter)))
    (i_Rowiter : isFn K (.ref f_Rowiter) = true)
    (l_Rowiter : K.lookup f_Rowiter = some ⟨oc_Rowiter, od_Rowiter, .func (fnOf "__iter__" "Row.__iter__" (C8.fnArgs s_Rowiter) (C8.fnBody s_Rowiter) (C8.fnScope s_Rowiter) .none kV_Rowiter doc_Rowiter pm_Rowiter an_Rowiter cdv_Rowiter ct_Rowiter), osl_Rowiter⟩)
    (cd_Rowiter : codeIn K cdv_Rowiter "Row.__iter__" = true)
    (k_Rowiter : keepIn K (.ref f_Rowiter) = true)
    (a_Rowin : findIn K (.ref C_Row) "__contains__" = some (some (.ref f_Rowin)))
    (i_Rowin : isFn K (.ref f_Rowin) = true)
    (l_Rowin : K.lookup f_Rowin = some ⟨oc_Rowin, od_Rowin, .func (fnOf "__contains__" "Row.__contains__" (C8.fnArgs s_Rowin) (C8.fnBody s_Rowin) (C8.fnScope s_Rowin) .none kV_Rowin doc_Rowin pm_Rowin an_Rowin cdv_Rowin ct_Rowin), osl_Rowin⟩)
    (cd_Rowin : codeIn K cdv_Rowin "Row.__contains__" = true)
    (k_Rowin : keepIn K (.ref f_Rowin) = true)
    (a_Roweq : findIn K (.ref C_Row) "__eq__" = some (some (.ref f_Roweq)))
    (i_Roweq : isFn K (.ref f_Roweq) = true)
    (l_Roweq : K.lookup f_Roweq = some ⟨oc_Roweq, od_Roweq, .func (fnOf "__eq__" "Row.__eq__" (C8.fnArgs s_Roweq) (C8.fnBody s_Roweq) (C8.fnScope s_Roweq) .none kV_Roweq doc_Roweq pm_Roweq an_Roweq cdv_Roweq ct_Roweq), osl_Roweq⟩)
    (cd_Roweq : codeIn K cdv_Roweq "Row.__eq__" = true)
    (k_Roweq : keepIn K (.ref f_Roweq) = true)
    (a_pen : nsIn K mainGlobals "_law_pen" = some (some (.ref f_pen)))
    (l_pen : K.lookup f_pen = some ⟨oc_pen, od_pen, .func (fnOf "_law_pen" "_law_pen" (C8.fnArgs s_pen) (C8.fnBody s_pen) (C8.fnScope s_pen) .none kV_pen doc_pen pm_pen an_pen cdv_pen ct_pen), osl_pen⟩)
    (cd_pen : codeIn K cdv_pen "_law_pen" = true)
    (k_pen : keepIn K (.ref f_pen) = true)
    (a_draw : nsIn K mainGlobals "_law_draw" = some (some (.ref f_draw)))
    (l_draw : K.lookup f_draw = some ⟨oc_draw, od_draw, .func (fnOf "_law_draw" "_law_draw" (C8.fnArgs s_draw) (C8.fnBody s_draw) (C8.fnScope s_draw) .none kV_draw doc_draw pm_draw an_draw cdv_draw ct_draw), osl_draw⟩)
    (cd_draw : codeIn K cdv_draw "_law_draw" = true)
    (k_draw : keepIn K (.ref f_draw) = true)
    (a_pick : nsIn K mainGlobals "_law_pick" = some (some (.ref f_pick)))
    (l_pick : K.lookup f_pick = some ⟨oc_pick, od_pick, .func (fnOf "_law_pick" "_law_pick" (C8.fnArgs s_pick) (C8.fnBody s_pick) (C8.fnScope s_pick) .none kV_pick doc_pick pm_pick an_pick cdv_pick ct_pick), osl_pick⟩)
    (cd_pick : codeIn K cdv_pick "_law_pick" = true)
    (k_pick : keepIn K (.ref f_pick) = true)
    (a_pairs : nsIn K mainGlobals "_law_pairs" = some (some (.ref f_pairs)))
    (l_pairs : K.lookup f_pairs = some ⟨oc_pairs, od_pairs, .func (fnOf "_law_pairs" "_law_pairs" (C8.fnArgs s_pairs) (C8.fnBody s_pairs) (C8.fnScope s_pairs) .none kV_pairs doc_pairs pm_pairs an_pairs cdv_pairs ct_pairs), osl_pairs⟩)
    (cd_pairs : codeIn K cdv_pairs "_law_pairs" = true)
    (k_pairs : keepIn K (.ref f_pairs) = true)
    (a_values : nsIn K mainGlobals "_law_values" = some (some (.ref f_values)))
    (l_values : K.lookup f_values = some ⟨oc_values, od_values, .func (fnOf "_law_values" "_law_values" (C8.fnArgs s_values) (C8.fnBody s_values) (C8.fnScope s_values) .none kV_values doc_values pm_values an_values cdv_values ct_values), osl_values⟩)
    (cd_values : codeIn K cdv_values "_law_values" = true)
    (k_values : keepIn K (.ref f_values) = true)
    (a_told : nsIn K mainGlobals "_law_told" = some (some (.ref f_told)))
    (l_told : K.lookup f_told = some ⟨oc_told, od_told, .func (fnOf "_law_told" "_law_told" (C8.fnArgs s_told) (C8.fnBody s_told) (C8.fnScope s_told) .none kV_told doc_told pm_told an_told cdv_told ct_told), osl_told⟩)
    (cd_told : codeIn K cdv_told "_law_told" = true)
    (k_told : keepIn K (.ref f_told) = true)
    (a_heard : nsIn K mainGlobals "_law_heard" = some (some (.ref f_heard)))
    (l_heard : K.lookup f_heard = some ⟨oc_heard, od_heard, .func (fnOf "_law_heard" "_law_heard" (C8.fnArgs s_heard) (C8.fnBody s_heard) (C8.fnScope s_heard) .none kV_heard doc_heard pm_heard an_heard cdv_heard ct_heard), osl_heard⟩)
    (cd_heard : codeIn K cdv_heard "_law_heard" = true)
    (k_heard : keepIn K (.ref f_heard) = true)
    (a_lnum : nsIn K mainGlobals "_law_number" = some (some (.ref f_lnum)))
    (l_lnum : K.lookup f_lnum = some ⟨oc_lnum, od_lnum, .func (fnOf "_law_number" "_law_number" (C8.fnArgs s_lnum) (C8.fnBody s_lnum) (C8.fnScope s_lnum) .none kV_lnum doc_lnum pm_lnum an_lnum cdv_lnum ct_lnum), osl_lnum⟩)
    (cd_lnum : codeIn K cdv_lnum "_law_number" = true)
    (k_lnum : keepIn K (.ref f_lnum) = true)
    (a_lindex : nsIn K mainGlobals "_law_index" = some (some (.ref f_lindex)))
    (l_lindex : K.lookup f_lindex = some ⟨oc_lindex, od_lindex, .func (fnOf "_law_index" "_law_index" (C8.fnArgs s_lindex) (C8.fnBody s_lindex) (C8.fnScope s_lindex) .none kV_lindex doc_lindex pm_lindex an_lindex cdv_lindex ct_lindex), osl_lindex⟩)
    (cd_lindex : codeIn K cdv_lindex "_law_index" = true)
    (k_lindex : keepIn K (.ref f_lindex) = true)
    (a_placer : nsIn K mainGlobals "_law_places_right" = some (some (.ref f_placer)))
    (l_placer : K.lookup f_placer = some ⟨oc_placer, od_placer, .func (fnOf "_law_places_right" "_law_places_right" (C8.fnArgs s_placer) (C8.fnBody s_placer) (C8.fnScope s_placer) .none kV_placer doc_placer pm_placer an_placer (.ref cdv_placer) ct_placer), osl_placer⟩)
    (cd_placer : codeIn K (.ref cdv_placer) "_law_places_right" = true)
    (lk_placer : K.lookup cdv_placer = some ⟨ocl_placer, ocd_placer, .fields ovs_placer, ocs_placer⟩)
    (v11_placer : ovs_placer[11]? = some (.ref pt_placer))
    (ch_placer : codeHdIn K cdv_placer pt_placer = true)
    (pn_placer : K.lookup pt_placer = none)
    (tm_placer : pt_placer ∈ ts)
    (k_placer : keepIn K (.ref f_placer) = true)
    (a_lblocks : nsIn K mainGlobals "_law_blocks" = some (some (.ref f_lblocks)))
    (l_lblocks : K.lookup f_lblocks = some ⟨oc_lblocks, od_lblocks, .func (fnOf "_law_blocks" "_law_blocks" (C8.fnArgs s_lblocks) (C8.fnBody s_lblocks) (C8.fnScope s_lblocks) .none kV_lblocks doc_lblocks pm_lblocks an_lblocks cdv_lblocks ct_lblocks), osl_lblocks⟩)
    (cd_lblocks : codeIn K cdv_lblocks "_law_blocks" = true)
    (k_lblocks : keepIn K (.ref f_lblocks) = true)
    (a_memr : nsIn K mainGlobals "_law_members_right" = some (some (.ref f_memr)))
    (l_memr : K.lookup f_memr = some ⟨oc_memr, od_memr, .func (fnOf "_law_members_right" "_law_members_right" (C8.fnArgs s_memr) (C8.fnBody s_memr) (C8.fnScope s_memr) .none kV_memr doc_memr pm_memr an_memr cdv_memr ct_memr), osl_memr⟩)
    (cd_memr : codeIn K cdv_memr "_law_members_right" = true)
    (k_memr : keepIn K (.ref f_memr) = true)
    (a_compd : nsIn K mainGlobals "_law_compared" = some (some (.ref f_compd)))
    (l_compd : K.lookup f_compd = some ⟨oc_compd, od_compd, .func (fnOf "_law_compared" "_law_compared" (C8.fnArgs s_compd) (C8.fnBody s_compd) (C8.fnScope s_compd) .none kV_compd doc_compd pm_compd an_compd cdv_compd ct_compd), osl_compd⟩)
    (cd_compd : codeIn K cdv_compd "_law_compared" = true)
    (k_compd : keepIn K (.ref f_compd) = true)
    (a_law : nsIn K mainGlobals "law" = some (some (.ref f_law)))
    (l_law : K.lookup f_law = some ⟨oc_law, od_law, .func (fnOf "law" "law" (C8.fnArgs s_law) (C8.fnBody s_law) (C8.fnScope s_law) .none kV_law doc_law pm_law an_law cdv_law ct_law), osl_law⟩)
    (cd_law : codeIn K cdv_law "law" = true)
    (k_law : keepIn K (.ref f_law) = true)
    (nf_Row : nfB K (⟨clL [C_HeadsError, C_BadInput, C_Refused, C_BadItem, C_BadPlace, C_Disordered, C_TooMany, C_Item, C_Row, cdv_placer, pt_placer], [(pt_placer, (envOfC "_law_places_right" (C8.fnScope s_placer) 0 0 .none).qual ++ "<lambda>")], false, []⟩) 8 [(.own 8 : Ty), (.own 7 : Ty), (.non : Ty), (.list : Ty), (.int : Ty), (.str : Ty), (.tup : Ty)] = true)
    (nodup : [pt_placer].Nodup)
    (gni_Row : fnIn K f_Rowget = true)
    : ∃ (fd : FuncData) (tb : List (Addr × Addr)) (cl : CL), (∀ p ∈ tb, K.lookup p.2 = none ∧ CodeHd h p.1 p.2 ∧ h.get? p.2 = some { cls := .none, data := .fields #[] }) ∧ (∀ p ∈ cl.t, ∃ r ∈ tb, r.2 = p.1) ∧ (∀ (s : Shared) (v : Value), BindsTo s fd ⟨[v], []⟩ [("_law_script", v)]) ∧ ∀ base : Heap, (∀ p ∈ tb, LamX.TabB base mg p.1 p.2) → FnG P w K mg base 24 fa fd ["_law_script"] (Mr.spLaw cl K) := by
  have e := hfa.symm.trans (mg_of X G a_law)
  have ef : fa = f_law := by injection e with e; injection e
  rw [ef]
  have iC_Item : C8.InsC K C_Item := insB_ok bC_Item
  have cl_Item : Cls K C_Item := clsB_ok (Bool.and_eq_true_iff.mp bC_Item).1
  have iC_Row : C8.InsC K C_Row := insB_ok bC_Row
  have cl_Row : Cls K C_Row := clsB_ok (Bool.and_eq_true_iff.mp bC_Row).1
  have oe_BadItem : OexC K C_BadItem := oexB_ok ⟨_, _, _, _, _, _, _, _, _, _, _, _, _, _, _, lC_BadItem, rv_BadItem⟩ ob_BadItem
  have S_XBadItem : SupAt P K C_BadItem s_XBadItem "BadItem.__init__" f_XBadItem cc_XBadItem cda_XBadItem := ⟨oe_BadItem, z_super, i_XBadItem, ⟨_, _, _, _, _, _, _, l_XBadItem⟩, cd_XBadItem, ⟨_, _, _, _, _, _, lc_XBadItem, v2_XBadItem, fi_e_XBadItem⟩, ⟨_, _, _, le_XBadItem⟩, P_sup, su_XBadItem, iv_XBadItem, me_XBadItem, opq⟩
  have oe_BadPlace : OexC K C_BadPlace := oexB_ok ⟨_, _, _, _, _, _, _, _, _, _, _, _, _, _, _, lC_BadPlace, rv_BadPlace⟩ ob_BadPlace
  have S_XBadPlace : SupAt P K C_BadPlace s_XBadPlace "BadPlace.__init__" f_XBadPlace cc_XBadPlace cda_XBadPlace := ⟨oe_BadPlace, z_super, i_XBadPlace, ⟨_, _, _, _, _, _, _, l_XBadPlace⟩, cd_XBadPlace, ⟨_, _, _, _, _, _, lc_XBadPlace, v2_XBadPlace, fi_e_XBadPlace⟩, ⟨_, _, _, le_XBadPlace⟩, P_sup, su_XBadPlace, iv_XBadPlace, me_XBadPlace, opq⟩
  have oe_Disordered : OexC K C_Disordered := oexB_ok ⟨_, _, _, _, _, _, _, _, _, _, _, _, _, _, _, lC_Disordered, rv_Disordered⟩ ob_Disordered
  have S_XDisordered : SupAt P K C_Disordered s_XDisordered "Disordered.__init__" f_XDisordered cc_XDisordered cda_XDisordered := ⟨oe_Disordered, z_super, i_XDisordered, ⟨_, _, _, _, _, _, _, l_XDisordered⟩, cd_XDisordered, ⟨_, _, _, _, _, _, lc_XDisordered, v2_XDisordered, fi_e_XDisordered⟩, ⟨_, _, _, le_XDisordered⟩, P_sup, su_XDisordered, iv_XDisordered, me_XDisordered, opq⟩
  have oe_TooMany : OexC K C_TooMany := oexB_ok ⟨_, _, _, _, _, _, _, _, _, _, _, _, _, _, _, lC_TooMany, rv_TooMany⟩ ob_TooMany
  have S_XTooMany : SupAt P K C_TooMany s_XTooMany "TooMany.__init__" f_XTooMany cc_XTooMany cda_XTooMany := ⟨oe_TooMany, z_super, i_XTooMany, ⟨_, _, _, _, _, _, _, l_XTooMany⟩, cd_XTooMany, ⟨_, _, _, _, _, _, lc_XTooMany, v2_XTooMany, fi_e_XTooMany⟩, ⟨_, _, _, le_XTooMany⟩, P_sup, su_XTooMany, iv_XTooMany, me_XTooMany, opq⟩
  have F_isint : C8.Fun K "is_integer" "is_integer" s_isint f_isint (fnOf "is_integer" "is_integer" (C8.fnArgs s_isint) (C8.fnBody s_isint) (C8.fnScope s_isint) .none kV_isint doc_isint pm_isint an_isint cdv_isint ct_isint) := ⟨oc_isint, od_isint, _, _, _, _, _, _, _, _, rfl, l_isint, cd_isint⟩
  have b3_isint := F_isint.binds rfl (ps := ["value", "least", "most"]) fun _ _ _ _ _ _ us hl => match us, hl with | [_, _, _], _ => rfl
  have F_isrank : C8.Fun K "is_rank" "is_rank" s_isrank f_isrank (fnOf "is_rank" "is_rank" (C8.fnArgs s_isrank) (C8.fnBody s_isrank) (C8.fnScope s_isrank) .none kV_isrank doc_isrank pm_isrank an_isrank cdv_isrank ct_isrank) := ⟨oc_isrank, od_isrank, _, _, _, _, _, _, _, _, rfl, l_isrank, cd_isrank⟩
  have b1_isrank := F_isrank.binds rfl (ps := ["value"]) fun _ _ _ _ _ _ us hl => match us, hl with | [_], _ => rfl
  have F_isname : C8.Fun K "is_item_name" "is_item_name" s_isname f_isname (fnOf "is_item_name" "is_item_name" (C8.fnArgs s_isname) (C8.fnBody s_isname) (C8.fnScope s_isname) .none kV_isname doc_isname pm_isname an_isname cdv_isname ct_isname) := ⟨oc_isname, od_isname, _, _, _, _, _, _, _, _, rfl, l_isname, cd_isname⟩
  have b1_isname := F_isname.binds rfl (ps := ["value"]) fun _ _ _ _ _ _ us hl => match us, hl with | [_], _ => rfl
  have F_Iinit : C8.Fun K "__init__" "Item.__init__" s_Iinit f_Iinit (fnOf "__init__" "Item.__init__" (C8.fnArgs s_Iinit) (C8.fnBody s_Iinit) (C8.fnScope s_Iinit) (.ref D_Iinit) kV_Iinit doc_Iinit pm_Iinit an_Iinit cdv_Iinit ct_Iinit) := ⟨oc_Iinit, od_Iinit, _, _, _, _, _, _, _, _, rfl, l_Iinit, cd_Iinit⟩
  have FD_Iinit : FunD K "__init__" "Item.__init__" (C8.fnArgs s_Iinit) (C8.fnBody s_Iinit) (C8.fnScope s_Iinit) [.str ""] [] f_Iinit (fnOf "__init__" "Item.__init__" (C8.fnArgs s_Iinit) (C8.fnBody s_Iinit) (C8.fnScope s_Iinit) (.ref D_Iinit) kV_Iinit doc_Iinit pm_Iinit an_Iinit cdv_Iinit ct_Iinit) := ⟨⟨oc_Iinit, od_Iinit, _, _, _, _, _, _, _, _, rfl, l_Iinit, cd_Iinit, .inr ⟨by simp, D_Iinit, _, _, _, rfl, d_Iinit, rfl, (.cons ⟨_, rfl⟩ .nil)⟩, .inl rfl⟩, k_Iinit⟩
  obtain ⟨ds3_Iinit, v3_Iinit, b3_Iinit⟩ := FD_Iinit.binds1 (ps := ["self", "rank", "name"]) 3 1 (by simp) rfl fun _ _ _ _ _ _ _ us its hl hi => match us, its, hl, hi with | [_, _, _], [_], _, _ => ⟨_, rfl, rfl⟩
  obtain ⟨ds2_Iinit, v2_Iinit, b2_Iinit⟩ := FD_Iinit.binds1 (ps := ["self", "rank", "name"]) 2 0 (by simp) rfl fun _ _ _ _ _ _ _ us its hl hi => match us, its, hl, hi with | [_, _], [_], _, _ => ⟨_, rfl, rfl⟩
  have F_item_of : C8.Fun K "item_of" "item_of" s_item_of f_item_of (fnOf "item_of" "item_of" (C8.fnArgs s_item_of) (C8.fnBody s_item_of) (C8.fnScope s_item_of) .none kV_item_of doc_item_of pm_item_of an_item_of cdv_item_of ct_item_of) := ⟨oc_item_of, od_item_of, _, _, _, _, _, _, _, _, rfl, l_item_of, cd_item_of⟩
  have b2_item_of := F_item_of.binds rfl (ps := ["value", "at"]) fun _ _ _ _ _ _ us hl => match us, hl with | [_, _], _ => rfl
  have F_need_few : C8.Fun K "need_few" "need_few" s_need_few f_need_few (fnOf "need_few" "need_few" (C8.fnArgs s_need_few) (C8.fnBody s_need_few) (C8.fnScope s_need_few) .none kV_need_few doc_need_few pm_need_few an_need_few cdv_need_few ct_need_few) := ⟨oc_need_few, od_need_few, _, _, _, _, _, _, _, _, rfl, l_need_few, cd_need_few⟩
  have b1_need_few := F_need_few.binds rfl (ps := ["items"]) fun _ _ _ _ _ _ us hl => match us, hl with | [_], _ => rfl
  have F_need_ascending : C8.Fun K "need_ascending" "need_ascending" s_need_ascending f_need_ascending (fnOf "need_ascending" "need_ascending" (C8.fnArgs s_need_ascending) (C8.fnBody s_need_ascending) (C8.fnScope s_need_ascending) .none kV_need_ascending doc_need_ascending pm_need_ascending an_need_ascending cdv_need_ascending ct_need_ascending) := ⟨oc_need_ascending, od_need_ascending, _, _, _, _, _, _, _, _, rfl, l_need_ascending, cd_need_ascending⟩
  have b1_need_ascending := F_need_ascending.binds rfl (ps := ["items"]) fun _ _ _ _ _ _ us hl => match us, hl with | [_], _ => rfl
  have F_items_of : C8.Fun K "items_of" "items_of" s_items_of f_items_of (fnOf "items_of" "items_of" (C8.fnArgs s_items_of) (C8.fnBody s_items_of) (C8.fnScope s_items_of) .none kV_items_of doc_items_of pm_items_of an_items_of cdv_items_of ct_items_of) := ⟨oc_items_of, od_items_of, _, _, _, _, _, _, _, _, rfl, l_items_of, cd_items_of⟩
  have b1_items_of := F_items_of.binds rfl (ps := ["values"]) fun _ _ _ _ _ _ us hl => match us, hl with | [_], _ => rfl
  have F_behind_block : C8.Fun K "behind_block" "behind_block" s_behind_block f_behind_block (fnOf "behind_block" "behind_block" (C8.fnArgs s_behind_block) (C8.fnBody s_behind_block) (C8.fnScope s_behind_block) .none kV_behind_block doc_behind_block pm_behind_block an_behind_block cdv_behind_block ct_behind_block) := ⟨oc_behind_block, od_behind_block, _, _, _, _, _, _, _, _, rfl, l_behind_block, cd_behind_block⟩
  have b3_behind_block := F_behind_block.binds rfl (ps := ["items", "at", "rank"]) fun _ _ _ _ _ _ us hl => match us, hl with | [_, _, _], _ => rfl
  have F_chosen : C8.Fun K "chosen" "chosen" s_chosen f_chosen (fnOf "chosen" "chosen" (C8.fnArgs s_chosen) (C8.fnBody s_chosen) (C8.fnScope s_chosen) .none kV_chosen doc_chosen pm_chosen an_chosen cdv_chosen ct_chosen) := ⟨oc_chosen, od_chosen, _, _, _, _, _, _, _, _, rfl, l_chosen, cd_chosen⟩
  have b3_chosen := F_chosen.binds rfl (ps := ["word", "mine", "theirs"]) fun _ _ _ _ _ _ us hl => match us, hl with | [_, _, _], _ => rfl
  have F_Rowinit : C8.Fun K "__init__" "Row.__init__" s_Rowinit f_Rowinit (fnOf "__init__" "Row.__init__" (C8.fnArgs s_Rowinit) (C8.fnBody s_Rowinit) (C8.fnScope s_Rowinit) (.ref D_Rowinit) kV_Rowinit doc_Rowinit pm_Rowinit an_Rowinit cdv_Rowinit ct_Rowinit) := ⟨oc_Rowinit, od_Rowinit, _, _, _, _, _, _, _, _, rfl, l_Rowinit, cd_Rowinit⟩
  have FD_Rowinit : FunD K "__init__" "Row.__init__" (C8.fnArgs s_Rowinit) (C8.fnBody s_Rowinit) (C8.fnScope s_Rowinit) [.ref e_Rowinit0] [] f_Rowinit (fnOf "__init__" "Row.__init__" (C8.fnArgs s_Rowinit) (C8.fnBody s_Rowinit) (C8.fnScope s_Rowinit) (.ref D_Rowinit) kV_Rowinit doc_Rowinit pm_Rowinit an_Rowinit cdv_Rowinit ct_Rowinit) := ⟨⟨oc_Rowinit, od_Rowinit, _, _, _, _, _, _, _, _, rfl, l_Rowinit, cd_Rowinit, .inr ⟨by simp, D_Rowinit, _, _, _, rfl, d_Rowinit, rfl, (.cons rfl .nil)⟩, .inl rfl⟩, k_Rowinit⟩
  obtain ⟨ds2_Rowinit, v2_Rowinit, b2_Rowinit⟩ := FD_Rowinit.binds1 (ps := ["self", "items"]) 2 1 (by simp) rfl fun _ _ _ _ _ _ _ us its hl hi => match us, its, hl, hi with | [_, _], [_], _, _ => ⟨_, rfl, rfl⟩
  obtain ⟨ds1_Rowinit, v1_Rowinit, b1_Rowinit⟩ := FD_Rowinit.binds1 (ps := ["self", "items"]) 1 0 (by simp) rfl fun _ _ _ _ _ _ _ us its hl hi => match us, its, hl, hi with | [_], [_], _, _ => ⟨_, rfl, rfl⟩
  have F_Rowlstd : C8.Fun K "listed" "Row.listed" s_Rowlstd f_Rowlstd (fnOf "listed" "Row.listed" (C8.fnArgs s_Rowlstd) (C8.fnBody s_Rowlstd) (C8.fnScope s_Rowlstd) .none kV_Rowlstd doc_Rowlstd pm_Rowlstd an_Rowlstd cdv_Rowlstd ct_Rowlstd) := ⟨oc_Rowlstd, od_Rowlstd, _, _, _, _, _, _, _, _, rfl, l_Rowlstd, cd_Rowlstd⟩
  have b1_Rowlstd := F_Rowlstd.binds rfl (ps := ["self"]) fun _ _ _ _ _ _ us hl => match us, hl with | [_], _ => rfl
  have F_Rowranks : C8.Fun K "ranks" "Row.ranks" s_Rowranks f_Rowranks (fnOf "ranks" "Row.ranks" (C8.fnArgs s_Rowranks) (C8.fnBody s_Rowranks) (C8.fnScope s_Rowranks) .none kV_Rowranks doc_Rowranks pm_Rowranks an_Rowranks cdv_Rowranks ct_Rowranks) := ⟨oc_Rowranks, od_Rowranks, _, _, _, _, _, _, _, _, rfl, l_Rowranks, cd_Rowranks⟩
  have b1_Rowranks := F_Rowranks.binds rfl (ps := ["self"]) fun _ _ _ _ _ _ us hl => match us, hl with | [_], _ => rfl
  have F_Rownumber : C8.Fun K "number" "Row.number" s_Rownumber f_Rownumber (fnOf "number" "Row.number" (C8.fnArgs s_Rownumber) (C8.fnBody s_Rownumber) (C8.fnScope s_Rownumber) .none kV_Rownumber doc_Rownumber pm_Rownumber an_Rownumber cdv_Rownumber ct_Rownumber) := ⟨oc_Rownumber, od_Rownumber, _, _, _, _, _, _, _, _, rfl, l_Rownumber, cd_Rownumber⟩
  have b2_Rownumber := F_Rownumber.binds rfl (ps := ["self", "rank"]) fun _ _ _ _ _ _ us hl => match us, hl with | [_, _], _ => rfl
  have kb_Rownumber_0_rank := F_Rownumber.kbn (n := 1) (ps := ["self", "rank"]) (ks := ["rank"]) (gV := fun xs ys => [xs.getD 0 .non, ys.getD 0 .non]) (fun xs ys => [xs.getD 0 .none, ys.getD 0 .none]) rfl (fun _ _ _ _ _ _ us ws h1 h2 => match us, ws, h1, h2 with | [_], [_], _, _ => rfl) (fun r1 r2 => (.cons (valsD 0 r1) (.cons (valsD 0 r2) .nil)))
  have F_Rowblocks : C8.Fun K "blocks" "Row.blocks" s_Rowblocks f_Rowblocks (fnOf "blocks" "Row.blocks" (C8.fnArgs s_Rowblocks) (C8.fnBody s_Rowblocks) (C8.fnScope s_Rowblocks) .none kV_Rowblocks doc_Rowblocks pm_Rowblocks an_Rowblocks cdv_Rowblocks ct_Rowblocks) := ⟨oc_Rowblocks, od_Rowblocks, _, _, _, _, _, _, _, _, rfl, l_Rowblocks, cd_Rowblocks⟩
  have b1_Rowblocks := F_Rowblocks.binds rfl (ps := ["self"]) fun _ _ _ _ _ _ us hl => match us, hl with | [_], _ => rfl
  have F_Rowwithin : C8.Fun K "within" "Row.within" s_Rowwithin f_Rowwithin (fnOf "within" "Row.within" (C8.fnArgs s_Rowwithin) (C8.fnBody s_Rowwithin) (C8.fnScope s_Rowwithin) .none kV_Rowwithin doc_Rowwithin pm_Rowwithin an_Rowwithin cdv_Rowwithin ct_Rowwithin) := ⟨oc_Rowwithin, od_Rowwithin, _, _, _, _, _, _, _, _, rfl, l_Rowwithin, cd_Rowwithin⟩
  have b2_Rowwithin := F_Rowwithin.binds rfl (ps := ["self", "other"]) fun _ _ _ _ _ _ us hl => match us, hl with | [_, _], _ => rfl
  have kb_Rowwithin_0_other := F_Rowwithin.kbn (n := 1) (ps := ["self", "other"]) (ks := ["other"]) (gV := fun xs ys => [xs.getD 0 .non, ys.getD 0 .non]) (fun xs ys => [xs.getD 0 .none, ys.getD 0 .none]) rfl (fun _ _ _ _ _ _ us ws h1 h2 => match us, ws, h1, h2 with | [_], [_], _, _ => rfl) (fun r1 r2 => (.cons (valsD 0 r1) (.cons (valsD 0 r2) .nil)))
  have F_Rowbetween : C8.Fun K "between" "Row.between" s_Rowbetween f_Rowbetween (fnOf "between" "Row.between" (C8.fnArgs s_Rowbetween) (C8.fnBody s_Rowbetween) (C8.fnScope s_Rowbetween) .none kV_Rowbetween doc_Rowbetween pm_Rowbetween an_Rowbetween cdv_Rowbetween ct_Rowbetween) := ⟨oc_Rowbetween, od_Rowbetween, _, _, _, _, _, _, _, _, rfl, l_Rowbetween, cd_Rowbetween⟩
  have b3_Rowbetween := F_Rowbetween.binds rfl (ps := ["self", "first", "stop"]) fun _ _ _ _ _ _ us hl => match us, hl with | [_, _, _], _ => rfl
  have F_Rowneed : C8.Fun K "need_index" "Row.need_index" s_Rowneed f_Rowneed (fnOf "need_index" "Row.need_index" (C8.fnArgs s_Rowneed) (C8.fnBody s_Rowneed) (C8.fnScope s_Rowneed) .none kV_Rowneed doc_Rowneed pm_Rowneed an_Rowneed cdv_Rowneed ct_Rowneed) := ⟨oc_Rowneed, od_Rowneed, _, _, _, _, _, _, _, _, rfl, l_Rowneed, cd_Rowneed⟩
  have b2_Rowneed := F_Rowneed.binds rfl (ps := ["self", "at"]) fun _ _ _ _ _ _ us hl => match us, hl with | [_, _], _ => rfl
  have F_Rowget : C8.Fun K "__getitem__" "Row.__getitem__" s_Rowget f_Rowget (fnOf "__getitem__" "Row.__getitem__" (C8.fnArgs s_Rowget) (C8.fnBody s_Rowget) (C8.fnScope s_Rowget) .none kV_Rowget doc_Rowget pm_Rowget an_Rowget cdv_Rowget ct_Rowget) := ⟨oc_Rowget, od_Rowget, _, _, _, _, _, _, _, _, rfl, l_Rowget, cd_Rowget⟩
  have b2_Rowget := F_Rowget.binds rfl (ps := ["self", "at"]) fun _ _ _ _ _ _ us hl => match us, hl with | [_, _], _ => rfl
  have F_Rowlen : C8.Fun K "__len__" "Row.__len__" s_Rowlen f_Rowlen (fnOf "__len__" "Row.__len__" (C8.fnArgs s_Rowlen) (C8.fnBody s_Rowlen) (C8.fnScope s_Rowlen) .none kV_Rowlen doc_Rowlen pm_Rowlen an_Rowlen cdv_Rowlen ct_Rowlen) := ⟨oc_Rowlen, od_Rowlen, _, _, _, _, _, _, _, _, rfl, l_Rowlen, cd_Rowlen⟩
  have b1_Rowlen := F_Rowlen.binds rfl (ps := ["self"]) fun _ _ _ _ _ _ us hl => match us, hl with | [_], _ => rfl
  have F_Rowiter : C8.Fun K "__iter__" "Row.__iter__" s_Rowiter f_Rowiter (fnOf "__iter__" "Row.__iter__" (C8.fnArgs s_Rowiter) (C8.fnBody s_Rowiter) (C8.fnScope s_Rowiter) .none kV_Rowiter doc_Rowiter pm_Rowiter an_Rowiter cdv_Rowiter ct_Rowiter) := ⟨oc_Rowiter, od_Rowiter, _, _, _, _, _, _, _, _, rfl, l_Rowiter, cd_Rowiter⟩
  have b1_Rowiter := F_Rowiter.binds rfl (ps := ["self"]) fun _ _ _ _ _ _ us hl => match us, hl with | [_], _ => rfl
  have F_Rowin : C8.Fun K "__contains__" "Row.__contains__" s_Rowin f_Rowin (fnOf "__contains__" "Row.__contains__" (C8.fnArgs s_Rowin) (C8.fnBody s_Rowin) (C8.fnScope s_Rowin) .none kV_Rowin doc_Rowin pm_Rowin an_Rowin cdv_Rowin ct_Rowin) := ⟨oc_Rowin, od_Rowin, _, _, _, _, _, _, _, _, rfl, l_Rowin, cd_Rowin⟩
  have b2_Rowin := F_Rowin.binds rfl (ps := ["self", "x"]) fun _ _ _ _ _ _ us hl => match us, hl with | [_, _], _ => rfl
  have F_Roweq : C8.Fun K "__eq__" "Row.__eq__" s_Roweq f_Roweq (fnOf "__eq__" "Row.__eq__" (C8.fnArgs s_Roweq) (C8.fnBody s_Roweq) (C8.fnScope s_Roweq) .none kV_Roweq doc_Roweq pm_Roweq an_Roweq cdv_Roweq ct_Roweq) := ⟨oc_Roweq, od_Roweq, _, _, _, _, _, _, _, _, rfl, l_Roweq, cd_Roweq⟩
  have b2_Roweq := F_Roweq.binds rfl (ps := ["self", "other"]) fun _ _ _ _ _ _ us hl => match us, hl with | [_, _], _ => rfl
  have F_pen : C8.Fun K "_law_pen" "_law_pen" s_pen f_pen (fnOf "_law_pen" "_law_pen" (C8.fnArgs s_pen) (C8.fnBody s_pen) (C8.fnScope s_pen) .none kV_pen doc_pen pm_pen an_pen cdv_pen ct_pen) := ⟨oc_pen, od_pen, _, _, _, _, _, _, _, _, rfl, l_pen, cd_pen⟩
  have b1_pen := F_pen.binds rfl (ps := ["_law_script"]) fun _ _ _ _ _ _ us hl => match us, hl with | [_], _ => rfl
  have F_draw : C8.Fun K "_law_draw" "_law_draw" s_draw f_draw (fnOf "_law_draw" "_law_draw" (C8.fnArgs s_draw) (C8.fnBody s_draw) (C8.fnScope s_draw) .none kV_draw doc_draw pm_draw an_draw cdv_draw ct_draw) := ⟨oc_draw, od_draw, _, _, _, _, _, _, _, _, rfl, l_draw, cd_draw⟩
  have b2_draw := F_draw.binds rfl (ps := ["_law_pen_here", "_law_many"]) fun _ _ _ _ _ _ us hl => match us, hl with | [_, _], _ => rfl
  have F_pick : C8.Fun K "_law_pick" "_law_pick" s_pick f_pick (fnOf "_law_pick" "_law_pick" (C8.fnArgs s_pick) (C8.fnBody s_pick) (C8.fnScope s_pick) .none kV_pick doc_pick pm_pick an_pick cdv_pick ct_pick) := ⟨oc_pick, od_pick, _, _, _, _, _, _, _, _, rfl, l_pick, cd_pick⟩
  have b2_pick := F_pick.binds rfl (ps := ["_law_pen_here", "_law_some"]) fun _ _ _ _ _ _ us hl => match us, hl with | [_, _], _ => rfl
  have F_pairs : C8.Fun K "_law_pairs" "_law_pairs" s_pairs f_pairs (fnOf "_law_pairs" "_law_pairs" (C8.fnArgs s_pairs) (C8.fnBody s_pairs) (C8.fnScope s_pairs) .none kV_pairs doc_pairs pm_pairs an_pairs cdv_pairs ct_pairs) := ⟨oc_pairs, od_pairs, _, _, _, _, _, _, _, _, rfl, l_pairs, cd_pairs⟩
  have b2_pairs := F_pairs.binds rfl (ps := ["_law_pen_here", "_law_most"]) fun _ _ _ _ _ _ us hl => match us, hl with | [_, _], _ => rfl
  have F_values : C8.Fun K "_law_values" "_law_values" s_values f_values (fnOf "_law_values" "_law_values" (C8.fnArgs s_values) (C8.fnBody s_values) (C8.fnScope s_values) .none kV_values doc_values pm_values an_values cdv_values ct_values) := ⟨oc_values, od_values, _, _, _, _, _, _, _, _, rfl, l_values, cd_values⟩
  have b2_values := F_values.binds rfl (ps := ["_law_pen_here", "_law_pairs_here"]) fun _ _ _ _ _ _ us hl => match us, hl with | [_, _], _ => rfl
  have F_told : C8.Fun K "_law_told" "_law_told" s_told f_told (fnOf "_law_told" "_law_told" (C8.fnArgs s_told) (C8.fnBody s_told) (C8.fnScope s_told) .none kV_told doc_told pm_told an_told cdv_told ct_told) := ⟨oc_told, od_told, _, _, _, _, _, _, _, _, rfl, l_told, cd_told⟩
  have b1_told := F_told.binds rfl (ps := ["_law_listed"]) fun _ _ _ _ _ _ us hl => match us, hl with | [_], _ => rfl
  have F_heard : C8.Fun K "_law_heard" "_law_heard" s_heard f_heard (fnOf "_law_heard" "_law_heard" (C8.fnArgs s_heard) (C8.fnBody s_heard) (C8.fnScope s_heard) .none kV_heard doc_heard pm_heard an_heard cdv_heard ct_heard) := ⟨oc_heard, od_heard, _, _, _, _, _, _, _, _, rfl, l_heard, cd_heard⟩
  have b1_heard := F_heard.binds rfl (ps := ["_law_ask"]) fun _ _ _ _ _ _ us hl => match us, hl with | [_], _ => rfl
  have F_lnum : C8.Fun K "_law_number" "_law_number" s_lnum f_lnum (fnOf "_law_number" "_law_number" (C8.fnArgs s_lnum) (C8.fnBody s_lnum) (C8.fnScope s_lnum) .none kV_lnum doc_lnum pm_lnum an_lnum cdv_lnum ct_lnum) := ⟨oc_lnum, od_lnum, _, _, _, _, _, _, _, _, rfl, l_lnum, cd_lnum⟩
  have b2_lnum := F_lnum.binds rfl (ps := ["_law_pairs_here", "_law_height"]) fun _ _ _ _ _ _ us hl => match us, hl with | [_, _], _ => rfl
  have F_lindex : C8.Fun K "_law_index" "_law_index" s_lindex f_lindex (fnOf "_law_index" "_law_index" (C8.fnArgs s_lindex) (C8.fnBody s_lindex) (C8.fnScope s_lindex) .none kV_lindex doc_lindex pm_lindex an_lindex cdv_lindex ct_lindex) := ⟨oc_lindex, od_lindex, _, _, _, _, _, _, _, _, rfl, l_lindex, cd_lindex⟩
  have b2_lindex := F_lindex.binds rfl (ps := ["_law_pen_here", "_law_many"]) fun _ _ _ _ _ _ us hl => match us, hl with | [_, _], _ => rfl
  have F_placer : C8.Fun K "_law_places_right" "_law_places_right" s_placer f_placer (fnOf "_law_places_right" "_law_places_right" (C8.fnArgs s_placer) (C8.fnBody s_placer) (C8.fnScope s_placer) .none kV_placer doc_placer pm_placer an_placer (.ref cdv_placer) ct_placer) := ⟨oc_placer, od_placer, _, _, _, _, _, _, _, _, rfl, l_placer, cd_placer⟩
  have b3_placer := F_placer.binds rfl (ps := ["_law_pen_here", "_law_row", "_law_pairs_here"]) fun _ _ _ _ _ _ us hl => match us, hl with | [_, _, _], _ => rfl
  have F_lblocks : C8.Fun K "_law_blocks" "_law_blocks" s_lblocks f_lblocks (fnOf "_law_blocks" "_law_blocks" (C8.fnArgs s_lblocks) (C8.fnBody s_lblocks) (C8.fnScope s_lblocks) .none kV_lblocks doc_lblocks pm_lblocks an_lblocks cdv_lblocks ct_lblocks) := ⟨oc_lblocks, od_lblocks, _, _, _, _, _, _, _, _, rfl, l_lblocks, cd_lblocks⟩
  have b1_lblocks := F_lblocks.binds rfl (ps := ["_law_pairs_here"]) fun _ _ _ _ _ _ us hl => match us, hl with | [_], _ => rfl
  have F_memr : C8.Fun K "_law_members_right" "_law_members_right" s_memr f_memr (fnOf "_law_members_right" "_law_members_right" (C8.fnArgs s_memr) (C8.fnBody s_memr) (C8.fnScope s_memr) .none kV_memr doc_memr pm_memr an_memr cdv_memr ct_memr) := ⟨oc_memr, od_memr, _, _, _, _, _, _, _, _, rfl, l_memr, cd_memr⟩
  have b3_memr := F_memr.binds rfl (ps := ["_law_pen_here", "_law_row", "_law_pairs_here"]) fun _ _ _ _ _ _ us hl => match us, hl with | [_, _, _], _ => rfl
  have F_compd : C8.Fun K "_law_compared" "_law_compared" s_compd f_compd (fnOf "_law_compared" "_law_compared" (C8.fnArgs s_compd) (C8.fnBody s_compd) (C8.fnScope s_compd) .none kV_compd doc_compd pm_compd an_compd cdv_compd ct_compd) := ⟨oc_compd, od_compd, _, _, _, _, _, _, _, _, rfl, l_compd, cd_compd⟩
  have b3_compd := F_compd.binds rfl (ps := ["_law_pen_here", "_law_row", "_law_pairs_here"]) fun _ _ _ _ _ _ us hl => match us, hl with | [_, _, _], _ => rfl
  have F_law : C8.Fun K "law" "law" s_law f_law (fnOf "law" "law" (C8.fnArgs s_law) (C8.fnBody s_law) (C8.fnScope s_law) .none kV_law doc_law pm_law an_law cdv_law ct_law) := ⟨oc_law, od_law, _, _, _, _, _, _, _, _, rfl, l_law, cd_law⟩
  have b1_law := F_law.binds rfl (ps := ["_law_script"]) fun _ _ _ _ _ _ us hl => match us, hl with | [_], _ => rfl
  have T : ∀ base : Heap, (∀ p ∈ ([(cdv_placer, pt_placer)] : List (Addr × Addr)), LamX.TabB base mg p.1 p.2) → Txt K w mg (⟨clL [C_HeadsError, C_BadInput, C_Refused, C_BadItem, C_BadPlace, C_Disordered, C_TooMany, C_Item, C_Row, cdv_placer, pt_placer], [(pt_placer, (envOfC "_law_places_right" (C8.fnScope s_placer) 0 0 .none).qual ++ "<lambda>")], false, []⟩) base := fun base TB => {
    pend := rfl,
    n_len := mg_none_of X G z_len,
    n_abs := mg_none_of X G z_abs,
    n_int := mg_none_of X G z_int,
    n_list := mg_none_of X G z_list,
    n_tuple := mg_none_of X G z_tuple,
    n_repr := mg_none_of X G z_repr,
    n_str := mg_none_of X G z_str,
    n_range := mg_none_of X G z_range,
    n_isinstance := mg_none_of X G z_isinstance,
    n_all := mg_none_of X G z_all,
    n_bool := mg_none_of X G z_bool,
    n_sorted := mg_none_of X G z_sorted,
    n_super := mg_none_of X G z_super,
    n_enumerate := mg_none_of X G z_enumerate,
    n_iter := mg_none_of X G z_iter,
    n_ValueError := mg_none_of X G z_ValueError,
    mx_HeadsError := mg_of X G aC_HeadsError,
    mx_BadInput := mg_of X G aC_BadInput,
    mx_Refused := mg_of X G aC_Refused,
    mx_BadItem := mg_of X G aC_BadItem,
    mx_BadPlace := mg_of X G aC_BadPlace,
    mx_Disordered := mg_of X G aC_Disordered,
    mx_TooMany := mg_of X G aC_TooMany,
    mx_Item := mg_of X G aC_Item,
    mx_Row := mg_of X G aC_Row,
    fld_rank := (all_cons ⟨cl_Item, na_Item_rank⟩ all_nil),
    fld_name := (all_cons ⟨cl_Item, na_Item_name⟩ all_nil),
    fld_held := (all_cons ⟨cl_Row, na_Row_held⟩ all_nil),
    oex_BadItem := oe_BadItem,
    xf_BadItem := excB_xf eb_BadItem,
    na_BadItem_part := na_BadItem_part,
    x_BadItem := xc_BadItem S_XBadItem na_BadItem_part,
    oex_BadPlace := oe_BadPlace,
    xf_BadPlace := excB_xf eb_BadPlace,
    na_BadPlace_at := na_BadPlace_at,
    x_BadPlace := xc_BadPlace S_XBadPlace na_BadPlace_at,
    oex_Disordered := oe_Disordered,
    xf_Disordered := excB_xf eb_Disordered,
    na_Disordered_at := na_Disordered_at,
    x_Disordered := xc_Disordered S_XDisordered na_Disordered_at,
    oex_TooMany := oe_TooMany,
    xf_TooMany := excB_xf eb_TooMany,
    na_TooMany_most := na_TooMany_most,
    x_TooMany := xc_TooMany S_XTooMany na_TooMany_most,
    em_HeadsError := exm_all em_HeadsError,
    wc := ⟨kit_all kit, (all_cons iC_Item (all_cons iC_Row all_nil)), (all_cons (excB_ok eb_BadItem) (all_cons (excB_ok eb_BadPlace) (all_cons (excB_ok eb_Disordered) (all_cons (excB_ok eb_TooMany) all_nil))))⟩,
    g_LETTERS := ⟨_, mg_of X G g_LETTERS, ⟨_, rfl⟩⟩,
    g_MOST_LETTERS := ⟨_, mg_of X G g_MOST_LETTERS, ⟨_, rfl⟩⟩,
    g_GREATEST := ⟨_, mg_of X G g_GREATEST, ⟨_, rfl⟩⟩,
    g_MOST_ITEMS := ⟨_, mg_of X G g_MOST_ITEMS, ⟨_, rfl⟩⟩,
    d_isint := ⟨_, _, _, F_isint, mg_of X G a_isint, k_isint, b3_isint, .nil⟩,
    d_isrank := ⟨_, _, _, F_isrank, mg_of X G a_isrank, k_isrank, b1_isrank, .nil⟩,
    d_isname := ⟨_, _, _, F_isname, mg_of X G a_isname, k_isname, b1_isname, .nil⟩,
    d_Iinit := ⟨_, _, _, ⟨mkC_Item, a_Iinit, i_Iinit, kcC_Item⟩, F_Iinit, mg_of X G aC_Item, b3_Iinit, v3_Iinit⟩,
    d1_Iinit := ⟨_, _, _, ⟨mkC_Item, a_Iinit, i_Iinit, kcC_Item⟩, F_Iinit, mg_of X G aC_Item, b2_Iinit, v2_Iinit⟩,
    d_item_of := ⟨_, _, _, F_item_of, mg_of X G a_item_of, k_item_of, b2_item_of, .nil⟩,
    d_need_few := ⟨_, _, _, F_need_few, mg_of X G a_need_few, k_need_few, b1_need_few, .nil⟩,
    d_need_ascending := ⟨_, _, _, F_need_ascending, mg_of X G a_need_ascending, k_need_ascending, b1_need_ascending, .nil⟩,
    d_items_of := ⟨_, _, _, F_items_of, mg_of X G a_items_of, k_items_of, b1_items_of, .nil⟩,
    d_behind_block := ⟨_, _, _, F_behind_block, mg_of X G a_behind_block, k_behind_block, b3_behind_block, .nil⟩,
    d_chosen := ⟨_, _, _, F_chosen, mg_of X G a_chosen, k_chosen, b3_chosen, .nil⟩,
    d_Rowinit := ⟨_, _, _, ⟨mkC_Row, a_Rowinit, i_Rowinit, kcC_Row⟩, F_Rowinit, mg_of X G aC_Row, b2_Rowinit, v2_Rowinit⟩,
    d0_Rowinit := ⟨_, ⟨_, _, _, ⟨mkC_Row, a_Rowinit, i_Rowinit, kcC_Row⟩, F_Rowinit, mg_of X G aC_Row, b1_Rowinit, v1_Rowinit⟩, fun _ _ _ => .cons (.tupK (vs := []) le_Rowinit0 rfl rfl (show 0 ≤ sizeLine by decide) .nil .nil) .nil⟩,
    d_Rowlstd := ⟨_, _, _, cl_Row, ⟨a_Rowlstd, i_Rowlstd, k_Rowlstd⟩, F_Rowlstd, b1_Rowlstd, .nil⟩,
    d_Rowranks := ⟨_, _, _, cl_Row, ⟨a_Rowranks, i_Rowranks, k_Rowranks⟩, F_Rowranks, b1_Rowranks, .nil⟩,
    d_Rownumber := ⟨_, _, _, cl_Row, ⟨a_Rownumber, i_Rownumber, k_Rownumber⟩, F_Rownumber, b2_Rownumber, .nil⟩,
    dk_Rownumber_0_rank := ⟨_, _, _, cl_Row, ⟨a_Rownumber, i_Rownumber, k_Rownumber⟩, F_Rownumber, kb_Rownumber_0_rank⟩,
    d_Rowblocks := ⟨_, _, _, cl_Row, ⟨a_Rowblocks, i_Rowblocks, k_Rowblocks⟩, F_Rowblocks, b1_Rowblocks, .nil⟩,
    d_Rowwithin := ⟨_, _, _, cl_Row, ⟨a_Rowwithin, i_Rowwithin, k_Rowwithin⟩, F_Rowwithin, b2_Rowwithin, .nil⟩,
    dk_Rowwithin_0_other := ⟨_, _, _, cl_Row, ⟨a_Rowwithin, i_Rowwithin, k_Rowwithin⟩, F_Rowwithin, kb_Rowwithin_0_other⟩,
    d_Rowbetween := ⟨_, _, _, cl_Row, ⟨a_Rowbetween, i_Rowbetween, k_Rowbetween⟩, F_Rowbetween, b3_Rowbetween, .nil⟩,
    d_Rowneed := ⟨_, _, _, cl_Row, ⟨a_Rowneed, i_Rowneed, k_Rowneed⟩, F_Rowneed, b2_Rowneed, .nil⟩,
    d_Rowget := ⟨_, _, _, cl_Row, ⟨a_Rowget, i_Rowget, k_Rowget⟩, F_Rowget, b2_Rowget, .nil⟩,
    d_Rowlen := ⟨_, _, _, cl_Row, ⟨a_Rowlen, i_Rowlen, k_Rowlen⟩, F_Rowlen, b1_Rowlen, .nil⟩,
    d_Rowiter := ⟨_, _, _, cl_Row, ⟨a_Rowiter, i_Rowiter, k_Rowiter⟩, F_Rowiter, b1_Rowiter, .nil⟩,
    d_Rowin := ⟨_, _, _, cl_Row, ⟨a_Rowin, i_Rowin, k_Rowin⟩, F_Rowin, b2_Rowin, .nil⟩,
    d_Roweq := ⟨_, _, _, cl_Row, ⟨a_Roweq, i_Roweq, k_Roweq⟩, F_Roweq, b2_Roweq, .nil⟩,
    d_pen := ⟨_, _, _, F_pen, mg_of X G a_pen, k_pen, b1_pen, .nil⟩,
    d_draw := ⟨_, _, _, F_draw, mg_of X G a_draw, k_draw, b2_draw, .nil⟩,
    d_pick := ⟨_, _, _, F_pick, mg_of X G a_pick, k_pick, b2_pick, .nil⟩,
    d_pairs := ⟨_, _, _, F_pairs, mg_of X G a_pairs, k_pairs, b2_pairs, .nil⟩,
    d_values := ⟨_, _, _, F_values, mg_of X G a_values, k_values, b2_values, .nil⟩,
    d_told := ⟨_, _, _, F_told, mg_of X G a_told, k_told, b1_told, .nil⟩,
    d_heard := ⟨_, _, _, F_heard, mg_of X G a_heard, k_heard, b1_heard, .nil⟩,
    d_lnum := ⟨_, _, _, F_lnum, mg_of X G a_lnum, k_lnum, b2_lnum, .nil⟩,
    d_lindex := ⟨_, _, _, F_lindex, mg_of X G a_lindex, k_lindex, b2_lindex, .nil⟩,
    tb_placer := TB (cdv_placer, pt_placer) (.head _),
    tm_placer := (.head _),
    tu_placer := tab_one (.head _) nodup,
    d_placer := ⟨_, _, _, F_placer, mg_of X G a_placer, k_placer, b3_placer, .nil, rfl⟩,
    d_lblocks := ⟨_, _, _, F_lblocks, mg_of X G a_lblocks, k_lblocks, b1_lblocks, .nil⟩,
    d_memr := ⟨_, _, _, F_memr, mg_of X G a_memr, k_memr, b3_memr, .nil⟩,
    d_compd := ⟨_, _, _, F_compd, mg_of X G a_compd, k_compd, b3_compd, .nil⟩,
    d_law := ⟨_, _, _, F_law, mg_of X G a_law, k_law, b1_law, .nil⟩,
    nf_Row := nf_all nf_Row,
    gi_Row := fun f e => by have z := a_Rowget.symm.trans e; injection z with z; injection z with z; injection z with z; subst z; exact gni_Row }
  refine ⟨fnOf "law" "law" (C8.fnArgs s_law) (C8.fnBody s_law) (C8.fnScope s_law) .none kV_law doc_law pm_law an_law cdv_law ct_law, [(cdv_placer, pt_placer)], ⟨clL [C_HeadsError, C_BadInput, C_Refused, C_BadItem, C_BadPlace, C_Disordered, C_TooMany, C_Item, C_Row, cdv_placer, pt_placer], [(pt_placer, (envOfC "_law_places_right" (C8.fnScope s_placer) 0 0 .none).qual ++ "<lambda>")], false, []⟩, (List.forall_mem_cons.mpr ⟨⟨pn_placer, codeHd_of_K X ch_placer, tY _ tm_placer⟩, (fun _ h => nomatch h)⟩), (List.forall_mem_cons.mpr ⟨⟨_, (.head _), rfl⟩, (fun _ h => nomatch h)⟩), fun s v => .of_eq rfl, fun base TB => ?_⟩
  exact fn_law (base := base) (T base TB) F_law
end M04
open PySem PySem.W PyProof.Rows in
set_option maxRecDepth 100000 in
set_option maxHeartbeats 0 in
theorem PySem.Challenge.cw_twoheads_k04_rows_read_holds : PySem.Challenge.rw_twoheads_k04_rows_read.Holds := by
  w_on; o_law; k_head; (case hw => w_witness2)
  k_fill
  refine Mr.lawT (l := PySem.Challenge.rw_twoheads_k04_rows_read) (k := 24) (x := "_law_script") (n := 63) rfl (by decide) rfl (Tw.rm_caller (by decide) (by decide)) (fun w h Y => km_in_of Y) ?F
  case F =>
    intro w mg fa h Y KX G hmg
    have am := @M04.all_mk
    rw [M04.P_def] at am
    refine' am KX G hmg (km_tabs_of Y) ?z_len ?z_abs ?z_int ?z_list ?z_tuple ?z_repr ?z_str ?z_range ?z_isinstance ?z_all ?z_bool ?z_sorted ?z_super ?z_enumerate ?z_iter ?z_ValueError ?aC_HeadsError ?aC_BadInput ?aC_Refused ?aC_BadItem ?aC_BadPlace ?aC_Disordered ?aC_TooMany ?aC_Item ?aC_Row ?bC_Item ?na_Item_rank ?na_Item_name ?bC_Row ?na_Row_held ?lC_BadItem ?rv_BadItem ?ob_BadItem ?eb_BadItem ?na_BadItem_part ?i_XBadItem ?l_XBadItem ?cd_XBadItem ?lc_XBadItem ?v2_XBadItem ?fi_e_XBadItem ?le_XBadItem ?su_XBadItem ?iv_XBadItem ?me_XBadItem ?opq ?lC_BadPlace ?rv_BadPlace ?ob_BadPlace ?eb_BadPlace ?na_BadPlace_at ?i_XBadPlace ?l_XBadPlace ?cd_XBadPlace ?lc_XBadPlace ?v2_XBadPlace ?fi_e_XBadPlace ?le_XBadPlace ?su_XBadPlace ?iv_XBadPlace ?me_XBadPlace ?lC_Disordered ?rv_Disordered ?ob_Disordered ?eb_Disordered ?na_Disordered_at ?i_XDisordered ?l_XDisordered ?cd_XDisordered ?lc_XDisordered ?v2_XDisordered ?fi_e_XDisordered ?le_XDisordered ?su_XDisordered ?iv_XDisordered ?me_XDisordered ?lC_TooMany ?rv_TooMany ?ob_TooMany ?eb_TooMany ?na_TooMany_most ?i_XTooMany ?l_XTooMany ?cd_XTooMany ?lc_XTooMany ?v2_XTooMany ?fi_e_XTooMany ?le_XTooMany ?su_XTooMany ?iv_XTooMany ?me_XTooMany ?em_HeadsError ?kit ?g_LETTERS ?g_MOST_LETTERS ?g_GREATEST ?g_MOST_ITEMS ?a_isint ?l_isint ?cd_isint ?k_isint ?a_isrank ?l_isrank ?cd_isrank ?k_isrank ?a_isname ?l_isname ?cd_isname ?k_isname ?a_Iinit ?i_Iinit ?l_Iinit ?cd_Iinit ?k_Iinit ?d_Iinit ?mkC_Item ?kcC_Item ?a_item_of ?l_item_of ?cd_item_of ?k_item_of ?a_need_few ?l_need_few ?cd_need_few ?k_need_few ?a_need_ascending ?l_need_ascending ?cd_need_ascending ?k_need_ascending ?a_items_of ?l_items_of ?cd_items_of ?k_items_of ?a_behind_block ?l_behind_block ?cd_behind_block ?k_behind_block ?a_chosen ?l_chosen ?cd_chosen ?k_chosen ?a_Rowinit ?i_Rowinit ?l_Rowinit ?cd_Rowinit ?k_Rowinit ?d_Rowinit ?mkC_Row ?kcC_Row ?le_Rowinit0 ?a_Rowlstd ?i_Rowlstd ?l_Rowlstd ?cd_Rowlstd ?k_Rowlstd ?a_Rowranks ?i_Rowranks ?l_Rowranks ?cd_Rowranks ?k_Rowranks ?a_Rownumber ?i_Rownumber ?l_Rownumber ?cd_Rownumber ?k_Rownumber ?a_Rowblocks ?i_Rowblocks ?l_Rowblocks ?cd_Rowblocks ?k_Rowblocks ?a_Rowwithin ?i_Rowwithin ?l_Rowwithin ?cd_Rowwithin ?k_Rowwithin ?a_Rowbetween ?i_Rowbetween ?l_Rowbetween ?cd_Rowbetween ?k_Rowbetween ?a_Rowneed ?i_Rowneed ?l_Rowneed ?cd_Rowneed ?k_Rowneed ?a_Rowget ?i_Rowget ?l_Rowget ?cd_Rowget ?k_Rowget ?a_Rowlen ?i_Rowlen ?l_Rowlen ?cd_Rowlen ?k_Rowlen ?a_Rowiter ?i_Rowiter ?l_Rowiter ?cd_Rowiter ?k_Rowiter ?a_Rowin ?i_Rowin ?l_Rowin ?cd_Rowin ?k_Rowin ?a_Roweq ?i_Roweq ?l_Roweq ?cd_Roweq ?k_Roweq ?a_pen ?l_pen ?cd_pen ?k_pen ?a_draw ?l_draw ?cd_draw ?k_draw ?a_pick ?l_pick ?cd_pick ?k_pick ?a_pairs ?l_pairs ?cd_pairs ?k_pairs ?a_values ?l_values ?cd_values ?k_values ?a_told ?l_told ?cd_told ?k_told ?a_heard ?l_heard ?cd_heard ?k_heard ?a_lnum ?l_lnum ?cd_lnum ?k_lnum ?a_lindex ?l_lindex ?cd_lindex ?k_lindex ?a_placer ?l_placer ?cd_placer ?lk_placer ?v11_placer ?ch_placer ?pn_placer ?tm_placer ?k_placer ?a_lblocks ?l_lblocks ?cd_lblocks ?k_lblocks ?a_memr ?l_memr ?cd_memr ?k_memr ?a_compd ?l_compd ?cd_compd ?k_compd ?a_law ?l_law ?cd_law ?k_law ?nf_Row ?nodup ?gni_Row
    (case z_len => k_is)
    (case z_abs => k_is)
    (case z_int => k_is)
    (case z_list => k_is)
    (case z_tuple => k_is)
    (case z_repr => k_is)
    (case z_str => k_is)
    (case z_range => k_is)
    (case z_isinstance => k_is)
    (case z_all => k_is)
    (case z_bool => k_is)
    (case z_sorted => k_is)
    (case z_super => k_is)
    (case z_enumerate => k_is)
    (case z_iter => k_is)
    (case z_ValueError => k_is)
    (case aC_HeadsError => k_is)
    (case aC_BadInput => k_is)
    (case aC_Refused => k_is)
    (case aC_BadItem => k_is)
    (case aC_BadPlace => k_is)
    (case aC_Disordered => k_is)
    (case aC_TooMany => k_is)
    (case aC_Item => k_is)
    (case aC_Row => k_is)
    (case na_Item_rank => k_is)
    (case na_Item_name => k_is)
    (case na_Row_held => k_is)
    (case lC_BadItem => k_is)
    (case na_BadItem_part => k_is)
    (case i_XBadItem => k_is)
    (case l_XBadItem => k_is)
    (case cd_XBadItem => k_is)
    (case lc_XBadItem => k_is)
    (case le_XBadItem => k_is)
    (case iv_XBadItem => k_is)
    (case me_XBadItem => k_is)
    (case opq => k_is)
    (case lC_BadPlace => k_is)
    (case na_BadPlace_at => k_is)
    (case i_XBadPlace => k_is)
    (case l_XBadPlace => k_is)
    (case cd_XBadPlace => k_is)
    (case lc_XBadPlace => k_is)
    (case le_XBadPlace => k_is)
    (case iv_XBadPlace => k_is)
    (case me_XBadPlace => k_is)
    (case lC_Disordered => k_is)
    (case na_Disordered_at => k_is)
    (case i_XDisordered => k_is)
    (case l_XDisordered => k_is)
    (case cd_XDisordered => k_is)
    (case lc_XDisordered => k_is)
    (case le_XDisordered => k_is)
    (case iv_XDisordered => k_is)
    (case me_XDisordered => k_is)
    (case lC_TooMany => k_is)
    (case na_TooMany_most => k_is)
    (case i_XTooMany => k_is)
    (case l_XTooMany => k_is)
    (case cd_XTooMany => k_is)
    (case lc_XTooMany => k_is)
    (case le_XTooMany => k_is)
    (case iv_XTooMany => k_is)
    (case me_XTooMany => k_is)
    (case g_LETTERS => k_is)
    (case g_MOST_LETTERS => k_is)
    (case g_GREATEST => k_is)
    (case g_MOST_ITEMS => k_is)
    (case a_isint => k_is)
    (case l_isint => k_is)
    (case cd_isint => k_is)
    (case k_isint => k_is)
    (case a_isrank => k_is)
    (case l_isrank => k_is)
    (case cd_isrank => k_is)
    (case k_isrank => k_is)
    (case a_isname => k_is)
    (case l_isname => k_is)
    (case cd_isname => k_is)
    (case k_isname => k_is)
    (case a_Iinit => k_is)
    (case i_Iinit => k_is)
    (case l_Iinit => k_is)
    (case cd_Iinit => k_is)
    (case k_Iinit => k_is)
    (case d_Iinit => k_is)
    (case mkC_Item => k_is)
    (case kcC_Item => k_is)
    (case a_item_of => k_is)
    (case l_item_of => k_is)
    (case cd_item_of => k_is)
    (case k_item_of => k_is)
    (case a_need_few => k_is)
    (case l_need_few => k_is)
    (case cd_need_few => k_is)
    (case k_need_few => k_is)
    (case a_need_ascending => k_is)
    (case l_need_ascending => k_is)
    (case cd_need_ascending => k_is)
    (case k_need_ascending => k_is)
    (case a_items_of => k_is)
    (case l_items_of => k_is)
    (case cd_items_of => k_is)
    (case k_items_of => k_is)
    (case a_behind_block => k_is)
    (case l_behind_block => k_is)
    (case cd_behind_block => k_is)
    (case k_behind_block => k_is)
    (case a_chosen => k_is)
    (case l_chosen => k_is)
    (case cd_chosen => k_is)
    (case k_chosen => k_is)
    (case a_Rowinit => k_is)
    (case i_Rowinit => k_is)
    (case l_Rowinit => k_is)
    (case cd_Rowinit => k_is)
    (case k_Rowinit => k_is)
    (case d_Rowinit => k_is)
    (case mkC_Row => k_is)
    (case kcC_Row => k_is)
    (case le_Rowinit0 => k_is)
    (case a_Rowlstd => k_is)
    (case i_Rowlstd => k_is)
    (case l_Rowlstd => k_is)
    (case cd_Rowlstd => k_is)
    (case k_Rowlstd => k_is)
    (case a_Rowranks => k_is)
    (case i_Rowranks => k_is)
    (case l_Rowranks => k_is)
    (case cd_Rowranks => k_is)
    (case k_Rowranks => k_is)
    (case a_Rownumber => k_is)
    (case i_Rownumber => k_is)
    (case l_Rownumber => k_is)
    (case cd_Rownumber => k_is)
    (case k_Rownumber => k_is)
    (case a_Rowblocks => k_is)
    (case i_Rowblocks => k_is)
    (case l_Rowblocks => k_is)
    (case cd_Rowblocks => k_is)
    (case k_Rowblocks => k_is)
    (case a_Rowwithin => k_is)
    (case i_Rowwithin => k_is)
    (case l_Rowwithin => k_is)
    (case cd_Rowwithin => k_is)
    (case k_Rowwithin => k_is)
    (case a_Rowbetween => k_is)
    (case i_Rowbetween => k_is)
    (case l_Rowbetween => k_is)
    (case cd_Rowbetween => k_is)
    (case k_Rowbetween => k_is)
    (case a_Rowneed => k_is)
    (case i_Rowneed => k_is)
    (case l_Rowneed => k_is)
    (case cd_Rowneed => k_is)
    (case k_Rowneed => k_is)
    (case a_Rowget => k_is)
    (case i_Rowget => k_is)
    (case l_Rowget => k_is)
    (case cd_Rowget => k_is)
    (case k_Rowget => k_is)
    (case a_Rowlen => k_is)
    (case i_Rowlen => k_is)
    (case l_Rowlen => k_is)
    (case cd_Rowlen => k_is)
    (case k_Rowlen => k_is)
    (case a_Rowiter => k_is)
    (case i_Rowiter => k_is)
    (case l_Rowiter => k_is)
    (case cd_Rowiter => k_is)
    (case k_Rowiter => k_is)
    (case a_Rowin => k_is)
    (case i_Rowin => k_is)
    (case l_Rowin => k_is)
    (case cd_Rowin => k_is)
    (case k_Rowin => k_is)
    (case a_Roweq => k_is)
    (case i_Roweq => k_is)
    (case l_Roweq => k_is)
    (case cd_Roweq => k_is)
    (case k_Roweq => k_is)
    (case a_pen => k_is)
    (case l_pen => k_is)
    (case cd_pen => k_is)
    (case k_pen => k_is)
    (case a_draw => k_is)
    (case l_draw => k_is)
    (case cd_draw => k_is)
    (case k_draw => k_is)
    (case a_pick => k_is)
    (case l_pick => k_is)
    (case cd_pick => k_is)
    (case k_pick => k_is)
    (case a_pairs => k_is)
    (case l_pairs => k_is)
    (case cd_pairs => k_is)
    (case k_pairs => k_is)
    (case a_values => k_is)
    (case l_values => k_is)
    (case cd_values => k_is)
    (case k_values => k_is)
    (case a_told => k_is)
    (case l_told => k_is)
    (case cd_told => k_is)
    (case k_told => k_is)
    (case a_heard => k_is)
    (case l_heard => k_is)
    (case cd_heard => k_is)
    (case k_heard => k_is)
    (case a_lnum => k_is)
    (case l_lnum => k_is)
    (case cd_lnum => k_is)
    (case k_lnum => k_is)
    (case a_lindex => k_is)
    (case l_lindex => k_is)
    (case cd_lindex => k_is)
    (case k_lindex => k_is)
    (case a_placer => k_is)
    (case l_placer => k_is)
    (case cd_placer => k_is)
    (case lk_placer => k_is)
    (case k_placer => k_is)
    (case a_lblocks => k_is)
    (case l_lblocks => k_is)
    (case cd_lblocks => k_is)
    (case k_lblocks => k_is)
    (case a_memr => k_is)
    (case l_memr => k_is)
    (case cd_memr => k_is)
    (case k_memr => k_is)
    (case a_compd => k_is)
    (case l_compd => k_is)
    (case cd_compd => k_is)
    (case k_compd => k_is)
    (case a_law => k_is)
    (case l_law => k_is)
    (case cd_law => k_is)
    (case k_law => k_is)
    (case gni_Row => k_is)
    (case rv_BadItem => first | rfl | decide)
    (case v2_XBadItem => rfl)
    (case fi_e_XBadItem => first | rfl | decide +kernel)
    (case rv_BadPlace => first | rfl | decide)
    (case v2_XBadPlace => rfl)
    (case fi_e_XBadPlace => first | rfl | decide +kernel)
    (case rv_Disordered => first | rfl | decide)
    (case v2_XDisordered => rfl)
    (case fi_e_XDisordered => first | rfl | decide +kernel)
    (case rv_TooMany => first | rfl | decide)
    (case v2_XTooMany => rfl)
    (case fi_e_XTooMany => first | rfl | decide +kernel)
    (case v11_placer => rfl)
    (case tm_placer => first | decide | k_mem | simp)
    (case nodup => decide)
    (case bC_Item => kernel_rfl)
    (case bC_Row => kernel_rfl)
    (case ob_BadItem => kernel_rfl)
    (case eb_BadItem => kernel_rfl)
    (case su_XBadItem => kernel_rfl)
    (case ob_BadPlace => kernel_rfl)
    (case eb_BadPlace => kernel_rfl)
    (case su_XBadPlace => kernel_rfl)
    (case ob_Disordered => kernel_rfl)
    (case eb_Disordered => kernel_rfl)
    (case su_XDisordered => kernel_rfl)
    (case ob_TooMany => kernel_rfl)
    (case eb_TooMany => kernel_rfl)
    (case su_XTooMany => kernel_rfl)
    (case em_HeadsError => kernel_rfl)
    (case kit => kernel_rfl)
    (case ch_placer => kernel_rfl)
    (case pn_placer => first | k_is | kernel_rfl | rfl)
    (case nf_Row => kernel_rfl)
