import PyProof.Rows.All
import Wide.All
import OpenK.AllK
import Wide.FinOn
import PyProof.EqAt
import PyProof.EqKinds
import PyProof.TupleCall
import KE.KStateDown
import Lean
import HandS.ForMost
import HandS.ForExc
import HandS.More
import HandS.Sort
import HandS.SortOrd
import HandS.SortRule
import HandS.SortInts
import HandS.Conv
import HandS.Deep
import HandS.Style
import HandS.Flow
import HandS.Wide
import HandS.Defaults
import HandS.IsInst
import HandS.EndBits
import HandS.TupLe
import HandS.TupAny
import HandS.Codes
import HandS.CallLocal
import HandS.NoneIn
import HandS.Head0
import HandS.Head1
import HandS.Head2
import HandS.HeadEnd
import HandS.HeadHook1
import HandS.HeadHook2
import HandS.HeadHook3
import HandS.HeadHook4
import PySem.Challenge.RW_nearcells_k71_whole_far_shapes
set_option Elab.async false
set_option linter.all false
set_option maxRecDepth 100000
set_option maxHeartbeats 4000000
/-! NCBase: what all laws here use: calls by keywords alone, the end with the script's bits, heaps, readings as rules. -/
namespace L2
open PySem PySem.Spec PyProof.Rows
/-! ### keywords alone -/
def permL {α : Type} (ix : List Nat) (xs : List α) : List α := ix.filterMap fun i => xs[i]?
theorem permL_vals {zs : List V} {ws : List Value} (r : Vals zs ws) : ∀ ix : List Nat, Vals (permL ix zs) (permL ix ws)
  | [] => .nil
  | i :: is => by
    have ih := permL_vals r is
    unfold permL at ih ⊢
    rw [List.filterMap_cons, List.filterMap_cons]
    cases e : zs[i]? with
    | none =>
      rw [r.none_of e]
      exact ih
    | some z =>
      obtain ⟨u, e2, r2⟩ := r.get e
      rw [e2]
      exact .cons r2 ih
theorem FunD.kbnP {K : PySem.W.Frag} {x qual : Str} {params : Arguments} {body : List Stmt} {scope : Scope} {kws : List (Str × V)} {f : Addr} {fd : FuncData} {ps : List Str} (F : FunD K x qual params body scope [] kws f fd) (n : Nat) (ks : List Str) (ix : List Nat)
    (h : ∀ (kV doc pm : Value) (an : Option Addr) (cdv ct : Value) (us ws : List Value), us.length = n → ws.length = ks.length → bindArgs (PySem.W.fnOf x qual params body scope .none kV doc pm an cdv ct) ⟨us, ks.zip ws⟩ = pure (ps.zip (permL ix (us ++ ws)))) :
    KBn K fd ps n ks (fun us ws => permL ix (us ++ ws)) (fun vs zs => permL ix (vs ++ zs)) := by
  obtain ⟨oc, od, dV, kV, doc, pm, an, cdv, ct, osl, rfl, lk, hcd, hD, hK⟩ := F.ex
  rcases hD with ⟨_, rfl⟩ | ⟨e, _⟩
  · exact ⟨fun s us ws _ l1 l2 => .of_eq (h kV doc pm an cdv ct us ws l1 l2), fun r1 r2 => permL_vals (r1.append r2) ix⟩
  · exact absurd rfl e
section
variable {X : Cx} {CX : CXT} {k : Nat} {f : Addr} {fd : FuncData} {ps ks : List Str} {sp : Sp} {E : XK} {x : Str} {p pos : Pos} {kws : List Keyword} {tk : TA} {g : List Value → List Value → List Value} {gV : List V → List V → List V}
/-- f(k = v, ..) -/
theorem pe_callN0 (F : FnOk X.prog X.w X.K X.mg X.base CX k f fd ps sp) (hr : Room k X.A) (hg : Gl X x) (hm : X.mg x = some (.ref f)) (hk : PySem.W.keepIn X.K (.ref f) = true) (hb : KBn X.K fd ps 0 ks g gV) (hx : Passes CX X E) (hkw : PK X kws tk)
    (hall : (backToKw pos (keywordEach kws X.env)).all (·.1.isSome) = true := by rfl) (hks : (backToKw pos (keywordEach kws X.env)).filterMap (·.1) = ks := by rfl) (hdb : (x == ("__debug__" : Str)) = false := by decide)
    (hpl : ((backTo pos (starEach [] X.env)).any (·.1) || (backToKw pos (keywordEach kws X.env)).any (·.1.isNone)) = false := by rfl) :
    PE X (.Call (.Name x p) [] kws pos) (tCallN 0 ks.length sp gV E tNil tk) := by
  refine ⟨fun pins s σ H Q I h => ?_⟩
  refine wpAny_Call_Name_kw (ld_glob I hg hm ?_ hdb)
  refine PySem.W.callWith_KW0 (h₀ := X.base) I.ok.mod.kin hk hall ?_ hpl
  refine thn (hkw.run pos pins s σ H _ I h) fun ws s2 ⟨zs, H2, I2, rz, l1, l2, q2⟩ => ⟨I2.kIn, ?_⟩
  rw [hks]
  exact run_fnN (us := []) (vs := []) F hr hb hx I2 .nil rz rfl l2 q2
end
/-! ### the end, with the script's bits -/
theorem walk_ofBE {l : PySem.W.OpenLaw} {n k : Nat} {q : Program} {loose : List Str} {XP : (Str → Option Value) → Heap → Prop} {YP : World → Heap → Prop} {d : DefRec} {CX : CXT} {x : Str}
    (hn : l.most = some n) (hn2 : n ≤ sizeLine) (hdf : d.params.defaults = []) (hr : Room k callerA)
    (F : ∀ (w : World) (mg : Str → Option Value) (fa : Addr) (h : Heap), YP w h → h.Ns mainGlobals mg → mg d.name = some (.ref fa) →
      ∃ (K : PySem.W.Frag) (fd : FuncData) (sp : Sp), K.In h ∧ (∀ (s : Shared) (u : Value), BindsTo s fd ⟨[u], []⟩ [(x, u)]) ∧
        (∀ (H : Hp) (a : Addr) (ns : List Int), ns.length ≤ n → (∀ z ∈ ns, Builtin.Int.intBits z ≤ 1048576) → Only H → SqL K H a (ns.map V.int) → sp [.ref a] H (fun v _ => v = .bl true) fun _ _ _ => False) ∧
        ∀ base : Heap, K.In base → base.Ns mainGlobals mg → FnOk l.prog w K mg base CX k fa fd [x] sp)
    (hCX : ∀ (H : Hp) (s : Shared) (e : Value) (s' : Shared), CX [] H s (fun _ _ _ => False) e s' → False) :
    PySem.W.WalkO q loose XP YP l.row.toRowW d [] (fun f vs => PySem.call f vs) := by
  refine Att.attach_callB hn hdf fun w s₀ s₁ mg mb fa o pm cd doc a vs ns G Y ho hd hcd hmg hobj hints hlen hbits hg => ?_
  obtain ⟨K, fd, sp, KX, hb, hsp, hF⟩ := F w mg fa _ Y G.T.g hmg
  exact law_call KX G.T.g G.T.b G.T.builtins G.T.nolimit hg hobj hints (Nat.le_trans hlen hn2) hr hF hb (fun H hO hS => hsp H a ns hlen hbits hO hS) fun H e s' => hCX H s₁ e s'
/-! ### readings as rules -/
section
variable {σ : St} {H : Hp} {Q : VK} {D : Ends} {K : PySem.W.Frag} {v x y : V}
theorem g_var {i : Nat} (h : σ[i]? = some (some v)) (q : Q v H) : tVar i σ H Q := ⟨v, h, q⟩
theorem g_c (q : Q v H) : tC v σ H Q := q
theorem g_op {r : R2} {ta tb : TE} (q : ta σ H fun x H1 => tb σ H1 fun y H2 => r x y H2 Q) : tOp r ta tb σ H Q := q
theorem g_un {r : V → Hp → VK → Prop} {ta : TE} (q : ta σ H fun x H1 => r x H1 Q) : tUn r ta σ H Q := q
theorem g_I0 {g : Int → Int → V} {i j : Int} (q : Q (g i j) H) : rI0 g (.int i) (.int j) H Q := ⟨i, j, rfl, rfl, q⟩
theorem g_mul {g : Int → Int → V} {i j : Int} (hc : CMul i j) (q : Q (g i j) H) : rI CMul g (.int i) (.int j) H Q := ⟨i, j, rfl, rfl, hc, q⟩
theorem g_I {C : Int → Int → Prop} {g : Int → Int → V} {i j : Int} (hc : C i j) (q : Q (g i j) H) : rI C g (.int i) (.int j) H Q := ⟨i, j, rfl, rfl, hc, q⟩
theorem g_U {g : Int → V} {i : Int} (q : Q (g i) H) : rU g (.int i) H Q := ⟨i, rfl, q⟩
theorem g_eqI {i j : Int} (q : Q (.bl (decide (i = j))) H) : rEq (.int i) (.int j) H Q := ⟨rfl, by rw [dec_int, Bool.beq_eq_decide_eq]; exact q⟩
theorem g_neI {i j : Int} (q : Q (.bl (!decide (i = j))) H) : rNe (.int i) (.int j) H Q := ⟨rfl, by rw [dec_int, Bool.beq_eq_decide_eq]; exact q⟩
theorem g_eqB {i j : Bool} (q : Q (.bl (i == j)) H) : rEq (.bl i) (.bl j) H Q := ⟨rfl, by rw [dec_bl]; exact q⟩
theorem g_neB {i j : Bool} (q : Q (.bl (!(i == j))) H) : rNe (.bl i) (.bl j) H Q := ⟨rfl, by rw [dec_bl]; exact q⟩
theorem g_cons {ta : TE} {tr : TA} {q : List V → Hp → Prop} (h : ta σ H fun x H1 => tr σ H1 fun xs H2 => q (x :: xs) H2) : tCons ta tr σ H q := h
theorem g_nil {q : List V → Hp → Prop} (h : q [] H) : tNil σ H q := h
theorem g_tup {t : TA} (h : t σ H fun xs H1 => xs.length ≤ sizeLine ∧ ∀ p, H1 p = none → Q (.ref p) (upd H1 p (.tup xs))) : tTup t σ H Q := h
theorem g_lst {t : TA} (h : t σ H fun xs H1 => xs.length ≤ sizeLine ∧ ∀ p, H1 p = none → Q (.ref p) (upd H1 p (.lst xs))) : tLst t σ H Q := h
theorem g_ixT {p : Addr} {xs : List V} {i : Int} (h : H p = some (.tup xs)) (ha : atI xs i = some v) (q : Q v H) : rIxT K (.ref p) (.int i) H Q := ⟨p, xs, i, v, rfl, rfl, SqT.of h, ha, q⟩
theorem g_ixL {p : Addr} {xs : List V} {i : Int} (h : H p = some (.lst xs)) (ha : atI xs i = some v) (q : Q v H) : rIxL K (.ref p) (.int i) H Q := ⟨p, xs, i, v, rfl, rfl, SqL.of h, ha, q⟩
theorem g_cb {r : List V → Hp → VK → Prop} {t : TA} (q : t σ H fun vs H1 => r vs H1 Q) : tCB r t σ H Q := q
theorem g_call {sp : Sp} {dvs : List V} {E : XK} {t : TA} (q : t σ H fun vs H1 => sp (vs ++ dvs) H1 Q E) : tCall sp dvs E t σ H Q := q
theorem g_test {t : TE} {q : Bool → Hp → Prop} (h : t σ H fun x H' => ∃ k, x = .bl k ∧ q k H') : tTest t σ H q := h
theorem g_tb {t : TE} {q : Bool → Hp → Prop} (h : t σ H fun x H' => ∃ k, x = .bl k ∧ q k H') : tB t σ H q := h
theorem g_bl {b : Bool} {q : Bool → Prop} (h : q b) : ∃ k, V.bl b = .bl k ∧ q k := ⟨b, rfl, h⟩
theorem g_yes {q : Bool → Hp → Prop} (h : q true H) : tYes σ H q := h
theorem g_and {t u : TT} {q : Bool → Hp → Prop} (h : t σ H fun c H1 => if c = true then u σ H1 q else q false H1) : tAnd t u σ H q := h
theorem g_or {t u : TT} {q : Bool → Hp → Prop} (h : t σ H fun c H1 => if c = true then q true H1 else u σ H1 q) : tOr t u σ H q := h
theorem g_not {t : TT} {q : Bool → Hp → Prop} (h : t σ H fun c H1 => q (!c) H1) : tNot t σ H q := h
theorem g_if {t : TT} {ta tb : TE} (h : t σ H fun c H1 => if c = true then ta σ H1 Q else tb σ H1 Q) : tIf t ta tb σ H Q := h
theorem g_ifS {c : TT} {t u : TS} (h : c σ H fun b H1 => if b = true then t D σ H1 else u D σ H1) : tIfS c t u D σ H := h
theorem g_seq {t u : TS} (h : t { D with nx := u D } σ H) : tSeq t u D σ H := h
theorem g_next (h : D.nx σ H) : tNext D σ H := h
theorem g_ret {te : TE} (h : te σ H D.rt) : tRet te D σ H := h
theorem g_asg {te : TE} {g : TG} (h : te σ H fun x H1 => g x σ H1 D.nx) : tAsg te g D σ H := h
theorem g_name {i : Nat} {q : St → Hp → Prop} (h : q (σ.set i (some v)) H) : gName i v σ H q := h
theorem g_drop {te : TE} (h : te σ H fun _ H1 => D.nx σ H1) : tDrop te D σ H := h
theorem g_par {i j : Nat} {ta : TA} (h : ta σ H fun vs H1 => ∃ v w, vs = [v, w] ∧ D.nx ((σ.set i (some v)).set j (some w)) H1) : tPar i j ta D σ H := h
theorem g_par3 {i j l : Nat} {ta : TA} (h : ta σ H fun vs H1 => ∃ u v w, vs = [u, v, w] ∧ D.nx (((σ.set i (some u)).set j (some v)).set l (some w)) H1) : tPar3 i j l ta D σ H := h
theorem g_chain {r r' : R2} {ta tb tc : TE} (h : ta σ H fun x H1 => tb σ H1 fun y H2 => r x y H2 fun z H3 => ∃ k, z = .bl k ∧ (if k = true then tc σ H3 fun w' H4 => r' y w' H4 Q else Q (.bl false) H3)) : tChain r r' ta tb tc σ H Q := h
theorem g_andV {ta tb : TE} (h : ta σ H fun x H1 => ∃ c, x = .bl c ∧ if c = true then tb σ H1 Q else Q (.bl false) H1) : tAndV ta tb σ H Q := h
theorem g_orV {ta tb : TE} (h : ta σ H fun x H1 => ∃ c, x = .bl c ∧ if c = true then Q (.bl true) H1 else tb σ H1 Q) : tOrV ta tb σ H Q := h
theorem g_notV {ta : TE} (h : ta σ H fun x H1 => ∃ c, x = .bl c ∧ Q (.bl (!c)) H1) : tNotV ta σ H Q := h
theorem g_sub {to ti : TE} {t : TSet} {q : St → Hp → Prop} (h : to σ H fun o H1 => ti σ H1 fun i H2 => t o i v H2 fun H3 => q σ H3) : gSub to ti t v σ H q := h
theorem g_setL {p : Addr} {xs : List V} {k : Int} {j : Nat} {q : Hp → Prop} (h : H p = some (.lst xs)) (hj : ixN xs.length k = some j) (hq : q (upd H p (.lst (xs.set j v)))) : rSetL (.ref p) (.int k) v H q := ⟨p, xs, k, j, rfl, rfl, h, hj, hq⟩
theorem g_tupG {n : Nat} {t : TGs} {a : Addr} {xs : List V} {q : St → Hp → Prop} (h : H a = some (.tup xs)) (hn : xs.length = n) (hq : t xs σ H q) : gTup K n t (.ref a) σ H q := ⟨a, xs, rfl, SqT.of h, hn, hq⟩
theorem g_unl {n : Nat} {t : TGs} {a : Addr} {xs : List V} {q : St → Hp → Prop} (h : H a = some (.lst xs)) (hn : xs.length = n) (hq : t xs σ H q) : gUnl K n t (.ref a) σ H q := ⟨a, xs, rfl, SqL.of h, hn, hq⟩
theorem g_consG {t : TG} {u : TGs} {r : List V} {q : St → Hp → Prop} (h : t v σ H fun σ' H' => u r σ' H' q) : gCons t u (v :: r) σ H q := ⟨v, r, rfl, h⟩
theorem g_nilG {q : St → Hp → Prop} (h : q σ H) : gNil [] σ H q := ⟨rfl, h⟩
theorem g_callN {n m : Nat} {sp : Sp} {gV : List V → List V → List V} {E : XK} {t tk : TA} (h : t σ H fun vs H1 => tk σ H1 fun zs H2 => vs.length = n ∧ zs.length = m ∧ sp (gV vs zs) H2 Q E) : tCallN n m sp gV E t tk σ H Q := h
theorem g_sl {r : V → Option Int → Option Int → Hp → VK → Prop} {te : TE} {tl th : TO} (h : te σ H fun x H1 => tl σ H1 fun l H2 => th σ H2 fun u H3 => r x l u H3 Q) : tSl r te tl th σ H Q := h
end
/-! ### built-ins by names of their own -/
def rInt : List V → Hp → VK → Prop := fun xs H Q => (∃ i, xs = [.int i] ∧ Q (.int i) H) ∨ ∃ k, xs = [.bl k] ∧ Q (.int (if k then 1 else 0)) H
def rLenN (K : PySem.W.Frag) : List V → Hp → VK → Prop := fun xs H Q => ∃ p ys, xs = [.ref p] ∧ (SqL K H p ys ∨ SqT K H p ys) ∧ Q (.int ys.length) H
def rAbs : List V → Hp → VK → Prop := fun xs H Q => ∃ i, xs = [.int i] ∧ Q (.int (if i < 0 then -i else i)) H
def rMin2 : List V → Hp → VK → Prop := fun xs H Q => ∃ i j, xs = [.int i, .int j] ∧ Q (.int (if j < i then j else i)) H
def rMax2 : List V → Hp → VK → Prop := fun xs H Q => ∃ i j, xs = [.int i, .int j] ∧ Q (.int (if j > i then j else i)) H
def zsg (k : Bool) : Int := if k then 1 else 0
theorem zsg_lo (k : Bool) : 0 ≤ zsg k := by cases k <;> decide
theorem zsg_hi (k : Bool) : zsg k ≤ 1 := by cases k <;> decide
section
variable {X : Cx}
theorem call_intN : CallR X (.type "int") rInt := call_int1
theorem call_lenN : CallR X (.builtin "len") (rLenN X.K) := call_len_seq
theorem call_absN : CallR X (.builtin "abs") rAbs := call_abs
theorem call_min2N (hc : X.calm = true) : CallR X (.builtin "min") rMin2 := call_min2 hc
theorem call_max2N (hc : X.calm = true) : CallR X (.builtin "max") rMax2 := call_max2 hc
end
section
variable {σ : St} {H : Hp} {Q : VK} {D : Ends} {K : PySem.W.Frag}
theorem g_intI {i : Int} (q : Q (.int i) H) : rInt [.int i] H Q := .inl ⟨i, rfl, q⟩
theorem g_intB {k : Bool} (q : Q (.int (zsg k)) H) : rInt [.bl k] H Q := .inr ⟨k, rfl, q⟩
theorem g_lenL {p : Addr} {xs : List V} (h : H p = some (.lst xs)) (q : Q (.int xs.length) H) : rLenN K [.ref p] H Q := ⟨p, xs, rfl, .inl (SqL.of h), q⟩
theorem g_lenT {p : Addr} {xs : List V} (h : H p = some (.tup xs)) (q : Q (.int xs.length) H) : rLenN K [.ref p] H Q := ⟨p, xs, rfl, .inr (SqT.of h), q⟩
theorem g_abs {i : Int} (q : Q (.int (if i < 0 then -i else i)) H) : rAbs [.int i] H Q := ⟨i, rfl, q⟩
theorem g_min2 {i j : Int} (q : Q (.int (if j < i then j else i)) H) : rMin2 [.int i, .int j] H Q := ⟨i, j, rfl, q⟩
theorem g_max2 {i j : Int} (q : Q (.int (if j > i then j else i)) H) : rMax2 [.int i, .int j] H Q := ⟨i, j, rfl, q⟩
theorem g_mod {g : Int → Int → V} {i j : Int} (hc : 0 < j) (q : Q (g i j) H) : rI (fun _ j => 0 < j) g (.int i) (.int j) H Q := ⟨i, j, rfl, rfl, hc, q⟩
theorem g_div {g : Int → Int → V} {i j : Int} (h1 : 0 < j) (h2 : j < 1073741824) (q : Q (g i j) H) : rI CDiv g (.int i) (.int j) H Q := ⟨i, j, rfl, rfl, ⟨h1, h2⟩, q⟩
theorem g_pow {g : Int → Int → V} {i j : Int} (hc : CPow i j) (q : Q (g i j) H) : rI CPow g (.int i) (.int j) H Q := ⟨i, j, rfl, rfl, hc, q⟩
theorem g_isi {x : V} {T : String} {t : String} {b : Bool} (ty : TyX K H x (.type t)) (h : kitB t T = some b) (q : Q (.bl b) H) : rIsi K [x, .ty T] H Q := ⟨x, .ty T, .type t, .type T, b, rfl, .ty T, ty, kit_ty h, q⟩
theorem g_po {te : TE} {q : Option Int → Hp → Prop} (h : te σ H fun x H1 => ∃ i, x = .int i ∧ q (some i) H1) : tPart te σ H q := h
theorem g_pon {q : Option Int → Hp → Prop} (h : q none H) : tNoPart σ H q := h
theorem g_int1 {i : Int} {q : Int → Prop} (h : q i) : ∃ k, V.int i = .int k ∧ q k := ⟨i, rfl, h⟩
end
/-! ### rules with the written part told -/
section
variable {X : Cx}
theorem ix_tupK (K : PySem.W.Frag) (h : X.K = K := by rfl) : IxR X (rIxT K) := by subst h; exact ix_tup
theorem ix_listK (K : PySem.W.Frag) (h : X.K = K := by rfl) : IxR X (rIxL K) := by subst h; exact ix_list
theorem sl_listK (K : PySem.W.Frag) (h : X.K = K := by rfl) : SlR X (rSlL K) := by subst h; exact sl_list
theorem call_lenK (K : PySem.W.Frag) (h : X.K = K := by rfl) : CallR X (.builtin "len") (rLenN K) := by subst h; exact call_lenN
theorem call_isiK0 (K : PySem.W.Frag) (h : X.K = K := by rfl) : CallR X (.builtin "isinstance") (rIsi K) := by subst h; exact call_isi
theorem op_eqDK (K : PySem.W.Frag) (hu : X.A.units + 64 < cLine) (h : X.K = K := by rfl) : OpR X (compareOp .Eq) (rEqD K) := by subst h; exact op_eqD hu
theorem op_neDK (K : PySem.W.Frag) (hu : X.A.units + 64 < cLine) (h : X.K = K := by rfl) : OpR X (compareOp .NotEq) (rNeD K) := by subst h; exact op_neD hu
theorem op_inK (K : PySem.W.Frag) (h : X.K = K := by rfl) : OpR X (compareOp .In) (rIn K false) := by subst h; exact op_in_seq
theorem op_notInK (K : PySem.W.Frag) (h : X.K = K := by rfl) : OpR X (compareOp .NotIn) (rIn K true) := by subst h; exact op_notIn_seq
theorem cr_allK (K : PySem.W.Frag) (hc : X.calm = true) (h : X.K = K := by rfl) : CallR X (.builtin "all") (rAll K) := by subst h; exact cr_all hc
theorem cr_anyK (K : PySem.W.Frag) (hc : X.calm = true) (h : X.K = K := by rfl) : CallR X (.builtin "any") (rAny K) := by subst h; exact cr_any hc
theorem cr_sumK (K : PySem.W.Frag) (hc : X.calm = true) (h : X.K = K := by rfl) : CallR X (.builtin "sum") (rSum K) := by subst h; exact cr_sum hc
theorem pi_listK {tg l : Expr} {tl : TE} (K : PySem.W.Frag) (hl : PE X l tl) (h : X.K = K := by rfl) : PI X tg l (iList K tl) := by subst h; exact pi_list hl
theorem pi_tupK {tg l : Expr} {tl : TE} (K : PySem.W.Frag) (hl : PE X l tl) (h : X.K = K := by rfl) : PI X tg l (iTup K tl) := by subst h; exact pi_tup hl
end
/-! ### loops -/
abbrev LoopP (g : TG) (tb : TS) (D : Ends) (σ : St) (J : It) (H1 : Hp) : Prop := ∃ W : Nat → Nat → St → Hp → Prop, (∃ m, W 0 m σ H1) ∧ ∀ i m σ H, W i m σ H →
  (J.stop i H ∧ D.nx σ H) ∨ (J.go i H ∧ ∃ N : St → Hp → Prop, (∀ σ' H', N σ' H' → ∃ m', m' < m ∧ W (i + 1) m' σ' H') ∧ ∀ x H', J.yld i H x H' → g x σ H' fun σ2 H2 => tb { D with nx := N, ct := N, bk := D.nx } σ2 H2)
abbrev LcP (g : TG) (tt : TT) (te : TE) (vs : List Nat) (σ : St) (Q : VK) (J : It) (H1 : Hp) : Prop := ∀ D, H1 D = none → ∃ W : Nat → Nat → Hp → Prop, (∃ m, W 0 m (upd H1 D (.lst []))) ∧ ∀ i m H, W i m H →
  (J.stop i H ∧ Q (.ref D) H) ∨ (J.go i H ∧ ∃ Nx : Hp → Prop, (∀ H', Nx H' → ∃ m', m' < m ∧ W (i + 1) m' H') ∧ ∀ x H', J.yld i H x H' → g x (wipe σ vs) H' fun σ2 H2 => wipe σ2 vs = wipe σ vs ∧ tt σ2 H2 fun b H3 =>
    if b = true then te σ2 H3 fun y H4 => ∃ acc, H4 D = some (.lst acc) ∧ acc.length < sizeLine ∧ Nx (upd H4 D (.lst (acc ++ [y]))) else Nx H3)
section
variable {σ : St} {H : Hp} {Q : VK} {D : Ends} {K : PySem.W.Frag}
theorem g_for {wi : TI} {g : TG} {tb : TS} (h : wi σ H (LoopP g tb D σ)) : tFor wi g tb D σ H := h
theorem g_lc {wi : TI} {g : TG} {tt : TT} {te : TE} {vs : List Nat} (h : wi σ H (LcP g tt te vs σ Q)) : tLc wi g tt te vs σ H Q := h
theorem g_rng1 {ta : TA} {R : It → Hp → Prop} (h : ta σ H fun vs H1 => ∃ j : Int, vs = [.int j] ∧ -(2 ^ 62) ≤ j ∧ j < 2 ^ 62 ∧ R (Itr 0 j.toNat) H1) : iRng1 ta σ H R := h
theorem g_rng2 {ta : TA} {R : It → Hp → Prop} (h : ta σ H fun vs H1 => ∃ i j : Int, vs = [.int i, .int j] ∧ (-(2 ^ 62) ≤ i ∧ i < 2 ^ 62 ∧ -(2 ^ 62) ≤ j ∧ j < 2 ^ 62) ∧ R (Itr i (j - i).toNat) H1) : iRng2 ta σ H R := h
theorem g_ilist {tl : TE} {R : It → Hp → Prop} (h : tl σ H fun x H1 => ∃ a, x = .ref a ∧ (∃ xs, SqL K H1 a xs) ∧ R (Itl K a) H1) : iList K tl σ H R := h
theorem g_itup {tl : TE} {R : It → Hp → Prop} (h : tl σ H fun x H1 => ∃ a, x = .ref a ∧ (∃ xs, SqT K H1 a xs) ∧ R (Itt K a) H1) : iTup K tl σ H R := h
theorem g_ikeys {td : TE} {R : It → Hp → Prop} (h : td σ H fun x H1 => ∃ d o, x = .ref d ∧ ((∃ kvs, H1 d = some (.frz o (.dK kvs)) ∧ R (Itk d o kvs) H1) ∨ ∃ kvs, H1 d = some (.frz o (.dT kvs)) ∧ R (Itkt d o kvs) H1)) : iKeys td σ H R := h
end
/-- over the keys of a locked dict of tuples -/
theorem lc_keysT {d : Addr} {o : Obj} {kvs : List (List Key × V)} {g : TG} {tt : TT} {te : TE} {vs : List Nat} {σ : St} {H1 : Hp} {D : Addr} {Qd : Hp → Prop} (Pv : Nat → Hp → Prop) (h0 : Pv 0 (upd H1 D (.lst []))) (hl : ∀ i H, i ≤ kvs.length → Pv i H → H d = some (.frz o (.dT kvs)))
    (hs : ∀ i k v q H, kvs[i]? = some (k, v) → H q = some (.tup (k.map kV)) → Pv i H → g (.ref q) (wipe σ vs) H fun σ2 H2 => wipe σ2 vs = wipe σ vs ∧ tt σ2 H2 fun b H3 =>
      if b = true then te σ2 H3 fun y H4 => ∃ acc, H4 D = some (.lst acc) ∧ acc.length < sizeLine ∧ Pv (i + 1) (upd H4 D (.lst (acc ++ [y]))) else Pv (i + 1) H3) (hd : ∀ H, Pv kvs.length H → Qd H) :
    ∃ W : Nat → Nat → Hp → Prop, (∃ m, W 0 m (upd H1 D (.lst []))) ∧ ∀ i m H, W i m H →
      ((Itkt d o kvs).stop i H ∧ Qd H) ∨ ((Itkt d o kvs).go i H ∧ ∃ Nx : Hp → Prop, (∀ H', Nx H' → ∃ m', m' < m ∧ W (i + 1) m' H') ∧ ∀ x H', (Itkt d o kvs).yld i H x H' → g x (wipe σ vs) H' fun σ2 H2 => wipe σ2 vs = wipe σ vs ∧ tt σ2 H2 fun b H3 =>
        if b = true then te σ2 H3 fun y H4 => ∃ acc, H4 D = some (.lst acc) ∧ acc.length < sizeLine ∧ Nx (upd H4 D (.lst (acc ++ [y]))) else Nx H3) := by
  refine ⟨fun i m H => m + i = kvs.length ∧ Pv i H, ⟨kvs.length, rfl, h0⟩, fun i m H hW => ?_⟩
  obtain ⟨em, p⟩ := hW
  have hd2 := hl i H (by omega) p
  by_cases hi : i < kvs.length
  · refine .inr ⟨⟨hd2, hi⟩, Pv (i + 1), fun H' p' => ⟨m - 1, by omega, by omega, p'⟩, fun x H' hy => ?_⟩
    obtain ⟨rfl, k, v, q, e1, rfl, e2⟩ := hy
    exact hs i k v q _ e1 e2 p
  · have e : i = kvs.length := by omega
    subst e
    exact .inl ⟨⟨hd2, Nat.le_refl _⟩, hd H p⟩
theorem mulL {i j : Int} (h1 : -1000000000000000000 ≤ i) (h2 : i ≤ 1000000000000000000) : CMul i j := .inl ⟨by omega, by omega⟩
theorem mulR {i j : Int} (h1 : -1000000000000000000 ≤ j) (h2 : j ≤ 1000000000000000000) : CMul i j := .inr ⟨by omega, by omega⟩
theorem len_le {n : Nat} (h : n ≤ 1000000) : n ≤ sizeLine := Nat.le_trans h (by decide)
theorem len_lt {n : Nat} (h : n < 1000000) : n < sizeLine := Nat.lt_of_lt_of_le h (by decide)
theorem pow_ok {i : Int} {j : Int} (h1 : 0 ≤ i) (h2 : i < 9223372036854775808) (h3 : 0 ≤ j) (h4 : j ≤ 1000000) : CPow i j := ⟨h3, h4, by omega⟩
/-! ### heaps: the tuples stay -/
def TK (H H' : Hp) : Prop := ∀ p xs, H p = some (.tup xs) → H' p = some (.tup xs)
theorem TK.refl (H : Hp) : TK H H := fun _ _ h => h
theorem TK.trans {H H1 H2 : Hp} (a : TK H H1) (b : TK H1 H2) : TK H H2 := fun p xs h => b p xs (a p xs h)
theorem TK.new {H : Hp} {p : Addr} {o : HO} (n : H p = none) : TK H (upd H p o) := fun q xs h => by
  rw [upd_ne (ne_of_none h n)]
  exact h
theorem TK.lst {H : Hp} {p : Addr} {l : List V} {o : HO} (n : H p = some (.lst l)) : TK H (upd H p o) := fun q xs h => by
  rw [upd_ne (ne_of h n (fun z => by cases z))]
  exact h
theorem TK.same {H H' : Hp} (s : Same H H') : TK H H' := fun p xs h => s p _ h
theorem same_new {H : Hp} {p : Addr} {o : HO} (h : H p = none) : Same H (upd H p o) := fun b x e => by
  rw [upd_ne (ne_of_none e h)]
  exact e
/-- v is the site (x, y) -/
def IsS (H : Hp) (v : V) (x y : Int) : Prop := ∃ p, v = .ref p ∧ H p = some (.tup [.int x, .int y])
theorem IsS.mono {H H' : Hp} {v : V} {x y : Int} (k : TK H H') (h : IsS H v x y) : IsS H' v x y := by
  obtain ⟨p, e, h⟩ := h
  exact ⟨p, e, k p _ h⟩
theorem all_ints {ns : List Int} {z : V} (h : z ∈ ns.map V.int) : ∃ n : Int, z = .int n := by
  obtain ⟨n, _, e⟩ := List.mem_map.mp h
  exact ⟨n, e.symm⟩
theorem cut_mem {xs : List V} {lo hi : Option Int} {z : V} (h : z ∈ cutV xs lo hi) : z ∈ xs := List.mem_of_mem_drop (List.mem_of_mem_take h)
theorem IsS.mk {H : Hp} {p : Addr} {x y : Int} : IsS (upd H p (.tup [.int x, .int y])) (.ref p) x y := ⟨p, rfl, upd_same⟩
end L2
open PySem PySem.Spec PyProof.Rows L2
local macro_rules | `(tactic| walk_at "mul") => `(tactic| first | exact mulL (by omega) (by omega) | exact mulR (by omega) (by omega) | exact mulL (by decide) (by decide) | exact mulR (by decide) (by decide))
local macro_rules | `(tactic| walk_at "r1") => `(tactic| first
  | with_reducible refine g_seq ?_ | with_reducible refine g_next ?_ | with_reducible refine g_ret ?_ | with_reducible refine g_asg ?_ | with_reducible refine g_name ?_ | with_reducible refine g_drop ?_ | with_reducible refine g_ifS ?_ | with_reducible refine g_par ?_ | with_reducible refine g_par3 ?_
  | ((with_reducible refine g_var (v := ?v) ?h ?_); (case h => exact rfl))
  | with_reducible refine g_c ?_ | with_reducible refine g_op ?_ | with_reducible refine g_un ?_ | with_reducible refine g_I0 ?_ | with_reducible refine g_U ?_
  | with_reducible refine g_eqI ?_ | with_reducible refine g_neI ?_ | with_reducible refine g_eqB ?_ | with_reducible refine g_neB ?_
  | with_reducible refine g_cons ?_ | with_reducible refine g_nil ?_ | with_reducible refine g_tup ?_ | with_reducible refine g_lst ?_ | with_reducible refine g_cb ?_ | with_reducible refine g_call ?_ | with_reducible refine g_callN ?_
  | with_reducible refine g_yes ?_ | with_reducible refine g_test ?_ | with_reducible refine g_tb ?_ | with_reducible refine g_bl ?_ | with_reducible refine g_and ?_ | with_reducible refine g_or ?_ | with_reducible refine g_not ?_ | with_reducible refine g_if ?_
  | with_reducible refine g_chain ?_ | with_reducible refine g_andV ?_ | with_reducible refine g_orV ?_ | with_reducible refine g_notV ?_ | with_reducible refine g_sub ?_ | with_reducible refine g_sl ?_ | with_reducible refine g_consG ?_ | with_reducible refine g_nilG ?_
  | with_reducible refine g_for ?_ | with_reducible refine g_lc ?_ | with_reducible refine g_rng1 ?_ | with_reducible refine g_rng2 ?_ | with_reducible refine g_ilist ?_ | with_reducible refine g_itup ?_ | with_reducible refine g_ikeys ?_ | with_reducible refine g_intI ?_ | with_reducible refine g_intB ?_ | with_reducible refine g_abs ?_ | with_reducible refine g_min2 ?_ | with_reducible refine g_max2 ?_ | with_reducible refine g_po ?_ | with_reducible refine g_pon ?_ | with_reducible refine g_int1 ?_
  | ((with_reducible refine g_lenL (xs := ?xs) ?h ?_); (case h => assumption))
  | ((with_reducible refine g_lenT (xs := ?xs) ?h ?_); (case h => assumption))
  | ((with_reducible refine g_mod ?h ?_); (case h => first | decide | omega))
  | ((with_reducible refine g_div ?h ?h2 ?_); (case h => first | decide | omega); (case h2 => first | decide | omega))
  | ((with_reducible refine g_pow ?h ?_); (case h => first | exact ⟨by decide, by decide, by decide⟩ | exact pow_ok (by omega) (by omega) (by omega) (by omega)))
  | ((with_reducible refine g_tupG (xs := ?xs) ?h ?n ?_); (case h => assumption); (case n => exact rfl))
  | ((with_reducible refine g_unl (xs := ?xs) ?h ?n ?_); (case h => assumption); (case n => exact rfl))
  | ((with_reducible refine g_mul ?h ?_); (case h => walk_at "mul"))
  | ((with_reducible refine g_ixT (v := ?v) (xs := ?xs) ?h ?a ?_); (case h => assumption); (case a => exact rfl))
  | ((with_reducible refine g_ixL (v := ?v) (xs := ?xs) ?h ?a ?_); (case h => assumption); (case a => exact rfl)))
local macro_rules | `(tactic| walk_at "rd") => `(tactic| repeat walk_at "r1")
local macro_rules | `(tactic| walk_at "nm") => `(tactic| dsimp only [List.set_cons_zero, List.set_cons_succ])
namespace NC
abbrev P0 : Program := PySem.Challenge.pw_nearcells_k71_whole_far_shapes
abbrev top (i : Nat) : Stmt := P0.main.body.getD i (.Pass ⟨0, 0, 0, 0⟩)
def mkD (g nm : Str) (i : Nat) : He.DefD := ⟨(g, none), nm, nm, defArgs (top i), defBody (top i), defScope (top i), [], []⟩
abbrev FnP (K : PySem.W.Frag) (x : Str) (st : Stmt) (f : Addr) (fd : FuncData) : Prop := FunD K x x (defArgs st) (defBody st) (defScope st) [] [] f fd
def fns : List He.DefD := [mkD "is_integer" "is_integer" 5,
  mkD "is_between" "is_between" 6,
  mkD "sign" "sign" 7,
  mkD "is_site" "is_site" 10,
  mkD "check_site" "check_site" 11,
  mkD "turn" "turn" 13,
  mkD "power" "power" 14,
  mkD "inside" "inside" 15,
  mkD "check_circle" "check_circle" 16,
  mkD "in_circle" "in_circle" 17,
  mkD "counted" "counted" 20,
  mkD "check_sides" "check_sides" 21,
  mkD "check_span" "check_span" 22,
  mkD "grid_counts" "grid_counts" 23,
  mkD "two_rows_counts" "two_rows_counts" 24,
  mkD "check_ends" "check_ends" 25,
  mkD "parabola_counts" "parabola_counts" 26,
  mkD "zigzag_counts" "zigzag_counts" 27,
  mkD "_law_purse" "_law_purse" 29,
  mkD "_law_coin" "_law_coin" 30,
  mkD "_law_pick" "_law_pick" 31,
  mkD "_law_size" "_law_size" 32,
  mkD "_law_whole" "_law_whole" 33,
  mkD "_law_grids_right" "_law_grids_right" 34,
  mkD "_law_rows_right" "_law_rows_right" 35,
  mkD "_law_parabolas_right" "_law_parabolas_right" 36,
  mkD "_law_circles_right" "_law_circles_right" 37,
  mkD "_law_zigzags_right" "_law_zigzags_right" 38,
  mkD "law" "law" 39]
def fas : List He.Fa := [.glo "is_integer", .glo "is_between", .glo "sign", .glo "is_site", .glo "check_site", .glo "turn", .glo "power", .glo "inside", .glo "check_circle", .glo "in_circle", .glo "counted", .glo "check_sides", .glo "check_span", .glo "grid_counts", .glo "two_rows_counts", .glo "check_ends", .glo "parabola_counts", .glo "zigzag_counts", .glo "_law_purse", .glo "_law_coin", .glo "_law_pick", .glo "_law_size", .glo "_law_whole", .glo "_law_grids_right", .glo "_law_rows_right", .glo "_law_parabolas_right", .glo "_law_circles_right", .glo "_law_zigzags_right", .glo "law", .int "MOST_COORDINATE" 1000000, .int "MOST_SIDE" 1000000, .free "isinstance", .free "int", .free "bool", .free "tuple", .free "len", .free "all", .free "range", .free "min", .free "max", .free "abs"]
structure Tops (K : PySem.W.Frag) (mg : Str → Option Value) where
  fd_is_integer : FuncData
  F_is_integer : FnP K "is_integer" (top 5) (He.ga K "is_integer") fd_is_integer
  g_is_integer : mg "is_integer" = some (.ref (He.ga K "is_integer"))
  fd_is_between : FuncData
  F_is_between : FnP K "is_between" (top 6) (He.ga K "is_between") fd_is_between
  g_is_between : mg "is_between" = some (.ref (He.ga K "is_between"))
  fd_sign : FuncData
  F_sign : FnP K "sign" (top 7) (He.ga K "sign") fd_sign
  g_sign : mg "sign" = some (.ref (He.ga K "sign"))
  fd_is_site : FuncData
  F_is_site : FnP K "is_site" (top 10) (He.ga K "is_site") fd_is_site
  g_is_site : mg "is_site" = some (.ref (He.ga K "is_site"))
  fd_check_site : FuncData
  F_check_site : FnP K "check_site" (top 11) (He.ga K "check_site") fd_check_site
  g_check_site : mg "check_site" = some (.ref (He.ga K "check_site"))
  fd_turn : FuncData
  F_turn : FnP K "turn" (top 13) (He.ga K "turn") fd_turn
  g_turn : mg "turn" = some (.ref (He.ga K "turn"))
  fd_power : FuncData
  F_power : FnP K "power" (top 14) (He.ga K "power") fd_power
  g_power : mg "power" = some (.ref (He.ga K "power"))
  fd_inside : FuncData
  F_inside : FnP K "inside" (top 15) (He.ga K "inside") fd_inside
  g_inside : mg "inside" = some (.ref (He.ga K "inside"))
  fd_check_circle : FuncData
  F_check_circle : FnP K "check_circle" (top 16) (He.ga K "check_circle") fd_check_circle
  g_check_circle : mg "check_circle" = some (.ref (He.ga K "check_circle"))
  fd_in_circle : FuncData
  F_in_circle : FnP K "in_circle" (top 17) (He.ga K "in_circle") fd_in_circle
  g_in_circle : mg "in_circle" = some (.ref (He.ga K "in_circle"))
  fd_counted : FuncData
  F_counted : FnP K "counted" (top 20) (He.ga K "counted") fd_counted
  g_counted : mg "counted" = some (.ref (He.ga K "counted"))
  fd_check_sides : FuncData
  F_check_sides : FnP K "check_sides" (top 21) (He.ga K "check_sides") fd_check_sides
  g_check_sides : mg "check_sides" = some (.ref (He.ga K "check_sides"))
  fd_check_span : FuncData
  F_check_span : FnP K "check_span" (top 22) (He.ga K "check_span") fd_check_span
  g_check_span : mg "check_span" = some (.ref (He.ga K "check_span"))
  fd_grid_counts : FuncData
  F_grid_counts : FnP K "grid_counts" (top 23) (He.ga K "grid_counts") fd_grid_counts
  g_grid_counts : mg "grid_counts" = some (.ref (He.ga K "grid_counts"))
  fd_two_rows_counts : FuncData
  F_two_rows_counts : FnP K "two_rows_counts" (top 24) (He.ga K "two_rows_counts") fd_two_rows_counts
  g_two_rows_counts : mg "two_rows_counts" = some (.ref (He.ga K "two_rows_counts"))
  fd_check_ends : FuncData
  F_check_ends : FnP K "check_ends" (top 25) (He.ga K "check_ends") fd_check_ends
  g_check_ends : mg "check_ends" = some (.ref (He.ga K "check_ends"))
  fd_parabola_counts : FuncData
  F_parabola_counts : FnP K "parabola_counts" (top 26) (He.ga K "parabola_counts") fd_parabola_counts
  g_parabola_counts : mg "parabola_counts" = some (.ref (He.ga K "parabola_counts"))
  fd_zigzag_counts : FuncData
  F_zigzag_counts : FnP K "zigzag_counts" (top 27) (He.ga K "zigzag_counts") fd_zigzag_counts
  g_zigzag_counts : mg "zigzag_counts" = some (.ref (He.ga K "zigzag_counts"))
  fd_law_purse : FuncData
  F_law_purse : FnP K "_law_purse" (top 29) (He.ga K "_law_purse") fd_law_purse
  g_law_purse : mg "_law_purse" = some (.ref (He.ga K "_law_purse"))
  fd_law_coin : FuncData
  F_law_coin : FnP K "_law_coin" (top 30) (He.ga K "_law_coin") fd_law_coin
  g_law_coin : mg "_law_coin" = some (.ref (He.ga K "_law_coin"))
  fd_law_pick : FuncData
  F_law_pick : FnP K "_law_pick" (top 31) (He.ga K "_law_pick") fd_law_pick
  g_law_pick : mg "_law_pick" = some (.ref (He.ga K "_law_pick"))
  fd_law_size : FuncData
  F_law_size : FnP K "_law_size" (top 32) (He.ga K "_law_size") fd_law_size
  g_law_size : mg "_law_size" = some (.ref (He.ga K "_law_size"))
  fd_law_whole : FuncData
  F_law_whole : FnP K "_law_whole" (top 33) (He.ga K "_law_whole") fd_law_whole
  g_law_whole : mg "_law_whole" = some (.ref (He.ga K "_law_whole"))
  fd_law_grids_right : FuncData
  F_law_grids_right : FnP K "_law_grids_right" (top 34) (He.ga K "_law_grids_right") fd_law_grids_right
  g_law_grids_right : mg "_law_grids_right" = some (.ref (He.ga K "_law_grids_right"))
  fd_law_rows_right : FuncData
  F_law_rows_right : FnP K "_law_rows_right" (top 35) (He.ga K "_law_rows_right") fd_law_rows_right
  g_law_rows_right : mg "_law_rows_right" = some (.ref (He.ga K "_law_rows_right"))
  fd_law_parabolas_right : FuncData
  F_law_parabolas_right : FnP K "_law_parabolas_right" (top 36) (He.ga K "_law_parabolas_right") fd_law_parabolas_right
  g_law_parabolas_right : mg "_law_parabolas_right" = some (.ref (He.ga K "_law_parabolas_right"))
  fd_law_circles_right : FuncData
  F_law_circles_right : FnP K "_law_circles_right" (top 37) (He.ga K "_law_circles_right") fd_law_circles_right
  g_law_circles_right : mg "_law_circles_right" = some (.ref (He.ga K "_law_circles_right"))
  fd_law_zigzags_right : FuncData
  F_law_zigzags_right : FnP K "_law_zigzags_right" (top 38) (He.ga K "_law_zigzags_right") fd_law_zigzags_right
  g_law_zigzags_right : mg "_law_zigzags_right" = some (.ref (He.ga K "_law_zigzags_right"))
  fd_law : FuncData
  F_law : FnP K "law" (top 39) (He.ga K "law") fd_law
  g_law : mg "law" = some (.ref (He.ga K "law"))
  t_MOST_COORDINATE : Tok
  c_MOST_COORDINATE : mg "MOST_COORDINATE" = some (.int 1000000 t_MOST_COORDINATE)
  t_MOST_SIDE : Tok
  c_MOST_SIDE : mg "MOST_SIDE" = some (.int 1000000 t_MOST_SIDE)
  m_isinstance : mg "isinstance" = none
  m_int : mg "int" = none
  m_bool : mg "bool" = none
  m_tuple : mg "tuple" = none
  m_len : mg "len" = none
  m_all : mg "all" = none
  m_range : mg "range" = none
  m_min : mg "min" = none
  m_max : mg "max" = none
  m_abs : mg "abs" = none
theorem tops {K : PySem.W.Frag} {h : Heap} {mg : Str → Option Value} (X : K.In h) (G : h.Ns mainGlobals mg) (c : He.SaysD fas fns K) : Nonempty (Tops K mg) := by
  obtain ⟨fd0, F0⟩ := c.def_ 0 rfl
  obtain ⟨fd1, F1⟩ := c.def_ 1 rfl
  obtain ⟨fd2, F2⟩ := c.def_ 2 rfl
  obtain ⟨fd3, F3⟩ := c.def_ 3 rfl
  obtain ⟨fd4, F4⟩ := c.def_ 4 rfl
  obtain ⟨fd5, F5⟩ := c.def_ 5 rfl
  obtain ⟨fd6, F6⟩ := c.def_ 6 rfl
  obtain ⟨fd7, F7⟩ := c.def_ 7 rfl
  obtain ⟨fd8, F8⟩ := c.def_ 8 rfl
  obtain ⟨fd9, F9⟩ := c.def_ 9 rfl
  obtain ⟨fd10, F10⟩ := c.def_ 10 rfl
  obtain ⟨fd11, F11⟩ := c.def_ 11 rfl
  obtain ⟨fd12, F12⟩ := c.def_ 12 rfl
  obtain ⟨fd13, F13⟩ := c.def_ 13 rfl
  obtain ⟨fd14, F14⟩ := c.def_ 14 rfl
  obtain ⟨fd15, F15⟩ := c.def_ 15 rfl
  obtain ⟨fd16, F16⟩ := c.def_ 16 rfl
  obtain ⟨fd17, F17⟩ := c.def_ 17 rfl
  obtain ⟨fd18, F18⟩ := c.def_ 18 rfl
  obtain ⟨fd19, F19⟩ := c.def_ 19 rfl
  obtain ⟨fd20, F20⟩ := c.def_ 20 rfl
  obtain ⟨fd21, F21⟩ := c.def_ 21 rfl
  obtain ⟨fd22, F22⟩ := c.def_ 22 rfl
  obtain ⟨fd23, F23⟩ := c.def_ 23 rfl
  obtain ⟨fd24, F24⟩ := c.def_ 24 rfl
  obtain ⟨fd25, F25⟩ := c.def_ 25 rfl
  obtain ⟨fd26, F26⟩ := c.def_ 26 rfl
  obtain ⟨fd27, F27⟩ := c.def_ 27 rfl
  obtain ⟨fd28, F28⟩ := c.def_ 28 rfl
  obtain ⟨t0, c0⟩ := He.int_ok X G (c.fact 29 rfl)
  obtain ⟨t1, c1⟩ := He.int_ok X G (c.fact 30 rfl)
  exact ⟨{ fd_is_integer := fd0, F_is_integer := F0, g_is_integer := He.glo_ok X G (c.fact 0 rfl), fd_is_between := fd1, F_is_between := F1, g_is_between := He.glo_ok X G (c.fact 1 rfl), fd_sign := fd2, F_sign := F2, g_sign := He.glo_ok X G (c.fact 2 rfl), fd_is_site := fd3, F_is_site := F3, g_is_site := He.glo_ok X G (c.fact 3 rfl), fd_check_site := fd4, F_check_site := F4, g_check_site := He.glo_ok X G (c.fact 4 rfl), fd_turn := fd5, F_turn := F5, g_turn := He.glo_ok X G (c.fact 5 rfl), fd_power := fd6, F_power := F6, g_power := He.glo_ok X G (c.fact 6 rfl), fd_inside := fd7, F_inside := F7, g_inside := He.glo_ok X G (c.fact 7 rfl), fd_check_circle := fd8, F_check_circle := F8, g_check_circle := He.glo_ok X G (c.fact 8 rfl), fd_in_circle := fd9, F_in_circle := F9, g_in_circle := He.glo_ok X G (c.fact 9 rfl), fd_counted := fd10, F_counted := F10, g_counted := He.glo_ok X G (c.fact 10 rfl), fd_check_sides := fd11, F_check_sides := F11, g_check_sides := He.glo_ok X G (c.fact 11 rfl), fd_check_span := fd12, F_check_span := F12, g_check_span := He.glo_ok X G (c.fact 12 rfl), fd_grid_counts := fd13, F_grid_counts := F13, g_grid_counts := He.glo_ok X G (c.fact 13 rfl), fd_two_rows_counts := fd14, F_two_rows_counts := F14, g_two_rows_counts := He.glo_ok X G (c.fact 14 rfl), fd_check_ends := fd15, F_check_ends := F15, g_check_ends := He.glo_ok X G (c.fact 15 rfl), fd_parabola_counts := fd16, F_parabola_counts := F16, g_parabola_counts := He.glo_ok X G (c.fact 16 rfl), fd_zigzag_counts := fd17, F_zigzag_counts := F17, g_zigzag_counts := He.glo_ok X G (c.fact 17 rfl), fd_law_purse := fd18, F_law_purse := F18, g_law_purse := He.glo_ok X G (c.fact 18 rfl), fd_law_coin := fd19, F_law_coin := F19, g_law_coin := He.glo_ok X G (c.fact 19 rfl), fd_law_pick := fd20, F_law_pick := F20, g_law_pick := He.glo_ok X G (c.fact 20 rfl), fd_law_size := fd21, F_law_size := F21, g_law_size := He.glo_ok X G (c.fact 21 rfl), fd_law_whole := fd22, F_law_whole := F22, g_law_whole := He.glo_ok X G (c.fact 22 rfl), fd_law_grids_right := fd23, F_law_grids_right := F23, g_law_grids_right := He.glo_ok X G (c.fact 23 rfl), fd_law_rows_right := fd24, F_law_rows_right := F24, g_law_rows_right := He.glo_ok X G (c.fact 24 rfl), fd_law_parabolas_right := fd25, F_law_parabolas_right := F25, g_law_parabolas_right := He.glo_ok X G (c.fact 25 rfl), fd_law_circles_right := fd26, F_law_circles_right := F26, g_law_circles_right := He.glo_ok X G (c.fact 26 rfl), fd_law_zigzags_right := fd27, F_law_zigzags_right := F27, g_law_zigzags_right := He.glo_ok X G (c.fact 27 rfl), fd_law := fd28, F_law := F28, g_law := He.glo_ok X G (c.fact 28 rfl), t_MOST_COORDINATE := t0, c_MOST_COORDINATE := c0, t_MOST_SIDE := t1, c_MOST_SIDE := c1, m_isinstance := He.free_ok X G (c.fact 31 rfl), m_int := He.free_ok X G (c.fact 32 rfl), m_bool := He.free_ok X G (c.fact 33 rfl), m_tuple := He.free_ok X G (c.fact 34 rfl), m_len := He.free_ok X G (c.fact 35 rfl), m_all := He.free_ok X G (c.fact 36 rfl), m_range := He.free_ok X G (c.fact 37 rfl), m_min := He.free_ok X G (c.fact 38 rfl), m_max := He.free_ok X G (c.fact 39 rfl), m_abs := He.free_ok X G (c.fact 40 rfl) }⟩
abbrev R0 : PySem.W.OpenRow := PySem.W.OpenLaw.row PySem.Challenge.rw_nearcells_k71_whole_far_shapes
abbrev exF : PySem.W.Frag → Bool := fun _ => true
abbrev hk : PySem.W.Hook := He.hookX 4 fas fns [] [] exF
def ob (s : PySem.W.SharedT) : He.AlX := He.obsX 4 fas fns [] [] exF (HandSHeadRun.getT s)
theorem ob_eq (s : PySem.W.SharedT) : ob s = hk.obs s.abs := He.obsX_eq (HandSHeadRun.getT_eq s)
def loose0 : List PySem.Str := ["CellError", "InvalidBound", "NoCircle", "is_integer", "is_between", "sign", "MOST_COORDINATE", "is_site", "check_site", "turn", "power", "inside", "check_circle", "in_circle", "MOST_SIDE", "counted", "check_sides", "check_span", "grid_counts", "two_rows_counts", "check_ends", "parabola_counts", "zigzag_counts", "_law_purse", "_law_coin", "_law_pick", "_law_size", "_law_whole", "_law_grids_right", "_law_rows_right"]
def loose1 : List PySem.Str := ["_law_parabolas_right", "_law_circles_right", "_law_zigzags_right"]
abbrev loose : List PySem.Str := loose0 ++ loose1
theorem run (w : World) : HandSHeadRun.RunEq R0 (PySem.W.view R0.prog [39]) hk ob 4000 loose w := by
  intro os
  kernel_rfl
abbrev N_is_integer : List Str := ["value"]
abbrev P_is_integer : List Str := ["value"]
theorem sc_is_integer : FnScope N_is_integer P_is_integer (defScope (top 5)) := ⟨rfl, rfl, rfl, by decide +kernel, rfl, by decide +kernel, by decide +kernel⟩
theorem st_is_integer (x0 : V) : L2.start N_is_integer [x0] = [some x0] := rfl
theorem b_is_integer {K : PySem.W.Frag} {mg : Str → Option Value} (T : Tops K mg) : Binds K T.fd_is_integer P_is_integer [] := T.F_is_integer.bindsN fun _ _ _ _ _ _ us hl => match us, hl with | [_], _ => rfl
abbrev N_is_between : List Str := ["value", "low", "high"]
abbrev P_is_between : List Str := ["value", "low", "high"]
theorem sc_is_between : FnScope N_is_between P_is_between (defScope (top 6)) := ⟨rfl, rfl, rfl, by decide +kernel, rfl, by decide +kernel, by decide +kernel⟩
theorem st_is_between (x0 : V) (x1 : V) (x2 : V) : L2.start N_is_between [x0, x1, x2] = [some x0, some x1, some x2] := rfl
theorem b_is_between {K : PySem.W.Frag} {mg : Str → Option Value} (T : Tops K mg) : Binds K T.fd_is_between P_is_between [] := T.F_is_between.bindsN fun _ _ _ _ _ _ us hl => match us, hl with | [_, _, _], _ => rfl
abbrev N_sign : List Str := ["value"]
abbrev P_sign : List Str := ["value"]
theorem sc_sign : FnScope N_sign P_sign (defScope (top 7)) := ⟨rfl, rfl, rfl, by decide +kernel, rfl, by decide +kernel, by decide +kernel⟩
theorem st_sign (x0 : V) : L2.start N_sign [x0] = [some x0] := rfl
theorem b_sign {K : PySem.W.Frag} {mg : Str → Option Value} (T : Tops K mg) : Binds K T.fd_sign P_sign [] := T.F_sign.bindsN fun _ _ _ _ _ _ us hl => match us, hl with | [_], _ => rfl
abbrev N_is_site : List Str := ["value", "one"]
abbrev P_is_site : List Str := ["value"]
theorem sc_is_site : FnScope N_is_site P_is_site (defScope (top 10)) := ⟨rfl, rfl, rfl, by decide +kernel, rfl, by decide +kernel, by decide +kernel⟩
theorem st_is_site (x0 : V) : L2.start N_is_site [x0] = [some x0, none] := rfl
theorem b_is_site {K : PySem.W.Frag} {mg : Str → Option Value} (T : Tops K mg) : Binds K T.fd_is_site P_is_site [] := T.F_is_site.bindsN fun _ _ _ _ _ _ us hl => match us, hl with | [_], _ => rfl
abbrev N_check_site : List Str := ["argument", "value"]
abbrev P_check_site : List Str := ["argument", "value"]
theorem sc_check_site : FnScope N_check_site P_check_site (defScope (top 11)) := ⟨rfl, rfl, rfl, by decide +kernel, rfl, by decide +kernel, by decide +kernel⟩
theorem st_check_site (x0 : V) (x1 : V) : L2.start N_check_site [x0, x1] = [some x0, some x1] := rfl
theorem b_check_site {K : PySem.W.Frag} {mg : Str → Option Value} (T : Tops K mg) : Binds K T.fd_check_site P_check_site [] := T.F_check_site.bindsN fun _ _ _ _ _ _ us hl => match us, hl with | [_, _], _ => rfl
abbrev N_turn : List Str := ["a", "b", "c"]
abbrev P_turn : List Str := ["a", "b", "c"]
theorem sc_turn : FnScope N_turn P_turn (defScope (top 13)) := ⟨rfl, rfl, rfl, by decide +kernel, rfl, by decide +kernel, by decide +kernel⟩
theorem st_turn (x0 : V) (x1 : V) (x2 : V) : L2.start N_turn [x0, x1, x2] = [some x0, some x1, some x2] := rfl
theorem b_turn {K : PySem.W.Frag} {mg : Str → Option Value} (T : Tops K mg) : Binds K T.fd_turn P_turn [] := T.F_turn.bindsN fun _ _ _ _ _ _ us hl => match us, hl with | [_, _, _], _ => rfl
abbrev N_power : List Str := ["a", "b", "c", "d", "rows", "ax", "ay", "bx", "by", "cx", "cy", "lifts", "one", "x", "y"]
abbrev P_power : List Str := ["a", "b", "c", "d"]
theorem sc_power : FnScope N_power P_power (defScope (top 14)) := ⟨rfl, rfl, rfl, by decide +kernel, rfl, by decide +kernel, by decide +kernel⟩
theorem st_power (x0 : V) (x1 : V) (x2 : V) (x3 : V) : L2.start N_power [x0, x1, x2, x3] = [some x0, some x1, some x2, some x3, none, none, none, none, none, none, none, none, none, none, none] := rfl
theorem b_power {K : PySem.W.Frag} {mg : Str → Option Value} (T : Tops K mg) : Binds K T.fd_power P_power [] := T.F_power.bindsN fun _ _ _ _ _ _ us hl => match us, hl with | [_, _, _, _], _ => rfl
abbrev N_inside : List Str := ["a", "b", "c", "d"]
abbrev P_inside : List Str := ["a", "b", "c", "d"]
theorem sc_inside : FnScope N_inside P_inside (defScope (top 15)) := ⟨rfl, rfl, rfl, by decide +kernel, rfl, by decide +kernel, by decide +kernel⟩
theorem st_inside (x0 : V) (x1 : V) (x2 : V) (x3 : V) : L2.start N_inside [x0, x1, x2, x3] = [some x0, some x1, some x2, some x3] := rfl
theorem b_inside {K : PySem.W.Frag} {mg : Str → Option Value} (T : Tops K mg) : Binds K T.fd_inside P_inside [] := T.F_inside.bindsN fun _ _ _ _ _ _ us hl => match us, hl with | [_, _, _, _], _ => rfl
abbrev N_check_circle : List Str := ["a", "b", "c"]
abbrev P_check_circle : List Str := ["a", "b", "c"]
theorem sc_check_circle : FnScope N_check_circle P_check_circle (defScope (top 16)) := ⟨rfl, rfl, rfl, by decide +kernel, rfl, by decide +kernel, by decide +kernel⟩
theorem st_check_circle (x0 : V) (x1 : V) (x2 : V) : L2.start N_check_circle [x0, x1, x2] = [some x0, some x1, some x2] := rfl
theorem b_check_circle {K : PySem.W.Frag} {mg : Str → Option Value} (T : Tops K mg) : Binds K T.fd_check_circle P_check_circle [] := T.F_check_circle.bindsN fun _ _ _ _ _ _ us hl => match us, hl with | [_, _, _], _ => rfl
abbrev N_in_circle : List Str := ["a", "b", "c", "d"]
abbrev P_in_circle : List Str := ["a", "b", "c", "d"]
theorem sc_in_circle : FnScope N_in_circle P_in_circle (defScope (top 17)) := ⟨rfl, rfl, rfl, by decide +kernel, rfl, by decide +kernel, by decide +kernel⟩
theorem st_in_circle (x0 : V) (x1 : V) (x2 : V) (x3 : V) : L2.start N_in_circle [x0, x1, x2, x3] = [some x0, some x1, some x2, some x3] := rfl
theorem b_in_circle {K : PySem.W.Frag} {mg : Str → Option Value} (T : Tops K mg) : Binds K T.fd_in_circle P_in_circle [] := T.F_in_circle.bindsN fun _ _ _ _ _ _ us hl => match us, hl with | [_, _, _, _], _ => rfl
abbrev N_counted : List Str := ["many", "faces", "triangles"]
abbrev P_counted : List Str := ["many", "faces", "triangles"]
theorem sc_counted : FnScope N_counted P_counted (defScope (top 20)) := ⟨rfl, rfl, rfl, by decide +kernel, rfl, by decide +kernel, by decide +kernel⟩
theorem st_counted (x0 : V) (x1 : V) (x2 : V) : L2.start N_counted [x0, x1, x2] = [some x0, some x1, some x2] := rfl
theorem b_counted {K : PySem.W.Frag} {mg : Str → Option Value} (T : Tops K mg) : Binds K T.fd_counted P_counted [] := T.F_counted.bindsN fun _ _ _ _ _ _ us hl => match us, hl with | [_, _, _], _ => rfl
abbrev N_check_sides : List Str := ["low", "m", "n", "word", "value"]
abbrev P_check_sides : List Str := ["low", "m", "n"]
theorem sc_check_sides : FnScope N_check_sides P_check_sides (defScope (top 21)) := ⟨rfl, rfl, rfl, by decide +kernel, rfl, by decide +kernel, by decide +kernel⟩
theorem st_check_sides (x0 : V) (x1 : V) (x2 : V) : L2.start N_check_sides [x0, x1, x2] = [some x0, some x1, some x2, none, none] := rfl
theorem b_check_sides {K : PySem.W.Frag} {mg : Str → Option Value} (T : Tops K mg) : Binds K T.fd_check_sides P_check_sides [] := T.F_check_sides.bindsN fun _ _ _ _ _ _ us hl => match us, hl with | [_, _, _], _ => rfl
abbrev N_check_span : List Str := ["word", "value"]
abbrev P_check_span : List Str := ["word", "value"]
theorem sc_check_span : FnScope N_check_span P_check_span (defScope (top 22)) := ⟨rfl, rfl, rfl, by decide +kernel, rfl, by decide +kernel, by decide +kernel⟩
theorem st_check_span (x0 : V) (x1 : V) : L2.start N_check_span [x0, x1] = [some x0, some x1] := rfl
theorem b_check_span {K : PySem.W.Frag} {mg : Str → Option Value} (T : Tops K mg) : Binds K T.fd_check_span P_check_span [] := T.F_check_span.bindsN fun _ _ _ _ _ _ us hl => match us, hl with | [_, _], _ => rfl
abbrev N_grid_counts : List Str := ["m", "n", "faces"]
abbrev P_grid_counts : List Str := ["m", "n"]
theorem sc_grid_counts : FnScope N_grid_counts P_grid_counts (defScope (top 23)) := ⟨rfl, rfl, rfl, by decide +kernel, rfl, by decide +kernel, by decide +kernel⟩
theorem st_grid_counts (x0 : V) (x1 : V) : L2.start N_grid_counts [x0, x1] = [some x0, some x1, none] := rfl
theorem b_grid_counts {K : PySem.W.Frag} {mg : Str → Option Value} (T : Tops K mg) : Binds K T.fd_grid_counts P_grid_counts [] := T.F_grid_counts.bindsN fun _ _ _ _ _ _ us hl => match us, hl with | [_, _], _ => rfl
abbrev N_two_rows_counts : List Str := ["m", "n", "shift", "above", "triangles"]
abbrev P_two_rows_counts : List Str := ["m", "n", "shift"]
theorem sc_two_rows_counts : FnScope N_two_rows_counts P_two_rows_counts (defScope (top 24)) := ⟨rfl, rfl, rfl, by decide +kernel, rfl, by decide +kernel, by decide +kernel⟩
theorem st_two_rows_counts (x0 : V) (x1 : V) (x2 : V) : L2.start N_two_rows_counts [x0, x1, x2] = [some x0, some x1, some x2, none, none] := rfl
theorem b_two_rows_counts {K : PySem.W.Frag} {mg : Str → Option Value} (T : Tops K mg) : Binds K T.fd_two_rows_counts P_two_rows_counts [] := T.F_two_rows_counts.bindsN fun _ _ _ _ _ _ us hl => match us, hl with | [_, _, _], _ => rfl
abbrev N_check_ends : List Str := ["low", "high"]
abbrev P_check_ends : List Str := ["low", "high"]
theorem sc_check_ends : FnScope N_check_ends P_check_ends (defScope (top 25)) := ⟨rfl, rfl, rfl, by decide +kernel, rfl, by decide +kernel, by decide +kernel⟩
theorem st_check_ends (x0 : V) (x1 : V) : L2.start N_check_ends [x0, x1] = [some x0, some x1] := rfl
theorem b_check_ends {K : PySem.W.Frag} {mg : Str → Option Value} (T : Tops K mg) : Binds K T.fd_check_ends P_check_ends [] := T.F_check_ends.bindsN fun _ _ _ _ _ _ us hl => match us, hl with | [_, _], _ => rfl
abbrev N_parabola_counts : List Str := ["low", "high", "many", "triangles"]
abbrev P_parabola_counts : List Str := ["low", "high"]
theorem sc_parabola_counts : FnScope N_parabola_counts P_parabola_counts (defScope (top 26)) := ⟨rfl, rfl, rfl, by decide +kernel, rfl, by decide +kernel, by decide +kernel⟩
theorem st_parabola_counts (x0 : V) (x1 : V) : L2.start N_parabola_counts [x0, x1] = [some x0, some x1, none, none] := rfl
theorem b_parabola_counts {K : PySem.W.Frag} {mg : Str → Option Value} (T : Tops K mg) : Binds K T.fd_parabola_counts P_parabola_counts [] := T.F_parabola_counts.bindsN fun _ _ _ _ _ _ us hl => match us, hl with | [_, _], _ => rfl
abbrev N_zigzag_counts : List Str := ["m", "n", "triangles"]
abbrev P_zigzag_counts : List Str := ["m", "n"]
theorem sc_zigzag_counts : FnScope N_zigzag_counts P_zigzag_counts (defScope (top 27)) := ⟨rfl, rfl, rfl, by decide +kernel, rfl, by decide +kernel, by decide +kernel⟩
theorem st_zigzag_counts (x0 : V) (x1 : V) : L2.start N_zigzag_counts [x0, x1] = [some x0, some x1, none] := rfl
theorem b_zigzag_counts {K : PySem.W.Frag} {mg : Str → Option Value} (T : Tops K mg) : Binds K T.fd_zigzag_counts P_zigzag_counts [] := T.F_zigzag_counts.bindsN fun _ _ _ _ _ _ us hl => match us, hl with | [_, _], _ => rfl
abbrev N_law_purse : List Str := ["_law_figure"]
abbrev P_law_purse : List Str := ["_law_figure"]
theorem sc_law_purse : FnScope N_law_purse P_law_purse (defScope (top 29)) := ⟨rfl, rfl, rfl, by decide +kernel, rfl, by decide +kernel, by decide +kernel⟩
theorem st_law_purse (x0 : V) : L2.start N_law_purse [x0] = [some x0] := rfl
theorem b_law_purse {K : PySem.W.Frag} {mg : Str → Option Value} (T : Tops K mg) : Binds K T.fd_law_purse P_law_purse [] := T.F_law_purse.bindsN fun _ _ _ _ _ _ us hl => match us, hl with | [_], _ => rfl
abbrev N_law_coin : List Str := ["_law_purse_here", "_law_many", "_law_got_so", "_law_hashed"]
abbrev P_law_coin : List Str := ["_law_purse_here", "_law_many"]
theorem sc_law_coin : FnScope N_law_coin P_law_coin (defScope (top 30)) := ⟨rfl, rfl, rfl, by decide +kernel, rfl, by decide +kernel, by decide +kernel⟩
theorem st_law_coin (x0 : V) (x1 : V) : L2.start N_law_coin [x0, x1] = [some x0, some x1, none, none] := rfl
theorem b_law_coin {K : PySem.W.Frag} {mg : Str → Option Value} (T : Tops K mg) : Binds K T.fd_law_coin P_law_coin [] := T.F_law_coin.bindsN fun _ _ _ _ _ _ us hl => match us, hl with | [_, _], _ => rfl
abbrev N_law_pick : List Str := ["_law_purse_here", "_law_some"]
abbrev P_law_pick : List Str := ["_law_purse_here", "_law_some"]
theorem sc_law_pick : FnScope N_law_pick P_law_pick (defScope (top 31)) := ⟨rfl, rfl, rfl, by decide +kernel, rfl, by decide +kernel, by decide +kernel⟩
theorem st_law_pick (x0 : V) (x1 : V) : L2.start N_law_pick [x0, x1] = [some x0, some x1] := rfl
theorem b_law_pick {K : PySem.W.Frag} {mg : Str → Option Value} (T : Tops K mg) : Binds K T.fd_law_pick P_law_pick [] := T.F_law_pick.bindsN fun _ _ _ _ _ _ us hl => match us, hl with | [_, _], _ => rfl
abbrev N_law_size : List Str := ["_law_purse_here", "_law_least_so"]
abbrev P_law_size : List Str := ["_law_purse_here", "_law_least_so"]
theorem sc_law_size : FnScope N_law_size P_law_size (defScope (top 32)) := ⟨rfl, rfl, rfl, by decide +kernel, rfl, by decide +kernel, by decide +kernel⟩
theorem st_law_size (x0 : V) (x1 : V) : L2.start N_law_size [x0, x1] = [some x0, some x1] := rfl
theorem b_law_size {K : PySem.W.Frag} {mg : Str → Option Value} (T : Tops K mg) : Binds K T.fd_law_size P_law_size [] := T.F_law_size.bindsN fun _ _ _ _ _ _ us hl => match us, hl with | [_, _], _ => rfl
abbrev N_law_whole : List Str := ["_law_found"]
abbrev P_law_whole : List Str := ["_law_found"]
theorem sc_law_whole : FnScope N_law_whole P_law_whole (defScope (top 33)) := ⟨rfl, rfl, rfl, by decide +kernel, rfl, by decide +kernel, by decide +kernel⟩
theorem st_law_whole (x0 : V) : L2.start N_law_whole [x0] = [some x0] := rfl
theorem b_law_whole {K : PySem.W.Frag} {mg : Str → Option Value} (T : Tops K mg) : Binds K T.fd_law_whole P_law_whole [] := T.F_law_whole.bindsN fun _ _ _ _ _ _ us hl => match us, hl with | [_], _ => rfl
abbrev N_law_grids_right : List Str := ["_law_purse_here", "_law_m", "_law_n", "_law_found", "_law_units"]
abbrev P_law_grids_right : List Str := ["_law_purse_here"]
theorem sc_law_grids_right : FnScope N_law_grids_right P_law_grids_right (defScope (top 34)) := ⟨rfl, rfl, rfl, by decide +kernel, rfl, by decide +kernel, by decide +kernel⟩
theorem st_law_grids_right (x0 : V) : L2.start N_law_grids_right [x0] = [some x0, none, none, none, none] := rfl
theorem b_law_grids_right {K : PySem.W.Frag} {mg : Str → Option Value} (T : Tops K mg) : Binds K T.fd_law_grids_right P_law_grids_right [] := T.F_law_grids_right.bindsN fun _ _ _ _ _ _ us hl => match us, hl with | [_], _ => rfl
abbrev N_law_rows_right : List Str := ["_law_purse_here", "_law_m", "_law_n", "_law_by", "_law_found", "_law_units"]
abbrev P_law_rows_right : List Str := ["_law_purse_here"]
theorem sc_law_rows_right : FnScope N_law_rows_right P_law_rows_right (defScope (top 35)) := ⟨rfl, rfl, rfl, by decide +kernel, rfl, by decide +kernel, by decide +kernel⟩
theorem st_law_rows_right (x0 : V) : L2.start N_law_rows_right [x0] = [some x0, none, none, none, none, none] := rfl
theorem b_law_rows_right {K : PySem.W.Frag} {mg : Str → Option Value} (T : Tops K mg) : Binds K T.fd_law_rows_right P_law_rows_right [] := T.F_law_rows_right.bindsN fun _ _ _ _ _ _ us hl => match us, hl with | [_], _ => rfl
abbrev N_law_parabolas_right : List Str := ["_law_purse_here", "_law_low", "_law_high", "_law_found", "_law_size_here", "_law_faces_so"]
abbrev P_law_parabolas_right : List Str := ["_law_purse_here"]
theorem sc_law_parabolas_right : FnScope N_law_parabolas_right P_law_parabolas_right (defScope (top 36)) := ⟨rfl, rfl, rfl, by decide +kernel, rfl, by decide +kernel, by decide +kernel⟩
theorem st_law_parabolas_right (x0 : V) : L2.start N_law_parabolas_right [x0] = [some x0, none, none, none, none, none] := rfl
theorem b_law_parabolas_right {K : PySem.W.Frag} {mg : Str → Option Value} (T : Tops K mg) : Binds K T.fd_law_parabolas_right P_law_parabolas_right [] := T.F_law_parabolas_right.bindsN fun _ _ _ _ _ _ us hl => match us, hl with | [_], _ => rfl
abbrev N_law_circles_right : List Str := ["_law_purse_here", "_law_rows_so", "_law_turn_so", "_law_x", "_law_i", "_law_j", "_law_k", "_law_end", "_law_mark", "_law_spot", "_law_due"]
abbrev P_law_circles_right : List Str := ["_law_purse_here"]
theorem sc_law_circles_right : FnScope N_law_circles_right P_law_circles_right (defScope (top 37)) := ⟨rfl, rfl, rfl, by decide +kernel, rfl, by decide +kernel, by decide +kernel⟩
theorem st_law_circles_right (x0 : V) : L2.start N_law_circles_right [x0] = [some x0, none, none, none, none, none, none, none, none, none, none] := rfl
theorem b_law_circles_right {K : PySem.W.Frag} {mg : Str → Option Value} (T : Tops K mg) : Binds K T.fd_law_circles_right P_law_circles_right [] := T.F_law_circles_right.bindsN fun _ _ _ _ _ _ us hl => match us, hl with | [_], _ => rfl
abbrev N_law_zigzags_right : List Str := ["_law_purse_here", "_law_m", "_law_n", "_law_found", "_law_border_so"]
abbrev P_law_zigzags_right : List Str := ["_law_purse_here"]
theorem sc_law_zigzags_right : FnScope N_law_zigzags_right P_law_zigzags_right (defScope (top 38)) := ⟨rfl, rfl, rfl, by decide +kernel, rfl, by decide +kernel, by decide +kernel⟩
theorem st_law_zigzags_right (x0 : V) : L2.start N_law_zigzags_right [x0] = [some x0, none, none, none, none] := rfl
theorem b_law_zigzags_right {K : PySem.W.Frag} {mg : Str → Option Value} (T : Tops K mg) : Binds K T.fd_law_zigzags_right P_law_zigzags_right [] := T.F_law_zigzags_right.bindsN fun _ _ _ _ _ _ us hl => match us, hl with | [_], _ => rfl
abbrev N_law : List Str := ["_law_script", "_law_figure", "_law_purse_here", "_law_ask", "_law_far_so", "_law_units"]
abbrev P_law : List Str := ["_law_script"]
theorem sc_law : FnScope N_law P_law (defScope (top 39)) := ⟨rfl, rfl, rfl, by decide +kernel, rfl, by decide +kernel, by decide +kernel⟩
theorem st_law (x0 : V) : L2.start N_law [x0] = [some x0, none, none, none, none, none] := rfl
theorem b_law {K : PySem.W.Frag} {mg : Str → Option Value} (T : Tops K mg) : Binds K T.fd_law P_law [] := T.F_law.bindsN fun _ _ _ _ _ _ us hl => match us, hl with | [_], _ => rfl

end NC
namespace NC
section
variable {P : Program} {w : World} {K : PySem.W.Frag} {mg : Str → Option Value} {base : Heap}

def Bd (x : Int) : Prop := -1000000 ≤ x ∧ x ≤ 1000000
def sgn (i : Int) : Int := (if 0 < i then 1 else 0) - (if i < 0 then 1 else 0)
def turnZ (ax ay bx by_ cx cy : Int) : Int := (bx - ax) * (cy - ay) - (by_ - ay) * (cx - ax)
theorem sgn_pos {i : Int} (h : 0 < i) : sgn i = 1 := by unfold sgn; rw [if_pos h, if_neg (by omega)]; rfl
theorem sgn_neg {i : Int} (h : i < 0) : sgn i = -1 := by unfold sgn; rw [if_neg (by omega), if_pos h]; rfl
theorem sgn_zero {i : Int} (h : i = 0) : sgn i = 0 := by unfold sgn; rw [if_neg (by omega), if_neg (by omega)]; rfl
theorem sgn_negate (i : Int) : sgn (-i) = 0 - sgn i := by
  rcases (show i < 0 ∨ i = 0 ∨ 0 < i by omega) with h | h | h
  · rw [sgn_neg h, sgn_pos (by omega)]; rfl
  · rw [sgn_zero h, sgn_zero (by omega)]; rfl
  · rw [sgn_pos h, sgn_neg (by omega)]; rfl
/-- three sites a, b, c -/
structure S3 (H : Hp) (pa pb pc : Addr) (ax ay bx by_ cx cy : Int) : Prop where
  a : H pa = some (.tup [.int ax, .int ay])
  b : H pb = some (.tup [.int bx, .int by_])
  c : H pc = some (.tup [.int cx, .int cy])
  bd : (Bd ax ∧ Bd ay) ∧ (Bd bx ∧ Bd by_) ∧ (Bd cx ∧ Bd cy)
theorem S3.mono {H H' : Hp} {pa pb pc : Addr} {ax ay bx by_ cx cy : Int} (k : TK H H') (h : S3 H pa pb pc ax ay bx by_ cx cy) : S3 H' pa pb pc ax ay bx by_ cx cy := ⟨k _ _ h.a, k _ _ h.b, k _ _ h.c, h.bd⟩
def sp_is_integer : Sp := fun vs H Q _ => ∃ i : Int, vs = [.int i] ∧ Q (.bl true) H
theorem ok_is_integer (T : Tops K mg) : FnOk P w K mg base CX0 1 (He.ga K "is_integer") T.fd_is_integer P_is_integer sp_is_integer := by
  refine T.F_is_integer.ok sc_is_integer (fun vs H Q E h => ?_) (fun cdv A outer s H vs Q E hr h => ?_)
  · obtain ⟨i, rfl, q⟩ := h
    rfl
  · obtain ⟨i, rfl, q⟩ := h
    refine ⟨_, PSs.nox ((pss_one (ps_ret (pe_and (pe_callB (call_isiK0 K) (by rfl) T.m_isinstance (by decide +kernel) (pa_cons (pv 0) (pa_cons (pe_bltn (v := .ty "int") rfl T.m_int (by decide +kernel) rfl) pa_nil))) (pe_one (pe_not (pe_callB (call_isiK0 K) (by rfl) T.m_isinstance (by decide +kernel) (pa_cons (pv 0) (pa_cons (pe_bltn (v := .ty "bool") rfl T.m_bool (by decide +kernel) rfl) pa_nil))))))))), ?_⟩
    rw [st_is_integer]
    walk_at "rd"
    refine ⟨_, _, _, _, true, rfl, .ty _, .base (.int _), kit_ty (by decide +kernel), ?_⟩
    walk_at "rd"
    refine iteT ?_
    walk_at "rd"
    refine ⟨_, _, _, _, false, rfl, .ty _, .base (.int _), kit_ty (by decide +kernel), ?_⟩
    walk_at "rd"
    exact q
def sp_is_between : Sp := fun vs H Q _ => ∃ v lo hi : Int, vs = [.int v, .int lo, .int hi] ∧ Q (.bl (decide (lo ≤ v) && decide (v ≤ hi))) H
theorem ok_is_between (T : Tops K mg) : FnOk P w K mg base CX0 2 (He.ga K "is_between") T.fd_is_between P_is_between sp_is_between := by
  refine T.F_is_between.ok sc_is_between (fun vs H Q E h => ?_) (fun cdv A outer s H vs Q E hr h => ?_)
  · obtain ⟨v, lo, hi, rfl, q⟩ := h
    rfl
  · obtain ⟨v, lo, hi, rfl, q⟩ := h
    refine ⟨_, PSs.nox ((pss_one (ps_ret (pe_and (pe_call (ok_is_integer T) (hr.mono (by decide)) (by rfl) T.g_is_integer T.F_is_integer.kp (b_is_integer T) .nil pass0 (pa_cons (pv 0) pa_nil)) (pe_one (pe_chain op_le op_le (pv 1) (pv 0) (pv 2))))))), ?_⟩
    rw [st_is_between]
    walk_at "rd"
    refine ⟨v, rfl, ?_⟩
    walk_at "rd"
    refine iteT ?_
    walk_at "rd"
    refine ite2 (fun h => ?_) (fun h => ?_)
    · walk_at "rd"
      rw [h, Bool.true_and] at q
      exact q
    · have h2 : decide (lo ≤ v) = false := by simpa using h
      rw [h2, Bool.false_and] at q
      exact q
def sp_sign : Sp := fun vs H Q _ => ∃ i : Int, vs = [.int i] ∧ Q (.int (sgn i)) H
theorem ok_sign (T : Tops K mg) : FnOk P w K mg base CX0 1 (He.ga K "sign") T.fd_sign P_sign sp_sign := by
  refine T.F_sign.ok sc_sign (fun vs H Q E h => ?_) (fun cdv A outer s H vs Q E hr h => ?_)
  · obtain ⟨i, rfl, q⟩ := h
    rfl
  · obtain ⟨i, rfl, q⟩ := h
    refine ⟨_, PSs.nox ((pss_one (ps_ret (pe_op op_sub (pe_callTy call_intN (by rfl) T.m_int (by decide +kernel) (pa_cons (pe_cmpR op_gt (pv 0) pe_int (nomark _)) pa_nil)) (pe_callTy call_intN (by rfl) T.m_int (by decide +kernel) (pa_cons (pe_cmpR op_lt (pv 0) pe_int (nomark _)) pa_nil)))))), ?_⟩
    rw [st_sign]
    walk_at "rd"
    have e : zsg (decide (0 < i)) - zsg (decide (i < 0)) = sgn i := by
      unfold sgn zsg
      simp only [decide_eq_true_eq]
    show Q (.int (zsg (decide (0 < i)) - zsg (decide (i < 0)))) H
    rw [e]
    exact q
def sp_turn : Sp := fun vs H Q _ => ∃ pa pb pc ax ay bx by_ cx cy, vs = [.ref pa, .ref pb, .ref pc] ∧ S3 H pa pb pc ax ay bx by_ cx cy ∧ Q (.int (turnZ ax ay bx by_ cx cy)) H
theorem ok_turn (T : Tops K mg) : FnOk P w K mg base CX0 1 (He.ga K "turn") T.fd_turn P_turn sp_turn := by
  refine T.F_turn.ok sc_turn (fun vs H Q E h => ?_) (fun cdv A outer s H vs Q E hr h => ?_)
  · obtain ⟨pa, pb, pc, ax, ay, bx, by_, cx, cy, rfl, ⟨ha, hb, hc, hd⟩, q⟩ := h
    rfl
  · obtain ⟨pa, pb, pc, ax, ay, bx, by_, cx, cy, rfl, ⟨ha, hb, hc, hd⟩, q⟩ := h
    refine ⟨_, PSs.nox ((pss_one (ps_ret (pe_op op_sub (pe_op op_mul (pe_op op_sub (pe_ix (ix_tupK K) (pv 1) pe_int (fun _ _ => rfl)) (pe_ix (ix_tupK K) (pv 0) pe_int (fun _ _ => rfl))) (pe_op op_sub (pe_ix (ix_tupK K) (pv 2) pe_int (fun _ _ => rfl)) (pe_ix (ix_tupK K) (pv 0) pe_int (fun _ _ => rfl)))) (pe_op op_mul (pe_op op_sub (pe_ix (ix_tupK K) (pv 1) pe_int (fun _ _ => rfl)) (pe_ix (ix_tupK K) (pv 0) pe_int (fun _ _ => rfl))) (pe_op op_sub (pe_ix (ix_tupK K) (pv 2) pe_int (fun _ _ => rfl)) (pe_ix (ix_tupK K) (pv 0) pe_int (fun _ _ => rfl)))))))), ?_⟩
    rw [st_turn]
    unfold Bd at hd
    walk_at "rd"
    exact q
def sp_is_site : Sp := fun vs H Q _ => ∃ (p : Addr) (x y : Int), vs = [.ref p] ∧ H p = some (.tup [.int x, .int y]) ∧ Bd x ∧ Bd y ∧ ∀ H', Same H H' → Q (.bl true) H'
theorem ok_is_site (T : Tops K mg) : FnOk P w K mg base CX0 3 (He.ga K "is_site") T.fd_is_site P_is_site sp_is_site := by
  refine T.F_is_site.ok sc_is_site (fun vs H Q E h => ?_) (fun cdv A outer s H vs Q E hr h => ?_)
  · obtain ⟨p, x, y, rfl, hp, bx, by_, q⟩ := h
    rfl
  · obtain ⟨p, x, y, rfl, hp, bx, by_, q⟩ := h
    refine ⟨_, PSs.nox ((pss_cons (ps_if (PW.pt (pw_or (pt_not (pt_val (pe_callB (call_isiK0 K) (by rfl) T.m_isinstance (by decide +kernel) (pa_cons (pv 0) (pa_cons (pe_bltn (v := .ty "tuple") rfl T.m_tuple (by decide +kernel) rfl) pa_nil))))) (pw_or1 (pt_cmpR op_ne (pe_callB (call_lenK K) (by rfl) T.m_len PySem.boot_len (pa_cons (pv 0) pa_nil)) pe_int (nomark _)))))
       (pss_one (ps_ret pe_bl))
       pss_nil)
       (pss_one (ps_ret (pe_callB (cr_allK K rfl) (by rfl) T.m_all (by decide +kernel) (pa_cons (pe_lc (own := [("one", 1)]) (g := gName 1) (tt := tYes) rfl sc_is_site.nd (pi_tupK K (pv 0)) (blkOk_by (own := [("one", 1)]) (N := N_is_site) (sc := defScope (top 10)) (by decide +kernel)) (fun _ _ _ _ _ => (pg_name (i := 1) sc_is_site.nd rfl (.inl rfl))) (fun _ _ _ _ _ => pts_nil) (fun _ _ _ _ _ => (pe_call (ok_is_between T) (hr.mono (by decide)) (by rfl) T.g_is_between T.F_is_between.kp (b_is_between T) .nil pass0 (pa_cons (pv 1) (pa_cons (pe_op op_sub pe_int (pe_glob (v := .int 1000000) rfl T.c_MOST_COORDINATE ⟨_, rfl⟩)) (pa_cons (pe_glob (v := .int 1000000) rfl T.c_MOST_COORDINATE ⟨_, rfl⟩) pa_nil)))))) pa_nil)))))), ?_⟩
    rw [st_is_site]
    walk_at "rd"
    refine ⟨_, _, _, _, true, rfl, .ty _, .base (.tup hp), kit_ty (by decide +kernel), ?_⟩
    walk_at "rd"
    refine iteF ?_
    walk_at "rd"
    refine iteF ?_
    walk_at "rd"
    refine ⟨p, rfl, ⟨_, SqT.of hp⟩, fun D hD => ?_⟩
    refine lc_tup (K := K) (a := p) (xs := [.int x, .int y]) (fun i H' => Same H H' ∧ H' D = some (.lst (List.replicate i (.bl true)))) ⟨same_new hD, upd_same⟩ (fun i H' _ h => SqT.of (h.1 _ _ hp)) ?_ ?_
    · rintro i z H' hz ⟨hs, hl⟩
      have hzz : ∃ n : Int, z = .int n ∧ Bd n ∧ i < 2 := by
        match i, hz with
        | 0, hz => exact ⟨x, (Option.some.inj hz).symm, bx, by decide⟩
        | 1, hz => exact ⟨y, (Option.some.inj hz).symm, by_, by decide⟩
      obtain ⟨n, rfl, hn, hi⟩ := hzz
      walk_at "rd"
      refine ⟨rfl, ?_⟩
      walk_at "rd"
      refine iteT ?_
      walk_at "rd"
      refine ⟨_, _, _, rfl, ?_⟩
      have e : (decide ((0 : Int) - 1000000 ≤ n) && decide (n ≤ 1000000)) = true := by
        unfold Bd at hn
        rw [Bool.and_eq_true, decide_eq_true_eq, decide_eq_true_eq]
        omega
      refine ⟨_, hl, len_lt (by rw [List.length_replicate]; omega), ?_, ?_⟩
      · intro b o hb
        rw [upd_ne (ne_of_none hb hD)]
        exact hs _ _ hb
      · rw [upd_same, e, List.replicate_succ']
    · rintro H' ⟨hs, hl⟩
      refine ⟨D, [true, true], rfl, SqL.of hl, q H' hs⟩
def sp_check_site : Sp := fun vs H Q _ => ∃ (z : Str) (p : Addr) (x y : Int), vs = [.str z, .ref p] ∧ H p = some (.tup [.int x, .int y]) ∧ Bd x ∧ Bd y ∧ ∀ H', Same H H' → Q .non H'
theorem ok_check_site (T : Tops K mg) : FnOk P w K mg base CX0 4 (He.ga K "check_site") T.fd_check_site P_check_site sp_check_site := by
  refine T.F_check_site.ok sc_check_site (fun vs H Q E h => ?_) (fun cdv A outer s H vs Q E hr h => ?_)
  · obtain ⟨z, p, x, y, rfl, hp, bx, by_, q⟩ := h
    rfl
  · obtain ⟨z, p, x, y, rfl, hp, bx, by_, q⟩ := h
    refine ⟨_, PSs.nox ((pss_one (ps_if (pt_not (pt_val (pe_call (ok_is_site T) (hr.mono (by decide)) (by rfl) T.g_is_site T.F_is_site.kp (b_is_site T) .nil pass0 (pa_cons (pv 1) pa_nil))))
       (pss_one ps_never)
       pss_nil))), ?_⟩
    rw [st_check_site]
    walk_at "rd"
    refine ⟨p, x, y, rfl, hp, bx, by_, fun H' hs => ?_⟩
    walk_at "rd"
    refine iteF ?_
    exact q H' hs

end

end NC
namespace NC
section
variable {P : Program} {w : World} {K : PySem.W.Frag} {mg : Str → Option Value} {base : Heap}

/-- the power of d and the circle through a, b, c -/
def powZ (ax ay bx by_ cx cy dx dy : Int) : Int := ((ax - dx) * (ax - dx) + (ay - dy) * (ay - dy)) * ((bx - dx) * (cy - dy) - (cx - dx) * (by_ - dy)) - ((bx - dx) * (bx - dx) + (by_ - dy) * (by_ - dy)) * ((ax - dx) * (cy - dy) - (cx - dx) * (ay - dy)) + ((cx - dx) * (cx - dx) + (cy - dy) * (cy - dy)) * ((ax - dx) * (by_ - dy) - (bx - dx) * (ay - dy))
/-- four sites -/
structure S4 (H : Hp) (pa pb pc pd : Addr) (ax ay bx by_ cx cy dx dy : Int) : Prop where
  s : S3 H pa pb pc ax ay bx by_ cx cy
  d : H pd = some (.tup [.int dx, .int dy])
  bd : Bd dx ∧ Bd dy
theorem S4.mono {H H' : Hp} {pa pb pc pd : Addr} {ax ay bx by_ cx cy dx dy : Int} (k : TK H H') (h : S4 H pa pb pc pd ax ay bx by_ cx cy dx dy) : S4 H' pa pb pc pd ax ay bx by_ cx cy dx dy := ⟨h.s.mono k, k _ _ h.d, h.bd⟩
def sp_power : Sp := fun vs H Q _ => ∃ pa pb pc pd ax ay bx by_ cx cy dx dy, vs = [.ref pa, .ref pb, .ref pc, .ref pd] ∧ S4 H pa pb pc pd ax ay bx by_ cx cy dx dy ∧ ∀ H', Same H H' → Q (.int (powZ ax ay bx by_ cx cy dx dy)) H'
theorem sqb {x : Int} (h : -2000000 ≤ x ∧ x ≤ 2000000) : 0 ≤ x * x ∧ x * x ≤ 4000000000000 := by
  have h1 : 0 ≤ (2000000 - x) * (2000000 + x) := Int.mul_nonneg (by omega) (by omega)
  have h2 : (2000000 - x) * (2000000 + x) = 4000000000000 - x * x := by grind
  rcases (show 0 ≤ x ∨ x ≤ 0 by omega) with h | h
  · exact ⟨Int.mul_nonneg h h, by omega⟩
  · exact ⟨Int.mul_nonneg_of_nonpos_of_nonpos h h, by omega⟩
theorem ok_power (T : Tops K mg) : FnOk P w K mg base CX0 1 (He.ga K "power") T.fd_power P_power sp_power := by
  refine T.F_power.ok sc_power (fun vs H Q E h => ?_) (fun cdv A outer s H vs Q E hr h => ?_)
  · obtain ⟨pa, pb, pc, pd, ax, ay, bx, by_, cx, cy, dx, dy, rfl, S, q⟩ := h
    rfl
  · obtain ⟨pa, pb, pc, pd, ax, ay, bx, by_, cx, cy, dx, dy, rfl, S, q⟩ := h
    refine ⟨_, PSs.nox ((pss_cons (ps_setLc (i := 4) (own := [("one", 12)]) (g := gName 12) (tt := tYes) rfl sc_power.nd rfl rfl (sw_true rfl rfl rfl (by decide +kernel)) (pi_tupK K (pe_tup (pa_cons (pv 0) (pa_cons (pv 1) (pa_cons (pv 2) pa_nil))))) (blkOk_by (own := [("one", 12)]) (N := N_power) (sc := defScope (top 14)) (by decide +kernel)) (fun _ _ _ _ _ => (pg_name (i := 12) sc_power.nd rfl (.inl rfl))) (fun _ _ _ _ _ => pts_nil) (fun _ _ _ _ _ => (pe_tup (pa_cons (pe_op op_sub (pe_ix (ix_tupK K) (pv 12) pe_int (fun _ _ => rfl)) (pe_ix (ix_tupK K) (pv 3) pe_int (fun _ _ => rfl))) (pa_cons (pe_op op_sub (pe_ix (ix_tupK K) (pv 12) pe_int (fun _ _ => rfl)) (pe_ix (ix_tupK K) (pv 3) pe_int (fun _ _ => rfl))) pa_nil)))))
       (pss_cons (ps_asg (pv 4) (pg_unl rfl (pgs_cons (pg_tup rfl (pgs_cons (pg_name (i := 5) sc_power.nd rfl (.inl rfl)) (pgs_cons (pg_name (i := 6) sc_power.nd rfl (.inl rfl)) pgs_nil))) (pgs_cons (pg_tup rfl (pgs_cons (pg_name (i := 7) sc_power.nd rfl (.inl rfl)) (pgs_cons (pg_name (i := 8) sc_power.nd rfl (.inl rfl)) pgs_nil))) (pgs_cons (pg_tup rfl (pgs_cons (pg_name (i := 9) sc_power.nd rfl (.inl rfl)) (pgs_cons (pg_name (i := 10) sc_power.nd rfl (.inl rfl)) pgs_nil))) pgs_nil)))))
       (pss_cons (ps_setLc (i := 11) (own := [("x", 13), ("y", 14)]) (g := gTup K 2 (gCons (gName 13) (gCons (gName 14) gNil))) (tt := tYes) rfl sc_power.nd rfl rfl (sw_true rfl rfl rfl (by decide +kernel)) (pi_listK K (pv 4)) (blkOk_by (own := [("x", 13), ("y", 14)]) (N := N_power) (sc := defScope (top 14)) (by decide +kernel)) (fun _ _ _ _ _ => (by exact (pg_tup rfl (pgs_cons (pg_name (i := 13) sc_power.nd rfl (.inl rfl)) (pgs_cons (pg_name (i := 14) sc_power.nd rfl (.inl rfl)) pgs_nil))))) (fun _ _ _ _ _ => pts_nil) (fun _ _ _ _ _ => (pe_op op_add (pe_op op_mul (pv 13) (pv 13)) (pe_op op_mul (pv 14) (pv 14)))))
       (pss_one (ps_ret (pe_op op_add (pe_op op_sub (pe_op op_mul (pe_ix (ix_listK K) (pv 11) pe_int (fun _ _ => rfl)) (pe_op op_sub (pe_op op_mul (pv 7) (pv 10)) (pe_op op_mul (pv 9) (pv 8)))) (pe_op op_mul (pe_ix (ix_listK K) (pv 11) pe_int (fun _ _ => rfl)) (pe_op op_sub (pe_op op_mul (pv 5) (pv 10)) (pe_op op_mul (pv 9) (pv 6))))) (pe_op op_mul (pe_ix (ix_listK K) (pv 11) pe_int (fun _ _ => rfl)) (pe_op op_sub (pe_op op_mul (pv 5) (pv 8)) (pe_op op_mul (pv 7) (pv 6))))))))))), ?_⟩
    rw [st_power]
    obtain ⟨⟨ha, hb, hc, hd⟩, hdd, hb4⟩ := id S
    unfold Bd at hd hb4
    refine g_seq (g_asg (g_lc (g_itup ?_)))
    walk_at "rd"
    refine ⟨len_le (n := 3) (by decide), fun t0 ht0 => ?_⟩
    have s0 : Same H (upd H t0 (.tup [.ref pa, .ref pb, .ref pc])) := same_new ht0
    generalize hH0 : upd H t0 (.tup [.ref pa, .ref pb, .ref pc]) = H0 at s0 ⊢
    have e0 : H0 t0 = some (.tup [.ref pa, .ref pb, .ref pc]) := by rw [← hH0]; exact upd_same
    refine ⟨t0, rfl, ⟨_, SqT.of e0⟩, fun D hD => ?_⟩
    refine lc_tup (K := K) (a := t0) (xs := [.ref pa, .ref pb, .ref pc]) (fun i H' => Same H0 H' ∧ ∃ qs : List Addr, H' D = some (.lst (qs.map V.ref)) ∧ qs.length = i ∧ ∀ (j : Nat) (q : Addr) (z : Int × Int), qs[j]? = some q → ([(ax, ay), (bx, by_), (cx, cy)] : List (Int × Int))[j]? = some z → H' q = some (.tup [.int (z.1 - dx), .int (z.2 - dy)]))
      ⟨same_new hD, [], upd_same, rfl, fun j q z h => by cases h⟩ (fun i H' _ h => SqT.of (h.1 _ _ e0)) ?_ ?_
    · rintro i z H' hz ⟨hs, qs, e1, e2, e3⟩
      have hzz : ∃ (pz : Addr) (zx zy : Int), z = .ref pz ∧ H' pz = some (.tup [.int zx, .int zy]) ∧ ([(ax, ay), (bx, by_), (cx, cy)] : List (Int × Int))[i]? = some (zx, zy) ∧ i < 3 := by
        match i, hz with
        | 0, hz => exact ⟨pa, ax, ay, (Option.some.inj hz).symm, hs _ _ (s0 _ _ ha), rfl, by decide⟩
        | 1, hz => exact ⟨pb, bx, by_, (Option.some.inj hz).symm, hs _ _ (s0 _ _ hb), rfl, by decide⟩
        | 2, hz => exact ⟨pc, cx, cy, (Option.some.inj hz).symm, hs _ _ (s0 _ _ hc), rfl, by decide⟩
      obtain ⟨pz, zx, zy, rfl, hpz, hix, hi⟩ := hzz
      have hd' : H' pd = some (.tup [.int dx, .int dy]) := hs _ _ (s0 _ _ hdd)
      walk_at "rd"
      refine ⟨rfl, ?_⟩
      walk_at "rd"
      refine iteT ?_
      walk_at "rd"
      refine ⟨len_le (n := 2) (by decide), fun q hq => ?_⟩
      have nq : D ≠ q := ne_of_none e1 hq
      have hs2 : Same H0 (upd (upd H' q (.tup [.int (zx - dx), .int (zy - dy)])) D (.lst ((qs ++ [q]).map V.ref))) := fun b o hb => by
        rw [upd_ne (ne_of_none hb hD), upd_ne (ne_of_none (hs _ _ hb) hq)]
        exact hs _ _ hb
      refine ⟨qs.map V.ref, by rw [upd_ne nq]; exact e1, len_lt (by rw [List.length_map]; omega), ?_⟩
      have em : qs.map V.ref ++ [V.ref q] = (qs ++ [q]).map V.ref := by simp
      rw [em]
      refine ⟨hs2, qs ++ [q], upd_same, by simp [e2], fun j r z hj hz => ?_⟩
      by_cases hji : j < qs.length
      · rw [List.getElem?_append_left hji] at hj
        have := e3 j r z hj hz
        rw [upd_ne (ne_of this e1 (fun z => by cases z)), upd_ne (ne_of_none this hq)]
        exact this
      · rw [List.getElem?_append_right (by omega)] at hj
        have hj0 : j - qs.length = 0 := by
          cases hjj : j - qs.length with
          | zero => rfl
          | succ n => rw [hjj] at hj; simp at hj
        rw [hj0] at hj
        have er : q = r := Option.some.inj hj
        have ej : j = i := by omega
        rw [ej, hix] at hz
        have ez : (zx, zy) = z := Option.some.inj hz
        rw [← er, ← ez, upd_ne (Ne.symm nq), upd_same]
    · rintro H1 ⟨hs, qs, e1, e2, e3⟩
      obtain ⟨q1, q2, q3, rfl⟩ : ∃ q1 q2 q3, qs = [q1, q2, q3] := by
        match qs, e2 with
        | [q1, q2, q3], _ => exact ⟨q1, q2, q3, rfl⟩
      have f1 : H1 q1 = some (.tup [.int (ax - dx), .int (ay - dy)]) := e3 0 q1 (ax, ay) rfl rfl
      have f2 : H1 q2 = some (.tup [.int (bx - dx), .int (by_ - dy)]) := e3 1 q2 (bx, by_) rfl rfl
      have f3 : H1 q3 = some (.tup [.int (cx - dx), .int (cy - dy)]) := e3 2 q3 (cx, cy) rfl rfl
      have e1' : H1 D = some (.lst [.ref q1, .ref q2, .ref q3]) := e1
      have c1 : -2000000 ≤ ax - dx ∧ ax - dx ≤ 2000000 := by omega
      have c2 : -2000000 ≤ ay - dy ∧ ay - dy ≤ 2000000 := by omega
      have c3 : -2000000 ≤ bx - dx ∧ bx - dx ≤ 2000000 := by omega
      have c4 : -2000000 ≤ by_ - dy ∧ by_ - dy ≤ 2000000 := by omega
      have c5 : -2000000 ≤ cx - dx ∧ cx - dx ≤ 2000000 := by omega
      have c6 : -2000000 ≤ cy - dy ∧ cy - dy ≤ 2000000 := by omega
      unfold powZ at q
      clear e3 hd hb4 S ha hb hc hdd
      generalize ax - dx = x1 at *
      generalize ay - dy = y1 at *
      generalize bx - dx = x2 at *
      generalize by_ - dy = y2 at *
      generalize cx - dx = x3 at *
      generalize cy - dy = y3 at *
      walk_at "rd"
      walk_at "nm"
      refine ⟨D, rfl, ⟨_, SqL.of e1'⟩, fun D2 hD2 => ?_⟩
      refine lc_list (K := K) (a := D) (xs := [.ref q1, .ref q2, .ref q3]) (fun i H' => Same H1 H' ∧ H' D2 = some (.lst ((([x1 * x1 + y1 * y1, x2 * x2 + y2 * y2, x3 * x3 + y3 * y3] : List Int).take i).map V.int)))
        ⟨same_new hD2, upd_same⟩ (fun i H' _ h => SqL.of (h.1 _ _ e1')) ?_ ?_
      · rintro i z H' hz ⟨hs2, el⟩
        obtain ⟨r, x, y, rfl, hr2, bx1, by1, hi, hl⟩ : ∃ (r : Addr) (x y : Int), z = .ref r ∧ H' r = some (.tup [.int x, .int y]) ∧ (-2000000 ≤ x ∧ x ≤ 2000000) ∧ (-2000000 ≤ y ∧ y ≤ 2000000) ∧ i < 3 ∧ ([x1 * x1 + y1 * y1, x2 * x2 + y2 * y2, x3 * x3 + y3 * y3] : List Int)[i]? = some (x * x + y * y) := by
          match i, hz with
          | 0, hz => exact ⟨q1, _, _, (Option.some.inj hz).symm, hs2 _ _ f1, by omega, by omega, by decide, rfl⟩
          | 1, hz => exact ⟨q2, _, _, (Option.some.inj hz).symm, hs2 _ _ f2, by omega, by omega, by decide, rfl⟩
          | 2, hz => exact ⟨q3, _, _, (Option.some.inj hz).symm, hs2 _ _ f3, by omega, by omega, by decide, rfl⟩
        walk_at "rd"
        refine ⟨rfl, ?_⟩
        walk_at "rd"
        refine iteT ?_
        walk_at "rd"
        refine ⟨_, el, len_lt (by rw [List.length_map, List.length_take]; omega), ?_, ?_⟩
        · intro b o hb
          rw [upd_ne (ne_of_none hb hD2)]
          exact hs2 _ _ hb
        · rw [upd_same, List.take_add_one, hl, List.map_append]
          rfl
      · rintro H2 ⟨hs2, el⟩
        have el' : H2 D2 = some (.lst [.int (x1 * x1 + y1 * y1), .int (x2 * x2 + y2 * y2), .int (x3 * x3 + y3 * y3)]) := el
        have k1 := sqb c1
        have k2 := sqb c2
        have k3 := sqb c3
        have k4 := sqb c4
        have k5 := sqb c5
        have k6 := sqb c6
        walk_at "rd"
        exact q H2 (((s0.trans hs)).trans hs2)

end

end NC
namespace NC
section
variable {P : Program} {w : World} {K : PySem.W.Frag} {mg : Str → Option Value} {base : Heap}

theorem pw_l (x : Int) : (-1 ≤ sgn x ∧ sgn x ≤ 1) := by
  rcases (show x < 0 ∨ x = 0 ∨ 0 < x by omega) with h | h | h
  · rw [sgn_neg h]; omega
  · rw [sgn_zero h]; omega
  · rw [sgn_pos h]; omega
def sp_inside : Sp := fun vs H Q _ => ∃ pa pb pc pd ax ay bx by_ cx cy dx dy, vs = [.ref pa, .ref pb, .ref pc, .ref pd] ∧ S4 H pa pb pc pd ax ay bx by_ cx cy dx dy ∧ ∀ H', Same H H' → Q (.int (sgn (powZ ax ay bx by_ cx cy dx dy) * sgn (turnZ ax ay bx by_ cx cy))) H'
theorem ok_inside (T : Tops K mg) : FnOk P w K mg base CX0 2 (He.ga K "inside") T.fd_inside P_inside sp_inside := by
  refine T.F_inside.ok sc_inside (fun vs H Q E h => ?_) (fun cdv A outer s H vs Q E hr h => ?_)
  · obtain ⟨pa, pb, pc, pd, ax, ay, bx, by_, cx, cy, dx, dy, rfl, S, q⟩ := h
    rfl
  · obtain ⟨pa, pb, pc, pd, ax, ay, bx, by_, cx, cy, dx, dy, rfl, S, q⟩ := h
    refine ⟨_, PSs.nox ((pss_one (ps_ret (pe_op op_mul (pe_call (ok_sign T) (hr.mono (by decide)) (by rfl) T.g_sign T.F_sign.kp (b_sign T) .nil pass0 (pa_cons (pe_call (ok_power T) (hr.mono (by decide)) (by rfl) T.g_power T.F_power.kp (b_power T) .nil pass0 (pa_cons (pv 0) (pa_cons (pv 1) (pa_cons (pv 2) (pa_cons (pv 3) pa_nil))))) pa_nil)) (pe_call (ok_sign T) (hr.mono (by decide)) (by rfl) T.g_sign T.F_sign.kp (b_sign T) .nil pass0 (pa_cons (pe_call (ok_turn T) (hr.mono (by decide)) (by rfl) T.g_turn T.F_turn.kp (b_turn T) .nil pass0 (pa_cons (pv 0) (pa_cons (pv 1) (pa_cons (pv 2) pa_nil)))) pa_nil)))))), ?_⟩
    rw [st_inside]
    walk_at "rd"
    refine ⟨pa, pb, pc, pd, ax, ay, bx, by_, cx, cy, dx, dy, rfl, S, fun H1 h1 => ?_⟩
    walk_at "rd"
    refine ⟨_, rfl, ?_⟩
    walk_at "rd"
    refine ⟨pa, pb, pc, ax, ay, bx, by_, cx, cy, rfl, S.s.mono (.same h1), ?_⟩
    walk_at "rd"
    refine ⟨_, rfl, ?_⟩
    have b1 := pw_l (powZ ax ay bx by_ cx cy dx dy)
    walk_at "rd"
    exact q H1 h1

def sp_check_circle : Sp := fun vs H Q _ => ∃ pa pb pc ax ay bx by_ cx cy, vs = [.ref pa, .ref pb, .ref pc] ∧ S3 H pa pb pc ax ay bx by_ cx cy ∧ ∀ H', Same H H' → Q .non H'
theorem ok_check_circle (T : Tops K mg) : FnOk P w K mg base CX0 5 (He.ga K "check_circle") T.fd_check_circle P_check_circle sp_check_circle := by
  refine T.F_check_circle.ok sc_check_circle (fun vs H Q E h => ?_) (fun cdv A outer s H vs Q E hr h => ?_)
  · obtain ⟨pa, pb, pc, ax, ay, bx, by_, cx, cy, rfl, S, q⟩ := h
    rfl
  · obtain ⟨pa, pb, pc, ax, ay, bx, by_, cx, cy, rfl, S, q⟩ := h
    refine ⟨_, PSs.nox ((pss_cons (ps_expr (pe_call (ok_check_site T) (hr.mono (by decide)) (by rfl) T.g_check_site T.F_check_site.kp (b_check_site T) .nil pass0 (pa_cons pe_str (pa_cons (pv 0) pa_nil))))
       (pss_cons (ps_expr (pe_call (ok_check_site T) (hr.mono (by decide)) (by rfl) T.g_check_site T.F_check_site.kp (b_check_site T) .nil pass0 (pa_cons pe_str (pa_cons (pv 1) pa_nil))))
       (pss_one (ps_expr (pe_call (ok_check_site T) (hr.mono (by decide)) (by rfl) T.g_check_site T.F_check_site.kp (b_check_site T) .nil pass0 (pa_cons pe_str (pa_cons (pv 2) pa_nil)))))))), ?_⟩
    rw [st_check_circle]
    obtain ⟨ha, hb, hc, ⟨ba1, ba2⟩, ⟨bb1, bb2⟩, ⟨bc1, bc2⟩⟩ := id S
    walk_at "rd"
    refine ⟨_, pa, ax, ay, rfl, ha, ba1, ba2, fun H1 h1 => ?_⟩
    walk_at "rd"
    refine ⟨_, pb, bx, by_, rfl, h1 _ _ hb, bb1, bb2, fun H2 h2 => ?_⟩
    have h12 := h1.trans h2
    walk_at "rd"
    refine ⟨_, pc, cx, cy, rfl, h12 _ _ hc, bc1, bc2, fun H3 h3 => ?_⟩
    exact q H3 (h12.trans h3)

def sp_in_circle : Sp := fun vs H Q _ => ∃ pa pb pc pd ax ay bx by_ cx cy dx dy, vs = [.ref pa, .ref pb, .ref pc, .ref pd] ∧ S4 H pa pb pc pd ax ay bx by_ cx cy dx dy ∧ turnZ ax ay bx by_ cx cy ≠ 0 ∧ ∀ H', Same H H' → Q (.int (sgn (powZ ax ay bx by_ cx cy dx dy) * sgn (turnZ ax ay bx by_ cx cy))) H'
theorem ok_in_circle (T : Tops K mg) : FnOk P w K mg base CX0 6 (He.ga K "in_circle") T.fd_in_circle P_in_circle sp_in_circle := by
  refine T.F_in_circle.ok sc_in_circle (fun vs H Q E h => ?_) (fun cdv A outer s H vs Q E hr h => ?_)
  · obtain ⟨pa, pb, pc, pd, ax, ay, bx, by_, cx, cy, dx, dy, rfl, S, ht, q⟩ := h
    rfl
  · obtain ⟨pa, pb, pc, pd, ax, ay, bx, by_, cx, cy, dx, dy, rfl, S, ht, q⟩ := h
    refine ⟨_, PSs.nox ((pss_cons (ps_expr (pe_call (ok_check_circle T) (hr.mono (by decide)) (by rfl) T.g_check_circle T.F_check_circle.kp (b_check_circle T) .nil pass0 (pa_cons (pv 0) (pa_cons (pv 1) (pa_cons (pv 2) pa_nil)))))
       (pss_cons (ps_expr (pe_call (ok_check_site T) (hr.mono (by decide)) (by rfl) T.g_check_site T.F_check_site.kp (b_check_site T) .nil pass0 (pa_cons pe_str (pa_cons (pv 3) pa_nil))))
       (pss_cons (ps_if (pt_cmpR op_eq (pe_call (ok_turn T) (hr.mono (by decide)) (by rfl) T.g_turn T.F_turn.kp (b_turn T) .nil pass0 (pa_cons (pv 0) (pa_cons (pv 1) (pa_cons (pv 2) pa_nil)))) pe_int (nomark _))
       (pss_one ps_never)
       pss_nil)
       (pss_one (ps_ret (pe_call (ok_inside T) (hr.mono (by decide)) (by rfl) T.g_inside T.F_inside.kp (b_inside T) .nil pass0 (pa_cons (pv 0) (pa_cons (pv 1) (pa_cons (pv 2) (pa_cons (pv 3) pa_nil))))))))))), ?_⟩
    rw [st_in_circle]
    walk_at "rd"
    refine ⟨pa, pb, pc, ax, ay, bx, by_, cx, cy, rfl, S.s, fun H1 h1 => ?_⟩
    walk_at "rd"
    refine ⟨_, pd, dx, dy, rfl, h1 _ _ S.d, S.bd.1, S.bd.2, fun H2 h2 => ?_⟩
    have h12 := h1.trans h2
    walk_at "rd"
    refine ⟨pa, pb, pc, ax, ay, bx, by_, cx, cy, rfl, S.s.mono (.same h12), ?_⟩
    walk_at "rd"
    rw [decide_eq_false ht]
    refine iteF ?_
    walk_at "rd"
    refine ⟨pa, pb, pc, pd, ax, ay, bx, by_, cx, cy, dx, dy, rfl, S.mono (.same h12), fun H3 h3 => ?_⟩
    exact q H3 (h12.trans h3)

def Tup4 (H : Hp) (p : Addr) (a b c d : Int) : Prop := H p = some (.tup [.int a, .int b, .int c, .int d])
def sp_counted : Sp := fun vs H Q _ => ∃ m f t : Int, vs = [.int m, .int f, .int t] ∧ ∀ p, H p = none → Q (.ref p) (upd H p (.tup [.int m, .int (m + f - 1), .int f, .int t]))
theorem ok_counted (T : Tops K mg) : FnOk P w K mg base CX0 1 (He.ga K "counted") T.fd_counted P_counted sp_counted := by
  refine T.F_counted.ok sc_counted (fun vs H Q E h => ?_) (fun cdv A outer s H vs Q E hr h => ?_)
  · obtain ⟨m, f, t, rfl, q⟩ := h
    rfl
  · obtain ⟨m, f, t, rfl, q⟩ := h
    refine ⟨_, PSs.nox ((pss_one (ps_ret (pe_tup (pa_cons (pv 0) (pa_cons (pe_op op_sub (pe_op op_add (pv 0) (pv 1)) pe_int) (pa_cons (pv 1) (pa_cons (pv 2) pa_nil)))))))), ?_⟩
    rw [st_counted]
    walk_at "rd"
    exact ⟨len_le (n := 4) (by decide), fun p hp => q p hp⟩

def sp_check_sides : Sp := fun vs H Q _ => ∃ lo m n : Int, vs = [.int lo, .int m, .int n] ∧ (lo ≤ m ∧ m ≤ 1000000) ∧ (lo ≤ n ∧ n ≤ 1000000) ∧ ∀ H', Same H H' → Q .non H'
theorem ok_check_sides (T : Tops K mg) : FnOk P w K mg base CX0 3 (He.ga K "check_sides") T.fd_check_sides P_check_sides sp_check_sides := by
  refine T.F_check_sides.ok sc_check_sides (fun vs H Q E h => ?_) (fun cdv A outer s H vs Q E hr h => ?_)
  · obtain ⟨lo, m, n, rfl, hm, hn, q⟩ := h
    rfl
  · obtain ⟨lo, m, n, rfl, hm, hn, q⟩ := h
    refine ⟨_, PSs.nox ((pss_one (ps_for PassesOwn.never rfl (pi_listK K (pe_lst (pa_cons (pe_tup (pa_cons pe_str (pa_cons (pv 1) pa_nil))) (pa_cons (pe_tup (pa_cons pe_str (pa_cons (pv 2) pa_nil))) pa_nil)))) (pg_tup rfl (pgs_cons (pg_name (i := 3) sc_check_sides.nd rfl (.inl rfl)) (pgs_cons (pg_name (i := 4) sc_check_sides.nd rfl (.inl rfl)) pgs_nil)))
       (pss_one (ps_if (pt_not (pt_val (pe_call (ok_is_between T) (hr.mono (by decide)) (by rfl) T.g_is_between T.F_is_between.kp (b_is_between T) .nil pass0 (pa_cons (pv 4) (pa_cons (pv 0) (pa_cons (pe_glob (v := .int 1000000) rfl T.c_MOST_SIDE ⟨_, rfl⟩) pa_nil))))))
       (pss_one ps_never)
       pss_nil))))), ?_⟩
    rw [st_check_sides]
    walk_at "rd"
    refine ⟨len_le (n := 2) (by decide), fun t1 ht1 => ?_⟩
    walk_at "rd"
    refine ⟨len_le (n := 2) (by decide), fun t2 ht2 => ?_⟩
    refine ⟨len_le (n := 2) (by decide), fun l hl => ?_⟩
    have hs0 := ((same_new (o := .tup [.str "m", .int m]) ht1).trans (same_new (o := .tup [.str "n", .int n]) ht2)).trans (same_new (o := .lst [.ref t1, .ref t2]) hl)
    have f1 : (upd (upd (upd H t1 (.tup [.str "m", .int m])) t2 (.tup [.str "n", .int n])) l (.lst [.ref t1, .ref t2])) t1 = some (.tup [.str "m", .int m]) := (same_new hl) _ _ ((same_new ht2) _ _ upd_same)
    have f2 : (upd (upd (upd H t1 (.tup [.str "m", .int m])) t2 (.tup [.str "n", .int n])) l (.lst [.ref t1, .ref t2])) t2 = some (.tup [.str "n", .int n]) := (same_new hl) _ _ upd_same
    have f3 : (upd (upd (upd H t1 (.tup [.str "m", .int m])) t2 (.tup [.str "n", .int n])) l (.lst [.ref t1, .ref t2])) l = some (.lst [.ref t1, .ref t2]) := upd_same
    generalize upd (upd (upd H t1 (.tup [.str "m", .int m])) t2 (.tup [.str "n", .int n])) l (.lst [.ref t1, .ref t2]) = H1 at hs0 f1 f2 f3 ⊢
    refine ⟨l, rfl, ⟨_, SqL.of f3⟩, ?_⟩
    refine for_list (K := K) (a := l) (xs := [.ref t1, .ref t2]) (fun i σ H' => H' = H1 ∧ ∃ y3 y4, σ = [some (.int lo), some (.int m), some (.int n), y3, y4]) ⟨rfl, none, none, rfl⟩ (fun i σ H' _ h => by rw [h.1]; exact SqL.of f3) ?_ ?_
    · rintro i z σ H' hz ⟨rfl, y3, y4, rfl⟩
      obtain ⟨r, w', x, rfl, hr2, bx⟩ : ∃ (r : Addr) (w' : Str) (x : Int), z = .ref r ∧ H' r = some (.tup [.str w', .int x]) ∧ (lo ≤ x ∧ x ≤ 1000000) := by
        match i, hz with
        | 0, hz => exact ⟨t1, _, _, (Option.some.inj hz).symm, f1, hm⟩
        | 1, hz => exact ⟨t2, _, _, (Option.some.inj hz).symm, f2, hn⟩
      walk_at "rd"
      refine ⟨_, _, _, rfl, ?_⟩
      walk_at "rd"
      rw [show (decide (lo ≤ x) && decide (x ≤ 1000000)) = true by rw [decide_eq_true bx.1, decide_eq_true bx.2]; rfl]
      refine iteF ?_
      exact ⟨rfl, _, _, rfl⟩
    · rintro σ H' ⟨rfl, y3, y4, rfl⟩
      exact q _ hs0

def sp_check_span : Sp := fun vs H Q _ => ∃ (z : Str) (x : Int), vs = [.str z, .int x] ∧ Bd x ∧ Q .non H
theorem ok_check_span (T : Tops K mg) : FnOk P w K mg base CX0 3 (He.ga K "check_span") T.fd_check_span P_check_span sp_check_span := by
  refine T.F_check_span.ok sc_check_span (fun vs H Q E h => ?_) (fun cdv A outer s H vs Q E hr h => ?_)
  · obtain ⟨z, x, rfl, hx, q⟩ := h
    rfl
  · obtain ⟨z, x, rfl, hx, q⟩ := h
    refine ⟨_, PSs.nox ((pss_one (ps_if (pt_not (pt_val (pe_call (ok_is_between T) (hr.mono (by decide)) (by rfl) T.g_is_between T.F_is_between.kp (b_is_between T) .nil pass0 (pa_cons (pv 1) (pa_cons (pe_op op_sub pe_int (pe_glob (v := .int 1000000) rfl T.c_MOST_COORDINATE ⟨_, rfl⟩)) (pa_cons (pe_glob (v := .int 1000000) rfl T.c_MOST_COORDINATE ⟨_, rfl⟩) pa_nil))))))
       (pss_one ps_never)
       pss_nil))), ?_⟩
    rw [st_check_span]
    walk_at "rd"
    refine ⟨_, _, _, rfl, ?_⟩
    unfold Bd at hx
    walk_at "rd"
    rw [show (decide ((0 : Int) - 1000000 ≤ x) && decide (x ≤ 1000000)) = true by rw [decide_eq_true (by omega), decide_eq_true (by omega)]; rfl]
    refine iteF ?_
    exact q

end

end NC
namespace NC
section
variable {P : Program} {w : World} {K : PySem.W.Frag} {mg : Str → Option Value} {base : Heap}

def sp_grid_counts : Sp := fun vs H Q _ => ∃ m n : Int, vs = [.int m, .int n] ∧ (1 ≤ m ∧ m ≤ 1000000) ∧ (1 ≤ n ∧ n ≤ 1000000) ∧ ∀ H' p, Same H H' → H' p = some (.tup [.int (m * n), .int (m * n + (m - 1) * (n - 1) - 1), .int ((m - 1) * (n - 1)), .int (2 * ((m - 1) * (n - 1)))]) → Q (.ref p) H'
theorem ok_grid_counts (T : Tops K mg) : FnOk P w K mg base CX0 4 (He.ga K "grid_counts") T.fd_grid_counts P_grid_counts sp_grid_counts := by
  refine T.F_grid_counts.ok sc_grid_counts (fun vs H Q E h => ?_) (fun cdv A outer s H vs Q E hr h => ?_)
  · obtain ⟨m, n, rfl, hm, hn, q⟩ := h
    rfl
  · obtain ⟨m, n, rfl, hm, hn, q⟩ := h
    refine ⟨_, PSs.nox ((pss_cons (ps_expr (pe_call (ok_check_sides T) (hr.mono (by decide)) (by rfl) T.g_check_sides T.F_check_sides.kp (b_check_sides T) .nil pass0 (pa_cons pe_int (pa_cons (pv 0) (pa_cons (pv 1) pa_nil)))))
       (pss_cons (ps_set (i := 2) sc_grid_counts.nd rfl (.inl rfl) (pe_op op_mul (pe_op op_sub (pv 0) pe_int) (pe_op op_sub (pv 1) pe_int)))
       (pss_one (ps_ret (pe_call (ok_counted T) (hr.mono (by decide)) (by rfl) T.g_counted T.F_counted.kp (b_counted T) .nil pass0 (pa_cons (pe_op op_mul (pv 0) (pv 1)) (pa_cons (pv 2) (pa_cons (pe_op op_mul pe_int (pv 2)) pa_nil))))))))), ?_⟩
    rw [st_grid_counts]
    walk_at "rd"
    refine ⟨1, m, n, rfl, hm, hn, fun H1 h1 => ?_⟩
    walk_at "rd"
    refine ⟨_, _, _, rfl, fun p hp => ?_⟩
    exact q _ p (h1.trans (same_new hp)) upd_same

def mx (a b : Int) : Int := if b > a then b else a
def mn (a b : Int) : Int := if b < a then b else a
def trF (m n sh : Int) : Int := m + n - 2 - mx 0 (mn m (sh + n) - mx 0 sh - 1)
def sp_two_rows_counts : Sp := fun vs H Q _ => ∃ m n sh : Int, vs = [.int m, .int n, .int sh] ∧ (1 ≤ m ∧ m ≤ 1000000) ∧ (1 ≤ n ∧ n ≤ 1000000) ∧ Bd sh ∧ ∀ H' p, Same H H' → H' p = some (.tup [.int (m + n), .int (m + n + trF m n sh - 1), .int (trF m n sh), .int (m + n - 2)]) → Q (.ref p) H'
theorem ok_two_rows_counts (T : Tops K mg) : FnOk P w K mg base CX0 4 (He.ga K "two_rows_counts") T.fd_two_rows_counts P_two_rows_counts sp_two_rows_counts := by
  refine T.F_two_rows_counts.ok sc_two_rows_counts (fun vs H Q E h => ?_) (fun cdv A outer s H vs Q E hr h => ?_)
  · obtain ⟨m, n, sh, rfl, hm, hn, hs, q⟩ := h
    rfl
  · obtain ⟨m, n, sh, rfl, hm, hn, hs, q⟩ := h
    refine ⟨_, PSs.nox ((pss_cons (ps_expr (pe_call (ok_check_sides T) (hr.mono (by decide)) (by rfl) T.g_check_sides T.F_check_sides.kp (b_check_sides T) .nil pass0 (pa_cons pe_int (pa_cons (pv 0) (pa_cons (pv 1) pa_nil)))))
       (pss_cons (ps_expr (pe_call (ok_check_span T) (hr.mono (by decide)) (by rfl) T.g_check_span T.F_check_span.kp (b_check_span T) .nil pass0 (pa_cons pe_str (pa_cons (pv 2) pa_nil))))
       (pss_cons (ps_set (i := 3) sc_two_rows_counts.nd rfl (.inl rfl) (pe_op op_sub (pe_callB (call_min2N rfl) (by rfl) T.m_min (by decide +kernel) (pa_cons (pv 0) (pa_cons (pe_op op_add (pv 2) (pv 1)) pa_nil))) (pe_callB (call_max2N rfl) (by rfl) T.m_max (by decide +kernel) (pa_cons pe_int (pa_cons (pv 2) pa_nil)))))
       (pss_cons (ps_set (i := 4) sc_two_rows_counts.nd rfl (.inl rfl) (pe_op op_sub (pe_op op_add (pv 0) (pv 1)) pe_int))
       (pss_one (ps_ret (pe_call (ok_counted T) (hr.mono (by decide)) (by rfl) T.g_counted T.F_counted.kp (b_counted T) .nil pass0 (pa_cons (pe_op op_add (pv 0) (pv 1)) (pa_cons (pe_op op_sub (pv 4) (pe_callB (call_max2N rfl) (by rfl) T.m_max (by decide +kernel) (pa_cons pe_int (pa_cons (pe_op op_sub (pv 3) pe_int) pa_nil)))) (pa_cons (pv 4) pa_nil))))))))))), ?_⟩
    rw [st_two_rows_counts]
    walk_at "rd"
    refine ⟨1, m, n, rfl, hm, hn, fun H1 h1 => ?_⟩
    walk_at "rd"
    refine ⟨_, _, rfl, hs, ?_⟩
    walk_at "rd"
    refine ⟨_, _, _, rfl, fun p hp => ?_⟩
    exact q _ p (h1.trans (same_new hp)) upd_same

def sp_check_ends : Sp := fun vs H Q _ => ∃ lo hi : Int, vs = [.int lo, .int hi] ∧ Bd lo ∧ Bd hi ∧ lo ≤ hi ∧ Q .non H
theorem ok_check_ends (T : Tops K mg) : FnOk P w K mg base CX0 4 (He.ga K "check_ends") T.fd_check_ends P_check_ends sp_check_ends := by
  refine T.F_check_ends.ok sc_check_ends (fun vs H Q E h => ?_) (fun cdv A outer s H vs Q E hr h => ?_)
  · obtain ⟨lo, hi, rfl, h1, h2, h3, q⟩ := h
    rfl
  · obtain ⟨lo, hi, rfl, h1, h2, h3, q⟩ := h
    refine ⟨_, PSs.nox ((pss_cons (ps_expr (pe_call (ok_check_span T) (hr.mono (by decide)) (by rfl) T.g_check_span T.F_check_span.kp (b_check_span T) .nil pass0 (pa_cons pe_str (pa_cons (pv 0) pa_nil))))
       (pss_cons (ps_expr (pe_call (ok_check_span T) (hr.mono (by decide)) (by rfl) T.g_check_span T.F_check_span.kp (b_check_span T) .nil pass0 (pa_cons pe_str (pa_cons (pv 1) pa_nil))))
       (pss_one (ps_if (pt_cmpR op_gt (pv 0) (pv 1) (nomark _))
       (pss_one ps_never)
       pss_nil))))), ?_⟩
    rw [st_check_ends]
    walk_at "rd"
    refine ⟨_, _, rfl, h1, ?_⟩
    walk_at "rd"
    refine ⟨_, _, rfl, h2, ?_⟩
    walk_at "rd"
    rw [decide_eq_false (show ¬ hi < lo by omega)]
    refine iteF ?_
    exact q

def paF (lo hi : Int) : Int := if lo < 0 ∧ 0 < hi then mx (0 - lo) hi else mx 0 (hi - lo + 1 - 2)
def sp_parabola_counts : Sp := fun vs H Q _ => ∃ lo hi : Int, vs = [.int lo, .int hi] ∧ Bd lo ∧ Bd hi ∧ lo ≤ hi ∧ ∀ H' p, Same H H' → H' p = some (.tup [.int (hi - lo + 1), .int (hi - lo + 1 + paF lo hi - 1), .int (paF lo hi), .int (mx 0 (hi - lo + 1 - 2))]) → Q (.ref p) H'
theorem ok_parabola_counts (T : Tops K mg) : FnOk P w K mg base CX0 5 (He.ga K "parabola_counts") T.fd_parabola_counts P_parabola_counts sp_parabola_counts := by
  refine T.F_parabola_counts.ok sc_parabola_counts (fun vs H Q E h => ?_) (fun cdv A outer s H vs Q E hr h => ?_)
  · obtain ⟨lo, hi, rfl, h1, h2, h3, q⟩ := h
    rfl
  · obtain ⟨lo, hi, rfl, h1, h2, h3, q⟩ := h
    refine ⟨_, PSs.nox ((pss_cons (ps_expr (pe_call (ok_check_ends T) (hr.mono (by decide)) (by rfl) T.g_check_ends T.F_check_ends.kp (b_check_ends T) .nil pass0 (pa_cons (pv 0) (pa_cons (pv 1) pa_nil))))
       (pss_cons (ps_set (i := 2) sc_parabola_counts.nd rfl (.inl rfl) (pe_op op_add (pe_op op_sub (pv 1) (pv 0)) pe_int))
       (pss_cons (ps_set (i := 3) sc_parabola_counts.nd rfl (.inl rfl) (pe_callB (call_max2N rfl) (by rfl) T.m_max (by decide +kernel) (pa_cons pe_int (pa_cons (pe_op op_sub (pv 2) pe_int) pa_nil))))
       (pss_one (ps_ret (pe_call (ok_counted T) (hr.mono (by decide)) (by rfl) T.g_counted T.F_counted.kp (b_counted T) .nil pass0 (pa_cons (pv 2) (pa_cons (pe_ifExp (pt_chain op_lt op_lt (pv 0) pe_int (pv 1)) (pe_callB (call_max2N rfl) (by rfl) T.m_max (by decide +kernel) (pa_cons (pe_op op_sub pe_int (pv 0)) (pa_cons (pv 1) pa_nil))) (pv 3)) (pa_cons (pv 3) pa_nil)))))))))), ?_⟩
    rw [st_parabola_counts]
    walk_at "rd"
    refine ⟨lo, hi, rfl, h1, h2, h3, ?_⟩
    walk_at "rd"
    refine ite2 (fun c1 => ?_) (fun c1 => ?_)
    · walk_at "rd"
      refine ite2 (fun c2 => ?_) (fun c2 => ?_)
      · walk_at "rd"
        refine ⟨_, _, _, rfl, fun p hp => ?_⟩
        have e : paF lo hi = mx (0 - lo) hi := if_pos ⟨of_decide_eq_true c1, of_decide_eq_true c2⟩
        refine q _ p (same_new hp) ?_
        rw [e]
        exact upd_same
      · walk_at "rd"
        refine ⟨_, _, _, rfl, fun p hp => ?_⟩
        have e : paF lo hi = mx 0 (hi - lo + 1 - 2) := if_neg fun z => c2 (decide_eq_true z.2)
        refine q _ p (same_new hp) ?_
        rw [e]
        exact upd_same
    · walk_at "rd"
      refine iteF ?_
      walk_at "rd"
      refine ⟨_, _, _, rfl, fun p hp => ?_⟩
      have e : paF lo hi = mx 0 (hi - lo + 1 - 2) := if_neg fun z => c1 (decide_eq_true z.1)
      refine q _ p (same_new hp) ?_
      rw [e]
      exact upd_same

def sp_zigzag_counts : Sp := fun vs H Q _ => ∃ m n : Int, vs = [.int m, .int n] ∧ (2 ≤ m ∧ m ≤ 1000000) ∧ (2 ≤ n ∧ n ≤ 1000000) ∧ ∀ H' p, Same H H' → H' p = some (.tup [.int (m * n), .int (m * n + (2 * m * n - 2 * m - n) - 1), .int (2 * m * n - 2 * m - n), .int (2 * m * n - 2 * m - n)]) → Q (.ref p) H'
theorem ok_zigzag_counts (T : Tops K mg) : FnOk P w K mg base CX0 4 (He.ga K "zigzag_counts") T.fd_zigzag_counts P_zigzag_counts sp_zigzag_counts := by
  refine T.F_zigzag_counts.ok sc_zigzag_counts (fun vs H Q E h => ?_) (fun cdv A outer s H vs Q E hr h => ?_)
  · obtain ⟨m, n, rfl, hm, hn, q⟩ := h
    rfl
  · obtain ⟨m, n, rfl, hm, hn, q⟩ := h
    refine ⟨_, PSs.nox ((pss_cons (ps_expr (pe_call (ok_check_sides T) (hr.mono (by decide)) (by rfl) T.g_check_sides T.F_check_sides.kp (b_check_sides T) .nil pass0 (pa_cons pe_int (pa_cons (pv 0) (pa_cons (pv 1) pa_nil)))))
       (pss_cons (ps_set (i := 2) sc_zigzag_counts.nd rfl (.inl rfl) (pe_op op_sub (pe_op op_sub (pe_op op_mul (pe_op op_mul pe_int (pv 0)) (pv 1)) (pe_op op_mul pe_int (pv 0))) (pv 1)))
       (pss_one (ps_ret (pe_call (ok_counted T) (hr.mono (by decide)) (by rfl) T.g_counted T.F_counted.kp (b_counted T) .nil pass0 (pa_cons (pe_op op_mul (pv 0) (pv 1)) (pa_cons (pv 2) (pa_cons (pv 2) pa_nil))))))))), ?_⟩
    rw [st_zigzag_counts]
    walk_at "rd"
    refine ⟨2, m, n, rfl, hm, hn, fun H1 h1 => ?_⟩
    walk_at "rd"
    refine ⟨_, _, _, rfl, fun p hp => ?_⟩
    exact q _ p (h1.trans (same_new hp)) upd_same

end

end NC
namespace NC
section
variable {P : Program} {w : World} {K : PySem.W.Frag} {mg : Str → Option Value} {base : Heap}

/-- a purse of draws, N at most drawn -/
def Pur (N : Nat) (xs : List V) : Prop := ∃ i j k : Int, xs = [.int i, .int j, .int k] ∧ 0 ≤ i ∧ 0 ≤ j ∧ j < 2147483563 ∧ 0 ≤ k ∧ k ≤ N
theorem Pur.mono {N M : Nat} {xs : List V} (h : Pur N xs) (l : N ≤ M) : Pur M xs := by
  obtain ⟨i, j, k, e, h1, h2, h3, h4, h5⟩ := h
  exact ⟨i, j, k, e, h1, h2, h3, h4, by omega⟩
def sp_law_purse : Sp := fun vs H Q _ => ∃ n : Int, vs = [.int n] ∧ ∀ p xs, H p = none → Pur 3 xs → Q (.ref p) (upd H p (.lst xs))
def sp_law_coin : Sp := fun vs H Q _ => ∃ (s : Addr) (m : Int) (xs : List V) (N : Nat), vs = [.ref s, .int m] ∧ H s = some (.lst xs) ∧ Pur N xs ∧ N ≤ 1000000 ∧ 0 < m ∧ m < 1073741824 ∧ ∀ r ys, 0 ≤ r → r < m → Pur (N + 1) ys → Q (.int r) (upd H s (.lst ys))
def sp_law_pick : Sp := fun vs H Q _ => ∃ (s l : Addr) (xs : List V) (ns : List Int) (N : Nat), vs = [.ref s, .ref l] ∧ H s = some (.lst xs) ∧ Pur N xs ∧ N ≤ 1000000 ∧ H l = some (.lst (ns.map V.int)) ∧ s ≠ l ∧ 0 < ns.length ∧ ns.length < 1000000 ∧ ∀ z ys, z ∈ ns → Pur (N + 1) ys → Q (.int z) (upd H s (.lst ys))
theorem ok_law_purse (T : Tops K mg) : FnOk P w K mg base CX0 1 (He.ga K "_law_purse") T.fd_law_purse P_law_purse sp_law_purse := by
  refine T.F_law_purse.ok sc_law_purse (fun vs H Q E h => ?_) (fun cdv A outer s H vs Q E hr h => ?_)
  · obtain ⟨n, rfl, q⟩ := h
    rfl
  · obtain ⟨n, rfl, q⟩ := h
    refine ⟨_, PSs.nox ((pss_one (ps_ret (pe_lst (pa_cons (pe_op op_mul (pe_callB call_absN (by rfl) T.m_abs (by decide +kernel) (pa_cons (pv 0) pa_nil)) (pe_callTy call_intN (by rfl) T.m_int (by decide +kernel) (pa_cons (pe_cmpR op_ge (pe_callB call_absN (by rfl) T.m_abs (by decide +kernel) (pa_cons (pv 0) pa_nil)) (pe_op op_pow pe_int pe_int) (nomark _)) pa_nil))) (pa_cons (pe_op op_mod (pe_callTy call_intN (by rfl) T.m_int (by decide +kernel) (pa_cons (pv 0) pa_nil)) pe_int) (pa_cons pe_int pa_nil))))))), ?_⟩
    rw [st_law_purse]
    walk_at "rd"
    generalize hab : (if n < 0 then -n else n) = m
    have hm : 0 ≤ m := by
      rw [← hab]
      split <;> omega
    walk_at "rd"
    refine g_mul (mulR (Int.le_trans (by decide) (zsg_lo _)) (Int.le_trans (zsg_hi _) (by decide))) ?_
    walk_at "rd"
    refine ⟨len_le (n := 3) (by decide), fun p hp => ?_⟩
    refine q p _ hp ⟨_, _, _, rfl, Int.mul_nonneg hm (zsg_lo _), Int.emod_nonneg _ (by decide), Int.emod_lt_of_pos _ (by decide), by decide, by decide⟩
theorem ok_law_coin (T : Tops K mg) : FnOk P w K mg base CX0 1 (He.ga K "_law_coin") T.fd_law_coin P_law_coin sp_law_coin := by
  refine T.F_law_coin.ok sc_law_coin (fun vs H Q E h => ?_) (fun cdv A outer s H vs Q E hr h => ?_)
  · obtain ⟨s, m, xs, N, rfl, hs, ⟨i, j, k, rfl, hi, hj, hj2, hk, hkN⟩, hN, hm, hm2, q⟩ := h
    rfl
  · obtain ⟨s, m, xs, N, rfl, hs, ⟨i, j, k, rfl, hi, hj, hj2, hk, hkN⟩, hN, hm, hm2, q⟩ := h
    refine ⟨_, PSs.nox ((pss_cons (ps_if (pt_cmpR op_gt (pe_ix (ix_listK K) (pv 0) pe_int (fun _ _ => rfl)) pe_int (nomark _))
       (pss_cons (ps_set (i := 2) sc_law_coin.nd rfl (.inl rfl) (pe_op op_mod (pe_callTy call_intN (by rfl) T.m_int (by decide +kernel) (pa_cons (pe_ix (ix_listK K) (pv 0) pe_int (fun _ _ => rfl)) pa_nil)) (pv 1)))
       (pss_cons (ps_asg (pe_op op_fdiv (pe_ix (ix_listK K) (pv 0) pe_int (fun _ _ => rfl)) (pv 1)) (pg_sub (pv 0) pe_int set_list))
       (pss_one (ps_ret (pv 2)))))
       pss_nil)
       (pss_cons (ps_asg (pe_op op_add (pe_ix (ix_listK K) (pv 0) pe_int (fun _ _ => rfl)) pe_int) (pg_sub (pv 0) pe_int set_list))
       (pss_cons (ps_set (i := 3) sc_law_coin.nd rfl (.inl rfl) (pe_op op_mod (pe_callTy call_intN (by rfl) T.m_int (by decide +kernel) (pa_cons (pe_op op_pow (pe_op op_add (pe_op op_add (pe_ix (ix_listK K) (pv 0) pe_int (fun _ _ => rfl)) (pe_op op_mul pe_int (pe_ix (ix_listK K) (pv 0) pe_int (fun _ _ => rfl)))) pe_int) pe_int) pa_nil)) pe_int))
       (pss_cons (ps_set (i := 3) sc_law_coin.nd rfl (.inl rfl) (pe_op op_mod (pe_callTy call_intN (by rfl) T.m_int (by decide +kernel) (pa_cons (pe_op op_mul (pe_op op_add (pv 3) (pe_op op_mul pe_int (pe_ix (ix_listK K) (pv 0) pe_int (fun _ _ => rfl)))) (pe_op op_add (pe_op op_fdiv (pv 3) pe_int) pe_int)) pa_nil)) pe_int))
       (pss_one (ps_ret (pe_op op_mod (pe_callTy call_intN (by rfl) T.m_int (by decide +kernel) (pa_cons (pe_op op_fdiv (pe_op op_mod (pe_callTy call_intN (by rfl) T.m_int (by decide +kernel) (pa_cons (pe_op op_mul (pv 3) (pe_op op_add (pe_op op_fdiv (pv 3) pe_int) pe_int)) pa_nil)) pe_int) pe_int) pa_nil)) (pv 1))))))))), ?_⟩
    rw [st_law_coin]
    walk_at "rd"
    refine ite2 (fun h => ?_) (fun h => ?_)
    · have h0 : 0 < i := of_decide_eq_true h
      walk_at "rd"
      refine g_setL (j := 0) hs rfl ?_
      walk_at "rd"
      exact q _ _ (Int.emod_nonneg _ (by omega)) (Int.emod_lt_of_pos _ hm) ⟨_, _, _, rfl, Int.ediv_nonneg hi (by omega), hj, hj2, hk, by omega⟩
    · walk_at "rd"
      refine g_setL (j := 2) hs rfl ?_
      have hs1 : (upd H s (.lst ([.int i, .int j, .int k].set 2 (.int (k + 1))))) s = some (.lst [.int i, .int j, .int (k + 1)]) := upd_same
      walk_at "rd"
      generalize e1 : (j + 70001 * (k + 1) + 7) ^ (3 : Int).toNat % 2147483587 = z1
      have hz1 : 0 ≤ z1 ∧ z1 < 2147483587 := by rw [← e1]; exact ⟨Int.emod_nonneg _ (by decide), Int.emod_lt_of_pos _ (by decide)⟩
      walk_at "rd"
      generalize e2 : (z1 + 11 * (k + 1)) * (z1 / 1009 + 48611) % 2147483549 = z2
      have hz2 : 0 ≤ z2 ∧ z2 < 2147483549 := by rw [← e2]; exact ⟨Int.emod_nonneg _ (by decide), Int.emod_lt_of_pos _ (by decide)⟩
      walk_at "rd"
      exact q _ _ (Int.emod_nonneg _ (by omega)) (Int.emod_lt_of_pos _ hm) ⟨_, _, _, rfl, hi, hj, hj2, by omega, by omega⟩
theorem ok_law_pick (T : Tops K mg) : FnOk P w K mg base CX0 2 (He.ga K "_law_pick") T.fd_law_pick P_law_pick sp_law_pick := by
  refine T.F_law_pick.ok sc_law_pick (fun vs H Q E h => ?_) (fun cdv A outer s H vs Q E hr h => ?_)
  · obtain ⟨s, l, xs, ns, N, rfl, hs, hx, hN, hl, ne, l0, l1, q⟩ := h
    rfl
  · obtain ⟨s, l, xs, ns, N, rfl, hs, hx, hN, hl, ne, l0, l1, q⟩ := h
    refine ⟨_, PSs.nox ((pss_one (ps_ret (pe_ix (ix_listK K) (pv 1) (pe_call (ok_law_coin T) (hr.mono (by decide)) (by rfl) T.g_law_coin T.F_law_coin.kp (b_law_coin T) .nil pass0 (pa_cons (pv 0) (pa_cons (pe_callB (call_lenK K) (by rfl) T.m_len PySem.boot_len (pa_cons (pv 1) pa_nil)) pa_nil))) (fun _ _ => rfl))))), ?_⟩
    rw [st_law_pick]
    walk_at "rd"
    have e0 : (ns.map V.int).length = ns.length := List.length_map _
    refine ⟨s, _, xs, N, rfl, hs, hx, hN, by rw [e0]; omega, by rw [e0]; omega, fun r ys r0 r1 hy => ?_⟩
    rw [e0] at r1
    obtain ⟨n, rfl⟩ := Int.eq_ofNat_of_zero_le r0
    have hn : n < ns.length := by omega
    refine g_ixL (xs := ns.map V.int) (v := .int ns[n]) (by rw [upd_ne (Ne.symm ne)]; exact hl) (atI_nat (by rw [List.getElem?_map, List.getElem?_eq_getElem hn]; rfl)) ?_
    exact q _ _ (List.getElem_mem hn) hy

end

end NC
namespace NC
section
variable {P : Program} {w : World} {K : PySem.W.Frag} {mg : Str → Option Value} {base : Heap}

/-- what stands beside the source stays -/
def Kp (s : Addr) (H H' : Hp) : Prop := ∀ b o, b ≠ s → H b = some o → H' b = some o
theorem Kp.refl {s : Addr} (H : Hp) : Kp s H H := fun _ _ _ h => h
theorem Kp.trans {s : Addr} {H H1 H2 : Hp} (a : Kp s H H1) (b : Kp s H1 H2) : Kp s H H2 := fun c o n h => b c o n (a c o n h)
theorem Kp.src {s : Addr} {H : Hp} {o : HO} : Kp s H (upd H s o) := fun b u n h => by rw [upd_ne n]; exact h
theorem Kp.same {s : Addr} {H H' : Hp} (a : Same H H') : Kp s H H' := fun b o _ h => a b o h
theorem Kp.new {s p : Addr} {H : Hp} {o : HO} (n : H p = none) : Kp s H (upd H p o) := Kp.same (same_new n)
/-- the purse at s, what was tracked else is kept -/
structure GoN (s : Addr) (N : Nat) (H H' : Hp) : Prop where
  k : Kp s H H'
  t : TK H H'
  src : ∃ xs, H' s = some (.lst xs) ∧ Pur N xs
theorem GoN.draw {s : Addr} {N : Nat} {H H' : Hp} {ys : List V} (g : GoN s N H H') (hy : Pur (N + 1) ys) : GoN s (N + 1) H (upd H' s (.lst ys)) := by
  obtain ⟨xs, e, _⟩ := g.src
  exact ⟨g.k.trans .src, g.t.trans (.lst e), ys, upd_same, hy⟩
theorem GoN.same {s : Addr} {N : Nat} {H H' H'' : Hp} (g : GoN s N H H') (h : Same H' H'') : GoN s N H H'' := by
  obtain ⟨xs, e, hx⟩ := g.src
  exact ⟨g.k.trans (.same h), g.t.trans (.same h), xs, h _ _ e, hx⟩
theorem GoN.new {s p : Addr} {N : Nat} {H H' : Hp} {o : HO} (g : GoN s N H H') (n : H' p = none) : GoN s N H (upd H' p o) := g.same (same_new n)
theorem GoN.mono {s : Addr} {N M : Nat} {H H' : Hp} (g : GoN s N H H') (l : N ≤ M) : GoN s M H H' := by
  obtain ⟨xs, e, hx⟩ := g.src
  exact ⟨g.k, g.t, xs, e, hx.mono l⟩
theorem GoN.tk {s : Addr} {N : Nat} {H H' : Hp} {ys : List V} (g : GoN s N H H') : TK H' (upd H' s (.lst ys)) := by
  obtain ⟨xs, e, _⟩ := g.src
  exact .lst e
theorem coin_go {s : Addr} {N : Nat} {H0 H : Hp} {m : Int} {Q : VK} {E : XK} (g : GoN s N H0 H) (hN : N ≤ 1000000) (h0 : 0 < m) (h1 : m < 1073741824) (q : ∀ r H', 0 ≤ r → r < m → GoN s (N + 1) H0 H' → TK H H' → Q (.int r) H') : sp_law_coin [.ref s, .int m] H Q E := by
  obtain ⟨xs, e, hx⟩ := g.src
  exact ⟨s, m, xs, N, rfl, e, hx, hN, h0, h1, fun r ys r0 r1 hy => q r _ r0 r1 (g.draw hy) g.tk⟩
theorem pick_go {s l : Addr} {N : Nat} {H0 H : Hp} (ns : List Int) {Q : VK} {E : XK} (g : GoN s N H0 H) (hN : N ≤ 1000000) (hl : H l = none) (l0 : 0 < ns.length) (l1 : ns.length < 1000000) (q : ∀ z H', z ∈ ns → GoN s (N + 1) H0 H' → TK H H' → Q (.int z) H') : sp_law_pick [.ref s, .ref l] (upd H l (.lst (ns.map V.int))) Q E := by
  have g1 := g.new (o := .lst (ns.map V.int)) hl
  obtain ⟨xs, e, hx⟩ := g1.src
  obtain ⟨xs0, e0, _⟩ := g.src
  exact ⟨s, l, xs, ns, N, rfl, e, hx, hN, upd_same, ne_of_none e0 hl, l0, l1, fun z ys hz hy => q z _ hz (g1.draw hy) ((TK.new hl).trans g1.tk)⟩

def sp_law_size : Sp := fun vs H Q _ => ∃ (s : Addr) (lo : Int) (N : Nat), vs = [.ref s, .int lo] ∧ GoN s N H H ∧ N ≤ 100000 ∧ (1 ≤ lo ∧ lo ≤ 2) ∧ ∀ n H', GoN s (N + 2) H H' → lo ≤ n → n ≤ 1000000 → Q (.int n) H'
theorem ok_law_size (T : Tops K mg) : FnOk P w K mg base CX0 3 (He.ga K "_law_size") T.fd_law_size P_law_size sp_law_size := by
  refine T.F_law_size.ok sc_law_size (fun vs H Q E h => ?_) (fun cdv A outer s H vs Q E hr h => ?_)
  · obtain ⟨s, lo, N, rfl, g, hN, hlo, q⟩ := h
    rfl
  · obtain ⟨s, lo, N, rfl, g, hN, hlo, q⟩ := h
    refine ⟨_, PSs.nox ((pss_one (ps_ret (pe_op op_add (pv 1) (pe_call (ok_law_coin T) (hr.mono (by decide)) (by rfl) T.g_law_coin T.F_law_coin.kp (b_law_coin T) .nil pass0 (pa_cons (pv 0) (pa_cons (pe_call (ok_law_pick T) (hr.mono (by decide)) (by rfl) T.g_law_pick T.F_law_pick.kp (b_law_pick T) .nil pass0 (pa_cons (pv 0) (pa_cons (pe_lst (pa_cons pe_int (pa_cons pe_int (pa_cons (pe_op op_add (pe_op op_sub (pe_op op_pow pe_int pe_int) (pv 1)) pe_int) pa_nil)))) pa_nil))) pa_nil))))))), ?_⟩
    rw [st_law_size]
    walk_at "rd"
    refine ⟨len_le (n := 3) (by decide), fun l hl => ?_⟩
    walk_at "rd"
    refine pick_go [3, 1000, 10 ^ (6 : Int).toNat - lo + 1] g (by omega) hl (by show 0 < 3; decide) (by show 3 < 1000000; decide) fun z H1 hz g1 _ => ?_
    have e6 : (10 : Int) ^ (6 : Int).toNat = 1000000 := by decide
    rw [e6] at hz
    have hz2 : 0 < z ∧ z ≤ 1000000 - lo + 1 := by
      rcases List.mem_cons.mp hz with h | h
      · omega
      · rcases List.mem_cons.mp h with h | h
        · omega
        · have := List.mem_singleton.mp h
          omega
    walk_at "rd"
    refine coin_go g1 (by omega) (by omega) (by omega) fun r H2 r0 r1 g2 _ => ?_
    walk_at "rd"
    exact q _ H2 g2 (by omega) (by omega)

def sp_law_whole : Sp := fun vs H Q _ => ∃ (p : Addr) (a b c d : Int), vs = [.ref p] ∧ H p = some (.tup [.int a, .int b, .int c, .int d]) ∧ a + c = b + 1 ∧ c ≤ d ∧ b ≤ 3 * a - 3 ∧ Q (.bl true) H
theorem ok_law_whole (T : Tops K mg) : FnOk P w K mg base CX0 1 (He.ga K "_law_whole") T.fd_law_whole P_law_whole sp_law_whole := by
  refine T.F_law_whole.ok sc_law_whole (fun vs H Q E h => ?_) (fun cdv A outer s H vs Q E hr h => ?_)
  · obtain ⟨p, a, b, c, d, rfl, hp, h1, h2, h3, q⟩ := h
    rfl
  · obtain ⟨p, a, b, c, d, rfl, hp, h1, h2, h3, q⟩ := h
    refine ⟨_, PSs.nox ((pss_one (ps_ret (pe_and (pe_cmpR op_eq (pe_op op_add (pe_ix (ix_tupK K) (pv 0) pe_int (fun _ _ => rfl)) (pe_ix (ix_tupK K) (pv 0) pe_int (fun _ _ => rfl))) (pe_op op_add (pe_ix (ix_tupK K) (pv 0) pe_int (fun _ _ => rfl)) pe_int) (nomark _)) (pe_and (pe_cmpR op_le (pe_ix (ix_tupK K) (pv 0) pe_int (fun _ _ => rfl)) (pe_ix (ix_tupK K) (pv 0) pe_int (fun _ _ => rfl)) (nomark _)) (pe_one (pe_cmpR op_le (pe_ix (ix_tupK K) (pv 0) pe_int (fun _ _ => rfl)) (pe_op op_sub (pe_op op_mul pe_int (pe_ix (ix_tupK K) (pv 0) pe_int (fun _ _ => rfl))) pe_int) (nomark _)))))))), ?_⟩
    rw [st_law_whole]
    walk_at "rd"
    rw [decide_eq_true h1]
    refine iteT ?_
    walk_at "rd"
    rw [decide_eq_true h2]
    refine iteT ?_
    walk_at "rd"
    have e : decide (b ≤ 3 * a - 3) = true := decide_eq_true h3
    rw [e]
    exact q

theorem dp4 {H : Hp} {p : Addr} {a b c d : Int} (h : H p = some (.tup [.int a, .int b, .int c, .int d])) : Dp K H (.ref p) (.tuple [.int a, .int b, .int c, .int d]) := .tup (SqT.of h) (.cons (.int _) (.cons (.int _) (.cons (.int _) (.cons (.int _) .nil))))
theorem eqv4 (a b c d : Int) : PyData.eqv (.tuple [.int a, .int b, .int c, .int d]) (.tuple [.int a, .int b, .int c, .int d]) = true := by
  simp [PyData.eqv, PyData.eqvAll]
/-- a law's part: True, whatever is drawn -/
def sp_ask : Sp := fun vs H Q _ => ∃ (s : Addr) (N : Nat), vs = [.ref s] ∧ GoN s N H H ∧ N ≤ 10000 ∧ ∀ H', GoN s (N + 400) H H' → Q (.bl true) H'
theorem ok_law_grids_right (T : Tops K mg) : FnOk P w K mg base CX0 5 (He.ga K "_law_grids_right") T.fd_law_grids_right P_law_grids_right sp_ask := by
  refine T.F_law_grids_right.ok sc_law_grids_right (fun vs H Q E h => ?_) (fun cdv A outer s H vs Q E hr h => ?_)
  · obtain ⟨s, N, rfl, g, hN, q⟩ := h
    rfl
  · obtain ⟨s, N, rfl, g, hN, q⟩ := h
    refine ⟨_, PSs.nox ((pss_cons (ps_par (i := 1) (j := 2) (by rfl) sc_law_grids_right.nd rfl rfl (by decide) rfl rfl (pa_cons (pe_call (ok_law_size T) (hr.mono (by decide)) (by rfl) T.g_law_size T.F_law_size.kp (b_law_size T) .nil pass0 (pa_cons (pv 0) (pa_cons pe_int pa_nil))) (pa_cons (pe_call (ok_law_size T) (hr.mono (by decide)) (by rfl) T.g_law_size T.F_law_size.kp (b_law_size T) .nil pass0 (pa_cons (pv 0) (pa_cons pe_int pa_nil))) pa_nil)) (by rfl))
       (pss_cons (ps_set (i := 3) sc_law_grids_right.nd rfl (.inl rfl) (pe_call (ok_grid_counts T) (hr.mono (by decide)) (by rfl) T.g_grid_counts T.F_grid_counts.kp (b_grid_counts T) .nil pass0 (pa_cons (pv 1) (pa_cons (pv 2) pa_nil))))
       (pss_cons (ps_set (i := 4) sc_law_grids_right.nd rfl (.inl rfl) (pe_op op_mul (pe_op op_sub (pv 1) pe_int) (pe_op op_sub (pv 2) pe_int)))
       (pss_cons (ps_if (PW.pt (pw_or (pt_cmpR (op_neDK K hr.units) (pv 3) (pe_tup (pa_cons (pe_op op_mul (pv 1) (pv 2)) (pa_cons (pe_op op_sub (pe_op op_sub (pe_op op_mul (pe_op op_mul pe_int (pv 1)) (pv 2)) (pv 1)) (pv 2)) (pa_cons (pv 4) (pa_cons (pe_op op_mul pe_int (pv 4)) pa_nil))))) (nomark _)) (pw_or1 (pt_cmpR (op_neDK K hr.units) (pe_call (ok_grid_counts T) (hr.mono (by decide)) (by rfl) T.g_grid_counts T.F_grid_counts.kp (b_grid_counts T) .nil pass0 (pa_cons (pv 2) (pa_cons (pv 1) pa_nil))) (pv 3) (nomark _)))))
       (pss_one (ps_ret pe_bl))
       pss_nil)
       (pss_one (ps_ret (pe_or (pe_cmpR op_eq (pe_ix (ix_tupK K) (pv 3) pe_int (fun _ _ => rfl)) pe_int (nomark _)) (pe_one (pe_call (ok_law_whole T) (hr.mono (by decide)) (by rfl) T.g_law_whole T.F_law_whole.kp (b_law_whole T) .nil pass0 (pa_cons (pv 3) pa_nil))))))))))), ?_⟩
    rw [st_law_grids_right]
    have gg : ∀ {N : Nat} {A B C : Hp} {M : Nat}, GoN s N A B → GoN s M B C → GoN s M A C := fun x y => ⟨x.k.trans y.k, x.t.trans y.t, y.src⟩
    have gs : ∀ {N : Nat} {A B : Hp}, GoN s N A B → GoN s N B B := fun x => ⟨.refl _, .refl _, x.src⟩
    walk_at "rd"
    refine ⟨s, 1, N, rfl, g, by omega, by decide, fun m H1 g1 m0 m1 => ?_⟩
    walk_at "rd"
    refine ⟨s, 1, N + 2, rfl, gs g1, by omega, by decide, fun n H2 g2 n0 n1 => ?_⟩
    have g2' := gg g1 g2
    walk_at "rd"
    refine ⟨_, _, rfl, ?_⟩
    walk_at "rd"
    refine ⟨m, n, rfl, ⟨m0, m1⟩, ⟨n0, n1⟩, fun H3 f h3 ef => ?_⟩
    have g3 := g2'.same h3
    walk_at "rd"
    refine ⟨len_le (n := 4) (by decide), fun t ht => ?_⟩
    have eid : m * n + (m - 1) * (n - 1) - 1 = 2 * m * n - m - n := by grind
    have eid2 : m * n + (m - 1) * (n - 1) - 1 + 1 = m * n + (m - 1) * (n - 1) := by omega
    have ef' : H3 f = some (.tup [.int (m * n), .int (2 * m * n - m - n), .int ((m - 1) * (n - 1)), .int (2 * ((m - 1) * (n - 1)))]) := by rw [← eid]; exact ef
    refine ⟨_, _, dp4 (same_new ht _ _ ef'), dp4 upd_same, rfl, rfl, ?_⟩
    rw [eqv4]
    walk_at "rd"
    refine iteF ?_
    walk_at "rd"
    refine ⟨n, m, rfl, ⟨n0, n1⟩, ⟨m0, m1⟩, fun H4 f2 h4 ef2 => ?_⟩
    have ef2' : H4 f2 = some (.tup [.int (m * n), .int (2 * m * n - m - n), .int ((m - 1) * (n - 1)), .int (2 * ((m - 1) * (n - 1)))]) := by
      rw [ef2, Int.mul_comm n m, Int.mul_comm (n - 1) (m - 1), eid]
    have ef4 := h4 _ _ (same_new ht _ _ ef')
    walk_at "rd"
    refine ⟨_, _, dp4 ef2', dp4 ef4, rfl, rfl, ?_⟩
    rw [eqv4]
    walk_at "rd"
    refine iteF ?_
    walk_at "rd"
    have gF := ((g3.new (o := .tup [.int (m * n), .int (2 * m * n - m - n), .int ((m - 1) * (n - 1)), .int (2 * ((m - 1) * (n - 1)))]) ht).same h4).mono (show N + 2 + 2 ≤ N + 400 by omega)
    refine ite2 (fun h => ?_) (fun h => ?_)
    · exact q _ gF
    · walk_at "rd"
      have u0 : 0 ≤ (m - 1) * (n - 1) := Int.mul_nonneg (by omega) (by omega)
      refine ⟨f, _, _, _, _, rfl, ef4, by omega, by omega, ?_, q _ gF⟩
      have e3 : 3 * (m * n) = m * n + 2 * m * n := by grind
      have e4 : 0 < m * n := Int.mul_pos (by omega) (by omega)
      omega

end

end NC
namespace NC
section
variable {P : Program} {w : World} {K : PySem.W.Frag} {mg : Str → Option Value} {base : Heap}

theorem trF_swap {m n sh : Int} (hm : 1 ≤ m) (hn : 1 ≤ n) : trF n m (0 - sh) = trF m n sh := by
  unfold trF mx mn
  split <;> split <;> split <;> split <;> split <;> split <;> first | omega | (split <;> split <;> omega)
theorem paF_swap {lo hi : Int} : paF (0 - hi) (0 - lo) = paF lo hi := by
  unfold paF mx
  split <;> split <;> split <;> split <;> omega
theorem ok_law_rows_right (T : Tops K mg) : FnOk P w K mg base CX0 5 (He.ga K "_law_rows_right") T.fd_law_rows_right P_law_rows_right sp_ask := by
  refine T.F_law_rows_right.ok sc_law_rows_right (fun vs H Q E h => ?_) (fun cdv A outer s H vs Q E hr h => ?_)
  · obtain ⟨s, N, rfl, g, hN, q⟩ := h
    rfl
  · obtain ⟨s, N, rfl, g, hN, q⟩ := h
    refine ⟨_, PSs.nox ((pss_cons (ps_par3 (i := 1) (j := 2) (l := 3) (by rfl) sc_law_rows_right.nd rfl rfl rfl (by decide) (by decide) (by decide) rfl rfl rfl (pa_cons (pe_call (ok_law_size T) (hr.mono (by decide)) (by rfl) T.g_law_size T.F_law_size.kp (b_law_size T) .nil pass0 (pa_cons (pv 0) (pa_cons pe_int pa_nil))) (pa_cons (pe_call (ok_law_size T) (hr.mono (by decide)) (by rfl) T.g_law_size T.F_law_size.kp (b_law_size T) .nil pass0 (pa_cons (pv 0) (pa_cons pe_int pa_nil))) (pa_cons (pe_op op_sub (pe_call (ok_law_coin T) (hr.mono (by decide)) (by rfl) T.g_law_coin T.F_law_coin.kp (b_law_coin T) .nil pass0 (pa_cons (pv 0) (pa_cons (pe_op op_add (pe_op op_mul pe_int (pe_op op_pow pe_int pe_int)) pe_int) pa_nil))) (pe_op op_pow pe_int pe_int)) pa_nil))) (by rfl))
       (pss_cons (ps_set (i := 3) sc_law_rows_right.nd rfl (.inl rfl) (pe_call (ok_law_pick T) (hr.mono (by decide)) (by rfl) T.g_law_pick T.F_law_pick.kp (b_law_pick T) .nil pass0 (pa_cons (pv 0) (pa_cons (pe_lst (pa_cons (pv 3) (pa_cons pe_int (pa_cons (pe_op op_sub pe_int (pv 2)) (pa_cons (pe_op op_sub (pv 1) pe_int) (pa_cons (pv 1) (pa_cons (pe_op op_sub pe_int (pv 2)) (pa_cons (pe_op op_sub (pe_op op_mod (pe_callTy call_intN (by rfl) T.m_int (by decide +kernel) (pa_cons (pv 3) pa_nil)) (pe_op op_add (pv 1) (pv 2))) (pv 2)) pa_nil)))))))) pa_nil))))
       (pss_cons (ps_set (i := 3) sc_law_rows_right.nd rfl (.inl rfl) (pe_callB (call_max2N rfl) (by rfl) T.m_max (by decide +kernel) (pa_cons (pe_un un_neg (pe_op op_pow pe_int pe_int)) (pa_cons (pe_callB (call_min2N rfl) (by rfl) T.m_min (by decide +kernel) (pa_cons (pe_op op_pow pe_int pe_int) (pa_cons (pv 3) pa_nil))) pa_nil))))
       (pss_cons (ps_par (i := 4) (j := 5) (by rfl) sc_law_rows_right.nd rfl rfl (by decide) rfl rfl (pa_cons (pe_call (ok_two_rows_counts T) (hr.mono (by decide)) (by rfl) T.g_two_rows_counts T.F_two_rows_counts.kp (b_two_rows_counts T) .nil pass0 (pa_cons (pv 1) (pa_cons (pv 2) (pa_cons (pv 3) pa_nil)))) (pa_cons (pe_callB (call_max2N rfl) (by rfl) T.m_max (by decide +kernel) (pa_cons pe_int (pa_cons (pe_op op_sub (pe_op op_sub (pe_callB (call_min2N rfl) (by rfl) T.m_min (by decide +kernel) (pa_cons (pv 1) (pa_cons (pe_op op_add (pv 3) (pv 2)) pa_nil))) (pe_callB (call_max2N rfl) (by rfl) T.m_max (by decide +kernel) (pa_cons pe_int (pa_cons (pv 3) pa_nil)))) pe_int) pa_nil))) pa_nil)) (by rfl))
       (pss_cons (ps_if (pt_cmpR (op_neDK K hr.units) (pv 4) (pe_tup (pa_cons (pe_op op_add (pv 1) (pv 2)) (pa_cons (pe_op op_sub (pe_op op_sub (pe_op op_mul pe_int (pe_op op_add (pv 1) (pv 2))) pe_int) (pv 5)) (pa_cons (pe_op op_sub (pe_op op_sub (pe_op op_add (pv 1) (pv 2)) pe_int) (pv 5)) (pa_cons (pe_op op_sub (pe_op op_add (pv 1) (pv 2)) pe_int) pa_nil))))) (nomark _))
       (pss_one (ps_ret pe_bl))
       pss_nil)
       (pss_one (ps_ret (pe_cmpR (op_eqDK K hr.units) (pe_call (ok_two_rows_counts T) (hr.mono (by decide)) (by rfl) T.g_two_rows_counts T.F_two_rows_counts.kp (b_two_rows_counts T) .nil pass0 (pa_cons (pv 2) (pa_cons (pv 1) (pa_cons (pe_op op_sub pe_int (pv 3)) pa_nil)))) (pv 4) (nomark _)))))))))), ?_⟩
    rw [st_law_rows_right]
    have gg : ∀ {N : Nat} {A B C : Hp} {M : Nat}, GoN s N A B → GoN s M B C → GoN s M A C := fun x y => ⟨x.k.trans y.k, x.t.trans y.t, y.src⟩
    have gs : ∀ {N : Nat} {A B : Hp}, GoN s N A B → GoN s N B B := fun x => ⟨.refl _, .refl _, x.src⟩
    have e6 : (10 : Int) ^ (6 : Int).toNat = 1000000 := by decide
    walk_at "rd"
    refine ⟨s, 1, N, rfl, g, by omega, by decide, fun m H1 g1 m0 m1 => ?_⟩
    walk_at "rd"
    refine ⟨s, 1, N + 2, rfl, gs g1, by omega, by decide, fun n H2 g2 n0 n1 => ?_⟩
    have g2' := gg g1 g2
    walk_at "rd"
    try rw [e6]
    refine coin_go g2' (by omega) (by decide) (by decide) fun r H3 r0 r1 g3 _ => ?_
    walk_at "rd"
    refine ⟨_, _, _, rfl, ?_⟩
    try rw [e6]
    walk_at "rd"
    refine ⟨len_le (n := 7) (by decide), fun l hl => ?_⟩
    walk_at "rd"
    refine pick_go [r - 1000000, 0, 1 - n, m - 1, m, 0 - n, (r - 1000000) % (m + n) - n] g3 (by omega) hl (by show 0 < 7; decide) (by show 7 < 1000000; decide) fun b0 H4 _ g4 _ => ?_
    walk_at "rd"
    try rw [e6]
    generalize hb : (if (if b0 < 1000000 then b0 else 1000000) > -1000000 then (if b0 < 1000000 then b0 else 1000000) else -1000000) = b
    have hb2 : Bd b := by
      rw [← hb]
      unfold Bd
      split <;> split <;> omega
    refine ⟨m, n, b, rfl, ⟨m0, m1⟩, ⟨n0, n1⟩, hb2, fun H5 f h5 ef => ?_⟩
    have g5 := g4.same h5
    walk_at "rd"
    refine ⟨_, _, rfl, ?_⟩
    walk_at "rd"
    refine ⟨len_le (n := 4) (by decide), fun t ht => ?_⟩
    generalize hu : (if (if b + n < m then b + n else m) - (if b > 0 then b else 0) - 1 > 0 then (if b + n < m then b + n else m) - (if b > 0 then b else 0) - 1 else 0) = u at ht ⊢
    have eu : trF m n b = m + n - 2 - u := by
      rw [← hu]
      rfl
    have ef' : H5 f = some (.tup [.int (m + n), .int (2 * (m + n) - 3 - u), .int (m + n - 2 - u), .int (m + n - 2)]) := by
      rw [ef, eu, show m + n + (m + n - 2 - u) - 1 = 2 * (m + n) - 3 - u by omega]
    refine ⟨_, _, dp4 (same_new ht _ _ ef'), dp4 upd_same, rfl, rfl, ?_⟩
    rw [eqv4]
    walk_at "rd"
    refine iteF ?_
    walk_at "rd"
    refine ⟨n, m, 0 - b, rfl, ⟨n0, n1⟩, ⟨m0, m1⟩, by unfold Bd at hb2 ⊢; omega, fun H6 f2 h6 ef2 => ?_⟩
    have ef2' : H6 f2 = some (.tup [.int (m + n), .int (2 * (m + n) - 3 - u), .int (m + n - 2 - u), .int (m + n - 2)]) := by
      rw [ef2, trF_swap m0 n0, eu, Int.add_comm n m, show m + n + (m + n - 2 - u) - 1 = 2 * (m + n) - 3 - u by omega]
    walk_at "rd"
    refine ⟨_, _, dp4 ef2', dp4 (h6 _ _ (same_new ht _ _ ef')), rfl, rfl, ?_⟩
    rw [eqv4]
    exact q _ (((g5.new ht).same h6).mono (by omega))
theorem ok_law_parabolas_right (T : Tops K mg) : FnOk P w K mg base CX0 6 (He.ga K "_law_parabolas_right") T.fd_law_parabolas_right P_law_parabolas_right sp_ask := by
  refine T.F_law_parabolas_right.ok sc_law_parabolas_right (fun vs H Q E h => ?_) (fun cdv A outer s H vs Q E hr h => ?_)
  · obtain ⟨s, N, rfl, g, hN, q⟩ := h
    rfl
  · obtain ⟨s, N, rfl, g, hN, q⟩ := h
    refine ⟨_, PSs.nox ((pss_cons (ps_set (i := 1) sc_law_parabolas_right.nd rfl (.inl rfl) (pe_op op_sub (pe_call (ok_law_coin T) (hr.mono (by decide)) (by rfl) T.g_law_coin T.F_law_coin.kp (b_law_coin T) .nil pass0 (pa_cons (pv 0) (pa_cons (pe_call (ok_law_pick T) (hr.mono (by decide)) (by rfl) T.g_law_pick T.F_law_pick.kp (b_law_pick T) .nil pass0 (pa_cons (pv 0) (pa_cons (pe_lst (pa_cons pe_int (pa_cons (pe_op op_add (pe_op op_mul pe_int (pe_op op_pow pe_int pe_int)) pe_int) pa_nil))) pa_nil))) pa_nil))) (pe_call (ok_law_pick T) (hr.mono (by decide)) (by rfl) T.g_law_pick T.F_law_pick.kp (b_law_pick T) .nil pass0 (pa_cons (pv 0) (pa_cons (pe_lst (pa_cons pe_int (pa_cons (pe_op op_pow pe_int pe_int) pa_nil))) pa_nil)))))
       (pss_cons (ps_set (i := 1) sc_law_parabolas_right.nd rfl (.inl rfl) (pe_callB (call_min2N rfl) (by rfl) T.m_min (by decide +kernel) (pa_cons (pe_op op_pow pe_int pe_int) (pa_cons (pv 1) pa_nil))))
       (pss_cons (ps_set (i := 2) sc_law_parabolas_right.nd rfl (.inl rfl) (pe_op op_add (pv 1) (pe_call (ok_law_coin T) (hr.mono (by decide)) (by rfl) T.g_law_coin T.F_law_coin.kp (b_law_coin T) .nil pass0 (pa_cons (pv 0) (pa_cons (pe_call (ok_law_pick T) (hr.mono (by decide)) (by rfl) T.g_law_pick T.F_law_pick.kp (b_law_pick T) .nil pass0 (pa_cons (pv 0) (pa_cons (pe_lst (pa_cons pe_int (pa_cons (pe_op op_add (pe_op op_sub (pe_op op_pow pe_int pe_int) (pv 1)) pe_int) pa_nil))) pa_nil))) pa_nil)))))
       (pss_cons (ps_set (i := 2) sc_law_parabolas_right.nd rfl (.inl rfl) (pe_callB (call_min2N rfl) (by rfl) T.m_min (by decide +kernel) (pa_cons (pe_op op_pow pe_int pe_int) (pa_cons (pv 2) pa_nil))))
       (pss_cons (ps_par (i := 3) (j := 4) (by rfl) sc_law_parabolas_right.nd rfl rfl (by decide) rfl rfl (pa_cons (pe_call (ok_parabola_counts T) (hr.mono (by decide)) (by rfl) T.g_parabola_counts T.F_parabola_counts.kp (b_parabola_counts T) .nil pass0 (pa_cons (pv 1) (pa_cons (pv 2) pa_nil))) (pa_cons (pe_op op_add (pe_op op_sub (pv 2) (pv 1)) pe_int) pa_nil)) (by rfl))
       (C8.pss_cut (ps_set (i := 5) sc_law_parabolas_right.nd rfl (.inl rfl) (pe_ifExp (PW.pt (pw_or (pt_cmpR op_ge (pv 1) pe_int (nomark _)) (pw_or1 (pt_cmpR op_le (pv 2) pe_int (nomark _))))) (pe_callB (call_max2N rfl) (by rfl) T.m_max (by decide +kernel) (pa_cons pe_int (pa_cons (pe_op op_sub (pv 4) pe_int) pa_nil))) (pe_callB (call_max2N rfl) (by rfl) T.m_max (by decide +kernel) (pa_cons (pe_op op_sub pe_int (pv 1)) (pa_cons (pv 2) pa_nil)))))
       (pss_cons (ps_if (pt_cmpR (op_neDK K hr.units) (pv 3) (pe_tup (pa_cons (pv 4) (pa_cons (pe_op op_sub (pe_op op_add (pv 4) (pv 5)) pe_int) (pa_cons (pv 5) (pa_cons (pe_callB (call_max2N rfl) (by rfl) T.m_max (by decide +kernel) (pa_cons pe_int (pa_cons (pe_op op_sub (pv 4) pe_int) pa_nil))) pa_nil))))) (nomark _))
       (pss_one (ps_ret pe_bl))
       pss_nil)
       (pss_one (ps_ret (pe_cmpR (op_eqDK K hr.units) (pe_call (ok_parabola_counts T) (hr.mono (by decide)) (by rfl) T.g_parabola_counts T.F_parabola_counts.kp (b_parabola_counts T) .nil pass0 (pa_cons (pe_op op_sub pe_int (pv 2)) (pa_cons (pe_op op_sub pe_int (pv 1)) pa_nil))) (pv 3) (nomark _)))))))))))), ?_⟩
    rw [st_law_parabolas_right]
    have gg : ∀ {N : Nat} {A B C : Hp} {M : Nat}, GoN s N A B → GoN s M B C → GoN s M A C := fun x y => ⟨x.k.trans y.k, x.t.trans y.t, y.src⟩
    have gs : ∀ {N : Nat} {A B : Hp}, GoN s N A B → GoN s N B B := fun x => ⟨.refl _, .refl _, x.src⟩
    have e6 : (10 : Int) ^ (6 : Int).toNat = 1000000 := by decide
    walk_at "rd"
    try rw [e6]
    refine ⟨len_le (n := 2) (by decide), fun l1 hl1 => ?_⟩
    walk_at "rd"
    refine pick_go [9, 2 * 1000000 + 1] g (by omega) hl1 (by show 0 < 2; decide) (by show 2 < 1000000; decide) fun z1 H1 hz1 g1 _ => ?_
    have bz1 : 0 < z1 ∧ z1 ≤ 2000001 := by
      rcases List.mem_cons.mp hz1 with h | h
      · omega
      · have := List.mem_singleton.mp h
        omega
    walk_at "rd"
    refine coin_go g1 (by omega) (by omega) (by omega) fun r H2 r0 r1 g2 _ => ?_
    walk_at "rd"
    try rw [e6]
    refine ⟨len_le (n := 2) (by decide), fun l2 hl2 => ?_⟩
    walk_at "rd"
    refine pick_go [4, 1000000] g2 (by omega) hl2 (by show 0 < 2; decide) (by show 2 < 1000000; decide) fun z2 H3 hz2 g3 _ => ?_
    have bz2 : 0 < z2 ∧ z2 ≤ 1000000 := by
      rcases List.mem_cons.mp hz2 with h | h
      · omega
      · have := List.mem_singleton.mp h
        omega
    walk_at "rd"
    try rw [e6]
    generalize hlo : (if r - z2 < 1000000 then r - z2 else 1000000) = lo
    have blo : Bd lo := by
      rw [← hlo]
      unfold Bd
      split <;> omega
    unfold Bd at blo
    walk_at "rd"
    try rw [e6]
    refine ⟨len_le (n := 2) (by decide), fun l3 hl3 => ?_⟩
    walk_at "rd"
    refine pick_go [5, 1000000 - lo + 1] g3 (by omega) hl3 (by show 0 < 2; decide) (by show 2 < 1000000; decide) fun z3 H4 hz3 g4 _ => ?_
    have bz3 : 0 < z3 ∧ z3 ≤ 2000001 := by
      rcases List.mem_cons.mp hz3 with h | h
      · omega
      · have := List.mem_singleton.mp h
        omega
    walk_at "rd"
    refine coin_go g4 (by omega) (by omega) (by omega) fun r3 H5 r30 r31 g5 _ => ?_
    walk_at "rd"
    try rw [e6]
    generalize hhi : (if lo + r3 < 1000000 then lo + r3 else 1000000) = hi
    have bhi : Bd hi ∧ lo ≤ hi := by
      rw [← hhi]
      unfold Bd
      split <;> omega
    refine ⟨lo, hi, rfl, blo, bhi.1, bhi.2, fun H6 f h6 ef => ?_⟩
    have g6 := g5.same h6
    walk_at "rd"
    refine ⟨_, _, rfl, ?_⟩
    walk_at "nm"
    refine ⟨fun σ' H' => H' = H6 ∧ σ' = [some (.ref s), some (.int lo), some (.int hi), some (.ref f), some (.int (hi - lo + 1)), some (.int (paF lo hi))], ?_, ?_⟩
    · walk_at "rd"
      refine ite2 (fun h => ?_) (fun h => ?_)
      · refine iteT ?_
        walk_at "rd"
        refine ⟨rfl, ?_⟩
        have e : paF lo hi = mx 0 (hi - lo + 1 - 2) := if_neg fun z => by
          have := of_decide_eq_true h
          omega
        rw [e]
        rfl
      · walk_at "rd"
        refine ite2 (fun h2 => ?_) (fun h2 => ?_)
        · walk_at "rd"
          refine ⟨rfl, ?_⟩
          have e : paF lo hi = mx 0 (hi - lo + 1 - 2) := if_neg fun z => by
            have := of_decide_eq_true h2
            omega
          rw [e]
          rfl
        · walk_at "rd"
          refine ⟨rfl, ?_⟩
          have e : paF lo hi = mx (0 - lo) hi := if_pos (by
            have h3 : ¬ (0 ≤ lo) := fun z => h (decide_eq_true z)
            have h4 : ¬ (hi ≤ 0) := fun z => h2 (decide_eq_true z)
            omega)
          rw [e]
          rfl
    rintro σ7 H7 ⟨rfl, rfl⟩
    walk_at "rd"
    refine ⟨len_le (n := 4) (by decide), fun t ht => ?_⟩
    refine ⟨_, _, dp4 (same_new ht _ _ ef), dp4 (a := hi - lo + 1) (b := hi - lo + 1 + paF lo hi - 1) (c := paF lo hi) (d := mx 0 (hi - lo + 1 - 2)) upd_same, rfl, rfl, ?_⟩
    rw [eqv4]
    walk_at "rd"
    refine iteF ?_
    walk_at "rd"
    refine ⟨0 - hi, 0 - lo, rfl, by unfold Bd at bhi ⊢; omega, by unfold Bd at bhi ⊢; omega, by omega, fun H8 f2 h8 ef2 => ?_⟩
    have ef2' : H8 f2 = some (.tup [.int (hi - lo + 1), .int (hi - lo + 1 + paF lo hi - 1), .int (paF lo hi), .int (mx 0 (hi - lo + 1 - 2))]) := by
      rw [ef2, paF_swap, show 0 - lo - (0 - hi) + 1 = hi - lo + 1 by omega]
    walk_at "rd"
    refine ⟨_, _, dp4 ef2', dp4 (h8 _ _ (same_new ht _ _ ef)), rfl, rfl, ?_⟩
    rw [eqv4]
    exact q _ (((g6.new ht).same h8).mono (by omega))
theorem ok_law_zigzags_right (T : Tops K mg) : FnOk P w K mg base CX0 5 (He.ga K "_law_zigzags_right") T.fd_law_zigzags_right P_law_zigzags_right sp_ask := by
  refine T.F_law_zigzags_right.ok sc_law_zigzags_right (fun vs H Q E h => ?_) (fun cdv A outer s H vs Q E hr h => ?_)
  · obtain ⟨s, N, rfl, g, hN, q⟩ := h
    rfl
  · obtain ⟨s, N, rfl, g, hN, q⟩ := h
    refine ⟨_, PSs.nox ((pss_cons (ps_par (i := 1) (j := 2) (by rfl) sc_law_zigzags_right.nd rfl rfl (by decide) rfl rfl (pa_cons (pe_call (ok_law_size T) (hr.mono (by decide)) (by rfl) T.g_law_size T.F_law_size.kp (b_law_size T) .nil pass0 (pa_cons (pv 0) (pa_cons pe_int pa_nil))) (pa_cons (pe_call (ok_law_size T) (hr.mono (by decide)) (by rfl) T.g_law_size T.F_law_size.kp (b_law_size T) .nil pass0 (pa_cons (pv 0) (pa_cons pe_int pa_nil))) pa_nil)) (by rfl))
       (pss_cons (ps_set (i := 3) sc_law_zigzags_right.nd rfl (.inl rfl) (pe_call (ok_zigzag_counts T) (hr.mono (by decide)) (by rfl) T.g_zigzag_counts T.F_zigzag_counts.kp (b_zigzag_counts T) .nil pass0 (pa_cons (pv 1) (pa_cons (pv 2) pa_nil))))
       (pss_cons (ps_set (i := 4) sc_law_zigzags_right.nd rfl (.inl rfl) (pe_op op_sub (pe_op op_add (pe_op op_mul pe_int (pv 1)) (pv 2)) pe_int))
       (pss_one (ps_ret (pe_and (pe_chain op_eq op_eq (pe_ix (ix_tupK K) (pv 3) pe_int (fun _ _ => rfl)) (pe_op op_sub (pe_op op_sub (pe_op op_mul pe_int (pe_ix (ix_tupK K) (pv 3) pe_int (fun _ _ => rfl))) pe_int) (pv 4)) (pe_ix (ix_tupK K) (pv 3) pe_int (fun _ _ => rfl))) (pe_and (pe_cmpR op_eq (pe_ix (ix_tupK K) (pv 3) pe_int (fun _ _ => rfl)) (pe_op op_mul (pv 1) (pv 2)) (nomark _)) (pe_one (pe_call (ok_law_whole T) (hr.mono (by decide)) (by rfl) T.g_law_whole T.F_law_whole.kp (b_law_whole T) .nil pass0 (pa_cons (pv 3) pa_nil))))))))))), ?_⟩
    rw [st_law_zigzags_right]
    have gg : ∀ {N : Nat} {A B C : Hp} {M : Nat}, GoN s N A B → GoN s M B C → GoN s M A C := fun x y => ⟨x.k.trans y.k, x.t.trans y.t, y.src⟩
    have gs : ∀ {N : Nat} {A B : Hp}, GoN s N A B → GoN s N B B := fun x => ⟨.refl _, .refl _, x.src⟩
    have e6 : (10 : Int) ^ (6 : Int).toNat = 1000000 := by decide
    walk_at "rd"
    refine ⟨s, 2, N, rfl, g, by omega, by decide, fun m H1 g1 m0 m1 => ?_⟩
    walk_at "rd"
    refine ⟨s, 2, N + 2, rfl, gs g1, by omega, by decide, fun n H2 g2 n0 n1 => ?_⟩
    have g2' := gg g1 g2
    walk_at "rd"
    refine ⟨_, _, rfl, ?_⟩
    walk_at "rd"
    refine ⟨m, n, rfl, ⟨m0, m1⟩, ⟨n0, n1⟩, fun H3 f h3 ef => ?_⟩
    have g3 := g2'.same h3
    have ee : 2 * m * n - 2 * m - n = 2 * (m * n) - 2 - (2 * m + n - 2) := by grind
    walk_at "rd"
    rw [decide_eq_true ee]
    refine iteT ?_
    walk_at "rd"
    rw [decide_eq_true ee.symm]
    refine iteT ?_
    walk_at "rd"
    rw [decide_eq_true rfl]
    refine iteT ?_
    walk_at "rd"
    have e5 : 2 * m * n = 2 * (m * n) := by grind
    exact ⟨f, _, _, _, _, rfl, ef, by omega, by omega, by omega, q _ (g3.mono (by omega))⟩

end

end NC
namespace NC
section
variable {P : Program} {w : World} {K : PySem.W.Frag} {mg : Str → Option Value} {base : Heap}

/-- the identity of a parabola's circles -/
theorem turn_par (i j k : Int) : turnZ i (i * i) j (j * j) k (k * k) = (j - i) * (k - i) * (k - j) := by
  unfold turnZ
  grind
theorem pow_par (i j k l : Int) : powZ i (i * i) j (j * j) k (k * k) l (l * l) = (((l + i + j + k) * (l - i)) * (l - j)) * (l - k) * ((-1) * ((j - i) * (k - i) * (k - j))) := by
  unfold powZ
  grind
theorem sgn_mul (a b : Int) : sgn (a * b) = sgn a * sgn b := by
  rcases (show a < 0 ∨ a = 0 ∨ 0 < a by omega) with h | h | h
  · rcases (show b < 0 ∨ b = 0 ∨ 0 < b by omega) with h2 | h2 | h2
    · rw [sgn_neg h, sgn_neg h2, sgn_pos (Int.mul_pos_of_neg_of_neg h h2)]; rfl
    · rw [h2, Int.mul_zero, sgn_zero (i := 0) rfl, Int.mul_zero]
    · rw [sgn_neg h, sgn_pos h2, sgn_neg (Int.mul_neg_of_neg_of_pos h h2)]; rfl
  · rw [h, Int.zero_mul, sgn_zero (i := 0) rfl, Int.zero_mul]
  · rcases (show b < 0 ∨ b = 0 ∨ 0 < b by omega) with h2 | h2 | h2
    · rw [sgn_pos h, sgn_neg h2, sgn_neg (Int.mul_neg_of_pos_of_neg h h2)]; rfl
    · rw [h2, Int.mul_zero, sgn_zero (i := 0) rfl, Int.mul_zero]
    · rw [sgn_pos h, sgn_pos h2, sgn_pos (Int.mul_pos h h2)]; rfl
theorem sgn_sq {a : Int} (h : a ≠ 0) : sgn a * sgn a = 1 := by
  rcases (show a < 0 ∨ 0 < a by omega) with h | h
  · rw [sgn_neg h]; rfl
  · rw [sgn_pos h]; rfl
theorem circ_par {i j k l : Int} (h : turnZ i (i * i) j (j * j) k (k * k) ≠ 0) : sgn (powZ i (i * i) j (j * j) k (k * k) l (l * l)) * sgn (turnZ i (i * i) j (j * j) k (k * k)) = 0 - sgn ((((l + i + j + k) * (l - i)) * (l - j)) * (l - k)) := by
  rw [turn_par] at h ⊢
  rw [pow_par, sgn_mul _ ((-1) * _), sgn_mul (-1)]
  have e := sgn_sq h
  generalize sgn ((j - i) * (k - i) * (k - j)) = t at e ⊢
  have e1 : sgn (-1) = -1 := sgn_neg (by decide)
  rw [e1]
  generalize sgn ((((l + i + j + k) * (l - i)) * (l - j)) * (l - k)) = z
  grind
theorem in_ints {x : Int} {ns : List Int} : inV (.int x) (ns.map V.int) = decide (x ∈ ns) := by
  unfold inV
  induction ns with
  | nil => rfl
  | cons a r ih =>
    rw [List.map_cons, List.any_cons, ih]
    show ((a == x) || decide (x ∈ r)) = decide (x ∈ a :: r)
    rw [Bool.eq_iff_iff, Bool.or_eq_true, decide_eq_true_eq, decide_eq_true_eq, List.mem_cons, beq_iff_eq]
    constructor
    · rintro (h | h)
      · exact .inl h.symm
      · exact .inr h
    · rintro (h | h)
      · exact .inl h.symm
      · exact .inr h
theorem flat_ints (ns : List Int) : (ns.map V.int).all flatV = true := by
  rw [List.all_eq_true]
  intro z hz
  obtain ⟨n, rfl⟩ := all_ints hz
  rfl
theorem sq1000 {x : Int} (h : -1000 ≤ x ∧ x ≤ 1000) : 0 ≤ x * x ∧ x * x ≤ 1000000 := by
  have h1 : 0 ≤ (1000 - x) * (1000 + x) := Int.mul_nonneg (by omega) (by omega)
  have h2 : (1000 - x) * (1000 + x) = 1000000 - x * x := by grind
  rcases (show 0 ≤ x ∨ x ≤ 0 by omega) with h | h
  · exact ⟨Int.mul_nonneg h h, by omega⟩
  · exact ⟨Int.mul_nonneg_of_nonpos_of_nonpos h h, by omega⟩
theorem GoN.mutd {s d : Addr} {N : Nat} {H H' : Hp} {o : HO} (g : GoN s N H H') (n : H d = none) (ne : d ≠ s) : GoN s N H (upd H' d o) := by
  obtain ⟨xs, e, hx⟩ := g.src
  refine ⟨fun b u nb hb => ?_, fun p xs hp => ?_, xs, ?_, hx⟩
  · rw [upd_ne (ne_of_none hb n)]
    exact g.k b u nb hb
  · rw [upd_ne (ne_of_none hp n)]
    exact g.t p xs hp
  · rw [upd_ne (Ne.symm ne)]
    exact e
theorem ok_law_circles_right (T : Tops K mg) : FnOk P w K mg base CX0 7 (He.ga K "_law_circles_right") T.fd_law_circles_right P_law_circles_right sp_ask := by
  refine T.F_law_circles_right.ok sc_law_circles_right (fun vs H Q E h => ?_) (fun cdv A outer s H vs Q E hr h => ?_)
  · obtain ⟨s, N, rfl, g, hN, q⟩ := h
    rfl
  · obtain ⟨s, N, rfl, g, hN, q⟩ := h
    refine ⟨_, PSs.nox ((pss_cons (ps_set (i := 1) sc_law_circles_right.nd rfl (.inl rfl) (pe_lst pa_nil))
       (pss_cons (ps_for PassesOwn.never rfl (pi_range1 (by rfl) T.m_range (pa_cons pe_int pa_nil)) (pg_name (i := 2) sc_law_circles_right.nd rfl (.inl rfl))
       (pss_cons (ps_set (i := 3) sc_law_circles_right.nd rfl (.inl rfl) (pe_op op_sub (pe_call (ok_law_coin T) (hr.mono (by decide)) (by rfl) T.g_law_coin T.F_law_coin.kp (b_law_coin T) .nil pass0 (pa_cons (pv 0) (pa_cons (pe_call (ok_law_pick T) (hr.mono (by decide)) (by rfl) T.g_law_pick T.F_law_pick.kp (b_law_pick T) .nil pass0 (pa_cons (pv 0) (pa_cons (pe_lst (pa_cons pe_int (pa_cons pe_int pa_nil))) pa_nil))) pa_nil))) (pe_call (ok_law_pick T) (hr.mono (by decide)) (by rfl) T.g_law_pick T.F_law_pick.kp (b_law_pick T) .nil pass0 (pa_cons (pv 0) (pa_cons (pe_lst (pa_cons pe_int (pa_cons pe_int pa_nil))) pa_nil)))))
       (pss_cons (ps_set (i := 3) sc_law_circles_right.nd rfl (.inl rfl) (pe_callB (call_max2N rfl) (by rfl) T.m_max (by decide +kernel) (pa_cons (pe_un un_neg pe_int) (pa_cons (pe_callB (call_min2N rfl) (by rfl) T.m_min (by decide +kernel) (pa_cons pe_int (pa_cons (pv 3) pa_nil))) pa_nil))))
       (pss_one (ps_if (PW.pt (pw_and (pt_cmpR (op_notInK K) (pv 3) (pv 1) rfl) (pw_and1 (pt_cmpR op_lt (pe_callB (call_lenK K) (by rfl) T.m_len PySem.boot_len (pa_cons (pv 1) pa_nil)) pe_int (nomark _)))))
       (pss_one (ps_expr (pe_bm PySem.F.plainAttrs_list PySem.F.slot_list_append PySem.F.type_list_append mt_append (pv 1) (pa_cons (pv 3) pa_nil))))
       pss_nil)))))
       (pss_cons (ps_if (pt_cmpR op_lt (pe_callB (call_lenK K) (by rfl) T.m_len PySem.boot_len (pa_cons (pv 1) pa_nil)) pe_int (nomark _))
       (pss_one (ps_ret pe_bl))
       pss_nil)
       (pss_cons (ps_asg (pv 1) (pg_unl rfl (pgs_cons (pg_name (i := 4) sc_law_circles_right.nd rfl (.inl rfl)) (pgs_cons (pg_name (i := 5) sc_law_circles_right.nd rfl (.inl rfl)) (pgs_cons (pg_name (i := 6) sc_law_circles_right.nd rfl (.inl rfl)) pgs_nil)))))
       (pss_cons (ps_for PassesOwn.never rfl (pi_tupK K (pe_tup (pa_cons (pe_op op_sub (pe_call (ok_law_coin T) (hr.mono (by decide)) (by rfl) T.g_law_coin T.F_law_coin.kp (b_law_coin T) .nil pass0 (pa_cons (pv 0) (pa_cons pe_int pa_nil))) pe_int) (pa_cons (pe_op op_sub (pe_op op_sub (pe_op op_sub pe_int (pv 4)) (pv 5)) (pv 6)) (pa_cons (pv 4) (pa_cons (pe_op op_sub (pe_op op_sub (pe_op op_sub pe_int (pv 4)) (pv 5)) (pv 6)) (pa_cons (pe_op op_add (pv 5) pe_int) pa_nil))))))) (pg_name (i := 7) sc_law_circles_right.nd rfl (.inl rfl))
       (pss_one (ps_if (pt_cmpR op_le (pe_callB call_absN (by rfl) T.m_abs (by decide +kernel) (pa_cons (pv 7) pa_nil)) pe_int (nomark _))
       (pss_cons (ps_set (i := 8) sc_law_circles_right.nd rfl (.inl rfl) (pe_op op_add (pe_op op_add (pe_op op_add (pv 7) (pv 4)) (pv 5)) (pv 6)))
       (pss_cons (ps_for PassesOwn.never rfl (pi_listK K (pv 1)) (pg_name (i := 9) sc_law_circles_right.nd rfl (.inl rfl))
       (pss_one (ps_set (i := 8) sc_law_circles_right.nd rfl (.inl rfl) (pe_op op_mul (pv 8) (pe_op op_sub (pv 7) (pv 9))))))
       (pss_cons (ps_set (i := 10) sc_law_circles_right.nd rfl (.inl rfl) (pe_op op_sub (pe_callTy call_intN (by rfl) T.m_int (by decide +kernel) (pa_cons (pe_cmpR op_lt (pv 8) pe_int (nomark _)) pa_nil)) (pe_callTy call_intN (by rfl) T.m_int (by decide +kernel) (pa_cons (pe_cmpR op_gt (pv 8) pe_int (nomark _)) pa_nil))))
       (pss_one (ps_if (pt_cmpR op_ne (pe_call (ok_in_circle T) (hr.mono (by decide)) (by rfl) T.g_in_circle T.F_in_circle.kp (b_in_circle T) .nil pass0 (pa_cons (pe_tup (pa_cons (pv 4) (pa_cons (pe_op op_mul (pv 4) (pv 4)) pa_nil))) (pa_cons (pe_tup (pa_cons (pv 5) (pa_cons (pe_op op_mul (pv 5) (pv 5)) pa_nil))) (pa_cons (pe_tup (pa_cons (pv 6) (pa_cons (pe_op op_mul (pv 6) (pv 6)) pa_nil))) (pa_cons (pe_tup (pa_cons (pv 7) (pa_cons (pe_op op_mul (pv 7) (pv 7)) pa_nil))) pa_nil))))) (pv 10) (nomark _))
       (pss_one (ps_ret pe_bl))
       pss_nil)))))
       pss_nil)))
       (pss_one (ps_ret pe_bl)))))))), ?_⟩
    rw [st_law_circles_right]
    have gg : ∀ {N : Nat} {A B C : Hp} {M : Nat}, GoN s N A B → GoN s M B C → GoN s M A C := fun x y => ⟨x.k.trans y.k, x.t.trans y.t, y.src⟩
    have gs : ∀ {N : Nat} {A B : Hp}, GoN s N A B → GoN s N B B := fun x => ⟨.refl _, .refl _, x.src⟩
    have e6 : (10 : Int) ^ (6 : Int).toNat = 1000000 := by decide
    walk_at "rd"
    refine ⟨by decide, fun r hr => ?_⟩
    obtain ⟨xs0, ex0, _⟩ := g.src
    have nrs : r ≠ s := Ne.symm (ne_of_none ex0 hr)
    have g0 := g.new (o := .lst []) hr
    walk_at "rd"
    walk_at "nm"
    refine ⟨60, rfl, by decide, by decide, ?_⟩
    refine for_range (lo := 0) (n := 60) (fun i σ H' => (∃ y2 y3, σ = [some (.ref s), some (.ref r), y2, y3, none, none, none, none, none, none, none]) ∧ GoN s (N + 3 * i) H H' ∧ ∃ ns : List Int, H' r = some (.lst (ns.map V.int)) ∧ ns.length ≤ 3 ∧ ns.Nodup ∧ ∀ z ∈ ns, -1000 ≤ z ∧ z ≤ 1000)
      ⟨⟨none, none, rfl⟩, g0, [], upd_same, by decide, List.nodup_nil, fun z h => by cases h⟩ ?_ ?_
    · rintro i σ H' hi ⟨⟨y2, y3, rfl⟩, g1, ns, er, ln, nd, bn⟩
      have rk : ∀ {A B : Hp} {M M2 : Nat}, GoN s M A B → True := fun _ => trivial
      walk_at "rd"
      refine ⟨len_le (n := 2) (by decide), fun l1 hl1 => ?_⟩
      walk_at "rd"
      have gH : GoN s (N + 3 * i) H' H' := gs g1
      refine pick_go [9, 2001] gH (by omega) hl1 (by show 0 < 2; decide) (by show 2 < 1000000; decide) fun z1 H1 hz1 g2 _ => ?_
      have bz1 : 0 < z1 ∧ z1 ≤ 2001 := by
        rcases List.mem_cons.mp hz1 with h | h
        · omega
        · have := List.mem_singleton.mp h
          omega
      walk_at "rd"
      refine coin_go g2 (by omega) (by omega) (by omega) fun r2 H2 r20 r21 g3 _ => ?_
      walk_at "rd"
      refine ⟨len_le (n := 2) (by decide), fun l2 hl2 => ?_⟩
      walk_at "rd"
      refine pick_go [4, 1000] g3 (by omega) hl2 (by show 0 < 2; decide) (by show 2 < 1000000; decide) fun z2 H3 hz2 g4 _ => ?_
      have er3 : H3 r = some (.lst (ns.map V.int)) := g4.k r _ nrs er
      have g5 : GoN s (N + 3 * i + 1 + 1 + 1) H H3 := gg g1 g4
      walk_at "rd"
      generalize hx : (if (if r2 - z2 < 1000 then r2 - z2 else 1000) > -1000 then (if r2 - z2 < 1000 then r2 - z2 else 1000) else -1000) = x
      have bx : -1000 ≤ x ∧ x ≤ 1000 := by
        rw [← hx]
        split <;> split <;> omega
      refine ⟨r, _, rfl, .inl (SqL.of er3), rfl, flat_ints ns, ?_⟩
      walk_at "rd"
      rw [if_pos rfl, in_ints]
      refine ite2 (fun h => ?_) (fun h => ?_)
      · have hnot : x ∉ ns := by simpa using h
        walk_at "rd"
        refine ite2 (fun h2 => ?_) (fun h2 => ?_)
        · have hlt : ns.length < 3 := by
            have := of_decide_eq_true h2
            rw [List.length_map] at this
            omega
          walk_at "rd"
          refine ⟨_, rfl, .inl ⟨rfl, _, SqL.of er3⟩, ?_⟩
          walk_at "rd"
          refine ⟨r, _, _, rfl, rfl, er3, len_lt (by rw [List.length_map]; omega), ?_⟩
          walk_at "nm"
          refine ⟨⟨_, _, rfl⟩, g5.mutd hr nrs, ns ++ [x], ?_, by simp; omega, ?_, ?_⟩
          · rw [upd_same, List.map_append]
            rfl
          · rw [List.nodup_append]
            exact ⟨nd, by simp, fun a ha b hb => by rw [List.mem_singleton.mp hb]; exact fun e => hnot (e ▸ ha)⟩
          · intro z hz
            rcases List.mem_append.mp hz with h | h
            · exact bn z h
            · rw [List.mem_singleton.mp h]
              exact bx
        · walk_at "nm"
          exact ⟨⟨_, _, rfl⟩, g5, ns, er3, ln, nd, bn⟩
      · walk_at "rd"
        refine iteF ?_
        walk_at "nm"
        exact ⟨⟨_, _, rfl⟩, g5, ns, er3, ln, nd, bn⟩
    · rintro σ H1 ⟨⟨y2, y3, rfl⟩, g1, ns, er, ln, nd, bn⟩
      walk_at "rd"
      refine ite2 (fun h => ?_) (fun h => ?_)
      · walk_at "rd"
        exact q _ (g1.mono (by omega))
      · have l3 : ns.length = 3 := by
          have : ¬ (((ns.map V.int).length : Int) < 3) := fun z => h (decide_eq_true z)
          rw [List.length_map] at this
          omega
        obtain ⟨i, j, k, rfl⟩ : ∃ i j k, ns = [i, j, k] := by
          match ns, l3 with
          | [i, j, k], _ => exact ⟨i, j, k, rfl⟩
        have er' : H1 r = some (.lst [.int i, .int j, .int k]) := er
        have bi := bn i (by simp)
        have bj := bn j (by simp)
        have bk := bn k (by simp)
        have hij : i ≠ j := by simp at nd; omega
        have hik : i ≠ k := by simp at nd; omega
        have hjk : j ≠ k := by simp at nd; omega
        have ht : turnZ i (i * i) j (j * j) k (k * k) ≠ 0 := by
          rw [turn_par]
          intro z
          rcases Int.mul_eq_zero.mp z with z | z
          · rcases Int.mul_eq_zero.mp z with z | z <;> omega
          · omega
        walk_at "rd"
        refine coin_go (gs g1) (by omega) (by decide) (by decide) fun r5 H5 r50 r51 g5 _ => ?_
        have er5 : H5 r = some (.lst [.int i, .int j, .int k]) := g5.k r _ nrs er'
        have g6 := gg g1 g5
        walk_at "rd"
        refine ⟨len_le (n := 5) (by decide), fun t0 ht0 => ?_⟩
        walk_at "nm"
        have s0 : Same H5 (upd H5 t0 (.tup [.int (r5 - 1000), .int (0 - i - j - k), .int i, .int (1 - i - j - k), .int (j + 1)])) := same_new ht0
        have et : (upd H5 t0 (.tup [.int (r5 - 1000), .int (0 - i - j - k), .int i, .int (1 - i - j - k), .int (j + 1)])) t0 = some (.tup ([r5 - 1000, 0 - i - j - k, i, 1 - i - j - k, j + 1].map V.int)) := upd_same
        generalize upd H5 t0 (.tup [.int (r5 - 1000), .int (0 - i - j - k), .int i, .int (1 - i - j - k), .int (j + 1)]) = H6 at s0 et ⊢
        generalize [r5 - 1000, 0 - i - j - k, i, 1 - i - j - k, j + 1] = ends at et
        refine ⟨t0, rfl, ⟨_, SqT.of et⟩, ?_⟩
        refine for_tup (K := K) (a := t0) (xs := ends.map V.int) (fun n σ H' => (∃ y7 y8 y9 y10, σ = [some (.ref s), some (.ref r), y2, y3, some (.int i), some (.int j), some (.int k), y7, y8, y9, y10]) ∧ Same H6 H')
          ⟨⟨none, none, none, none, rfl⟩, .refl _⟩ (fun n σ H' _ h => SqT.of (h.2 _ _ et)) ?_ ?_
        · rintro n z σ H7 hz ⟨⟨y7, y8, y9, y10, rfl⟩, h7⟩
          obtain ⟨l, rfl⟩ := all_ints (List.mem_of_getElem? hz)
          have er7 : H7 r = some (.lst [.int i, .int j, .int k]) := h7 _ _ (s0 _ _ er5)
          walk_at "rd"
          refine ite2 (fun h => ?_) (fun h => ?_)
          · have bl : -1000 ≤ l ∧ l ≤ 1000 := by
              have := of_decide_eq_true h
              split at this <;> omega
            walk_at "rd"
            walk_at "nm"
            refine ⟨r, rfl, ⟨_, SqL.of er7⟩, ?_⟩
            let mk : Nat → Int := fun n => match n with
              | 0 => l + i + j + k
              | 1 => (l + i + j + k) * (l - i)
              | 2 => ((l + i + j + k) * (l - i)) * (l - j)
              | _ => (((l + i + j + k) * (l - i)) * (l - j)) * (l - k)
            refine for_list (K := K) (a := r) (xs := [.int i, .int j, .int k]) (fun n σ H' => H' = H7 ∧ ∃ y9, σ = [some (.ref s), some (.ref r), y2, y3, some (.int i), some (.int j), some (.int k), some (.int l), some (.int (mk n)), y9, y10])
              ⟨rfl, y9, rfl⟩ (fun n σ H' _ h => by rw [h.1]; exact SqL.of er7) ?_ ?_
            · rintro n z σ H' hz ⟨rfl, y9, rfl⟩
              obtain ⟨x, rfl, bx, em⟩ : ∃ x : Int, z = .int x ∧ (-1000 ≤ x ∧ x ≤ 1000) ∧ mk n * (l - x) = mk (n + 1) := by
                match n, hz with
                | 0, hz => exact ⟨i, (Option.some.inj hz).symm, bi, rfl⟩
                | 1, hz => exact ⟨j, (Option.some.inj hz).symm, bj, rfl⟩
                | 2, hz => exact ⟨k, (Option.some.inj hz).symm, bk, rfl⟩
              generalize mk n = mn0 at em ⊢
              walk_at "rd"
              walk_at "nm"
              refine ⟨rfl, some (.int x), ?_⟩
              rw [em]
            · rintro σ H' ⟨rfl, y9, rfl⟩
              show tSeq _ _ _ [some (.ref s), some (.ref r), y2, y3, some (.int i), some (.int j), some (.int k), some (.int l), some (.int ((((l + i + j + k) * (l - i)) * (l - j)) * (l - k))), y9, y10] H'
              have ed : zsg (decide ((((l + i + j + k) * (l - i)) * (l - j)) * (l - k) < 0)) - zsg (decide (0 < (((l + i + j + k) * (l - i)) * (l - j)) * (l - k))) = 0 - sgn ((((l + i + j + k) * (l - i)) * (l - j)) * (l - k)) := by
                generalize (((l + i + j + k) * (l - i)) * (l - j)) * (l - k) = m0
                unfold sgn zsg
                simp only [decide_eq_true_eq]
                omega
              have hc := circ_par (l := l) ht
              rw [← ed] at hc
              generalize (((l + i + j + k) * (l - i)) * (l - j)) * (l - k) = m0 at hc ⊢
              walk_at "rd"
              walk_at "nm"
              refine ⟨len_le (n := 2) (by decide), fun t1 ht1 => ?_⟩
              walk_at "rd"
              refine ⟨len_le (n := 2) (by decide), fun t2 ht2 => ?_⟩
              walk_at "rd"
              refine ⟨len_le (n := 2) (by decide), fun t3 ht3 => ?_⟩
              walk_at "rd"
              refine ⟨len_le (n := 2) (by decide), fun t4 ht4 => ?_⟩
              walk_at "rd"
              have sA := same_new (o := .tup [.int i, .int (i * i)]) ht1
              have sB := same_new (o := .tup [.int j, .int (j * j)]) ht2
              have sC := same_new (o := .tup [.int k, .int (k * k)]) ht3
              have sD := same_new (o := .tup [.int l, .int (l * l)]) ht4
              have qi := sq1000 bi
              have qj := sq1000 bj
              have qk := sq1000 bk
              have ql := sq1000 bl
              refine ⟨t1, t2, t3, t4, i, i * i, j, j * j, k, k * k, l, l * l, rfl, ⟨⟨sD _ _ (sC _ _ (sB _ _ upd_same)), sD _ _ (sC _ _ upd_same), sD _ _ upd_same, ⟨?_, ?_⟩, ⟨?_, ?_⟩, ⟨?_, ?_⟩⟩, upd_same, ?_, ?_⟩, ht, fun H8 h8 => ?_⟩
              · unfold Bd; omega
              · unfold Bd; omega
              · unfold Bd; omega
              · unfold Bd; omega
              · unfold Bd; omega
              · unfold Bd; omega
              · unfold Bd; omega
              · unfold Bd; omega
              walk_at "rd"
              rw [hc, decide_eq_true rfl]
              refine iteF ?_
              exact ⟨⟨_, _, _, _, rfl⟩, (((h7.trans sA).trans sB).trans sC).trans sD |>.trans h8⟩
          · walk_at "nm"
            exact ⟨⟨_, _, _, _, rfl⟩, h7⟩
        · rintro σ H7 ⟨_, h7⟩
          walk_at "rd"
          exact q _ ((g6.same (s0.trans h7)).mono (by omega))

end

end NC
namespace NC
section
variable {P : Program} {w : World} {K : PySem.W.Frag} {mg : Str → Option Value} {base : Heap}

def sp_law (K : PySem.W.Frag) : Sp := fun vs H Q _ => ∃ (a : Addr) (ns : List Int), vs = [.ref a] ∧ SqL K H a (ns.map V.int) ∧ ns.length ≤ 63 ∧ (∀ z ∈ ns, Builtin.Int.intBits z ≤ 1048576) ∧ ∀ H', Q (.bl true) H'
theorem bA_law (T : Tops K mg) (s : Shared) (v : Value) : BindsTo s T.fd_law ⟨[v], []⟩ [("_law_script", v)] := FunD.bindsA (ps := P_law) T.F_law (fun _ _ _ _ _ _ us hl => match us, hl with | [_], _ => rfl) s [v] rfl
/-- the five parts by their addresses -/
def askL (K : PySem.W.Frag) : List Addr := [He.ga K "_law_grids_right", He.ga K "_law_rows_right", He.ga K "_law_parabolas_right", He.ga K "_law_circles_right", He.ga K "_law_zigzags_right"]
def askS (K : PySem.W.Frag) (f : Addr) : Option Sp := if f ∈ askL K then some sp_ask else none
theorem askHeld (T : Tops K mg) (f : Addr) (sp : Sp) (h : askS K f = some sp) : Held P w K mg base 7 f sp := by
  unfold askS at h
  split at h
  · rename_i hf
    have e := Option.some.inj h
    subst e
    unfold askL at hf
    rcases List.mem_cons.mp hf with e | hf
    · rw [e]
      exact ⟨_, _, (ok_law_grids_right T).mono (by decide), T.F_law_grids_right.kp, b_law_grids_right T⟩
    rcases List.mem_cons.mp hf with e | hf
    · rw [e]
      exact ⟨_, _, (ok_law_rows_right T).mono (by decide), T.F_law_rows_right.kp, b_law_rows_right T⟩
    rcases List.mem_cons.mp hf with e | hf
    · rw [e]
      exact ⟨_, _, (ok_law_parabolas_right T).mono (by decide), T.F_law_parabolas_right.kp, b_law_parabolas_right T⟩
    rcases List.mem_cons.mp hf with e | hf
    · rw [e]
      exact ⟨_, _, (ok_law_circles_right T).mono (by decide), T.F_law_circles_right.kp, b_law_circles_right T⟩
    · rw [List.mem_singleton.mp hf]
      exact ⟨_, _, (ok_law_zigzags_right T).mono (by decide), T.F_law_zigzags_right.kp, b_law_zigzags_right T⟩
  · cases h
theorem ok_law (T : Tops K mg) : FnOk P w K mg base CX0 8 (He.ga K "law") T.fd_law P_law (sp_law K) := by
  refine T.F_law.ok sc_law (fun vs H Q E h => ?_) (fun cdv A outer s H vs Q E hr h => ?_)
  · obtain ⟨a, ns, rfl, hS, hlen, hbits, q⟩ := h
    rfl
  · obtain ⟨a, ns, rfl, hS, hlen, hbits, q⟩ := h
    refine ⟨_, PSs.nox ((pss_cons (ps_for PassesOwn.never rfl (pi_listK K (pe_op op_cat (pe_slice (sl_listK K) (pv 0) po_none (po_some pe_int)) (pe_lst (pa_cons pe_int pa_nil)))) (pg_name (i := 1) sc_law.nd rfl (.inl rfl))
       (pss_cons (ps_set (i := 2) sc_law.nd rfl (.inl rfl) (pe_call (ok_law_purse T) (hr.mono (by decide)) (by rfl) T.g_law_purse T.F_law_purse.kp (b_law_purse T) .nil pass0 (pa_cons (pv 1) pa_nil)))
       (pss_one (ps_for PassesOwn.never rfl (pi_tupK K (pe_tup (pa_cons (pe_glob (v := .ref (He.ga K "_law_grids_right")) rfl T.g_law_grids_right rfl) (pa_cons (pe_glob (v := .ref (He.ga K "_law_rows_right")) rfl T.g_law_rows_right rfl) (pa_cons (pe_glob (v := .ref (He.ga K "_law_parabolas_right")) rfl T.g_law_parabolas_right rfl) (pa_cons (pe_glob (v := .ref (He.ga K "_law_circles_right")) rfl T.g_law_circles_right rfl) (pa_cons (pe_glob (v := .ref (He.ga K "_law_zigzags_right")) rfl T.g_law_zigzags_right rfl) pa_nil))))))) (pg_name (i := 3) sc_law.nd rfl (.inl rfl))
       (pss_one (ps_if (pt_not (pt_val (pe_callA (i := 3) (S := askS K) (askHeld T) (hr.mono (by decide)) rfl (.inl rfl) (pa_cons (pv 2) pa_nil))))
       (pss_one (ps_ret pe_bl))
       pss_nil))))))
       (pss_cons (ps_set (i := 4) sc_law.nd rfl (.inl rfl) (pe_op op_pow pe_int pe_int))
       (pss_cons (ps_set (i := 5) sc_law.nd rfl (.inl rfl) (pe_op op_pow (pe_op op_sub (pv 4) pe_int) pe_int))
       (pss_cons (ps_if (pt_cmpR (op_neDK K hr.units) (pe_call (ok_grid_counts T) (hr.mono (by decide)) (by rfl) T.g_grid_counts T.F_grid_counts.kp (b_grid_counts T) .nil pass0 (pa_cons (pv 4) (pa_cons (pv 4) pa_nil))) (pe_tup (pa_cons (pe_op op_mul (pv 4) (pv 4)) (pa_cons (pe_op op_mul (pe_op op_mul pe_int (pv 4)) (pe_op op_sub (pv 4) pe_int)) (pa_cons (pv 5) (pa_cons (pe_op op_mul pe_int (pv 5)) pa_nil))))) (nomark _))
       (pss_one (ps_ret pe_bl))
       pss_nil)
       (pss_one (ps_ret (pe_cmpR (op_eqDK K hr.units) (pe_call (ok_parabola_counts T) (hr.mono (by decide)) (by rfl) T.g_parabola_counts T.F_parabola_counts.kp (b_parabola_counts T) .nil pass0 (pa_cons (pe_op op_sub pe_int (pv 4)) (pa_cons (pv 4) pa_nil))) (pe_tup (pa_cons (pe_op op_add (pe_op op_mul pe_int (pv 4)) pe_int) (pa_cons (pe_op op_mul pe_int (pv 4)) (pa_cons (pv 4) (pa_cons (pe_op op_sub (pe_op op_mul pe_int (pv 4)) pe_int) pa_nil))))) (nomark _))))))))), ?_⟩
    rw [st_law]
    have e6 : (10 : Int) ^ (6 : Int).toNat = 1000000 := by decide
    walk_at "rd"
    refine ⟨a, _, rfl, hS, fun p1 hp1 => ?_⟩
    walk_at "rd"
    refine ⟨len_le (n := 1) (by decide), fun p2 hp2 => ?_⟩
    refine ⟨p1, p2, _, _, rfl, rfl, same_new hp2 _ _ upd_same, upd_same, len_le (by
      have := cutV_length (ns.map V.int) none (some 5)
      rw [List.length_map] at this
      show _ + 1 ≤ _
      omega), fun p3 hp3 => ?_⟩
    generalize hit : cutV (ns.map V.int) none (some 5) ++ [V.int 0] = items
    have hints : ∀ z ∈ items, ∃ n : Int, z = .int n := fun z hz => by
      rw [← hit] at hz
      rcases List.mem_append.mp hz with h | h
      · exact all_ints (cut_mem h)
      · exact ⟨_, List.mem_singleton.mp h⟩
    refine ⟨p3, rfl, ⟨_, SqL.of upd_same⟩, ?_⟩
    refine for_list (K := K) (a := p3) (xs := items) (fun i σ H' => (∃ y1 y2 y3, σ = [some (.ref a), y1, y2, y3, none, none]) ∧ H' p3 = some (.lst items))
      ⟨⟨none, none, none, rfl⟩, upd_same⟩ (fun i σ H' _ h => SqL.of h.2) ?_ ?_
    · rintro i z σ H' hz ⟨⟨y1, y2, y3, rfl⟩, e3⟩
      obtain ⟨n, rfl⟩ := hints z (List.mem_of_getElem? hz)
      walk_at "rd"
      refine ⟨n, rfl, fun s xs hs hx => ?_⟩
      have e5 : (upd H' s (.lst xs)) p3 = some (.lst items) := same_new hs _ _ e3
      have ns3 : p3 ≠ s := ne_of_none e3 hs
      have gA : GoN s 3 (upd H' s (.lst xs)) (upd H' s (.lst xs)) := ⟨.refl _, .refl _, xs, upd_same, hx⟩
      generalize upd H' s (.lst xs) = H5 at e5 gA ⊢
      walk_at "rd"
      walk_at "nm"
      refine ⟨len_le (n := 5) (by decide), fun t ht => ?_⟩
      have et : (upd H5 t (.tup [.ref (He.ga K "_law_grids_right"), .ref (He.ga K "_law_rows_right"), .ref (He.ga K "_law_parabolas_right"), .ref (He.ga K "_law_circles_right"), .ref (He.ga K "_law_zigzags_right")])) t = some (.tup ((askL K).map V.ref)) := upd_same
      have gB := gA.new (o := .tup [.ref (He.ga K "_law_grids_right"), .ref (He.ga K "_law_rows_right"), .ref (He.ga K "_law_parabolas_right"), .ref (He.ga K "_law_circles_right"), .ref (He.ga K "_law_zigzags_right")]) ht
      generalize upd H5 t (.tup [.ref (He.ga K "_law_grids_right"), .ref (He.ga K "_law_rows_right"), .ref (He.ga K "_law_parabolas_right"), .ref (He.ga K "_law_circles_right"), .ref (He.ga K "_law_zigzags_right")]) = H6 at et gB ⊢
      refine ⟨t, rfl, ⟨_, SqT.of et⟩, ?_⟩
      refine for_tup (K := K) (a := t) (xs := (askL K).map V.ref) (fun k σ H7 => (∃ y3, σ = [some (.ref a), some (.int n), some (.ref s), y3, none, none]) ∧ GoN s (3 + 400 * k) H5 H7 ∧ TK H6 H7)
        ⟨⟨y3, rfl⟩, gB, .refl _⟩ (fun k σ H7 _ h => SqT.of (h.2.2 _ _ et)) ?_ ?_
      · rintro k z σ H7 hz ⟨⟨y3, rfl⟩, g7, k7⟩
        obtain ⟨f, hf, rfl⟩ := List.mem_map.mp (List.mem_of_getElem? hz)
        have hk : k < 5 := by
          have := (List.getElem?_eq_some_iff.mp hz).1
          rw [List.length_map] at this
          exact this
        walk_at "rd"
        walk_at "nm"
        refine ⟨f, sp_ask, rfl, if_pos hf, ?_⟩
        walk_at "rd"
        refine ⟨s, 3 + 400 * k, rfl, ⟨.refl _, .refl _, g7.src⟩, by omega, fun H8 g8 => ?_⟩
        walk_at "rd"
        refine iteF ?_
        exact ⟨⟨_, rfl⟩, ⟨g7.k.trans g8.k, g7.t.trans g8.t, by
          have := g8.src
          rw [show 3 + 400 * k + 400 = 3 + 400 * (k + 1) by omega] at this
          exact this⟩, k7.trans g8.t⟩
      · rintro σ H7 ⟨⟨y3, rfl⟩, g7, k7⟩
        exact ⟨⟨_, _, _, rfl⟩, g7.k _ _ ns3 e5⟩
    · rintro σ H' ⟨⟨y1, y2, y3, rfl⟩, e3⟩
      walk_at "rd"
      simp only [e6]
      refine ⟨1000000, 1000000, rfl, by decide, by decide, fun H1 f h1 ef => ?_⟩
      walk_at "rd"
      refine ⟨len_le (n := 4) (by decide), fun t ht => ?_⟩
      have ef' : H1 f = some (.tup [.int 1000000000000, .int 1999998000000, .int 999998000001, .int 1999996000002]) := ef
      refine ⟨_, _, dp4 (same_new ht _ _ ef'), dp4 (a := 1000000000000) (b := 1999998000000) (c := 999998000001) (d := 1999996000002) upd_same, rfl, rfl, ?_⟩
      rw [eqv4]
      walk_at "rd"
      refine iteF ?_
      walk_at "rd"
      refine ⟨0 - 1000000, 1000000, rfl, by unfold Bd; decide, by unfold Bd; decide, by decide, fun H2 f2 h2 ef2 => ?_⟩
      walk_at "rd"
      refine ⟨len_le (n := 4) (by decide), fun t2 ht2 => ?_⟩
      have ef2' : H2 f2 = some (.tup [.int 2000001, .int 3000000, .int 1000000, .int 1999999]) := ef2
      refine ⟨_, _, dp4 (same_new ht2 _ _ ef2'), dp4 (a := 2000001) (b := 3000000) (c := 1000000) (d := 1999999) upd_same, rfl, rfl, ?_⟩
      rw [eqv4]
      exact q _

end

end NC
open PySem PySem.W PySem.Calls PyProof.Rows
theorem PySem.Challenge.cw_nearcells_k71_whole_far_shapes_holds : PySem.Challenge.rw_nearcells_k71_whole_far_shapes.Holds := by
  w_on; o_law
  refine HandSHeadRun.head_any (r := OpenLaw.row PySem.Challenge.rw_nearcells_k71_whole_far_shapes) (q := view (OpenLaw.row PySem.Challenge.rw_nearcells_k71_whole_far_shapes).prog [39]) (H := NC.hk) (ob := NC.ob) (M := 4000) (loose := NC.loose) (d := HandSHeadRun.topDef (OpenLaw.row PySem.Challenge.rw_nearcells_k71_whole_far_shapes).prog 39) (kwd := []) NC.ob_eq
    (by kernel_rfl) (fun s => by kernel_rfl) NC.run (by kernel_rfl) (by kernel_rfl) (by kernel_rfl) (by rfl) (by first | assumption | decide +kernel) (by decide +kernel) ⟨rfl, rfl, rfl, rfl, rfl, by decide +kernel⟩ ?hw ?hc
  case hw => w_witness2
  case hc =>
    refine L2.walk_ofBE (l := PySem.Challenge.rw_nearcells_k71_whole_far_shapes) (n := 63) (k := 8) (x := "_law_script") (CX := L2.CX0) rfl (by decide) (by kernel_rfl) ⟨rfl, by decide, by decide⟩ ?F (fun _ _ _ _ z => z)
    intro w mg fa h Y G hmg0
    obtain ⟨K, KX, c⟩ := Y
    have hmg : mg ("law" : PySem.Str) = some (.ref fa) := by
      have e : (HandSHeadRun.topDef (OpenLaw.row PySem.Challenge.rw_nearcells_k71_whole_far_shapes).prog 39).name = ("law" : PySem.Str) := by kernel_rfl
      rw [← e]
      exact hmg0
    obtain ⟨T⟩ := NC.tops KX G c.t.d
    have e := hmg.symm.trans T.g_law
    cases e
    exact ⟨K, T.fd_law, NC.sp_law K, KX, NC.bA_law T, fun H a ns hl hb _ hS => ⟨a, ns, rfl, hS, hl, hb, fun _ => rfl⟩, fun base _ _ => NC.ok_law T⟩
