import PyProof.Rows.All
import Wide.All
import OpenK.AllK
import Wide.FinOn
import PyProof.EqAt
import PyProof.EqKinds
import PyProof.TupleCall
import KE.KStateDown
import Lean
import HandS.ForMost
import HandS.ForExc
import HandS.More
import HandS.Sort
import HandS.SortOrd
import HandS.SortRule
import HandS.SortInts
import HandS.Conv
import HandS.Deep
import HandS.Style
import HandS.Flow
import HandS.Wide
import HandS.Defaults
import HandS.IsInst
import HandS.EndBits
import HandS.TupLe
import HandS.TupAny
import HandS.Codes
import HandS.CallLocal
import HandS.NoneIn
import HandS.Head0
import HandS.Head1
import HandS.Head2
import HandS.HeadEnd
import HandS.HeadHook1
import HandS.HeadHook2
import HandS.HeadHook3
import HandS.HeadHook4
import PySem.Challenge.RW_nearcells_k03_whole_lifts_and_nearness
set_option Elab.async false
set_option linter.all false
set_option maxRecDepth 100000
set_option maxHeartbeats 4000000
/-! NCBase: what all laws here use: calls by keywords alone, the end with the script's bits, heaps, readings as rules. -/
namespace L2
open PySem PySem.Spec PyProof.Rows
/-! ### keywords alone -/
def permL {α : Type} (ix : List Nat) (xs : List α) : List α := ix.filterMap fun i => xs[i]?
theorem permL_vals {zs : List V} {ws : List Value} (r : Vals zs ws) : ∀ ix : List Nat, Vals (permL ix zs) (permL ix ws)
  | [] => .nil
  | i :: is => by
    have ih := permL_vals r is
    unfold permL at ih ⊢
    rw [List.filterMap_cons, List.filterMap_cons]
    cases e : zs[i]? with
    | none =>
      rw [r.none_of e]
      exact ih
    | some z =>
      obtain ⟨u, e2, r2⟩ := r.get e
      rw [e2]
      exact .cons r2 ih
theorem FunD.kbnP {K : PySem.W.Frag} {x qual : Str} {params : Arguments} {body : List Stmt} {scope : Scope} {kws : List (Str × V)} {f : Addr} {fd : FuncData} {ps : List Str} (F : FunD K x qual params body scope [] kws f fd) (n : Nat) (ks : List Str) (ix : List Nat)
    (h : ∀ (kV doc pm : Value) (an : Option Addr) (cdv ct : Value) (us ws : List Value), us.length = n → ws.length = ks.length → bindArgs (PySem.W.fnOf x qual params body scope .none kV doc pm an cdv ct) ⟨us, ks.zip ws⟩ = pure (ps.zip (permL ix (us ++ ws)))) :
    KBn K fd ps n ks (fun us ws => permL ix (us ++ ws)) (fun vs zs => permL ix (vs ++ zs)) := by
  obtain ⟨oc, od, dV, kV, doc, pm, an, cdv, ct, osl, rfl, lk, hcd, hD, hK⟩ := F.ex
  rcases hD with ⟨_, rfl⟩ | ⟨e, _⟩
  · exact ⟨fun s us ws _ l1 l2 => .of_eq (h kV doc pm an cdv ct us ws l1 l2), fun r1 r2 => permL_vals (r1.append r2) ix⟩
  · exact absurd rfl e
section
variable {X : Cx} {CX : CXT} {k : Nat} {f : Addr} {fd : FuncData} {ps ks : List Str} {sp : Sp} {E : XK} {x : Str} {p pos : Pos} {kws : List Keyword} {tk : TA} {g : List Value → List Value → List Value} {gV : List V → List V → List V}
/-- f(k = v, ..) -/
theorem pe_callN0 (F : FnOk X.prog X.w X.K X.mg X.base CX k f fd ps sp) (hr : Room k X.A) (hg : Gl X x) (hm : X.mg x = some (.ref f)) (hk : PySem.W.keepIn X.K (.ref f) = true) (hb : KBn X.K fd ps 0 ks g gV) (hx : Passes CX X E) (hkw : PK X kws tk)
    (hall : (backToKw pos (keywordEach kws X.env)).all (·.1.isSome) = true := by rfl) (hks : (backToKw pos (keywordEach kws X.env)).filterMap (·.1) = ks := by rfl) (hdb : (x == ("__debug__" : Str)) = false := by decide)
    (hpl : ((backTo pos (starEach [] X.env)).any (·.1) || (backToKw pos (keywordEach kws X.env)).any (·.1.isNone)) = false := by rfl) :
    PE X (.Call (.Name x p) [] kws pos) (tCallN 0 ks.length sp gV E tNil tk) := by
  refine ⟨fun pins s σ H Q I h => ?_⟩
  refine wpAny_Call_Name_kw (ld_glob I hg hm ?_ hdb)
  refine PySem.W.callWith_KW0 (h₀ := X.base) I.ok.mod.kin hk hall ?_ hpl
  refine thn (hkw.run pos pins s σ H _ I h) fun ws s2 ⟨zs, H2, I2, rz, l1, l2, q2⟩ => ⟨I2.kIn, ?_⟩
  rw [hks]
  exact run_fnN (us := []) (vs := []) F hr hb hx I2 .nil rz rfl l2 q2
end
/-! ### the end, with the script's bits -/
theorem walk_ofBE {l : PySem.W.OpenLaw} {n k : Nat} {q : Program} {loose : List Str} {XP : (Str → Option Value) → Heap → Prop} {YP : World → Heap → Prop} {d : DefRec} {CX : CXT} {x : Str}
    (hn : l.most = some n) (hn2 : n ≤ sizeLine) (hdf : d.params.defaults = []) (hr : Room k callerA)
    (F : ∀ (w : World) (mg : Str → Option Value) (fa : Addr) (h : Heap), YP w h → h.Ns mainGlobals mg → mg d.name = some (.ref fa) →
      ∃ (K : PySem.W.Frag) (fd : FuncData) (sp : Sp), K.In h ∧ (∀ (s : Shared) (u : Value), BindsTo s fd ⟨[u], []⟩ [(x, u)]) ∧
        (∀ (H : Hp) (a : Addr) (ns : List Int), ns.length ≤ n → (∀ z ∈ ns, Builtin.Int.intBits z ≤ 1048576) → Only H → SqL K H a (ns.map V.int) → sp [.ref a] H (fun v _ => v = .bl true) fun _ _ _ => False) ∧
        ∀ base : Heap, K.In base → base.Ns mainGlobals mg → FnOk l.prog w K mg base CX k fa fd [x] sp)
    (hCX : ∀ (H : Hp) (s : Shared) (e : Value) (s' : Shared), CX [] H s (fun _ _ _ => False) e s' → False) :
    PySem.W.WalkO q loose XP YP l.row.toRowW d [] (fun f vs => PySem.call f vs) := by
  refine Att.attach_callB hn hdf fun w s₀ s₁ mg mb fa o pm cd doc a vs ns G Y ho hd hcd hmg hobj hints hlen hbits hg => ?_
  obtain ⟨K, fd, sp, KX, hb, hsp, hF⟩ := F w mg fa _ Y G.T.g hmg
  exact law_call KX G.T.g G.T.b G.T.builtins G.T.nolimit hg hobj hints (Nat.le_trans hlen hn2) hr hF hb (fun H hO hS => hsp H a ns hlen hbits hO hS) fun H e s' => hCX H s₁ e s'
/-! ### readings as rules -/
section
variable {σ : St} {H : Hp} {Q : VK} {D : Ends} {K : PySem.W.Frag} {v x y : V}
theorem g_var {i : Nat} (h : σ[i]? = some (some v)) (q : Q v H) : tVar i σ H Q := ⟨v, h, q⟩
theorem g_c (q : Q v H) : tC v σ H Q := q
theorem g_op {r : R2} {ta tb : TE} (q : ta σ H fun x H1 => tb σ H1 fun y H2 => r x y H2 Q) : tOp r ta tb σ H Q := q
theorem g_un {r : V → Hp → VK → Prop} {ta : TE} (q : ta σ H fun x H1 => r x H1 Q) : tUn r ta σ H Q := q
theorem g_I0 {g : Int → Int → V} {i j : Int} (q : Q (g i j) H) : rI0 g (.int i) (.int j) H Q := ⟨i, j, rfl, rfl, q⟩
theorem g_mul {g : Int → Int → V} {i j : Int} (hc : CMul i j) (q : Q (g i j) H) : rI CMul g (.int i) (.int j) H Q := ⟨i, j, rfl, rfl, hc, q⟩
theorem g_I {C : Int → Int → Prop} {g : Int → Int → V} {i j : Int} (hc : C i j) (q : Q (g i j) H) : rI C g (.int i) (.int j) H Q := ⟨i, j, rfl, rfl, hc, q⟩
theorem g_U {g : Int → V} {i : Int} (q : Q (g i) H) : rU g (.int i) H Q := ⟨i, rfl, q⟩
theorem g_eqI {i j : Int} (q : Q (.bl (decide (i = j))) H) : rEq (.int i) (.int j) H Q := ⟨rfl, by rw [dec_int, Bool.beq_eq_decide_eq]; exact q⟩
theorem g_neI {i j : Int} (q : Q (.bl (!decide (i = j))) H) : rNe (.int i) (.int j) H Q := ⟨rfl, by rw [dec_int, Bool.beq_eq_decide_eq]; exact q⟩
theorem g_eqB {i j : Bool} (q : Q (.bl (i == j)) H) : rEq (.bl i) (.bl j) H Q := ⟨rfl, by rw [dec_bl]; exact q⟩
theorem g_neB {i j : Bool} (q : Q (.bl (!(i == j))) H) : rNe (.bl i) (.bl j) H Q := ⟨rfl, by rw [dec_bl]; exact q⟩
theorem g_cons {ta : TE} {tr : TA} {q : List V → Hp → Prop} (h : ta σ H fun x H1 => tr σ H1 fun xs H2 => q (x :: xs) H2) : tCons ta tr σ H q := h
theorem g_nil {q : List V → Hp → Prop} (h : q [] H) : tNil σ H q := h
theorem g_tup {t : TA} (h : t σ H fun xs H1 => xs.length ≤ sizeLine ∧ ∀ p, H1 p = none → Q (.ref p) (upd H1 p (.tup xs))) : tTup t σ H Q := h
theorem g_lst {t : TA} (h : t σ H fun xs H1 => xs.length ≤ sizeLine ∧ ∀ p, H1 p = none → Q (.ref p) (upd H1 p (.lst xs))) : tLst t σ H Q := h
theorem g_ixT {p : Addr} {xs : List V} {i : Int} (h : H p = some (.tup xs)) (ha : atI xs i = some v) (q : Q v H) : rIxT K (.ref p) (.int i) H Q := ⟨p, xs, i, v, rfl, rfl, SqT.of h, ha, q⟩
theorem g_ixL {p : Addr} {xs : List V} {i : Int} (h : H p = some (.lst xs)) (ha : atI xs i = some v) (q : Q v H) : rIxL K (.ref p) (.int i) H Q := ⟨p, xs, i, v, rfl, rfl, SqL.of h, ha, q⟩
theorem g_cb {r : List V → Hp → VK → Prop} {t : TA} (q : t σ H fun vs H1 => r vs H1 Q) : tCB r t σ H Q := q
theorem g_call {sp : Sp} {dvs : List V} {E : XK} {t : TA} (q : t σ H fun vs H1 => sp (vs ++ dvs) H1 Q E) : tCall sp dvs E t σ H Q := q
theorem g_test {t : TE} {q : Bool → Hp → Prop} (h : t σ H fun x H' => ∃ k, x = .bl k ∧ q k H') : tTest t σ H q := h
theorem g_tb {t : TE} {q : Bool → Hp → Prop} (h : t σ H fun x H' => ∃ k, x = .bl k ∧ q k H') : tB t σ H q := h
theorem g_bl {b : Bool} {q : Bool → Prop} (h : q b) : ∃ k, V.bl b = .bl k ∧ q k := ⟨b, rfl, h⟩
theorem g_yes {q : Bool → Hp → Prop} (h : q true H) : tYes σ H q := h
theorem g_and {t u : TT} {q : Bool → Hp → Prop} (h : t σ H fun c H1 => if c = true then u σ H1 q else q false H1) : tAnd t u σ H q := h
theorem g_or {t u : TT} {q : Bool → Hp → Prop} (h : t σ H fun c H1 => if c = true then q true H1 else u σ H1 q) : tOr t u σ H q := h
theorem g_not {t : TT} {q : Bool → Hp → Prop} (h : t σ H fun c H1 => q (!c) H1) : tNot t σ H q := h
theorem g_if {t : TT} {ta tb : TE} (h : t σ H fun c H1 => if c = true then ta σ H1 Q else tb σ H1 Q) : tIf t ta tb σ H Q := h
theorem g_ifS {c : TT} {t u : TS} (h : c σ H fun b H1 => if b = true then t D σ H1 else u D σ H1) : tIfS c t u D σ H := h
theorem g_seq {t u : TS} (h : t { D with nx := u D } σ H) : tSeq t u D σ H := h
theorem g_next (h : D.nx σ H) : tNext D σ H := h
theorem g_ret {te : TE} (h : te σ H D.rt) : tRet te D σ H := h
theorem g_asg {te : TE} {g : TG} (h : te σ H fun x H1 => g x σ H1 D.nx) : tAsg te g D σ H := h
theorem g_name {i : Nat} {q : St → Hp → Prop} (h : q (σ.set i (some v)) H) : gName i v σ H q := h
theorem g_drop {te : TE} (h : te σ H fun _ H1 => D.nx σ H1) : tDrop te D σ H := h
theorem g_par {i j : Nat} {ta : TA} (h : ta σ H fun vs H1 => ∃ v w, vs = [v, w] ∧ D.nx ((σ.set i (some v)).set j (some w)) H1) : tPar i j ta D σ H := h
theorem g_par3 {i j l : Nat} {ta : TA} (h : ta σ H fun vs H1 => ∃ u v w, vs = [u, v, w] ∧ D.nx (((σ.set i (some u)).set j (some v)).set l (some w)) H1) : tPar3 i j l ta D σ H := h
theorem g_chain {r r' : R2} {ta tb tc : TE} (h : ta σ H fun x H1 => tb σ H1 fun y H2 => r x y H2 fun z H3 => ∃ k, z = .bl k ∧ (if k = true then tc σ H3 fun w' H4 => r' y w' H4 Q else Q (.bl false) H3)) : tChain r r' ta tb tc σ H Q := h
theorem g_andV {ta tb : TE} (h : ta σ H fun x H1 => ∃ c, x = .bl c ∧ if c = true then tb σ H1 Q else Q (.bl false) H1) : tAndV ta tb σ H Q := h
theorem g_orV {ta tb : TE} (h : ta σ H fun x H1 => ∃ c, x = .bl c ∧ if c = true then Q (.bl true) H1 else tb σ H1 Q) : tOrV ta tb σ H Q := h
theorem g_notV {ta : TE} (h : ta σ H fun x H1 => ∃ c, x = .bl c ∧ Q (.bl (!c)) H1) : tNotV ta σ H Q := h
theorem g_sub {to ti : TE} {t : TSet} {q : St → Hp → Prop} (h : to σ H fun o H1 => ti σ H1 fun i H2 => t o i v H2 fun H3 => q σ H3) : gSub to ti t v σ H q := h
theorem g_setL {p : Addr} {xs : List V} {k : Int} {j : Nat} {q : Hp → Prop} (h : H p = some (.lst xs)) (hj : ixN xs.length k = some j) (hq : q (upd H p (.lst (xs.set j v)))) : rSetL (.ref p) (.int k) v H q := ⟨p, xs, k, j, rfl, rfl, h, hj, hq⟩
theorem g_tupG {n : Nat} {t : TGs} {a : Addr} {xs : List V} {q : St → Hp → Prop} (h : H a = some (.tup xs)) (hn : xs.length = n) (hq : t xs σ H q) : gTup K n t (.ref a) σ H q := ⟨a, xs, rfl, SqT.of h, hn, hq⟩
theorem g_unl {n : Nat} {t : TGs} {a : Addr} {xs : List V} {q : St → Hp → Prop} (h : H a = some (.lst xs)) (hn : xs.length = n) (hq : t xs σ H q) : gUnl K n t (.ref a) σ H q := ⟨a, xs, rfl, SqL.of h, hn, hq⟩
theorem g_consG {t : TG} {u : TGs} {r : List V} {q : St → Hp → Prop} (h : t v σ H fun σ' H' => u r σ' H' q) : gCons t u (v :: r) σ H q := ⟨v, r, rfl, h⟩
theorem g_nilG {q : St → Hp → Prop} (h : q σ H) : gNil [] σ H q := ⟨rfl, h⟩
theorem g_callN {n m : Nat} {sp : Sp} {gV : List V → List V → List V} {E : XK} {t tk : TA} (h : t σ H fun vs H1 => tk σ H1 fun zs H2 => vs.length = n ∧ zs.length = m ∧ sp (gV vs zs) H2 Q E) : tCallN n m sp gV E t tk σ H Q := h
theorem g_sl {r : V → Option Int → Option Int → Hp → VK → Prop} {te : TE} {tl th : TO} (h : te σ H fun x H1 => tl σ H1 fun l H2 => th σ H2 fun u H3 => r x l u H3 Q) : tSl r te tl th σ H Q := h
end
/-! ### built-ins by names of their own -/
def rInt : List V → Hp → VK → Prop := fun xs H Q => (∃ i, xs = [.int i] ∧ Q (.int i) H) ∨ ∃ k, xs = [.bl k] ∧ Q (.int (if k then 1 else 0)) H
def rLenN (K : PySem.W.Frag) : List V → Hp → VK → Prop := fun xs H Q => ∃ p ys, xs = [.ref p] ∧ (SqL K H p ys ∨ SqT K H p ys) ∧ Q (.int ys.length) H
def rAbs : List V → Hp → VK → Prop := fun xs H Q => ∃ i, xs = [.int i] ∧ Q (.int (if i < 0 then -i else i)) H
def rMin2 : List V → Hp → VK → Prop := fun xs H Q => ∃ i j, xs = [.int i, .int j] ∧ Q (.int (if j < i then j else i)) H
def rMax2 : List V → Hp → VK → Prop := fun xs H Q => ∃ i j, xs = [.int i, .int j] ∧ Q (.int (if j > i then j else i)) H
def zsg (k : Bool) : Int := if k then 1 else 0
theorem zsg_lo (k : Bool) : 0 ≤ zsg k := by cases k <;> decide
theorem zsg_hi (k : Bool) : zsg k ≤ 1 := by cases k <;> decide
section
variable {X : Cx}
theorem call_intN : CallR X (.type "int") rInt := call_int1
theorem call_lenN : CallR X (.builtin "len") (rLenN X.K) := call_len_seq
theorem call_absN : CallR X (.builtin "abs") rAbs := call_abs
theorem call_min2N (hc : X.calm = true) : CallR X (.builtin "min") rMin2 := call_min2 hc
theorem call_max2N (hc : X.calm = true) : CallR X (.builtin "max") rMax2 := call_max2 hc
end
section
variable {σ : St} {H : Hp} {Q : VK} {D : Ends} {K : PySem.W.Frag}
theorem g_intI {i : Int} (q : Q (.int i) H) : rInt [.int i] H Q := .inl ⟨i, rfl, q⟩
theorem g_intB {k : Bool} (q : Q (.int (zsg k)) H) : rInt [.bl k] H Q := .inr ⟨k, rfl, q⟩
theorem g_lenL {p : Addr} {xs : List V} (h : H p = some (.lst xs)) (q : Q (.int xs.length) H) : rLenN K [.ref p] H Q := ⟨p, xs, rfl, .inl (SqL.of h), q⟩
theorem g_lenT {p : Addr} {xs : List V} (h : H p = some (.tup xs)) (q : Q (.int xs.length) H) : rLenN K [.ref p] H Q := ⟨p, xs, rfl, .inr (SqT.of h), q⟩
theorem g_abs {i : Int} (q : Q (.int (if i < 0 then -i else i)) H) : rAbs [.int i] H Q := ⟨i, rfl, q⟩
theorem g_min2 {i j : Int} (q : Q (.int (if j < i then j else i)) H) : rMin2 [.int i, .int j] H Q := ⟨i, j, rfl, q⟩
theorem g_max2 {i j : Int} (q : Q (.int (if j > i then j else i)) H) : rMax2 [.int i, .int j] H Q := ⟨i, j, rfl, q⟩
theorem g_mod {g : Int → Int → V} {i j : Int} (hc : 0 < j) (q : Q (g i j) H) : rI (fun _ j => 0 < j) g (.int i) (.int j) H Q := ⟨i, j, rfl, rfl, hc, q⟩
theorem g_div {g : Int → Int → V} {i j : Int} (h1 : 0 < j) (h2 : j < 1073741824) (q : Q (g i j) H) : rI CDiv g (.int i) (.int j) H Q := ⟨i, j, rfl, rfl, ⟨h1, h2⟩, q⟩
theorem g_pow {g : Int → Int → V} {i j : Int} (hc : CPow i j) (q : Q (g i j) H) : rI CPow g (.int i) (.int j) H Q := ⟨i, j, rfl, rfl, hc, q⟩
theorem g_isi {x : V} {T : String} {t : String} {b : Bool} (ty : TyX K H x (.type t)) (h : kitB t T = some b) (q : Q (.bl b) H) : rIsi K [x, .ty T] H Q := ⟨x, .ty T, .type t, .type T, b, rfl, .ty T, ty, kit_ty h, q⟩
theorem g_po {te : TE} {q : Option Int → Hp → Prop} (h : te σ H fun x H1 => ∃ i, x = .int i ∧ q (some i) H1) : tPart te σ H q := h
theorem g_pon {q : Option Int → Hp → Prop} (h : q none H) : tNoPart σ H q := h
theorem g_int1 {i : Int} {q : Int → Prop} (h : q i) : ∃ k, V.int i = .int k ∧ q k := ⟨i, rfl, h⟩
end
/-! ### rules with the written part told -/
section
variable {X : Cx}
theorem ix_tupK (K : PySem.W.Frag) (h : X.K = K := by rfl) : IxR X (rIxT K) := by subst h; exact ix_tup
theorem ix_listK (K : PySem.W.Frag) (h : X.K = K := by rfl) : IxR X (rIxL K) := by subst h; exact ix_list
theorem sl_listK (K : PySem.W.Frag) (h : X.K = K := by rfl) : SlR X (rSlL K) := by subst h; exact sl_list
theorem call_lenK (K : PySem.W.Frag) (h : X.K = K := by rfl) : CallR X (.builtin "len") (rLenN K) := by subst h; exact call_lenN
theorem call_isiK0 (K : PySem.W.Frag) (h : X.K = K := by rfl) : CallR X (.builtin "isinstance") (rIsi K) := by subst h; exact call_isi
theorem op_eqDK (K : PySem.W.Frag) (hu : X.A.units + 64 < cLine) (h : X.K = K := by rfl) : OpR X (compareOp .Eq) (rEqD K) := by subst h; exact op_eqD hu
theorem op_neDK (K : PySem.W.Frag) (hu : X.A.units + 64 < cLine) (h : X.K = K := by rfl) : OpR X (compareOp .NotEq) (rNeD K) := by subst h; exact op_neD hu
theorem op_inK (K : PySem.W.Frag) (h : X.K = K := by rfl) : OpR X (compareOp .In) (rIn K false) := by subst h; exact op_in_seq
theorem op_notInK (K : PySem.W.Frag) (h : X.K = K := by rfl) : OpR X (compareOp .NotIn) (rIn K true) := by subst h; exact op_notIn_seq
theorem cr_allK (K : PySem.W.Frag) (hc : X.calm = true) (h : X.K = K := by rfl) : CallR X (.builtin "all") (rAll K) := by subst h; exact cr_all hc
theorem cr_anyK (K : PySem.W.Frag) (hc : X.calm = true) (h : X.K = K := by rfl) : CallR X (.builtin "any") (rAny K) := by subst h; exact cr_any hc
theorem cr_sumK (K : PySem.W.Frag) (hc : X.calm = true) (h : X.K = K := by rfl) : CallR X (.builtin "sum") (rSum K) := by subst h; exact cr_sum hc
theorem pi_listK {tg l : Expr} {tl : TE} (K : PySem.W.Frag) (hl : PE X l tl) (h : X.K = K := by rfl) : PI X tg l (iList K tl) := by subst h; exact pi_list hl
theorem pi_tupK {tg l : Expr} {tl : TE} (K : PySem.W.Frag) (hl : PE X l tl) (h : X.K = K := by rfl) : PI X tg l (iTup K tl) := by subst h; exact pi_tup hl
end
/-! ### loops -/
abbrev LoopP (g : TG) (tb : TS) (D : Ends) (σ : St) (J : It) (H1 : Hp) : Prop := ∃ W : Nat → Nat → St → Hp → Prop, (∃ m, W 0 m σ H1) ∧ ∀ i m σ H, W i m σ H →
  (J.stop i H ∧ D.nx σ H) ∨ (J.go i H ∧ ∃ N : St → Hp → Prop, (∀ σ' H', N σ' H' → ∃ m', m' < m ∧ W (i + 1) m' σ' H') ∧ ∀ x H', J.yld i H x H' → g x σ H' fun σ2 H2 => tb { D with nx := N, ct := N, bk := D.nx } σ2 H2)
abbrev LcP (g : TG) (tt : TT) (te : TE) (vs : List Nat) (σ : St) (Q : VK) (J : It) (H1 : Hp) : Prop := ∀ D, H1 D = none → ∃ W : Nat → Nat → Hp → Prop, (∃ m, W 0 m (upd H1 D (.lst []))) ∧ ∀ i m H, W i m H →
  (J.stop i H ∧ Q (.ref D) H) ∨ (J.go i H ∧ ∃ Nx : Hp → Prop, (∀ H', Nx H' → ∃ m', m' < m ∧ W (i + 1) m' H') ∧ ∀ x H', J.yld i H x H' → g x (wipe σ vs) H' fun σ2 H2 => wipe σ2 vs = wipe σ vs ∧ tt σ2 H2 fun b H3 =>
    if b = true then te σ2 H3 fun y H4 => ∃ acc, H4 D = some (.lst acc) ∧ acc.length < sizeLine ∧ Nx (upd H4 D (.lst (acc ++ [y]))) else Nx H3)
section
variable {σ : St} {H : Hp} {Q : VK} {D : Ends} {K : PySem.W.Frag}
theorem g_for {wi : TI} {g : TG} {tb : TS} (h : wi σ H (LoopP g tb D σ)) : tFor wi g tb D σ H := h
theorem g_lc {wi : TI} {g : TG} {tt : TT} {te : TE} {vs : List Nat} (h : wi σ H (LcP g tt te vs σ Q)) : tLc wi g tt te vs σ H Q := h
theorem g_rng1 {ta : TA} {R : It → Hp → Prop} (h : ta σ H fun vs H1 => ∃ j : Int, vs = [.int j] ∧ -(2 ^ 62) ≤ j ∧ j < 2 ^ 62 ∧ R (Itr 0 j.toNat) H1) : iRng1 ta σ H R := h
theorem g_rng2 {ta : TA} {R : It → Hp → Prop} (h : ta σ H fun vs H1 => ∃ i j : Int, vs = [.int i, .int j] ∧ (-(2 ^ 62) ≤ i ∧ i < 2 ^ 62 ∧ -(2 ^ 62) ≤ j ∧ j < 2 ^ 62) ∧ R (Itr i (j - i).toNat) H1) : iRng2 ta σ H R := h
theorem g_ilist {tl : TE} {R : It → Hp → Prop} (h : tl σ H fun x H1 => ∃ a, x = .ref a ∧ (∃ xs, SqL K H1 a xs) ∧ R (Itl K a) H1) : iList K tl σ H R := h
theorem g_itup {tl : TE} {R : It → Hp → Prop} (h : tl σ H fun x H1 => ∃ a, x = .ref a ∧ (∃ xs, SqT K H1 a xs) ∧ R (Itt K a) H1) : iTup K tl σ H R := h
theorem g_ikeys {td : TE} {R : It → Hp → Prop} (h : td σ H fun x H1 => ∃ d o, x = .ref d ∧ ((∃ kvs, H1 d = some (.frz o (.dK kvs)) ∧ R (Itk d o kvs) H1) ∨ ∃ kvs, H1 d = some (.frz o (.dT kvs)) ∧ R (Itkt d o kvs) H1)) : iKeys td σ H R := h
end
/-- over the keys of a locked dict of tuples -/
theorem lc_keysT {d : Addr} {o : Obj} {kvs : List (List Key × V)} {g : TG} {tt : TT} {te : TE} {vs : List Nat} {σ : St} {H1 : Hp} {D : Addr} {Qd : Hp → Prop} (Pv : Nat → Hp → Prop) (h0 : Pv 0 (upd H1 D (.lst []))) (hl : ∀ i H, i ≤ kvs.length → Pv i H → H d = some (.frz o (.dT kvs)))
    (hs : ∀ i k v q H, kvs[i]? = some (k, v) → H q = some (.tup (k.map kV)) → Pv i H → g (.ref q) (wipe σ vs) H fun σ2 H2 => wipe σ2 vs = wipe σ vs ∧ tt σ2 H2 fun b H3 =>
      if b = true then te σ2 H3 fun y H4 => ∃ acc, H4 D = some (.lst acc) ∧ acc.length < sizeLine ∧ Pv (i + 1) (upd H4 D (.lst (acc ++ [y]))) else Pv (i + 1) H3) (hd : ∀ H, Pv kvs.length H → Qd H) :
    ∃ W : Nat → Nat → Hp → Prop, (∃ m, W 0 m (upd H1 D (.lst []))) ∧ ∀ i m H, W i m H →
      ((Itkt d o kvs).stop i H ∧ Qd H) ∨ ((Itkt d o kvs).go i H ∧ ∃ Nx : Hp → Prop, (∀ H', Nx H' → ∃ m', m' < m ∧ W (i + 1) m' H') ∧ ∀ x H', (Itkt d o kvs).yld i H x H' → g x (wipe σ vs) H' fun σ2 H2 => wipe σ2 vs = wipe σ vs ∧ tt σ2 H2 fun b H3 =>
        if b = true then te σ2 H3 fun y H4 => ∃ acc, H4 D = some (.lst acc) ∧ acc.length < sizeLine ∧ Nx (upd H4 D (.lst (acc ++ [y]))) else Nx H3) := by
  refine ⟨fun i m H => m + i = kvs.length ∧ Pv i H, ⟨kvs.length, rfl, h0⟩, fun i m H hW => ?_⟩
  obtain ⟨em, p⟩ := hW
  have hd2 := hl i H (by omega) p
  by_cases hi : i < kvs.length
  · refine .inr ⟨⟨hd2, hi⟩, Pv (i + 1), fun H' p' => ⟨m - 1, by omega, by omega, p'⟩, fun x H' hy => ?_⟩
    obtain ⟨rfl, k, v, q, e1, rfl, e2⟩ := hy
    exact hs i k v q _ e1 e2 p
  · have e : i = kvs.length := by omega
    subst e
    exact .inl ⟨⟨hd2, Nat.le_refl _⟩, hd H p⟩
theorem mulL {i j : Int} (h1 : -1000000000000000000 ≤ i) (h2 : i ≤ 1000000000000000000) : CMul i j := .inl ⟨by omega, by omega⟩
theorem mulR {i j : Int} (h1 : -1000000000000000000 ≤ j) (h2 : j ≤ 1000000000000000000) : CMul i j := .inr ⟨by omega, by omega⟩
theorem len_le {n : Nat} (h : n ≤ 1000000) : n ≤ sizeLine := Nat.le_trans h (by decide)
theorem len_lt {n : Nat} (h : n < 1000000) : n < sizeLine := Nat.lt_of_lt_of_le h (by decide)
theorem pow_ok {i : Int} {j : Int} (h1 : 0 ≤ i) (h2 : i < 9223372036854775808) (h3 : 0 ≤ j) (h4 : j ≤ 1000000) : CPow i j := ⟨h3, h4, by omega⟩
/-! ### great numbers -/
def CMulA (i j : Int) : Prop := CMul i j ∨ CMulW i j
theorem CMulA.ok {i j : Int} (h : CMulA i j) : IntMulOk i j := h.elim CMul.ok CMulW.ok
def CDivA (_ j : Int) : Prop := j ≠ 0 ∧ j.natAbs.log2 < 9000
def CPowA (i j : Int) : Prop := 0 ≤ j ∧ (Builtin.Int.intBits i : Int) * j ≤ 2 ^ 27
def rMax3 : List V → Hp → VK → Prop := fun xs H Q => ∃ i j k, xs = [.int i, .int j, .int k] ∧ Q (.int (if j > i then (if k > j then k else j) else (if k > i then k else i))) H
section
variable {X : Cx}
theorem op_mulA : OpR X (binaryOp .Mult) (rI CMulA fun i j => .int (i * j)) := opI fun _ _ _ _ _ _ _ hc q => mul_int q hc.ok
theorem op_fdivA : OpR X (binaryOp .FloorDiv) (rI CDivA fun i j => .int (i.fdiv j)) := opI fun _ _ _ _ _ _ _ hc q => floordiv_int hc.1 q (.inl (PyProof.noPylong_of_log2 hc.2))
theorem op_powA : OpR X (binaryOp .Pow) (rI CPowA fun i j => .int (i ^ j.toNat)) := opI fun _ _ _ _ _ _ _ hc q => pow_int hc.1 hc.2 q
theorem call_max3N (hc : X.calm = true) : CallR X (.builtin "max") rMax3 := by
  intro pins s σ H xs us Q I r h
  obtain ⟨i, j, k, rfl, q⟩ := h
  obtain ⟨u1, u2, u3, rfl, ⟨t1, rfl⟩, ⟨t2, rfl⟩, ⟨t3, rfl⟩⟩ : ∃ u1 u2 u3, us = [u1, u2, u3] ∧ RelV (.int i) u1 ∧ RelV (.int j) u2 ∧ RelV (.int k) u3 := by
    cases r with
    | cons a r =>
      cases r with
      | cons b r =>
        cases r with
        | cons c r =>
          cases r
          exact ⟨_, _, _, rfl, a, b, c⟩
  refine max_three_ints (I.ok.hd hc) fun h' tk hk => ?_
  refine ⟨_, H, I.kept hk, ?_, q⟩
  by_cases h1 : j > i <;> by_cases h2 : k > j <;> by_cases h3 : k > i <;> simp only [h1, h2, h3, if_true, if_false] <;> exact ⟨_, rfl⟩
end
section
variable {H : Hp} {Q : VK}
theorem g_mulA {g : Int → Int → V} {i j : Int} (hc : CMulA i j) (q : Q (g i j) H) : rI CMulA g (.int i) (.int j) H Q := ⟨i, j, rfl, rfl, hc, q⟩
theorem g_divA {g : Int → Int → V} {i j : Int} (hc : CDivA i j) (q : Q (g i j) H) : rI CDivA g (.int i) (.int j) H Q := ⟨i, j, rfl, rfl, hc, q⟩
theorem g_powA {g : Int → Int → V} {i j : Int} (hc : CPowA i j) (q : Q (g i j) H) : rI CPowA g (.int i) (.int j) H Q := ⟨i, j, rfl, rfl, hc, q⟩
theorem g_max3 {i j k : Int} (q : Q (.int (if j > i then (if k > j then k else j) else (if k > i then k else i))) H) : rMax3 [.int i, .int j, .int k] H Q := ⟨i, j, k, rfl, q⟩
end
theorem mulW {i j : Int} (h1 : i.natAbs < 2 ^ 400) (h2 : j.natAbs < 2 ^ 400) : CMulA i j := .inr (wide_mul h1 h2 (by decide) (by decide) (by decide))
theorem divW {i j : Int} (h0 : j ≠ 0) (h : j.natAbs < 2 ^ 4000) : CDivA i j := ⟨h0, Nat.lt_of_lt_of_le (PySem.Flt.log2_lt_of (by decide) h) (by decide)⟩
theorem divB {i j : Int} (h0 : 0 < j) (h : j < 1267650600228229401496703205376) : CDivA i j := by
  refine divW (by omega) (Nat.lt_of_lt_of_le (m := 2 ^ 100) ?_ (Nat.pow_le_pow_right (by decide) (by decide)))
  have e : (2 : Nat) ^ 100 = 1267650600228229401496703205376 := by decide
  rw [e]
  omega
theorem powW {i : Int} (h : i.natAbs < 2 ^ 400) : CPowA i 2 := by
  refine ⟨by decide, ?_⟩
  have b : Builtin.Int.intBits i ≤ i.natAbs.log2 + 1 := by
    unfold Builtin.Int.intBits
    split <;> omega
  have c : i.natAbs.log2 < 400 := PySem.Flt.log2_lt_of (by decide) h
  have e : (2 : Int) ^ 27 = 134217728 := by decide
  rw [e]
  omega
theorem powS {i j : Int} (h0 : 0 ≤ j) (h1 : j ≤ 1000) (h : i.natAbs < 2 ^ 64) : CPowA i j := by
  refine ⟨h0, ?_⟩
  have b : Builtin.Int.intBits i ≤ i.natAbs.log2 + 1 := by
    unfold Builtin.Int.intBits
    split <;> omega
  have c : i.natAbs.log2 < 64 := PySem.Flt.log2_lt_of (by decide) h
  have e : (2 : Int) ^ 27 = 134217728 := by decide
  rw [e]
  have h2 : (Builtin.Int.intBits i : Int) * j ≤ 64 * 1000 := Int.mul_le_mul (by omega) h1 h0 (by decide)
  omega
/-! ### heaps: the tuples stay -/
def TK (H H' : Hp) : Prop := ∀ p xs, H p = some (.tup xs) → H' p = some (.tup xs)
theorem TK.refl (H : Hp) : TK H H := fun _ _ h => h
theorem TK.trans {H H1 H2 : Hp} (a : TK H H1) (b : TK H1 H2) : TK H H2 := fun p xs h => b p xs (a p xs h)
theorem TK.new {H : Hp} {p : Addr} {o : HO} (n : H p = none) : TK H (upd H p o) := fun q xs h => by
  rw [upd_ne (ne_of_none h n)]
  exact h
theorem TK.lst {H : Hp} {p : Addr} {l : List V} {o : HO} (n : H p = some (.lst l)) : TK H (upd H p o) := fun q xs h => by
  rw [upd_ne (ne_of h n (fun z => by cases z))]
  exact h
theorem TK.same {H H' : Hp} (s : Same H H') : TK H H' := fun p xs h => s p _ h
theorem same_new {H : Hp} {p : Addr} {o : HO} (h : H p = none) : Same H (upd H p o) := fun b x e => by
  rw [upd_ne (ne_of_none e h)]
  exact e
/-- v is the site (x, y) -/
def IsS (H : Hp) (v : V) (x y : Int) : Prop := ∃ p, v = .ref p ∧ H p = some (.tup [.int x, .int y])
theorem IsS.mono {H H' : Hp} {v : V} {x y : Int} (k : TK H H') (h : IsS H v x y) : IsS H' v x y := by
  obtain ⟨p, e, h⟩ := h
  exact ⟨p, e, k p _ h⟩
theorem all_ints {ns : List Int} {z : V} (h : z ∈ ns.map V.int) : ∃ n : Int, z = .int n := by
  obtain ⟨n, _, e⟩ := List.mem_map.mp h
  exact ⟨n, e.symm⟩
theorem cut_mem {xs : List V} {lo hi : Option Int} {z : V} (h : z ∈ cutV xs lo hi) : z ∈ xs := List.mem_of_mem_drop (List.mem_of_mem_take h)
theorem IsS.mk {H : Hp} {p : Addr} {x y : Int} : IsS (upd H p (.tup [.int x, .int y])) (.ref p) x y := ⟨p, rfl, upd_same⟩
end L2
open PySem PySem.Spec PyProof.Rows L2
local macro_rules | `(tactic| walk_at "mul") => `(tactic| first | exact mulL (by omega) (by omega) | exact mulR (by omega) (by omega) | exact mulL (by decide) (by decide) | exact mulR (by decide) (by decide))
local macro_rules | `(tactic| walk_at "r1") => `(tactic| first
  | with_reducible refine g_seq ?_ | with_reducible refine g_next ?_ | with_reducible refine g_ret ?_ | with_reducible refine g_asg ?_ | with_reducible refine g_name ?_ | with_reducible refine g_drop ?_ | with_reducible refine g_ifS ?_ | with_reducible refine g_par ?_ | with_reducible refine g_par3 ?_
  | ((with_reducible refine g_var (v := ?v) ?h ?_); (case h => exact rfl))
  | with_reducible refine g_c ?_ | with_reducible refine g_op ?_ | with_reducible refine g_un ?_ | with_reducible refine g_I0 ?_ | with_reducible refine g_U ?_
  | with_reducible refine g_eqI ?_ | with_reducible refine g_neI ?_ | with_reducible refine g_eqB ?_ | with_reducible refine g_neB ?_
  | with_reducible refine g_cons ?_ | with_reducible refine g_nil ?_ | with_reducible refine g_tup ?_ | with_reducible refine g_lst ?_ | with_reducible refine g_cb ?_ | with_reducible refine g_call ?_ | with_reducible refine g_callN ?_
  | with_reducible refine g_yes ?_ | with_reducible refine g_test ?_ | with_reducible refine g_tb ?_ | with_reducible refine g_bl ?_ | with_reducible refine g_and ?_ | with_reducible refine g_or ?_ | with_reducible refine g_not ?_ | with_reducible refine g_if ?_
  | with_reducible refine g_chain ?_ | with_reducible refine g_andV ?_ | with_reducible refine g_orV ?_ | with_reducible refine g_notV ?_ | with_reducible refine g_sub ?_ | with_reducible refine g_sl ?_ | with_reducible refine g_consG ?_ | with_reducible refine g_nilG ?_
  | with_reducible refine g_for ?_ | with_reducible refine g_lc ?_ | with_reducible refine g_rng1 ?_ | with_reducible refine g_rng2 ?_ | with_reducible refine g_ilist ?_ | with_reducible refine g_itup ?_ | with_reducible refine g_ikeys ?_ | with_reducible refine g_intI ?_ | with_reducible refine g_intB ?_ | with_reducible refine g_abs ?_ | with_reducible refine g_min2 ?_ | with_reducible refine g_max2 ?_ | with_reducible refine g_po ?_ | with_reducible refine g_pon ?_ | with_reducible refine g_int1 ?_
  | ((with_reducible refine g_lenL (xs := ?xs) ?h ?_); (case h => assumption))
  | ((with_reducible refine g_lenT (xs := ?xs) ?h ?_); (case h => assumption))
  | ((with_reducible refine g_mod ?h ?_); (case h => first | decide | omega))
  | ((with_reducible refine g_div ?h ?h2 ?_); (case h => first | decide | omega); (case h2 => first | decide | omega))
  | ((with_reducible refine g_pow ?h ?_); (case h => first | exact ⟨by decide, by decide, by decide⟩ | exact pow_ok (by omega) (by omega) (by omega) (by omega)))
  | ((with_reducible refine g_tupG (xs := ?xs) ?h ?n ?_); (case h => assumption); (case n => exact rfl))
  | ((with_reducible refine g_unl (xs := ?xs) ?h ?n ?_); (case h => assumption); (case n => exact rfl))
  | ((with_reducible refine g_mul ?h ?_); (case h => walk_at "mul"))
  | ((with_reducible refine g_mulA ?h ?_); (case h => first | exact mulW (by assumption) (by assumption) | exact .inl (by walk_at "mul")))
  | ((with_reducible refine g_divA ?h ?_); (case h => first | exact divW (by assumption) (by assumption) | exact divB (by omega) (by omega) | exact ⟨by decide, by decide⟩))
  | ((with_reducible refine g_powA ?h ?_); (case h => first | exact powW (by assumption) | exact powS (by decide) (by decide) (by decide)))
  | with_reducible refine g_max3 ?_
  | ((with_reducible refine g_ixT (v := ?v) (xs := ?xs) ?h ?a ?_); (case h => assumption); (case a => exact rfl))
  | ((with_reducible refine g_ixL (v := ?v) (xs := ?xs) ?h ?a ?_); (case h => assumption); (case a => exact rfl)))
local macro_rules | `(tactic| walk_at "rd") => `(tactic| repeat walk_at "r1")
local macro_rules | `(tactic| walk_at "nm") => `(tactic| try dsimp only [List.set_cons_zero, List.set_cons_succ])
namespace NC
abbrev P0 : Program := PySem.Challenge.pw_nearcells_k03_whole_lifts_and_nearness
abbrev top (i : Nat) : Stmt := P0.main.body.getD i (.Pass ⟨0, 0, 0, 0⟩)
def mkD (g nm : Str) (i : Nat) : He.DefD := ⟨(g, none), nm, nm, defArgs (top i), defBody (top i), defScope (top i), [], []⟩
abbrev FnP (K : PySem.W.Frag) (x : Str) (st : Stmt) (f : Addr) (fd : FuncData) : Prop := FunD K x x (defArgs st) (defBody st) (defScope st) [] [] f fd
def fns : List He.DefD := [mkD "is_integer" "is_integer" 5,
  mkD "is_between" "is_between" 6,
  mkD "common" "common" 7,
  mkD "reduced" "reduced" 8,
  mkD "sign" "sign" 9,
  mkD "is_site" "is_site" 13,
  mkD "is_place" "is_place" 14,
  mkD "check_site" "check_site" 15,
  mkD "check_place" "check_place" 16,
  mkD "place_of" "place_of" 17,
  mkD "turn" "turn" 19,
  mkD "power" "power" 20,
  mkD "inside" "inside" 21,
  mkD "centre_of" "centre_of" 22,
  mkD "square_of" "square_of" 23,
  mkD "lead" "lead" 24,
  mkD "check_circle" "check_circle" 25,
  mkD "circle" "circle" 26,
  mkD "in_circle" "in_circle" 27,
  mkD "square" "square" 28,
  mkD "nearer" "nearer" 29,
  mkD "lift_side" "lift_side" 30,
  mkD "_law_source_of" "_law_source_of" 32,
  mkD "_law_next" "_law_next" 33,
  mkD "_law_one" "_law_one" 34,
  mkD "_law_cell_at" "_law_cell_at" 35,
  mkD "_law_sites" "_law_sites" 36,
  mkD "_law_square" "_law_square" 37,
  mkD "_law_turn" "_law_turn" 38,
  mkD "_law_common" "_law_common" 39,
  mkD "_law_place" "_law_place" 40,
  mkD "_law_centre" "_law_centre" 41,
  mkD "_law_lift" "_law_lift" 42,
  mkD "_law_plane_side" "_law_plane_side" 43,
  mkD "_law_place_of" "_law_place_of" 44,
  mkD "_law_near_right" "_law_near_right" 45,
  mkD "law" "law" 46]
def fas : List He.Fa := [.glo "is_integer", .glo "is_between", .glo "common", .glo "reduced", .glo "sign", .glo "is_site", .glo "is_place", .glo "check_site", .glo "check_place", .glo "place_of", .glo "turn", .glo "power", .glo "inside", .glo "centre_of", .glo "square_of", .glo "lead", .glo "check_circle", .glo "circle", .glo "in_circle", .glo "square", .glo "nearer", .glo "lift_side", .glo "_law_source_of", .glo "_law_next", .glo "_law_one", .glo "_law_cell_at", .glo "_law_sites", .glo "_law_square", .glo "_law_turn", .glo "_law_common", .glo "_law_place", .glo "_law_centre", .glo "_law_lift", .glo "_law_plane_side", .glo "_law_place_of", .glo "_law_near_right", .glo "law", .int "MOST_COORDINATE" 1000000, .int "MOST_PLACE" 1000000000000000000000000000000, .free "isinstance", .free "int", .free "bool", .free "tuple", .free "len", .free "all", .free "range", .free "max", .free "abs"]
structure Tops (K : PySem.W.Frag) (mg : Str → Option Value) where
  fd_is_integer : FuncData
  F_is_integer : FnP K "is_integer" (top 5) (He.ga K "is_integer") fd_is_integer
  g_is_integer : mg "is_integer" = some (.ref (He.ga K "is_integer"))
  fd_is_between : FuncData
  F_is_between : FnP K "is_between" (top 6) (He.ga K "is_between") fd_is_between
  g_is_between : mg "is_between" = some (.ref (He.ga K "is_between"))
  fd_common : FuncData
  F_common : FnP K "common" (top 7) (He.ga K "common") fd_common
  g_common : mg "common" = some (.ref (He.ga K "common"))
  fd_reduced : FuncData
  F_reduced : FnP K "reduced" (top 8) (He.ga K "reduced") fd_reduced
  g_reduced : mg "reduced" = some (.ref (He.ga K "reduced"))
  fd_sign : FuncData
  F_sign : FnP K "sign" (top 9) (He.ga K "sign") fd_sign
  g_sign : mg "sign" = some (.ref (He.ga K "sign"))
  fd_is_site : FuncData
  F_is_site : FnP K "is_site" (top 13) (He.ga K "is_site") fd_is_site
  g_is_site : mg "is_site" = some (.ref (He.ga K "is_site"))
  fd_is_place : FuncData
  F_is_place : FnP K "is_place" (top 14) (He.ga K "is_place") fd_is_place
  g_is_place : mg "is_place" = some (.ref (He.ga K "is_place"))
  fd_check_site : FuncData
  F_check_site : FnP K "check_site" (top 15) (He.ga K "check_site") fd_check_site
  g_check_site : mg "check_site" = some (.ref (He.ga K "check_site"))
  fd_check_place : FuncData
  F_check_place : FnP K "check_place" (top 16) (He.ga K "check_place") fd_check_place
  g_check_place : mg "check_place" = some (.ref (He.ga K "check_place"))
  fd_place_of : FuncData
  F_place_of : FnP K "place_of" (top 17) (He.ga K "place_of") fd_place_of
  g_place_of : mg "place_of" = some (.ref (He.ga K "place_of"))
  fd_turn : FuncData
  F_turn : FnP K "turn" (top 19) (He.ga K "turn") fd_turn
  g_turn : mg "turn" = some (.ref (He.ga K "turn"))
  fd_power : FuncData
  F_power : FnP K "power" (top 20) (He.ga K "power") fd_power
  g_power : mg "power" = some (.ref (He.ga K "power"))
  fd_inside : FuncData
  F_inside : FnP K "inside" (top 21) (He.ga K "inside") fd_inside
  g_inside : mg "inside" = some (.ref (He.ga K "inside"))
  fd_centre_of : FuncData
  F_centre_of : FnP K "centre_of" (top 22) (He.ga K "centre_of") fd_centre_of
  g_centre_of : mg "centre_of" = some (.ref (He.ga K "centre_of"))
  fd_square_of : FuncData
  F_square_of : FnP K "square_of" (top 23) (He.ga K "square_of") fd_square_of
  g_square_of : mg "square_of" = some (.ref (He.ga K "square_of"))
  fd_lead : FuncData
  F_lead : FnP K "lead" (top 24) (He.ga K "lead") fd_lead
  g_lead : mg "lead" = some (.ref (He.ga K "lead"))
  fd_check_circle : FuncData
  F_check_circle : FnP K "check_circle" (top 25) (He.ga K "check_circle") fd_check_circle
  g_check_circle : mg "check_circle" = some (.ref (He.ga K "check_circle"))
  fd_circle : FuncData
  F_circle : FnP K "circle" (top 26) (He.ga K "circle") fd_circle
  g_circle : mg "circle" = some (.ref (He.ga K "circle"))
  fd_in_circle : FuncData
  F_in_circle : FnP K "in_circle" (top 27) (He.ga K "in_circle") fd_in_circle
  g_in_circle : mg "in_circle" = some (.ref (He.ga K "in_circle"))
  fd_square : FuncData
  F_square : FnP K "square" (top 28) (He.ga K "square") fd_square
  g_square : mg "square" = some (.ref (He.ga K "square"))
  fd_nearer : FuncData
  F_nearer : FnP K "nearer" (top 29) (He.ga K "nearer") fd_nearer
  g_nearer : mg "nearer" = some (.ref (He.ga K "nearer"))
  fd_lift_side : FuncData
  F_lift_side : FnP K "lift_side" (top 30) (He.ga K "lift_side") fd_lift_side
  g_lift_side : mg "lift_side" = some (.ref (He.ga K "lift_side"))
  fd_law_source_of : FuncData
  F_law_source_of : FnP K "_law_source_of" (top 32) (He.ga K "_law_source_of") fd_law_source_of
  g_law_source_of : mg "_law_source_of" = some (.ref (He.ga K "_law_source_of"))
  fd_law_next : FuncData
  F_law_next : FnP K "_law_next" (top 33) (He.ga K "_law_next") fd_law_next
  g_law_next : mg "_law_next" = some (.ref (He.ga K "_law_next"))
  fd_law_one : FuncData
  F_law_one : FnP K "_law_one" (top 34) (He.ga K "_law_one") fd_law_one
  g_law_one : mg "_law_one" = some (.ref (He.ga K "_law_one"))
  fd_law_cell_at : FuncData
  F_law_cell_at : FnP K "_law_cell_at" (top 35) (He.ga K "_law_cell_at") fd_law_cell_at
  g_law_cell_at : mg "_law_cell_at" = some (.ref (He.ga K "_law_cell_at"))
  fd_law_sites : FuncData
  F_law_sites : FnP K "_law_sites" (top 36) (He.ga K "_law_sites") fd_law_sites
  g_law_sites : mg "_law_sites" = some (.ref (He.ga K "_law_sites"))
  fd_law_square : FuncData
  F_law_square : FnP K "_law_square" (top 37) (He.ga K "_law_square") fd_law_square
  g_law_square : mg "_law_square" = some (.ref (He.ga K "_law_square"))
  fd_law_turn : FuncData
  F_law_turn : FnP K "_law_turn" (top 38) (He.ga K "_law_turn") fd_law_turn
  g_law_turn : mg "_law_turn" = some (.ref (He.ga K "_law_turn"))
  fd_law_common : FuncData
  F_law_common : FnP K "_law_common" (top 39) (He.ga K "_law_common") fd_law_common
  g_law_common : mg "_law_common" = some (.ref (He.ga K "_law_common"))
  fd_law_place : FuncData
  F_law_place : FnP K "_law_place" (top 40) (He.ga K "_law_place") fd_law_place
  g_law_place : mg "_law_place" = some (.ref (He.ga K "_law_place"))
  fd_law_centre : FuncData
  F_law_centre : FnP K "_law_centre" (top 41) (He.ga K "_law_centre") fd_law_centre
  g_law_centre : mg "_law_centre" = some (.ref (He.ga K "_law_centre"))
  fd_law_lift : FuncData
  F_law_lift : FnP K "_law_lift" (top 42) (He.ga K "_law_lift") fd_law_lift
  g_law_lift : mg "_law_lift" = some (.ref (He.ga K "_law_lift"))
  fd_law_plane_side : FuncData
  F_law_plane_side : FnP K "_law_plane_side" (top 43) (He.ga K "_law_plane_side") fd_law_plane_side
  g_law_plane_side : mg "_law_plane_side" = some (.ref (He.ga K "_law_plane_side"))
  fd_law_place_of : FuncData
  F_law_place_of : FnP K "_law_place_of" (top 44) (He.ga K "_law_place_of") fd_law_place_of
  g_law_place_of : mg "_law_place_of" = some (.ref (He.ga K "_law_place_of"))
  fd_law_near_right : FuncData
  F_law_near_right : FnP K "_law_near_right" (top 45) (He.ga K "_law_near_right") fd_law_near_right
  g_law_near_right : mg "_law_near_right" = some (.ref (He.ga K "_law_near_right"))
  fd_law : FuncData
  F_law : FnP K "law" (top 46) (He.ga K "law") fd_law
  g_law : mg "law" = some (.ref (He.ga K "law"))
  t_MOST_COORDINATE : Tok
  c_MOST_COORDINATE : mg "MOST_COORDINATE" = some (.int 1000000 t_MOST_COORDINATE)
  t_MOST_PLACE : Tok
  c_MOST_PLACE : mg "MOST_PLACE" = some (.int 1000000000000000000000000000000 t_MOST_PLACE)
  m_isinstance : mg "isinstance" = none
  m_int : mg "int" = none
  m_bool : mg "bool" = none
  m_tuple : mg "tuple" = none
  m_len : mg "len" = none
  m_all : mg "all" = none
  m_range : mg "range" = none
  m_max : mg "max" = none
  m_abs : mg "abs" = none
theorem tops {K : PySem.W.Frag} {h : Heap} {mg : Str → Option Value} (X : K.In h) (G : h.Ns mainGlobals mg) (c : He.SaysD fas fns K) : Nonempty (Tops K mg) := by
  obtain ⟨fd0, F0⟩ := c.def_ 0 rfl
  obtain ⟨fd1, F1⟩ := c.def_ 1 rfl
  obtain ⟨fd2, F2⟩ := c.def_ 2 rfl
  obtain ⟨fd3, F3⟩ := c.def_ 3 rfl
  obtain ⟨fd4, F4⟩ := c.def_ 4 rfl
  obtain ⟨fd5, F5⟩ := c.def_ 5 rfl
  obtain ⟨fd6, F6⟩ := c.def_ 6 rfl
  obtain ⟨fd7, F7⟩ := c.def_ 7 rfl
  obtain ⟨fd8, F8⟩ := c.def_ 8 rfl
  obtain ⟨fd9, F9⟩ := c.def_ 9 rfl
  obtain ⟨fd10, F10⟩ := c.def_ 10 rfl
  obtain ⟨fd11, F11⟩ := c.def_ 11 rfl
  obtain ⟨fd12, F12⟩ := c.def_ 12 rfl
  obtain ⟨fd13, F13⟩ := c.def_ 13 rfl
  obtain ⟨fd14, F14⟩ := c.def_ 14 rfl
  obtain ⟨fd15, F15⟩ := c.def_ 15 rfl
  obtain ⟨fd16, F16⟩ := c.def_ 16 rfl
  obtain ⟨fd17, F17⟩ := c.def_ 17 rfl
  obtain ⟨fd18, F18⟩ := c.def_ 18 rfl
  obtain ⟨fd19, F19⟩ := c.def_ 19 rfl
  obtain ⟨fd20, F20⟩ := c.def_ 20 rfl
  obtain ⟨fd21, F21⟩ := c.def_ 21 rfl
  obtain ⟨fd22, F22⟩ := c.def_ 22 rfl
  obtain ⟨fd23, F23⟩ := c.def_ 23 rfl
  obtain ⟨fd24, F24⟩ := c.def_ 24 rfl
  obtain ⟨fd25, F25⟩ := c.def_ 25 rfl
  obtain ⟨fd26, F26⟩ := c.def_ 26 rfl
  obtain ⟨fd27, F27⟩ := c.def_ 27 rfl
  obtain ⟨fd28, F28⟩ := c.def_ 28 rfl
  obtain ⟨fd29, F29⟩ := c.def_ 29 rfl
  obtain ⟨fd30, F30⟩ := c.def_ 30 rfl
  obtain ⟨fd31, F31⟩ := c.def_ 31 rfl
  obtain ⟨fd32, F32⟩ := c.def_ 32 rfl
  obtain ⟨fd33, F33⟩ := c.def_ 33 rfl
  obtain ⟨fd34, F34⟩ := c.def_ 34 rfl
  obtain ⟨fd35, F35⟩ := c.def_ 35 rfl
  obtain ⟨fd36, F36⟩ := c.def_ 36 rfl
  obtain ⟨t0, c0⟩ := He.int_ok X G (c.fact 37 rfl)
  obtain ⟨t1, c1⟩ := He.int_ok X G (c.fact 38 rfl)
  exact ⟨{ fd_is_integer := fd0, F_is_integer := F0, g_is_integer := He.glo_ok X G (c.fact 0 rfl), fd_is_between := fd1, F_is_between := F1, g_is_between := He.glo_ok X G (c.fact 1 rfl), fd_common := fd2, F_common := F2, g_common := He.glo_ok X G (c.fact 2 rfl), fd_reduced := fd3, F_reduced := F3, g_reduced := He.glo_ok X G (c.fact 3 rfl), fd_sign := fd4, F_sign := F4, g_sign := He.glo_ok X G (c.fact 4 rfl), fd_is_site := fd5, F_is_site := F5, g_is_site := He.glo_ok X G (c.fact 5 rfl), fd_is_place := fd6, F_is_place := F6, g_is_place := He.glo_ok X G (c.fact 6 rfl), fd_check_site := fd7, F_check_site := F7, g_check_site := He.glo_ok X G (c.fact 7 rfl), fd_check_place := fd8, F_check_place := F8, g_check_place := He.glo_ok X G (c.fact 8 rfl), fd_place_of := fd9, F_place_of := F9, g_place_of := He.glo_ok X G (c.fact 9 rfl), fd_turn := fd10, F_turn := F10, g_turn := He.glo_ok X G (c.fact 10 rfl), fd_power := fd11, F_power := F11, g_power := He.glo_ok X G (c.fact 11 rfl), fd_inside := fd12, F_inside := F12, g_inside := He.glo_ok X G (c.fact 12 rfl), fd_centre_of := fd13, F_centre_of := F13, g_centre_of := He.glo_ok X G (c.fact 13 rfl), fd_square_of := fd14, F_square_of := F14, g_square_of := He.glo_ok X G (c.fact 14 rfl), fd_lead := fd15, F_lead := F15, g_lead := He.glo_ok X G (c.fact 15 rfl), fd_check_circle := fd16, F_check_circle := F16, g_check_circle := He.glo_ok X G (c.fact 16 rfl), fd_circle := fd17, F_circle := F17, g_circle := He.glo_ok X G (c.fact 17 rfl), fd_in_circle := fd18, F_in_circle := F18, g_in_circle := He.glo_ok X G (c.fact 18 rfl), fd_square := fd19, F_square := F19, g_square := He.glo_ok X G (c.fact 19 rfl), fd_nearer := fd20, F_nearer := F20, g_nearer := He.glo_ok X G (c.fact 20 rfl), fd_lift_side := fd21, F_lift_side := F21, g_lift_side := He.glo_ok X G (c.fact 21 rfl), fd_law_source_of := fd22, F_law_source_of := F22, g_law_source_of := He.glo_ok X G (c.fact 22 rfl), fd_law_next := fd23, F_law_next := F23, g_law_next := He.glo_ok X G (c.fact 23 rfl), fd_law_one := fd24, F_law_one := F24, g_law_one := He.glo_ok X G (c.fact 24 rfl), fd_law_cell_at := fd25, F_law_cell_at := F25, g_law_cell_at := He.glo_ok X G (c.fact 25 rfl), fd_law_sites := fd26, F_law_sites := F26, g_law_sites := He.glo_ok X G (c.fact 26 rfl), fd_law_square := fd27, F_law_square := F27, g_law_square := He.glo_ok X G (c.fact 27 rfl), fd_law_turn := fd28, F_law_turn := F28, g_law_turn := He.glo_ok X G (c.fact 28 rfl), fd_law_common := fd29, F_law_common := F29, g_law_common := He.glo_ok X G (c.fact 29 rfl), fd_law_place := fd30, F_law_place := F30, g_law_place := He.glo_ok X G (c.fact 30 rfl), fd_law_centre := fd31, F_law_centre := F31, g_law_centre := He.glo_ok X G (c.fact 31 rfl), fd_law_lift := fd32, F_law_lift := F32, g_law_lift := He.glo_ok X G (c.fact 32 rfl), fd_law_plane_side := fd33, F_law_plane_side := F33, g_law_plane_side := He.glo_ok X G (c.fact 33 rfl), fd_law_place_of := fd34, F_law_place_of := F34, g_law_place_of := He.glo_ok X G (c.fact 34 rfl), fd_law_near_right := fd35, F_law_near_right := F35, g_law_near_right := He.glo_ok X G (c.fact 35 rfl), fd_law := fd36, F_law := F36, g_law := He.glo_ok X G (c.fact 36 rfl), t_MOST_COORDINATE := t0, c_MOST_COORDINATE := c0, t_MOST_PLACE := t1, c_MOST_PLACE := c1, m_isinstance := He.free_ok X G (c.fact 39 rfl), m_int := He.free_ok X G (c.fact 40 rfl), m_bool := He.free_ok X G (c.fact 41 rfl), m_tuple := He.free_ok X G (c.fact 42 rfl), m_len := He.free_ok X G (c.fact 43 rfl), m_all := He.free_ok X G (c.fact 44 rfl), m_range := He.free_ok X G (c.fact 45 rfl), m_max := He.free_ok X G (c.fact 46 rfl), m_abs := He.free_ok X G (c.fact 47 rfl) }⟩
abbrev R0 : PySem.W.OpenRow := PySem.W.OpenLaw.row PySem.Challenge.rw_nearcells_k03_whole_lifts_and_nearness
abbrev exF : PySem.W.Frag → Bool := fun _ => true
abbrev hk : PySem.W.Hook := He.hookX 4 fas fns [] [] exF
def ob (s : PySem.W.SharedT) : He.AlX := He.obsX 4 fas fns [] [] exF (HandSHeadRun.getT s)
theorem ob_eq (s : PySem.W.SharedT) : ob s = hk.obs s.abs := He.obsX_eq (HandSHeadRun.getT_eq s)
def loose0 : List PySem.Str := ["CellError", "InvalidBound", "NoCircle", "is_integer", "is_between", "common", "reduced", "sign", "MOST_COORDINATE", "MOST_PLACE", "is_site", "is_place", "check_site", "check_place", "place_of", "turn", "power", "inside", "centre_of", "square_of", "lead", "check_circle", "circle", "in_circle", "square", "nearer", "lift_side", "_law_source_of", "_law_next", "_law_one"]
def loose1 : List PySem.Str := ["_law_cell_at", "_law_sites", "_law_square", "_law_turn", "_law_common", "_law_place", "_law_centre", "_law_lift", "_law_plane_side", "_law_place_of", "_law_near_right"]
abbrev loose : List PySem.Str := loose0 ++ loose1
theorem run (w : World) : HandSHeadRun.RunEq R0 (PySem.W.view R0.prog [46]) hk ob 4000 loose w := by
  intro os
  kernel_rfl
abbrev N_is_integer : List Str := ["value"]
abbrev P_is_integer : List Str := ["value"]
theorem sc_is_integer : FnScope N_is_integer P_is_integer (defScope (top 5)) := ⟨rfl, rfl, rfl, by decide +kernel, rfl, by decide +kernel, by decide +kernel⟩
theorem st_is_integer (x0 : V) : L2.start N_is_integer [x0] = [some x0] := rfl
theorem b_is_integer {K : PySem.W.Frag} {mg : Str → Option Value} (T : Tops K mg) : Binds K T.fd_is_integer P_is_integer [] := T.F_is_integer.bindsN fun _ _ _ _ _ _ us hl => match us, hl with | [_], _ => rfl
abbrev N_is_between : List Str := ["value", "low", "high"]
abbrev P_is_between : List Str := ["value", "low", "high"]
theorem sc_is_between : FnScope N_is_between P_is_between (defScope (top 6)) := ⟨rfl, rfl, rfl, by decide +kernel, rfl, by decide +kernel, by decide +kernel⟩
theorem st_is_between (x0 : V) (x1 : V) (x2 : V) : L2.start N_is_between [x0, x1, x2] = [some x0, some x1, some x2] := rfl
theorem b_is_between {K : PySem.W.Frag} {mg : Str → Option Value} (T : Tops K mg) : Binds K T.fd_is_between P_is_between [] := T.F_is_between.bindsN fun _ _ _ _ _ _ us hl => match us, hl with | [_, _, _], _ => rfl
abbrev N_common : List Str := ["a", "b"]
abbrev P_common : List Str := ["a", "b"]
theorem sc_common : FnScope N_common P_common (defScope (top 7)) := ⟨rfl, rfl, rfl, by decide +kernel, rfl, by decide +kernel, by decide +kernel⟩
theorem st_common (x0 : V) (x1 : V) : L2.start N_common [x0, x1] = [some x0, some x1] := rfl
theorem b_common {K : PySem.W.Frag} {mg : Str → Option Value} (T : Tops K mg) : Binds K T.fd_common P_common [] := T.F_common.bindsN fun _ _ _ _ _ _ us hl => match us, hl with | [_, _], _ => rfl
abbrev N_reduced : List Str := ["above", "below", "great"]
abbrev P_reduced : List Str := ["above", "below"]
theorem sc_reduced : FnScope N_reduced P_reduced (defScope (top 8)) := ⟨rfl, rfl, rfl, by decide +kernel, rfl, by decide +kernel, by decide +kernel⟩
theorem st_reduced (x0 : V) (x1 : V) : L2.start N_reduced [x0, x1] = [some x0, some x1, none] := rfl
theorem b_reduced {K : PySem.W.Frag} {mg : Str → Option Value} (T : Tops K mg) : Binds K T.fd_reduced P_reduced [] := T.F_reduced.bindsN fun _ _ _ _ _ _ us hl => match us, hl with | [_, _], _ => rfl
abbrev N_sign : List Str := ["value"]
abbrev P_sign : List Str := ["value"]
theorem sc_sign : FnScope N_sign P_sign (defScope (top 9)) := ⟨rfl, rfl, rfl, by decide +kernel, rfl, by decide +kernel, by decide +kernel⟩
theorem st_sign (x0 : V) : L2.start N_sign [x0] = [some x0] := rfl
theorem b_sign {K : PySem.W.Frag} {mg : Str → Option Value} (T : Tops K mg) : Binds K T.fd_sign P_sign [] := T.F_sign.bindsN fun _ _ _ _ _ _ us hl => match us, hl with | [_], _ => rfl
abbrev N_is_site : List Str := ["value", "one"]
abbrev P_is_site : List Str := ["value"]
theorem sc_is_site : FnScope N_is_site P_is_site (defScope (top 13)) := ⟨rfl, rfl, rfl, by decide +kernel, rfl, by decide +kernel, by decide +kernel⟩
theorem st_is_site (x0 : V) : L2.start N_is_site [x0] = [some x0, none] := rfl
theorem b_is_site {K : PySem.W.Frag} {mg : Str → Option Value} (T : Tops K mg) : Binds K T.fd_is_site P_is_site [] := T.F_is_site.bindsN fun _ _ _ _ _ _ us hl => match us, hl with | [_], _ => rfl
abbrev N_is_place : List Str := ["value", "x", "y", "d", "one"]
abbrev P_is_place : List Str := ["value"]
theorem sc_is_place : FnScope N_is_place P_is_place (defScope (top 14)) := ⟨rfl, rfl, rfl, by decide +kernel, rfl, by decide +kernel, by decide +kernel⟩
theorem st_is_place (x0 : V) : L2.start N_is_place [x0] = [some x0, none, none, none, none] := rfl
theorem b_is_place {K : PySem.W.Frag} {mg : Str → Option Value} (T : Tops K mg) : Binds K T.fd_is_place P_is_place [] := T.F_is_place.bindsN fun _ _ _ _ _ _ us hl => match us, hl with | [_], _ => rfl
abbrev N_check_site : List Str := ["argument", "value"]
abbrev P_check_site : List Str := ["argument", "value"]
theorem sc_check_site : FnScope N_check_site P_check_site (defScope (top 15)) := ⟨rfl, rfl, rfl, by decide +kernel, rfl, by decide +kernel, by decide +kernel⟩
theorem st_check_site (x0 : V) (x1 : V) : L2.start N_check_site [x0, x1] = [some x0, some x1] := rfl
theorem b_check_site {K : PySem.W.Frag} {mg : Str → Option Value} (T : Tops K mg) : Binds K T.fd_check_site P_check_site [] := T.F_check_site.bindsN fun _ _ _ _ _ _ us hl => match us, hl with | [_, _], _ => rfl
abbrev N_check_place : List Str := ["argument", "value"]
abbrev P_check_place : List Str := ["argument", "value"]
theorem sc_check_place : FnScope N_check_place P_check_place (defScope (top 16)) := ⟨rfl, rfl, rfl, by decide +kernel, rfl, by decide +kernel, by decide +kernel⟩
theorem st_check_place (x0 : V) (x1 : V) : L2.start N_check_place [x0, x1] = [some x0, some x1] := rfl
theorem b_check_place {K : PySem.W.Frag} {mg : Str → Option Value} (T : Tops K mg) : Binds K T.fd_check_place P_check_place [] := T.F_check_place.bindsN fun _ _ _ _ _ _ us hl => match us, hl with | [_, _], _ => rfl
abbrev N_place_of : List Str := ["x", "y", "d", "great"]
abbrev P_place_of : List Str := ["x", "y", "d"]
theorem sc_place_of : FnScope N_place_of P_place_of (defScope (top 17)) := ⟨rfl, rfl, rfl, by decide +kernel, rfl, by decide +kernel, by decide +kernel⟩
theorem st_place_of (x0 : V) (x1 : V) (x2 : V) : L2.start N_place_of [x0, x1, x2] = [some x0, some x1, some x2, none] := rfl
theorem b_place_of {K : PySem.W.Frag} {mg : Str → Option Value} (T : Tops K mg) : Binds K T.fd_place_of P_place_of [] := T.F_place_of.bindsN fun _ _ _ _ _ _ us hl => match us, hl with | [_, _, _], _ => rfl
abbrev N_turn : List Str := ["a", "b", "c"]
abbrev P_turn : List Str := ["a", "b", "c"]
theorem sc_turn : FnScope N_turn P_turn (defScope (top 19)) := ⟨rfl, rfl, rfl, by decide +kernel, rfl, by decide +kernel, by decide +kernel⟩
theorem st_turn (x0 : V) (x1 : V) (x2 : V) : L2.start N_turn [x0, x1, x2] = [some x0, some x1, some x2] := rfl
theorem b_turn {K : PySem.W.Frag} {mg : Str → Option Value} (T : Tops K mg) : Binds K T.fd_turn P_turn [] := T.F_turn.bindsN fun _ _ _ _ _ _ us hl => match us, hl with | [_, _, _], _ => rfl
abbrev N_power : List Str := ["a", "b", "c", "d", "rows", "ax", "ay", "bx", "by", "cx", "cy", "lifts", "one", "x", "y"]
abbrev P_power : List Str := ["a", "b", "c", "d"]
theorem sc_power : FnScope N_power P_power (defScope (top 20)) := ⟨rfl, rfl, rfl, by decide +kernel, rfl, by decide +kernel, by decide +kernel⟩
theorem st_power (x0 : V) (x1 : V) (x2 : V) (x3 : V) : L2.start N_power [x0, x1, x2, x3] = [some x0, some x1, some x2, some x3, none, none, none, none, none, none, none, none, none, none, none] := rfl
theorem b_power {K : PySem.W.Frag} {mg : Str → Option Value} (T : Tops K mg) : Binds K T.fd_power P_power [] := T.F_power.bindsN fun _ _ _ _ _ _ us hl => match us, hl with | [_, _, _, _], _ => rfl
abbrev N_inside : List Str := ["a", "b", "c", "d"]
abbrev P_inside : List Str := ["a", "b", "c", "d"]
theorem sc_inside : FnScope N_inside P_inside (defScope (top 21)) := ⟨rfl, rfl, rfl, by decide +kernel, rfl, by decide +kernel, by decide +kernel⟩
theorem st_inside (x0 : V) (x1 : V) (x2 : V) (x3 : V) : L2.start N_inside [x0, x1, x2, x3] = [some x0, some x1, some x2, some x3] := rfl
theorem b_inside {K : PySem.W.Frag} {mg : Str → Option Value} (T : Tops K mg) : Binds K T.fd_inside P_inside [] := T.F_inside.bindsN fun _ _ _ _ _ _ us hl => match us, hl with | [_, _, _, _], _ => rfl
abbrev N_centre_of : List Str := ["a", "b", "c", "area", "bx", "by", "cx", "cy", "first", "second", "x", "y"]
abbrev P_centre_of : List Str := ["a", "b", "c"]
theorem sc_centre_of : FnScope N_centre_of P_centre_of (defScope (top 22)) := ⟨rfl, rfl, rfl, by decide +kernel, rfl, by decide +kernel, by decide +kernel⟩
theorem st_centre_of (x0 : V) (x1 : V) (x2 : V) : L2.start N_centre_of [x0, x1, x2] = [some x0, some x1, some x2, none, none, none, none, none, none, none, none, none] := rfl
theorem b_centre_of {K : PySem.W.Frag} {mg : Str → Option Value} (T : Tops K mg) : Binds K T.fd_centre_of P_centre_of [] := T.F_centre_of.bindsN fun _ _ _ _ _ _ us hl => match us, hl with | [_, _, _], _ => rfl
abbrev N_square_of : List Str := ["place", "site", "x", "y", "d", "u", "v"]
abbrev P_square_of : List Str := ["place", "site"]
theorem sc_square_of : FnScope N_square_of P_square_of (defScope (top 23)) := ⟨rfl, rfl, rfl, by decide +kernel, rfl, by decide +kernel, by decide +kernel⟩
theorem st_square_of (x0 : V) (x1 : V) : L2.start N_square_of [x0, x1] = [some x0, some x1, none, none, none, none, none] := rfl
theorem b_square_of {K : PySem.W.Frag} {mg : Str → Option Value} (T : Tops K mg) : Binds K T.fd_square_of P_square_of [] := T.F_square_of.bindsN fun _ _ _ _ _ _ us hl => match us, hl with | [_, _], _ => rfl
abbrev N_lead : List Str := ["place", "a", "b", "x", "y", "d", "one", "other"]
abbrev P_lead : List Str := ["place", "a", "b"]
theorem sc_lead : FnScope N_lead P_lead (defScope (top 24)) := ⟨rfl, rfl, rfl, by decide +kernel, rfl, by decide +kernel, by decide +kernel⟩
theorem st_lead (x0 : V) (x1 : V) (x2 : V) : L2.start N_lead [x0, x1, x2] = [some x0, some x1, some x2, none, none, none, none, none] := rfl
theorem b_lead {K : PySem.W.Frag} {mg : Str → Option Value} (T : Tops K mg) : Binds K T.fd_lead P_lead [] := T.F_lead.bindsN fun _ _ _ _ _ _ us hl => match us, hl with | [_, _, _], _ => rfl
abbrev N_check_circle : List Str := ["a", "b", "c"]
abbrev P_check_circle : List Str := ["a", "b", "c"]
theorem sc_check_circle : FnScope N_check_circle P_check_circle (defScope (top 25)) := ⟨rfl, rfl, rfl, by decide +kernel, rfl, by decide +kernel, by decide +kernel⟩
theorem st_check_circle (x0 : V) (x1 : V) (x2 : V) : L2.start N_check_circle [x0, x1, x2] = [some x0, some x1, some x2] := rfl
theorem b_check_circle {K : PySem.W.Frag} {mg : Str → Option Value} (T : Tops K mg) : Binds K T.fd_check_circle P_check_circle [] := T.F_check_circle.bindsN fun _ _ _ _ _ _ us hl => match us, hl with | [_, _, _], _ => rfl
abbrev N_circle : List Str := ["a", "b", "c", "centre"]
abbrev P_circle : List Str := ["a", "b", "c"]
theorem sc_circle : FnScope N_circle P_circle (defScope (top 26)) := ⟨rfl, rfl, rfl, by decide +kernel, rfl, by decide +kernel, by decide +kernel⟩
theorem st_circle (x0 : V) (x1 : V) (x2 : V) : L2.start N_circle [x0, x1, x2] = [some x0, some x1, some x2, none] := rfl
theorem b_circle {K : PySem.W.Frag} {mg : Str → Option Value} (T : Tops K mg) : Binds K T.fd_circle P_circle [] := T.F_circle.bindsN fun _ _ _ _ _ _ us hl => match us, hl with | [_, _, _], _ => rfl
abbrev N_in_circle : List Str := ["a", "b", "c", "d"]
abbrev P_in_circle : List Str := ["a", "b", "c", "d"]
theorem sc_in_circle : FnScope N_in_circle P_in_circle (defScope (top 27)) := ⟨rfl, rfl, rfl, by decide +kernel, rfl, by decide +kernel, by decide +kernel⟩
theorem st_in_circle (x0 : V) (x1 : V) (x2 : V) (x3 : V) : L2.start N_in_circle [x0, x1, x2, x3] = [some x0, some x1, some x2, some x3] := rfl
theorem b_in_circle {K : PySem.W.Frag} {mg : Str → Option Value} (T : Tops K mg) : Binds K T.fd_in_circle P_in_circle [] := T.F_in_circle.bindsN fun _ _ _ _ _ _ us hl => match us, hl with | [_, _, _, _], _ => rfl
abbrev N_square : List Str := ["place", "site"]
abbrev P_square : List Str := ["place", "site"]
theorem sc_square : FnScope N_square P_square (defScope (top 28)) := ⟨rfl, rfl, rfl, by decide +kernel, rfl, by decide +kernel, by decide +kernel⟩
theorem st_square (x0 : V) (x1 : V) : L2.start N_square [x0, x1] = [some x0, some x1] := rfl
theorem b_square {K : PySem.W.Frag} {mg : Str → Option Value} (T : Tops K mg) : Binds K T.fd_square P_square [] := T.F_square.bindsN fun _ _ _ _ _ _ us hl => match us, hl with | [_, _], _ => rfl
abbrev N_nearer : List Str := ["place", "a", "b"]
abbrev P_nearer : List Str := ["place", "a", "b"]
theorem sc_nearer : FnScope N_nearer P_nearer (defScope (top 29)) := ⟨rfl, rfl, rfl, by decide +kernel, rfl, by decide +kernel, by decide +kernel⟩
theorem st_nearer (x0 : V) (x1 : V) (x2 : V) : L2.start N_nearer [x0, x1, x2] = [some x0, some x1, some x2] := rfl
theorem b_nearer {K : PySem.W.Frag} {mg : Str → Option Value} (T : Tops K mg) : Binds K T.fd_nearer P_nearer [] := T.F_nearer.bindsN fun _ _ _ _ _ _ us hl => match us, hl with | [_, _, _], _ => rfl
abbrev N_lift_side : List Str := ["a", "b", "c", "d"]
abbrev P_lift_side : List Str := ["a", "b", "c", "d"]
theorem sc_lift_side : FnScope N_lift_side P_lift_side (defScope (top 30)) := ⟨rfl, rfl, rfl, by decide +kernel, rfl, by decide +kernel, by decide +kernel⟩
theorem st_lift_side (x0 : V) (x1 : V) (x2 : V) (x3 : V) : L2.start N_lift_side [x0, x1, x2, x3] = [some x0, some x1, some x2, some x3] := rfl
theorem b_lift_side {K : PySem.W.Frag} {mg : Str → Option Value} (T : Tops K mg) : Binds K T.fd_lift_side P_lift_side [] := T.F_lift_side.bindsN fun _ _ _ _ _ _ us hl => match us, hl with | [_, _, _, _], _ => rfl
abbrev N_law_source_of : List Str := ["_law_number_here"]
abbrev P_law_source_of : List Str := ["_law_number_here"]
theorem sc_law_source_of : FnScope N_law_source_of P_law_source_of (defScope (top 32)) := ⟨rfl, rfl, rfl, by decide +kernel, rfl, by decide +kernel, by decide +kernel⟩
theorem st_law_source_of (x0 : V) : L2.start N_law_source_of [x0] = [some x0] := rfl
theorem b_law_source_of {K : PySem.W.Frag} {mg : Str → Option Value} (T : Tops K mg) : Binds K T.fd_law_source_of P_law_source_of [] := T.F_law_source_of.bindsN fun _ _ _ _ _ _ us hl => match us, hl with | [_], _ => rfl
abbrev N_law_next : List Str := ["_law_source", "_law_many", "_law_found", "_law_prime", "_law_number"]
abbrev P_law_next : List Str := ["_law_source", "_law_many"]
theorem sc_law_next : FnScope N_law_next P_law_next (defScope (top 33)) := ⟨rfl, rfl, rfl, by decide +kernel, rfl, by decide +kernel, by decide +kernel⟩
theorem st_law_next (x0 : V) (x1 : V) : L2.start N_law_next [x0, x1] = [some x0, some x1, none, none, none] := rfl
theorem b_law_next {K : PySem.W.Frag} {mg : Str → Option Value} (T : Tops K mg) : Binds K T.fd_law_next P_law_next [] := T.F_law_next.bindsN fun _ _ _ _ _ _ us hl => match us, hl with | [_, _], _ => rfl
abbrev N_law_one : List Str := ["_law_source", "_law_some"]
abbrev P_law_one : List Str := ["_law_source", "_law_some"]
theorem sc_law_one : FnScope N_law_one P_law_one (defScope (top 34)) := ⟨rfl, rfl, rfl, by decide +kernel, rfl, by decide +kernel, by decide +kernel⟩
theorem st_law_one (x0 : V) (x1 : V) : L2.start N_law_one [x0, x1] = [some x0, some x1] := rfl
theorem b_law_one {K : PySem.W.Frag} {mg : Str → Option Value} (T : Tops K mg) : Binds K T.fd_law_one P_law_one [] := T.F_law_one.bindsN fun _ _ _ _ _ _ us hl => match us, hl with | [_, _], _ => rfl
abbrev N_law_cell_at : List Str := ["_law_script", "_law_index"]
abbrev P_law_cell_at : List Str := ["_law_script", "_law_index"]
theorem sc_law_cell_at : FnScope N_law_cell_at P_law_cell_at (defScope (top 35)) := ⟨rfl, rfl, rfl, by decide +kernel, rfl, by decide +kernel, by decide +kernel⟩
theorem st_law_cell_at (x0 : V) (x1 : V) : L2.start N_law_cell_at [x0, x1] = [some x0, some x1] := rfl
theorem b_law_cell_at {K : PySem.W.Frag} {mg : Str → Option Value} (T : Tops K mg) : Binds K T.fd_law_cell_at P_law_cell_at [] := T.F_law_cell_at.bindsN fun _ _ _ _ _ _ us hl => match us, hl with | [_, _], _ => rfl
abbrev N_law_sites : List Str := ["_law_source", "_law_most", "_law_round_one", "_law_way", "_law_found", "_law_u", "_law_v", "_law_k", "_law_site_here", "_law_x", "_law_y"]
abbrev P_law_sites : List Str := ["_law_source", "_law_most"]
theorem sc_law_sites : FnScope N_law_sites P_law_sites (defScope (top 36)) := ⟨rfl, rfl, rfl, by decide +kernel, rfl, by decide +kernel, by decide +kernel⟩
theorem st_law_sites (x0 : V) (x1 : V) : L2.start N_law_sites [x0, x1] = [some x0, some x1, none, none, none, none, none, none, none, none, none] := rfl
theorem b_law_sites {K : PySem.W.Frag} {mg : Str → Option Value} (T : Tops K mg) : Binds K T.fd_law_sites P_law_sites [] := T.F_law_sites.bindsN fun _ _ _ _ _ _ us hl => match us, hl with | [_, _], _ => rfl
abbrev N_law_square : List Str := ["_law_spot", "_law_site_here"]
abbrev P_law_square : List Str := ["_law_spot", "_law_site_here"]
theorem sc_law_square : FnScope N_law_square P_law_square (defScope (top 37)) := ⟨rfl, rfl, rfl, by decide +kernel, rfl, by decide +kernel, by decide +kernel⟩
theorem st_law_square (x0 : V) (x1 : V) : L2.start N_law_square [x0, x1] = [some x0, some x1] := rfl
theorem b_law_square {K : PySem.W.Frag} {mg : Str → Option Value} (T : Tops K mg) : Binds K T.fd_law_square P_law_square [] := T.F_law_square.bindsN fun _ _ _ _ _ _ us hl => match us, hl with | [_, _], _ => rfl
abbrev N_law_turn : List Str := ["_law_aa", "_law_bb", "_law_cc"]
abbrev P_law_turn : List Str := ["_law_aa", "_law_bb", "_law_cc"]
theorem sc_law_turn : FnScope N_law_turn P_law_turn (defScope (top 38)) := ⟨rfl, rfl, rfl, by decide +kernel, rfl, by decide +kernel, by decide +kernel⟩
theorem st_law_turn (x0 : V) (x1 : V) (x2 : V) : L2.start N_law_turn [x0, x1, x2] = [some x0, some x1, some x2] := rfl
theorem b_law_turn {K : PySem.W.Frag} {mg : Str → Option Value} (T : Tops K mg) : Binds K T.fd_law_turn P_law_turn [] := T.F_law_turn.bindsN fun _ _ _ _ _ _ us hl => match us, hl with | [_, _, _], _ => rfl
abbrev N_law_common : List Str := ["_law_aa", "_law_bb"]
abbrev P_law_common : List Str := ["_law_aa", "_law_bb"]
theorem sc_law_common : FnScope N_law_common P_law_common (defScope (top 39)) := ⟨rfl, rfl, rfl, by decide +kernel, rfl, by decide +kernel, by decide +kernel⟩
theorem st_law_common (x0 : V) (x1 : V) : L2.start N_law_common [x0, x1] = [some x0, some x1] := rfl
theorem b_law_common {K : PySem.W.Frag} {mg : Str → Option Value} (T : Tops K mg) : Binds K T.fd_law_common P_law_common [] := T.F_law_common.bindsN fun _ _ _ _ _ _ us hl => match us, hl with | [_, _], _ => rfl
abbrev N_law_place : List Str := ["_law_x", "_law_y", "_law_dd", "_law_great"]
abbrev P_law_place : List Str := ["_law_x", "_law_y", "_law_dd"]
theorem sc_law_place : FnScope N_law_place P_law_place (defScope (top 40)) := ⟨rfl, rfl, rfl, by decide +kernel, rfl, by decide +kernel, by decide +kernel⟩
theorem st_law_place (x0 : V) (x1 : V) (x2 : V) : L2.start N_law_place [x0, x1, x2] = [some x0, some x1, some x2, none] := rfl
theorem b_law_place {K : PySem.W.Frag} {mg : Str → Option Value} (T : Tops K mg) : Binds K T.fd_law_place P_law_place [] := T.F_law_place.bindsN fun _ _ _ _ _ _ us hl => match us, hl with | [_, _, _], _ => rfl
abbrev N_law_centre : List Str := ["_law_aa", "_law_bb", "_law_cc", "_law_u", "_law_v", "_law_w", "_law_z", "_law_first", "_law_second"]
abbrev P_law_centre : List Str := ["_law_aa", "_law_bb", "_law_cc"]
theorem sc_law_centre : FnScope N_law_centre P_law_centre (defScope (top 41)) := ⟨rfl, rfl, rfl, by decide +kernel, rfl, by decide +kernel, by decide +kernel⟩
theorem st_law_centre (x0 : V) (x1 : V) (x2 : V) : L2.start N_law_centre [x0, x1, x2] = [some x0, some x1, some x2, none, none, none, none, none, none] := rfl
theorem b_law_centre {K : PySem.W.Frag} {mg : Str → Option Value} (T : Tops K mg) : Binds K T.fd_law_centre P_law_centre [] := T.F_law_centre.bindsN fun _ _ _ _ _ _ us hl => match us, hl with | [_, _, _], _ => rfl
abbrev N_law_lift : List Str := ["_law_site_here"]
abbrev P_law_lift : List Str := ["_law_site_here"]
theorem sc_law_lift : FnScope N_law_lift P_law_lift (defScope (top 42)) := ⟨rfl, rfl, rfl, by decide +kernel, rfl, by decide +kernel, by decide +kernel⟩
theorem st_law_lift (x0 : V) : L2.start N_law_lift [x0] = [some x0] := rfl
theorem b_law_lift {K : PySem.W.Frag} {mg : Str → Option Value} (T : Tops K mg) : Binds K T.fd_law_lift P_law_lift [] := T.F_law_lift.bindsN fun _ _ _ _ _ _ us hl => match us, hl with | [_], _ => rfl
abbrev N_law_plane_side : List Str := ["_law_aa", "_law_bb", "_law_cc", "_law_dd", "_law_p", "_law_q", "_law_r", "_law_s", "_law_one_here", "_law_two", "_law_normal_x", "_law_normal_y", "_law_normal_z", "_law_gap", "_law_k"]
abbrev P_law_plane_side : List Str := ["_law_aa", "_law_bb", "_law_cc", "_law_dd"]
theorem sc_law_plane_side : FnScope N_law_plane_side P_law_plane_side (defScope (top 43)) := ⟨rfl, rfl, rfl, by decide +kernel, rfl, by decide +kernel, by decide +kernel⟩
theorem st_law_plane_side (x0 : V) (x1 : V) (x2 : V) (x3 : V) : L2.start N_law_plane_side [x0, x1, x2, x3] = [some x0, some x1, some x2, some x3, none, none, none, none, none, none, none, none, none, none, none] := rfl
theorem b_law_plane_side {K : PySem.W.Frag} {mg : Str → Option Value} (T : Tops K mg) : Binds K T.fd_law_plane_side P_law_plane_side [] := T.F_law_plane_side.bindsN fun _ _ _ _ _ _ us hl => match us, hl with | [_, _, _, _], _ => rfl
abbrev N_law_place_of : List Str := ["_law_source", "_law_great", "_law_dd"]
abbrev P_law_place_of : List Str := ["_law_source"]
theorem sc_law_place_of : FnScope N_law_place_of P_law_place_of (defScope (top 44)) := ⟨rfl, rfl, rfl, by decide +kernel, rfl, by decide +kernel, by decide +kernel⟩
theorem st_law_place_of (x0 : V) : L2.start N_law_place_of [x0] = [some x0, none, none] := rfl
theorem b_law_place_of {K : PySem.W.Frag} {mg : Str → Option Value} (T : Tops K mg) : Binds K T.fd_law_place_of P_law_place_of [] := T.F_law_place_of.bindsN fun _ _ _ _ _ _ us hl => match us, hl with | [_], _ => rfl
abbrev N_law_near_right : List Str := ["_law_spot", "_law_aa", "_law_bb", "_law_far", "_law_other", "_law_below", "_law_great", "_law_due"]
abbrev P_law_near_right : List Str := ["_law_spot", "_law_aa", "_law_bb"]
theorem sc_law_near_right : FnScope N_law_near_right P_law_near_right (defScope (top 45)) := ⟨rfl, rfl, rfl, by decide +kernel, rfl, by decide +kernel, by decide +kernel⟩
theorem st_law_near_right (x0 : V) (x1 : V) (x2 : V) : L2.start N_law_near_right [x0, x1, x2] = [some x0, some x1, some x2, none, none, none, none, none] := rfl
theorem b_law_near_right {K : PySem.W.Frag} {mg : Str → Option Value} (T : Tops K mg) : Binds K T.fd_law_near_right P_law_near_right [] := T.F_law_near_right.bindsN fun _ _ _ _ _ _ us hl => match us, hl with | [_, _, _], _ => rfl
abbrev N_law : List Str := ["_law_script", "_law_number_here", "_law_source", "_law_lap", "_law_sites_here", "_law_aa", "_law_bb", "_law_cc", "_law_dd", "_law_spot", "_law_centre_here"]
abbrev P_law : List Str := ["_law_script"]
theorem sc_law : FnScope N_law P_law (defScope (top 46)) := ⟨rfl, rfl, rfl, by decide +kernel, rfl, by decide +kernel, by decide +kernel⟩
theorem st_law (x0 : V) : L2.start N_law [x0] = [some x0, none, none, none, none, none, none, none, none, none, none] := rfl
theorem b_law {K : PySem.W.Frag} {mg : Str → Option Value} (T : Tops K mg) : Binds K T.fd_law P_law [] := T.F_law.bindsN fun _ _ _ _ _ _ us hl => match us, hl with | [_], _ => rfl
theorem kb_square_site_place {K : PySem.W.Frag} {mg : Str → Option Value} (T : Tops K mg) : KBn K T.fd_square P_square 0 ["site", "place"] (fun us ws => permL [1, 0] (us ++ ws)) (fun us ws => permL [1, 0] (us ++ ws)) := T.F_square.kbnP 0 _ _ fun _ _ _ _ _ _ us ws h1 h2 => match us, h1, ws, h2 with | [], _, [_, _], _ => rfl
theorem kb_nearer_b_a_place {K : PySem.W.Frag} {mg : Str → Option Value} (T : Tops K mg) : KBn K T.fd_nearer P_nearer 0 ["b", "a", "place"] (fun us ws => permL [2, 1, 0] (us ++ ws)) (fun us ws => permL [2, 1, 0] (us ++ ws)) := T.F_nearer.kbnP 0 _ _ fun _ _ _ _ _ _ us ws h1 h2 => match us, h1, ws, h2 with | [], _, [_, _, _], _ => rfl
theorem kb_lift_side_d_c_b_a {K : PySem.W.Frag} {mg : Str → Option Value} (T : Tops K mg) : KBn K T.fd_lift_side P_lift_side 0 ["d", "c", "b", "a"] (fun us ws => permL [3, 2, 1, 0] (us ++ ws)) (fun us ws => permL [3, 2, 1, 0] (us ++ ws)) := T.F_lift_side.kbnP 0 _ _ fun _ _ _ _ _ _ us ws h1 h2 => match us, h1, ws, h2 with | [], _, [_, _, _, _], _ => rfl

end NC
namespace NC
section
variable {P : Program} {w : World} {K : PySem.W.Frag} {mg : Str → Option Value} {base : Heap}

def Bd (x : Int) : Prop := -1000000 ≤ x ∧ x ≤ 1000000
def sgn (i : Int) : Int := (if 0 < i then 1 else 0) - (if i < 0 then 1 else 0)
def turnZ (ax ay bx by_ cx cy : Int) : Int := (bx - ax) * (cy - ay) - (by_ - ay) * (cx - ax)
theorem sgn_pos {i : Int} (h : 0 < i) : sgn i = 1 := by unfold sgn; rw [if_pos h, if_neg (by omega)]; rfl
theorem sgn_neg {i : Int} (h : i < 0) : sgn i = -1 := by unfold sgn; rw [if_neg (by omega), if_pos h]; rfl
theorem sgn_zero {i : Int} (h : i = 0) : sgn i = 0 := by unfold sgn; rw [if_neg (by omega), if_neg (by omega)]; rfl
theorem sgn_negate (i : Int) : sgn (-i) = 0 - sgn i := by
  rcases (show i < 0 ∨ i = 0 ∨ 0 < i by omega) with h | h | h
  · rw [sgn_neg h, sgn_pos (by omega)]; rfl
  · rw [sgn_zero h, sgn_zero (by omega)]; rfl
  · rw [sgn_pos h, sgn_neg (by omega)]; rfl
/-- three sites a, b, c -/
structure S3 (H : Hp) (pa pb pc : Addr) (ax ay bx by_ cx cy : Int) : Prop where
  a : H pa = some (.tup [.int ax, .int ay])
  b : H pb = some (.tup [.int bx, .int by_])
  c : H pc = some (.tup [.int cx, .int cy])
  bd : (Bd ax ∧ Bd ay) ∧ (Bd bx ∧ Bd by_) ∧ (Bd cx ∧ Bd cy)
theorem S3.mono {H H' : Hp} {pa pb pc : Addr} {ax ay bx by_ cx cy : Int} (k : TK H H') (h : S3 H pa pb pc ax ay bx by_ cx cy) : S3 H' pa pb pc ax ay bx by_ cx cy := ⟨k _ _ h.a, k _ _ h.b, k _ _ h.c, h.bd⟩
def sp_is_integer : Sp := fun vs H Q _ => ∃ i : Int, vs = [.int i] ∧ Q (.bl true) H
theorem ok_is_integer (T : Tops K mg) : FnOk P w K mg base CX0 1 (He.ga K "is_integer") T.fd_is_integer P_is_integer sp_is_integer := by
  refine T.F_is_integer.ok sc_is_integer (fun vs H Q E h => ?_) (fun cdv A outer s H vs Q E hr h => ?_)
  · obtain ⟨i, rfl, q⟩ := h
    rfl
  · obtain ⟨i, rfl, q⟩ := h
    refine ⟨_, PSs.nox ((pss_one (ps_ret (pe_and (pe_callB (call_isiK0 K) (by rfl) T.m_isinstance (by decide +kernel) (pa_cons (pv 0) (pa_cons (pe_bltn (v := .ty "int") rfl T.m_int (by decide +kernel) rfl) pa_nil))) (pe_one (pe_not (pe_callB (call_isiK0 K) (by rfl) T.m_isinstance (by decide +kernel) (pa_cons (pv 0) (pa_cons (pe_bltn (v := .ty "bool") rfl T.m_bool (by decide +kernel) rfl) pa_nil))))))))), ?_⟩
    rw [st_is_integer]
    walk_at "rd"
    refine ⟨_, _, _, _, true, rfl, .ty _, .base (.int _), kit_ty (by decide +kernel), ?_⟩
    walk_at "rd"
    refine iteT ?_
    walk_at "rd"
    refine ⟨_, _, _, _, false, rfl, .ty _, .base (.int _), kit_ty (by decide +kernel), ?_⟩
    walk_at "rd"
    exact q
def sp_is_between : Sp := fun vs H Q _ => ∃ v lo hi : Int, vs = [.int v, .int lo, .int hi] ∧ Q (.bl (decide (lo ≤ v) && decide (v ≤ hi))) H
theorem ok_is_between (T : Tops K mg) : FnOk P w K mg base CX0 2 (He.ga K "is_between") T.fd_is_between P_is_between sp_is_between := by
  refine T.F_is_between.ok sc_is_between (fun vs H Q E h => ?_) (fun cdv A outer s H vs Q E hr h => ?_)
  · obtain ⟨v, lo, hi, rfl, q⟩ := h
    rfl
  · obtain ⟨v, lo, hi, rfl, q⟩ := h
    refine ⟨_, PSs.nox ((pss_one (ps_ret (pe_and (pe_call (ok_is_integer T) (hr.mono (by decide)) (by rfl) T.g_is_integer T.F_is_integer.kp (b_is_integer T) .nil pass0 (pa_cons (pv 0) pa_nil)) (pe_one (pe_chain op_le op_le (pv 1) (pv 0) (pv 2))))))), ?_⟩
    rw [st_is_between]
    walk_at "rd"
    refine ⟨v, rfl, ?_⟩
    walk_at "rd"
    refine iteT ?_
    walk_at "rd"
    refine ite2 (fun h => ?_) (fun h => ?_)
    · walk_at "rd"
      rw [h, Bool.true_and] at q
      exact q
    · have h2 : decide (lo ≤ v) = false := by simpa using h
      rw [h2, Bool.false_and] at q
      exact q
def sp_sign : Sp := fun vs H Q _ => ∃ i : Int, vs = [.int i] ∧ Q (.int (sgn i)) H
theorem ok_sign (T : Tops K mg) : FnOk P w K mg base CX0 1 (He.ga K "sign") T.fd_sign P_sign sp_sign := by
  refine T.F_sign.ok sc_sign (fun vs H Q E h => ?_) (fun cdv A outer s H vs Q E hr h => ?_)
  · obtain ⟨i, rfl, q⟩ := h
    rfl
  · obtain ⟨i, rfl, q⟩ := h
    refine ⟨_, PSs.nox ((pss_one (ps_ret (pe_op op_sub (pe_callTy call_intN (by rfl) T.m_int (by decide +kernel) (pa_cons (pe_cmpR op_gt (pv 0) pe_int (nomark _)) pa_nil)) (pe_callTy call_intN (by rfl) T.m_int (by decide +kernel) (pa_cons (pe_cmpR op_lt (pv 0) pe_int (nomark _)) pa_nil)))))), ?_⟩
    rw [st_sign]
    walk_at "rd"
    have e : zsg (decide (0 < i)) - zsg (decide (i < 0)) = sgn i := by
      unfold sgn zsg
      simp only [decide_eq_true_eq]
    show Q (.int (zsg (decide (0 < i)) - zsg (decide (i < 0)))) H
    rw [e]
    exact q
def sp_turn : Sp := fun vs H Q _ => ∃ pa pb pc ax ay bx by_ cx cy, vs = [.ref pa, .ref pb, .ref pc] ∧ S3 H pa pb pc ax ay bx by_ cx cy ∧ Q (.int (turnZ ax ay bx by_ cx cy)) H
theorem ok_turn (T : Tops K mg) : FnOk P w K mg base CX0 1 (He.ga K "turn") T.fd_turn P_turn sp_turn := by
  refine T.F_turn.ok sc_turn (fun vs H Q E h => ?_) (fun cdv A outer s H vs Q E hr h => ?_)
  · obtain ⟨pa, pb, pc, ax, ay, bx, by_, cx, cy, rfl, ⟨ha, hb, hc, hd⟩, q⟩ := h
    rfl
  · obtain ⟨pa, pb, pc, ax, ay, bx, by_, cx, cy, rfl, ⟨ha, hb, hc, hd⟩, q⟩ := h
    refine ⟨_, PSs.nox ((pss_one (ps_ret (pe_op op_sub (pe_op op_mul (pe_op op_sub (pe_ix (ix_tupK K) (pv 1) pe_int (fun _ _ => rfl)) (pe_ix (ix_tupK K) (pv 0) pe_int (fun _ _ => rfl))) (pe_op op_sub (pe_ix (ix_tupK K) (pv 2) pe_int (fun _ _ => rfl)) (pe_ix (ix_tupK K) (pv 0) pe_int (fun _ _ => rfl)))) (pe_op op_mul (pe_op op_sub (pe_ix (ix_tupK K) (pv 1) pe_int (fun _ _ => rfl)) (pe_ix (ix_tupK K) (pv 0) pe_int (fun _ _ => rfl))) (pe_op op_sub (pe_ix (ix_tupK K) (pv 2) pe_int (fun _ _ => rfl)) (pe_ix (ix_tupK K) (pv 0) pe_int (fun _ _ => rfl)))))))), ?_⟩
    rw [st_turn]
    unfold Bd at hd
    walk_at "rd"
    exact q
def sp_is_site : Sp := fun vs H Q _ => ∃ (p : Addr) (x y : Int), vs = [.ref p] ∧ H p = some (.tup [.int x, .int y]) ∧ Bd x ∧ Bd y ∧ ∀ H', Same H H' → Q (.bl true) H'
theorem ok_is_site (T : Tops K mg) : FnOk P w K mg base CX0 3 (He.ga K "is_site") T.fd_is_site P_is_site sp_is_site := by
  refine T.F_is_site.ok sc_is_site (fun vs H Q E h => ?_) (fun cdv A outer s H vs Q E hr h => ?_)
  · obtain ⟨p, x, y, rfl, hp, bx, by_, q⟩ := h
    rfl
  · obtain ⟨p, x, y, rfl, hp, bx, by_, q⟩ := h
    refine ⟨_, PSs.nox ((pss_cons (ps_if (PW.pt (pw_or (pt_not (pt_val (pe_callB (call_isiK0 K) (by rfl) T.m_isinstance (by decide +kernel) (pa_cons (pv 0) (pa_cons (pe_bltn (v := .ty "tuple") rfl T.m_tuple (by decide +kernel) rfl) pa_nil))))) (pw_or1 (pt_cmpR op_ne (pe_callB (call_lenK K) (by rfl) T.m_len PySem.boot_len (pa_cons (pv 0) pa_nil)) pe_int (nomark _)))))
       (pss_one (ps_ret pe_bl))
       pss_nil)
       (pss_one (ps_ret (pe_callB (cr_allK K rfl) (by rfl) T.m_all (by decide +kernel) (pa_cons (pe_lc (own := [("one", 1)]) (g := gName 1) (tt := tYes) rfl sc_is_site.nd (pi_tupK K (pv 0)) (blkOk_by (own := [("one", 1)]) (N := N_is_site) (sc := defScope (top 13)) (by decide +kernel)) (fun _ _ _ _ _ => (pg_name (i := 1) sc_is_site.nd rfl (.inl rfl))) (fun _ _ _ _ _ => pts_nil) (fun _ _ _ _ _ => (pe_call (ok_is_between T) (hr.mono (by decide)) (by rfl) T.g_is_between T.F_is_between.kp (b_is_between T) .nil pass0 (pa_cons (pv 1) (pa_cons (pe_op op_sub pe_int (pe_glob (v := .int 1000000) rfl T.c_MOST_COORDINATE ⟨_, rfl⟩)) (pa_cons (pe_glob (v := .int 1000000) rfl T.c_MOST_COORDINATE ⟨_, rfl⟩) pa_nil)))))) pa_nil)))))), ?_⟩
    rw [st_is_site]
    walk_at "rd"
    refine ⟨_, _, _, _, true, rfl, .ty _, .base (.tup hp), kit_ty (by decide +kernel), ?_⟩
    walk_at "rd"
    refine iteF ?_
    walk_at "rd"
    refine iteF ?_
    walk_at "rd"
    refine ⟨p, rfl, ⟨_, SqT.of hp⟩, fun D hD => ?_⟩
    refine lc_tup (K := K) (a := p) (xs := [.int x, .int y]) (fun i H' => Same H H' ∧ H' D = some (.lst (List.replicate i (.bl true)))) ⟨same_new hD, upd_same⟩ (fun i H' _ h => SqT.of (h.1 _ _ hp)) ?_ ?_
    · rintro i z H' hz ⟨hs, hl⟩
      have hzz : ∃ n : Int, z = .int n ∧ Bd n ∧ i < 2 := by
        match i, hz with
        | 0, hz => exact ⟨x, (Option.some.inj hz).symm, bx, by decide⟩
        | 1, hz => exact ⟨y, (Option.some.inj hz).symm, by_, by decide⟩
      obtain ⟨n, rfl, hn, hi⟩ := hzz
      walk_at "rd"
      refine ⟨rfl, ?_⟩
      walk_at "rd"
      refine iteT ?_
      walk_at "rd"
      refine ⟨_, _, _, rfl, ?_⟩
      have e : (decide ((0 : Int) - 1000000 ≤ n) && decide (n ≤ 1000000)) = true := by
        unfold Bd at hn
        rw [Bool.and_eq_true, decide_eq_true_eq, decide_eq_true_eq]
        omega
      refine ⟨_, hl, len_lt (by rw [List.length_replicate]; omega), ?_, ?_⟩
      · intro b o hb
        rw [upd_ne (ne_of_none hb hD)]
        exact hs _ _ hb
      · rw [upd_same, e, List.replicate_succ']
    · rintro H' ⟨hs, hl⟩
      refine ⟨D, [true, true], rfl, SqL.of hl, q H' hs⟩
def sp_check_site : Sp := fun vs H Q _ => ∃ (z : Str) (p : Addr) (x y : Int), vs = [.str z, .ref p] ∧ H p = some (.tup [.int x, .int y]) ∧ Bd x ∧ Bd y ∧ ∀ H', Same H H' → Q .non H'
theorem ok_check_site (T : Tops K mg) : FnOk P w K mg base CX0 4 (He.ga K "check_site") T.fd_check_site P_check_site sp_check_site := by
  refine T.F_check_site.ok sc_check_site (fun vs H Q E h => ?_) (fun cdv A outer s H vs Q E hr h => ?_)
  · obtain ⟨z, p, x, y, rfl, hp, bx, by_, q⟩ := h
    rfl
  · obtain ⟨z, p, x, y, rfl, hp, bx, by_, q⟩ := h
    refine ⟨_, PSs.nox ((pss_one (ps_if (pt_not (pt_val (pe_call (ok_is_site T) (hr.mono (by decide)) (by rfl) T.g_is_site T.F_is_site.kp (b_is_site T) .nil pass0 (pa_cons (pv 1) pa_nil))))
       (pss_one ps_never)
       pss_nil))), ?_⟩
    rw [st_check_site]
    walk_at "rd"
    refine ⟨p, x, y, rfl, hp, bx, by_, fun H' hs => ?_⟩
    walk_at "rd"
    refine iteF ?_
    exact q H' hs

theorem sq_nn (u : Int) : 0 ≤ u * u := by
  rcases (show 0 ≤ u ∨ u ≤ 0 by omega) with h | h
  · exact Int.mul_nonneg h h
  · exact Int.mul_nonneg_of_nonpos_of_nonpos h h
theorem sq_pos {u : Int} (h : u ≠ 0) : 0 < u * u := by
  rcases (show 0 < u ∨ u < 0 by omega) with h | h
  · exact Int.mul_pos h h
  · exact Int.mul_pos_of_neg_of_neg h h

/-- a site as data -/
theorem dp_site {H : Hp} {p : Addr} {x y : Int} (h : H p = some (.tup [.int x, .int y])) : Dp K H (.ref p) (.tuple [.int x, .int y]) := .tup (SqT.of h) (.cons (.int _) (.cons (.int _) .nil))
theorem eqv_site (x y u v : Int) : PyData.eqv (.tuple [.int x, .int y]) (.tuple [.int u, .int v]) = (decide (x = u) && decide (y = v)) := by
  simp [PyData.eqv, PyData.eqvAll, Bool.beq_eq_decide_eq]

end

end NC
namespace NC
section
variable {P : Program} {w : World} {K : PySem.W.Frag} {mg : Str → Option Value} {base : Heap}

/-- a source of draws -/
def SrcL (xs : List V) : Prop := ∃ i j k : Int, xs = [.int i, .int j, .int k] ∧ 0 ≤ i ∧ 0 ≤ j ∧ j < 2147483647 ∧ 0 ≤ k
def sp_law_source_of : Sp := fun vs H Q _ => ∃ n : Int, vs = [.int n] ∧ ∀ p xs, H p = none → SrcL xs → Q (.ref p) (upd H p (.lst xs))
def sp_law_next : Sp := fun vs H Q _ => ∃ (s : Addr) (m : Int) (xs : List V), vs = [.ref s, .int m] ∧ H s = some (.lst xs) ∧ SrcL xs ∧ 0 < m ∧ m < 1267650600228229401496703205376 ∧ ∀ r ys, 0 ≤ r → r < m → SrcL ys → Q (.int r) (upd H s (.lst ys))
def sp_law_one : Sp := fun vs H Q _ => ∃ (s l : Addr) (xs zs : List V), vs = [.ref s, .ref l] ∧ H s = some (.lst xs) ∧ SrcL xs ∧ H l = some (.lst zs) ∧ s ≠ l ∧ 0 < zs.length ∧ zs.length < 1000000 ∧ ∀ z ys, z ∈ zs → SrcL ys → Q z (upd H s (.lst ys))
theorem ok_law_source_of (T : Tops K mg) : FnOk P w K mg base CX0 1 (He.ga K "_law_source_of") T.fd_law_source_of P_law_source_of sp_law_source_of := by
  refine T.F_law_source_of.ok sc_law_source_of (fun vs H Q E h => ?_) (fun cdv A outer s H vs Q E hr h => ?_)
  · obtain ⟨n, rfl, q⟩ := h
    rfl
  · obtain ⟨n, rfl, q⟩ := h
    refine ⟨_, PSs.nox ((pss_cons (ps_set (i := 0) sc_law_source_of.nd rfl (.inl rfl) (pe_ifExp (pt_cmpR op_ge (pv 0) pe_int (nomark _)) (pv 0) (pe_op op_sub (pe_op op_sub pe_int (pe_op op_mul pe_int (pv 0))) pe_int)))
       (pss_one (ps_ret (pe_lst (pa_cons (pe_op op_mul (pv 0) (pe_callTy call_intN (by rfl) T.m_int (by decide +kernel) (pa_cons (pe_cmpR op_ge (pv 0) (pe_op op_pow pe_int pe_int) (nomark _)) pa_nil))) (pa_cons (pe_op op_mod (pe_callTy call_intN (by rfl) T.m_int (by decide +kernel) (pa_cons (pv 0) pa_nil)) pe_int) (pa_cons pe_int pa_nil)))))))), ?_⟩
    rw [st_law_source_of]
    walk_at "rd"
    have fin : ∀ n : Int, 0 ≤ n → ∀ (p : Addr) (k : Bool), H p = none → Q (.ref p) (upd H p (.lst [.int (n * zsg k), .int (n % 2147483647), .int 0])) := fun n hn p k hp => by
      refine q p _ hp ⟨_, _, _, rfl, ?_, ?_, ?_, by decide⟩
      · exact Int.mul_nonneg hn (zsg_lo k)
      · exact Int.emod_nonneg _ (by decide)
      · exact Int.emod_lt_of_pos _ (by decide)
    refine ite2 (fun h => ?_) (fun h => ?_)
    · walk_at "rd"
      refine g_mul (mulR (Int.le_trans (by decide) (zsg_lo _)) (Int.le_trans (zsg_hi _) (by decide))) ?_
      walk_at "rd"
      exact ⟨len_le (n := 3) (by decide), fun p hp => fin n (of_decide_eq_true h) p _ hp⟩
    · have hn : ¬ (0 ≤ n) := fun z => h (decide_eq_true z)
      walk_at "rd"
      refine g_mul (mulR (Int.le_trans (by decide) (zsg_lo _)) (Int.le_trans (zsg_hi _) (by decide))) ?_
      walk_at "rd"
      exact ⟨len_le (n := 3) (by decide), fun p hp => fin (0 - 3 * n - 1) (by omega) p _ hp⟩
theorem ok_law_next (T : Tops K mg) : FnOk P w K mg base CX0 1 (He.ga K "_law_next") T.fd_law_next P_law_next sp_law_next := by
  refine T.F_law_next.ok sc_law_next (fun vs H Q E h => ?_) (fun cdv A outer s H vs Q E hr h => ?_)
  · obtain ⟨s, m, xs, rfl, hs, ⟨i, j, k, rfl, hi, hj, hj2, hk⟩, hm, hm2, q⟩ := h
    rfl
  · obtain ⟨s, m, xs, rfl, hs, ⟨i, j, k, rfl, hi, hj, hj2, hk⟩, hm, hm2, q⟩ := h
    refine ⟨_, PSs.nox ((pss_cons (ps_if (pt_cmpR op_gt (pe_ix (ix_listK K) (pv 0) pe_int (fun _ _ => rfl)) pe_int (nomark _))
       (pss_cons (ps_set (i := 2) sc_law_next.nd rfl (.inl rfl) (pe_op op_mod (pe_callTy call_intN (by rfl) T.m_int (by decide +kernel) (pa_cons (pe_ix (ix_listK K) (pv 0) pe_int (fun _ _ => rfl)) pa_nil)) (pv 1)))
       (pss_cons (ps_asg (pe_op op_fdivA (pe_ix (ix_listK K) (pv 0) pe_int (fun _ _ => rfl)) (pv 1)) (pg_sub (pv 0) pe_int set_list))
       (pss_one (ps_ret (pv 2)))))
       pss_nil)
       (pss_cons (ps_asg (pe_op op_add (pe_ix (ix_listK K) (pv 0) pe_int (fun _ _ => rfl)) pe_int) (pg_sub (pv 0) pe_int set_list))
       (pss_cons (ps_set (i := 3) sc_law_next.nd rfl (.inl rfl) pe_int)
       (pss_cons (ps_set (i := 4) sc_law_next.nd rfl (.inl rfl) (pe_op op_mod (pe_callTy call_intN (by rfl) T.m_int (by decide +kernel) (pa_cons (pe_op op_add (pe_op op_add (pe_ix (ix_listK K) (pv 0) pe_int (fun _ _ => rfl)) (pe_op op_mul pe_int (pe_ix (ix_listK K) (pv 0) pe_int (fun _ _ => rfl)))) pe_int) pa_nil)) (pv 3)))
       (pss_cons (ps_set (i := 4) sc_law_next.nd rfl (.inl rfl) (pe_op op_mod (pe_callTy call_intN (by rfl) T.m_int (by decide +kernel) (pa_cons (pe_op op_mul (pv 4) pe_int) pa_nil)) (pv 3)))
       (pss_cons (ps_set (i := 4) sc_law_next.nd rfl (.inl rfl) (pe_op op_mod (pe_callTy call_intN (by rfl) T.m_int (by decide +kernel) (pa_cons (pe_op op_mul (pv 4) (pe_op op_add (pe_op op_fdivA (pv 4) pe_int) pe_int)) pa_nil)) (pv 3)))
       (pss_cons (ps_set (i := 4) sc_law_next.nd rfl (.inl rfl) (pe_op op_mod (pe_callTy call_intN (by rfl) T.m_int (by decide +kernel) (pa_cons (pe_op op_mul (pv 4) (pe_op op_add (pe_op op_fdivA (pv 4) pe_int) pe_int)) pa_nil)) pe_int))
       (pss_one (ps_ret (pe_op op_mod (pe_callTy call_intN (by rfl) T.m_int (by decide +kernel) (pa_cons (pe_op op_fdivA (pv 4) pe_int) pa_nil)) (pv 1)))))))))))), ?_⟩
    rw [st_law_next]
    walk_at "rd"
    refine ite2 (fun h => ?_) (fun h => ?_)
    · have h0 : 0 < i := of_decide_eq_true h
      walk_at "rd"
      refine g_setL (j := 0) hs rfl ?_
      walk_at "rd"
      exact q _ _ (Int.emod_nonneg _ (by omega)) (Int.emod_lt_of_pos _ hm) ⟨_, _, _, rfl, by rw [Int.fdiv_eq_ediv_of_nonneg _ (by omega)]; exact Int.ediv_nonneg hi (by omega), hj, hj2, hk⟩
    · walk_at "rd"
      refine g_setL (j := 2) hs rfl ?_
      have hs1 : (upd H s (.lst ([.int i, .int j, .int k].set 2 (.int (k + 1))))) s = some (.lst [.int i, .int j, .int (k + 1)]) := upd_same
      walk_at "rd"
      have b1 : ∀ z : Int, 0 ≤ z % 2147483647 ∧ z % 2147483647 < 2147483647 := fun z => ⟨Int.emod_nonneg _ (by decide), Int.emod_lt_of_pos _ (by decide)⟩
      generalize e1 : (j + 104729 * (k + 1) + 7919) % 2147483647 = z1
      have hz1 := b1 (j + 104729 * (k + 1) + 7919)
      rw [e1] at hz1
      walk_at "rd"
      generalize e2 : z1 * 48271 % 2147483647 = z2
      have hz2 := b1 (z1 * 48271)
      rw [e2] at hz2
      walk_at "rd"
      generalize e3 : z2 * (z2.fdiv 1009 + 69621) % 2147483647 = z3
      have hz3 := b1 (z2 * (z2.fdiv 1009 + 69621))
      rw [e3] at hz3
      walk_at "rd"
      exact q _ _ (Int.emod_nonneg _ (by omega)) (Int.emod_lt_of_pos _ hm) ⟨_, _, _, rfl, hi, hj, hj2, by omega⟩
theorem ok_law_one (T : Tops K mg) : FnOk P w K mg base CX0 2 (He.ga K "_law_one") T.fd_law_one P_law_one sp_law_one := by
  refine T.F_law_one.ok sc_law_one (fun vs H Q E h => ?_) (fun cdv A outer s H vs Q E hr h => ?_)
  · obtain ⟨s, l, xs, zs, rfl, hs, hx, hl, ne, l0, l1, q⟩ := h
    rfl
  · obtain ⟨s, l, xs, zs, rfl, hs, hx, hl, ne, l0, l1, q⟩ := h
    refine ⟨_, PSs.nox ((pss_one (ps_ret (pe_ix (ix_listK K) (pv 1) (pe_call (ok_law_next T) (hr.mono (by decide)) (by rfl) T.g_law_next T.F_law_next.kp (b_law_next T) .nil pass0 (pa_cons (pv 0) (pa_cons (pe_callB (call_lenK K) (by rfl) T.m_len PySem.boot_len (pa_cons (pv 1) pa_nil)) pa_nil))) (fun _ _ => rfl))))), ?_⟩
    rw [st_law_one]
    walk_at "rd"
    refine ⟨s, _, xs, rfl, hs, hx, by omega, by omega, fun r ys r0 r1 hy => ?_⟩
    obtain ⟨n, rfl⟩ := Int.eq_ofNat_of_zero_le r0
    have hn : n < zs.length := by omega
    refine g_ixL (xs := zs) (v := zs[n]) (by rw [upd_ne (Ne.symm ne)]; exact hl) (atI_nat (List.getElem?_eq_getElem hn)) ?_
    exact q _ _ (List.getElem_mem hn) hy
theorem cutV_0 (xs : List V) (i : Nat) : cutV xs (some (i : Int)) (some ((i : Int) + 1)) = (xs.drop i).take 1 := by
  unfold cutV
  rw [show HT.sIx xs.length 0 (some (i : Int)) = min i xs.length from HT.sIx_nat xs.length 0 i]
  rw [show HT.sIx xs.length xs.length (some ((i : Int) + 1)) = min (i + 1) xs.length from HT.sIx_nat xs.length xs.length (i + 1)]
  by_cases h : i < xs.length
  · rw [show min i xs.length = i by omega, show min (i + 1) xs.length = i + 1 by omega, show i + 1 - i = 1 by omega]
  · rw [List.drop_eq_nil_of_le (by omega), List.drop_eq_nil_of_le (by omega), List.take_nil, List.take_nil]
def sp_law_cell_at (K : PySem.W.Frag) : Sp := fun vs H Q _ => ∃ (a : Addr) (ns : List Int) (i : Nat), vs = [.ref a, .int i] ∧ SqL K H a (ns.map V.int) ∧ ∀ H', Same H H' → Q (.int (ns.getD i 0)) H'
theorem ok_law_cell_at (T : Tops K mg) : FnOk P w K mg base CX0 1 (He.ga K "_law_cell_at") T.fd_law_cell_at P_law_cell_at (sp_law_cell_at K) := by
  refine T.F_law_cell_at.ok sc_law_cell_at (fun vs H Q E h => ?_) (fun cdv A outer s H vs Q E hr h => ?_)
  · obtain ⟨a, ns, i, rfl, hS, q⟩ := h
    rfl
  · obtain ⟨a, ns, i, rfl, hS, q⟩ := h
    refine ⟨_, PSs.nox ((pss_one (ps_ret (pe_ix (ix_listK K) (pe_op op_cat (pe_slice (sl_listK K) (pv 0) (po_some (pv 1)) (po_some (pe_op op_add (pv 1) pe_int))) (pe_lst (pa_cons pe_int pa_nil))) pe_int (fun _ _ => rfl))))), ?_⟩
    rw [st_law_cell_at]
    walk_at "rd"
    refine ⟨a, _, rfl, hS, fun p hp => ?_⟩
    walk_at "rd"
    refine ⟨by decide, fun p2 hp2 => ?_⟩
    have e1 : (upd (upd H p (.lst (cutV (ns.map V.int) (some (i : Int)) (some ((i : Int) + 1))))) p2 (.lst [.int 0])) p = some (.lst (cutV (ns.map V.int) (some (i : Int)) (some ((i : Int) + 1)))) := by
      rw [upd_ne (ne_of_none upd_same hp2), upd_same]
    refine ⟨p, p2, _, _, rfl, rfl, e1, upd_same, len_le (by
      rw [cutV_0, List.length_take]
      show _ + 1 ≤ _
      omega), fun p3 hp3 => ?_⟩
    have same : Same H (upd (upd (upd H p (.lst (cutV (ns.map V.int) (some (i : Int)) (some ((i : Int) + 1))))) p2 (.lst [.int 0])) p3 (.lst (cutV (ns.map V.int) (some (i : Int)) (some ((i : Int) + 1)) ++ [.int 0]))) := ((same_new hp).trans (same_new hp2)).trans (same_new hp3)
    walk_at "rd"
    refine g_ixL (v := .int (ns.getD i 0)) upd_same ?_ ?_
    · rw [cutV_0]
      show atI ((ns.map V.int).drop i |>.take 1 |>.append [.int 0]) ((0 : Nat) : Int) = _
      apply atI_nat
      by_cases h : i < ns.length
      · have e : ((ns.map V.int).drop i).take 1 = [.int ns[i]] := by
          rw [List.drop_eq_getElem_cons (by rw [List.length_map]; exact h)]
          simp
        rw [e, List.getD_eq_getElem?_getD, List.getElem?_eq_getElem h]
        rfl
      · rw [List.drop_eq_nil_of_le (by rw [List.length_map]; omega), List.getD_eq_getElem?_getD, List.getElem?_eq_none (l := ns) (by omega)]
        rfl
    · exact q _ same

/-- what stands beside the source stays -/
def Kp (s : Addr) (H H' : Hp) : Prop := ∀ b o, b ≠ s → H b = some o → H' b = some o
theorem Kp.refl {s : Addr} (H : Hp) : Kp s H H := fun _ _ _ h => h
theorem Kp.trans {s : Addr} {H H1 H2 : Hp} (a : Kp s H H1) (b : Kp s H1 H2) : Kp s H H2 := fun c o n h => b c o n (a c o n h)
theorem Kp.src {s : Addr} {H : Hp} {o : HO} : Kp s H (upd H s o) := fun b u n h => by rw [upd_ne n]; exact h
theorem Kp.same {s : Addr} {H H' : Hp} (a : Same H H') : Kp s H H' := fun b o _ h => a b o h
theorem Kp.new {s p : Addr} {H : Hp} {o : HO} (n : H p = none) : Kp s H (upd H p o) := Kp.same (same_new n)
/-- the source at s, what was tracked else is kept -/
structure Go (s : Addr) (H H' : Hp) : Prop where
  k : Kp s H H'
  t : TK H H'
  src : ∃ xs, H' s = some (.lst xs) ∧ SrcL xs
theorem Go.draw {s : Addr} {H H' : Hp} {ys : List V} (g : Go s H H') (hy : SrcL ys) : Go s H (upd H' s (.lst ys)) := by
  obtain ⟨xs, e, _⟩ := g.src
  exact ⟨g.k.trans .src, g.t.trans (.lst e), ys, upd_same, hy⟩
theorem Go.new {s p : Addr} {H H' : Hp} {o : HO} (g : Go s H H') (n : H' p = none) : Go s H (upd H' p o) := by
  obtain ⟨xs, e, hx⟩ := g.src
  refine ⟨g.k.trans (.new n), g.t.trans (.new n), xs, ?_, hx⟩
  rw [upd_ne (ne_of_none e n)]
  exact e
/-- a list of sites -/
def SitesL (H : Hp) (zs : List V) : Prop := 0 < zs.length ∧ zs.length < 1000 ∧ ∀ z ∈ zs, ∃ p x y, z = .ref p ∧ H p = some (.tup [.int x, .int y]) ∧ Bd x ∧ Bd y
theorem SitesL.mono {H H' : Hp} {zs : List V} (k : TK H H') (h : SitesL H zs) : SitesL H' zs := ⟨h.1, h.2.1, fun z hz => by
  obtain ⟨p, x, y, e, h, b⟩ := h.2.2 z hz
  exact ⟨p, x, y, e, k _ _ h, b⟩⟩
def sp_law_sites : Sp := fun vs H Q _ => ∃ (s : Addr) (m : Int) (xs : List V), vs = [.ref s, .int m] ∧ H s = some (.lst xs) ∧ SrcL xs ∧ 0 < m ∧ m < 100 ∧
  ∀ H' p zs, Go s H H' → H p = none → H' p = some (.lst zs) → SitesL H' zs → Q (.ref p) H'
/-- a key of the dict of sites -/
def KeyOk (k : List Key) : Prop := ∃ x y : Int, k = [.inl x, .inl y] ∧ (-999000 ≤ x ∧ x ≤ 999000) ∧ (-999000 ≤ y ∧ y ≤ 999000)
theorem put_keys {kvs : List (List Key × V)} {k : List Key} {v : V} (h : ∀ q ∈ kvs, KeyOk q.1) (hk : KeyOk k) : ∀ q ∈ putK kvs k v, KeyOk q.1 := by
  intro q hq
  unfold putK at hq
  split at hq
  · obtain ⟨q', hq', e⟩ := List.mem_map.mp hq
    split at e
    · rw [← e]
      exact h q' hq'
    · rw [← e]
      exact h q' hq'
  · rcases List.mem_append.mp hq with z | z
    · exact h q z
    · rw [List.mem_singleton.mp z]
      exact hk
theorem put_pos {kvs : List (List Key × V)} {k : List Key} {v : V} : 0 < (putK kvs k v).length := by
  unfold putK
  split
  · rename_i h
    cases kvs with
    | nil => simp at h
    | cons a r => simp
  · simp

end

end NC
namespace NC
section
variable {P : Program} {w : World} {K : PySem.W.Frag} {mg : Str → Option Value} {base : Heap}

theorem Go.mutd {s d : Addr} {H H' : Hp} {o : HO} (g : Go s H H') (n : H d = none) (ne : d ≠ s) : Go s H (upd H' d o) := by
  obtain ⟨xs, e, hx⟩ := g.src
  refine ⟨fun b u nb hb => ?_, fun p xs hp => ?_, xs, ?_, hx⟩
  · rw [upd_ne (ne_of_none hb n)]
    exact g.k b u nb hb
  · rw [upd_ne (ne_of_none hp n)]
    exact g.t p xs hp
  · rw [upd_ne (Ne.symm ne)]
    exact e
theorem draw_go {s : Addr} {H0 H : Hp} {m : Int} {Q : VK} {E : XK} (g : Go s H0 H) (h0 : 0 < m) (h1 : m < 1267650600228229401496703205376) (q : ∀ r ys, 0 ≤ r → r < m → SrcL ys → Q (.int r) (upd H s (.lst ys))) : sp_law_next [.ref s, .int m] H Q E := by
  obtain ⟨xs, e, hx⟩ := g.src
  exact ⟨s, m, xs, rfl, e, hx, h0, h1, q⟩
def Sm (x : Int) : Prop := -999000 ≤ x ∧ x ≤ 999000
/-- small sites -/
def SmL (H : Hp) (zs : List V) : Prop := ∀ z ∈ zs, ∃ p x y, z = .ref p ∧ H p = some (.tup [.int x, .int y]) ∧ Sm x ∧ Sm y
theorem SmL.mono {H H' : Hp} {zs : List V} (k : TK H H') (h : SmL H zs) : SmL H' zs := fun z hz => by
  obtain ⟨p, x, y, e, h, b⟩ := h z hz
  exact ⟨p, x, y, e, k _ _ h, b⟩
/-- a display of small sites -/
def Pts (n : Nat) (t : TA) : Prop := ∀ σ H (Q : List V → Hp → Prop), (∀ H' zs, Same H H' → zs.length = n → SmL H' zs → Q zs H') → t σ H Q
theorem Pts.nil : Pts 0 tNil := fun σ H Q q => q H [] (.refl H) rfl (fun _ h => by cases h)
theorem Pts.cons {ex ey : TE} {x y : Int} {n : Nat} {t : TA} (hx : ∀ σ H Q, Q (.int x) H → ex σ H Q) (hy : ∀ σ H Q, Q (.int y) H → ey σ H Q) (bx : Sm x) (by_ : Sm y) (h : Pts n t) : Pts (n + 1) (tCons (tTup (tCons ex (tCons ey tNil))) t) := fun σ H Q q => by
  refine hx σ H _ (hy σ H _ ⟨len_le (n := 2) (by decide), fun p hp => ?_⟩)
  refine h σ _ _ fun H' zs hs hl hz => q H' _ ((same_new hp).trans hs) (congrArg Nat.succ hl) ?_
  intro z hz'
  rcases List.mem_cons.mp hz' with e | e
  · exact ⟨p, x, y, e, hs _ _ upd_same, bx, by_⟩
  · exact hz z e
theorem cI {x : Int} : ∀ (σ : L2.St) (H : Hp) (Q : VK), Q (.int x) H → tC (.int x) σ H Q := fun _ _ _ q => q
theorem cN {x : Int} : ∀ (σ : L2.St) (H : Hp) (Q : VK), Q (.int (-x)) H → tUn (rU fun i => .int (-i)) (tC (.int x)) σ H Q := fun _ _ _ q => ⟨x, rfl, q⟩
/-- the state of the loop that draws sites -/
structure LS (H0 : Hp) (s l d : Addr) (kvs : List (List Key × V)) (H : Hp) : Prop where
  go : Go s H0 H
  rl : ∃ zs, H l = some (.lst zs) ∧ SmL H zs ∧ zs.length = 12
  dd : H d = some (.dT kvs)
  ks : ∀ q ∈ kvs, KeyOk q.1
  nl : H0 l = none ∧ l ≠ s
  nd : H0 d = none ∧ d ≠ s
theorem LS.draw {H0 H : Hp} {s l d : Addr} {kvs : List (List Key × V)} {ys : List V} (h : LS H0 s l d kvs H) (hy : SrcL ys) : LS H0 s l d kvs (upd H s (.lst ys)) := by
  obtain ⟨zs, e1, e2, e3⟩ := h.rl
  obtain ⟨xs, ex, _⟩ := h.go.src
  refine ⟨h.go.draw hy, ⟨zs, ?_, e2.mono (.lst ex), e3⟩, ?_, h.ks, h.nl, h.nd⟩
  · rw [upd_ne h.nl.2]
    exact e1
  · rw [upd_ne h.nd.2]
    exact h.dd
theorem LS.new {H0 H : Hp} {s l d p : Addr} {o : HO} {kvs : List (List Key × V)} (h : LS H0 s l d kvs H) (n : H p = none) : LS H0 s l d kvs (upd H p o) := by
  obtain ⟨zs, e1, e2, e3⟩ := h.rl
  refine ⟨h.go.new n, ⟨zs, ?_, e2.mono (.new n), e3⟩, ?_, h.ks, h.nl, h.nd⟩
  · rw [upd_ne (ne_of_none e1 n)]
    exact e1
  · rw [upd_ne (ne_of_none h.dd n)]
    exact h.dd
theorem LS.tk {H0 H : Hp} {s l d : Addr} {kvs : List (List Key × V)} {ys : List V} (h : LS H0 s l d kvs H) : TK H (upd H s (.lst ys)) := by
  obtain ⟨xs, ex, _⟩ := h.go.src
  exact .lst ex
theorem ok_law_sites (T : Tops K mg) : FnOk P w K mg base CX0 3 (He.ga K "_law_sites") T.fd_law_sites P_law_sites sp_law_sites := by
  refine T.F_law_sites.ok sc_law_sites (fun vs H Q E h => ?_) (fun cdv A outer s H vs Q E hr h => ?_)
  · obtain ⟨s, m, xs, rfl, hs, hx, h0, h1, q⟩ := h
    rfl
  · obtain ⟨s, m, xs, rfl, hs, hx, h0, h1, q⟩ := h
    refine ⟨_, PSs.nox ((pss_cons (ps_set (i := 2) sc_law_sites.nd rfl (.inl rfl) (pe_lst (pa_cons (pe_tup (pa_cons pe_int (pa_cons pe_int pa_nil))) (pa_cons (pe_tup (pa_cons pe_int (pa_cons pe_int pa_nil))) (pa_cons (pe_tup (pa_cons pe_int (pa_cons pe_int pa_nil))) (pa_cons (pe_tup (pa_cons pe_int (pa_cons pe_int pa_nil))) (pa_cons (pe_tup (pa_cons (pe_un un_neg pe_int) (pa_cons pe_int pa_nil))) (pa_cons (pe_tup (pa_cons (pe_un un_neg pe_int) (pa_cons pe_int pa_nil))) (pa_cons (pe_tup (pa_cons (pe_un un_neg pe_int) (pa_cons pe_int pa_nil))) (pa_cons (pe_tup (pa_cons (pe_un un_neg pe_int) (pa_cons (pe_un un_neg pe_int) pa_nil))) pa_nil))))))))))
       (pss_cons (ps_set (i := 2) sc_law_sites.nd rfl (.inl rfl) (pe_op op_cat (pv 2) (pe_lst (pa_cons (pe_tup (pa_cons (pe_un un_neg pe_int) (pa_cons (pe_un un_neg pe_int) pa_nil))) (pa_cons (pe_tup (pa_cons pe_int (pa_cons (pe_un un_neg pe_int) pa_nil))) (pa_cons (pe_tup (pa_cons pe_int (pa_cons (pe_un un_neg pe_int) pa_nil))) (pa_cons (pe_tup (pa_cons pe_int (pa_cons (pe_un un_neg pe_int) pa_nil))) pa_nil)))))))
       (pss_cons (ps_par (i := 3) (j := 4) (by rfl) sc_law_sites.nd rfl rfl (by decide) rfl rfl (pa_cons (pe_call (ok_law_next T) (hr.mono (by decide)) (by rfl) T.g_law_next T.F_law_next.kp (b_law_next T) .nil pass0 (pa_cons (pv 0) (pa_cons pe_int pa_nil))) (pa_cons pe_dnewT pa_nil)) (by rfl))
       (pss_cons (ps_asg (pe_tup (pa_cons (pe_op op_sub (pe_call (ok_law_next T) (hr.mono (by decide)) (by rfl) T.g_law_next T.F_law_next.kp (b_law_next T) .nil pass0 (pa_cons (pv 0) (pa_cons pe_int pa_nil))) pe_int) (pa_cons (pe_op op_sub (pe_call (ok_law_next T) (hr.mono (by decide)) (by rfl) T.g_law_next T.F_law_next.kp (b_law_next T) .nil pass0 (pa_cons (pv 0) (pa_cons pe_int pa_nil))) pe_int) pa_nil))) (pg_tup rfl (pgs_cons (pg_name (i := 5) sc_law_sites.nd rfl (.inr rfl)) (pgs_cons (pg_name (i := 6) sc_law_sites.nd rfl (.inr rfl)) pgs_nil))))
       (pss_cons (ps_for PassesOwn.never rfl (pi_range1 (by rfl) T.m_range (pa_cons (pe_op op_add pe_int (pe_call (ok_law_next T) (hr.mono (by decide)) (by rfl) T.g_law_next T.F_law_next.kp (b_law_next T) .nil pass0 (pa_cons (pv 0) (pa_cons (pv 1) pa_nil)))) pa_nil)) (pg_name (i := 7) sc_law_sites.nd rfl (.inl rfl))
       (pss_cons (ps_set (i := 8) sc_law_sites.nd rfl (.inl rfl) (pe_tup (pa_cons (pe_call (ok_law_next T) (hr.mono (by decide)) (by rfl) T.g_law_next T.F_law_next.kp (b_law_next T) .nil pass0 (pa_cons (pv 0) (pa_cons pe_int pa_nil))) (pa_cons (pe_call (ok_law_next T) (hr.mono (by decide)) (by rfl) T.g_law_next T.F_law_next.kp (b_law_next T) .nil pass0 (pa_cons (pv 0) (pa_cons pe_int pa_nil))) pa_nil))))
       (C8.pss_cut (ps_if (PW.pt (pw_and (pt_cmpR op_eq (pv 3) pe_int (nomark _)) (pw_and1 (pt_cmpR op_gt (pe_call (ok_law_next T) (hr.mono (by decide)) (by rfl) T.g_law_next T.F_law_next.kp (b_law_next T) .nil pass0 (pa_cons (pv 0) (pa_cons pe_int pa_nil))) pe_int (nomark _)))))
       (pss_one (ps_set (i := 8) sc_law_sites.nd rfl (.inl rfl) (pe_call (ok_law_one T) (hr.mono (by decide)) (by rfl) T.g_law_one T.F_law_one.kp (b_law_one T) .nil pass0 (pa_cons (pv 0) (pa_cons (pv 2) pa_nil)))))
       pss_nil)
       (C8.pss_cut (ps_if (pt_cmpR op_eq (pv 3) pe_int (nomark _))
       (pss_one (ps_set (i := 8) sc_law_sites.nd rfl (.inl rfl) (pe_tup (pa_cons (pe_op op_mul (pe_call (ok_law_next T) (hr.mono (by decide)) (by rfl) T.g_law_next T.F_law_next.kp (b_law_next T) .nil pass0 (pa_cons (pv 0) (pa_cons pe_int pa_nil))) pe_int) (pa_cons (pe_op op_mul (pe_call (ok_law_next T) (hr.mono (by decide)) (by rfl) T.g_law_next T.F_law_next.kp (b_law_next T) .nil pass0 (pa_cons (pv 0) (pa_cons pe_int pa_nil))) (pe_call (ok_law_next T) (hr.mono (by decide)) (by rfl) T.g_law_next T.F_law_next.kp (b_law_next T) .nil pass0 (pa_cons (pv 0) (pa_cons pe_int pa_nil)))) pa_nil)))))
       pss_nil)
       (C8.pss_cut (ps_if (pt_cmpR op_eq (pv 3) pe_int (nomark _))
       (pss_one (ps_set (i := 8) sc_law_sites.nd rfl (.inl rfl) (pe_tup (pa_cons (pe_op op_sub (pe_call (ok_law_next T) (hr.mono (by decide)) (by rfl) T.g_law_next T.F_law_next.kp (b_law_next T) .nil pass0 (pa_cons (pv 0) (pa_cons pe_int pa_nil))) pe_int) (pa_cons (pe_op op_sub (pe_call (ok_law_next T) (hr.mono (by decide)) (by rfl) T.g_law_next T.F_law_next.kp (b_law_next T) .nil pass0 (pa_cons (pv 0) (pa_cons pe_int pa_nil))) pe_int) pa_nil)))))
       pss_nil)
       (C8.pss_cut (ps_if (pt_cmpR op_eq (pv 3) pe_int (nomark _))
       (pss_one (ps_set (i := 8) sc_law_sites.nd rfl (.inl rfl) (pe_tup (pa_cons (pe_op op_sub (pe_call (ok_law_next T) (hr.mono (by decide)) (by rfl) T.g_law_next T.F_law_next.kp (b_law_next T) .nil pass0 (pa_cons (pv 0) (pa_cons pe_int pa_nil))) pe_int) (pa_cons (pe_op op_sub (pe_call (ok_law_next T) (hr.mono (by decide)) (by rfl) T.g_law_next T.F_law_next.kp (b_law_next T) .nil pass0 (pa_cons (pv 0) (pa_cons pe_int pa_nil))) pe_int) pa_nil)))))
       pss_nil)
       (pss_one (ps_dput (hu_of hr) (pv 4) (pv 8) pe_bl rfl))))))))
       (pss_one (ps_ret (pe_lock (pe_lc (own := [("_law_x", 9), ("_law_y", 10)]) (g := gTup K 2 (gCons (gName 9) (gCons (gName 10) gNil))) (tt := tYes) rfl sc_law_sites.nd (pi_keys (pv 4)) (blkOk_by (own := [("_law_x", 9), ("_law_y", 10)]) (N := N_law_sites) (sc := defScope (top 36)) (by decide +kernel)) (fun _ _ _ _ _ => (by exact (pg_tup rfl (pgs_cons (pg_name (i := 9) sc_law_sites.nd rfl (.inl rfl)) (pgs_cons (pg_name (i := 10) sc_law_sites.nd rfl (.inl rfl)) pgs_nil))))) (fun _ _ _ _ _ => pts_nil) (fun _ _ _ _ _ => (pe_tup (pa_cons (pe_op op_add (pv 9) (pv 5)) (pa_cons (pe_op op_add (pv 10) (pv 6)) pa_nil)))))))))))))), ?_⟩
    rw [st_law_sites]
    have g0 : Go s H H := ⟨.refl H, .refl H, xs, hs, hx⟩
    refine g_seq (g_asg (g_lst ?_))
    have p8 := Pts.cons (n := 7) (cI (x := 5)) (cI (x := 0)) (by unfold Sm; decide) (by unfold Sm; decide) (Pts.cons (n := 6) (cI (x := 4)) (cI (x := 3)) (by unfold Sm; decide) (by unfold Sm; decide) (Pts.cons (n := 5) (cI (x := 3)) (cI (x := 4)) (by unfold Sm; decide) (by unfold Sm; decide) (Pts.cons (n := 4) (cI (x := 0)) (cI (x := 5)) (by unfold Sm; decide) (by unfold Sm; decide)
      (Pts.cons (n := 3) (cN (x := 3)) (cI (x := 4)) (by unfold Sm; decide) (by unfold Sm; decide) (Pts.cons (n := 2) (cN (x := 4)) (cI (x := 3)) (by unfold Sm; decide) (by unfold Sm; decide) (Pts.cons (n := 1) (cN (x := 5)) (cI (x := 0)) (by unfold Sm; decide) (by unfold Sm; decide) (Pts.cons (n := 0) (cN (x := 4)) (cN (x := 3)) (by unfold Sm; decide) (by unfold Sm; decide) Pts.nil)))))))
    have p4 := Pts.cons (n := 3) (cN (x := 3)) (cN (x := 4)) (by unfold Sm; decide) (by unfold Sm; decide) (Pts.cons (n := 2) (cI (x := 0)) (cN (x := 5)) (by unfold Sm; decide) (by unfold Sm; decide) (Pts.cons (n := 1) (cI (x := 3)) (cN (x := 4)) (by unfold Sm; decide) (by unfold Sm; decide) (Pts.cons (n := 0) (cI (x := 4)) (cN (x := 3)) (by unfold Sm; decide) (by unfold Sm; decide) Pts.nil)))
    refine p8 _ _ _ fun H1 z8 s1 l8 m8 => ?_
    refine ⟨len_le (by omega), fun a1 ha1 => ?_⟩
    refine g_name (g_seq (g_asg (g_op (g_var (v := .ref a1) rfl (g_lst ?_)))))
    refine p4 _ _ _ fun H2 z4 s2 l4 m4 => ?_
    refine ⟨len_le (by omega), fun a2 ha2 => ?_⟩
    have e1 : H2 a1 = some (.lst z8) := s2 _ _ upd_same
    refine ⟨a1, a2, z8, z4, rfl, rfl, by rw [upd_ne (ne_of_none e1 ha2)]; exact e1, upd_same, len_le (by omega), fun l hl => ?_⟩
    have sl : Same H (upd (upd H2 a2 (.lst z4)) l (.lst (z8 ++ z4))) := (((s1.trans (same_new ha1)).trans s2).trans (same_new ha2)).trans (same_new hl)
    have ms : SmL (upd (upd H2 a2 (.lst z4)) l (.lst (z8 ++ z4))) (z8 ++ z4) := by
      intro z hz
      rcases List.mem_append.mp hz with q | q
      · exact ((((m8.mono (.new ha1)).mono (.same s2)).mono (.new ha2)).mono (.new hl)) z q
      · exact ((m4.mono (.new ha2)).mono (.new hl)) z q
    generalize hH3 : upd (upd H2 a2 (.lst z4)) l (.lst (z8 ++ z4)) = H3 at sl ms ⊢
    have el : H3 l = some (.lst (z8 ++ z4)) := by rw [← hH3]; exact upd_same
    have nl : H l = none := ((((s1.trans (same_new ha1)).trans s2).trans (same_new ha2))).free hl
    have g3 : Go s H H3 := ⟨.same sl, .same sl, xs, sl _ _ hs, hx⟩
    walk_at "rd"
    refine draw_go g3 (by decide) (by decide) fun way y1 w0 w1 hy1 => ?_
    have g4 := g3.draw hy1
    walk_at "rd"
    intro d hd
    refine ⟨_, _, rfl, ?_⟩
    have nd : H d = none := by
      cases e : H d with
      | none => rfl
      | some o =>
        by_cases q : d = s
        · rw [q, upd_same] at hd
          cases hd
        · rw [g4.k d o q e] at hd
          cases hd
    have nls : l ≠ s := fun e => by
      rw [e, hs] at nl
      cases nl
    have nds : d ≠ s := fun e => by
      rw [e, upd_same] at hd
      cases hd
    have L1 : LS H s l d [] (upd (upd H3 s (.lst y1)) d (.dT [])) := by
      refine ⟨g4.new hd, ⟨z8 ++ z4, ?_, (ms.mono (.lst (sl _ _ hs))).mono (.new hd), by rw [List.length_append]; omega⟩, upd_same, (fun q h => by cases h), ⟨nl, nls⟩, ⟨nd, nds⟩⟩
      rw [upd_ne (ne_of_none (show (upd H3 s (.lst y1)) l = some (.lst (z8 ++ z4)) by rw [upd_ne nls]; exact el) hd), upd_ne nls]
      exact el
    generalize upd (upd H3 s (.lst y1)) d (.dT []) = H4 at L1 ⊢
    walk_at "rd"
    refine draw_go L1.go (by decide) (by decide) fun u y2 u0 u1 hy2 => ?_
    have L2' := L1.draw hy2
    walk_at "rd"
    refine draw_go L2'.go (by decide) (by decide) fun v y3 v0 v1 hy3 => ?_
    have L3 := L2'.draw hy3
    walk_at "rd"
    refine ⟨len_le (n := 2) (by decide), fun t ht => ?_⟩
    refine g_tupG upd_same rfl ?_
    have L4 := L3.new (o := .tup [.int (u - 1000), .int (v - 1000)]) ht
    walk_at "rd"
    refine draw_go L4.go h0 (by omega) fun r y4 r0 r1 hy4 => ?_
    have L5 := L4.draw hy4
    walk_at "rd"
    refine ⟨1 + r, rfl, by omega, by omega, ?_⟩
    refine for_range (lo := 0) (n := (1 + r).toNat) (fun i σ H' => ∃ kvs y7 y8, σ = [some (.ref s), some (.int m), some (.ref l), some (.int way), some (.ref d), some (.int (u - 1000)), some (.int (v - 1000)), y7, y8, none, none] ∧ LS H s l d kvs H' ∧ kvs.length ≤ i ∧ (0 < i → 0 < kvs.length))
      ⟨[], none, none, rfl, L5, Nat.le_refl _, fun z => absurd z (by decide)⟩ ?_ ?_
    · rintro i σ H' hi ⟨kvs, y7, y8, rfl, S, kl, kn⟩
      walk_at "rd"
      refine draw_go S.go (by decide) (by decide) fun x yx x0 x1 hyx => ?_
      have S1 := S.draw hyx
      walk_at "rd"
      refine draw_go S1.go (by decide) (by decide) fun y yy y0 y1 hyy => ?_
      have S2 := S1.draw hyy
      walk_at "rd"
      refine ⟨len_le (n := 2) (by decide), fun t ht => ?_⟩
      have S3' := S2.new (o := .tup [.int x, .int y]) ht
      generalize hH6 : upd (upd (upd H' s (.lst yx)) s (.lst yy)) t (.tup [.int x, .int y]) = H6 at S3' ⊢
      have et : H6 t = some (.tup [.int x, .int y]) := by rw [← hH6]; exact upd_same
      walk_at "rd"
      -- what holds between the ifs
      let Mid : L2.St → Hp → Prop := fun σ H' => ∃ (t : Addr) (x y : Int), σ = [some (V.ref s), some (.int m), some (.ref l), some (.int way), some (.ref d), some (.int (u - 1000)), some (.int (v - 1000)), some (.int (0 + i)), some (.ref t), none, none] ∧ LS H s l d kvs H' ∧ H' t = some (.tup [.int x, .int y]) ∧ Sm x ∧ Sm y
      have M0 : Mid [some (V.ref s), some (.int m), some (.ref l), some (.int way), some (.ref d), some (.int (u - 1000)), some (.int (v - 1000)), some (.int (0 + i)), some (.ref t), none, none] H6 := ⟨t, x, y, rfl, S3', et, by unfold Sm; omega, by unfold Sm; omega⟩
      -- if way == 1 and next(4) > 0
      refine ⟨Mid, ?_, ?_⟩
      · walk_at "rd"
        refine ite2 (fun h => ?_) (fun h => ?_)
        · walk_at "rd"
          refine draw_go S3'.go (by decide) (by decide) fun z yz z0 z1 hyz => ?_
          have S4 := S3'.draw hyz
          have et4 : (upd H6 s (.lst yz)) t = some (.tup [.int x, .int y]) := S3'.tk _ _ et
          walk_at "rd"
          refine ite2 (fun h => ?_) (fun h => ?_)
          · walk_at "rd"
            obtain ⟨xs5, ex5, hx5⟩ := S4.go.src
            obtain ⟨zs5, ez5, mz5, lz5⟩ := S4.rl
            refine ⟨s, l, xs5, zs5, rfl, ex5, hx5, ez5, Ne.symm nls, by omega, by omega, fun w yw hw hyw => ?_⟩
            obtain ⟨t2, x2, y2, rfl, h2, b1, b2⟩ := mz5 w hw
            exact ⟨t2, x2, y2, rfl, S4.draw hyw, S4.tk _ _ h2, b1, b2⟩
          · exact ⟨t, x, y, rfl, S4, et4, by unfold Sm; omega, by unfold Sm; omega⟩
        · walk_at "rd"
          refine iteF ?_
          exact M0
      rintro σ1 H7 ⟨t, x, y, rfl, S4, et, bx, by_⟩
      refine ⟨Mid, ?_, ?_⟩
      · walk_at "rd"
        refine ite2 (fun h => ?_) (fun h => ?_)
        · walk_at "rd"
          refine draw_go S4.go (by decide) (by decide) fun z1 yz1 z10 z11 hyz1 => ?_
          have S5 := S4.draw hyz1
          walk_at "rd"
          refine draw_go S5.go (by decide) (by decide) fun z2 yz2 z20 z21 hyz2 => ?_
          have S6 := S5.draw hyz2
          walk_at "rd"
          refine draw_go S6.go (by decide) (by decide) fun z3 yz3 z30 z31 hyz3 => ?_
          have S7 := S6.draw hyz3
          walk_at "rd"
          refine ⟨len_le (n := 2) (by decide), fun t2 ht2 => ?_⟩
          have b2 : 0 ≤ z2 * z3 := Int.mul_nonneg z20 z30
          have b3 : z2 * z3 ≤ 8 := by
            rcases (show z3 = 0 ∨ z3 = 1 by omega) with e | e
            · rw [e]; omega
            · rw [e]; omega
          exact ⟨t2, z1 * 3, z2 * z3, rfl, S7.new ht2, upd_same, by unfold Sm; omega, by unfold Sm; omega⟩
        · exact ⟨t, x, y, rfl, S4, et, bx, by_⟩
      rintro σ1 H7 ⟨t, x, y, rfl, S4, et, bx, by_⟩
      refine ⟨Mid, ?_, ?_⟩
      · walk_at "rd"
        refine ite2 (fun h => ?_) (fun h => ?_)
        · walk_at "rd"
          refine draw_go S4.go (by decide) (by decide) fun z1 yz1 z10 z11 hyz1 => ?_
          have S5 := S4.draw hyz1
          walk_at "rd"
          refine draw_go S5.go (by decide) (by decide) fun z2 yz2 z20 z21 hyz2 => ?_
          have S6 := S5.draw hyz2
          walk_at "rd"
          refine ⟨len_le (n := 2) (by decide), fun t2 ht2 => ?_⟩
          exact ⟨t2, z1 - 20, z2 - 20, rfl, S6.new ht2, upd_same, by unfold Sm; omega, by unfold Sm; omega⟩
        · exact ⟨t, x, y, rfl, S4, et, bx, by_⟩
      rintro σ1 H7 ⟨t, x, y, rfl, S4, et, bx, by_⟩
      refine ⟨Mid, ?_, ?_⟩
      · walk_at "rd"
        refine ite2 (fun h => ?_) (fun h => ?_)
        · walk_at "rd"
          refine draw_go S4.go (by decide) (by decide) fun z1 yz1 z10 z11 hyz1 => ?_
          have S5 := S4.draw hyz1
          walk_at "rd"
          refine draw_go S5.go (by decide) (by decide) fun z2 yz2 z20 z21 hyz2 => ?_
          have S6 := S5.draw hyz2
          walk_at "rd"
          refine ⟨len_le (n := 2) (by decide), fun t2 ht2 => ?_⟩
          exact ⟨t2, z1 - 999000, z2 - 999000, rfl, S6.new ht2, upd_same, by unfold Sm; omega, by unfold Sm; omega⟩
        · exact ⟨t, x, y, rfl, S4, et, bx, by_⟩
      rintro σ1 H7 ⟨t, x, y, rfl, S4, et, bx, by_⟩
      -- found[site] = True
      have hlen : kvs.length < 1000 := by omega
      refine ⟨_, rfl, _, rfl, d, _, rfl, DPut.t (k := [.inl x, .inl y]) S4.dd et (len_lt (by omega)), ?_⟩
      obtain ⟨zs7, ez7, mz7, lz7⟩ := S4.rl
      refine ⟨putK kvs [.inl x, .inl y] (.bl true), _, _, rfl, ⟨S4.go.mutd nd nds, ⟨zs7, ?_, mz7.mono ?_, lz7⟩, upd_same, put_keys S4.ks ⟨x, y, rfl, bx, by_⟩, S4.nl, S4.nd⟩, ?_, fun _ => put_pos⟩
      · rw [upd_ne (ne_of ez7 S4.dd (fun z => by cases z))]
        exact ez7
      · intro p xs hp
        rw [upd_ne (ne_of hp S4.dd (fun z => by cases z))]
        exact hp
      · exact Nat.le_trans (length_putK _ _ _) (by omega)
    · rintro σ H' ⟨kvs, y7, y8, rfl, S, kl, kn⟩
      have kn2 : 0 < kvs.length := kn (by omega)
      walk_at "rd"
      -- the list of the keys, moved
      refine ⟨d, _, S.dd, trivial, fun od => ?_⟩
      walk_at "rd"
      refine ⟨d, od, rfl, .inr ⟨kvs, upd_same, fun D hD => ?_⟩⟩
      have lk : TK H' (upd H' d (.frz od (.dT kvs))) := fun p xs hp => by
        rw [upd_ne (ne_of hp S.dd (fun z => by cases z))]
        exact hp
      have nDd : D ≠ d := fun e => by
        rw [e, upd_same] at hD
        cases hD
      have nD' : H' D = none := by rw [← hD, upd_ne nDd]
      have nDs : D ≠ s := fun e => by
        obtain ⟨xs5, ex5, _⟩ := S.go.src
        rw [e, ex5] at nD'
        cases nD'
      have nD : H D = none := by
        cases e : H D with
        | none => rfl
        | some o =>
          rw [S.go.k D o nDs e] at nD'
          cases nD'
      refine lc_keysT (fun i H5 => H5 d = some (.frz od (.dT kvs)) ∧ Go s H H5 ∧ ∃ zs, H5 D = some (.lst zs) ∧ zs.length = i ∧ ∀ z ∈ zs, ∃ p x y, z = .ref p ∧ H5 p = some (.tup [.int x, .int y]) ∧ Bd x ∧ Bd y)
        ⟨?_, ?_, [], upd_same, rfl, fun z hz => by cases hz⟩ (fun i H5 _ h => h.1) ?_ ?_
      · rw [upd_ne (Ne.symm nDd), upd_same]
      · exact (S.go.mutd nd nds).mutd nD nDs
      · rintro i k v0 q5 H5 hk hq ⟨h5d, g5, zs, e5, l5, m5⟩
        obtain ⟨x, y, rfl, bx, by_⟩ := S.ks _ (List.mem_of_getElem? hk)
        have hi5 : i < kvs.length := (List.getElem?_eq_some_iff.mp hk).1
        have hq' : H5 q5 = some (.tup [.int x, .int y]) := hq
        refine g_tupG hq' rfl ?_
        walk_at "rd"
        refine ⟨rfl, ?_⟩
        walk_at "rd"
        refine iteT ?_
        walk_at "rd"
        refine ⟨len_le (n := 2) (by decide), fun t5 ht5 => ?_⟩
        have nt : D ≠ t5 := ne_of_none e5 ht5
        refine ⟨zs, by rw [upd_ne nt]; exact e5, len_lt (by omega), ?_, (g5.new ht5).mutd nD nDs, zs ++ [.ref t5], upd_same, by simp [l5], ?_⟩
        · rw [upd_ne (Ne.symm nDd), upd_ne (ne_of_none h5d ht5)]
          exact h5d
        · intro z hz
          rcases List.mem_append.mp hz with hz | hz
          · obtain ⟨p, x1, y1, e1, e2, e3⟩ := m5 z hz
            refine ⟨p, x1, y1, e1, ?_, e3⟩
            rw [upd_ne (ne_of e2 e5 (fun z => by cases z)), upd_ne (ne_of_none e2 ht5)]
            exact e2
          · rw [List.mem_singleton.mp hz]
            refine ⟨t5, x + (u - 1000), y + (v - 1000), rfl, ?_, ?_, ?_⟩
            · rw [upd_ne (Ne.symm nt), upd_same]
            · unfold Bd; omega
            · unfold Bd; omega
      · rintro H5 ⟨h5d, g5, zs, e5, l5, m5⟩
        refine ⟨h5d, ?_⟩
        refine q _ D zs (g5.mutd nd nds) nD (by rw [upd_ne nDd]; exact e5) ⟨by omega, by omega, fun z hz => ?_⟩
        obtain ⟨p, x1, y1, e1, e2, e3⟩ := m5 z hz
        refine ⟨p, x1, y1, e1, ?_, e3⟩
        rw [upd_ne (ne_of e2 h5d (fun z => by cases z))]
        exact e2

end

end NC
namespace NC
section
variable {P : Program} {w : World} {K : PySem.W.Frag} {mg : Str → Option Value} {base : Heap}

/-- the power of d and the circle through a, b, c -/
def powZ (ax ay bx by_ cx cy dx dy : Int) : Int := ((ax - dx) * (ax - dx) + (ay - dy) * (ay - dy)) * ((bx - dx) * (cy - dy) - (cx - dx) * (by_ - dy)) - ((bx - dx) * (bx - dx) + (by_ - dy) * (by_ - dy)) * ((ax - dx) * (cy - dy) - (cx - dx) * (ay - dy)) + ((cx - dx) * (cx - dx) + (cy - dy) * (cy - dy)) * ((ax - dx) * (by_ - dy) - (bx - dx) * (ay - dy))
/-- four sites -/
structure S4 (H : Hp) (pa pb pc pd : Addr) (ax ay bx by_ cx cy dx dy : Int) : Prop where
  s : S3 H pa pb pc ax ay bx by_ cx cy
  d : H pd = some (.tup [.int dx, .int dy])
  bd : Bd dx ∧ Bd dy
theorem S4.mono {H H' : Hp} {pa pb pc pd : Addr} {ax ay bx by_ cx cy dx dy : Int} (k : TK H H') (h : S4 H pa pb pc pd ax ay bx by_ cx cy dx dy) : S4 H' pa pb pc pd ax ay bx by_ cx cy dx dy := ⟨h.s.mono k, k _ _ h.d, h.bd⟩
def sp_power : Sp := fun vs H Q _ => ∃ pa pb pc pd ax ay bx by_ cx cy dx dy, vs = [.ref pa, .ref pb, .ref pc, .ref pd] ∧ S4 H pa pb pc pd ax ay bx by_ cx cy dx dy ∧ ∀ H', Same H H' → Q (.int (powZ ax ay bx by_ cx cy dx dy)) H'
theorem sqb {x : Int} (h : -2000000 ≤ x ∧ x ≤ 2000000) : 0 ≤ x * x ∧ x * x ≤ 4000000000000 := by
  have h1 : 0 ≤ (2000000 - x) * (2000000 + x) := Int.mul_nonneg (by omega) (by omega)
  have h2 : (2000000 - x) * (2000000 + x) = 4000000000000 - x * x := by grind
  rcases (show 0 ≤ x ∨ x ≤ 0 by omega) with h | h
  · exact ⟨Int.mul_nonneg h h, by omega⟩
  · exact ⟨Int.mul_nonneg_of_nonpos_of_nonpos h h, by omega⟩
theorem ok_power (T : Tops K mg) : FnOk P w K mg base CX0 1 (He.ga K "power") T.fd_power P_power sp_power := by
  refine T.F_power.ok sc_power (fun vs H Q E h => ?_) (fun cdv A outer s H vs Q E hr h => ?_)
  · obtain ⟨pa, pb, pc, pd, ax, ay, bx, by_, cx, cy, dx, dy, rfl, S, q⟩ := h
    rfl
  · obtain ⟨pa, pb, pc, pd, ax, ay, bx, by_, cx, cy, dx, dy, rfl, S, q⟩ := h
    refine ⟨_, PSs.nox ((pss_cons (ps_setLc (i := 4) (own := [("one", 12)]) (g := gName 12) (tt := tYes) rfl sc_power.nd rfl rfl (sw_true rfl rfl rfl (by decide +kernel)) (pi_tupK K (pe_tup (pa_cons (pv 0) (pa_cons (pv 1) (pa_cons (pv 2) pa_nil))))) (blkOk_by (own := [("one", 12)]) (N := N_power) (sc := defScope (top 20)) (by decide +kernel)) (fun _ _ _ _ _ => (pg_name (i := 12) sc_power.nd rfl (.inl rfl))) (fun _ _ _ _ _ => pts_nil) (fun _ _ _ _ _ => (pe_tup (pa_cons (pe_op op_sub (pe_ix (ix_tupK K) (pv 12) pe_int (fun _ _ => rfl)) (pe_ix (ix_tupK K) (pv 3) pe_int (fun _ _ => rfl))) (pa_cons (pe_op op_sub (pe_ix (ix_tupK K) (pv 12) pe_int (fun _ _ => rfl)) (pe_ix (ix_tupK K) (pv 3) pe_int (fun _ _ => rfl))) pa_nil)))))
       (pss_cons (ps_asg (pv 4) (pg_unl rfl (pgs_cons (pg_tup rfl (pgs_cons (pg_name (i := 5) sc_power.nd rfl (.inl rfl)) (pgs_cons (pg_name (i := 6) sc_power.nd rfl (.inl rfl)) pgs_nil))) (pgs_cons (pg_tup rfl (pgs_cons (pg_name (i := 7) sc_power.nd rfl (.inl rfl)) (pgs_cons (pg_name (i := 8) sc_power.nd rfl (.inl rfl)) pgs_nil))) (pgs_cons (pg_tup rfl (pgs_cons (pg_name (i := 9) sc_power.nd rfl (.inl rfl)) (pgs_cons (pg_name (i := 10) sc_power.nd rfl (.inl rfl)) pgs_nil))) pgs_nil)))))
       (pss_cons (ps_setLc (i := 11) (own := [("x", 13), ("y", 14)]) (g := gTup K 2 (gCons (gName 13) (gCons (gName 14) gNil))) (tt := tYes) rfl sc_power.nd rfl rfl (sw_true rfl rfl rfl (by decide +kernel)) (pi_listK K (pv 4)) (blkOk_by (own := [("x", 13), ("y", 14)]) (N := N_power) (sc := defScope (top 20)) (by decide +kernel)) (fun _ _ _ _ _ => (by exact (pg_tup rfl (pgs_cons (pg_name (i := 13) sc_power.nd rfl (.inl rfl)) (pgs_cons (pg_name (i := 14) sc_power.nd rfl (.inl rfl)) pgs_nil))))) (fun _ _ _ _ _ => pts_nil) (fun _ _ _ _ _ => (pe_op op_add (pe_op op_mul (pv 13) (pv 13)) (pe_op op_mul (pv 14) (pv 14)))))
       (pss_one (ps_ret (pe_op op_add (pe_op op_sub (pe_op op_mul (pe_ix (ix_listK K) (pv 11) pe_int (fun _ _ => rfl)) (pe_op op_sub (pe_op op_mul (pv 7) (pv 10)) (pe_op op_mul (pv 9) (pv 8)))) (pe_op op_mul (pe_ix (ix_listK K) (pv 11) pe_int (fun _ _ => rfl)) (pe_op op_sub (pe_op op_mul (pv 5) (pv 10)) (pe_op op_mul (pv 9) (pv 6))))) (pe_op op_mul (pe_ix (ix_listK K) (pv 11) pe_int (fun _ _ => rfl)) (pe_op op_sub (pe_op op_mul (pv 5) (pv 8)) (pe_op op_mul (pv 7) (pv 6))))))))))), ?_⟩
    rw [st_power]
    obtain ⟨⟨ha, hb, hc, hd⟩, hdd, hb4⟩ := id S
    unfold Bd at hd hb4
    refine g_seq (g_asg (g_lc (g_itup ?_)))
    walk_at "rd"
    refine ⟨len_le (n := 3) (by decide), fun t0 ht0 => ?_⟩
    have s0 : Same H (upd H t0 (.tup [.ref pa, .ref pb, .ref pc])) := same_new ht0
    generalize hH0 : upd H t0 (.tup [.ref pa, .ref pb, .ref pc]) = H0 at s0 ⊢
    have e0 : H0 t0 = some (.tup [.ref pa, .ref pb, .ref pc]) := by rw [← hH0]; exact upd_same
    refine ⟨t0, rfl, ⟨_, SqT.of e0⟩, fun D hD => ?_⟩
    refine lc_tup (K := K) (a := t0) (xs := [.ref pa, .ref pb, .ref pc]) (fun i H' => Same H0 H' ∧ ∃ qs : List Addr, H' D = some (.lst (qs.map V.ref)) ∧ qs.length = i ∧ ∀ (j : Nat) (q : Addr) (z : Int × Int), qs[j]? = some q → ([(ax, ay), (bx, by_), (cx, cy)] : List (Int × Int))[j]? = some z → H' q = some (.tup [.int (z.1 - dx), .int (z.2 - dy)]))
      ⟨same_new hD, [], upd_same, rfl, fun j q z h => by cases h⟩ (fun i H' _ h => SqT.of (h.1 _ _ e0)) ?_ ?_
    · rintro i z H' hz ⟨hs, qs, e1, e2, e3⟩
      have hzz : ∃ (pz : Addr) (zx zy : Int), z = .ref pz ∧ H' pz = some (.tup [.int zx, .int zy]) ∧ ([(ax, ay), (bx, by_), (cx, cy)] : List (Int × Int))[i]? = some (zx, zy) ∧ i < 3 := by
        match i, hz with
        | 0, hz => exact ⟨pa, ax, ay, (Option.some.inj hz).symm, hs _ _ (s0 _ _ ha), rfl, by decide⟩
        | 1, hz => exact ⟨pb, bx, by_, (Option.some.inj hz).symm, hs _ _ (s0 _ _ hb), rfl, by decide⟩
        | 2, hz => exact ⟨pc, cx, cy, (Option.some.inj hz).symm, hs _ _ (s0 _ _ hc), rfl, by decide⟩
      obtain ⟨pz, zx, zy, rfl, hpz, hix, hi⟩ := hzz
      have hd' : H' pd = some (.tup [.int dx, .int dy]) := hs _ _ (s0 _ _ hdd)
      walk_at "rd"
      refine ⟨rfl, ?_⟩
      walk_at "rd"
      refine iteT ?_
      walk_at "rd"
      refine ⟨len_le (n := 2) (by decide), fun q hq => ?_⟩
      have nq : D ≠ q := ne_of_none e1 hq
      have hs2 : Same H0 (upd (upd H' q (.tup [.int (zx - dx), .int (zy - dy)])) D (.lst ((qs ++ [q]).map V.ref))) := fun b o hb => by
        rw [upd_ne (ne_of_none hb hD), upd_ne (ne_of_none (hs _ _ hb) hq)]
        exact hs _ _ hb
      refine ⟨qs.map V.ref, by rw [upd_ne nq]; exact e1, len_lt (by rw [List.length_map]; omega), ?_⟩
      have em : qs.map V.ref ++ [V.ref q] = (qs ++ [q]).map V.ref := by simp
      rw [em]
      refine ⟨hs2, qs ++ [q], upd_same, by simp [e2], fun j r z hj hz => ?_⟩
      by_cases hji : j < qs.length
      · rw [List.getElem?_append_left hji] at hj
        have := e3 j r z hj hz
        rw [upd_ne (ne_of this e1 (fun z => by cases z)), upd_ne (ne_of_none this hq)]
        exact this
      · rw [List.getElem?_append_right (by omega)] at hj
        have hj0 : j - qs.length = 0 := by
          cases hjj : j - qs.length with
          | zero => rfl
          | succ n => rw [hjj] at hj; simp at hj
        rw [hj0] at hj
        have er : q = r := Option.some.inj hj
        have ej : j = i := by omega
        rw [ej, hix] at hz
        have ez : (zx, zy) = z := Option.some.inj hz
        rw [← er, ← ez, upd_ne (Ne.symm nq), upd_same]
    · rintro H1 ⟨hs, qs, e1, e2, e3⟩
      obtain ⟨q1, q2, q3, rfl⟩ : ∃ q1 q2 q3, qs = [q1, q2, q3] := by
        match qs, e2 with
        | [q1, q2, q3], _ => exact ⟨q1, q2, q3, rfl⟩
      have f1 : H1 q1 = some (.tup [.int (ax - dx), .int (ay - dy)]) := e3 0 q1 (ax, ay) rfl rfl
      have f2 : H1 q2 = some (.tup [.int (bx - dx), .int (by_ - dy)]) := e3 1 q2 (bx, by_) rfl rfl
      have f3 : H1 q3 = some (.tup [.int (cx - dx), .int (cy - dy)]) := e3 2 q3 (cx, cy) rfl rfl
      have e1' : H1 D = some (.lst [.ref q1, .ref q2, .ref q3]) := e1
      have c1 : -2000000 ≤ ax - dx ∧ ax - dx ≤ 2000000 := by omega
      have c2 : -2000000 ≤ ay - dy ∧ ay - dy ≤ 2000000 := by omega
      have c3 : -2000000 ≤ bx - dx ∧ bx - dx ≤ 2000000 := by omega
      have c4 : -2000000 ≤ by_ - dy ∧ by_ - dy ≤ 2000000 := by omega
      have c5 : -2000000 ≤ cx - dx ∧ cx - dx ≤ 2000000 := by omega
      have c6 : -2000000 ≤ cy - dy ∧ cy - dy ≤ 2000000 := by omega
      unfold powZ at q
      clear e3 hd hb4 S ha hb hc hdd
      generalize ax - dx = x1 at *
      generalize ay - dy = y1 at *
      generalize bx - dx = x2 at *
      generalize by_ - dy = y2 at *
      generalize cx - dx = x3 at *
      generalize cy - dy = y3 at *
      walk_at "rd"
      walk_at "nm"
      refine ⟨D, rfl, ⟨_, SqL.of e1'⟩, fun D2 hD2 => ?_⟩
      refine lc_list (K := K) (a := D) (xs := [.ref q1, .ref q2, .ref q3]) (fun i H' => Same H1 H' ∧ H' D2 = some (.lst ((([x1 * x1 + y1 * y1, x2 * x2 + y2 * y2, x3 * x3 + y3 * y3] : List Int).take i).map V.int)))
        ⟨same_new hD2, upd_same⟩ (fun i H' _ h => SqL.of (h.1 _ _ e1')) ?_ ?_
      · rintro i z H' hz ⟨hs2, el⟩
        obtain ⟨r, x, y, rfl, hr2, bx1, by1, hi, hl⟩ : ∃ (r : Addr) (x y : Int), z = .ref r ∧ H' r = some (.tup [.int x, .int y]) ∧ (-2000000 ≤ x ∧ x ≤ 2000000) ∧ (-2000000 ≤ y ∧ y ≤ 2000000) ∧ i < 3 ∧ ([x1 * x1 + y1 * y1, x2 * x2 + y2 * y2, x3 * x3 + y3 * y3] : List Int)[i]? = some (x * x + y * y) := by
          match i, hz with
          | 0, hz => exact ⟨q1, _, _, (Option.some.inj hz).symm, hs2 _ _ f1, by omega, by omega, by decide, rfl⟩
          | 1, hz => exact ⟨q2, _, _, (Option.some.inj hz).symm, hs2 _ _ f2, by omega, by omega, by decide, rfl⟩
          | 2, hz => exact ⟨q3, _, _, (Option.some.inj hz).symm, hs2 _ _ f3, by omega, by omega, by decide, rfl⟩
        walk_at "rd"
        refine ⟨rfl, ?_⟩
        walk_at "rd"
        refine iteT ?_
        walk_at "rd"
        refine ⟨_, el, len_lt (by rw [List.length_map, List.length_take]; omega), ?_, ?_⟩
        · intro b o hb
          rw [upd_ne (ne_of_none hb hD2)]
          exact hs2 _ _ hb
        · rw [upd_same, List.take_add_one, hl, List.map_append]
          rfl
      · rintro H2 ⟨hs2, el⟩
        have el' : H2 D2 = some (.lst [.int (x1 * x1 + y1 * y1), .int (x2 * x2 + y2 * y2), .int (x3 * x3 + y3 * y3)]) := el
        have k1 := sqb c1
        have k2 := sqb c2
        have k3 := sqb c3
        have k4 := sqb c4
        have k5 := sqb c5
        have k6 := sqb c6
        walk_at "rd"
        exact q H2 (((s0.trans hs)).trans hs2)

theorem pw_l (x : Int) : (-1 ≤ sgn x ∧ sgn x ≤ 1) := by
  rcases (show x < 0 ∨ x = 0 ∨ 0 < x by omega) with h | h | h
  · rw [sgn_neg h]; omega
  · rw [sgn_zero h]; omega
  · rw [sgn_pos h]; omega
def sp_inside : Sp := fun vs H Q _ => ∃ pa pb pc pd ax ay bx by_ cx cy dx dy, vs = [.ref pa, .ref pb, .ref pc, .ref pd] ∧ S4 H pa pb pc pd ax ay bx by_ cx cy dx dy ∧ ∀ H', Same H H' → Q (.int (sgn (powZ ax ay bx by_ cx cy dx dy) * sgn (turnZ ax ay bx by_ cx cy))) H'
theorem ok_inside (T : Tops K mg) : FnOk P w K mg base CX0 2 (He.ga K "inside") T.fd_inside P_inside sp_inside := by
  refine T.F_inside.ok sc_inside (fun vs H Q E h => ?_) (fun cdv A outer s H vs Q E hr h => ?_)
  · obtain ⟨pa, pb, pc, pd, ax, ay, bx, by_, cx, cy, dx, dy, rfl, S, q⟩ := h
    rfl
  · obtain ⟨pa, pb, pc, pd, ax, ay, bx, by_, cx, cy, dx, dy, rfl, S, q⟩ := h
    refine ⟨_, PSs.nox ((pss_one (ps_ret (pe_op op_mul (pe_call (ok_sign T) (hr.mono (by decide)) (by rfl) T.g_sign T.F_sign.kp (b_sign T) .nil pass0 (pa_cons (pe_call (ok_power T) (hr.mono (by decide)) (by rfl) T.g_power T.F_power.kp (b_power T) .nil pass0 (pa_cons (pv 0) (pa_cons (pv 1) (pa_cons (pv 2) (pa_cons (pv 3) pa_nil))))) pa_nil)) (pe_call (ok_sign T) (hr.mono (by decide)) (by rfl) T.g_sign T.F_sign.kp (b_sign T) .nil pass0 (pa_cons (pe_call (ok_turn T) (hr.mono (by decide)) (by rfl) T.g_turn T.F_turn.kp (b_turn T) .nil pass0 (pa_cons (pv 0) (pa_cons (pv 1) (pa_cons (pv 2) pa_nil)))) pa_nil)))))), ?_⟩
    rw [st_inside]
    walk_at "rd"
    refine ⟨pa, pb, pc, pd, ax, ay, bx, by_, cx, cy, dx, dy, rfl, S, fun H1 h1 => ?_⟩
    walk_at "rd"
    refine ⟨_, rfl, ?_⟩
    walk_at "rd"
    refine ⟨pa, pb, pc, ax, ay, bx, by_, cx, cy, rfl, S.s.mono (.same h1), ?_⟩
    walk_at "rd"
    refine ⟨_, rfl, ?_⟩
    have b1 := pw_l (powZ ax ay bx by_ cx cy dx dy)
    walk_at "rd"
    exact q H1 h1

def sp_check_circle : Sp := fun vs H Q _ => ∃ pa pb pc ax ay bx by_ cx cy, vs = [.ref pa, .ref pb, .ref pc] ∧ S3 H pa pb pc ax ay bx by_ cx cy ∧ ∀ H', Same H H' → Q .non H'
theorem ok_check_circle (T : Tops K mg) : FnOk P w K mg base CX0 5 (He.ga K "check_circle") T.fd_check_circle P_check_circle sp_check_circle := by
  refine T.F_check_circle.ok sc_check_circle (fun vs H Q E h => ?_) (fun cdv A outer s H vs Q E hr h => ?_)
  · obtain ⟨pa, pb, pc, ax, ay, bx, by_, cx, cy, rfl, S, q⟩ := h
    rfl
  · obtain ⟨pa, pb, pc, ax, ay, bx, by_, cx, cy, rfl, S, q⟩ := h
    refine ⟨_, PSs.nox ((pss_cons (ps_expr (pe_call (ok_check_site T) (hr.mono (by decide)) (by rfl) T.g_check_site T.F_check_site.kp (b_check_site T) .nil pass0 (pa_cons pe_str (pa_cons (pv 0) pa_nil))))
       (pss_cons (ps_expr (pe_call (ok_check_site T) (hr.mono (by decide)) (by rfl) T.g_check_site T.F_check_site.kp (b_check_site T) .nil pass0 (pa_cons pe_str (pa_cons (pv 1) pa_nil))))
       (pss_one (ps_expr (pe_call (ok_check_site T) (hr.mono (by decide)) (by rfl) T.g_check_site T.F_check_site.kp (b_check_site T) .nil pass0 (pa_cons pe_str (pa_cons (pv 2) pa_nil)))))))), ?_⟩
    rw [st_check_circle]
    obtain ⟨ha, hb, hc, ⟨ba1, ba2⟩, ⟨bb1, bb2⟩, ⟨bc1, bc2⟩⟩ := id S
    walk_at "rd"
    refine ⟨_, pa, ax, ay, rfl, ha, ba1, ba2, fun H1 h1 => ?_⟩
    walk_at "rd"
    refine ⟨_, pb, bx, by_, rfl, h1 _ _ hb, bb1, bb2, fun H2 h2 => ?_⟩
    have h12 := h1.trans h2
    walk_at "rd"
    refine ⟨_, pc, cx, cy, rfl, h12 _ _ hc, bc1, bc2, fun H3 h3 => ?_⟩
    exact q H3 (h12.trans h3)

def sp_in_circle : Sp := fun vs H Q _ => ∃ pa pb pc pd ax ay bx by_ cx cy dx dy, vs = [.ref pa, .ref pb, .ref pc, .ref pd] ∧ S4 H pa pb pc pd ax ay bx by_ cx cy dx dy ∧ turnZ ax ay bx by_ cx cy ≠ 0 ∧ ∀ H', Same H H' → Q (.int (sgn (powZ ax ay bx by_ cx cy dx dy) * sgn (turnZ ax ay bx by_ cx cy))) H'
theorem ok_in_circle (T : Tops K mg) : FnOk P w K mg base CX0 6 (He.ga K "in_circle") T.fd_in_circle P_in_circle sp_in_circle := by
  refine T.F_in_circle.ok sc_in_circle (fun vs H Q E h => ?_) (fun cdv A outer s H vs Q E hr h => ?_)
  · obtain ⟨pa, pb, pc, pd, ax, ay, bx, by_, cx, cy, dx, dy, rfl, S, ht, q⟩ := h
    rfl
  · obtain ⟨pa, pb, pc, pd, ax, ay, bx, by_, cx, cy, dx, dy, rfl, S, ht, q⟩ := h
    refine ⟨_, PSs.nox ((pss_cons (ps_expr (pe_call (ok_check_circle T) (hr.mono (by decide)) (by rfl) T.g_check_circle T.F_check_circle.kp (b_check_circle T) .nil pass0 (pa_cons (pv 0) (pa_cons (pv 1) (pa_cons (pv 2) pa_nil)))))
       (pss_cons (ps_expr (pe_call (ok_check_site T) (hr.mono (by decide)) (by rfl) T.g_check_site T.F_check_site.kp (b_check_site T) .nil pass0 (pa_cons pe_str (pa_cons (pv 3) pa_nil))))
       (pss_cons (ps_if (pt_cmpR op_eq (pe_call (ok_turn T) (hr.mono (by decide)) (by rfl) T.g_turn T.F_turn.kp (b_turn T) .nil pass0 (pa_cons (pv 0) (pa_cons (pv 1) (pa_cons (pv 2) pa_nil)))) pe_int (nomark _))
       (pss_one ps_never)
       pss_nil)
       (pss_one (ps_ret (pe_call (ok_inside T) (hr.mono (by decide)) (by rfl) T.g_inside T.F_inside.kp (b_inside T) .nil pass0 (pa_cons (pv 0) (pa_cons (pv 1) (pa_cons (pv 2) (pa_cons (pv 3) pa_nil))))))))))), ?_⟩
    rw [st_in_circle]
    walk_at "rd"
    refine ⟨pa, pb, pc, ax, ay, bx, by_, cx, cy, rfl, S.s, fun H1 h1 => ?_⟩
    walk_at "rd"
    refine ⟨_, pd, dx, dy, rfl, h1 _ _ S.d, S.bd.1, S.bd.2, fun H2 h2 => ?_⟩
    have h12 := h1.trans h2
    walk_at "rd"
    refine ⟨pa, pb, pc, ax, ay, bx, by_, cx, cy, rfl, S.s.mono (.same h12), ?_⟩
    walk_at "rd"
    rw [decide_eq_false ht]
    refine iteF ?_
    walk_at "rd"
    refine ⟨pa, pb, pc, pd, ax, ay, bx, by_, cx, cy, dx, dy, rfl, S.mono (.same h12), fun H3 h3 => ?_⟩
    exact q H3 (h12.trans h3)

end

end NC
namespace NC
section
variable {P : Program} {w : World} {K : PySem.W.Frag} {mg : Str → Option Value} {base : Heap}
/-- the greatest common divisor as an int -/
def gZ (a b : Int) : Int := (Int.gcd a b : Int)
def plG (x y d : Int) : Int := gZ (gZ x y) d * (if 0 < d then 1 else -1)
theorem gZ_nn (a b : Int) : 0 ≤ gZ a b := Int.natCast_nonneg _
theorem gZ_pos {a b : Int} (h : b ≠ 0) : 0 < gZ a b := by
  unfold gZ
  have : 0 < Int.gcd a b := Int.gcd_pos_of_ne_zero_right a h
  omega
/-- a place: its three numbers in lowest terms -/
theorem place_low {x y d : Int} (hd : d ≠ 0) : ∃ x' y' d' : Int, x = plG x y d * x' ∧ y = plG x y d * y' ∧ d = plG x y d * d' ∧ 0 < d' ∧ gZ (gZ x' y') d' = 1 ∧ plG x y d ≠ 0 ∧
    x.fdiv (plG x y d) = x' ∧ y.fdiv (plG x y d) = y' ∧ d.fdiv (plG x y d) = d' ∧ x'.natAbs ≤ x.natAbs ∧ y'.natAbs ≤ y.natAbs ∧ d'.natAbs ≤ d.natAbs := by
  have g0 : 0 < gZ (gZ x y) d := gZ_pos hd
  have hs : (if 0 < d then (1 : Int) else -1) * (if 0 < d then (1 : Int) else -1) = 1 := by split <;> rfl
  have gne : plG x y d ≠ 0 := by
    unfold plG
    split <;> omega
  have dx : gZ (gZ x y) d ∣ x := Int.dvd_trans (Int.gcd_dvd_left (gZ x y) d) (Int.gcd_dvd_left x y)
  have dy : gZ (gZ x y) d ∣ y := Int.dvd_trans (Int.gcd_dvd_left (gZ x y) d) (Int.gcd_dvd_right x y)
  have dd : gZ (gZ x y) d ∣ d := Int.gcd_dvd_right (gZ x y) d
  have dv : ∀ z, gZ (gZ x y) d ∣ z → ∃ z', z = plG x y d * z' := fun z ⟨w, e⟩ => by
    refine ⟨(if 0 < d then (1 : Int) else -1) * w, ?_⟩
    unfold plG
    rw [e]
    have : gZ (gZ x y) d * (if 0 < d then (1 : Int) else -1) * ((if 0 < d then (1 : Int) else -1) * w) = gZ (gZ x y) d * ((if 0 < d then (1 : Int) else -1) * (if 0 < d then (1 : Int) else -1)) * w := by
      generalize (if 0 < d then (1 : Int) else -1) = t
      grind
    rw [this, hs]
    grind
  obtain ⟨x', ex⟩ := dv x dx
  obtain ⟨y', ey⟩ := dv y dy
  obtain ⟨d', ed⟩ := dv d dd
  have nb : (plG x y d).natAbs = (gZ (gZ x y) d).natAbs := by
    unfold plG
    rw [Int.natAbs_mul]
    split <;> simp
  have hd' : 0 < d' := by
    have e2 : gZ (gZ x y) d * (if 0 < d then (1 : Int) else -1) * d' = d := by
      have := ed.symm
      unfold plG at this
      exact this
    by_cases h : 0 < d
    · rw [if_pos h] at e2
      refine Int.not_le.mp fun z => ?_
      have : gZ (gZ x y) d * 1 * d' ≤ 0 := Int.mul_nonpos_of_nonneg_of_nonpos (by omega) z
      omega
    · rw [if_neg h] at e2
      refine Int.not_le.mp fun z => ?_
      have : 0 ≤ gZ (gZ x y) d * -1 * d' := Int.mul_nonneg_of_nonpos_of_nonpos (by omega) z
      omega
  have low : gZ (gZ x' y') d' = 1 := by
    have e1 : Int.gcd x y = (plG x y d).natAbs * Int.gcd x' y' := by
      have h := Int.gcd_mul_left (plG x y d) x' y'
      rw [← ex, ← ey] at h
      exact h
    have e2 : Int.gcd (gZ x y) d = (plG x y d).natAbs * Int.gcd (gZ x' y') d' := by
      have e3 : gZ x y = ((plG x y d).natAbs : Int) * gZ x' y' := by
        unfold gZ
        rw [e1]
        exact Int.natCast_mul _ _
      have e4 : Int.gcd (((plG x y d).natAbs : Int) * gZ x' y') d = Int.gcd (plG x y d * gZ x' y') d := by
        rw [Int.gcd_eq_natAbs_gcd_natAbs, Int.gcd_eq_natAbs_gcd_natAbs, Int.natAbs_mul, Int.natAbs_mul, Int.natAbs_natCast]
      rw [e3, e4]
      have h := Int.gcd_mul_left (plG x y d) (gZ x' y') d'
      rw [← ed] at h
      exact h
    have e5 : (gZ (gZ x y) d).natAbs = Int.gcd (gZ x y) d := by
      show ((Int.gcd (gZ x y) d : Int)).natAbs = _
      simp
    rw [nb, e5] at e2
    have p : 0 < Int.gcd (gZ x y) d := by
      have := g0
      unfold gZ at this
      unfold gZ
      omega
    have e6 : Int.gcd (gZ x' y') d' = 1 := by
      have : Int.gcd (gZ x y) d * 1 = Int.gcd (gZ x y) d * Int.gcd (gZ x' y') d' := by omega
      exact (Nat.eq_of_mul_eq_mul_left p this).symm
    show ((Int.gcd (gZ x' y') d' : Nat) : Int) = 1
    rw [e6]
    rfl
  have fd : ∀ z z', z = plG x y d * z' → z.fdiv (plG x y d) = z' := fun z z' e => by
    rw [e]
    exact Int.mul_fdiv_cancel_left _ gne
  have le : ∀ z z', z = plG x y d * z' → z'.natAbs ≤ z.natAbs := fun z z' e => by
    rw [e, Int.natAbs_mul]
    exact Nat.le_mul_of_pos_left _ (by omega)
  exact ⟨x', y', d', ex, ey, ed, hd', low, gne, fd _ _ ex, fd _ _ ey, fd _ _ ed, le _ _ ex, le _ _ ey, le _ _ ed⟩
theorem gcd_step {x y : Int} (hx : 0 ≤ x) (hy : 0 < y) : gZ y (x % y) = gZ x y := by
  obtain ⟨m, rfl⟩ := Int.eq_ofNat_of_zero_le hx
  obtain ⟨n, rfl⟩ := Int.eq_ofNat_of_zero_le (Int.le_of_lt hy)
  unfold gZ
  rw [← Int.natCast_emod, Int.gcd_natCast_natCast, Int.gcd_natCast_natCast, Nat.gcd_comm n (m % n), ← Nat.gcd_rec n m, Nat.gcd_comm n m]
theorem gZ_abs (a b : Int) : gZ (if a < 0 then -a else a) (if b < 0 then -b else b) = gZ a b := by
  have h : ∀ z : Int, (if z < 0 then -z else z).natAbs = z.natAbs := fun z => by split <;> omega
  unfold gZ
  rw [Int.gcd_eq_natAbs_gcd_natAbs, Int.gcd_eq_natAbs_gcd_natAbs, h, h]
theorem gZ_zero {a : Int} (h : 0 ≤ a) : gZ a 0 = a := by
  unfold gZ
  rw [Int.gcd_zero_right]
  omega
def sp_common : Sp := fun vs H Q _ => ∃ a b : Int, vs = [.int a, .int b] ∧ Q (.int (gZ a b)) H
theorem ok_common (T : Tops K mg) : FnOk P w K mg base CX0 1 (He.ga K "common") T.fd_common P_common sp_common := by
  refine T.F_common.ok sc_common (fun vs H Q E h => ?_) (fun cdv A outer s H vs Q E hr h => ?_)
  · obtain ⟨a, b, rfl, q⟩ := h
    rfl
  · obtain ⟨a, b, rfl, q⟩ := h
    refine ⟨_, PSs.nox ((pss_cons (ps_par (i := 0) (j := 1) (by rfl) sc_common.nd rfl rfl (by decide) rfl rfl (pa_cons (pe_callB call_absN (by rfl) T.m_abs (by decide +kernel) (pa_cons (pv 0) pa_nil)) (pa_cons (pe_callB call_absN (by rfl) T.m_abs (by decide +kernel) (pa_cons (pv 1) pa_nil)) pa_nil)) (by rfl))
       (pss_cons (ps_while PassesOwn.never (pt_cmpR op_gt (pv 1) pe_int (nomark _))
       (pss_one (ps_par (i := 0) (j := 1) (by rfl) sc_common.nd rfl rfl (by decide) rfl rfl (pa_cons (pv 1) (pa_cons (pe_op op_mod (pv 0) (pv 1)) pa_nil)) (by rfl))))
       (pss_one (ps_ret (pv 0)))))), ?_⟩
    rw [st_common]
    walk_at "rd"
    refine ⟨_, _, rfl, ?_⟩
    walk_at "rd"
    walk_at "nm"
    refine while_by (fun σ H' => H' = H ∧ ∃ x y : Int, σ = [some (.int x), some (.int y)] ∧ 0 ≤ x ∧ 0 ≤ y ∧ gZ x y = gZ a b) (fun σ _ => match σ with
      | [_, some (.int y)] => y.toNat
      | _ => 0) ⟨rfl, _, _, rfl, by split <;> omega, by split <;> omega, gZ_abs a b⟩ ?_ ?_
    · rintro σ H' ⟨rfl, x, y, rfl, hx, hy, e⟩
      walk_at "rd"
      refine ite2 (fun h => ?_) (fun h => ?_)
      · have hy0 : 0 < y := of_decide_eq_true h
        walk_at "rd"
        refine ⟨_, _, rfl, ?_⟩
        walk_at "nm"
        refine ⟨⟨rfl, y, x % y, rfl, hy, Int.emod_nonneg _ (by omega), ?_⟩, ?_⟩
        · rw [gcd_step hx hy0, e]
        · have h1 := Int.emod_lt_of_pos x hy0
          have h2 := Int.emod_nonneg x (show y ≠ 0 by omega)
          show (x % y).toNat < y.toNat
          omega
      · have hy0 : y = 0 := by
          have : ¬ (0 < y) := fun z => h (decide_eq_true z)
          omega
        subst hy0
        walk_at "rd"
        rw [gZ_zero hx] at e
        rw [e]
        exact q
    · intro σ H' Q1 Q2 hq h
      obtain ⟨v, hv, i, j, e1, e2, k, e3, h⟩ := h
      exact ⟨v, hv, i, j, e1, e2, k, e3, hq _ _ h⟩

theorem gZ_le {a b : Int} (h : 0 < b) : gZ a b ≤ b := by
  unfold gZ
  exact Int.gcd_le_right a h
theorem pow_mono {n : Nat} {a b : Nat} (h : n < 2 ^ a) (l : a ≤ b) : n < 2 ^ b := Nat.lt_of_lt_of_le h (Nat.pow_le_pow_right (by decide) l)
/-- a place in lowest terms -/
structure Pl (x y d : Int) : Prop where
  d1 : 1 ≤ d
  bx : x.natAbs < 1000000000000000000000000000000
  by_ : y.natAbs < 1000000000000000000000000000000
  bd : d < 1000000000000000000000000000000
  low : gZ (gZ x y) d = 1
def sp_reduced : Sp := fun vs H Q _ => ∃ a b : Int, vs = [.int a, .int b] ∧ 0 < b ∧ b.natAbs < 2 ^ 4000 ∧ ∀ p, H p = none → Q (.ref p) (upd H p (.tup [.int (a.fdiv (gZ a b)), .int (b.fdiv (gZ a b))]))
def sp_is_place : Sp := fun vs H Q _ => ∃ (p : Addr) (x y d : Int), vs = [.ref p] ∧ H p = some (.tup [.int x, .int y, .int d]) ∧ Pl x y d ∧ ∀ H', Same H H' → Q (.bl true) H'
def sp_check_place : Sp := fun vs H Q _ => ∃ (z : Str) (p : Addr) (x y d : Int), vs = [.str z, .ref p] ∧ H p = some (.tup [.int x, .int y, .int d]) ∧ Pl x y d ∧ ∀ H', Same H H' → Q .non H'
def sp_place_of : Sp := fun vs H Q _ => ∃ x y d : Int, vs = [.int x, .int y, .int d] ∧ d ≠ 0 ∧ d.natAbs < 2 ^ 4000 ∧ ∀ p, H p = none → Q (.ref p) (upd H p (.tup [.int (x.fdiv (plG x y d)), .int (y.fdiv (plG x y d)), .int (d.fdiv (plG x y d))]))
theorem gZ_abs_le {a b : Int} (h : b ≠ 0) : (gZ a b).natAbs ≤ b.natAbs := by
  unfold gZ
  rw [Int.natAbs_natCast]
  exact Int.gcd_le_natAbs_right a h
theorem ok_reduced (T : Tops K mg) : FnOk P w K mg base CX0 2 (He.ga K "reduced") T.fd_reduced P_reduced sp_reduced := by
  refine T.F_reduced.ok sc_reduced (fun vs H Q E h => ?_) (fun cdv A outer s H vs Q E hr h => ?_)
  · obtain ⟨a, b, rfl, hb, hb2, q⟩ := h
    rfl
  · obtain ⟨a, b, rfl, hb, hb2, q⟩ := h
    refine ⟨_, PSs.nox ((pss_cons (ps_set (i := 2) sc_reduced.nd rfl (.inl rfl) (pe_call (ok_common T) (hr.mono (by decide)) (by rfl) T.g_common T.F_common.kp (b_common T) .nil pass0 (pa_cons (pv 0) (pa_cons (pv 1) pa_nil))))
       (pss_cons (ps_set (i := 2) sc_reduced.nd rfl (.inl rfl) (pe_ifExp (pt_cmpR op_gt (pv 1) pe_int (nomark _)) (pv 2) (pe_op op_sub pe_int (pv 2))))
       (pss_one (ps_ret (pe_tup (pa_cons (pe_op op_fdivA (pv 0) (pv 2)) (pa_cons (pe_op op_fdivA (pv 1) (pv 2)) pa_nil)))))))), ?_⟩
    rw [st_reduced]
    walk_at "rd"
    refine ⟨_, _, rfl, ?_⟩
    have g0 : 0 < gZ a b := gZ_pos (by omega)
    have g1 : (gZ a b).natAbs < 2 ^ 4000 := Nat.lt_of_le_of_lt (gZ_abs_le (by omega)) hb2
    have g2 : gZ a b ≠ 0 := by omega
    walk_at "rd"
    rw [decide_eq_true hb]
    refine iteT ?_
    walk_at "rd"
    exact ⟨len_le (n := 2) (by decide), fun p hp => q p hp⟩
theorem ok_is_place (T : Tops K mg) : FnOk P w K mg base CX0 2 (He.ga K "is_place") T.fd_is_place P_is_place sp_is_place := by
  refine T.F_is_place.ok sc_is_place (fun vs H Q E h => ?_) (fun cdv A outer s H vs Q E hr h => ?_)
  · obtain ⟨p, x, y, d, rfl, hp, hl, q⟩ := h
    rfl
  · obtain ⟨p, x, y, d, rfl, hp, hl, q⟩ := h
    refine ⟨_, PSs.nox ((pss_cons (ps_if (PW.pt (pw_or (pt_not (pt_val (pe_callB (call_isiK0 K) (by rfl) T.m_isinstance (by decide +kernel) (pa_cons (pv 0) (pa_cons (pe_bltn (v := .ty "tuple") rfl T.m_tuple (by decide +kernel) rfl) pa_nil))))) (pw_or (pt_cmpR op_ne (pe_callB (call_lenK K) (by rfl) T.m_len PySem.boot_len (pa_cons (pv 0) pa_nil)) pe_int (nomark _)) (pw_or1 (pt_not (pt_val (pe_callB (cr_allK K rfl) (by rfl) T.m_all (by decide +kernel) (pa_cons (pe_lc (own := [("one", 4)]) (g := gName 4) (tt := tYes) rfl sc_is_place.nd (pi_tupK K (pv 0)) (blkOk_by (own := [("one", 4)]) (N := N_is_place) (sc := defScope (top 14)) (by decide +kernel)) (fun _ _ _ _ _ => (pg_name (i := 4) sc_is_place.nd rfl (.inl rfl))) (fun _ _ _ _ _ => pts_nil) (fun _ _ _ _ _ => (pe_call (ok_is_integer T) (hr.mono (by decide)) (by rfl) T.g_is_integer T.F_is_integer.kp (b_is_integer T) .nil pass0 (pa_cons (pv 4) pa_nil)))) pa_nil))))))))
       (pss_one (ps_ret pe_bl))
       pss_nil)
       (pss_cons (ps_asg (pv 0) (pg_tup rfl (pgs_cons (pg_name (i := 1) sc_is_place.nd rfl (.inl rfl)) (pgs_cons (pg_name (i := 2) sc_is_place.nd rfl (.inl rfl)) (pgs_cons (pg_name (i := 3) sc_is_place.nd rfl (.inl rfl)) pgs_nil)))))
       (pss_one (ps_ret (pe_and (pe_cmpR op_ge (pv 3) pe_int (nomark _)) (pe_and (pe_cmpR op_lt (pe_callB (call_max3N rfl) (by rfl) T.m_max (by decide +kernel) (pa_cons (pe_callB call_absN (by rfl) T.m_abs (by decide +kernel) (pa_cons (pv 1) pa_nil)) (pa_cons (pe_callB call_absN (by rfl) T.m_abs (by decide +kernel) (pa_cons (pv 2) pa_nil)) (pa_cons (pv 3) pa_nil)))) (pe_glob (v := .int 1000000000000000000000000000000) rfl T.c_MOST_PLACE ⟨_, rfl⟩) (nomark _)) (pe_one (pe_cmpR op_eq (pe_call (ok_common T) (hr.mono (by decide)) (by rfl) T.g_common T.F_common.kp (b_common T) .nil pass0 (pa_cons (pe_call (ok_common T) (hr.mono (by decide)) (by rfl) T.g_common T.F_common.kp (b_common T) .nil pass0 (pa_cons (pv 1) (pa_cons (pv 2) pa_nil))) (pa_cons (pv 3) pa_nil))) pe_int (nomark _)))))))))), ?_⟩
    rw [st_is_place]
    walk_at "rd"
    refine g_isi (b := true) (.base (.tup hp)) (by decide +kernel) ?_
    walk_at "rd"
    refine iteF ?_
    walk_at "rd"
    refine iteF ?_
    walk_at "rd"
    refine ⟨p, rfl, ⟨_, SqT.of hp⟩, fun D hD => ?_⟩
    refine lc_tup (K := K) (a := p) (xs := [.int x, .int y, .int d]) (fun i H' => Same H H' ∧ H' D = some (.lst (List.replicate i (.bl true)))) ⟨same_new hD, upd_same⟩ (fun i H' _ h => SqT.of (h.1 _ _ hp)) ?_ ?_
    · rintro i z H' hz ⟨hs, hl2⟩
      have hzz : ∃ n : Int, z = .int n ∧ i < 3 := by
        match i, hz with
        | 0, hz => exact ⟨x, (Option.some.inj hz).symm, by decide⟩
        | 1, hz => exact ⟨y, (Option.some.inj hz).symm, by decide⟩
        | 2, hz => exact ⟨d, (Option.some.inj hz).symm, by decide⟩
      obtain ⟨n, rfl, hi⟩ := hzz
      walk_at "rd"
      refine ⟨rfl, ?_⟩
      walk_at "rd"
      refine iteT ?_
      walk_at "rd"
      refine ⟨_, rfl, ?_⟩
      refine ⟨_, hl2, len_lt (by rw [List.length_replicate]; omega), ?_, ?_⟩
      · intro b o hb
        rw [upd_ne (ne_of_none hb hD)]
        exact hs _ _ hb
      · rw [upd_same, List.replicate_succ']
    · rintro H' ⟨hs, hl2⟩
      have hp' := hs _ _ hp
      refine ⟨D, [true, true, true], rfl, SqL.of hl2, ?_⟩
      walk_at "rd"
      refine iteF ?_
      walk_at "rd"
      rw [decide_eq_true hl.d1]
      refine iteT ?_
      have h1 := hl.bx
      have h2 := hl.by_
      have h3 := hl.bd
      have h4 := hl.d1
      walk_at "rd"
      generalize hm : (if (if y < 0 then -y else y) > (if x < 0 then -x else x) then (if d > (if y < 0 then -y else y) then d else (if y < 0 then -y else y)) else (if d > (if x < 0 then -x else x) then d else (if x < 0 then -x else x))) = m
      have hm2 : m < 1000000000000000000000000000000 := by
        rw [← hm]
        split <;> split <;> split <;> omega
      rw [decide_eq_true hm2]
      refine iteT ?_
      walk_at "rd"
      refine ⟨_, _, rfl, ?_⟩
      walk_at "rd"
      refine ⟨_, _, rfl, ?_⟩
      walk_at "rd"
      rw [hl.low]
      exact q _ hs
theorem ok_check_place (T : Tops K mg) : FnOk P w K mg base CX0 3 (He.ga K "check_place") T.fd_check_place P_check_place sp_check_place := by
  refine T.F_check_place.ok sc_check_place (fun vs H Q E h => ?_) (fun cdv A outer s H vs Q E hr h => ?_)
  · obtain ⟨z, p, x, y, d, rfl, hp, hl, q⟩ := h
    rfl
  · obtain ⟨z, p, x, y, d, rfl, hp, hl, q⟩ := h
    refine ⟨_, PSs.nox ((pss_one (ps_if (pt_not (pt_val (pe_call (ok_is_place T) (hr.mono (by decide)) (by rfl) T.g_is_place T.F_is_place.kp (b_is_place T) .nil pass0 (pa_cons (pv 1) pa_nil))))
       (pss_one ps_never)
       pss_nil))), ?_⟩
    rw [st_check_place]
    walk_at "rd"
    refine ⟨p, x, y, d, rfl, hp, hl, fun H' hs => ?_⟩
    walk_at "rd"
    refine iteF ?_
    exact q H' hs
theorem ok_place_of (T : Tops K mg) : FnOk P w K mg base CX0 2 (He.ga K "place_of") T.fd_place_of P_place_of sp_place_of := by
  refine T.F_place_of.ok sc_place_of (fun vs H Q E h => ?_) (fun cdv A outer s H vs Q E hr h => ?_)
  · obtain ⟨x, y, d, rfl, hd, hd2, q⟩ := h
    rfl
  · obtain ⟨x, y, d, rfl, hd, hd2, q⟩ := h
    refine ⟨_, PSs.nox ((pss_cons (ps_set (i := 3) sc_place_of.nd rfl (.inl rfl) (pe_call (ok_common T) (hr.mono (by decide)) (by rfl) T.g_common T.F_common.kp (b_common T) .nil pass0 (pa_cons (pe_call (ok_common T) (hr.mono (by decide)) (by rfl) T.g_common T.F_common.kp (b_common T) .nil pass0 (pa_cons (pv 0) (pa_cons (pv 1) pa_nil))) (pa_cons (pv 2) pa_nil))))
       (C8.pss_cut (ps_set (i := 3) sc_place_of.nd rfl (.inl rfl) (pe_ifExp (pt_cmpR op_gt (pv 2) pe_int (nomark _)) (pv 3) (pe_op op_sub pe_int (pv 3))))
       (pss_one (ps_ret (pe_tup (pa_cons (pe_op op_fdivA (pv 0) (pv 3)) (pa_cons (pe_op op_fdivA (pv 1) (pv 3)) (pa_cons (pe_op op_fdivA (pv 2) (pv 3)) pa_nil))))))))), ?_⟩
    rw [st_place_of]
    walk_at "rd"
    refine ⟨_, _, rfl, ?_⟩
    walk_at "rd"
    refine ⟨_, _, rfl, ?_⟩
    have g0 : 0 < gZ (gZ x y) d := gZ_pos hd
    have g1 : (gZ (gZ x y) d).natAbs < 2 ^ 4000 := Nat.lt_of_le_of_lt (gZ_abs_le hd) hd2
    refine ⟨fun σ' H' => H' = H ∧ σ' = [some (.int x), some (.int y), some (.int d), some (.int (plG x y d))], ?_, ?_⟩
    · walk_at "rd"
      refine ite2 (fun h => ?_) (fun h => ?_)
      · walk_at "rd"
        refine ⟨rfl, ?_⟩
        unfold plG
        rw [if_pos (of_decide_eq_true h), Int.mul_one]
        rfl
      · walk_at "rd"
        refine ⟨rfl, ?_⟩
        unfold plG
        rw [if_neg (fun z => h (decide_eq_true z)), show gZ (gZ x y) d * -1 = 0 - gZ (gZ x y) d by omega]
        rfl
    rintro σ1 H1 ⟨rfl, rfl⟩
    have p0 : plG x y d ≠ 0 := by
      unfold plG
      split <;> omega
    have p1 : (plG x y d).natAbs < 2 ^ 4000 := by
      have e : (plG x y d).natAbs = (gZ (gZ x y) d).natAbs := by
        unfold plG
        split <;> omega
      rw [e]
      exact g1
    walk_at "rd"
    exact ⟨len_le (n := 3) (by decide), fun p hp => q p hp⟩

end

end NC
namespace NC
section
variable {P : Program} {w : World} {K : PySem.W.Frag} {mg : Str → Option Value} {base : Heap}

/-- the centre of the circle, ahead of lowest terms -/
def cnD (ax ay bx by_ cx cy : Int) : Int := 2 * turnZ ax ay bx by_ cx cy
def cnX (ax ay bx by_ cx cy : Int) : Int := ax * cnD ax ay bx by_ cx cy + (((bx - ax) * (bx - ax) + (by_ - ay) * (by_ - ay)) * (cy - ay) - ((cx - ax) * (cx - ax) + (cy - ay) * (cy - ay)) * (by_ - ay))
def cnY (ax ay bx by_ cx cy : Int) : Int := ay * cnD ax ay bx by_ cx cy + (((cx - ax) * (cx - ax) + (cy - ay) * (cy - ay)) * (bx - ax) - ((bx - ax) * (bx - ax) + (by_ - ay) * (by_ - ay)) * (cx - ax))
theorem nb_mul {i j : Int} {a b : Nat} (h1 : i.natAbs ≤ a) (h2 : j.natAbs ≤ b) : (i * j).natAbs ≤ a * b := by
  rw [Int.natAbs_mul]
  exact Nat.mul_le_mul h1 h2
theorem turn_nb {ax ay bx by_ cx cy : Int} (h : (Bd ax ∧ Bd ay) ∧ (Bd bx ∧ Bd by_) ∧ (Bd cx ∧ Bd cy)) : (turnZ ax ay bx by_ cx cy).natAbs ≤ 8000000000000 := by
  unfold Bd at h
  have h1 := nb_mul (i := bx - ax) (j := cy - ay) (a := 2000000) (b := 2000000) (by omega) (by omega)
  have h2 := nb_mul (i := by_ - ay) (j := cx - ax) (a := 2000000) (b := 2000000) (by omega) (by omega)
  unfold turnZ
  omega
theorem cn_nb {ax ay bx by_ cx cy : Int} (h : (Bd ax ∧ Bd ay) ∧ (Bd bx ∧ Bd by_) ∧ (Bd cx ∧ Bd cy)) : (cnX ax ay bx by_ cx cy).natAbs ≤ 100000000000000000000 ∧ (cnY ax ay bx by_ cx cy).natAbs ≤ 100000000000000000000 ∧ (cnD ax ay bx by_ cx cy).natAbs ≤ 16000000000000 := by
  have ht := turn_nb h
  have hD : (cnD ax ay bx by_ cx cy).natAbs ≤ 16000000000000 := by
    unfold cnD
    omega
  unfold Bd at h
  have s1 := nb_mul (i := bx - ax) (j := bx - ax) (a := 2000000) (b := 2000000) (by omega) (by omega)
  have s2 := nb_mul (i := by_ - ay) (j := by_ - ay) (a := 2000000) (b := 2000000) (by omega) (by omega)
  have s3 := nb_mul (i := cx - ax) (j := cx - ax) (a := 2000000) (b := 2000000) (by omega) (by omega)
  have s4 := nb_mul (i := cy - ay) (j := cy - ay) (a := 2000000) (b := 2000000) (by omega) (by omega)
  have f1 : ((bx - ax) * (bx - ax) + (by_ - ay) * (by_ - ay)).natAbs ≤ 8000000000000 := by omega
  have f2 : ((cx - ax) * (cx - ax) + (cy - ay) * (cy - ay)).natAbs ≤ 8000000000000 := by omega
  have m1 := nb_mul (j := cy - ay) (b := 2000000) f1 (by omega)
  have m2 := nb_mul (j := by_ - ay) (b := 2000000) f2 (by omega)
  have m3 := nb_mul (j := bx - ax) (b := 2000000) f2 (by omega)
  have m4 := nb_mul (j := cx - ax) (b := 2000000) f1 (by omega)
  have m5 := nb_mul (i := ax) (a := 1000000) (by omega) hD
  have m6 := nb_mul (i := ay) (a := 1000000) (by omega) hD
  refine ⟨?_, ?_, hD⟩
  · unfold cnX
    omega
  · unfold cnY
    omega
/-- the number that tells which site is nearer -/
def leadZ (x y d ax ay bx by_ : Int) : Int := (d * (ax * ax + ay * ay) - 2 * (x * ax + y * ay)) - (d * (bx * bx + by_ * by_) - 2 * (x * bx + y * by_))
theorem lead_cn1 (ax ay bx by_ cx cy : Int) : leadZ (cnX ax ay bx by_ cx cy) (cnY ax ay bx by_ cx cy) (cnD ax ay bx by_ cx cy) ax ay bx by_ = 0 := by
  unfold leadZ cnX cnY cnD turnZ
  grind
theorem lead_cn2 (ax ay bx by_ cx cy : Int) : leadZ (cnX ax ay bx by_ cx cy) (cnY ax ay bx by_ cx cy) (cnD ax ay bx by_ cx cy) bx by_ cx cy = 0 := by
  unfold leadZ cnX cnY cnD turnZ
  grind
theorem lead_mul (g x y d ax ay bx by_ : Int) : leadZ (g * x) (g * y) (g * d) ax ay bx by_ = g * leadZ x y d ax ay bx by_ := by
  unfold leadZ
  grind
def cnG (ax ay bx by_ cx cy : Int) : Int := plG (cnX ax ay bx by_ cx cy) (cnY ax ay bx by_ cx cy) (cnD ax ay bx by_ cx cy)
/-- (x, y, d) is the centre in lowest terms -/
structure Cen (ax ay bx by_ cx cy x y d : Int) : Prop where
  ex : cnX ax ay bx by_ cx cy = cnG ax ay bx by_ cx cy * x
  ey : cnY ax ay bx by_ cx cy = cnG ax ay bx by_ cx cy * y
  ed : cnD ax ay bx by_ cx cy = cnG ax ay bx by_ cx cy * d
  gne : cnG ax ay bx by_ cx cy ≠ 0
  fx : x = (cnX ax ay bx by_ cx cy).fdiv (cnG ax ay bx by_ cx cy)
  fy : y = (cnY ax ay bx by_ cx cy).fdiv (cnG ax ay bx by_ cx cy)
  fd : d = (cnD ax ay bx by_ cx cy).fdiv (cnG ax ay bx by_ cx cy)
  pl : Pl x y d
def sp_centre_of : Sp := fun vs H Q _ => ∃ pa pb pc ax ay bx by_ cx cy, vs = [.ref pa, .ref pb, .ref pc] ∧ S3 H pa pb pc ax ay bx by_ cx cy ∧ turnZ ax ay bx by_ cx cy ≠ 0 ∧
  ∀ H' p x y d, Same H H' → H' p = some (.tup [.int x, .int y, .int d]) → Cen ax ay bx by_ cx cy x y d → Q (.ref p) H'
theorem Cen.lead {ax ay bx by_ cx cy x y d : Int} (h : Cen ax ay bx by_ cx cy x y d) : leadZ x y d ax ay bx by_ = 0 ∧ leadZ x y d bx by_ cx cy = 0 := by
  have h1 := lead_cn1 ax ay bx by_ cx cy
  have h2 := lead_cn2 ax ay bx by_ cx cy
  rw [h.ex, h.ey, h.ed, lead_mul] at h1 h2
  constructor
  · rcases Int.mul_eq_zero.mp h1 with z | z
    · exact absurd z h.gne
    · exact z
  · rcases Int.mul_eq_zero.mp h2 with z | z
    · exact absurd z h.gne
    · exact z
/-- squared distance of place and site, times the square of the denominator -/
def farZ (x y d sx sy : Int) : Int := (x - sx * d) * (x - sx * d) + (y - sy * d) * (y - sy * d)
def sp_square_of : Sp := fun vs H Q _ => ∃ (p s : Addr) (x y d sx sy : Int), vs = [.ref p, .ref s] ∧ H p = some (.tup [.int x, .int y, .int d]) ∧ H s = some (.tup [.int sx, .int sy]) ∧ Bd sx ∧ Bd sy ∧ Pl x y d ∧
  ∀ r, H r = none → Q (.ref r) (upd H r (.tup [.int ((farZ x y d sx sy).fdiv (gZ (farZ x y d sx sy) (d * d))), .int ((d * d).fdiv (gZ (farZ x y d sx sy) (d * d)))]))
def sp_lead : Sp := fun vs H Q _ => ∃ (p a b : Addr) (x y d ax ay bx by_ : Int), vs = [.ref p, .ref a, .ref b] ∧ H p = some (.tup [.int x, .int y, .int d]) ∧ H a = some (.tup [.int ax, .int ay]) ∧ H b = some (.tup [.int bx, .int by_]) ∧ (Bd ax ∧ Bd ay) ∧ (Bd bx ∧ Bd by_) ∧ Q (.int (leadZ x y d ax ay bx by_)) H
theorem far_nb {x y d sx sy : Int} (h : Pl x y d) (h1 : Bd sx) (h2 : Bd sy) : (x - sx * d).natAbs < 2 ^ 400 ∧ (y - sy * d).natAbs < 2 ^ 400 ∧ d.natAbs < 2 ^ 400 ∧ 0 < d * d ∧ (d * d).natAbs < 2 ^ 4000 := by
  unfold Bd at h1 h2
  have hx := h.bx
  have hy := h.by_
  have hd := h.bd
  have d1 := h.d1
  have m1 := nb_mul (i := sx) (j := d) (a := 1000000) (b := 1000000000000000000000000000000) (by omega) (by omega)
  have m2 := nb_mul (i := sy) (j := d) (a := 1000000) (b := 1000000000000000000000000000000) (by omega) (by omega)
  have m3 := nb_mul (i := d) (j := d) (a := 1000000000000000000000000000000) (b := 1000000000000000000000000000000) (by omega) (by omega)
  have e : (2 : Nat) ^ 250 = 1809251394333065553493296640760748560207343510400633813116524750123642650624 := by decide
  have l4 : (2 : Nat) ^ 250 ≤ 2 ^ 400 := Nat.pow_le_pow_right (by decide) (by decide)
  have l5 : (2 : Nat) ^ 250 ≤ 2 ^ 4000 := Nat.pow_le_pow_right (by decide) (by decide)
  generalize (2 : Nat) ^ 400 = P4 at l4 ⊢
  generalize (2 : Nat) ^ 4000 = P5 at l5 ⊢
  rw [e] at l4 l5
  refine ⟨by omega, by omega, by omega, Int.mul_pos (by omega) (by omega), by omega⟩
theorem ok_centre_of (T : Tops K mg) : FnOk P w K mg base CX0 3 (He.ga K "centre_of") T.fd_centre_of P_centre_of sp_centre_of := by
  refine T.F_centre_of.ok sc_centre_of (fun vs H Q E h => ?_) (fun cdv A outer s H vs Q E hr h => ?_)
  · obtain ⟨pa, pb, pc, ax, ay, bx, by_, cx, cy, rfl, S, ht, q⟩ := h
    rfl
  · obtain ⟨pa, pb, pc, ax, ay, bx, by_, cx, cy, rfl, S, ht, q⟩ := h
    refine ⟨_, PSs.nox ((pss_cons (ps_set (i := 3) sc_centre_of.nd rfl (.inl rfl) (pe_op op_mulA pe_int (pe_call (ok_turn T) (hr.mono (by decide)) (by rfl) T.g_turn T.F_turn.kp (b_turn T) .nil pass0 (pa_cons (pv 0) (pa_cons (pv 1) (pa_cons (pv 2) pa_nil))))))
       (pss_cons (ps_asg (pe_tup (pa_cons (pe_op op_sub (pe_ix (ix_tupK K) (pv 1) pe_int (fun _ _ => rfl)) (pe_ix (ix_tupK K) (pv 0) pe_int (fun _ _ => rfl))) (pa_cons (pe_op op_sub (pe_ix (ix_tupK K) (pv 1) pe_int (fun _ _ => rfl)) (pe_ix (ix_tupK K) (pv 0) pe_int (fun _ _ => rfl))) (pa_cons (pe_op op_sub (pe_ix (ix_tupK K) (pv 2) pe_int (fun _ _ => rfl)) (pe_ix (ix_tupK K) (pv 0) pe_int (fun _ _ => rfl))) (pa_cons (pe_op op_sub (pe_ix (ix_tupK K) (pv 2) pe_int (fun _ _ => rfl)) (pe_ix (ix_tupK K) (pv 0) pe_int (fun _ _ => rfl))) pa_nil))))) (pg_tup rfl (pgs_cons (pg_name (i := 4) sc_centre_of.nd rfl (.inl rfl)) (pgs_cons (pg_name (i := 5) sc_centre_of.nd rfl (.inl rfl)) (pgs_cons (pg_name (i := 6) sc_centre_of.nd rfl (.inl rfl)) (pgs_cons (pg_name (i := 7) sc_centre_of.nd rfl (.inl rfl)) pgs_nil))))))
       (pss_cons (ps_par (i := 8) (j := 9) (by rfl) sc_centre_of.nd rfl rfl (by decide) rfl rfl (pa_cons (pe_op op_add (pe_op op_mulA (pv 4) (pv 4)) (pe_op op_mulA (pv 5) (pv 5))) (pa_cons (pe_op op_add (pe_op op_mulA (pv 6) (pv 6)) (pe_op op_mulA (pv 7) (pv 7))) pa_nil)) (by rfl))
       (pss_cons (ps_par (i := 10) (j := 11) (by rfl) sc_centre_of.nd rfl rfl (by decide) rfl rfl (pa_cons (pe_op op_sub (pe_op op_mulA (pv 8) (pv 7)) (pe_op op_mulA (pv 9) (pv 5))) (pa_cons (pe_op op_sub (pe_op op_mulA (pv 9) (pv 4)) (pe_op op_mulA (pv 8) (pv 6))) pa_nil)) (by rfl))
       (pss_one (ps_ret (pe_call (ok_place_of T) (hr.mono (by decide)) (by rfl) T.g_place_of T.F_place_of.kp (b_place_of T) .nil pass0 (pa_cons (pe_op op_add (pe_op op_mulA (pe_ix (ix_tupK K) (pv 0) pe_int (fun _ _ => rfl)) (pv 3)) (pv 10)) (pa_cons (pe_op op_add (pe_op op_mulA (pe_ix (ix_tupK K) (pv 0) pe_int (fun _ _ => rfl)) (pv 3)) (pv 11)) (pa_cons (pv 3) pa_nil))))))))))), ?_⟩
    rw [st_centre_of]
    obtain ⟨ha, hb, hc, hd⟩ := id S
    have nb := cn_nb hd
    have tb := turn_nb hd
    have hD0 : cnD ax ay bx by_ cx cy ≠ 0 := by
      unfold cnD
      omega
    have hD1 : (cnD ax ay bx by_ cx cy).natAbs < 2 ^ 4000 := by
      refine pow_mono (a := 100) ?_ (by decide)
      have e : (2 : Nat) ^ 100 = 1267650600228229401496703205376 := by decide
      rw [e]
      omega
    obtain ⟨x', y', d', ex, ey, ed, hd', low, gne, f1, f2, f3, l1, l2, l3⟩ := place_low (x := cnX ax ay bx by_ cx cy) (y := cnY ax ay bx by_ cx cy) hD0
    unfold Bd at hd
    walk_at "rd"
    refine ⟨pa, pb, pc, ax, ay, bx, by_, cx, cy, rfl, S, ?_⟩
    have tb2 : -8000000000000 ≤ turnZ ax ay bx by_ cx cy ∧ turnZ ax ay bx by_ cx cy ≤ 8000000000000 := by omega
    generalize htz : turnZ ax ay bx by_ cx cy = tz at tb2 ⊢
    walk_at "rd"
    refine ⟨len_le (n := 4) (by decide), fun t0 ht0 => ?_⟩
    have k := same_new (o := .tup [.int (bx - ax), .int (by_ - ay), .int (cx - ax), .int (cy - ay)]) ht0
    have ha' := k _ _ ha
    have et : (upd H t0 (.tup [.int (bx - ax), .int (by_ - ay), .int (cx - ax), .int (cy - ay)])) t0 = some (.tup [.int (bx - ax), .int (by_ - ay), .int (cx - ax), .int (cy - ay)]) := upd_same
    generalize upd H t0 (.tup [.int (bx - ax), .int (by_ - ay), .int (cx - ax), .int (cy - ay)]) = H1 at k ha' et ⊢
    walk_at "rd"
    refine ⟨_, _, rfl, ?_⟩
    walk_at "rd"
    refine ⟨_, _, rfl, ?_⟩
    walk_at "rd"
    rw [← htz]
    refine ⟨cnX ax ay bx by_ cx cy, cnY ax ay bx by_ cx cy, cnD ax ay bx by_ cx cy, rfl, hD0, hD1, fun p hp => ?_⟩
    rw [f1, f2, f3]
    refine q _ p x' y' d' (k.trans (same_new hp)) upd_same ⟨ex, ey, ed, gne, f1.symm, f2.symm, f3.symm, ⟨by omega, by omega, by omega, by omega, low⟩⟩

end

end NC
namespace NC
section
variable {P : Program} {w : World} {K : PySem.W.Frag} {mg : Str → Option Value} {base : Heap}
theorem ok_square_of (T : Tops K mg) : FnOk P w K mg base CX0 3 (He.ga K "square_of") T.fd_square_of P_square_of sp_square_of := by
  refine T.F_square_of.ok sc_square_of (fun vs H Q E h => ?_) (fun cdv A outer s H vs Q E hr h => ?_)
  · obtain ⟨p, s, x, y, d, sx, sy, rfl, hp, hs, bx, by_, hl, q⟩ := h
    rfl
  · obtain ⟨p, s, x, y, d, sx, sy, rfl, hp, hs, bx, by_, hl, q⟩ := h
    refine ⟨_, PSs.nox ((pss_cons (ps_asg (pv 0) (pg_tup rfl (pgs_cons (pg_name (i := 2) sc_square_of.nd rfl (.inl rfl)) (pgs_cons (pg_name (i := 3) sc_square_of.nd rfl (.inl rfl)) (pgs_cons (pg_name (i := 4) sc_square_of.nd rfl (.inl rfl)) pgs_nil)))))
       (pss_cons (ps_par (i := 5) (j := 6) (by rfl) sc_square_of.nd rfl rfl (by decide) rfl rfl (pa_cons (pe_op op_sub (pv 2) (pe_op op_mulA (pe_ix (ix_tupK K) (pv 1) pe_int (fun _ _ => rfl)) (pv 4))) (pa_cons (pe_op op_sub (pv 3) (pe_op op_mulA (pe_ix (ix_tupK K) (pv 1) pe_int (fun _ _ => rfl)) (pv 4))) pa_nil)) (by rfl))
       (pss_one (ps_ret (pe_call (ok_reduced T) (hr.mono (by decide)) (by rfl) T.g_reduced T.F_reduced.kp (b_reduced T) .nil pass0 (pa_cons (pe_op op_add (pe_op op_mulA (pv 5) (pv 5)) (pe_op op_mulA (pv 6) (pv 6))) (pa_cons (pe_op op_mulA (pv 4) (pv 4)) pa_nil)))))))), ?_⟩
    rw [st_square_of]
    have nb := far_nb hl bx by_
    unfold Bd at bx by_
    obtain ⟨n1, n2, n3, n4, n5⟩ := nb
    walk_at "rd"
    refine ⟨_, _, rfl, ?_⟩
    walk_at "rd"
    exact ⟨_, _, rfl, n4, n5, fun r hr => q r hr⟩
theorem ok_lead (T : Tops K mg) : FnOk P w K mg base CX0 1 (He.ga K "lead") T.fd_lead P_lead sp_lead := by
  refine T.F_lead.ok sc_lead (fun vs H Q E h => ?_) (fun cdv A outer s H vs Q E hr h => ?_)
  · obtain ⟨p, a, b, x, y, d, ax, ay, bx, by_, rfl, hp, ha, hb, ba, bb, q⟩ := h
    rfl
  · obtain ⟨p, a, b, x, y, d, ax, ay, bx, by_, rfl, hp, ha, hb, ba, bb, q⟩ := h
    refine ⟨_, PSs.nox ((pss_cons (ps_asg (pv 0) (pg_tup rfl (pgs_cons (pg_name (i := 3) sc_lead.nd rfl (.inl rfl)) (pgs_cons (pg_name (i := 4) sc_lead.nd rfl (.inl rfl)) (pgs_cons (pg_name (i := 5) sc_lead.nd rfl (.inl rfl)) pgs_nil)))))
       (pss_cons (ps_set (i := 6) sc_lead.nd rfl (.inl rfl) (pe_op op_sub (pe_op op_mulA (pv 5) (pe_op op_add (pe_op op_mulA (pe_ix (ix_tupK K) (pv 1) pe_int (fun _ _ => rfl)) (pe_ix (ix_tupK K) (pv 1) pe_int (fun _ _ => rfl))) (pe_op op_mulA (pe_ix (ix_tupK K) (pv 1) pe_int (fun _ _ => rfl)) (pe_ix (ix_tupK K) (pv 1) pe_int (fun _ _ => rfl))))) (pe_op op_mulA pe_int (pe_op op_add (pe_op op_mulA (pv 3) (pe_ix (ix_tupK K) (pv 1) pe_int (fun _ _ => rfl))) (pe_op op_mulA (pv 4) (pe_ix (ix_tupK K) (pv 1) pe_int (fun _ _ => rfl)))))))
       (pss_cons (ps_set (i := 7) sc_lead.nd rfl (.inl rfl) (pe_op op_sub (pe_op op_mulA (pv 5) (pe_op op_add (pe_op op_mulA (pe_ix (ix_tupK K) (pv 2) pe_int (fun _ _ => rfl)) (pe_ix (ix_tupK K) (pv 2) pe_int (fun _ _ => rfl))) (pe_op op_mulA (pe_ix (ix_tupK K) (pv 2) pe_int (fun _ _ => rfl)) (pe_ix (ix_tupK K) (pv 2) pe_int (fun _ _ => rfl))))) (pe_op op_mulA pe_int (pe_op op_add (pe_op op_mulA (pv 3) (pe_ix (ix_tupK K) (pv 2) pe_int (fun _ _ => rfl))) (pe_op op_mulA (pv 4) (pe_ix (ix_tupK K) (pv 2) pe_int (fun _ _ => rfl)))))))
       (pss_one (ps_ret (pe_op op_sub (pv 6) (pv 7)))))))), ?_⟩
    rw [st_lead]
    unfold Bd at ba bb
    have k1 := sqb (x := ax) (by omega)
    have k2 := sqb (x := ay) (by omega)
    have k3 := sqb (x := bx) (by omega)
    have k4 := sqb (x := by_) (by omega)
    walk_at "rd"
    exact q

def sp_circle : Sp := fun vs H Q _ => ∃ pa pb pc ax ay bx by_ cx cy, vs = [.ref pa, .ref pb, .ref pc] ∧ S3 H pa pb pc ax ay bx by_ cx cy ∧ turnZ ax ay bx by_ cx cy ≠ 0 ∧
  ∀ H' r p sq x y d, Same H H' → H' r = some (.tup [.ref p, .ref sq]) → H' p = some (.tup [.int x, .int y, .int d]) → H' sq = some (.tup [.int ((farZ x y d ax ay).fdiv (gZ (farZ x y d ax ay) (d * d))), .int ((d * d).fdiv (gZ (farZ x y d ax ay) (d * d)))]) → Cen ax ay bx by_ cx cy x y d → Q (.ref r) H'
def sp_square : Sp := fun vs H Q _ => ∃ (p s : Addr) (x y d sx sy : Int), vs = [.ref p, .ref s] ∧ H p = some (.tup [.int x, .int y, .int d]) ∧ H s = some (.tup [.int sx, .int sy]) ∧ Bd sx ∧ Bd sy ∧ Pl x y d ∧
  ∀ H' r, Same H H' → H' r = some (.tup [.int ((farZ x y d sx sy).fdiv (gZ (farZ x y d sx sy) (d * d))), .int ((d * d).fdiv (gZ (farZ x y d sx sy) (d * d)))]) → Q (.ref r) H'
def sp_nearer : Sp := fun vs H Q _ => ∃ (p a b : Addr) (x y d ax ay bx by_ : Int), vs = [.ref p, .ref a, .ref b] ∧ H p = some (.tup [.int x, .int y, .int d]) ∧ H a = some (.tup [.int ax, .int ay]) ∧ H b = some (.tup [.int bx, .int by_]) ∧ (Bd ax ∧ Bd ay) ∧ (Bd bx ∧ Bd by_) ∧ Pl x y d ∧ ∀ H', Same H H' → Q (.int (sgn (leadZ x y d ax ay bx by_))) H'
def sp_lift_side : Sp := fun vs H Q _ => ∃ pa pb pc pd ax ay bx by_ cx cy dx dy, vs = [.ref pa, .ref pb, .ref pc, .ref pd] ∧ S4 H pa pb pc pd ax ay bx by_ cx cy dx dy ∧ turnZ ax ay bx by_ cx cy ≠ 0 ∧ ∀ H', Same H H' → Q (.int (0 - sgn (powZ ax ay bx by_ cx cy dx dy) * sgn (turnZ ax ay bx by_ cx cy))) H'
theorem ok_circle (T : Tops K mg) : FnOk P w K mg base CX0 6 (He.ga K "circle") T.fd_circle P_circle sp_circle := by
  refine T.F_circle.ok sc_circle (fun vs H Q E h => ?_) (fun cdv A outer s H vs Q E hr h => ?_)
  · obtain ⟨pa, pb, pc, ax, ay, bx, by_, cx, cy, rfl, S, ht, q⟩ := h
    rfl
  · obtain ⟨pa, pb, pc, ax, ay, bx, by_, cx, cy, rfl, S, ht, q⟩ := h
    refine ⟨_, PSs.nox ((pss_cons (ps_expr (pe_call (ok_check_circle T) (hr.mono (by decide)) (by rfl) T.g_check_circle T.F_check_circle.kp (b_check_circle T) .nil pass0 (pa_cons (pv 0) (pa_cons (pv 1) (pa_cons (pv 2) pa_nil)))))
       (pss_cons (ps_if (pt_cmpR op_eq (pe_call (ok_turn T) (hr.mono (by decide)) (by rfl) T.g_turn T.F_turn.kp (b_turn T) .nil pass0 (pa_cons (pv 0) (pa_cons (pv 1) (pa_cons (pv 2) pa_nil)))) pe_int (nomark _))
       (pss_one ps_never)
       pss_nil)
       (pss_cons (ps_set (i := 3) sc_circle.nd rfl (.inl rfl) (pe_call (ok_centre_of T) (hr.mono (by decide)) (by rfl) T.g_centre_of T.F_centre_of.kp (b_centre_of T) .nil pass0 (pa_cons (pv 0) (pa_cons (pv 1) (pa_cons (pv 2) pa_nil)))))
       (pss_one (ps_ret (pe_tup (pa_cons (pv 3) (pa_cons (pe_call (ok_square_of T) (hr.mono (by decide)) (by rfl) T.g_square_of T.F_square_of.kp (b_square_of T) .nil pass0 (pa_cons (pv 3) (pa_cons (pv 0) pa_nil))) pa_nil))))))))), ?_⟩
    rw [st_circle]
    walk_at "rd"
    refine ⟨pa, pb, pc, ax, ay, bx, by_, cx, cy, rfl, S, fun H1 h1 => ?_⟩
    have S1 := S.mono (.same h1)
    walk_at "rd"
    refine ⟨pa, pb, pc, ax, ay, bx, by_, cx, cy, rfl, S1, ?_⟩
    walk_at "rd"
    rw [decide_eq_false ht]
    refine iteF ?_
    walk_at "rd"
    refine ⟨pa, pb, pc, ax, ay, bx, by_, cx, cy, rfl, S1, ht, fun H2 p x y d h2 hp hC => ?_⟩
    have S2 := S1.mono (.same h2)
    walk_at "rd"
    refine ⟨p, pa, x, y, d, ax, ay, rfl, hp, S2.a, S2.bd.1.1, S2.bd.1.2, hC.pl, fun r hr => ?_⟩
    walk_at "rd"
    refine ⟨len_le (n := 2) (by decide), fun t ht2 => ?_⟩
    have k1 := same_new hr (o := .tup [.int ((farZ x y d ax ay).fdiv (gZ (farZ x y d ax ay) (d * d))), .int ((d * d).fdiv (gZ (farZ x y d ax ay) (d * d)))])
    have k2 := same_new ht2 (o := .tup [.ref p, .ref r])
    exact q _ t p r x y d ((h1.trans h2).trans (k1.trans k2)) upd_same (k2 _ _ (k1 _ _ hp)) (k2 _ _ upd_same) hC
theorem ok_square (T : Tops K mg) : FnOk P w K mg base CX0 5 (He.ga K "square") T.fd_square P_square sp_square := by
  refine T.F_square.ok sc_square (fun vs H Q E h => ?_) (fun cdv A outer s H vs Q E hr h => ?_)
  · obtain ⟨p, s, x, y, d, sx, sy, rfl, hp, hs, bx, by_, hl, q⟩ := h
    rfl
  · obtain ⟨p, s, x, y, d, sx, sy, rfl, hp, hs, bx, by_, hl, q⟩ := h
    refine ⟨_, PSs.nox ((pss_cons (ps_expr (pe_call (ok_check_place T) (hr.mono (by decide)) (by rfl) T.g_check_place T.F_check_place.kp (b_check_place T) .nil pass0 (pa_cons pe_str (pa_cons (pv 0) pa_nil))))
       (pss_cons (ps_expr (pe_call (ok_check_site T) (hr.mono (by decide)) (by rfl) T.g_check_site T.F_check_site.kp (b_check_site T) .nil pass0 (pa_cons pe_str (pa_cons (pv 1) pa_nil))))
       (pss_one (ps_ret (pe_call (ok_square_of T) (hr.mono (by decide)) (by rfl) T.g_square_of T.F_square_of.kp (b_square_of T) .nil pass0 (pa_cons (pv 0) (pa_cons (pv 1) pa_nil)))))))), ?_⟩
    rw [st_square]
    walk_at "rd"
    refine ⟨_, p, x, y, d, rfl, hp, hl, fun H1 h1 => ?_⟩
    walk_at "rd"
    refine ⟨_, s, sx, sy, rfl, h1 _ _ hs, bx, by_, fun H2 h2 => ?_⟩
    have h12 := h1.trans h2
    walk_at "rd"
    refine ⟨p, s, x, y, d, sx, sy, rfl, h12 _ _ hp, h12 _ _ hs, bx, by_, hl, fun r hr => ?_⟩
    exact q _ r (h12.trans (same_new hr)) upd_same
theorem ok_nearer (T : Tops K mg) : FnOk P w K mg base CX0 5 (He.ga K "nearer") T.fd_nearer P_nearer sp_nearer := by
  refine T.F_nearer.ok sc_nearer (fun vs H Q E h => ?_) (fun cdv A outer s H vs Q E hr h => ?_)
  · obtain ⟨p, a, b, x, y, d, ax, ay, bx, by_, rfl, hp, ha, hb, ba, bb, hl, q⟩ := h
    rfl
  · obtain ⟨p, a, b, x, y, d, ax, ay, bx, by_, rfl, hp, ha, hb, ba, bb, hl, q⟩ := h
    refine ⟨_, PSs.nox ((pss_cons (ps_expr (pe_call (ok_check_place T) (hr.mono (by decide)) (by rfl) T.g_check_place T.F_check_place.kp (b_check_place T) .nil pass0 (pa_cons pe_str (pa_cons (pv 0) pa_nil))))
       (pss_cons (ps_expr (pe_call (ok_check_site T) (hr.mono (by decide)) (by rfl) T.g_check_site T.F_check_site.kp (b_check_site T) .nil pass0 (pa_cons pe_str (pa_cons (pv 1) pa_nil))))
       (pss_cons (ps_expr (pe_call (ok_check_site T) (hr.mono (by decide)) (by rfl) T.g_check_site T.F_check_site.kp (b_check_site T) .nil pass0 (pa_cons pe_str (pa_cons (pv 2) pa_nil))))
       (pss_one (ps_ret (pe_call (ok_sign T) (hr.mono (by decide)) (by rfl) T.g_sign T.F_sign.kp (b_sign T) .nil pass0 (pa_cons (pe_call (ok_lead T) (hr.mono (by decide)) (by rfl) T.g_lead T.F_lead.kp (b_lead T) .nil pass0 (pa_cons (pv 0) (pa_cons (pv 1) (pa_cons (pv 2) pa_nil)))) pa_nil)))))))), ?_⟩
    rw [st_nearer]
    walk_at "rd"
    refine ⟨_, p, x, y, d, rfl, hp, hl, fun H1 h1 => ?_⟩
    walk_at "rd"
    refine ⟨_, a, ax, ay, rfl, h1 _ _ ha, ba.1, ba.2, fun H2 h2 => ?_⟩
    have h12 := h1.trans h2
    walk_at "rd"
    refine ⟨_, b, bx, by_, rfl, h12 _ _ hb, bb.1, bb.2, fun H3 h3 => ?_⟩
    have h13 := h12.trans h3
    walk_at "rd"
    refine ⟨p, a, b, x, y, d, ax, ay, bx, by_, rfl, h13 _ _ hp, h13 _ _ ha, h13 _ _ hb, ba, bb, ?_⟩
    walk_at "rd"
    exact ⟨_, rfl, q _ h13⟩
theorem ok_lift_side (T : Tops K mg) : FnOk P w K mg base CX0 7 (He.ga K "lift_side") T.fd_lift_side P_lift_side sp_lift_side := by
  refine T.F_lift_side.ok sc_lift_side (fun vs H Q E h => ?_) (fun cdv A outer s H vs Q E hr h => ?_)
  · obtain ⟨pa, pb, pc, pd, ax, ay, bx, by_, cx, cy, dx, dy, rfl, S, ht, q⟩ := h
    rfl
  · obtain ⟨pa, pb, pc, pd, ax, ay, bx, by_, cx, cy, dx, dy, rfl, S, ht, q⟩ := h
    refine ⟨_, PSs.nox ((pss_one (ps_ret (pe_op op_sub pe_int (pe_call (ok_in_circle T) (hr.mono (by decide)) (by rfl) T.g_in_circle T.F_in_circle.kp (b_in_circle T) .nil pass0 (pa_cons (pv 0) (pa_cons (pv 1) (pa_cons (pv 2) (pa_cons (pv 3) pa_nil))))))))), ?_⟩
    rw [st_lift_side]
    walk_at "rd"
    refine ⟨pa, pb, pc, pd, ax, ay, bx, by_, cx, cy, dx, dy, rfl, S, ht, fun H1 h1 => ?_⟩
    walk_at "rd"
    exact q _ h1

end

end NC
namespace NC
section
variable {P : Program} {w : World} {K : PySem.W.Frag} {mg : Str → Option Value} {base : Heap}

theorem pow2 (u : Int) : u ^ (2 : Int).toNat = u * u := by
  show u ^ 2 = u * u
  grind
def sp_law_square : Sp := fun vs H Q _ => ∃ (p s : Addr) (x y d sx sy : Int), vs = [.ref p, .ref s] ∧ H p = some (.tup [.int x, .int y, .int d]) ∧ H s = some (.tup [.int sx, .int sy]) ∧ Bd sx ∧ Bd sy ∧ Pl x y d ∧ Q (.int (farZ x y d sx sy)) H
theorem ok_law_square (T : Tops K mg) : FnOk P w K mg base CX0 1 (He.ga K "_law_square") T.fd_law_square P_law_square sp_law_square := by
  refine T.F_law_square.ok sc_law_square (fun vs H Q E h => ?_) (fun cdv A outer s H vs Q E hr h => ?_)
  · obtain ⟨p, s, x, y, d, sx, sy, rfl, hp, hs, bx, by_, hl, q⟩ := h
    rfl
  · obtain ⟨p, s, x, y, d, sx, sy, rfl, hp, hs, bx, by_, hl, q⟩ := h
    refine ⟨_, PSs.nox ((pss_one (ps_ret (pe_op op_add (pe_op op_powA (pe_op op_sub (pe_ix (ix_tupK K) (pv 0) pe_int (fun _ _ => rfl)) (pe_op op_mulA (pe_ix (ix_tupK K) (pv 1) pe_int (fun _ _ => rfl)) (pe_ix (ix_tupK K) (pv 0) pe_int (fun _ _ => rfl)))) pe_int) (pe_op op_powA (pe_op op_sub (pe_ix (ix_tupK K) (pv 0) pe_int (fun _ _ => rfl)) (pe_op op_mulA (pe_ix (ix_tupK K) (pv 1) pe_int (fun _ _ => rfl)) (pe_ix (ix_tupK K) (pv 0) pe_int (fun _ _ => rfl)))) pe_int))))), ?_⟩
    rw [st_law_square]
    obtain ⟨n1, n2, n3, n4, n5⟩ := far_nb hl bx by_
    unfold Bd at bx by_
    walk_at "rd"
    have e : (x - sx * d) ^ (2 : Int).toNat + (y - sy * d) ^ (2 : Int).toNat = farZ x y d sx sy := by
      rw [pow2, pow2]
      rfl
    rw [← e] at q
    exact q

def sp_law_turn : Sp := sp_turn
theorem ok_law_turn (T : Tops K mg) : FnOk P w K mg base CX0 1 (He.ga K "_law_turn") T.fd_law_turn P_law_turn sp_law_turn := by
  refine T.F_law_turn.ok sc_law_turn (fun vs H Q E h => ?_) (fun cdv A outer s H vs Q E hr h => ?_)
  · obtain ⟨pa, pb, pc, ax, ay, bx, by_, cx, cy, rfl, ⟨ha, hb, hc, hd⟩, q⟩ := h
    rfl
  · obtain ⟨pa, pb, pc, ax, ay, bx, by_, cx, cy, rfl, ⟨ha, hb, hc, hd⟩, q⟩ := h
    refine ⟨_, PSs.nox ((pss_one (ps_ret (pe_op op_sub (pe_op op_mul (pe_op op_sub (pe_ix (ix_tupK K) (pv 1) pe_int (fun _ _ => rfl)) (pe_ix (ix_tupK K) (pv 0) pe_int (fun _ _ => rfl))) (pe_op op_sub (pe_ix (ix_tupK K) (pv 2) pe_int (fun _ _ => rfl)) (pe_ix (ix_tupK K) (pv 0) pe_int (fun _ _ => rfl)))) (pe_op op_mul (pe_op op_sub (pe_ix (ix_tupK K) (pv 2) pe_int (fun _ _ => rfl)) (pe_ix (ix_tupK K) (pv 0) pe_int (fun _ _ => rfl))) (pe_op op_sub (pe_ix (ix_tupK K) (pv 1) pe_int (fun _ _ => rfl)) (pe_ix (ix_tupK K) (pv 0) pe_int (fun _ _ => rfl)))))))), ?_⟩
    rw [st_law_turn]
    unfold Bd at hd
    walk_at "rd"
    have e : (bx - ax) * (cy - ay) - (cx - ax) * (by_ - ay) = turnZ ax ay bx by_ cx cy := by
      unfold turnZ
      rw [Int.mul_comm (cx - ax)]
    rw [← e] at q
    exact q
def sp_law_common : Sp := fun vs H Q _ => ∃ a b : Int, vs = [.int a, .int b] ∧ Q (.int (gZ a b)) H
theorem ok_law_common (T : Tops K mg) : FnOk P w K mg base CX0 1 (He.ga K "_law_common") T.fd_law_common P_law_common sp_law_common := by
  refine T.F_law_common.ok sc_law_common (fun vs H Q E h => ?_) (fun cdv A outer s H vs Q E hr h => ?_)
  · obtain ⟨a, b, rfl, q⟩ := h
    rfl
  · obtain ⟨a, b, rfl, q⟩ := h
    refine ⟨_, PSs.nox ((pss_cons (ps_par (i := 0) (j := 1) (by rfl) sc_law_common.nd rfl rfl (by decide) rfl rfl (pa_cons (pe_callB call_absN (by rfl) T.m_abs (by decide +kernel) (pa_cons (pv 0) pa_nil)) (pa_cons (pe_callB call_absN (by rfl) T.m_abs (by decide +kernel) (pa_cons (pv 1) pa_nil)) pa_nil)) (by rfl))
       (pss_cons (ps_while PassesOwn.never (pt_cmpR op_gt (pv 1) pe_int (nomark _))
       (pss_one (ps_par (i := 0) (j := 1) (by rfl) sc_law_common.nd rfl rfl (by decide) rfl rfl (pa_cons (pv 1) (pa_cons (pe_op op_mod (pe_callTy call_intN (by rfl) T.m_int (by decide +kernel) (pa_cons (pv 0) pa_nil)) (pv 1)) pa_nil)) (by rfl))))
       (pss_one (ps_ret (pv 0)))))), ?_⟩
    rw [st_law_common]
    walk_at "rd"
    refine ⟨_, _, rfl, ?_⟩
    walk_at "rd"
    walk_at "nm"
    refine while_by (fun σ H' => H' = H ∧ ∃ x y : Int, σ = [some (.int x), some (.int y)] ∧ 0 ≤ x ∧ 0 ≤ y ∧ gZ x y = gZ a b) (fun σ _ => match σ with
      | [_, some (.int y)] => y.toNat
      | _ => 0) ⟨rfl, _, _, rfl, by split <;> omega, by split <;> omega, gZ_abs a b⟩ ?_ ?_
    · rintro σ H' ⟨rfl, x, y, rfl, hx, hy, e⟩
      walk_at "rd"
      refine ite2 (fun h => ?_) (fun h => ?_)
      · have hy0 : 0 < y := of_decide_eq_true h
        walk_at "rd"
        refine ⟨_, _, rfl, ?_⟩
        walk_at "nm"
        refine ⟨⟨rfl, y, x % y, rfl, hy, Int.emod_nonneg _ (by omega), ?_⟩, ?_⟩
        · rw [gcd_step hx hy0, e]
        · have h1 := Int.emod_lt_of_pos x hy0
          have h2 := Int.emod_nonneg x (show y ≠ 0 by omega)
          show (x % y).toNat < y.toNat
          omega
      · have hy0 : y = 0 := by
          have : ¬ (0 < y) := fun z => h (decide_eq_true z)
          omega
        subst hy0
        walk_at "rd"
        rw [gZ_zero hx] at e
        rw [e]
        exact q
    · intro σ H' Q1 Q2 hq h
      obtain ⟨v, hv, i, j, e1, e2, k, e3, h⟩ := h
      exact ⟨v, hv, i, j, e1, e2, k, e3, hq _ _ h⟩

def sp_law_place : Sp := sp_place_of
theorem ok_law_place (T : Tops K mg) : FnOk P w K mg base CX0 2 (He.ga K "_law_place") T.fd_law_place P_law_place sp_law_place := by
  refine T.F_law_place.ok sc_law_place (fun vs H Q E h => ?_) (fun cdv A outer s H vs Q E hr h => ?_)
  · obtain ⟨x, y, d, rfl, hd, hd2, q⟩ := h
    rfl
  · obtain ⟨x, y, d, rfl, hd, hd2, q⟩ := h
    refine ⟨_, PSs.nox ((C8.pss_cut (ps_set (i := 3) sc_law_place.nd rfl (.inl rfl) (pe_op op_mulA (pe_call (ok_law_common T) (hr.mono (by decide)) (by rfl) T.g_law_common T.F_law_common.kp (b_law_common T) .nil pass0 (pa_cons (pe_call (ok_law_common T) (hr.mono (by decide)) (by rfl) T.g_law_common T.F_law_common.kp (b_law_common T) .nil pass0 (pa_cons (pv 0) (pa_cons (pv 1) pa_nil))) (pa_cons (pv 2) pa_nil))) (pe_ifExp (pt_cmpR op_gt (pv 2) pe_int (nomark _)) pe_int (pe_un un_neg pe_int))))
       (pss_one (ps_ret (pe_tup (pa_cons (pe_op op_fdivA (pv 0) (pv 3)) (pa_cons (pe_op op_fdivA (pv 1) (pv 3)) (pa_cons (pe_op op_fdivA (pv 2) (pv 3)) pa_nil)))))))), ?_⟩
    rw [st_law_place]
    have g0 : 0 < gZ (gZ x y) d := gZ_pos hd
    have g1 : (gZ (gZ x y) d).natAbs < 2 ^ 4000 := Nat.lt_of_le_of_lt (gZ_abs_le hd) hd2
    refine ⟨fun σ' H' => H' = H ∧ σ' = [some (.int x), some (.int y), some (.int d), some (.int (plG x y d))], ?_, ?_⟩
    · walk_at "rd"
      refine ⟨_, _, rfl, ?_⟩
      walk_at "rd"
      refine ⟨_, _, rfl, ?_⟩
      walk_at "rd"
      refine ite2 (fun h => ?_) (fun h => ?_)
      · walk_at "rd"
        refine ⟨rfl, ?_⟩
        unfold plG
        rw [if_pos (of_decide_eq_true h)]
        rfl
      · walk_at "rd"
        refine ⟨rfl, ?_⟩
        unfold plG
        rw [if_neg (fun z => h (decide_eq_true z))]
        rfl
    rintro σ1 H1 ⟨rfl, rfl⟩
    have p0 : plG x y d ≠ 0 := by
      unfold plG
      split <;> omega
    have p1 : (plG x y d).natAbs < 2 ^ 4000 := by
      have e : (plG x y d).natAbs = (gZ (gZ x y) d).natAbs := by
        unfold plG
        split <;> omega
      rw [e]
      exact g1
    walk_at "rd"
    exact ⟨len_le (n := 3) (by decide), fun p hp => q p hp⟩

def sp_law_lift : Sp := fun vs H Q _ => ∃ (p : Addr) (x y : Int), vs = [.ref p] ∧ H p = some (.tup [.int x, .int y]) ∧ Bd x ∧ Bd y ∧ ∀ r, H r = none → Q (.ref r) (upd H r (.tup [.int x, .int y, .int (x * x + y * y)]))
theorem ok_law_lift (T : Tops K mg) : FnOk P w K mg base CX0 1 (He.ga K "_law_lift") T.fd_law_lift P_law_lift sp_law_lift := by
  refine T.F_law_lift.ok sc_law_lift (fun vs H Q E h => ?_) (fun cdv A outer s H vs Q E hr h => ?_)
  · obtain ⟨p, x, y, rfl, hp, bx, by_, q⟩ := h
    rfl
  · obtain ⟨p, x, y, rfl, hp, bx, by_, q⟩ := h
    refine ⟨_, PSs.nox ((pss_one (ps_ret (pe_tup (pa_cons (pe_ix (ix_tupK K) (pv 0) pe_int (fun _ _ => rfl)) (pa_cons (pe_ix (ix_tupK K) (pv 0) pe_int (fun _ _ => rfl)) (pa_cons (pe_op op_add (pe_op op_mul (pe_ix (ix_tupK K) (pv 0) pe_int (fun _ _ => rfl)) (pe_ix (ix_tupK K) (pv 0) pe_int (fun _ _ => rfl))) (pe_op op_mul (pe_ix (ix_tupK K) (pv 0) pe_int (fun _ _ => rfl)) (pe_ix (ix_tupK K) (pv 0) pe_int (fun _ _ => rfl)))) pa_nil))))))), ?_⟩
    rw [st_law_lift]
    unfold Bd at bx by_
    walk_at "rd"
    exact ⟨len_le (n := 3) (by decide), fun r hr => q r hr⟩

def sp_law_place_of : Sp := fun vs H Q _ => ∃ s : Addr, vs = [.ref s] ∧ Go s H H ∧ ∀ H' p x y d, Go s H H' → H' p = some (.tup [.int x, .int y, .int d]) → Pl x y d → Q (.ref p) H'
theorem ok_law_place_of (T : Tops K mg) : FnOk P w K mg base CX0 3 (He.ga K "_law_place_of") T.fd_law_place_of P_law_place_of sp_law_place_of := by
  refine T.F_law_place_of.ok sc_law_place_of (fun vs H Q E h => ?_) (fun cdv A outer s H vs Q E hr h => ?_)
  · obtain ⟨s, rfl, g, q⟩ := h
    rfl
  · obtain ⟨s, rfl, g, q⟩ := h
    refine ⟨_, PSs.nox ((pss_cons (ps_set (i := 1) sc_law_place_of.nd rfl (.inl rfl) (pe_call (ok_law_one T) (hr.mono (by decide)) (by rfl) T.g_law_one T.F_law_one.kp (b_law_one T) .nil pass0 (pa_cons (pv 0) (pa_cons (pe_lst (pa_cons pe_int (pa_cons (pe_op op_powA pe_int pe_int) (pa_cons (pe_op op_powA pe_int pe_int) pa_nil)))) pa_nil))))
       (pss_cons (ps_set (i := 2) sc_law_place_of.nd rfl (.inl rfl) (pe_op op_add pe_int (pe_call (ok_law_next T) (hr.mono (by decide)) (by rfl) T.g_law_next T.F_law_next.kp (b_law_next T) .nil pass0 (pa_cons (pv 0) (pa_cons (pe_call (ok_law_one T) (hr.mono (by decide)) (by rfl) T.g_law_one T.F_law_one.kp (b_law_one T) .nil pass0 (pa_cons (pv 0) (pa_cons (pe_lst (pa_cons pe_int (pa_cons pe_int (pa_cons (pv 1) pa_nil)))) pa_nil))) pa_nil)))))
       (pss_one (ps_ret (pe_call (ok_law_place T) (hr.mono (by decide)) (by rfl) T.g_law_place T.F_law_place.kp (b_law_place T) .nil pass0 (pa_cons (pe_op op_sub (pe_call (ok_law_next T) (hr.mono (by decide)) (by rfl) T.g_law_next T.F_law_next.kp (b_law_next T) .nil pass0 (pa_cons (pv 0) (pa_cons (pe_op op_mulA pe_int (pv 1)) pa_nil))) (pv 1)) (pa_cons (pe_op op_sub (pe_call (ok_law_next T) (hr.mono (by decide)) (by rfl) T.g_law_next T.F_law_next.kp (b_law_next T) .nil pass0 (pa_cons (pv 0) (pa_cons (pe_op op_mulA pe_int (pv 1)) pa_nil))) (pv 1)) (pa_cons (pv 2) pa_nil))))))))), ?_⟩
    rw [st_law_place_of]
    walk_at "rd"
    refine ⟨len_le (n := 3) (by decide), fun l hl => ?_⟩
    have g1 := g.new (o := .lst [.int 5, .int (10 ^ (3 : Int).toNat), .int (10 ^ (29 : Int).toNat)]) hl
    obtain ⟨xs1, ex1, hx1⟩ := g1.src
    obtain ⟨xs0, ex0, _⟩ := g.src
    walk_at "rd"
    refine ⟨s, l, xs1, _, rfl, ex1, hx1, upd_same, ne_of_none ex0 hl, by show 0 < 3; decide, by show 3 < 1000000; decide, fun z ys hz hy => ?_⟩
    obtain ⟨gr, rfl, bg⟩ : ∃ gr : Int, z = .int gr ∧ (5 ≤ gr ∧ gr ≤ 100000000000000000000000000000) := by
      rcases List.mem_cons.mp hz with h | h
      · exact ⟨_, h, by decide⟩
      · rcases List.mem_cons.mp h with h | h
        · exact ⟨_, h, by decide⟩
        · exact ⟨_, List.mem_singleton.mp h, by decide⟩
    have g2 := g1.draw hy
    generalize upd (upd H l (.lst [.int 5, .int (10 ^ (3 : Int).toNat), .int (10 ^ (29 : Int).toNat)])) s (.lst ys) = H2 at g2 ⊢
    walk_at "rd"
    refine ⟨len_le (n := 3) (by decide), fun l2 hl2 => ?_⟩
    have g3 := g2.new (o := .lst [.int 1, .int 4, .int gr]) hl2
    obtain ⟨xs3, ex3, hx3⟩ := g3.src
    obtain ⟨xs2, ex2, _⟩ := g2.src
    walk_at "rd"
    refine ⟨s, l2, xs3, _, rfl, ex3, hx3, upd_same, ne_of_none ex2 hl2, by show 0 < 3; decide, by show 3 < 1000000; decide, fun z ys2 hz hy2 => ?_⟩
    obtain ⟨w1, rfl, bw⟩ : ∃ w1 : Int, z = .int w1 ∧ (1 ≤ w1 ∧ w1 ≤ 100000000000000000000000000000) := by
      rcases List.mem_cons.mp hz with h | h
      · exact ⟨_, h, by decide⟩
      · rcases List.mem_cons.mp h with h | h
        · exact ⟨_, h, by decide⟩
        · exact ⟨_, List.mem_singleton.mp h, by omega⟩
    have g4 := g3.draw hy2
    generalize upd (upd H2 l2 (.lst [.int 1, .int 4, .int gr])) s (.lst ys2) = H4 at g4 ⊢
    walk_at "rd"
    refine draw_go g4 (by omega) (by omega) fun r ys3 r0 r1 hy3 => ?_
    have g5 := g4.draw hy3
    walk_at "rd"
    refine draw_go g5 (by omega) (by omega) fun r2 ys4 r20 r21 hy4 => ?_
    have g6 := g5.draw hy4
    walk_at "rd"
    refine draw_go g6 (by omega) (by omega) fun r3 ys5 r30 r31 hy5 => ?_
    have g7 := g6.draw hy5
    walk_at "rd"
    obtain ⟨x', y', d', ex, ey, ed, hd', low, gne, f1, f2, f3, l1, l2', l3⟩ := place_low (x := r2 - gr) (y := r3 - gr) (d := 1 + r) (by omega)
    refine ⟨_, _, _, rfl, by omega, ?_, fun p hp => ?_⟩
    · refine pow_mono (a := 100) ?_ (by decide)
      have e : (2 : Nat) ^ 100 = 1267650600228229401496703205376 := by decide
      rw [e]
      omega
    · rw [f1, f2, f3]
      exact q _ p x' y' d' (g7.new hp) upd_same ⟨by omega, by omega, by omega, by omega, low⟩

end

end NC
namespace NC
section
variable {P : Program} {w : World} {K : PySem.W.Frag} {mg : Str → Option Value} {base : Heap}

theorem far_lead (x y d ax ay bx by_ : Int) : farZ x y d ax ay - farZ x y d bx by_ = d * leadZ x y d ax ay bx by_ := by
  unfold farZ leadZ
  grind
theorem lead_swap (x y d ax ay bx by_ : Int) : leadZ x y d bx by_ ax ay = - leadZ x y d ax ay bx by_ := by
  unfold leadZ
  omega
/-- the sign by comparison -/
def dueN (f o : Int) : Int := if f = o then 0 else if f < o then -1 else 1
theorem due_lead {x y d ax ay bx by_ : Int} (hd : 1 ≤ d) : dueN (farZ x y d ax ay) (farZ x y d bx by_) = sgn (leadZ x y d ax ay bx by_) := by
  have e := far_lead x y d ax ay bx by_
  unfold dueN
  rcases (show leadZ x y d ax ay bx by_ < 0 ∨ leadZ x y d ax ay bx by_ = 0 ∨ 0 < leadZ x y d ax ay bx by_ by omega) with h | h | h
  · have := Int.mul_neg_of_pos_of_neg (show 0 < d by omega) h
    rw [if_neg (by omega), if_pos (by omega), sgn_neg h]
  · rw [h, Int.mul_zero] at e
    rw [if_pos (by omega), sgn_zero h]
  · have := Int.mul_pos (show 0 < d by omega) h
    rw [if_neg (by omega), if_neg (by omega), sgn_pos h]
theorem dp2 {H : Hp} {p : Addr} {a b : Int} (h : H p = some (.tup [.int a, .int b])) : Dp K H (.ref p) (.tuple [.int a, .int b]) := .tup (SqT.of h) (.cons (.int _) (.cons (.int _) .nil))
theorem eqv2 (a b : Int) : PyData.eqv (.tuple [.int a, .int b]) (.tuple [.int a, .int b]) = true := by
  simp [PyData.eqv, PyData.eqvAll]
def sp_law_near_right : Sp := fun vs H Q _ => ∃ (p a b : Addr) (x y d ax ay bx by_ : Int), vs = [.ref p, .ref a, .ref b] ∧ H p = some (.tup [.int x, .int y, .int d]) ∧ H a = some (.tup [.int ax, .int ay]) ∧ H b = some (.tup [.int bx, .int by_]) ∧ (Bd ax ∧ Bd ay) ∧ (Bd bx ∧ Bd by_) ∧ Pl x y d ∧ ∀ H', Same H H' → Q (.bl true) H'
theorem ok_law_near_right (T : Tops K mg) : FnOk P w K mg base CX0 6 (He.ga K "_law_near_right") T.fd_law_near_right P_law_near_right sp_law_near_right := by
  refine T.F_law_near_right.ok sc_law_near_right (fun vs H Q E h => ?_) (fun cdv A outer s H vs Q E hr h => ?_)
  · obtain ⟨p, a, b, x, y, d, ax, ay, bx, by_, rfl, hp, ha, hb, ba, bb, hl, q⟩ := h
    rfl
  · obtain ⟨p, a, b, x, y, d, ax, ay, bx, by_, rfl, hp, ha, hb, ba, bb, hl, q⟩ := h
    refine ⟨_, PSs.nox ((pss_cons (ps_par3 (i := 3) (j := 4) (l := 5) (by rfl) sc_law_near_right.nd rfl rfl rfl (by decide) (by decide) (by decide) rfl rfl rfl (pa_cons (pe_call (ok_law_square T) (hr.mono (by decide)) (by rfl) T.g_law_square T.F_law_square.kp (b_law_square T) .nil pass0 (pa_cons (pv 0) (pa_cons (pv 1) pa_nil))) (pa_cons (pe_call (ok_law_square T) (hr.mono (by decide)) (by rfl) T.g_law_square T.F_law_square.kp (b_law_square T) .nil pass0 (pa_cons (pv 0) (pa_cons (pv 2) pa_nil))) (pa_cons (pe_op op_mulA (pe_ix (ix_tupK K) (pv 0) pe_int (fun _ _ => rfl)) (pe_ix (ix_tupK K) (pv 0) pe_int (fun _ _ => rfl))) pa_nil))) (by rfl))
       (pss_cons (ps_set (i := 6) sc_law_near_right.nd rfl (.inl rfl) (pe_call (ok_law_common T) (hr.mono (by decide)) (by rfl) T.g_law_common T.F_law_common.kp (b_law_common T) .nil pass0 (pa_cons (pv 3) (pa_cons (pv 5) pa_nil))))
       (pss_cons (ps_if (pt_cmpR (op_neDK K hr.units) (pe_call (ok_square T) (hr.mono (by decide)) (by rfl) T.g_square T.F_square.kp (b_square T) .nil pass0 (pa_cons (pv 0) (pa_cons (pv 1) pa_nil))) (pe_tup (pa_cons (pe_op op_fdivA (pv 3) (pv 6)) (pa_cons (pe_op op_fdivA (pv 5) (pv 6)) pa_nil))) (nomark _))
       (pss_one (ps_ret pe_bl))
       pss_nil)
       (pss_cons (ps_if (pt_cmpR (op_neDK K hr.units) (pe_callN0 (ok_square T) (hr.mono (by decide)) (by rfl) T.g_square T.F_square.kp (kb_square_site_place T) pass0 (pk_cons (pv 1) (pk_cons (pv 0) pk_nil))) (pe_call (ok_square T) (hr.mono (by decide)) (by rfl) T.g_square T.F_square.kp (b_square T) .nil pass0 (pa_cons (pv 0) (pa_cons (pv 1) pa_nil))) (nomark _))
       (pss_one (ps_ret pe_bl))
       pss_nil)
       (C8.pss_cut (ps_set (i := 7) sc_law_near_right.nd rfl (.inl rfl) (pe_ifExp (pt_cmpR op_eq (pv 3) (pv 4) (nomark _)) pe_int (pe_ifExp (pt_cmpR op_lt (pv 3) (pv 4) (nomark _)) (pe_un un_neg pe_int) pe_int)))
       (pss_cons (ps_if (pt_not (pt_cmpR op_eq (pe_call (ok_nearer T) (hr.mono (by decide)) (by rfl) T.g_nearer T.F_nearer.kp (b_nearer T) .nil pass0 (pa_cons (pv 0) (pa_cons (pv 1) (pa_cons (pv 2) pa_nil)))) (pv 7) (nomark _)))
       (pss_one (ps_ret pe_bl))
       pss_nil)
       (pss_cons (ps_if (pt_not (pt_cmpR op_eq (pe_callN0 (ok_nearer T) (hr.mono (by decide)) (by rfl) T.g_nearer T.F_nearer.kp (kb_nearer_b_a_place T) pass0 (pk_cons (pv 2) (pk_cons (pv 1) (pk_cons (pv 0) pk_nil)))) (pv 7) (nomark _)))
       (pss_one (ps_ret pe_bl))
       pss_nil)
       (pss_one (ps_ret (pe_cmpR op_eq (pe_call (ok_nearer T) (hr.mono (by decide)) (by rfl) T.g_nearer T.F_nearer.kp (b_nearer T) .nil pass0 (pa_cons (pv 0) (pa_cons (pv 2) (pa_cons (pv 1) pa_nil)))) (pe_op op_sub pe_int (pv 7)) (nomark _)))))))))))), ?_⟩
    rw [st_law_near_right]
    obtain ⟨n1, n2, n3, n4, n5⟩ := far_nb hl ba.1 ba.2
    walk_at "rd"
    refine ⟨p, a, x, y, d, ax, ay, rfl, hp, ha, ba.1, ba.2, hl, ?_⟩
    walk_at "rd"
    refine ⟨p, b, x, y, d, bx, by_, rfl, hp, hb, bb.1, bb.2, hl, ?_⟩
    walk_at "rd"
    refine ⟨_, _, _, rfl, ?_⟩
    walk_at "rd"
    refine ⟨_, _, rfl, ?_⟩
    have g0 : 0 < gZ (farZ x y d ax ay) (d * d) := gZ_pos (by omega)
    have g1 : gZ (farZ x y d ax ay) (d * d) ≠ 0 := by omega
    have g2 : (gZ (farZ x y d ax ay) (d * d)).natAbs < 2 ^ 4000 := Nat.lt_of_le_of_lt (gZ_abs_le (by omega)) n5
    walk_at "rd"
    refine ⟨p, a, x, y, d, ax, ay, rfl, hp, ha, ba.1, ba.2, hl, fun H1 r1 h1 e1 => ?_⟩
    walk_at "rd"
    refine ⟨len_le (n := 2) (by decide), fun t ht => ?_⟩
    refine ⟨_, _, dp2 (same_new ht _ _ e1), dp2 upd_same, rfl, rfl, ?_⟩
    rw [eqv2]
    have h2 := h1.trans (same_new (o := .tup [.int ((farZ x y d ax ay).fdiv (gZ (farZ x y d ax ay) (d * d))), .int ((d * d).fdiv (gZ (farZ x y d ax ay) (d * d)))]) ht)
    generalize upd H1 t (.tup [.int ((farZ x y d ax ay).fdiv (gZ (farZ x y d ax ay) (d * d))), .int ((d * d).fdiv (gZ (farZ x y d ax ay) (d * d)))]) = H2 at h2 ⊢
    walk_at "rd"
    refine iteF ?_
    walk_at "rd"
    refine ⟨rfl, rfl, p, a, x, y, d, ax, ay, rfl, h2 _ _ hp, h2 _ _ ha, ba.1, ba.2, hl, fun H3 r3 h3 e3 => ?_⟩
    have h23 := h2.trans h3
    walk_at "rd"
    refine ⟨p, a, x, y, d, ax, ay, rfl, h23 _ _ hp, h23 _ _ ha, ba.1, ba.2, hl, fun H4 r4 h4 e4 => ?_⟩
    have h24 := h23.trans h4
    refine ⟨_, _, dp2 (h4 _ _ e3), dp2 e4, rfl, rfl, ?_⟩
    rw [eqv2]
    walk_at "rd"
    refine iteF ?_
    walk_at "nm"
    refine ⟨fun σ' H' => H' = H4 ∧ σ' = [some (.ref p), some (.ref a), some (.ref b), some (.int (farZ x y d ax ay)), some (.int (farZ x y d bx by_)), some (.int (d * d)), some (.int (gZ (farZ x y d ax ay) (d * d))), some (.int (dueN (farZ x y d ax ay) (farZ x y d bx by_)))], ?_, ?_⟩
    · walk_at "rd"
      refine ite2 (fun h => ?_) (fun h => ?_)
      · walk_at "rd"
        refine ⟨rfl, ?_⟩
        unfold dueN
        rw [if_pos (of_decide_eq_true h)]
        rfl
      · walk_at "rd"
        refine ite2 (fun h2 => ?_) (fun h2 => ?_)
        · walk_at "rd"
          refine ⟨rfl, ?_⟩
          unfold dueN
          rw [if_neg (fun z => h (decide_eq_true z)), if_pos (of_decide_eq_true h2)]
          rfl
        · walk_at "rd"
          refine ⟨rfl, ?_⟩
          unfold dueN
          rw [if_neg (fun z => h (decide_eq_true z)), if_neg (fun z => h2 (decide_eq_true z))]
          rfl
    rintro σ5 H5 ⟨rfl, rfl⟩
    rw [due_lead hl.d1]
    walk_at "rd"
    refine ⟨p, a, b, x, y, d, ax, ay, bx, by_, rfl, h24 _ _ hp, h24 _ _ ha, h24 _ _ hb, ba, bb, hl, fun H6 h6 => ?_⟩
    have h26 := h24.trans h6
    walk_at "rd"
    rw [decide_eq_true rfl]
    refine iteF ?_
    walk_at "rd"
    refine ⟨rfl, rfl, p, a, b, x, y, d, ax, ay, bx, by_, rfl, h26 _ _ hp, h26 _ _ ha, h26 _ _ hb, ba, bb, hl, fun H7 h7 => ?_⟩
    have h27 := h26.trans h7
    walk_at "rd"
    rw [decide_eq_true rfl]
    refine iteF ?_
    walk_at "rd"
    refine ⟨p, b, a, x, y, d, bx, by_, ax, ay, rfl, h27 _ _ hp, h27 _ _ hb, h27 _ _ ha, bb, ba, hl, fun H8 h8 => ?_⟩
    walk_at "rd"
    have e8 : decide (sgn (leadZ x y d bx by_ ax ay) = 0 - sgn (leadZ x y d ax ay bx by_)) = true := by
      rw [lead_swap, sgn_negate]
      exact decide_eq_true rfl
    rw [e8]
    exact q _ (h27.trans h8)

end

end NC
namespace NC
section
variable {P : Program} {w : World} {K : PySem.W.Frag} {mg : Str → Option Value} {base : Heap}

/-- the height of d above the plane of three lifts, times the plane's third number -/
def gapZ (ax ay bx by_ cx cy dx dy : Int) : Int :=
  (((by_ - ay) * (cx * cx + cy * cy - (ax * ax + ay * ay)) - (bx * bx + by_ * by_ - (ax * ax + ay * ay)) * (cy - ay)) * (dx - ax) + ((bx * bx + by_ * by_ - (ax * ax + ay * ay)) * (cx - ax) - (bx - ax) * (cx * cx + cy * cy - (ax * ax + ay * ay))) * (dy - ay)) + ((bx - ax) * (cy - ay) - (by_ - ay) * (cx - ax)) * (dx * dx + dy * dy - (ax * ax + ay * ay))
theorem gap_pow (ax ay bx by_ cx cy dx dy : Int) : gapZ ax ay bx by_ cx cy dx dy = - powZ ax ay bx by_ cx cy dx dy := by
  unfold gapZ powZ
  grind
theorem pow_rot (ax ay bx by_ cx cy dx dy : Int) : powZ cx cy ax ay bx by_ dx dy = powZ ax ay bx by_ cx cy dx dy := by
  unfold powZ
  grind
theorem turn_rot (ax ay bx by_ cx cy : Int) : turnZ cx cy ax ay bx by_ = turnZ ax ay bx by_ cx cy := by
  unfold turnZ
  grind
def planeZ (g t : Int) : Int := sgn (if 0 < t then g else 0 - g)
theorem plane_law {p t : Int} (h : t ≠ 0) : planeZ (-p) t = 0 - sgn p * sgn t := by
  unfold planeZ
  rcases (show t < 0 ∨ 0 < t by omega) with h | h
  · rw [if_neg (by omega), sgn_neg h, show 0 - -p = p by omega]
    omega
  · rw [if_pos h, sgn_pos h, sgn_negate]
    omega
def sp_law_plane_side : Sp := fun vs H Q _ => ∃ pa pb pc pd ax ay bx by_ cx cy dx dy, vs = [.ref pa, .ref pb, .ref pc, .ref pd] ∧ S4 H pa pb pc pd ax ay bx by_ cx cy dx dy ∧ ∀ H', Same H H' → Q (.int (planeZ (gapZ ax ay bx by_ cx cy dx dy) (turnZ ax ay bx by_ cx cy))) H'
theorem d3 {H : Hp} {D : Addr} {a b c : Int} {i : Nat} (h : H D = some (.lst (([a, b, c].take i).map V.int))) (hi : i < 3) {z : Int} (hz : [a, b, c][i]? = some z) : (upd H D (.lst (([a, b, c].take i).map V.int ++ [.int z]))) D = some (.lst (([a, b, c].take (i + 1)).map V.int)) := by
  rw [upd_same, List.take_add_one, hz, List.map_append]
  rfl
theorem ok_law_plane_side (T : Tops K mg) : FnOk P w K mg base CX0 2 (He.ga K "_law_plane_side") T.fd_law_plane_side P_law_plane_side sp_law_plane_side := by
  refine T.F_law_plane_side.ok sc_law_plane_side (fun vs H Q E h => ?_) (fun cdv A outer s H vs Q E hr h => ?_)
  · obtain ⟨pa, pb, pc, pd, ax, ay, bx, by_, cx, cy, dx, dy, rfl, S, q⟩ := h
    rfl
  · obtain ⟨pa, pb, pc, pd, ax, ay, bx, by_, cx, cy, dx, dy, rfl, S, q⟩ := h
    refine ⟨_, PSs.nox ((pss_cons (ps_asg (pe_tup (pa_cons (pe_call (ok_law_lift T) (hr.mono (by decide)) (by rfl) T.g_law_lift T.F_law_lift.kp (b_law_lift T) .nil pass0 (pa_cons (pv 0) pa_nil)) (pa_cons (pe_call (ok_law_lift T) (hr.mono (by decide)) (by rfl) T.g_law_lift T.F_law_lift.kp (b_law_lift T) .nil pass0 (pa_cons (pv 1) pa_nil)) (pa_cons (pe_call (ok_law_lift T) (hr.mono (by decide)) (by rfl) T.g_law_lift T.F_law_lift.kp (b_law_lift T) .nil pass0 (pa_cons (pv 2) pa_nil)) (pa_cons (pe_call (ok_law_lift T) (hr.mono (by decide)) (by rfl) T.g_law_lift T.F_law_lift.kp (b_law_lift T) .nil pass0 (pa_cons (pv 3) pa_nil)) pa_nil))))) (pg_tup rfl (pgs_cons (pg_name (i := 4) sc_law_plane_side.nd rfl (.inr rfl)) (pgs_cons (pg_name (i := 5) sc_law_plane_side.nd rfl (.inr rfl)) (pgs_cons (pg_name (i := 6) sc_law_plane_side.nd rfl (.inr rfl)) (pgs_cons (pg_name (i := 7) sc_law_plane_side.nd rfl (.inl rfl)) pgs_nil))))))
       (pss_cons (ps_par (i := 8) (j := 9) (by rfl) sc_law_plane_side.nd rfl rfl (by decide) rfl rfl (pa_cons (pe_lc (own := [("_law_k", 14)]) (g := gName 14) (tt := tYes) rfl sc_law_plane_side.nd (pi_range1 (by rfl) T.m_range (pa_cons pe_int pa_nil)) (blkOk_by (own := [("_law_k", 14)]) (N := N_law_plane_side) (sc := defScope (top 43)) (by decide +kernel)) (fun _ _ _ _ _ => (pg_name (i := 14) sc_law_plane_side.nd rfl (.inl rfl))) (fun _ _ _ _ _ => pts_nil) (fun _ _ _ _ _ => (pe_op op_sub (pe_ix (ix_tupK K) (pv 5) (pv 14) (fun _ _ => rfl)) (pe_ix (ix_tupK K) (pv 4) (pv 14) (fun _ _ => rfl))))) (pa_cons (pe_lc (own := [("_law_k", 14)]) (g := gName 14) (tt := tYes) rfl sc_law_plane_side.nd (pi_range1 (by rfl) T.m_range (pa_cons pe_int pa_nil)) (blkOk_by (own := [("_law_k", 14)]) (N := N_law_plane_side) (sc := defScope (top 43)) (by decide +kernel)) (fun _ _ _ _ _ => (pg_name (i := 14) sc_law_plane_side.nd rfl (.inl rfl))) (fun _ _ _ _ _ => pts_nil) (fun _ _ _ _ _ => (pe_op op_sub (pe_ix (ix_tupK K) (pv 6) (pv 14) (fun _ _ => rfl)) (pe_ix (ix_tupK K) (pv 4) (pv 14) (fun _ _ => rfl))))) pa_nil)) (by rfl))
       (pss_cons (ps_set (i := 10) sc_law_plane_side.nd rfl (.inl rfl) (pe_op op_sub (pe_op op_mul (pe_ix (ix_listK K) (pv 8) pe_int (fun _ _ => rfl)) (pe_ix (ix_listK K) (pv 9) pe_int (fun _ _ => rfl))) (pe_op op_mul (pe_ix (ix_listK K) (pv 8) pe_int (fun _ _ => rfl)) (pe_ix (ix_listK K) (pv 9) pe_int (fun _ _ => rfl)))))
       (pss_cons (ps_set (i := 11) sc_law_plane_side.nd rfl (.inl rfl) (pe_op op_sub (pe_op op_mul (pe_ix (ix_listK K) (pv 8) pe_int (fun _ _ => rfl)) (pe_ix (ix_listK K) (pv 9) pe_int (fun _ _ => rfl))) (pe_op op_mul (pe_ix (ix_listK K) (pv 8) pe_int (fun _ _ => rfl)) (pe_ix (ix_listK K) (pv 9) pe_int (fun _ _ => rfl)))))
       (pss_cons (ps_set (i := 12) sc_law_plane_side.nd rfl (.inl rfl) (pe_op op_sub (pe_op op_mul (pe_ix (ix_listK K) (pv 8) pe_int (fun _ _ => rfl)) (pe_ix (ix_listK K) (pv 9) pe_int (fun _ _ => rfl))) (pe_op op_mul (pe_ix (ix_listK K) (pv 8) pe_int (fun _ _ => rfl)) (pe_ix (ix_listK K) (pv 9) pe_int (fun _ _ => rfl)))))
       (pss_cons (ps_set (i := 13) sc_law_plane_side.nd rfl (.inl rfl) (pe_op op_add (pe_op op_mul (pv 10) (pe_op op_sub (pe_ix (ix_tupK K) (pv 7) pe_int (fun _ _ => rfl)) (pe_ix (ix_tupK K) (pv 4) pe_int (fun _ _ => rfl)))) (pe_op op_mul (pv 11) (pe_op op_sub (pe_ix (ix_tupK K) (pv 7) pe_int (fun _ _ => rfl)) (pe_ix (ix_tupK K) (pv 4) pe_int (fun _ _ => rfl))))))
       (pss_cons (ps_set (i := 13) sc_law_plane_side.nd rfl (.inl rfl) (pe_op op_add (pv 13) (pe_op op_mul (pv 12) (pe_op op_sub (pe_ix (ix_tupK K) (pv 7) pe_int (fun _ _ => rfl)) (pe_ix (ix_tupK K) (pv 4) pe_int (fun _ _ => rfl))))))
       (C8.pss_cut (ps_set (i := 13) sc_law_plane_side.nd rfl (.inl rfl) (pe_ifExp (pt_cmpR op_gt (pv 12) pe_int (nomark _)) (pv 13) (pe_op op_sub pe_int (pv 13))))
       (pss_one (ps_ret (pe_ifExp (pt_cmpR op_eq (pv 13) pe_int (nomark _)) pe_int (pe_ifExp (pt_cmpR op_gt (pv 13) pe_int (nomark _)) pe_int (pe_un un_neg pe_int)))))))))))))), ?_⟩
    rw [st_law_plane_side]
    obtain ⟨⟨ha, hb, hc, hd⟩, hdd, hb4⟩ := id S
    have ba := hd.1
    have bb := hd.2.1
    have bc := hd.2.2
    walk_at "rd"
    refine ⟨pa, ax, ay, rfl, ha, ba.1, ba.2, fun r1 hr1 => ?_⟩
    have k1 := same_new (o := .tup [.int ax, .int ay, .int (ax * ax + ay * ay)]) hr1
    walk_at "rd"
    refine ⟨pb, bx, by_, rfl, k1 _ _ hb, bb.1, bb.2, fun r2 hr2 => ?_⟩
    have k2 := same_new (o := .tup [.int bx, .int by_, .int (bx * bx + by_ * by_)]) hr2
    walk_at "rd"
    refine ⟨pc, cx, cy, rfl, k2 _ _ (k1 _ _ hc), bc.1, bc.2, fun r3 hr3 => ?_⟩
    have k3 := same_new (o := .tup [.int cx, .int cy, .int (cx * cx + cy * cy)]) hr3
    walk_at "rd"
    refine ⟨pd, dx, dy, rfl, k3 _ _ (k2 _ _ (k1 _ _ hdd)), hb4.1, hb4.2, fun r4 hr4 => ?_⟩
    have k4 := same_new (o := .tup [.int dx, .int dy, .int (dx * dx + dy * dy)]) hr4
    walk_at "rd"
    refine ⟨len_le (n := 4) (by decide), fun t ht => ?_⟩
    have k5 := same_new (o := .tup [.ref r1, .ref r2, .ref r3, .ref r4]) ht
    refine g_tupG upd_same rfl ?_
    have f1 := k5 _ _ (k4 _ _ (k3 _ _ (k2 _ _ (upd_same (H := H) (a := r1) (o := .tup [.int ax, .int ay, .int (ax * ax + ay * ay)])))))
    have f2 := k5 _ _ (k4 _ _ (k3 _ _ (upd_same (H := (upd H r1 (.tup [.int ax, .int ay, .int (ax * ax + ay * ay)]))) (a := r2) (o := .tup [.int bx, .int by_, .int (bx * bx + by_ * by_)]))))
    have f3 := k5 _ _ (k4 _ _ (upd_same (H := (upd (upd H r1 (.tup [.int ax, .int ay, .int (ax * ax + ay * ay)])) r2 (.tup [.int bx, .int by_, .int (bx * bx + by_ * by_)]))) (a := r3) (o := .tup [.int cx, .int cy, .int (cx * cx + cy * cy)])))
    have f4 := k5 _ _ (upd_same (H := (upd (upd (upd H r1 (.tup [.int ax, .int ay, .int (ax * ax + ay * ay)])) r2 (.tup [.int bx, .int by_, .int (bx * bx + by_ * by_)])) r3 (.tup [.int cx, .int cy, .int (cx * cx + cy * cy)]))) (a := r4) (o := .tup [.int dx, .int dy, .int (dx * dx + dy * dy)]))
    have kk := (((k1.trans k2).trans k3).trans k4).trans k5
    generalize upd (upd (upd (upd (upd H r1 (.tup [.int ax, .int ay, .int (ax * ax + ay * ay)])) r2 (.tup [.int bx, .int by_, .int (bx * bx + by_ * by_)])) r3 (.tup [.int cx, .int cy, .int (cx * cx + cy * cy)])) r4 (.tup [.int dx, .int dy, .int (dx * dx + dy * dy)])) t (.tup [.ref r1, .ref r2, .ref r3, .ref r4]) = H1 at f1 f2 f3 f4 kk ⊢
    unfold Bd at hd hb4
    have q1 := sqb (x := ax) (by omega)
    have q2 := sqb (x := ay) (by omega)
    have q3 := sqb (x := bx) (by omega)
    have q4 := sqb (x := by_) (by omega)
    have q5 := sqb (x := cx) (by omega)
    have q6 := sqb (x := cy) (by omega)
    have q7 := sqb (x := dx) (by omega)
    have q8 := sqb (x := dy) (by omega)
    have hq : (((by_ - ay) * (cx * cx + cy * cy - (ax * ax + ay * ay)) - (bx * bx + by_ * by_ - (ax * ax + ay * ay)) * (cy - ay)) * (dx - ax) + ((bx * bx + by_ * by_ - (ax * ax + ay * ay)) * (cx - ax) - (bx - ax) * (cx * cx + cy * cy - (ax * ax + ay * ay))) * (dy - ay)) + ((bx - ax) * (cy - ay) - (by_ - ay) * (cx - ax)) * (dx * dx + dy * dy - (ax * ax + ay * ay)) = gapZ ax ay bx by_ cx cy dx dy := rfl
    have htz : (bx - ax) * (cy - ay) - (by_ - ay) * (cx - ax) = turnZ ax ay bx by_ cx cy := rfl
    have c1 : 0 ≤ ax * ax + ay * ay ∧ ax * ax + ay * ay ≤ 8000000000000 := by omega
    have c2 : 0 ≤ bx * bx + by_ * by_ ∧ bx * bx + by_ * by_ ≤ 8000000000000 := by omega
    have c3 : 0 ≤ cx * cx + cy * cy ∧ cx * cx + cy * cy ≤ 8000000000000 := by omega
    have c4 : 0 ≤ dx * dx + dy * dy ∧ dx * dx + dy * dy ≤ 8000000000000 := by omega
    clear q1 q2 q3 q4 q5 q6 q7 q8
    generalize ax * ax + ay * ay = la at *
    generalize bx * bx + by_ * by_ = lb at *
    generalize cx * cx + cy * cy = lc at *
    generalize dx * dx + dy * dy = ld at *
    walk_at "rd"
    walk_at "nm"
    refine ⟨3, rfl, by decide, by decide, fun D hD => ?_⟩
    refine lc_range (lo := 0) (n := 3) (fun i H' => Same H1 H' ∧ H' D = some (.lst (([bx - ax, by_ - ay, lb - la].take i).map V.int))) ⟨same_new hD, upd_same⟩ ?_ ?_
    · rintro i H' hi ⟨hs, el⟩
      have g1 := hs _ _ f1
      have g2 := hs _ _ f2
      have fin : ∀ z : Int, [bx - ax, by_ - ay, lb - la][i]? = some z → Same H1 (upd H' D (.lst (([bx - ax, by_ - ay, lb - la].take i).map V.int ++ [.int z]))) := fun z _ b o hb => by
        rw [upd_ne (ne_of_none hb hD)]
        exact hs _ _ hb
      obtain rfl | rfl | rfl : i = 0 ∨ i = 1 ∨ i = 2 := by omega
      · walk_at "rd"
        refine ⟨rfl, ?_⟩
        walk_at "rd"
        refine iteT ?_
        walk_at "rd"
        exact ⟨_, el, len_lt (by rw [List.length_map, List.length_take]; omega), fin _ rfl, d3 el hi rfl⟩
      · walk_at "rd"
        refine ⟨rfl, ?_⟩
        walk_at "rd"
        refine iteT ?_
        walk_at "rd"
        exact ⟨_, el, len_lt (by rw [List.length_map, List.length_take]; omega), fin _ rfl, d3 el hi rfl⟩
      · walk_at "rd"
        refine ⟨rfl, ?_⟩
        walk_at "rd"
        refine iteT ?_
        walk_at "rd"
        exact ⟨_, el, len_lt (by rw [List.length_map, List.length_take]; omega), fin _ rfl, d3 el hi rfl⟩
    rintro H2 ⟨hs2, el2⟩
    walk_at "rd"
    refine ⟨3, rfl, by decide, by decide, fun D2 hD2 => ?_⟩
    refine lc_range (lo := 0) (n := 3) (fun i H' => Same H2 H' ∧ H' D2 = some (.lst (([cx - ax, cy - ay, lc - la].take i).map V.int))) ⟨same_new hD2, upd_same⟩ ?_ ?_
    · rintro i H' hi ⟨hs, el⟩
      have g1 := hs _ _ (hs2 _ _ f1)
      have g2 := hs _ _ (hs2 _ _ f3)
      have fin : ∀ z : Int, [cx - ax, cy - ay, lc - la][i]? = some z → Same H2 (upd H' D2 (.lst (([cx - ax, cy - ay, lc - la].take i).map V.int ++ [.int z]))) := fun z _ b o hb => by
        rw [upd_ne (ne_of_none hb hD2)]
        exact hs _ _ hb
      obtain rfl | rfl | rfl : i = 0 ∨ i = 1 ∨ i = 2 := by omega
      · walk_at "rd"
        refine ⟨rfl, ?_⟩
        walk_at "rd"
        refine iteT ?_
        walk_at "rd"
        exact ⟨_, el, len_lt (by rw [List.length_map, List.length_take]; omega), fin _ rfl, d3 el hi rfl⟩
      · walk_at "rd"
        refine ⟨rfl, ?_⟩
        walk_at "rd"
        refine iteT ?_
        walk_at "rd"
        exact ⟨_, el, len_lt (by rw [List.length_map, List.length_take]; omega), fin _ rfl, d3 el hi rfl⟩
      · walk_at "rd"
        refine ⟨rfl, ?_⟩
        walk_at "rd"
        refine iteT ?_
        walk_at "rd"
        exact ⟨_, el, len_lt (by rw [List.length_map, List.length_take]; omega), fin _ rfl, d3 el hi rfl⟩
    rintro H3 ⟨hs3, el3⟩
    have e1 : H3 D = some (.lst [.int (bx - ax), .int (by_ - ay), .int (lb - la)]) := hs3 _ _ el2
    have e2 : H3 D2 = some (.lst [.int (cx - ax), .int (cy - ay), .int (lc - la)]) := el3
    have h1 := hs3 _ _ (hs2 _ _ f1)
    have h4 := hs3 _ _ (hs2 _ _ f4)
    walk_at "rd"
    refine ⟨_, _, rfl, ?_⟩
    walk_at "rd"
    walk_at "nm"
    rw [hq, htz]
    refine ⟨fun σ' H' => H' = H3 ∧ ∃ y8 y9 y10 y11 y12, σ' = [some (.ref pa), some (.ref pb), some (.ref pc), some (.ref pd), some (.ref r1), some (.ref r2), some (.ref r3), some (.ref r4), y8, y9, y10, y11, y12, some (.int (if 0 < turnZ ax ay bx by_ cx cy then gapZ ax ay bx by_ cx cy dx dy else 0 - gapZ ax ay bx by_ cx cy dx dy)), none], ?_, ?_⟩
    · walk_at "rd"
      refine ite2 (fun h => ?_) (fun h => ?_)
      · rw [if_pos (of_decide_eq_true h)]
        walk_at "rd"
        exact ⟨rfl, _, _, _, _, _, rfl⟩
      · rw [if_neg (fun z => h (decide_eq_true z))]
        walk_at "rd"
        exact ⟨rfl, _, _, _, _, _, rfl⟩
    rintro σ5 H5 ⟨rfl, y8, y9, y10, y11, y12, rfl⟩
    have qq := q H5 ((kk.trans hs2).trans hs3)
    unfold planeZ at qq
    generalize (if 0 < turnZ ax ay bx by_ cx cy then gapZ ax ay bx by_ cx cy dx dy else 0 - gapZ ax ay bx by_ cx cy dx dy) = g at qq ⊢
    walk_at "rd"
    refine ite2 (fun h => ?_) (fun h => ?_)
    · rw [sgn_zero (of_decide_eq_true h)] at qq
      walk_at "rd"
      exact qq
    · walk_at "rd"
      refine ite2 (fun h2 => ?_) (fun h2 => ?_)
      · rw [sgn_pos (of_decide_eq_true h2)] at qq
        walk_at "rd"
        exact qq
      · rw [sgn_neg (by
          have z1 : ¬ (g = 0) := fun z => h (decide_eq_true z)
          have z2 : ¬ (0 < g) := fun z => h2 (decide_eq_true z)
          omega)] at qq
        walk_at "rd"
        exact qq

end

end NC
namespace NC
section
variable {P : Program} {w : World} {K : PySem.W.Frag} {mg : Str → Option Value} {base : Heap}

def sp_law (K : PySem.W.Frag) : Sp := fun vs H Q _ => ∃ (a : Addr) (ns : List Int), vs = [.ref a] ∧ SqL K H a (ns.map V.int) ∧ ns.length ≤ 63 ∧ (∀ z ∈ ns, Builtin.Int.intBits z ≤ 1048576) ∧ ∀ H', Q (.bl true) H'
theorem bA_law (T : Tops K mg) (s : Shared) (v : Value) : BindsTo s T.fd_law ⟨[v], []⟩ [("_law_script", v)] := FunD.bindsA (ps := P_law) T.F_law (fun _ _ _ _ _ _ us hl => match us, hl with | [_], _ => rfl) s [v] rfl
theorem Go.same {s : Addr} {H H' H'' : Hp} (g : Go s H H') (h : Same H' H'') : Go s H H'' := by
  obtain ⟨xs, e, hx⟩ := g.src
  exact ⟨g.k.trans (.same h), g.t.trans (.same h), xs, h _ _ e, hx⟩
theorem Go.tr {s : Addr} {A B C : Hp} (x : Go s A B) (y : Go s B C) : Go s A C := ⟨x.k.trans y.k, x.t.trans y.t, y.src⟩
theorem Go.st {s : Addr} {A B : Hp} (x : Go s A B) : Go s B B := ⟨.refl _, .refl _, x.src⟩
/-- one of the drawn sites -/
theorem one_go {s l : Addr} {zs : List V} {H5 H7 : Hp} {Q : VK} {E : XK} (ls : l ≠ s) (g7 : Go s H5 H7) (hl : H7 l = some (.lst zs)) (hz : SitesL H7 zs) (q : ∀ t x y H8, Go s H5 H8 → H8 l = some (.lst zs) → SitesL H8 zs → TK H7 H8 → H8 t = some (.tup [.int x, .int y]) → Bd x → Bd y → Q (.ref t) H8) : sp_law_one [.ref s, .ref l] H7 Q E := by
  obtain ⟨xs2, ex2, hx2⟩ := g7.src
  refine ⟨s, l, xs2, zs, rfl, ex2, hx2, hl, Ne.symm ls, hz.1, Nat.lt_trans hz.2.1 (by decide), fun z ys hz2 hy => ?_⟩
  obtain ⟨t, x, y, rfl, e, b1, b2⟩ := hz.2.2 z hz2
  exact q t x y _ (g7.draw hy) (by rw [upd_ne ls]; exact hl) (hz.mono (.lst ex2)) (.lst ex2) (TK.lst ex2 _ _ e) b1 b2
theorem ok_law (T : Tops K mg) : FnOk P w K mg base CX0 8 (He.ga K "law") T.fd_law P_law (sp_law K) := by
  refine T.F_law.ok sc_law (fun vs H Q E h => ?_) (fun cdv A outer s H vs Q E hr h => ?_)
  · obtain ⟨a, ns, rfl, hS, hlen, hbits, q⟩ := h
    rfl
  · obtain ⟨a, ns, rfl, hS, hlen, hbits, q⟩ := h
    refine ⟨_, PSs.nox ((pss_cons (ps_for PassesOwn.never rfl (pi_listK K (pe_op op_cat (pe_lst (pa_cons (pe_call (ok_law_cell_at T) (hr.mono (by decide)) (by rfl) T.g_law_cell_at T.F_law_cell_at.kp (b_law_cell_at T) .nil pass0 (pa_cons (pv 0) (pa_cons pe_int pa_nil))) pa_nil)) (pe_slice (sl_listK K) (pv 0) (po_some pe_int) (po_some pe_int)))) (pg_name (i := 1) sc_law.nd rfl (.inl rfl))
       (pss_cons (ps_set (i := 2) sc_law.nd rfl (.inl rfl) (pe_call (ok_law_source_of T) (hr.mono (by decide)) (by rfl) T.g_law_source_of T.F_law_source_of.kp (b_law_source_of T) .nil pass0 (pa_cons (pv 1) pa_nil)))
       (pss_one (ps_for PassesOwn.never rfl (pi_range1 (by rfl) T.m_range (pa_cons pe_int pa_nil)) (pg_name (i := 3) sc_law.nd rfl (.inl rfl))
       (pss_cons (ps_set (i := 4) sc_law.nd rfl (.inl rfl) (pe_call (ok_law_sites T) (hr.mono (by decide)) (by rfl) T.g_law_sites T.F_law_sites.kp (b_law_sites T) .nil pass0 (pa_cons (pv 2) (pa_cons pe_int pa_nil))))
       (pss_cons (ps_par3 (i := 5) (j := 6) (l := 7) (by rfl) sc_law.nd rfl rfl rfl (by decide) (by decide) (by decide) rfl rfl rfl (pa_cons (pe_call (ok_law_one T) (hr.mono (by decide)) (by rfl) T.g_law_one T.F_law_one.kp (b_law_one T) .nil pass0 (pa_cons (pv 2) (pa_cons (pv 4) pa_nil))) (pa_cons (pe_call (ok_law_one T) (hr.mono (by decide)) (by rfl) T.g_law_one T.F_law_one.kp (b_law_one T) .nil pass0 (pa_cons (pv 2) (pa_cons (pv 4) pa_nil))) (pa_cons (pe_call (ok_law_one T) (hr.mono (by decide)) (by rfl) T.g_law_one T.F_law_one.kp (b_law_one T) .nil pass0 (pa_cons (pv 2) (pa_cons (pv 4) pa_nil))) pa_nil))) (by rfl))
       (pss_cons (ps_par (i := 8) (j := 9) (by rfl) sc_law.nd rfl rfl (by decide) rfl rfl (pa_cons (pe_call (ok_law_one T) (hr.mono (by decide)) (by rfl) T.g_law_one T.F_law_one.kp (b_law_one T) .nil pass0 (pa_cons (pv 2) (pa_cons (pv 4) pa_nil))) (pa_cons (pe_call (ok_law_place_of T) (hr.mono (by decide)) (by rfl) T.g_law_place_of T.F_law_place_of.kp (b_law_place_of T) .nil pass0 (pa_cons (pv 2) pa_nil)) pa_nil)) (by rfl))
       (pss_cons (ps_if (PW.pt (pw_or (pt_not (pt_val (pe_call (ok_law_near_right T) (hr.mono (by decide)) (by rfl) T.g_law_near_right T.F_law_near_right.kp (b_law_near_right T) .nil pass0 (pa_cons (pv 9) (pa_cons (pv 5) (pa_cons (pv 6) pa_nil)))))) (pw_or1 (pt_not (pt_val (pe_call (ok_law_near_right T) (hr.mono (by decide)) (by rfl) T.g_law_near_right T.F_law_near_right.kp (b_law_near_right T) .nil pass0 (pa_cons (pv 9) (pa_cons (pv 7) (pa_cons (pv 7) pa_nil)))))))))
       (pss_one (ps_ret pe_bl))
       pss_nil)
       (pss_one (ps_if (pt_cmpR op_ne (pe_call (ok_law_turn T) (hr.mono (by decide)) (by rfl) T.g_law_turn T.F_law_turn.kp (b_law_turn T) .nil pass0 (pa_cons (pv 5) (pa_cons (pv 6) (pa_cons (pv 7) pa_nil)))) pe_int (nomark _))
       (pss_cons (ps_if (pt_cmpR op_ne (pe_call (ok_lift_side T) (hr.mono (by decide)) (by rfl) T.g_lift_side T.F_lift_side.kp (b_lift_side T) .nil pass0 (pa_cons (pv 5) (pa_cons (pv 6) (pa_cons (pv 7) (pa_cons (pv 8) pa_nil))))) (pe_call (ok_law_plane_side T) (hr.mono (by decide)) (by rfl) T.g_law_plane_side T.F_law_plane_side.kp (b_law_plane_side T) .nil pass0 (pa_cons (pv 5) (pa_cons (pv 6) (pa_cons (pv 7) (pa_cons (pv 8) pa_nil))))) (nomark _))
       (pss_one (ps_ret pe_bl))
       pss_nil)
       (pss_cons (ps_if (pt_cmpR op_ne (pe_call (ok_lift_side T) (hr.mono (by decide)) (by rfl) T.g_lift_side T.F_lift_side.kp (b_lift_side T) .nil pass0 (pa_cons (pv 7) (pa_cons (pv 5) (pa_cons (pv 6) (pa_cons (pv 8) pa_nil))))) (pe_op op_sub pe_int (pe_call (ok_in_circle T) (hr.mono (by decide)) (by rfl) T.g_in_circle T.F_in_circle.kp (b_in_circle T) .nil pass0 (pa_cons (pv 5) (pa_cons (pv 6) (pa_cons (pv 7) (pa_cons (pv 8) pa_nil)))))) (nomark _))
       (pss_one (ps_ret pe_bl))
       pss_nil)
       (pss_cons (ps_set (i := 10) sc_law.nd rfl (.inl rfl) (pe_ix (ix_tupK K) (pe_call (ok_circle T) (hr.mono (by decide)) (by rfl) T.g_circle T.F_circle.kp (b_circle T) .nil pass0 (pa_cons (pv 5) (pa_cons (pv 6) (pa_cons (pv 7) pa_nil)))) pe_int (fun _ _ => rfl)))
       (pss_cons (ps_if (pt_cmpR op_ne (pe_call (ok_nearer T) (hr.mono (by decide)) (by rfl) T.g_nearer T.F_nearer.kp (b_nearer T) .nil pass0 (pa_cons (pv 10) (pa_cons (pv 5) (pa_cons (pv 6) pa_nil)))) pe_int (nomark _))
       (pss_one (ps_ret pe_bl))
       pss_nil)
       (pss_cons (ps_if (pt_cmpR op_ne (pe_call (ok_nearer T) (hr.mono (by decide)) (by rfl) T.g_nearer T.F_nearer.kp (b_nearer T) .nil pass0 (pa_cons (pv 10) (pa_cons (pv 6) (pa_cons (pv 7) pa_nil)))) pe_int (nomark _))
       (pss_one (ps_ret pe_bl))
       pss_nil)
       (pss_one (ps_if (pt_cmpR op_ne (pe_callN0 (ok_lift_side T) (hr.mono (by decide)) (by rfl) T.g_lift_side T.F_lift_side.kp (kb_lift_side_d_c_b_a T) pass0 (pk_cons (pv 8) (pk_cons (pv 7) (pk_cons (pv 6) (pk_cons (pv 5) pk_nil))))) (pe_call (ok_lift_side T) (hr.mono (by decide)) (by rfl) T.g_lift_side T.F_lift_side.kp (b_lift_side T) .nil pass0 (pa_cons (pv 5) (pa_cons (pv 6) (pa_cons (pv 7) (pa_cons (pv 8) pa_nil))))) (nomark _))
       (pss_one (ps_ret pe_bl))
       pss_nil)))))))
       pss_nil))))))))))
       (pss_one (ps_ret (pe_cmpR (op_eqDK K hr.units) (pe_call (ok_square T) (hr.mono (by decide)) (by rfl) T.g_square T.F_square.kp (b_square T) .nil pass0 (pa_cons (pe_tup (pa_cons pe_int (pa_cons pe_int (pa_cons pe_int pa_nil)))) (pa_cons (pe_tup (pa_cons pe_int (pa_cons pe_int pa_nil))) pa_nil))) (pe_tup (pa_cons pe_int (pa_cons pe_int pa_nil))) (nomark _)))))), ?_⟩
    rw [st_law]
    walk_at "rd"
    refine ⟨a, ns, 0, rfl, hS, fun H1 h1 => ?_⟩
    walk_at "rd"
    refine ⟨len_le (n := 1) (by decide), fun p1 hp1 => ?_⟩
    walk_at "rd"
    refine ⟨a, _, rfl, (h1.trans (same_new hp1)).seq hS, fun p2 hp2 => ?_⟩
    refine ⟨p1, p2, _, _, rfl, rfl, same_new hp2 _ _ upd_same, upd_same, len_le (by
      have := cutV_length (ns.map V.int) (some 1) (some 5)
      rw [List.length_map] at this
      show 1 + _ ≤ _
      omega), fun p3 hp3 => ?_⟩
    generalize hit : [V.int (ns.getD 0 0)] ++ cutV (ns.map V.int) (some 1) (some 5) = items
    have hints : ∀ z ∈ items, ∃ n : Int, z = .int n := fun z hz => by
      rw [← hit] at hz
      rcases List.mem_append.mp hz with h | h
      · exact ⟨_, List.mem_singleton.mp h⟩
      · exact all_ints (cut_mem h)
    refine ⟨p3, rfl, ⟨_, SqL.of upd_same⟩, ?_⟩
    refine for_list (K := K) (a := p3) (xs := items) (fun i σ H' => (∃ y1 y2 y3 y4 y5 y6 y7 y8 y9 y10, σ = [some (.ref a), y1, y2, y3, y4, y5, y6, y7, y8, y9, y10]) ∧ H' p3 = some (.lst items))
      ⟨⟨none, none, none, none, none, none, none, none, none, none, rfl⟩, upd_same⟩ (fun i σ H' _ h => SqL.of h.2) ?_ ?_
    · rintro i z σ H' hz ⟨⟨y1, y2, y3, y4, y5, y6, y7, y8, y9, y10, rfl⟩, e3⟩
      obtain ⟨n, rfl⟩ := hints z (List.mem_of_getElem? hz)
      walk_at "rd"
      refine ⟨n, rfl, fun s xs hs hx => ?_⟩
      have e5 : (upd H' s (.lst xs)) p3 = some (.lst items) := same_new hs _ _ e3
      have ns3 : p3 ≠ s := ne_of_none e3 hs
      have g5 : Go s (upd H' s (.lst xs)) (upd H' s (.lst xs)) := ⟨.refl _, .refl _, xs, upd_same, hx⟩
      generalize upd H' s (.lst xs) = H5 at e5 g5 ⊢
      walk_at "rd"
      walk_at "nm"
      refine ⟨12, rfl, by decide, by decide, ?_⟩
      refine for_range (lo := 0) (n := 12) (fun i σ H6 => (∃ y3 y4 y5 y6 y7 y8 y9 y10, σ = [some (.ref a), some (.int n), some (.ref s), y3, y4, y5, y6, y7, y8, y9, y10]) ∧ Go s H5 H6) ⟨⟨y3, y4, y5, y6, y7, y8, y9, y10, rfl⟩, g5⟩ ?_ ?_
      · rintro k σ H6 hk ⟨⟨y3, y4, y5, y6, y7, y8, y9, y10, rfl⟩, g⟩
        walk_at "rd"
        obtain ⟨xs1, ex1, hx1⟩ := g.src
        refine ⟨s, 9, xs1, rfl, ex1, hx1, by decide, by decide, fun H7 l zs g7 nl hl hz => ?_⟩
        have ls : l ≠ s := fun e => by
          rw [e, ex1] at nl
          cases nl
        walk_at "rd"
        refine one_go ls (g.tr g7) hl hz fun ta ax ay H8 g8 hl8 hz8 k8 ea ba1 ba2 => ?_
        walk_at "rd"
        refine one_go ls g8 hl8 hz8 fun tb bx by_ H9 g9 hl9 hz9 k9 eb bb1 bb2 => ?_
        walk_at "rd"
        refine one_go ls g9 hl9 hz9 fun tc cx cy HA gA hlA hzA kA ec bc1 bc2 => ?_
        walk_at "rd"
        refine ⟨_, _, _, rfl, ?_⟩
        walk_at "rd"
        refine one_go ls gA hlA hzA fun td dx dy HB gB hlB hzB kB edd bd1 bd2 => ?_
        walk_at "rd"
        refine ⟨s, rfl, gB.st, fun HC sp_ x y d gC esp hpl => ?_⟩
        have gD := gB.tr gC
        have fa := gC.t _ _ (kB _ _ (kA _ _ (k9 _ _ ea)))
        have fb := gC.t _ _ (kB _ _ (kA _ _ eb))
        have fc := gC.t _ _ (kB _ _ ec)
        have fd := gC.t _ _ edd
        walk_at "rd"
        refine ⟨_, _, rfl, ?_⟩
        walk_at "rd"
        walk_at "nm"
        refine ⟨sp_, ta, tb, x, y, d, ax, ay, bx, by_, rfl, esp, fa, fb, ⟨ba1, ba2⟩, ⟨bb1, bb2⟩, hpl, fun HE hE => ?_⟩
        walk_at "rd"
        refine iteF ?_
        walk_at "rd"
        refine ⟨sp_, tc, tc, x, y, d, cx, cy, cx, cy, rfl, hE _ _ esp, hE _ _ fc, hE _ _ fc, ⟨bc1, bc2⟩, ⟨bc1, bc2⟩, hpl, fun HF hF => ?_⟩
        have hEF := hE.trans hF
        walk_at "rd"
        refine iteF ?_
        have SS : S4 HF ta tb tc td ax ay bx by_ cx cy dx dy := ⟨⟨hEF _ _ fa, hEF _ _ fb, hEF _ _ fc, ⟨ba1, ba2⟩, ⟨bb1, bb2⟩, ⟨bc1, bc2⟩⟩, hEF _ _ fd, bd1, bd2⟩
        have gF := gD.same hEF
        walk_at "rd"
        refine ⟨ta, tb, tc, ax, ay, bx, by_, cx, cy, rfl, SS.s, ?_⟩
        walk_at "rd"
        refine ite2 (fun h => ?_) (fun h => ?_)
        · have ht : turnZ ax ay bx by_ cx cy ≠ 0 := fun z => by
            rw [decide_eq_true z] at h
            exact absurd h (by decide)
          have ht2 : turnZ cx cy ax ay bx by_ ≠ 0 := by
            rw [turn_rot]
            exact ht
          walk_at "rd"
          refine ⟨ta, tb, tc, td, ax, ay, bx, by_, cx, cy, dx, dy, rfl, SS, ht, fun HG hG => ?_⟩
          have SG := SS.mono (.same hG)
          walk_at "rd"
          refine ⟨ta, tb, tc, td, ax, ay, bx, by_, cx, cy, dx, dy, rfl, SG, fun HH hH => ?_⟩
          have hGH := hG.trans hH
          walk_at "rd"
          rw [gap_pow, plane_law ht, decide_eq_true rfl]
          refine iteF ?_
          have SH := SS.mono (.same hGH)
          walk_at "rd"
          refine ⟨tc, ta, tb, td, cx, cy, ax, ay, bx, by_, dx, dy, rfl, ⟨⟨SH.s.c, SH.s.a, SH.s.b, SH.s.bd.2.2, SH.s.bd.1, SH.s.bd.2.1⟩, SH.d, SH.bd⟩, ht2, fun HI hI => ?_⟩
          have hGI := hGH.trans hI
          have SI := SS.mono (.same hGI)
          walk_at "rd"
          refine ⟨ta, tb, tc, td, ax, ay, bx, by_, cx, cy, dx, dy, rfl, SI, ht, fun HJ hJ => ?_⟩
          have hGJ := hGI.trans hJ
          have SJ := SS.mono (.same hGJ)
          walk_at "rd"
          rw [pow_rot, turn_rot, decide_eq_true rfl]
          refine iteF ?_
          walk_at "rd"
          refine ⟨ta, tb, tc, ax, ay, bx, by_, cx, cy, rfl, SJ.s, ht, fun HK r pc_ sq px py pd hK er ep esq hC => ?_⟩
          have hGK := hGJ.trans hK
          have SK := SS.mono (.same hGK)
          obtain ⟨le1, le2⟩ := hC.lead
          walk_at "rd"
          refine ⟨pc_, ta, tb, px, py, pd, ax, ay, bx, by_, rfl, ep, SK.s.a, SK.s.b, ⟨ba1, ba2⟩, ⟨bb1, bb2⟩, hC.pl, fun HL hL => ?_⟩
          have hGL := hGK.trans hL
          have SL := SS.mono (.same hGL)
          walk_at "rd"
          rw [le1, sgn_zero rfl, decide_eq_true rfl]
          refine iteF ?_
          walk_at "rd"
          refine ⟨pc_, tb, tc, px, py, pd, bx, by_, cx, cy, rfl, hL _ _ ep, SL.s.b, SL.s.c, ⟨bb1, bb2⟩, ⟨bc1, bc2⟩, hC.pl, fun HM hM => ?_⟩
          have hGM := hGL.trans hM
          have SM := SS.mono (.same hGM)
          walk_at "rd"
          rw [le2, sgn_zero rfl, decide_eq_true rfl]
          refine iteF ?_
          walk_at "rd"
          refine ⟨rfl, rfl, ta, tb, tc, td, ax, ay, bx, by_, cx, cy, dx, dy, rfl, SM, ht, fun HN hN => ?_⟩
          have hGN := hGM.trans hN
          have SN := SS.mono (.same hGN)
          walk_at "rd"
          refine ⟨ta, tb, tc, td, ax, ay, bx, by_, cx, cy, dx, dy, rfl, SN, ht, fun HO hO => ?_⟩
          walk_at "rd"
          rw [decide_eq_true rfl]
          refine iteF ?_
          walk_at "nm"
          exact ⟨⟨_, _, _, _, _, _, _, _, rfl⟩, gF.same (hGN.trans hO)⟩
        · walk_at "nm"
          exact ⟨⟨_, _, _, _, _, _, _, _, rfl⟩, gF⟩
      · rintro σ H6 ⟨⟨y3, y4, y5, y6, y7, y8, y9, y10, rfl⟩, g⟩
        exact ⟨⟨_, _, _, _, _, _, _, _, _, _, rfl⟩, g.k _ _ ns3 e5⟩
    · rintro σ H' ⟨⟨y1, y2, y3, y4, y5, y6, y7, y8, y9, y10, rfl⟩, e3⟩
      walk_at "rd"
      refine ⟨len_le (n := 3) (by decide), fun t1 ht1 => ?_⟩
      walk_at "rd"
      refine ⟨len_le (n := 2) (by decide), fun t2 ht2 => ?_⟩
      walk_at "rd"
      refine ⟨t1, t2, 1, 1, 2, 1, 0, rfl, same_new ht2 _ _ upd_same, upd_same, by unfold Bd; decide, by unfold Bd; decide, ⟨by decide, by decide, by decide, by decide, by decide⟩, fun H3 r h3 er => ?_⟩
      walk_at "rd"
      refine ⟨len_le (n := 2) (by decide), fun t3 ht3 => ?_⟩
      have er' : H3 r = some (.tup [.int 1, .int 2]) := er
      refine ⟨_, _, dp2 (same_new ht3 _ _ er'), dp2 (a := 1) (b := 2) upd_same, rfl, rfl, ?_⟩
      rw [eqv2]
      exact q _

end

end NC
open PySem PySem.W PySem.Calls PyProof.Rows
theorem PySem.Challenge.cw_nearcells_k03_whole_lifts_and_nearness_holds : PySem.Challenge.rw_nearcells_k03_whole_lifts_and_nearness.Holds := by
  w_on; o_law
  refine HandSHeadRun.head_any (r := OpenLaw.row PySem.Challenge.rw_nearcells_k03_whole_lifts_and_nearness) (q := view (OpenLaw.row PySem.Challenge.rw_nearcells_k03_whole_lifts_and_nearness).prog [46]) (H := NC.hk) (ob := NC.ob) (M := 4000) (loose := NC.loose) (d := HandSHeadRun.topDef (OpenLaw.row PySem.Challenge.rw_nearcells_k03_whole_lifts_and_nearness).prog 46) (kwd := []) NC.ob_eq
    (by kernel_rfl) (fun s => by kernel_rfl) NC.run (by kernel_rfl) (by kernel_rfl) (by kernel_rfl) (by rfl) (by first | assumption | decide +kernel) (by decide +kernel) ⟨rfl, rfl, rfl, rfl, rfl, by decide +kernel⟩ ?hw ?hc
  case hw => w_witness2
  case hc =>
    refine L2.walk_ofBE (l := PySem.Challenge.rw_nearcells_k03_whole_lifts_and_nearness) (n := 63) (k := 8) (x := "_law_script") (CX := L2.CX0) rfl (by decide) (by kernel_rfl) ⟨rfl, by decide, by decide⟩ ?F (fun _ _ _ _ z => z)
    intro w mg fa h Y G hmg0
    obtain ⟨K, KX, c⟩ := Y
    have hmg : mg ("law" : PySem.Str) = some (.ref fa) := by
      have e : (HandSHeadRun.topDef (OpenLaw.row PySem.Challenge.rw_nearcells_k03_whole_lifts_and_nearness).prog 46).name = ("law" : PySem.Str) := by kernel_rfl
      rw [← e]
      exact hmg0
    obtain ⟨T⟩ := NC.tops KX G c.t.d
    have e := hmg.symm.trans T.g_law
    cases e
    exact ⟨K, T.fd_law, NC.sp_law K, KX, NC.bA_law T, fun H a ns hl hb _ hS => ⟨a, ns, rfl, hS, hl, hb, fun _ => rfl⟩, fun base _ _ => NC.ok_law T⟩
