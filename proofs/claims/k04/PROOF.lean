import PyProof.Rows.All
import Wide.All
import OpenK.AllK
import Wide.FinOn
import PyProof.EqAt
import PyProof.EqKinds
import PyProof.TupleCall
import KE.KStateDown
import Lean
import HandS.ForMost
import HandS.ForExc
import HandS.More
import HandS.Sort
import HandS.SortOrd
import HandS.SortRule
import HandS.SortInts
import HandS.Conv
import HandS.Deep
import HandS.Style
import HandS.Flow
import HandS.Wide
import HandS.Defaults
import HandS.IsInst
import HandS.EndBits
import HandS.TupLe
import HandS.TupAny
import HandS.Codes
import HandS.CallLocal
import HandS.NoneIn
import HandS.Head0
import HandS.Head1
import HandS.Head2
import HandS.HeadEnd
import HandS.HeadHook1
import HandS.HeadHook2
import HandS.HeadHook3
import HandS.HeadHook4
import KE.KExcInit
import HandS.ExcInit
import HandS.ExcField
import HandS.ExcIs
import HandS.TryMany
import HandS.TryOnly
import HandS.Lambda
import HandS.HeadWalk
import KE.KLam
import KE.KExcIs
import HandS.Walk
import PySem.Challenge.RW_nearcells_k04_what_signs_refuse
set_option Elab.async false
set_option linter.all false
set_option maxRecDepth 100000
set_option maxHeartbeats 4000000
/-! NCBase: what all laws here use: calls by keywords alone, the end with the script's bits, heaps, readings as rules. -/
namespace L2
open PySem PySem.Spec PyProof.Rows
/-! ### keywords alone -/
def permL {α : Type} (ix : List Nat) (xs : List α) : List α := ix.filterMap fun i => xs[i]?
theorem permL_vals {zs : List V} {ws : List Value} (r : Vals zs ws) : ∀ ix : List Nat, Vals (permL ix zs) (permL ix ws)
  | [] => .nil
  | i :: is => by
    have ih := permL_vals r is
    unfold permL at ih ⊢
    rw [List.filterMap_cons, List.filterMap_cons]
    cases e : zs[i]? with
    | none =>
      rw [r.none_of e]
      exact ih
    | some z =>
      obtain ⟨u, e2, r2⟩ := r.get e
      rw [e2]
      exact .cons r2 ih
theorem FunD.kbnP {K : PySem.W.Frag} {x qual : Str} {params : Arguments} {body : List Stmt} {scope : Scope} {kws : List (Str × V)} {f : Addr} {fd : FuncData} {ps : List Str} (F : FunD K x qual params body scope [] kws f fd) (n : Nat) (ks : List Str) (ix : List Nat)
    (h : ∀ (kV doc pm : Value) (an : Option Addr) (cdv ct : Value) (us ws : List Value), us.length = n → ws.length = ks.length → bindArgs (PySem.W.fnOf x qual params body scope .none kV doc pm an cdv ct) ⟨us, ks.zip ws⟩ = pure (ps.zip (permL ix (us ++ ws)))) :
    KBn K fd ps n ks (fun us ws => permL ix (us ++ ws)) (fun vs zs => permL ix (vs ++ zs)) := by
  obtain ⟨oc, od, dV, kV, doc, pm, an, cdv, ct, osl, rfl, lk, hcd, hD, hK⟩ := F.ex
  rcases hD with ⟨_, rfl⟩ | ⟨e, _⟩
  · exact ⟨fun s us ws _ l1 l2 => .of_eq (h kV doc pm an cdv ct us ws l1 l2), fun r1 r2 => permL_vals (r1.append r2) ix⟩
  · exact absurd rfl e
section
variable {X : Cx} {CX : CXT} {k : Nat} {f : Addr} {fd : FuncData} {ps ks : List Str} {sp : Sp} {E : XK} {x : Str} {p pos : Pos} {kws : List Keyword} {tk : TA} {g : List Value → List Value → List Value} {gV : List V → List V → List V}
/-- f(k = v, ..) -/
theorem pe_callN0 (F : FnOk X.prog X.w X.K X.mg X.base CX k f fd ps sp) (hr : Room k X.A) (hg : Gl X x) (hm : X.mg x = some (.ref f)) (hk : PySem.W.keepIn X.K (.ref f) = true) (hb : KBn X.K fd ps 0 ks g gV) (hx : Passes CX X E) (hkw : PK X kws tk)
    (hall : (backToKw pos (keywordEach kws X.env)).all (·.1.isSome) = true := by rfl) (hks : (backToKw pos (keywordEach kws X.env)).filterMap (·.1) = ks := by rfl) (hdb : (x == ("__debug__" : Str)) = false := by decide)
    (hpl : ((backTo pos (starEach [] X.env)).any (·.1) || (backToKw pos (keywordEach kws X.env)).any (·.1.isNone)) = false := by rfl) :
    PE X (.Call (.Name x p) [] kws pos) (tCallN 0 ks.length sp gV E tNil tk) := by
  refine ⟨fun pins s σ H Q I h => ?_⟩
  refine wpAny_Call_Name_kw (ld_glob I hg hm ?_ hdb)
  refine PySem.W.callWith_KW0 (h₀ := X.base) I.ok.mod.kin hk hall ?_ hpl
  refine thn (hkw.run pos pins s σ H _ I h) fun ws s2 ⟨zs, H2, I2, rz, l1, l2, q2⟩ => ⟨I2.kIn, ?_⟩
  rw [hks]
  exact run_fnN (us := []) (vs := []) F hr hb hx I2 .nil rz rfl l2 q2
end
/-! ### the end, with the script's bits -/
theorem walk_ofBE {l : PySem.W.OpenLaw} {n k : Nat} {q : Program} {loose : List Str} {XP : (Str → Option Value) → Heap → Prop} {YP : World → Heap → Prop} {d : DefRec} {CX : CXT} {x : Str}
    (hn : l.most = some n) (hn2 : n ≤ sizeLine) (hdf : d.params.defaults = []) (hr : Room k callerA)
    (F : ∀ (w : World) (mg : Str → Option Value) (fa : Addr) (h : Heap), YP w h → h.Ns mainGlobals mg → mg d.name = some (.ref fa) →
      ∃ (K : PySem.W.Frag) (fd : FuncData) (sp : Sp), K.In h ∧ (∀ (s : Shared) (u : Value), BindsTo s fd ⟨[u], []⟩ [(x, u)]) ∧
        (∀ (H : Hp) (a : Addr) (ns : List Int), ns.length ≤ n → (∀ z ∈ ns, Builtin.Int.intBits z ≤ 1048576) → Only H → SqL K H a (ns.map V.int) → sp [.ref a] H (fun v _ => v = .bl true) fun _ _ _ => False) ∧
        ∀ base : Heap, K.In base → base.Ns mainGlobals mg → FnOk l.prog w K mg base CX k fa fd [x] sp)
    (hCX : ∀ (H : Hp) (s : Shared) (e : Value) (s' : Shared), CX [] H s (fun _ _ _ => False) e s' → False) :
    PySem.W.WalkO q loose XP YP l.row.toRowW d [] (fun f vs => PySem.call f vs) := by
  refine Att.attach_callB hn hdf fun w s₀ s₁ mg mb fa o pm cd doc a vs ns G Y ho hd hcd hmg hobj hints hlen hbits hg => ?_
  obtain ⟨K, fd, sp, KX, hb, hsp, hF⟩ := F w mg fa _ Y G.T.g hmg
  exact law_call KX G.T.g G.T.b G.T.builtins G.T.nolimit hg hobj hints (Nat.le_trans hlen hn2) hr hF hb (fun H hO hS => hsp H a ns hlen hbits hO hS) fun H e s' => hCX H s₁ e s'
/-! ### readings as rules -/
section
variable {σ : St} {H : Hp} {Q : VK} {D : Ends} {K : PySem.W.Frag} {v x y : V}
theorem g_var {i : Nat} (h : σ[i]? = some (some v)) (q : Q v H) : tVar i σ H Q := ⟨v, h, q⟩
theorem g_c (q : Q v H) : tC v σ H Q := q
theorem g_op {r : R2} {ta tb : TE} (q : ta σ H fun x H1 => tb σ H1 fun y H2 => r x y H2 Q) : tOp r ta tb σ H Q := q
theorem g_un {r : V → Hp → VK → Prop} {ta : TE} (q : ta σ H fun x H1 => r x H1 Q) : tUn r ta σ H Q := q
theorem g_I0 {g : Int → Int → V} {i j : Int} (q : Q (g i j) H) : rI0 g (.int i) (.int j) H Q := ⟨i, j, rfl, rfl, q⟩
theorem g_mul {g : Int → Int → V} {i j : Int} (hc : CMul i j) (q : Q (g i j) H) : rI CMul g (.int i) (.int j) H Q := ⟨i, j, rfl, rfl, hc, q⟩
theorem g_I {C : Int → Int → Prop} {g : Int → Int → V} {i j : Int} (hc : C i j) (q : Q (g i j) H) : rI C g (.int i) (.int j) H Q := ⟨i, j, rfl, rfl, hc, q⟩
theorem g_U {g : Int → V} {i : Int} (q : Q (g i) H) : rU g (.int i) H Q := ⟨i, rfl, q⟩
theorem g_eqI {i j : Int} (q : Q (.bl (decide (i = j))) H) : rEq (.int i) (.int j) H Q := ⟨rfl, by rw [dec_int, Bool.beq_eq_decide_eq]; exact q⟩
theorem g_neI {i j : Int} (q : Q (.bl (!decide (i = j))) H) : rNe (.int i) (.int j) H Q := ⟨rfl, by rw [dec_int, Bool.beq_eq_decide_eq]; exact q⟩
theorem g_eqB {i j : Bool} (q : Q (.bl (i == j)) H) : rEq (.bl i) (.bl j) H Q := ⟨rfl, by rw [dec_bl]; exact q⟩
theorem g_neB {i j : Bool} (q : Q (.bl (!(i == j))) H) : rNe (.bl i) (.bl j) H Q := ⟨rfl, by rw [dec_bl]; exact q⟩
theorem g_cons {ta : TE} {tr : TA} {q : List V → Hp → Prop} (h : ta σ H fun x H1 => tr σ H1 fun xs H2 => q (x :: xs) H2) : tCons ta tr σ H q := h
theorem g_nil {q : List V → Hp → Prop} (h : q [] H) : tNil σ H q := h
theorem g_tup {t : TA} (h : t σ H fun xs H1 => xs.length ≤ sizeLine ∧ ∀ p, H1 p = none → Q (.ref p) (upd H1 p (.tup xs))) : tTup t σ H Q := h
theorem g_lst {t : TA} (h : t σ H fun xs H1 => xs.length ≤ sizeLine ∧ ∀ p, H1 p = none → Q (.ref p) (upd H1 p (.lst xs))) : tLst t σ H Q := h
theorem g_ixT {p : Addr} {xs : List V} {i : Int} (h : H p = some (.tup xs)) (ha : atI xs i = some v) (q : Q v H) : rIxT K (.ref p) (.int i) H Q := ⟨p, xs, i, v, rfl, rfl, SqT.of h, ha, q⟩
theorem g_ixL {p : Addr} {xs : List V} {i : Int} (h : H p = some (.lst xs)) (ha : atI xs i = some v) (q : Q v H) : rIxL K (.ref p) (.int i) H Q := ⟨p, xs, i, v, rfl, rfl, SqL.of h, ha, q⟩
theorem g_cb {r : List V → Hp → VK → Prop} {t : TA} (q : t σ H fun vs H1 => r vs H1 Q) : tCB r t σ H Q := q
theorem g_call {sp : Sp} {dvs : List V} {E : XK} {t : TA} (q : t σ H fun vs H1 => sp (vs ++ dvs) H1 Q E) : tCall sp dvs E t σ H Q := q
theorem g_test {t : TE} {q : Bool → Hp → Prop} (h : t σ H fun x H' => ∃ k, x = .bl k ∧ q k H') : tTest t σ H q := h
theorem g_tb {t : TE} {q : Bool → Hp → Prop} (h : t σ H fun x H' => ∃ k, x = .bl k ∧ q k H') : tB t σ H q := h
theorem g_bl {b : Bool} {q : Bool → Prop} (h : q b) : ∃ k, V.bl b = .bl k ∧ q k := ⟨b, rfl, h⟩
theorem g_yes {q : Bool → Hp → Prop} (h : q true H) : tYes σ H q := h
theorem g_and {t u : TT} {q : Bool → Hp → Prop} (h : t σ H fun c H1 => if c = true then u σ H1 q else q false H1) : tAnd t u σ H q := h
theorem g_or {t u : TT} {q : Bool → Hp → Prop} (h : t σ H fun c H1 => if c = true then q true H1 else u σ H1 q) : tOr t u σ H q := h
theorem g_not {t : TT} {q : Bool → Hp → Prop} (h : t σ H fun c H1 => q (!c) H1) : tNot t σ H q := h
theorem g_if {t : TT} {ta tb : TE} (h : t σ H fun c H1 => if c = true then ta σ H1 Q else tb σ H1 Q) : tIf t ta tb σ H Q := h
theorem g_ifS {c : TT} {t u : TS} (h : c σ H fun b H1 => if b = true then t D σ H1 else u D σ H1) : tIfS c t u D σ H := h
theorem g_seq {t u : TS} (h : t { D with nx := u D } σ H) : tSeq t u D σ H := h
theorem g_next (h : D.nx σ H) : tNext D σ H := h
theorem g_ret {te : TE} (h : te σ H D.rt) : tRet te D σ H := h
theorem g_asg {te : TE} {g : TG} (h : te σ H fun x H1 => g x σ H1 D.nx) : tAsg te g D σ H := h
theorem g_name {i : Nat} {q : St → Hp → Prop} (h : q (σ.set i (some v)) H) : gName i v σ H q := h
theorem g_drop {te : TE} (h : te σ H fun _ H1 => D.nx σ H1) : tDrop te D σ H := h
theorem g_par {i j : Nat} {ta : TA} (h : ta σ H fun vs H1 => ∃ v w, vs = [v, w] ∧ D.nx ((σ.set i (some v)).set j (some w)) H1) : tPar i j ta D σ H := h
theorem g_par3 {i j l : Nat} {ta : TA} (h : ta σ H fun vs H1 => ∃ u v w, vs = [u, v, w] ∧ D.nx (((σ.set i (some u)).set j (some v)).set l (some w)) H1) : tPar3 i j l ta D σ H := h
theorem g_chain {r r' : R2} {ta tb tc : TE} (h : ta σ H fun x H1 => tb σ H1 fun y H2 => r x y H2 fun z H3 => ∃ k, z = .bl k ∧ (if k = true then tc σ H3 fun w' H4 => r' y w' H4 Q else Q (.bl false) H3)) : tChain r r' ta tb tc σ H Q := h
theorem g_andV {ta tb : TE} (h : ta σ H fun x H1 => ∃ c, x = .bl c ∧ if c = true then tb σ H1 Q else Q (.bl false) H1) : tAndV ta tb σ H Q := h
theorem g_orV {ta tb : TE} (h : ta σ H fun x H1 => ∃ c, x = .bl c ∧ if c = true then Q (.bl true) H1 else tb σ H1 Q) : tOrV ta tb σ H Q := h
theorem g_notV {ta : TE} (h : ta σ H fun x H1 => ∃ c, x = .bl c ∧ Q (.bl (!c)) H1) : tNotV ta σ H Q := h
theorem g_sub {to ti : TE} {t : TSet} {q : St → Hp → Prop} (h : to σ H fun o H1 => ti σ H1 fun i H2 => t o i v H2 fun H3 => q σ H3) : gSub to ti t v σ H q := h
theorem g_setL {p : Addr} {xs : List V} {k : Int} {j : Nat} {q : Hp → Prop} (h : H p = some (.lst xs)) (hj : ixN xs.length k = some j) (hq : q (upd H p (.lst (xs.set j v)))) : rSetL (.ref p) (.int k) v H q := ⟨p, xs, k, j, rfl, rfl, h, hj, hq⟩
theorem g_tupG {n : Nat} {t : TGs} {a : Addr} {xs : List V} {q : St → Hp → Prop} (h : H a = some (.tup xs)) (hn : xs.length = n) (hq : t xs σ H q) : gTup K n t (.ref a) σ H q := ⟨a, xs, rfl, SqT.of h, hn, hq⟩
theorem g_unl {n : Nat} {t : TGs} {a : Addr} {xs : List V} {q : St → Hp → Prop} (h : H a = some (.lst xs)) (hn : xs.length = n) (hq : t xs σ H q) : gUnl K n t (.ref a) σ H q := ⟨a, xs, rfl, SqL.of h, hn, hq⟩
theorem g_consG {t : TG} {u : TGs} {r : List V} {q : St → Hp → Prop} (h : t v σ H fun σ' H' => u r σ' H' q) : gCons t u (v :: r) σ H q := ⟨v, r, rfl, h⟩
theorem g_nilG {q : St → Hp → Prop} (h : q σ H) : gNil [] σ H q := ⟨rfl, h⟩
theorem g_callN {n m : Nat} {sp : Sp} {gV : List V → List V → List V} {E : XK} {t tk : TA} (h : t σ H fun vs H1 => tk σ H1 fun zs H2 => vs.length = n ∧ zs.length = m ∧ sp (gV vs zs) H2 Q E) : tCallN n m sp gV E t tk σ H Q := h
theorem g_sl {r : V → Option Int → Option Int → Hp → VK → Prop} {te : TE} {tl th : TO} (h : te σ H fun x H1 => tl σ H1 fun l H2 => th σ H2 fun u H3 => r x l u H3 Q) : tSl r te tl th σ H Q := h
end
/-! ### built-ins by names of their own -/
def rInt : List V → Hp → VK → Prop := fun xs H Q => (∃ i, xs = [.int i] ∧ Q (.int i) H) ∨ ∃ k, xs = [.bl k] ∧ Q (.int (if k then 1 else 0)) H
def rLenN (K : PySem.W.Frag) : List V → Hp → VK → Prop := fun xs H Q => ∃ p ys, xs = [.ref p] ∧ (SqL K H p ys ∨ SqT K H p ys) ∧ Q (.int ys.length) H
def rAbs : List V → Hp → VK → Prop := fun xs H Q => ∃ i, xs = [.int i] ∧ Q (.int (if i < 0 then -i else i)) H
def rMin2 : List V → Hp → VK → Prop := fun xs H Q => ∃ i j, xs = [.int i, .int j] ∧ Q (.int (if j < i then j else i)) H
def rMax2 : List V → Hp → VK → Prop := fun xs H Q => ∃ i j, xs = [.int i, .int j] ∧ Q (.int (if j > i then j else i)) H
def zsg (k : Bool) : Int := if k then 1 else 0
theorem zsg_lo (k : Bool) : 0 ≤ zsg k := by cases k <;> decide
theorem zsg_hi (k : Bool) : zsg k ≤ 1 := by cases k <;> decide
section
variable {X : Cx}
theorem call_intN : CallR X (.type "int") rInt := call_int1
theorem call_lenN : CallR X (.builtin "len") (rLenN X.K) := call_len_seq
theorem call_absN : CallR X (.builtin "abs") rAbs := call_abs
theorem call_min2N (hc : X.calm = true) : CallR X (.builtin "min") rMin2 := call_min2 hc
theorem call_max2N (hc : X.calm = true) : CallR X (.builtin "max") rMax2 := call_max2 hc
end
section
variable {σ : St} {H : Hp} {Q : VK} {D : Ends} {K : PySem.W.Frag}
theorem g_intI {i : Int} (q : Q (.int i) H) : rInt [.int i] H Q := .inl ⟨i, rfl, q⟩
theorem g_intB {k : Bool} (q : Q (.int (zsg k)) H) : rInt [.bl k] H Q := .inr ⟨k, rfl, q⟩
theorem g_lenL {p : Addr} {xs : List V} (h : H p = some (.lst xs)) (q : Q (.int xs.length) H) : rLenN K [.ref p] H Q := ⟨p, xs, rfl, .inl (SqL.of h), q⟩
theorem g_lenT {p : Addr} {xs : List V} (h : H p = some (.tup xs)) (q : Q (.int xs.length) H) : rLenN K [.ref p] H Q := ⟨p, xs, rfl, .inr (SqT.of h), q⟩
theorem g_abs {i : Int} (q : Q (.int (if i < 0 then -i else i)) H) : rAbs [.int i] H Q := ⟨i, rfl, q⟩
theorem g_min2 {i j : Int} (q : Q (.int (if j < i then j else i)) H) : rMin2 [.int i, .int j] H Q := ⟨i, j, rfl, q⟩
theorem g_max2 {i j : Int} (q : Q (.int (if j > i then j else i)) H) : rMax2 [.int i, .int j] H Q := ⟨i, j, rfl, q⟩
theorem g_mod {g : Int → Int → V} {i j : Int} (hc : 0 < j) (q : Q (g i j) H) : rI (fun _ j => 0 < j) g (.int i) (.int j) H Q := ⟨i, j, rfl, rfl, hc, q⟩
theorem g_div {g : Int → Int → V} {i j : Int} (h1 : 0 < j) (h2 : j < 1073741824) (q : Q (g i j) H) : rI CDiv g (.int i) (.int j) H Q := ⟨i, j, rfl, rfl, ⟨h1, h2⟩, q⟩
theorem g_pow {g : Int → Int → V} {i j : Int} (hc : CPow i j) (q : Q (g i j) H) : rI CPow g (.int i) (.int j) H Q := ⟨i, j, rfl, rfl, hc, q⟩
theorem g_isi {x : V} {T : String} {t : String} {b : Bool} (ty : TyX K H x (.type t)) (h : kitB t T = some b) (q : Q (.bl b) H) : rIsi K [x, .ty T] H Q := ⟨x, .ty T, .type t, .type T, b, rfl, .ty T, ty, kit_ty h, q⟩
theorem g_po {te : TE} {q : Option Int → Hp → Prop} (h : te σ H fun x H1 => ∃ i, x = .int i ∧ q (some i) H1) : tPart te σ H q := h
theorem g_pon {q : Option Int → Hp → Prop} (h : q none H) : tNoPart σ H q := h
theorem g_int1 {i : Int} {q : Int → Prop} (h : q i) : ∃ k, V.int i = .int k ∧ q k := ⟨i, rfl, h⟩
end
/-! ### rules with the written part told -/
section
variable {X : Cx}
theorem ix_tupK (K : PySem.W.Frag) (h : X.K = K := by rfl) : IxR X (rIxT K) := by subst h; exact ix_tup
theorem ix_listK (K : PySem.W.Frag) (h : X.K = K := by rfl) : IxR X (rIxL K) := by subst h; exact ix_list
theorem sl_listK (K : PySem.W.Frag) (h : X.K = K := by rfl) : SlR X (rSlL K) := by subst h; exact sl_list
theorem call_lenK (K : PySem.W.Frag) (h : X.K = K := by rfl) : CallR X (.builtin "len") (rLenN K) := by subst h; exact call_lenN
theorem call_isiK0 (K : PySem.W.Frag) (h : X.K = K := by rfl) : CallR X (.builtin "isinstance") (rIsi K) := by subst h; exact call_isi
theorem op_eqDK (K : PySem.W.Frag) (hu : X.A.units + 64 < cLine) (h : X.K = K := by rfl) : OpR X (compareOp .Eq) (rEqD K) := by subst h; exact op_eqD hu
theorem op_neDK (K : PySem.W.Frag) (hu : X.A.units + 64 < cLine) (h : X.K = K := by rfl) : OpR X (compareOp .NotEq) (rNeD K) := by subst h; exact op_neD hu
theorem op_inK (K : PySem.W.Frag) (h : X.K = K := by rfl) : OpR X (compareOp .In) (rIn K false) := by subst h; exact op_in_seq
theorem op_notInK (K : PySem.W.Frag) (h : X.K = K := by rfl) : OpR X (compareOp .NotIn) (rIn K true) := by subst h; exact op_notIn_seq
theorem cr_allK (K : PySem.W.Frag) (hc : X.calm = true) (h : X.K = K := by rfl) : CallR X (.builtin "all") (rAll K) := by subst h; exact cr_all hc
theorem cr_anyK (K : PySem.W.Frag) (hc : X.calm = true) (h : X.K = K := by rfl) : CallR X (.builtin "any") (rAny K) := by subst h; exact cr_any hc
theorem cr_sumK (K : PySem.W.Frag) (hc : X.calm = true) (h : X.K = K := by rfl) : CallR X (.builtin "sum") (rSum K) := by subst h; exact cr_sum hc
theorem pi_listK {tg l : Expr} {tl : TE} (K : PySem.W.Frag) (hl : PE X l tl) (h : X.K = K := by rfl) : PI X tg l (iList K tl) := by subst h; exact pi_list hl
theorem pi_tupK {tg l : Expr} {tl : TE} (K : PySem.W.Frag) (hl : PE X l tl) (h : X.K = K := by rfl) : PI X tg l (iTup K tl) := by subst h; exact pi_tup hl
end
/-! ### loops -/
abbrev LoopP (g : TG) (tb : TS) (D : Ends) (σ : St) (J : It) (H1 : Hp) : Prop := ∃ W : Nat → Nat → St → Hp → Prop, (∃ m, W 0 m σ H1) ∧ ∀ i m σ H, W i m σ H →
  (J.stop i H ∧ D.nx σ H) ∨ (J.go i H ∧ ∃ N : St → Hp → Prop, (∀ σ' H', N σ' H' → ∃ m', m' < m ∧ W (i + 1) m' σ' H') ∧ ∀ x H', J.yld i H x H' → g x σ H' fun σ2 H2 => tb { D with nx := N, ct := N, bk := D.nx } σ2 H2)
abbrev LcP (g : TG) (tt : TT) (te : TE) (vs : List Nat) (σ : St) (Q : VK) (J : It) (H1 : Hp) : Prop := ∀ D, H1 D = none → ∃ W : Nat → Nat → Hp → Prop, (∃ m, W 0 m (upd H1 D (.lst []))) ∧ ∀ i m H, W i m H →
  (J.stop i H ∧ Q (.ref D) H) ∨ (J.go i H ∧ ∃ Nx : Hp → Prop, (∀ H', Nx H' → ∃ m', m' < m ∧ W (i + 1) m' H') ∧ ∀ x H', J.yld i H x H' → g x (wipe σ vs) H' fun σ2 H2 => wipe σ2 vs = wipe σ vs ∧ tt σ2 H2 fun b H3 =>
    if b = true then te σ2 H3 fun y H4 => ∃ acc, H4 D = some (.lst acc) ∧ acc.length < sizeLine ∧ Nx (upd H4 D (.lst (acc ++ [y]))) else Nx H3)
section
variable {σ : St} {H : Hp} {Q : VK} {D : Ends} {K : PySem.W.Frag}
theorem g_for {wi : TI} {g : TG} {tb : TS} (h : wi σ H (LoopP g tb D σ)) : tFor wi g tb D σ H := h
theorem g_lc {wi : TI} {g : TG} {tt : TT} {te : TE} {vs : List Nat} (h : wi σ H (LcP g tt te vs σ Q)) : tLc wi g tt te vs σ H Q := h
theorem g_rng1 {ta : TA} {R : It → Hp → Prop} (h : ta σ H fun vs H1 => ∃ j : Int, vs = [.int j] ∧ -(2 ^ 62) ≤ j ∧ j < 2 ^ 62 ∧ R (Itr 0 j.toNat) H1) : iRng1 ta σ H R := h
theorem g_rng2 {ta : TA} {R : It → Hp → Prop} (h : ta σ H fun vs H1 => ∃ i j : Int, vs = [.int i, .int j] ∧ (-(2 ^ 62) ≤ i ∧ i < 2 ^ 62 ∧ -(2 ^ 62) ≤ j ∧ j < 2 ^ 62) ∧ R (Itr i (j - i).toNat) H1) : iRng2 ta σ H R := h
theorem g_ilist {tl : TE} {R : It → Hp → Prop} (h : tl σ H fun x H1 => ∃ a, x = .ref a ∧ (∃ xs, SqL K H1 a xs) ∧ R (Itl K a) H1) : iList K tl σ H R := h
theorem g_itup {tl : TE} {R : It → Hp → Prop} (h : tl σ H fun x H1 => ∃ a, x = .ref a ∧ (∃ xs, SqT K H1 a xs) ∧ R (Itt K a) H1) : iTup K tl σ H R := h
theorem g_ikeys {td : TE} {R : It → Hp → Prop} (h : td σ H fun x H1 => ∃ d o, x = .ref d ∧ ((∃ kvs, H1 d = some (.frz o (.dK kvs)) ∧ R (Itk d o kvs) H1) ∨ ∃ kvs, H1 d = some (.frz o (.dT kvs)) ∧ R (Itkt d o kvs) H1)) : iKeys td σ H R := h
end
/-- over the keys of a locked dict of tuples -/
theorem lc_keysT {d : Addr} {o : Obj} {kvs : List (List Key × V)} {g : TG} {tt : TT} {te : TE} {vs : List Nat} {σ : St} {H1 : Hp} {D : Addr} {Qd : Hp → Prop} (Pv : Nat → Hp → Prop) (h0 : Pv 0 (upd H1 D (.lst []))) (hl : ∀ i H, i ≤ kvs.length → Pv i H → H d = some (.frz o (.dT kvs)))
    (hs : ∀ i k v q H, kvs[i]? = some (k, v) → H q = some (.tup (k.map kV)) → Pv i H → g (.ref q) (wipe σ vs) H fun σ2 H2 => wipe σ2 vs = wipe σ vs ∧ tt σ2 H2 fun b H3 =>
      if b = true then te σ2 H3 fun y H4 => ∃ acc, H4 D = some (.lst acc) ∧ acc.length < sizeLine ∧ Pv (i + 1) (upd H4 D (.lst (acc ++ [y]))) else Pv (i + 1) H3) (hd : ∀ H, Pv kvs.length H → Qd H) :
    ∃ W : Nat → Nat → Hp → Prop, (∃ m, W 0 m (upd H1 D (.lst []))) ∧ ∀ i m H, W i m H →
      ((Itkt d o kvs).stop i H ∧ Qd H) ∨ ((Itkt d o kvs).go i H ∧ ∃ Nx : Hp → Prop, (∀ H', Nx H' → ∃ m', m' < m ∧ W (i + 1) m' H') ∧ ∀ x H', (Itkt d o kvs).yld i H x H' → g x (wipe σ vs) H' fun σ2 H2 => wipe σ2 vs = wipe σ vs ∧ tt σ2 H2 fun b H3 =>
        if b = true then te σ2 H3 fun y H4 => ∃ acc, H4 D = some (.lst acc) ∧ acc.length < sizeLine ∧ Nx (upd H4 D (.lst (acc ++ [y]))) else Nx H3) := by
  refine ⟨fun i m H => m + i = kvs.length ∧ Pv i H, ⟨kvs.length, rfl, h0⟩, fun i m H hW => ?_⟩
  obtain ⟨em, p⟩ := hW
  have hd2 := hl i H (by omega) p
  by_cases hi : i < kvs.length
  · refine .inr ⟨⟨hd2, hi⟩, Pv (i + 1), fun H' p' => ⟨m - 1, by omega, by omega, p'⟩, fun x H' hy => ?_⟩
    obtain ⟨rfl, k, v, q, e1, rfl, e2⟩ := hy
    exact hs i k v q _ e1 e2 p
  · have e : i = kvs.length := by omega
    subst e
    exact .inl ⟨⟨hd2, Nat.le_refl _⟩, hd H p⟩
theorem mulL {i j : Int} (h1 : -1000000000000000000 ≤ i) (h2 : i ≤ 1000000000000000000) : CMul i j := .inl ⟨by omega, by omega⟩
theorem mulR {i j : Int} (h1 : -1000000000000000000 ≤ j) (h2 : j ≤ 1000000000000000000) : CMul i j := .inr ⟨by omega, by omega⟩
theorem len_le {n : Nat} (h : n ≤ 1000000) : n ≤ sizeLine := Nat.le_trans h (by decide)
theorem len_lt {n : Nat} (h : n < 1000000) : n < sizeLine := Nat.lt_of_lt_of_le h (by decide)
theorem pow_ok {i : Int} {j : Int} (h1 : 0 ≤ i) (h2 : i < 9223372036854775808) (h3 : 0 ≤ j) (h4 : j ≤ 1000000) : CPow i j := ⟨h3, h4, by omega⟩
/-! ### great numbers -/
def CMulA (i j : Int) : Prop := CMul i j ∨ CMulW i j
theorem CMulA.ok {i j : Int} (h : CMulA i j) : IntMulOk i j := h.elim CMul.ok CMulW.ok
def CDivA (_ j : Int) : Prop := j ≠ 0 ∧ j.natAbs.log2 < 9000
def CPowA (i j : Int) : Prop := 0 ≤ j ∧ (Builtin.Int.intBits i : Int) * j ≤ 2 ^ 27
def rMax3 : List V → Hp → VK → Prop := fun xs H Q => ∃ i j k, xs = [.int i, .int j, .int k] ∧ Q (.int (if j > i then (if k > j then k else j) else (if k > i then k else i))) H
section
variable {X : Cx}
theorem op_mulA : OpR X (binaryOp .Mult) (rI CMulA fun i j => .int (i * j)) := opI fun _ _ _ _ _ _ _ hc q => mul_int q hc.ok
theorem op_fdivA : OpR X (binaryOp .FloorDiv) (rI CDivA fun i j => .int (i.fdiv j)) := opI fun _ _ _ _ _ _ _ hc q => floordiv_int hc.1 q (.inl (PyProof.noPylong_of_log2 hc.2))
theorem op_powA : OpR X (binaryOp .Pow) (rI CPowA fun i j => .int (i ^ j.toNat)) := opI fun _ _ _ _ _ _ _ hc q => pow_int hc.1 hc.2 q
theorem call_max3N (hc : X.calm = true) : CallR X (.builtin "max") rMax3 := by
  intro pins s σ H xs us Q I r h
  obtain ⟨i, j, k, rfl, q⟩ := h
  obtain ⟨u1, u2, u3, rfl, ⟨t1, rfl⟩, ⟨t2, rfl⟩, ⟨t3, rfl⟩⟩ : ∃ u1 u2 u3, us = [u1, u2, u3] ∧ RelV (.int i) u1 ∧ RelV (.int j) u2 ∧ RelV (.int k) u3 := by
    cases r with
    | cons a r =>
      cases r with
      | cons b r =>
        cases r with
        | cons c r =>
          cases r
          exact ⟨_, _, _, rfl, a, b, c⟩
  refine max_three_ints (I.ok.hd hc) fun h' tk hk => ?_
  refine ⟨_, H, I.kept hk, ?_, q⟩
  by_cases h1 : j > i <;> by_cases h2 : k > j <;> by_cases h3 : k > i <;> simp only [h1, h2, h3, if_true, if_false] <;> exact ⟨_, rfl⟩
end
section
variable {H : Hp} {Q : VK}
theorem g_mulA {g : Int → Int → V} {i j : Int} (hc : CMulA i j) (q : Q (g i j) H) : rI CMulA g (.int i) (.int j) H Q := ⟨i, j, rfl, rfl, hc, q⟩
theorem g_divA {g : Int → Int → V} {i j : Int} (hc : CDivA i j) (q : Q (g i j) H) : rI CDivA g (.int i) (.int j) H Q := ⟨i, j, rfl, rfl, hc, q⟩
theorem g_powA {g : Int → Int → V} {i j : Int} (hc : CPowA i j) (q : Q (g i j) H) : rI CPowA g (.int i) (.int j) H Q := ⟨i, j, rfl, rfl, hc, q⟩
theorem g_max3 {i j k : Int} (q : Q (.int (if j > i then (if k > j then k else j) else (if k > i then k else i))) H) : rMax3 [.int i, .int j, .int k] H Q := ⟨i, j, k, rfl, q⟩
end
theorem mulW {i j : Int} (h1 : i.natAbs < 2 ^ 400) (h2 : j.natAbs < 2 ^ 400) : CMulA i j := .inr (wide_mul h1 h2 (by decide) (by decide) (by decide))
theorem divW {i j : Int} (h0 : j ≠ 0) (h : j.natAbs < 2 ^ 4000) : CDivA i j := ⟨h0, Nat.lt_of_lt_of_le (PySem.Flt.log2_lt_of (by decide) h) (by decide)⟩
theorem divB {i j : Int} (h0 : 0 < j) (h : j < 1267650600228229401496703205376) : CDivA i j := by
  refine divW (by omega) (Nat.lt_of_lt_of_le (m := 2 ^ 100) ?_ (Nat.pow_le_pow_right (by decide) (by decide)))
  have e : (2 : Nat) ^ 100 = 1267650600228229401496703205376 := by decide
  rw [e]
  omega
theorem powW {i : Int} (h : i.natAbs < 2 ^ 400) : CPowA i 2 := by
  refine ⟨by decide, ?_⟩
  have b : Builtin.Int.intBits i ≤ i.natAbs.log2 + 1 := by
    unfold Builtin.Int.intBits
    split <;> omega
  have c : i.natAbs.log2 < 400 := PySem.Flt.log2_lt_of (by decide) h
  have e : (2 : Int) ^ 27 = 134217728 := by decide
  rw [e]
  omega
theorem powS {i j : Int} (h0 : 0 ≤ j) (h1 : j ≤ 1000) (h : i.natAbs < 2 ^ 64) : CPowA i j := by
  refine ⟨h0, ?_⟩
  have b : Builtin.Int.intBits i ≤ i.natAbs.log2 + 1 := by
    unfold Builtin.Int.intBits
    split <;> omega
  have c : i.natAbs.log2 < 64 := PySem.Flt.log2_lt_of (by decide) h
  have e : (2 : Int) ^ 27 = 134217728 := by decide
  rw [e]
  have h2 : (Builtin.Int.intBits i : Int) * j ≤ 64 * 1000 := Int.mul_le_mul (by omega) h1 h0 (by decide)
  omega
/-! ### heaps: the tuples stay -/
def TK (H H' : Hp) : Prop := ∀ p xs, H p = some (.tup xs) → H' p = some (.tup xs)
theorem TK.refl (H : Hp) : TK H H := fun _ _ h => h
theorem TK.trans {H H1 H2 : Hp} (a : TK H H1) (b : TK H1 H2) : TK H H2 := fun p xs h => b p xs (a p xs h)
theorem TK.new {H : Hp} {p : Addr} {o : HO} (n : H p = none) : TK H (upd H p o) := fun q xs h => by
  rw [upd_ne (ne_of_none h n)]
  exact h
theorem TK.lst {H : Hp} {p : Addr} {l : List V} {o : HO} (n : H p = some (.lst l)) : TK H (upd H p o) := fun q xs h => by
  rw [upd_ne (ne_of h n (fun z => by cases z))]
  exact h
theorem TK.same {H H' : Hp} (s : Same H H') : TK H H' := fun p xs h => s p _ h
theorem same_new {H : Hp} {p : Addr} {o : HO} (h : H p = none) : Same H (upd H p o) := fun b x e => by
  rw [upd_ne (ne_of_none e h)]
  exact e
/-- v is the site (x, y) -/
def IsS (H : Hp) (v : V) (x y : Int) : Prop := ∃ p, v = .ref p ∧ H p = some (.tup [.int x, .int y])
theorem IsS.mono {H H' : Hp} {v : V} {x y : Int} (k : TK H H') (h : IsS H v x y) : IsS H' v x y := by
  obtain ⟨p, e, h⟩ := h
  exact ⟨p, e, k p _ h⟩
theorem all_ints {ns : List Int} {z : V} (h : z ∈ ns.map V.int) : ∃ n : Int, z = .int n := by
  obtain ⟨n, _, e⟩ := List.mem_map.mp h
  exact ⟨n, e.symm⟩
theorem cut_mem {xs : List V} {lo hi : Option Int} {z : V} (h : z ∈ cutV xs lo hi) : z ∈ xs := List.mem_of_mem_drop (List.mem_of_mem_take h)
theorem IsS.mk {H : Hp} {p : Addr} {x y : Int} : IsS (upd H p (.tup [.int x, .int y])) (.ref p) x y := ⟨p, rfl, upd_same⟩
end L2
/-! NCExc: own exception classes over ArithmeticError with an __init__ of their own. -/
namespace L2
open PySem PySem.Spec PyProof.Rows
abbrev aeT : List Value := [.type "ArithmeticError", .type "Exception", .type "BaseException", .type "object"]
/-- what the written part says of an own error class -/
structure OexA (K : PySem.W.Frag) (C : Addr) : Prop where
  ini : PySem.W.excInitIn K C aeT "ArithmeticError.__new__" = true
  ov : PySem.W.excOver K C aeT = true
  hd : PySem.W.hasDictIn K C = true
  sa : PySem.W.findIn K (.ref C) "__setattr__" = some (some (.builtin "object.__setattr__"))
  exC : PySem.W.subIn K (.ref C) (.type "BaseException") = some true
  tyC : PySem.W.typeIn K (.ref C) = some (.type "type")
  kC : PySem.W.keepIn K (.ref C) = true
def oexAB (K : PySem.W.Frag) (C : Addr) : Bool := PySem.W.excInitIn K C aeT "ArithmeticError.__new__" && (PySem.W.excOver K C aeT && (PySem.W.hasDictIn K C && (decide (PySem.W.findIn K (.ref C) "__setattr__" = some (some (.builtin "object.__setattr__"))) &&
  (decide (PySem.W.subIn K (.ref C) (.type "BaseException") = some true) && (decide (PySem.W.typeIn K (.ref C) = some (.type "type")) && PySem.W.keepIn K (.ref C))))))
theorem oexAB_ok {K : PySem.W.Frag} {C : Addr} (h : oexAB K C = true) : OexA K C := by
  obtain ⟨h1, h⟩ := Bool.and_eq_true_iff.mp h
  obtain ⟨h2, h⟩ := Bool.and_eq_true_iff.mp h
  obtain ⟨h3, h⟩ := Bool.and_eq_true_iff.mp h
  obtain ⟨h4, h⟩ := Bool.and_eq_true_iff.mp h
  obtain ⟨h5, h⟩ := Bool.and_eq_true_iff.mp h
  obtain ⟨h6, h7⟩ := Bool.and_eq_true_iff.mp h
  exact ⟨h1, h2, h3, of_decide_eq_true h4, of_decide_eq_true h5, of_decide_eq_true h6, h7⟩
section
variable {prog : Program} {w : World} {A : Around} {R : Result → Shared → Prop} {hp : Heap} {g : Array GenState} {d : Drawn} {t : Nat} {os : OsState}
open Builtin Builtin.ObjectAttr in
/-- self.name = v on an exception that has no dict yet -/
theorem exc_osaA {K : PySem.W.Frag} {name : Str} {tk : Tok} {v : Value} {x C : Addr} {fv : Array Value} (T : OexA K C)
    (X : K.In hp) (hx : hp.get? x = some { cls := .ref C, data := .fields fv }) (ha : PySem.W.findIn K (.ref C) name = some none)
    (hq : ∀ h' tk' dx, (∀ b o, b ≠ x → hp.get? b = some o → h'.get? b = some o) → hp.objs.size ≤ dx → dx ≠ x → h'.get? x = some { cls := .ref C, dict := some dx, data := .fields fv } →
      h'.Ns1 dx (fun y => if y = name then some v else none) → R (.ok (.ret .none)) ⟨h', g, d, tk', os⟩) :
    codeAny (model prog w) A (.call (.builtin "object.__setattr__") ⟨[.ref x, .str name tk, v], []⟩) R ⟨hp, g, d, t, os⟩ := by
  have I : PySem.W.InstAt hp x { cls := .ref C, data := .fields fv } C none := ⟨hx, rfl, rfl, trivial⟩
  have hxs : x ≠ hp.objs.size := Nat.ne_of_lt (Heap.lt_size hx)
  refine PySem.W.osa_openX (od := none) (r := none) F.store_ArithmeticError X I T.ov (by unfold PySem.W.takerIn; rw [ha] <;> rfl) fun b => ?_
  obtain ⟨cd, hcd, hh⟩ := PySem.W.any_some T.hd
  have hcls : PySem.W.Looks (model prog w) hp (classData C) cd := PySem.W.looks_clsIn X hcd
  show wpAny _ _ (storeInOwnDict (.ref x) (.ref C) (.str name tk) name v b) _ _ _
  obtain ⟨nm, bs, mro, ns, qn, hd, sn, sb, ab, col, del⟩ := cd
  dsimp only at hh
  subst hh
  unfold storeInOwnDict ownDictForStores
  repeat (first | with_reducible refine PySem.HandSPX.store_in_new ?_ ?_ | with_reducible refine wpAny_loadPart_at hx ?_ | with_reducible refine hcls.at ?_ | wp_step)
  · exact ⟨_, #[], _, (Heap.get?_update_ne _ _ _ _ hxs.symm).trans (Heap.get?_push_at rfl rfl), rfl, fun e he => absurd he (by simp), fun _ => rfl⟩
  · intro h' tk' hn' hs
    have hx₁ : (hp.push { cls := .type "dict", data := .dict #[] }).get? x = some { cls := .ref C, data := .fields fv } := Heap.get?_push_of_some _ hx
    refine hq h' tk' hp.objs.size (fun b o hb ho => ?_) (Nat.le_refl _) hxs.symm ?_ hn'
    · exact (hs.2 b (Nat.ne_of_lt (Heap.lt_size ho))).trans ((Heap.get?_update_ne _ _ _ _ hb).trans (Heap.get?_push_of_some _ ho))
    · exact (hs.2 x hxs).trans (Heap.get?_update_self _ hx₁ rfl)
end
section
variable {X : Cx} {pins : List (Addr × Obj)} {σ : St} {H : Hp} {s : Shared} {a C dx : Addr} {f : Str} {y : V} {u : Value} {Q : Unit → Shared → Prop} {E : Value → Shared → Prop} {A : Around}
/-- self.f = y, the only one -/
theorem ost_newA (T : OexA X.K C) (I : Inv X pins σ H s) (e : H a = some (exo a C none)) (hno : PySem.W.findIn X.K (.ref C) f = some none) (ry : RelV y u)
    (h : ∀ dx s', H dx = none → dx ≠ a → Inv X pins σ (upd (upd H dx (exd dx [(f, y)])) a (exo a C (some dx))) s' → Q () s') : wpAny (model X.prog X.w) A (setAttr (.ref a) f u) Q E s := by
  obtain ⟨t1, ho⟩ := exo_at I.hok e
  obtain ⟨hp, g, d, t, os⟩ := s
  refine PySem.W.set_plain I.kIn (ox := { cls := .ref C, dict := none, data := .fields #[.ref t1, .none, .none, .none, .bool false, .none] }) (od := none) ⟨ho, rfl, rfl, trivial⟩ T.sa ?_
  refine exc_osaA T I.kIn ho hno (fun h' tk' dx k dn dne hx hn => ?_)
  have hnd : H dx = none := I.hok.fresh dn
  have nd : ∀ {b : Addr} {o : Obj}, hp.get? b = some o → b ≠ dx := fun {b o} q => Nat.ne_of_lt (Nat.lt_of_lt_of_le (Heap.lt_size q) dn)
  have na : ∀ {b : Addr}, H b = none → b ≠ a := fun {b} n z => by
    rw [z, e] at n
    cases n
  have Un1 : Un X.fs [] H (upd (upd H dx (exd dx [(f, y)])) a (exo a C (some dx))) hp h' := {
    keep := fun b o q n _ _ => k b o (na n) q
    slot := fun b o q n _ _ => ⟨o.slots, k b o (na n) q⟩
    free := fun b o q n _ => by rw [upd_ne (na n), upd_ne (nd q)]; exact n
    there := fun b o q _ => by
      by_cases hb : b = a
      · exact ⟨_, by rw [hb]; exact hx⟩
      · exact ⟨o, k b o hb q⟩
    tups := fun b xs q => by rw [upd_ne (at_ne e q exo_tup), upd_ne (ne_of_none q hnd)]; exact q
    frzs := fun b o v q => by rw [upd_ne (at_ne e q exo_frz), upd_ne (ne_of_none q hnd)]; exact q
    tbls := fun b ps q => ⟨#[], by rw [upd_ne (at_ne e q exo_tbl), upd_ne (ne_of_none q hnd), q]; simp⟩ }
  refine h dx _ hnd dne (I.un (t' := tk') Un1 fun b o q => ?_)
  by_cases hb : b = a
  · subst hb
    rw [upd_same] at q
    cases q
    exact exo_ok hx
  · rw [upd_ne hb] at q
    by_cases hd : b = dx
    · subst hd
      rw [upd_same] at q
      cases q
      exact exd_ok hn (relO_put (fs := []) ry fun g => True.intro)
    · rw [upd_ne hd] at q
      exact (I.hok b o q).stay (fun c v hc z => k c v (by
          rcases hc with hc | hc
          · rw [hc]
            exact hb
          · exact at_ne e hc exo_own) z)
        (fun c hc => by rw [upd_ne (at_ne e hc exo_own), upd_ne (ne_of_none hc hnd)]; exact hc) (fun c xs hc => by rw [upd_ne (at_ne e hc exo_tup), upd_ne (ne_of_none hc hnd)]; exact hc)
/-- ArithmeticError.__init__(self, ..): nothing of it is told -/
theorem oinit_okA {us : List Value} {Q : Value → Shared → Prop} (T : OexA X.K C) (I : Inv X pins σ H s) (e : H a = some (exo a C none)) (hl : us.length ≤ sizeLine) (h : ∀ s', Inv X pins σ H s' → Q .none s') :
    wpAny (model X.prog X.w) A (call (.builtin "ArithmeticError.__init__") (.ref a :: us)) Q E s := by
  obtain ⟨nm, N, q, bs, bm, hdct, sn, sub, ab, col, dd, k0, k1, k2, k3, k5, hC, hbm⟩ := PySem.W.excInit_of I.kIn T.ini
  obtain ⟨t1, ho⟩ := exo_at I.hok e
  obtain ⟨hp, g, d, t, os⟩ := s
  refine wpAny_call (PySem.HandSPX.init_base F.excBase_ArithmeticError hbm hC ho hl fun h' t2 k hx => ?_)
  have J := I.write (t' := t) (x := a) (e := a) (o := exo a C none) (by rw [e]; exact True.intro) (.inl rfl) k ⟨_, hx⟩ (exo_ok hx)
  have eu : upd H a (exo a C none) = H := by
    funext b
    by_cases hb : b = a
    · rw [hb, upd_same, e]
    · rw [upd_ne hb]
  rw [eu] at J
  exact h _ J
end
/-! ### readings and rules -/
/-- what a class over ArithmeticError says when its __init__ is read -/
structure BaseA (K : PySem.W.Frag) (C : Addr) : Prop where
  kp : PySem.W.keepIn K (.ref C) = true
  sp : PySem.W.specialIn K (.ref C) "__getattribute__" = some (some (.builtin "type.__getattribute__"))
  rd : PySem.W.readsIn K C (.type "type") = true
  fi : PySem.W.findCls K (.ref C) (.type "type") "__init__" = some (.val (.builtin "ArithmeticError.__init__"))
def baseAB (K : PySem.W.Frag) (C : Addr) : Bool := PySem.W.keepIn K (.ref C) && (decide (PySem.W.specialIn K (.ref C) "__getattribute__" = some (some (.builtin "type.__getattribute__"))) && (PySem.W.readsIn K C (.type "type") &&
  (match PySem.W.findCls K (.ref C) (.type "type") "__init__" with
    | some (.val (.builtin n)) => n == "ArithmeticError.__init__"
    | _ => false)))
theorem baseAB_ok {K : PySem.W.Frag} {C : Addr} (h : baseAB K C = true) : BaseA K C := by
  obtain ⟨h1, h⟩ := Bool.and_eq_true_iff.mp h
  obtain ⟨h2, h⟩ := Bool.and_eq_true_iff.mp h
  obtain ⟨h3, h4⟩ := Bool.and_eq_true_iff.mp h
  refine ⟨h1, of_decide_eq_true h2, h3, ?_⟩
  split at h4
  · rename_i n e
    rw [e, beq_iff_eq.mp h4]
  · cases h4
/-- Base.__init__(self, ..) -/
def tCeI (K : PySem.W.Frag) (ta : TA) : TE := fun σ H Q => ta σ H fun vs H1 => ∃ (a C : Addr) (ws : List V), vs = .ref a :: ws ∧ ws.length ≤ 1000 ∧ OexA K C ∧ H1 a = some (exo a C none) ∧ Q .non H1
/-- self.f = e -/
def tOsA (K : PySem.W.Frag) (f : Str) (to te : TE) : TS := fun D σ H => te σ H fun y H1 => to σ H1 fun x H2 => ∃ a C : Addr, x = .ref a ∧ OexA K C ∧ PySem.W.findIn K (.ref C) f = some none ∧
  H2 a = some (exo a C none) ∧ ∀ dx, H2 dx = none → dx ≠ a → D.nx σ (upd (upd H2 dx (exd dx [(f, y)])) a (exo a C (some dx)))
/-- C(e, ..), C's own __init__ keeping sp -/
def tMkA (C : Addr) (sp : Sp) (ta : TA) : St → Hp → XK → Prop := fun σ H Q => ta σ H fun vs H1 => vs.length ≤ 1000 ∧ ∀ a, H1 a = none → sp (.ref a :: vs) (upd H1 a (exo a C none))
  (fun v H2 => v = .non ∧ ((H2 a = some (exo a C none) ∧ Q (.ref C) none (del H2 a)) ∨ ∃ (d : Addr) (fs : List (Str × V)), H2 a = some (exo a C (some d)) ∧ H2 d = some (exd d fs) ∧ H1 d = none ∧ Q (.ref C) (some d) (upd (del H2 a) d (.xd fs)))) (fun _ _ _ => False)
section
variable {X : Cx} {o e : Expr} {es : List Expr} {to te : TE} {ta : TA} {f : Str} {p p' p1 p2 pos : Pos}
theorem pe_ceinit {pl : Sem Bool} {x : Str} {B : Addr} (T0 : BaseA X.K B) (hg : Gl X x) (hm : X.mg x = some (.ref B)) (ha : PA X (e :: es) ta)
    (hc : eval (.Call (.Attribute (.Name x p1) "__init__" p2) (e :: es) [] pos) X.env = (do
      let ov ← eval (.Name x p1) X.env
      standAt p2.atName
      let (f, first) ← holding [ov] (getMethod ov "__init__" pl)
      callWith pos f first (backTo pos (starEach (e :: es) X.env)) (backToKw pos (keywordEach [] X.env))) := by rfl)
    (he : starEach (e :: es) X.env = (false, eval e X.env) :: starEach es X.env := by rfl) (hpl : (backTo pos (starEach es X.env)).any (·.1) = false := by rfl) (hdb : (x == ("__debug__" : Str)) = false := by decide) :
    PE X (.Call (.Attribute (.Name x p1) "__init__" p2) (e :: es) [] pos) (tCeI X.K ta) := by
  refine ⟨fun pins s σ H Q I h => ?_⟩
  refine PySem.W.methodCall_KW (ld_glob I hg hm ?_ hdb) hc
  refine PySem.W.method_cls I.kIn T0.sp ?_
  refine PySem.W.cls_value I.kIn T0.rd T0.fi (by decide +kernel) ?_
  show wpAny _ _ (callWith pos (Value.builtin "ArithmeticError.__init__") [] (backTo pos (starEach (e :: es) X.env)) []) _ _ _
  refine PyProof.Rows.callWith_method1 (thn (ha.run pos pins _ σ H _ (I.tok _) h) fun us s1 ⟨vs, H1, I1, r1, a, C, ws, ev, hl, T, ea, q⟩ => ?_) he hpl
  subst ev
  cases r1 with
  | @cons _ u0 _ ur ra rw' =>
    obtain rfl : u0 = Value.ref a := ra
    have hlen : ur.length ≤ sizeLine := by
      rw [← Paired.length rw', sizeLine_eq]
      omega
    exact oinit_okA T I1 ea hlen fun s' J => ⟨.non, H1, J, rfl, q⟩
theorem ps_osA (ho : PE X o to) (he : PE X e te) (hs : swapsWith e (some (.Attribute o f p')) pos.line X.env = pure false := by rfl) : PS X (.Assign [.Attribute o f p'] e pos) (tOsA X.K f to te) := by
  refine ⟨fun pins s σ H D I h => ?_⟩
  refine plainObj_wpAny_Assign_Attribute (thn (he.run pins s σ H _ I h) fun v s1 ⟨y, H1, I1, r1, q1⟩ => thn (ho.run pins s1 σ H1 _ I1 q1) fun u s2 ⟨x, H2, I2, r2, a, C, ex, T, hno, ea, q⟩ => ?_) hs
  subst ex
  obtain rfl : u = Value.ref a := r2
  exact ost_newA T I2 ea hno r1 fun dx s' n ne J => ⟨σ, _, J, q dx n ne⟩
/-- the end of C(): the exception, without a dict, is let go -/
theorem mk_endN {pins : List (Addr × Obj)} {σ : St} {H1 H2 : Hp} {Q : XK} {hp hp2 h2 : Heap} {g1 g2 : Array GenState} {d1 d2 : Drawn} {t1 t2 : Nat} {os1 os2 : OsState} {a C : Addr} (T : Raises X (.ref C)) (I1 : Inv X pins σ H1 ⟨hp, g1, d1, t1, os1⟩)
    (ha : hp.objs.size ≤ a) (k : ∀ b o, hp.get? b = some o → hp2.get? b = some o) (un : Un (frs X.stack) [] (upd H1 a (exo a C none)) H2 hp2 h2) (hok : HOk X.prog X.w H2 h2) (ho : os2 = os1) (hb : AllBare g2)
    (ea : H2 a = some (exo a C none)) (q : Q (.ref C) none (del H2 a)) : MkP X pins σ Q (.ref a) ⟨h2, g2, d2, t2, os2⟩ := by
  obtain ⟨t0, hoe⟩ := exo_at hok ea
  have hn : H1 a = none := I1.hok.fresh ha
  obtain ⟨G, g1', g2'⟩ := restrict h2 fun b => decide (b ≠ a)
  have gk : ∀ b, b ≠ a → G.get? b = h2.get? b := fun b hb => g1' b (decide_eq_true hb)
  have ge : G.get? a = none := g2' a (by simp)
  have nha : ∀ {b : Addr} {o : Obj}, hp.get? b = some o → b ≠ a := fun {b o} z => Nat.ne_of_lt (Nat.lt_of_lt_of_le (Heap.lt_size z) ha)
  have up : ∀ {b : Addr}, b ≠ a → H1 b = none → upd H1 a (exo a C none) b = none := fun {b} hb n => by rw [upd_ne hb]; exact n
  have U : Un (frs X.stack) [] H1 (del H2 a) hp G := {
    keep := fun b o z n hf hx => by
      rw [gk b (nha z)]
      exact un.keep b o (k b o z) (up (nha z) n) hf hx
    slot := fun b o z n hf hx => by
      rw [gk b (nha z)]
      exact un.slot b o (k b o z) (up (nha z) n) hf hx
    free := fun b o z n hx => by
      rw [del_ne (nha z)]
      exact un.free b o (k b o z) (up (nha z) n) hx
    there := fun b o z hx => by
      rw [gk b (nha z)]
      exact un.there b o (k b o z) hx
    tups := fun b xs z => by
      rw [del_ne (ne_of_none z hn)]
      exact un.tups b xs (by rw [upd_ne (ne_of_none z hn)]; exact z)
    frzs := fun b o v z => by
      rw [del_ne (ne_of_none z hn)]
      exact un.frzs b o v (by rw [upd_ne (ne_of_none z hn)]; exact z)
    tbls := fun b ps z => by
      rw [del_ne (ne_of_none z hn)]
      exact un.tbls b ps (by rw [upd_ne (ne_of_none z hn)]; exact z) }
  have hok3 : HOk X.prog X.w (del H2 a) G := fun b o z => by
    have hba : b ≠ a := fun e => by
      rw [e, del_same] at z
      cases z
    rw [del_ne hba] at z
    have noa : ∀ {c : Addr}, H2 c = some (.own b) → c ≠ a := fun {c} hc => at_ne ea hc exo_own
    exact (hok b o z).stay (fun c v hc y => by
        have hca : c ≠ a := by
          rcases hc with hc | hc
          · rw [hc]
            exact hba
          · exact noa hc
        rw [gk c hca]
        exact y)
      (fun c hc => by rw [del_ne (noa hc)]; exact hc) (fun c xs hc => by rw [del_ne (at_ne ea hc exo_tup)]; exact hc)
  have J : Inv X pins σ (del H2 a) ⟨G, g2, d2, t2, os2⟩ := I1.call' (ch := []) ho U hok3 hb (fun b z => absurd z (by simp))
  refine ⟨a, _, _, ⟨G, g2, d2, t2, os2⟩, _, .ref C, none, rfl, J, fun b o z => ?_, ge, hoe, ⟨rfl, rfl⟩, rfl, rfl, del_same, rfl, hb, T, q⟩
  by_cases hba : b = a
  · rw [hba, ge] at z
    cases z
  · exact (gk b hba).symm.trans z
theorem pmk_core {CX : CXT} {C fI : Addr} {k : Nat} {fd : FuncData} {ps : List Str} {sp : Sp} {pins : List (Addr × Obj)} {σ : St} {H1 : Hp} {Q : XK} {s1 : Shared} {vs : List V} {us : List Value} (T : OexA X.K C) (iC : PySem.W.findIn X.K (.ref C) "__init__" = some (some (.ref fI))) (tI : PySem.W.typeIn X.K (.ref fI) = some (.type "function"))
    (F1 : FnOk X.prog X.w X.K X.mg X.base CX k fI fd ps sp) (hr : Room (k + 1) X.A) (hb : Binds X.K fd ps []) (hx : Passes CX X (fun _ _ _ => False)) (I1 : Inv X pins σ H1 s1) (r1 : Vals vs us) (hz : vs.length ≤ 1000)
    (q1 : ∀ a, H1 a = none → sp (.ref a :: vs) (upd H1 a (exo a C none))
      (fun v H2 => v = .non ∧ ((H2 a = some (exo a C none) ∧ Q (.ref C) none (del H2 a)) ∨ ∃ (d : Addr) (fs : List (Str × V)), H2 a = some (exo a C (some d)) ∧ H2 d = some (exd d fs) ∧ H1 d = none ∧ Q (.ref C) (some d) (upd (del H2 a) d (.xd fs)))) (fun _ _ _ => False)) :
    wpAny (model X.prog X.w) X.A (call (.ref C) us) (MkP X pins σ Q) X.xe s1 := by
  obtain ⟨nm, N, q, bs, bm, hdct, sn, sub, ab, col, dd, k0, k1, k2, k3, k5, hC, hbm⟩ := PySem.W.excInit_of I1.kIn T.ini
  obtain ⟨hp, g, dr, tk, os⟩ := s1
  have hsz : hp.objs.size ≤ hp.objs.size + 1 := Nat.le_succ _
  have hn : H1 (hp.objs.size + 1) = none := I1.hok.fresh hsz
  have hq := q1 (hp.objs.size + 1) hn
  have kk : ∀ b o, hp.get? b = some o → ((hp.push (PySem.W.kdv_tup us)).push (PySem.HandSPX.excO C hp.objs.size)).get? b = some o := fun b o e => Heap.get?_push_of_some _ (Heap.get?_push_of_some _ e)
  have hget : ((hp.push (PySem.W.kdv_tup us)).push (PySem.HandSPX.excO C hp.objs.size)).get? (hp.objs.size + 1) = some (PySem.HandSPX.excO C hp.objs.size) := by heap_get
  have I2 : Inv X pins σ (upd H1 (hp.objs.size + 1) (exo (hp.objs.size + 1) C none)) ⟨(hp.push (PySem.W.kdv_tup us)).push (PySem.HandSPX.excO C hp.objs.size), g, dr, tk, os⟩ :=
    I1.laid (t' := tk) (a := hp.objs.size + 1) (o := exo (hp.objs.size + 1) C none) (h' := (hp.push (PySem.W.kdv_tup us)).push (PySem.HandSPX.excO C hp.objs.size)) kk hsz (exo_ok hget)
  have r2 : Vals (V.ref (hp.objs.size + 1) :: vs) (Value.ref (hp.objs.size + 1) :: us) := .cons rfl r1
  have r3 : Vals (V.ref (hp.objs.size + 1) :: vs) (Value.ref (hp.objs.size + 1) :: us ++ []) := by rw [List.append_nil]; exact r2
  have hl : (Value.ref (hp.objs.size + 1) :: us ++ []).length = ps.length := by
    have e := r3.length
    rw [F1.len _ _ _ _ hq] at e
    exact e.symm
  have hus : us.length ≤ sizeLine := by
    rw [← Paired.length r1, sizeLine_eq]
    omega
  refine wpAny_call (PySem.HandSPX.call_own F.excBase_ArithmeticError hbm hC (PySem.W.looks_findIn I1.kIn iC) (fun self => PySem.W.bind_fn I1.kIn self tI) hus
    (codeAny_mono (F1.run _ X.stack _ _ ⟨Value.ref (hp.objs.size + 1) :: us, []⟩ (Value.ref (hp.objs.size + 1) :: us ++ []) _ _ (fun _ _ _ => False) (hr.make C us []) (I2.env0.make C us []) (hb _ (Value.ref (hp.objs.size + 1) :: us) I2.kIn hl) r3 hq) fun r s' hq' => ?_))
  cases r with
  | error er => exact hx pins σ _ _ er s' I2 hq'
  | ok fl =>
    cases fl with
    | ret u =>
      obtain ⟨v, H2, os2, bare2, un2, hok2, rv, ev, hh⟩ := hq'
      subst ev
      obtain ⟨h2, g2, d2, t2, os'⟩ := s'
      rcases hh with ⟨ea, q2⟩ | ⟨d, fs, ea, ed, hd1, q2⟩
      · exact ⟨rv, mk_endN (raises_own T.exC T.tyC) I1 hsz kk un2 hok2 os2 bare2 ea q2⟩
      · exact ⟨rv, mk_end (raises_own T.exC T.tyC) I1 hsz kk un2 hok2 os2 bare2 ea ed hd1 q2⟩
    | next => exact False.elim hq'
    | brk => exact False.elim hq'
    | cont => exact False.elim hq'
/-- C(e, ..) -/
theorem pmk_oexA {CX : CXT} {x : Str} {C fI : Addr} {k : Nat} {fd : FuncData} {ps : List Str} {sp : Sp} (T : OexA X.K C) (iC : PySem.W.findIn X.K (.ref C) "__init__" = some (some (.ref fI))) (tI : PySem.W.typeIn X.K (.ref fI) = some (.type "function"))
    (F1 : FnOk X.prog X.w X.K X.mg X.base CX k fI fd ps sp) (hr : Room (k + 1) X.A) (hb : Binds X.K fd ps []) (hx : Passes CX X (fun _ _ _ => False)) (hg : Gl X x) (hm : X.mg x = some (.ref C)) (ha : PA X (e :: es) ta)
    (hdb : (x == ("__debug__" : Str)) = false := by decide) (he : starEach (e :: es) X.env = (false, eval e X.env) :: starEach es X.env := by rfl) (hpl : (backTo pos (starEach es X.env)).any (·.1) = false := by rfl) :
    PMk X (.Call (.Name x p) (e :: es) [] pos) (tMkA C sp ta) := by
  intro pins s σ H Q I h
  refine wpAny_Call_Name_kw (ld_glob I hg hm ?_ hdb)
  refine PySem.W.callWith_K (h₀ := X.base) I.ok.mod.kin T.kC (thn (ha.run pos pins s σ H _ I h) fun us s1 ⟨vs, H1, I1, r1, hz, q1⟩ => ⟨I1.kIn, ?_⟩) he hpl
  exact pmk_core T iC tI F1 hr hb hx I1 r1 hz q1
end
end L2
namespace L2
open PySem PySem.Spec PyProof.Rows
/-! ### several clauses, each with or without a name -/
/-- the ends of a suite whose name (slot i) is gone behind it -/
def endsGone (D : Ends) : Option Nat → Ends
  | none => D
  | some i => { nx := fun σ' H' => D.nx (σ'.set i none) H', rt := D.rt, bk := fun σ' H' => D.bk (σ'.set i none) H', ct := fun σ' H' => D.ct (σ'.set i none) H' }
def slotPut (σ : St) (a : Addr) : Option Nat → St
  | none => σ
  | some i => σ.set i (some (.ref a))
abbrev Cls1 : Type := Value × Option Nat × (Addr → Value → Option Addr → TS)
def wAny (K : PySem.W.Frag) (Wout : WX) (D : Ends) : List Cls1 → WX
  | [] => Wout
  | (c, i, ts) :: r => fun cls d σ H => ∃ b, PySem.W.exmOne K cls c = some b ∧ (b = true → ∀ a, H a = none → ts a cls d (endsGone D i) (slotPut σ a i) H) ∧ (b = false → wAny K Wout D r cls d σ H)
inductive HdsA (X : Cx) : List ExceptHandler → List Cls1 → Prop
  | nil : HdsA X [] []
  | plain {x : Str} {c : Value} {ts : Addr → Value → Option Addr → TS} {b₀ : Stmt} {suite : List Stmt} {np pos' : Pos} {hds : List ExceptHandler} {l : List Cls1} (hc : Names X x c)
      (hsu : ∀ (a : Addr) (oe : Obj) (cls : Value) (d : Option Addr) (pn : List (Addr × Obj)), Zc cls d oe → (∃ vs, oe.data = .fields vs) → PSs (X.suite a ((a, oe) :: pn)) (b₀ :: suite) (ts a cls d)) (r : HdsA X hds l) :
      HdsA X (.ExceptHandler (some (.Name x np)) none (b₀ :: suite) pos' :: hds) ((c, none, ts) :: l)
  | named {x n : Str} {c : Value} {i : Nat} {ts : Addr → Value → Option Addr → TS} {b₀ : Stmt} {suite : List Stmt} {np pos' : Pos} {hds : List ExceptHandler} {l : List Cls1} (hN : X.N.Nodup) (hi : X.N[i]? = some n) (hln : X.env.kindOf n = some .local) (hc : Names X x c)
      (hsu : ∀ (a : Addr) (oe : Obj) (cls : Value) (d : Option Addr) (pn : List (Addr × Obj)), Zc cls d oe → (∃ vs, oe.data = .fields vs) → PSs (X.suite a ((a, oe) :: pn)) (b₀ :: suite) (ts a cls d)) (r : HdsA X hds l) :
      HdsA X (.ExceptHandler (some (.Name x np)) (some n) (b₀ :: suite) pos' :: hds) ((c, some i, ts) :: l)
section
variable {X : Cx} {body : List Stmt} {h₀ : ExceptHandler} {hds : List ExceptHandler} {l : List Cls1} {pos : Pos} {tb : WX → TS} {Wout : WX}
theorem ps_try_any (hs : X.stack = X.env :: X.outer) (hf : X.env.frame = some X.env.locals) (tk : Takes X Wout)
    (hb : ∀ (W : WX) (pn : List (Addr × Obj)) (xe : Value → Shared → Prop), Takes (X.tr pn xe) W → PassesOwn (model X.prog X.w) X.A X.env xe → PSs (X.tr pn xe) body (tb W))
    (hh : HdsA X (h₀ :: hds) l) : PS X (.Try body (h₀ :: hds) [] [] pos) (fun D σ H => tb (wAny X.K Wout D l) D σ H) := by
  refine ⟨fun pins s σ H D I h => ?_⟩
  have ok := I.ok
  have hfr : X.A.frames = some (X.env :: X.outer) := by rw [ok.frames, hs]
  refine wpAny_Try_except ?_
  refine wpAny_mono ((hb (wAny X.K Wout D l) (X.pn ++ pins) (fun e s₁ => wpAny (model X.prog X.w) X.A (noteFrame e X.env) (fun _ s₂ => wpAny (model X.prog X.w) X.A (setFlight e none) (fun _ s₃ =>
    wpAny (model X.prog X.w) X.A (handleBy e X.env (h₀ :: hds)) (SP X pins D) X.xe s₃) X.xe s₂) X.xe s₁) (fun u s' xx => ?_) PassesOwn.looking).run [] s σ H D (I.toTry _) h) (fun f s1 hsp => ?_) (fun e s1 he => he)
  · -- the catch
    obtain ⟨a, B, sI, pins', σ', H', cls, d, rfl, J', nb, up, sky, na, os, ag, w⟩ := xx
    have J : Inv X pins σ' H' sI := J'.ofTry ok
    have sky' : Sky B (X.env :: X.outer) a (Zc cls d) X.env.locals s'.heap := by rw [← hs]; exact sky
    show wpAny (model X.prog X.w) X.A (noteFrame (.ref a) X.env) _ _ _
    refine Sky.land Zc.steady hfr hf sky' fun h3 fl3 up3 => ?_
    have J3 : Inv X pins σ' H' { s' with heap := h3 } := J.landed nb fl3.1 (up.trans up3) os ag
    obtain ⟨oe3, vs3, he3, hz3, hd3⟩ := fl3.there
    have notFr : ∀ {h : Heap} {o : Obj} {vs : Array Value}, h.FunFrames B (X.env :: X.outer) → h.get? a = some o → o.data = .fields vs → a ∉ frs (X.env :: X.outer) := fun {h o vs} ff e dd hm => by
      obtain ⟨_, o', e', hnf⟩ := ff.mem hm
      rw [e] at e'; cases e'
      exact hnf _ dd
    have nfr := notFr fl3.2.2.1 he3 hd3
    have nL : a ≠ X.env.locals := fun z => nfr (List.mem_filterMap.mpr ⟨X.env, List.mem_cons_self, by rw [hf, z]⟩)
    have nF : a ∉ X.fs := fun hm => by
      obtain ⟨e, he, q⟩ := List.mem_filterMap.mp hm
      exact nfr (List.mem_filterMap.mpr ⟨e, List.mem_cons_of_mem _ he, q⟩)
    have S3 := J3.suite he3 hd3 na nL nF
    have LT : PySem.W.Looks (model X.prog X.w) h3 (typeOf (.ref a)) cls := fun A Q E s k q => wpAny_typeOf_ref (k _ _ he3) (by rw [hz3.1]; exact q)
    have test : ∀ {x : Str} {c : Value} {np : Pos} {Q : Value → Shared → Prop} {E : Value → Shared → Prop}, Names X x c → Q c { s' with heap := h3 } → wpAny (model X.prog X.w) (X.A.mark (some (.ref a))) (eval (.Name x np) X.env) Q E { s' with heap := h3 } := fun {x c np Q E} hc q => by
      obtain ⟨hg, hdbg, hm | ⟨hm, hv, hnn⟩⟩ := hc
      · exact ld_glob (X := X.suite a ((a, oe3) :: (X.pn ++ pins))) S3 hg hm q hdbg
      · exact ld_blt (X := X.suite a ((a, oe3) :: (X.pn ++ pins))) S3 hg hm hv q hnn hdbg
    have go : ∀ {hds' : List ExceptHandler} {l' : List Cls1}, HdsA X hds' l' → wAny X.K Wout D l' cls d σ' H' →
        wpAny (model X.prog X.w) X.A (handleBy (.ref a) X.env hds') (SP X pins D) X.xe { s' with heap := h3 } := by
      intro hds' l' hk
      induction hk with
      | nil =>
        intro w
        refine wpAny_handleBy_nil ?_
        obtain ⟨k1, k2, k3, oe, vs, T, oT, ts', he, hz, hd, h1, hr⟩ := id fl3
        unfold PySem.passOn
        refine wpAny_bind (wpAny_field he hd h1 ?_)
        rw [if_neg (show ¬ ((Value.ref T == Value.none) = true) from by simp)]
        have fin : wpAny (model X.prog X.w) X.A (setFlight (.ref a) X.env.frame) (fun _ s4 => wpAny (model X.prog X.w) X.A (throw (.ref a) : Sem Flow) (SP X pins D) X.xe s4) X.xe { s' with heap := h3 } := by
          rw [hf]
          refine HandSPX.setFlight_upZ fl3 fun h4 hh4 up4 => wpAny_throw (tk _ _ ?_)
          exact ⟨a, B, sI, pins, σ', H', cls, d, rfl, J, nb, (up.trans up3).trans up4, .inr (.inr (by rw [hs]; exact hh4)), na, os, ag, w⟩
        first
          | exact wpAny_bind (wpAny_pure (wpAny_bind fin))
          | exact wpAny_bind fin
      | @plain x c ts b₀ suite np pos' hds2 l2 hc hsu r ih =>
        intro w
        obtain ⟨b, hb1, hyes, hno⟩ := w
        refine wpAny_handleBy_cons (codeAny_handlers_test ?_) (by intro q; cases q)
        refine test hc ((PySem.W.exm_one (M := model X.prog X.w) (J3.kIn) LT hb1).here ?_)
        cases b with
        | true =>
          refine codeAny_handlers_suite ?_
          refine HandSPX.lands_againZ fl3 fun h4 fl4 up4 => ?_
          have J4 : Inv X pins σ' H' { s' with heap := h4 } := J.landed nb fl4.1 ((up.trans up3).trans up4) os ag
          obtain ⟨oe4, vs4, he4, hz4, hd4⟩ := fl4.there
          have S4 := J4.suite he4 hd4 na nL nF
          refine wpAny_mono ((hsu a oe4 cls d (X.pn ++ pins) hz4 ⟨_, hd4⟩).run [] _ _ H' _ S4 (hyes rfl a na)) (fun f s6 hsp => ?_) (fun _ _ z => False.elim z)
          cases f with
          | next =>
            obtain ⟨σ6, H6, S6, q6⟩ := hsp
            exact ⟨_, _, S6.unsuite ok, q6⟩
          | brk =>
            obtain ⟨σ6, H6, S6, q6⟩ := hsp
            exact ⟨_, _, S6.unsuite ok, q6⟩
          | cont =>
            obtain ⟨σ6, H6, S6, q6⟩ := hsp
            exact ⟨_, _, S6.unsuite ok, q6⟩
          | ret u =>
            obtain ⟨v6, σ6, H6, S6, r6, q6⟩ := hsp
            exact ⟨_, _, _, S6.unsuite ok, r6, q6⟩
        | false =>
          show wpAny _ X.A (handleBy (.ref a) X.env hds2) _ _ _
          exact ih (hno rfl)
      | @named x n c i ts b₀ suite np pos' hds2 l2 hN hi hln hc hsu r ih =>
        intro w
        obtain ⟨b, hb1, hyes, hno⟩ := w
        refine wpAny_handleBy_cons (codeAny_handlers_test ?_) (by intro q; cases q)
        refine test hc ((PySem.W.exm_one (M := model X.prog X.w) (J3.kIn) LT hb1).here ?_)
        have hloc : Loc X.env.scope n := .inl hln
        cases b with
        | true =>
          refine codeAny_handlers_suite_as ?_
          refine HandSPX.lands_againZ fl3 fun h4 fl4 up4 => ?_
          have J4 : Inv X pins σ' H' { s' with heap := h4 } := J.landed nb fl4.1 ((up.trans up3).trans up4) os ag
          obtain ⟨oe4, vs4, he4, hz4, hd4⟩ := fl4.there
          have S4 := J4.suite he4 hd4 na nL nF
          refine store_ok (X := X.suite a ((a, oe4) :: (X.pn ++ pins))) (v := .ref a) S4 hN hi hloc rfl (fun s5 S5 => ?_) (.inr hln)
          refine wpAny_mono ((hsu a oe4 cls d (X.pn ++ pins) hz4 ⟨_, hd4⟩).run [] s5 _ H' _ S5 (hyes rfl a na)) (fun f s6 hsp => ?_) (fun _ _ z => False.elim z)
          have end_ : ∀ {σ6 : St} {H6 : Hp} {Q : Shared → Prop}, Inv (X.suite a ((a, oe4) :: (X.pn ++ pins))) [] σ6 H6 s6 → (∀ s7, Inv X pins (σ6.set i none) H6 s7 → Q s7) →
              wpAny (model X.prog X.w) X.A (do bindName X.env n .none; unbindBehindTheSuite X.env n pos') (fun _ s7 => Q s7) X.xe s6 := fun {σ6 H6 Q} S6 hq => gone_ok (S6.unsuite ok) hN hi hln hq
          cases f with
          | next =>
            obtain ⟨σ6, H6, S6, q6⟩ := hsp
            exact end_ S6 fun s7 J7 => ⟨_, _, J7, q6⟩
          | brk =>
            obtain ⟨σ6, H6, S6, q6⟩ := hsp
            exact end_ S6 fun s7 J7 => ⟨_, _, J7, q6⟩
          | cont =>
            obtain ⟨σ6, H6, S6, q6⟩ := hsp
            exact end_ S6 fun s7 J7 => ⟨_, _, J7, q6⟩
          | ret u =>
            obtain ⟨v6, σ6, H6, S6, r6, q6⟩ := hsp
            exact end_ S6 fun s7 J7 => ⟨_, _, _, J7, r6, q6⟩
        | false =>
          show wpAny _ X.A (handleBy (.ref a) X.env hds2) _ _ _
          exact ih (hno rfl)
    exact go hh w
  · cases f with
    | next =>
      obtain ⟨σ', H', J', q⟩ := hsp
      exact wpAny_execs_nil ⟨σ', H', J'.ofTry ok, q⟩
    | brk =>
      obtain ⟨σ', H', J', q⟩ := hsp
      exact ⟨σ', H', J'.ofTry ok, q⟩
    | cont =>
      obtain ⟨σ', H', J', q⟩ := hsp
      exact ⟨σ', H', J'.ofTry ok, q⟩
    | ret u =>
      obtain ⟨v, σ', H', J', r, q⟩ := hsp
      exact ⟨v, σ', H', J'.ofTry ok, r, q⟩
end
section
variable {X : Cx} {p pos : Pos}
/-- C() -/
theorem pmk_oexA0 {CX : CXT} {x : Str} {C fI : Addr} {k : Nat} {fd : FuncData} {ps : List Str} {sp : Sp} (T : OexA X.K C) (iC : PySem.W.findIn X.K (.ref C) "__init__" = some (some (.ref fI))) (tI : PySem.W.typeIn X.K (.ref fI) = some (.type "function"))
    (F1 : FnOk X.prog X.w X.K X.mg X.base CX k fI fd ps sp) (hr : Room (k + 1) X.A) (hb : Binds X.K fd ps []) (hx : Passes CX X (fun _ _ _ => False)) (hg : Gl X x) (hm : X.mg x = some (.ref C))
    (hdb : (x == ("__debug__" : Str)) = false := by decide) : PMk X (.Call (.Name x p) [] [] pos) (tMkA C sp tNil) := by
  intro pins s σ H Q I h
  obtain ⟨hz, q1⟩ := h
  refine wpAny_Call_Name_kw (ld_glob I hg hm ?_ hdb)
  exact PySem.W.callWith_K0 I.kIn T.kC (pmk_core (us := []) T iC tI F1 hr hb hx I .nil hz q1)
end
end L2
namespace L2
open PySem PySem.Spec PyProof.Rows
/-! ### isinstance of a caught error, told by the head -/
def excCB (K : PySem.W.Frag) (D : Addr) : Bool := decide (PySem.W.findIn K (.ref D) "__getattribute__" = some (some (.builtin "BaseException.__getattribute__"))) && (decide (PySem.W.findIn K (.ref D) "__getattr__" = some none) && (decide (PySem.W.subIn K (.ref D) (.type "BaseException") = some true) && (PySem.W.hasDictIn K D &&
  (decide (PySem.W.findIn K (.ref D) "__class__" = some (some (.builtin "object.__class__"))) && (decide (PySem.W.specialIn K (.builtin "object.__class__") "__get__" = some (some (.builtin "getset_descriptor.__get__"))) && (decide (PySem.W.takesIn K (.builtin "object.__class__") = some true) && decide (PySem.W.mroIn K D (.type "object") = some true)))))))
theorem excCB_ok {K : PySem.W.Frag} {D : Addr} (h : excCB K D = true) : ExcC K D := by
  obtain ⟨h1, h⟩ := Bool.and_eq_true_iff.mp h
  obtain ⟨h2, h⟩ := Bool.and_eq_true_iff.mp h
  obtain ⟨h3, h⟩ := Bool.and_eq_true_iff.mp h
  obtain ⟨h4, h⟩ := Bool.and_eq_true_iff.mp h
  obtain ⟨h5, h⟩ := Bool.and_eq_true_iff.mp h
  obtain ⟨h6, h⟩ := Bool.and_eq_true_iff.mp h
  obtain ⟨h7, h8⟩ := Bool.and_eq_true_iff.mp h
  exact ⟨of_decide_eq_true h1, of_decide_eq_true h2, of_decide_eq_true h3, h4, of_decide_eq_true h5, of_decide_eq_true h6, of_decide_eq_true h7, of_decide_eq_true h8⟩
def kitEB (K : PySem.W.Frag) (C D : Addr) (b : Bool) : Bool := decide (PySem.W.kitOne K (.ref C) (.ref D) = some b)
theorem kitEB_ok {K : PySem.W.Frag} {C D : Addr} {b : Bool} (h : kitEB K C D b = true) : PySem.W.kitOne K (.ref C) (.ref D) = some b := of_decide_eq_true h
end L2
/-! ### a Hook whose part of the heap has the interpreter's statics too -/
namespace NCHook
open PySem He
abbrev fr (g : Addr → Option Obj) (n : Nat) : PySem.W.Frag := frT g (asD g n ++ [cStatics])
section
variable {fa : List Fa} {fn : List DefD} {ts : List Tab} {tf : List Defn} {ex : PySem.W.Frag → Bool} {w : World} {h : Heap} {n : Nat}
def ob (n : Nat) (fa : List Fa) (fn : List DefD) (ts : List Tab) (tf : List Defn) (ex : PySem.W.Frag → Bool) (g : Addr → Option Obj) : AlX :=
  (obsT fa fn ts (fr g n), ex (fr g n) && tabsB g tf (fr g n))
theorem tab {K : PySem.W.Frag} (t : tabsB h.get? tf K = true) : ∀ p ∈ tf, PySem.W.codeHdIn K (cT K p).1 (cT K p).2 = true ∧ ∃ o, h.get? (cT K p).2 = some o ∧ emptyTab o = true := by
  intro p hp
  have b := Bool.and_eq_true_iff.mp (List.all_eq_true.mp t p hp)
  refine ⟨b.1, ?_⟩
  have b2 := b.2
  split at b2
  · exact ⟨_, by assumption, b2⟩
  · cases b2
theorem says (e : ob n fa fn ts tf ex h.get? = valX fn ts w) : SaysX fa fn ts tf ex w h (fr h.get? n) := by
  have c1 : (ob n fa fn ts tf ex h.get?).1 = (valX fn ts w).1 := by rw [e]
  have c2 : (ob n fa fn ts tf ex h.get?).2 = true := by rw [e] <;> rfl
  have c3 := Bool.and_eq_true_iff.mp (show (ex (fr h.get? n) && tabsB h.get? tf (fr h.get? n)) = true from c2)
  refine ⟨c1, c3.1, fun p hp => (tab c3.2 p hp).1, fun p hp => ?_, fun p hp => ?_⟩
  · obtain ⟨o, q, z⟩ := (tab c3.2 p hp).2
    exact frT_none q z
  · obtain ⟨o, q, z⟩ := (tab c3.2 p hp).2
    rw [q, emptyTab_eq z]
end
def hook (n : Nat) (fa : List Fa) (fn : List DefD) (ts : List Tab) (tf : List Defn) (ex : PySem.W.Frag → Bool) : PySem.W.Hook :=
  { α := AlX, obs := fun s => ob n fa fn ts tf ex s.heap.get?, val := fun w => valX fn ts w, says := fun w h => ∃ K : PySem.W.Frag, K.In h ∧ SaysX fa fn ts tf ex w h K,
    of := fun _ _ e => ⟨_, frT_in, says e⟩,
    keeps := fun _ _ _ y k => by
      obtain ⟨K, hK, c⟩ := y
      exact ⟨K, PySem.W.Frag.In.keeps hK k, c.t, c.more, c.hd, c.out, fun p hp => k _ _ (c.empty p hp)⟩ }
theorem ob_eq {n : Nat} {fa : List Fa} {fn : List DefD} {ts : List Tab} {tf : List Defn} {ex : PySem.W.Frag → Bool} {g : Addr → Option Obj} {s : Shared} (q : ∀ a, g a = s.heap.get? a) : ob n fa fn ts tf ex g = (hook n fa fn ts tf ex).obs s := by
  rw [show g = s.heap.get? from funext q] <;> rfl
end NCHook
namespace L2
open PySem PySem.Spec PyProof.Rows
/-! ### readings as rules -/
section
variable {σ : St} {H : Hp} {Q : VK} {D : Ends} {K : PySem.W.Frag}
theorem g_ceI {ta : TA} (h : ta σ H fun vs H1 => ∃ (a C : Addr) (ws : List V), vs = .ref a :: ws ∧ ws.length ≤ 1000 ∧ OexA K C ∧ H1 a = some (exo a C none) ∧ Q .non H1) : tCeI K ta σ H Q := h
theorem g_osA {f : Str} {to te : TE} (h : te σ H fun y H1 => to σ H1 fun x H2 => ∃ a C : Addr, x = .ref a ∧ OexA K C ∧ PySem.W.findIn K (.ref C) f = some none ∧
  H2 a = some (exo a C none) ∧ ∀ dx, H2 dx = none → dx ≠ a → D.nx σ (upd (upd H2 dx (exd dx [(f, y)])) a (exo a C (some dx)))) : tOsA K f to te D σ H := h
theorem g_mkA {C : Addr} {sp : Sp} {ta : TA} {Q : XK} (h : ta σ H fun vs H1 => vs.length ≤ 1000 ∧ ∀ a, H1 a = none → sp (.ref a :: vs) (upd H1 a (exo a C none))
  (fun v H2 => v = .non ∧ ((H2 a = some (exo a C none) ∧ Q (.ref C) none (del H2 a)) ∨ ∃ (d : Addr) (fs : List (Str × V)), H2 a = some (exo a C (some d)) ∧ H2 d = some (exd d fs) ∧ H1 d = none ∧ Q (.ref C) (some d) (upd (del H2 a) d (.xd fs)))) (fun _ _ _ => False)) : tMkA C sp ta σ H Q := h
end
/-- a def that makes lambdas: its code object is told -/
theorem FunD.okC {P : Program} {w : World} {K : PySem.W.Frag} {mg : Str → Option Value} {base : Heap} {x qual : Str} {params : Arguments} {body : List Stmt} {scope : Scope} {dvs : List V} {kws : List (Str × V)} {f : Addr} {fd : FuncData} {CX : CXT} {N ps : List Str} {k : Nat} {sp : Sp} {p : He.Defn}
    (F : FunD K x qual params body scope dvs kws f fd) (hf : f = He.fAd K p) (S : FnScope N ps scope) (len : ∀ vs H Q E, sp vs H Q E → vs.length = ps.length)
    (hbody : ∀ (A : Around) (outer : List Env) (s : Shared) (H : Hp) (vs : List V) (Q : VK) (E : XK), Room k (A.deeper (envOfC qual scope s.heap.objs.size f (.ref (He.codeOf K p)))) → sp vs H Q E →
      ∃ t, PSs (cxOf CX P w K mg base N qual scope f (.ref (He.codeOf K p)) A outer s H E) body t ∧ t { nx := fun _ H' => Q .non H', rt := Q } (start N vs) H) : FnOk P w K mg base CX (k + 1) f fd ps sp := by
  obtain ⟨oc, od, dV, kV, doc, pm, an, cdv, ct, osl, rfl, lk, hcd, _, _⟩ := F.ex
  obtain ⟨c, rfl⟩ := He.codeIn_ref hcd
  have e : He.codeOf K p = c := He.codeOf_eq (hf ▸ lk) rfl
  rw [e] at hbody
  exact fn_of lk hcd S len hbody
end L2
/-! NCLam: lambdas as values: made, kept in lists, called by defs that get them; with one default or none. -/
namespace NCLam
open PySem PySem.Spec PyProof.Rows L2 LamX
/-- the lambda's function; dV: its defaults -/
abbrev fnL (q : Str) (params : Arguments) (body : Expr) (scope : Scope) (cl : List (Str × Addr)) (dV pm : Value) (c' : Addr) (ctv : Value) : FuncData := { PySem.W.kla_fn "<lambda>" q params body scope cl pm (.ref c') ctv with defaults := dV }
abbrev objL (q : Str) (params : Arguments) (body : Expr) (scope : Scope) (cl : List (Str × Addr)) (dV pm : Value) (c' : Addr) (ctv : Value) : Obj := { cls := .type "function", data := .func (fnL q params body scope cl dV pm c' ctv) }
section
variable {M : Model} {A : Around} {E : Value → Shared → Prop} {s : Shared} {q : Str} {params : Arguments} {body : Expr} {scope : Scope} {env : Env} {c P : Addr} {ps : Array Value} {pos : Pos} {fl : Nat} {mg : Str → Option Value} {cl : List (Str × Addr)} {Q : Value → Shared → Prop} {dV : Value}
theorem tailN (hcl : closureFor scope env = pure cl) (g0 : env.globals = mainGlobals) (hg : s.heap.Ns mainGlobals mg) (hco : env.code = .ref c) (C : PySem.W.CodeHd s.heap c P) (hP : s.heap.get? P = some (PySem.W.tabObj ps)) (ht : TriplesOk ps.toList) (hn : codeAmong pos ps.toList = none) (gP : mainGlobals ≠ P) (hb : s.heap.BuiltinsAt mg P)
    (h : ∀ c' ctv h' tk, Heap.ExtBut P s.heap h' → s.heap.objs.size ≤ c' → c' < h'.objs.size → h'.CodeRec (.ref c') q → h'.get? P = some (PySem.W.tabObj (ps ++ #[rawInt pos.line, rawInt pos.col, .ref c'])) → Q (.ref h'.objs.size) { s with heap := h'.push (objL q params body scope cl dV ((mg "__name__").getD .none) c' ctv), toks := tk }) :
    wpAny M A (makeTail "<lambda>" q params (.expr body) scope env dV .none none pos fl) Q E s := by
  obtain ⟨bm, ob, b1, b2, _, b3, b4, b5, b6, b7⟩ := hb
  unfold makeTail; rw [hcl, g0]; refine wpAny_bind (wpAny_pure ?_)
  cases cl with
  | nil =>
    simp only [List.isEmpty_nil, if_true]; refine wpAny_bind (wpAny_pure (wpAny_bind (wpAny_functionCodeX hco (C.code hP ht) (C.tab hP) hn fun c' h' tk x1 x2 x3 _ x4 x5 _ => ?_)))
    have g1 := hg.extBut x1 gP
    refine wpAny_bind (wpAny_builtinsFor g1 b1 b2 (x1 _ _ b3 b4) b5 b6 b7 (wpAny_bind (wpAny_nsGet g1 (wpAny_bind (wpAny_pure (wpAny_newObj_type (h c' .none h' tk x1 x2 x3 x4 x5.2) (by size_fits)))))))
  | cons y r =>
    simp only [List.isEmpty_cons, Bool.false_eq_true, if_false]
    have up : ∀ (oT : Obj) b o, s.heap.get? b = some o → (s.heap.push oT).get? b = some o := fun oT b o e => Heap.get?_push_of_some _ e
    refine wpAny_bind (wpAny_newTextTuple (wpAny_bind (wpAny_functionCodeX hco ((C.keeps (up _)).code (up _ _ _ hP) ht) ((C.keeps (up _)).tab (up _ _ _ hP)) hn fun c' h' tk x1 x2 x3 _ x4 x5 _ => ?_)))
    have g1 := (hg.push _).extBut x1 gP
    have x1' : Heap.ExtBut P s.heap h' := fun b o z e => x1 b o z (up _ b o e)
    have x2' : s.heap.objs.size ≤ c' := Nat.le_trans (by rw [Heap.size_push]; omega) x2
    refine wpAny_bind (wpAny_builtinsFor g1 b1 b2 (x1' _ _ b3 b4) b5 b6 b7 (wpAny_bind (wpAny_nsGet g1 (wpAny_bind (wpAny_pure (wpAny_newObj_type (h c' _ h' tk x1' x2' x3 x4 x5.2) (by size_fits)))))))
theorem tailH {c' : Addr} (hcl : closureFor scope env = pure cl) (g0 : env.globals = mainGlobals) (hg : s.heap.Ns mainGlobals mg) (hco : env.code = .ref c) (C : PySem.W.CodeHd s.heap c P) (hP : s.heap.get? P = some (PySem.W.tabObj ps)) (ht : TriplesOk ps.toList) (hf : codeAmong pos ps.toList = some (.ref c')) (hb : s.heap.BuiltinsAt mg P)
    (h : ∀ (ctv : Value) (h' : Heap) (tk : Tok), (∀ b o, s.heap.get? b = some o → h'.get? b = some o) → s.heap.objs.size ≤ h'.objs.size → Q (.ref h'.objs.size) { s with heap := h'.push (objL q params body scope cl dV ((mg "__name__").getD .none) c' ctv), toks := tk }) :
    wpAny M A (makeTail "<lambda>" q params (.expr body) scope env dV .none none pos fl) Q E s := by
  obtain ⟨bm, ob, b1, b2, _, b3, b4, b5, b6, b7⟩ := hb
  unfold makeTail; rw [hcl, g0]; refine wpAny_bind (wpAny_pure ?_)
  cases cl with
  | nil =>
    simp only [List.isEmpty_nil, if_true]
    exact wpAny_bind (wpAny_pure (wpAny_bind (wpAny_functionCode_hit hco (C.code hP ht) hf (wpAny_bind (wpAny_builtinsFor hg b1 b2 b4 b5 b6 b7 (wpAny_bind (wpAny_nsGet hg (wpAny_bind (wpAny_pure (wpAny_newObj_type (h .none s.heap s.toks (fun _ _ e => e) (Nat.le_refl _)) (by size_fits)))))))))))
  | cons y r =>
    simp only [List.isEmpty_cons, Bool.false_eq_true, if_false]
    have up : ∀ (oT : Obj) b o, s.heap.get? b = some o → (s.heap.push oT).get? b = some o := fun oT b o e => Heap.get?_push_of_some _ e
    have sz : ∀ oT : Obj, s.heap.objs.size ≤ (s.heap.push oT).objs.size := fun oT => by rw [Heap.size_push]; omega
    exact wpAny_bind (wpAny_newTextTuple (wpAny_bind (wpAny_functionCode_hit hco ((C.keeps (up _)).code (up _ _ _ hP) ht) hf (wpAny_bind (wpAny_builtinsFor (hg.push _) b1 b2 (up _ _ _ b4) b5 b6 b7 (wpAny_bind (wpAny_nsGet (hg.push _) (wpAny_bind (wpAny_pure (wpAny_newObj_type (h _ _ s.toks (up _) (sz _)) (by size_fits)))))))))))
end
/-- the lambda at f -/
def LamO (f : Addr) (q : Str) (params : Arguments) (body : Expr) (scope : Scope) (cl : List (Str × Addr)) (dV : Value) (c' : Addr) : HO := .ext fun h => ∃ pm ctv, h.get? f = some (objL q params body scope cl dV pm c' ctv)
theorem lamO_tbl {f : Addr} {q : Str} {params : Arguments} {body : Expr} {scope : Scope} {cl : List (Str × Addr)} {dV : Value} {c' : Addr} (ps : Array Value) : LamO f q params body scope cl dV c' ≠ .tbl ps := fun z => by
  unfold LamO at z
  cases z
theorem tabs_new {T : List (Addr × Str)} {H : Hp} {P c' : Addr} {q : Str} {ps : Array Value} {pos : Pos} (hT : Tabs T H) (hP : H P = some (.tbl ps)) (ht : TriplesOk ps.toList) (ha : ∀ (p' : Pos) (cv : Value), codeAmong p' ps.toList = some cv → ∃ c, cv = .ref c ∧ H c = some (CodeO c q)) (hu : ∀ p ∈ T, p.1 = P → p.2 = q) (nC : H c' = none)
    (e : ExtN H (upd (upd H P (.tbl (ps ++ #[rawInt pos.line, rawInt pos.col, .ref c']))) c' (CodeO c' q))) : Tabs T (upd (upd H P (.tbl (ps ++ #[rawInt pos.line, rawInt pos.col, .ref c']))) c' (CodeO c' q)) := fun p hp => by
  have eL : (ps ++ #[rawInt pos.line, rawInt pos.col, .ref c']).toList = ps.toList ++ [rawInt pos.line, rawInt pos.col, .ref c'] := by simp
  by_cases hb : p.1 = P
  · rw [hu p hp hb, hb]
    refine ⟨_, (upd_ne (ne_of_none hP nC)).trans upd_same, by rw [eL]; exact TriplesOk_snoc _ _ _ _ ht, fun p' cv hcv => ?_⟩
    rw [eL] at hcv
    rcases among_app _ ht hcv with z | z
    · obtain ⟨c0, e1, e2⟩ := ha p' cv z
      exact ⟨c0, e1, e _ _ e2 codeO_ne⟩
    · exact ⟨c', z, upd_same⟩
  · obtain ⟨qs, a1, a2, a3⟩ := hT p hp
    refine ⟨qs, ?_, a2, fun p' cv hcv => ?_⟩
    · rw [upd_ne (ne_of_none a1 nC), upd_ne hb]; exact a1
    · obtain ⟨c0, e1, e2⟩ := a3 p' cv hcv
      exact ⟨c0, e1, e _ _ e2 codeO_ne⟩
section
variable {X : Cx} {pins : List (Addr × Obj)} {σ : L2.St} {H : Hp} {s : Shared}
/-- the lambda is made, its defaults being there -/
theorem lam_makeV {T : List (Addr × Str)} {c P : Addr} {params : Arguments} {body : Expr} {scope : Scope} {pos : Pos} {dV : Value} {E : Value → Shared → Prop} {Q : Value → Shared → Prop} (I : Inv X pins σ H s) (TB : TabB X.base X.mg c P) (hco : X.env.code = .ref c)
    (hm : (P, X.env.qual ++ "<lambda>") ∈ T) (hu : ∀ p ∈ T, p.1 = P → p.2 = X.env.qual ++ "<lambda>") (hT : Tabs T H) (hf : ∀ y ∈ scope.names, y.2 = .free → ∃ c, X.env.cells.lookup y.1 = some c)
    (h : ∀ (f c' : Addr) (H1 : Hp) (s' : Shared), Inv X pins σ H1 s' → ExtN H H1 → Tabs T H1 → H f = none → H1 f = some (LamO f (X.env.qual ++ "<lambda>") params body scope (cloFrom X.env.cells scope.names []) dV c') → H1 c' = some (CodeO c' (X.env.qual ++ "<lambda>")) → Q (.ref f) s') :
    wpAny (model X.prog X.w) X.A (makeTail "<lambda>" (X.env.qual ++ "<lambda>") params (.expr body) scope X.env dV .none none pos pos.line) Q E s := by
  obtain ⟨ps, hP, ht, ha⟩ := hT _ hm
  have bP : s.heap.BuiltinsAt X.mg P := TB.bm.keeps I.bk
  have hP' : s.heap.get? P = some { cls := .none, data := .fields ps } := I.hok P _ hP
  cases hc : codeAmong pos ps.toList with
  | none =>
    refine tailN (closure_ok hf) I.ok.glob (I.mod.glob.keeps I.bk) hco (TB.code.keeps I.bk) hP' ht hc TB.gP bP fun c' ctv h' tk x1 x2 x3 x4 x5 => ?_
    obtain ⟨c2, oc, vs, t, e2, y1, y2, y3⟩ := x4
    cases e2
    have nC : H c' = none := I.hok.fresh x2
    have sz : s.heap.objs.size ≤ h'.objs.size := Nat.le_trans x2 (Nat.le_of_lt x3)
    have I1 := inv_table (t' := tk) (more := #[rawInt pos.line, rawInt pos.col, .ref c']) (h' := h') I hP x1 x5 x2 ⟨oc, vs, t, y1, y2, y3⟩
    have hE : ExtN H (upd (upd H P (.tbl (ps ++ #[rawInt pos.line, rawInt pos.col, .ref c']))) c' (CodeO c' (X.env.qual ++ "<lambda>"))) := fun b o e n => by
      rw [upd_ne (ne_of_none e nC), upd_ne (fun z => n ps (Option.some.inj (e.symm.trans (by rw [z]; exact hP))))]
      exact e
    have tN := tabs_new (pos := pos) hT hP ht ha hu nC hE
    have I2 := I1.laid (a := h'.objs.size) (o := LamO h'.objs.size (X.env.qual ++ "<lambda>") params body scope (cloFrom X.env.cells scope.names []) dV c') (t' := tk) (h' := h'.push (objL (X.env.qual ++ "<lambda>") params body scope (cloFrom X.env.cells scope.names []) dV ((X.mg "__name__").getD .none) c' ctv))
      (fun b u e => Heap.get?_push_of_some _ e) (Nat.le_refl _) ⟨⟨_, _, Heap.get?_push_size _ rfl⟩, ⟨_, Heap.get?_push_size _ rfl⟩, fun h1 h2 ⟨pm, ct, z⟩ st => ⟨pm, ct, st _ z⟩⟩
    have nF := I1.hok.fresh (a := h'.objs.size) (Nat.le_refl _)
    have same := same_new (o := LamO h'.objs.size (X.env.qual ++ "<lambda>") params body scope (cloFrom X.env.cells scope.names []) dV c') nF
    exact h h'.objs.size c' _ _ I2 (hE.trans (.of same)) (tN.ext same) (I.hok.fresh sz) upd_same (same _ _ upd_same)
  | some cv =>
    obtain ⟨c', rfl, hco'⟩ := ha pos cv hc
    refine tailH (closure_ok hf) I.ok.glob (I.mod.glob.keeps I.bk) hco (TB.code.keeps I.bk) hP' ht hc bP fun ctv h' tk x1 x2 => ?_
    have I2 := I.laid (a := h'.objs.size) (o := LamO h'.objs.size (X.env.qual ++ "<lambda>") params body scope (cloFrom X.env.cells scope.names []) dV c') (t' := tk) (h' := h'.push (objL (X.env.qual ++ "<lambda>") params body scope (cloFrom X.env.cells scope.names []) dV ((X.mg "__name__").getD .none) c' ctv))
      (fun b u e => Heap.get?_push_of_some _ (x1 b u e)) x2 ⟨⟨_, _, Heap.get?_push_size _ rfl⟩, ⟨_, Heap.get?_push_size _ rfl⟩, fun h1 h2 ⟨pm, ct, z⟩ st => ⟨pm, ct, st _ z⟩⟩
    have nF := I.hok.fresh x2
    have same := same_new (o := LamO h'.objs.size (X.env.qual ++ "<lambda>") params body scope (cloFrom X.env.cells scope.names []) dV c') nF
    exact h h'.objs.size c' _ _ I2 (.of same) (hT.ext same) nF upd_same (same _ _ hco')
end
/-! ### the values -/
/-- f is the lambda of the maker X, made there -/
def IsLam (X : Cx) (params : Arguments) (body : Expr) (scope : Scope) (dvs : List V) (H : Hp) (f : Addr) : Prop := ∃ (c' : Addr) (dV : Value), H f = some (LamO f (X.env.qual ++ "<lambda>") params body scope (cloFrom X.env.cells scope.names []) dV c') ∧
  H c' = some (CodeO c' (X.env.qual ++ "<lambda>")) ∧ ((dvs = [] ∧ dV = .none) ∨ ∃ T, dvs ≠ [] ∧ dV = .ref T ∧ H T = some (.tup dvs))
theorem IsLam.ext {X : Cx} {params : Arguments} {body : Expr} {scope : Scope} {dvs : List V} {H H' : Hp} {f : Addr} (h : IsLam X params body scope dvs H f) (e : ExtN H H') : IsLam X params body scope dvs H' f := by
  obtain ⟨c', dV, h1, h2, h3⟩ := h
  refine ⟨c', dV, e _ _ h1 lamO_tbl, e _ _ h2 codeO_ne, ?_⟩
  rcases h3 with z | ⟨T, z0, z1, z2⟩
  · exact .inl z
  · exact .inr ⟨T, z0, z1, e _ _ z2 (fun _ z => by cases z)⟩
def tLamV (T : List (Addr × Str)) (X : Cx) (params : Arguments) (body : Expr) (scope : Scope) (dvs : List V) : TE := fun _ H Q => Tabs T H ∧ ∀ f H1, ExtN H H1 → Tabs T H1 → H f = none → IsLam X params body scope dvs H1 f → Q (.ref f) H1
/-- the lambda's names: no parameter in N, captured ones, globals -/
structure LamN (N : List Str) (sc scope : Scope) : Prop where
  kind : scope.kind = .function
  co : scope.isCoroutine = false
  gen : scope.isGenerator = false
  own : ∀ y ∈ scope.names, (y.2 = .local → y.1 ∉ N) ∧ y.2 ≠ .cell
  free : ∀ y ∈ scope.names, y.2 = .free → sc.names.lookup y.1 = some .cell ∨ sc.names.lookup y.1 = some .free
def lamNB (N : List Str) (sc scope : Scope) : Bool :=
  decide (scope.kind = .function) && !scope.isCoroutine && !scope.isGenerator && scope.names.all fun y => (!decide (y.2 = .local) || decide (y.1 ∉ N)) && !decide (y.2 = .cell) && (!decide (y.2 = .free) || decide (sc.names.lookup y.1 = some .cell) || decide (sc.names.lookup y.1 = some .free))
theorem lamN_by {N : List Str} {sc scope : Scope} (h : lamNB N sc scope = true) : LamN N sc scope := by
  unfold lamNB at h
  simp only [Bool.and_eq_true, Bool.or_eq_true, Bool.not_eq_true', decide_eq_true_eq, decide_eq_false_iff_not, List.all_eq_true] at h
  obtain ⟨⟨⟨h1, h2⟩, h3⟩, h4⟩ := h
  refine ⟨h1, h2, h3, fun y hy => ⟨fun e => (h4 y hy).1.1.resolve_left (fun z => z e), (h4 y hy).1.2⟩, fun y hy e => ?_⟩
  rcases (h4 y hy).2 with (z | z) | z
  · exact absurd e z
  · exact .inl z
  · exact .inr z
theorem LamN.has {X : Cx} {N : List Str} {scope : Scope} (L : LamN N X.env.scope scope) (ok : X.Ok) : ∀ y ∈ scope.names, y.2 = .free → ∃ c, X.env.cells.lookup y.1 = some c := fun y hy e => (L.free y hy e).elim (fun k => ok.has _ (.inl k)) fun k => ok.has _ (.inr k)
section
variable {X : Cx} {params : Arguments} {body : Expr} {scope : Scope} {pos : Pos} {T : List (Addr × Str)} {c P : Addr}
/-- lambda: body -/
theorem pe_lamV (TB : TabB X.base X.mg c P) (hco : X.env.code = .ref c) (hm : (P, X.env.qual ++ "<lambda>") ∈ T) (hu : ∀ p ∈ T, p.1 = P → p.2 = X.env.qual ++ "<lambda>") (L : LamN X.N X.env.scope scope) (hdef : defaultsOf params X.env = ([], [])) : PE X (.Lambda params body scope pos) (tLamV T X params body scope []) := by
  refine ⟨fun pins s σ H Q I h => PySem.W.kla_eval hdef ?_⟩
  rw [makeFunction_eq]
  simp only [List.zip_nil_right, List.filterMap_nil, List.isEmpty_nil, if_true, pure_bind]
  exact lam_makeV I TB hco hm hu h.1 (L.has I.ok) fun f c' H1 s' I1 e t n h1 h2 => ⟨.ref f, H1, I1, rfl, h.2 f H1 e t n ⟨c', .none, h1, h2, .inl ⟨rfl, rfl⟩⟩⟩
/-- lambda x=i: body -/
theorem pe_lamVD {i : Int} {j : Nat} {dp : Pos} (TB : TabB X.base X.mg c P) (hco : X.env.code = .ref c) (hm : (P, X.env.qual ++ "<lambda>") ∈ T) (hu : ∀ p ∈ T, p.1 = P → p.2 = X.env.qual ++ "<lambda>") (L : LamN X.N X.env.scope scope) (hdef : defaultsOf params X.env = ([eval (.Constant (.int i) j dp) X.env], [])) : PE X (.Lambda params body scope pos) (tLamV T X params body scope [.int i]) := by
  refine ⟨fun pins s σ H Q I h => ?_⟩
  show wpAny _ _ (do
    let (d, kd) := defaultsOf params X.env
    let dv ← evalAll d
    let kdv ← holding dv (evalAllOpt kd)
    makeFunction "<lambda>" (X.env.qual ++ "<lambda>") params (.expr body) scope X.env dv kdv [] pos pos.line) _ _ _
  rw [hdef]
  show wpAny _ _ (evalAll [eval (.Constant (.int i) j dp) X.env] >>= fun dv => holding dv (evalAllOpt []) >>= fun kdv => makeFunction "<lambda>" (X.env.qual ++ "<lambda>") params (.expr body) scope X.env dv kdv [] pos pos.line) _ _ _
  refine wpAny_bind ?_
  show wpAny _ _ (eval (.Constant (.int i) j dp) X.env >>= fun v => holding [v] (evalAll []) >>= fun r => pure (v :: r)) _ _ _
  refine wpAny_bind (wpAny_Constant_int (wpAny_bind (wpAny_holding (wpAny_pure (wpAny_pure ?_)))))
  refine wpAny_bind (wpAny_holding (wpAny_pure ?_))
  rw [makeFunction_eq]
  simp only [List.zip_nil_right, List.filterMap_nil, List.isEmpty_nil, List.isEmpty_cons, Bool.false_eq_true, if_false, if_true, pure_bind]
  refine wpAny_bind (wpAny_newTextTuple ?_)
  have n0 := I.hok.fresh (a := s.heap.objs.size) (Nat.le_refl _)
  have e0 := same_new (o := .tup [.int i]) n0
  have I1 := (I.tok (s.toks + 1)).laid (a := s.heap.objs.size) (o := .tup [.int i]) (t' := s.toks + 1) (h' := s.heap.push { cls := .type "tuple", data := .seq [Value.int i s.toks].toArray }) (fun b u e => Heap.get?_push_of_some _ e) (Nat.le_refl _)
    ⟨len_le (n := 1) (by decide), [Value.int i s.toks], .cons ⟨_, rfl⟩ .nil, _, Heap.get?_push_size _ rfl, rfl, _, rfl⟩
  refine lam_makeV I1 TB hco hm hu (h.1.ext e0) (L.has I.ok) fun f c' H1 s' I2 e t n h1 h2 => ⟨.ref f, H1, I2, rfl, h.2 f H1 ((ExtN.of e0).trans e) t ?_ ⟨c', _, h1, h2, .inr ⟨_, (fun z => by cases z), rfl, e _ _ upd_same (fun _ z => by cases z)⟩⟩⟩
  by_cases hf : f = s.heap.objs.size
  · rw [hf]
    exact n0
  · rw [upd_ne hf] at n
    exact n
end
/-! ### the maker's state as a base -/
def baseAt (X : Cx) (H : Hp) (s : Shared) : Heap := PySem.W.hideAll (hidT s.heap H) (frs X.stack)
/-- calling what stands at f -/
def Acts (P : Program) (w : World) (K : PySem.W.Frag) (mg : Str → Option Value) (base : Heap) (k : Nat) (f : Addr) (t : XK → Hp → VK → Prop) : Prop :=
  ∀ (A : Around) (outer : List Env) (s : Shared) (H : Hp) (Q : VK) (E : XK), Room k A → Env0 P w K mg base A outer s H → t E H Q → PySem.W.FnAt f s.heap ∧ codeAny (model P w) A (.call (.ref f) ⟨[], []⟩) (CR (L2.CX P w) outer P w H s Q E) s
section
variable {X : Cx} {pins : List (Addr × Obj)} {σ : L2.St} {H : Hp} {s : Shared}
theorem baseAt_get {b : Addr} {o : Obj} (e : s.heap.get? b = some o) (n : H b = none) (hb : b ∉ frs X.stack) : (baseAt X H s).get? b = some o := PySem.W.hideAll_get _ (hidT_get e n) hb
theorem of_baseAt {b : Addr} {o : Obj} (e : (baseAt X H s).get? b = some o) : s.heap.get? b = some o ∧ H b = none ∧ b ∉ frs X.stack := by
  obtain ⟨h1, h2⟩ := of_hidT (PySem.W.of_hideAll _ e)
  refine ⟨h1, h2, fun z => ?_⟩
  have q := PySem.W.hideAll_none (h := hidT s.heap H) _ z
  unfold baseAt at e
  rw [q] at e
  cases e
theorem baseAt_sub (I : Inv X pins σ H s) {b : Addr} {o : Obj} (e : X.base.get? b = some o) : (baseAt X H s).get? b = some o := by
  obtain ⟨h1, h2⟩ := I.bs b o e
  refine baseAt_get h1 h2 fun z => ?_
  have q := (I.stack.mem z).1
  rw [q] at e
  cases e
theorem env0_at (I : Inv X pins σ H s) : Env0 X.prog X.w X.K X.mg (baseAt X H s) X.A X.stack s H := by
  have e0 := I.env0
  have sub : ∀ b o, X.base.get? b = some o → (baseAt X H s).get? b = some o := fun b o e => baseAt_sub I e
  obtain ⟨mb, m1, m2⟩ := e0.mod.blt
  refine ⟨e0.frames, ⟨e0.mod.kin.keeps sub, e0.mod.glob.keeps sub, ⟨mb, m1.keeps sub, m2⟩, e0.mod.nolimit.keeps sub⟩, fun b o e => ⟨(of_baseAt e).1, (of_baseAt e).2.1⟩, ?_, ?_, e0.frf, e0.hok, e0.bare⟩
  · unfold baseAt
    rw [PySem.W.hideAll_size, hidT_size]
    exact Nat.le_refl _
  · have go : ∀ l : List Env, (∀ b ∈ frs l, b ∈ frs X.stack) → s.heap.FunFrames X.base l → s.heap.FunFrames (baseAt X H s) l := by
      intro l
      induction l with
      | nil => exact fun _ _ => True.intro
      | cons v r ih =>
        rintro hs ⟨h1, ⟨L, o, h2, h3, h4, h5⟩, h6⟩
        have hL : L ∈ frs (v :: r) := List.mem_filterMap.mpr ⟨v, List.mem_cons_self, h2⟩
        refine ⟨h1, ⟨L, o, h2, ?_, h4, h5⟩, ih (fun b hb => hs b ?_) h6⟩
        · exact PySem.W.hideAll_none _ (hs L hL)
        · obtain ⟨v', hv, e⟩ := List.mem_filterMap.mp hb
          exact List.mem_filterMap.mpr ⟨v', List.mem_cons_of_mem _ hv, e⟩
    exact go X.stack (fun _ h => h) e0.funs
theorem cell_nofr (I : Inv X pins σ H s) (hfn : ∀ x, X.fn x = true) {x : Str} {c : Addr} (e : X.env.cells.lookup x = some c) : c ∉ frs X.stack := fun z => by
  rcases List.mem_cons.mp (I.stkSub _ z) with q | q
  · exact I.cne x c e q
  · obtain ⟨_, o, ho, _⟩ := I.ok.funs.mem q
    exact absurd (I.ok.cab x c (hfn x) e) (Nat.not_le.mpr (Heap.lt_size ho))
end
/-- the lambda's body, entered at s over the base B -/
def lamCx (X : Cx) (B : Heap) (A : Around) (outer : List Env) (s : Shared) (H : Hp) (E : XK) (scope : Scope) (f c' : Addr) : Cx := { LamX.lamCx X A outer s H E scope f c' with base := B }
section
variable {X : Cx} {pins : List (Addr × Obj)} {σ : L2.St} {H HZ : Hp} {s s1 : Shared}
theorem lam_start {A : Around} {outer : List Env} {E : XK} {scope : Scope} {f c' : Addr} {h₁ : Heap} {tk : Nat} {m0 : Str → Option Value} (I : Inv X pins σ H s) (hfn : ∀ x, X.fn x = true) (L : LamN X.N X.env.scope scope) (e0 : Env0 X.prog X.w X.K X.mg (baseAt X H s) A outer s1 HZ) (hd : A.handled = none)
    (hns : h₁.Ns s1.heap.objs.size m0) (kp : ∀ b o, s1.heap.get? b = some o → h₁.get? b = some o) : Inv (lamCx X (baseAt X H s) A outer s1 HZ E scope f c') [] σ HZ { s1 with heap := h₁, toks := tk } := by
  have hfree := L.has I.ok
  have cm : ∀ {y c}, (cloFrom X.env.cells scope.names []).lookup y = some c → X.env.cells.lookup y = some c := fun {y c} e => by
    rcases cloFrom_mem (PySem.mem_of_lookup e) with z | ⟨h1, h2⟩
    · cases z
    · obtain ⟨c1, hc⟩ := hfree _ h1 rfl
      have hc : X.env.cells.lookup y = some c1 := hc
      rw [show c = c1 from by rw [h2, hc] <;> rfl]
      exact hc
  have look : ∀ {y}, scope.names.lookup y = some .free → ∃ c, (cloFrom X.env.cells scope.names []).lookup y = some c := fun {y} hl => mem_lookup (cloFrom_has (cells := X.env.cells) (acc := []) (show (y, NameKind.free) ∈ scope.names from PySem.mem_of_lookup hl))
  have cellK : ∀ {y : Str} {c : Addr} {v : Option Value}, X.env.cells.lookup y = some c → s.heap.IsCell c v → h₁.IsCell c v ∧ HZ c = none := fun {y c v} e ⟨o, ho, hdt⟩ => by
    obtain ⟨q1, q2⟩ := e0.bs c o (baseAt_get ho (I.freeC y c e) (cell_nofr I hfn e))
    exact ⟨⟨o, kp _ _ q1, hdt⟩, q2⟩
  have noA : ∀ b : Addr, b ∉ (lamCx X (baseAt X H s) A outer s1 HZ E scope f c').ex := fun b z => absurd (show b ∈ ([] : List Addr) from z) (by simp)
  refine ⟨⟨e0.mod, L.kind, rfl, rfl, Nat.le_refl _, fun y z c e1 e2 => I.ok.inj y z c (cm e1) (cm e2), fun y hy => ?_, fun y c z _ => ?_, fun _ => hd, Around.frames_deeper e0.frames, .inr ⟨rfl, rfl⟩, fun b z => absurd z (noA b), e0.bs, e0.bsz, fun b _ _ => noA b,
      fun b z => absurd z (noA b), e0.funs, e0.frf⟩,
    rfl, e0.bare, Un.kept kp, ⟨_, hns, fun i y v e1 e2 e3 => ?_⟩, fun y c e => ?_, e0.hok.fresh (Nat.le_refl _), fun y c e => ?_, fun q hq => absurd (show q ∈ ([] : List (Addr × Obj)) ++ [] from hq) (by simp), e0.hok.kept kp, I.len⟩
  · have hy : scope.names.lookup y = some .cell ∨ scope.names.lookup y = some .free := hy
    rcases hy with hy | hy
    · exact absurd rfl (L.own _ (PySem.mem_of_lookup hy)).2
    · exact look hy
  · have z : false = true := z
    cases z
  · have e3 : Vis scope y := e3
    have e1 : X.N[i]? = some y := e1
    rcases e3 with k | k | k
    · exact absurd (List.mem_of_getElem? e1) ((L.own _ (PySem.mem_of_lookup k)).1 rfl)
    · exact absurd rfl (L.own _ (PySem.mem_of_lookup k)).2
    · obtain ⟨m, hn, hl⟩ := I.loc
      have hvis : Vis X.env.scope y := (L.free _ (PySem.mem_of_lookup k) rfl).elim (fun k => .inr (.inl k)) (fun k => .inr (.inr k))
      obtain ⟨w', r, q⟩ := hl i y v e1 e2 hvis
      obtain ⟨c2, h2⟩ := look k
      refine ⟨w', r, .inr ⟨.inr k, c2, h2, ?_⟩⟩
      have c1 := cm h2
      rcases q with ⟨k', _⟩ | ⟨_, c3, e', z⟩
      · have k' : X.env.scope.names.lookup y = some .local := k'
        rcases L.free _ (PySem.mem_of_lookup k) rfl with k2 | k2 <;> rw [show X.env.scope.names.lookup y = _ from k2] at k' <;> cases k'
      · rw [c1] at e'
        cases e'
        exact (cellK c1 z).1
  · obtain ⟨w', z⟩ := I.cell y c (cm e)
    exact ⟨w', (cellK (cm e) z).1⟩
  · obtain ⟨v, z⟩ := I.cell y c (cm e)
    exact (cellK (cm e) z).2
/-- the lambda at f, called -/
theorem act_lam {params : Arguments} {body : Expr} {scope : Scope} {dvs : List V} {k : Nat} {f : Addr} {t : XK → TE} (I : Inv X pins σ H s) (hfn : ∀ x, X.fn x = true) (L : LamN X.N X.env.scope scope)
    (hbind : ∀ (c' : Addr) (dV pm ctv : Value) (s1 : Shared) (HZ : Hp), HOk X.prog X.w HZ s1.heap → ((dvs = [] ∧ dV = .none) ∨ ∃ T, dvs ≠ [] ∧ dV = .ref T ∧ HZ T = some (.tup dvs)) → ∃ binds : List (Str × Value), BindsTo s1 (fnL (X.env.qual ++ "<lambda>") params body scope (cloFrom X.env.cells scope.names []) dV pm c' ctv) ⟨[], []⟩ binds ∧ ∀ y ∈ binds, scope.names.lookup y.1 = some .local)
    (hbody : ∀ (B : Heap) (A : Around) (outer : List Env) (s : Shared) (H : Hp) (E : XK) (f c' : Addr), Room k (A.deeper (lamEnv X scope s.heap.objs.size f c')) → PE (lamCx X B A outer s H E scope f c') body (t E)) :
    Acts X.prog X.w X.K X.mg (baseAt X H s) (k + 1) f (fun E HZ Q => IsLam X params body scope dvs HZ f ∧ t E σ HZ Q) := by
  intro A outer s1 HZ Q E hr e0 ⟨⟨c', dV, h1, h2, h3⟩, ht⟩
  obtain ⟨⟨pm, ctv, of1⟩, _, _⟩ := e0.hok f _ h1
  obtain ⟨⟨oc, vs, tq, hoc, hdc, hvc⟩, _, _⟩ := e0.hok c' _ h2
  obtain ⟨binds, hB, hloc⟩ := hbind c' dV pm ctv s1 HZ e0.hok h3
  refine ⟨⟨_, _, _, _, of1⟩, PySem.W.kla_callFunE hr.depth of1 rfl L.co L.gen rfl ⟨c', oc, vs, tq, rfl, hoc, hdc, hvc⟩ (hB _ _ _ _ ?_)⟩
  refine wpAny_newFunctionEnv (fun y hy => (L.own y hy).2) hloc (fun h₁ hns hsb => ?_) L.kind
  have kp : ∀ b o, s1.heap.get? b = some o → h₁.get? b = some o := fun b o e => hsb.extBut b o (Nat.ne_of_lt (Heap.lt_size e)) (Heap.get?_push_of_some _ e)
  have lim : s1.heap.NoLimit := e0.mod.nolimit.keeps fun b o e => (e0.bs b o e).1
  refine ⟨lim.fresh _ hsb, ?_⟩
  have J : Inv (lamCx X (baseAt X H s) A outer s1 HZ E scope f c') [] σ HZ { s1 with heap := h₁, toks := s1.toks + binds.length } := lam_start I hfn L e0 hr.hd hns kp
  show codeAny _ _ (.expr body (lamEnv X scope s1.heap.objs.size f c')) _ _
  refine PySem.W.kla_codeExpr (wpAny_mono ((hbody _ A outer s1 HZ E f c' (hr.deeper _)).run [] _ _ HZ Q J ht) (fun v s' hq => ?_) fun e s' hq => hq)
  obtain ⟨w', H', J', rv, q⟩ := hq
  exact ⟨w', H', J'.os, J'.bare, J'.base, J'.hok, rv, q⟩
/-- what may be called, by the maker's slots -/
def Acting (X : Cx) (k : Nat) (tl : L2.St → Addr → XK → Hp → VK → Prop) : Prop := ∀ pins σ H s, Inv X pins σ H s → ∀ f, Acts X.prog X.w X.K X.mg (baseAt X H s) k f (tl σ f)
theorem acting_or {k : Nat} {a b : L2.St → Addr → XK → Hp → VK → Prop} (ha : Acting X k a) (hb : Acting X k b) : Acting X k (fun σ f E H Q => a σ f E H Q ∨ b σ f E H Q) := fun pins σ H s I f A outer s1 HZ Q E hr e0 h => h.elim (ha pins σ H s I f A outer s1 HZ Q E hr e0) (hb pins σ H s I f A outer s1 HZ Q E hr e0)
def tlLam (X : Cx) (params : Arguments) (body : Expr) (scope : Scope) (dvs : List V) (t : XK → TE) : L2.St → Addr → XK → Hp → VK → Prop := fun σ f E H Q => IsLam X params body scope dvs H f ∧ t E σ H Q
theorem acting0 {params : Arguments} {body : Expr} {scope : Scope} {k : Nat} {t : XK → TE} (hfn : ∀ x, X.fn x = true) (L : LamN X.N X.env.scope scope)
    (hb : ∀ (c' : Addr) (pm ctv : Value), bindArgs (fnL (X.env.qual ++ "<lambda>") params body scope (cloFrom X.env.cells scope.names []) .none pm c' ctv) ⟨[], []⟩ = pure [])
    (hbody : ∀ (B : Heap) (A : Around) (outer : List Env) (s : Shared) (H : Hp) (E : XK) (f c' : Addr), Room k (A.deeper (lamEnv X scope s.heap.objs.size f c')) → PE (lamCx X B A outer s H E scope f c') body (t E)) : Acting X (k + 1) (tlLam X params body scope [] t) := fun pins σ H s I f => by
  refine act_lam I hfn L (fun c' dV pm ctv s1 HZ hok hd => ?_) hbody
  rcases hd with ⟨_, rfl⟩ | ⟨T, z, _⟩
  · exact ⟨[], .of_eq (hb c' pm ctv), fun y hy => by cases hy⟩
  · exact absurd rfl z
theorem acting1 {params : Arguments} {body : Expr} {scope : Scope} {k : Nat} {i : Int} {x : Str} {t : XK → TE} (hfn : ∀ x, X.fn x = true) (L : LamN X.N X.env.scope scope) (hx : scope.names.lookup x = some .local)
    (hb : ∀ (c' T : Addr) (pm ctv u : Value), ∃ kk : Option (Array Value) → Sem (List (Str × Value)), bindArgs (fnL (X.env.qual ++ "<lambda>") params body scope (cloFrom X.env.cells scope.names []) (.ref T) pm c' ctv) ⟨[], []⟩ = seqItems? (.ref T) >>= kk ∧ kk (some #[u]) = pure [(x, u)])
    (hbody : ∀ (B : Heap) (A : Around) (outer : List Env) (s : Shared) (H : Hp) (E : XK) (f c' : Addr), Room k (A.deeper (lamEnv X scope s.heap.objs.size f c')) → PE (lamCx X B A outer s H E scope f c') body (t E)) : Acting X (k + 1) (tlLam X params body scope [.int i] t) := fun pins σ H s I f => by
  refine act_lam I hfn L (fun c' dV pm ctv s1 HZ hok hd => ?_) hbody
  rcases hd with ⟨z, _⟩ | ⟨T, _, rfl, hT⟩
  · cases z
  · obtain ⟨_, its, r, o, ho, _, n, hs⟩ := hok T _ hT
    cases r with
    | @cons _ u _ _ r1 r2 =>
      cases r2
      obtain ⟨kk, b1, b2⟩ := hb c' T pm ctv u
      refine ⟨[(x, u)], .of_defaults (T := T) (k := kk) rfl ho hs b1 b2, fun y hy => ?_⟩
      rw [List.mem_singleton.mp hy]
      exact hx
/-- g(e, ..), what it is handed being called there -/
theorem pe_callL {k kk : Nat} {g : Addr} {fd : FuncData} {ps : List Str} {x : Str} {p pos : Pos} {e : Expr} {es : List Expr} {ta : TA} {tl : L2.St → Addr → XK → Hp → VK → Prop} {spT : (Addr → XK → Hp → VK → Prop) → Sp} (ha : Acting X kk tl)
    (F : ∀ (base : Heap) (al : Addr → XK → Hp → VK → Prop), (∀ f, Acts X.prog X.w X.K X.mg base kk f (al f)) → FnOk X.prog X.w X.K X.mg base CX0 k g fd ps (spT al)) (hr : Room k X.A) (hg : Gl X x) (hm : X.mg x = some (.ref g)) (hk : PySem.W.keepIn X.K (.ref g) = true) (hb : Binds X.K fd ps []) (hargs : PA X (e :: es) ta)
    (hdb : (x == ("__debug__" : Str)) = false := by decide) (he : starEach (e :: es) X.env = (false, eval e X.env) :: starEach es X.env := by rfl) (hpl : (backTo pos (starEach es X.env)).any (·.1) = false := by rfl) :
    PE X (.Call (.Name x p) (e :: es) [] pos) (fun σ H Q => ta σ H fun vs H1 => spT (tl σ) vs H1 Q (fun _ _ _ => False)) := by
  refine ⟨fun pins s σ H Q I h => ?_⟩
  refine wpAny_Call_Name_kw (ld_glob I hg hm ?_ hdb)
  refine PySem.W.callWith_K (h₀ := X.base) I.ok.mod.kin hk (thn (hargs.run pos pins s σ H _ I h) fun us s1 ⟨vs, H1, I1, r, q⟩ => ⟨I1.kIn, ?_⟩) he hpl
  have F1 := F (baseAt X H1 s1) (tl σ) (ha pins σ H1 s1 I1)
  have hl : us.length = ps.length := by rw [← r.length]; exact F1.len _ _ _ _ q
  refine wpAny_call (codeAny_mono (F1.run X.A X.stack s1 H1 ⟨us, []⟩ us vs Q (fun _ _ _ => False) hr (env0_at I1) (by have z := hb s1 us I1.kIn (by rw [List.append_nil]; exact hl); rw [List.append_nil] at z; exact z) r q) fun r s' hq => ?_)
  cases r with
  | error e => exact (show False from hq).elim
  | ok fl =>
    cases fl with
    | ret u => exact I1.after hq
    | next => exact False.elim hq
    | brk => exact False.elim hq
    | cont => exact False.elim hq
/-- a(), in the def that got it -/
theorem pe_act {W : WX} {kk i : Nat} {a : Str} {p1 p2 : Pos} {al : Addr → XK → Hp → VK → Prop} (ha : ∀ f, Acts X.prog X.w X.K X.mg X.base kk f (al f)) (hr : Room kk X.A) (tk : Takes X W) (hN : X.N[i]? = some a) (hv : Vis X.env.scope a) (hd : (a == ("__debug__" : Str)) = false := by decide) (hcd : (a == ("__classdict__" : Str)) = false := by decide) :
    PE X (.Call (.Name a p1) [] [] p2) (fun σ H Q => ∃ (f : Addr) (E : XK), σ[i]? = some (some (V.ref f)) ∧ (∀ cls d H', E cls d H' → W cls d σ H') ∧ al f E H Q) := by
  refine ⟨fun pins s σ H Q I h => ?_⟩
  obtain ⟨f, E, hs, hW, ht⟩ := h
  refine wpAny_Call_Name_kw (thn ((pe_var (pos := p1) (i := i) hN hv hd hcd).run pins s σ H (fun v H1 => v = .ref f ∧ H1 = H) I ⟨.ref f, hs, rfl, rfl⟩) fun u s1 ⟨v, H1, I1, r1, q1⟩ => ?_)
  obtain ⟨rfl, rfl⟩ := q1
  obtain rfl : u = Value.ref f := r1
  obtain ⟨fa, rc⟩ := ha f X.A X.stack s1 H1 Q E hr I1.env0 ht
  refine PySem.W.callWith_F0 fa (wpAny_call (codeAny_mono rc fun r s' hq => ?_))
  cases r with
  | error e => exact tk e s' (XE.of_call I1 hW hq)
  | ok fl =>
    cases fl with
    | ret u => exact I1.after hq
    | next => exact False.elim hq
    | brk => exact False.elim hq
    | cont => exact False.elim hq
end
/-! ### calls of a local that holds one of several defs; nothing is raised -/
section
variable {X : Cx}
theorem passN {E : XK} (h : ∀ c d H, E c d H → False) : Passes (L2.CX X.prog X.w) X E := fun _ _ _ _ _ _ _ c => by
  obtain ⟨_, _, _, _, _, _, _, _, _, _, _, _, z⟩ := c
  exact (h _ _ _ z).elim
structure HeldX (P : Program) (w : World) (K : PySem.W.Frag) (mg : Str → Option Value) (base : Heap) (k : Nat) (f : Addr) (sp : Sp) : Prop where
  ex : ∃ (fd : FuncData) (ps : List Str), FnOk P w K mg base (L2.CX P w) k f fd ps sp ∧ PySem.W.keepIn K (.ref f) = true ∧ Binds K fd ps []
def tCallR (i : Nat) (R : Addr → Sp → Prop) (E : XK) (t : TA) : TE := fun σ H Q => ∃ f sp, σ[i]? = some (some (V.ref f)) ∧ R f sp ∧ t σ H fun vs H1 => sp vs H1 Q E
theorem pe_callR {R : Addr → Sp → Prop} {k i : Nat} {x : Str} {e : Expr} {es : List Expr} {t : TA} {p pos : Pos} {E : XK} (A : ∀ f sp, R f sp → HeldX X.prog X.w X.K X.mg X.base k f sp) (hr : Room k X.A) (hN : X.N[i]? = some x) (hv : Vis X.env.scope x) (hx : Passes (L2.CX X.prog X.w) X E) (ha : PA X (e :: es) t)
    (hdb : (x == ("__debug__" : Str)) = false := by decide) (hcd : (x == ("__classdict__" : Str)) = false := by decide)
    (he : starEach (e :: es) X.env = (false, eval e X.env) :: starEach es X.env := by rfl) (hpl : (backTo pos (starEach es X.env)).any (·.1) = false := by rfl) : PE X (.Call (.Name x p) (e :: es) [] pos) (tCallR i R E t) := by
  refine ⟨fun pins s σ H Q I h => ?_⟩
  obtain ⟨f, sp, hs, hS, ht⟩ := h
  obtain ⟨fd, ps, F, hk, hb⟩ := (A f sp hS).ex
  refine (L2.pe_callL (i := i) (f := f) (sp := sp) (dvs := []) (E := E) F hr hN hv hk hb .nil hx ha hdb hcd he hpl).run pins s σ H Q I ⟨hs, ?_⟩
  have e0 : (fun (vs : List V) (H1 : Hp) => sp (vs ++ []) H1 Q E) = fun vs H1 => sp vs H1 Q E := by
    funext vs H1
    rw [List.append_nil]
  show t σ H (fun vs H1 => sp (vs ++ []) H1 Q E)
  rw [e0]
  exact ht
end
/-! ### raising an own error with one field -/
def spInit (C : Addr) (f : Str) : Sp := fun vs H Q _ => ∃ (a : Addr) (v : V), vs = [.ref a, v] ∧ H a = some (exo a C none) ∧ ∀ dx, H dx = none → dx ≠ a → Q .non (upd (upd H dx (exd dx [(f, v)])) a (exo a C (some dx)))
/-- C with the field f := v is raised behind H -/
def Rz (C : Addr) (f : Str) (v : V) (H : Hp) (E : XK) : Prop := ∀ H' d, Same H H' → H d = none → H' d = some (.xd [(f, v)]) → E (.ref C) (some d) H'
theorem Rz.mono {C : Addr} {f : Str} {v : V} {H H1 : Hp} {E : XK} (h : Rz C f v H E) (s : Same H H1) : Rz C f v H1 E := fun H' d k n e => h H' d (s.trans k) (by
  cases q : H d with
  | none => rfl
  | some o =>
    rw [s d o q] at n
    cases n) e
theorem raise_ok {C : Addr} {f : Str} {v : V} {H1 : Hp} {E : XK} (h : Rz C f v H1 E) : [v].length ≤ 1000 ∧ ∀ a, H1 a = none → spInit C f (.ref a :: [v]) (upd H1 a (exo a C none))
    (fun u H2 => u = .non ∧ ((H2 a = some (exo a C none) ∧ E (.ref C) none (del H2 a)) ∨ ∃ (d : Addr) (fs : List (Str × V)), H2 a = some (exo a C (some d)) ∧ H2 d = some (exd d fs) ∧ H1 d = none ∧ E (.ref C) (some d) (upd (del H2 a) d (.xd fs)))) (fun _ _ _ => False) := by
  refine ⟨by show 1 ≤ 1000; decide, fun a na => ⟨a, v, rfl, upd_same, fun dx nd ne => ⟨rfl, .inr ⟨dx, [(f, v)], upd_same, ?_, ?_, ?_⟩⟩⟩⟩
  · rw [upd_ne ne, upd_same]
  · rw [upd_ne ne] at nd
    exact nd
  · rw [upd_ne ne] at nd
    refine h _ dx (fun b o hb => ?_) nd upd_same
    have b1 : b ≠ a := ne_of_none hb na
    have b2 : b ≠ dx := ne_of_none hb nd
    rw [upd_ne b2, del_ne b1, upd_ne b1, upd_ne b2, upd_ne b1]
    exact hb
/-! ### isinstance of a caught error with a field -/
def rIsD (K : PySem.W.Frag) (D a : Addr) (d : Option Addr) : List V → Hp → VK → Prop := fun xs H Q => ∃ (c : V) (cv : Value) (b : Bool) (dd : Addr) (fs : List (Str × V)), xs = [.ref a, c] ∧ (∀ u, RelV c u → u = cv) ∧ PySem.W.kitOne K (.ref D) cv = some b ∧ d = some dd ∧ H dd = some (.xd fs) ∧ Q (.bl b) H
theorem call_isD {X : Cx} {a D : Addr} {d : Option Addr} {oe : Obj} {pn : List (Addr × Obj)} (C : ExcC X.K D) (hz : Zc (.ref D) d oe) (hf : ∃ vs, oe.data = .fields vs) : CallR (X.suite a ((a, oe) :: pn)) (.builtin "isinstance") (rIsD X.K D a d) := by
  intro pins s σ H xs us Q I r h
  obtain ⟨c, cv, b, dd, fs, rfl, hcv, e, rfl, hdd, q⟩ := h
  cases r with
  | cons rx rr =>
    cases rr with
    | cons rt rr =>
      cases rr
      cases rx
      have ec := hcv _ rt
      subst ec
      obtain ⟨hget, _⟩ := I.pin (a, oe) (List.mem_append.mpr (.inl List.mem_cons_self))
      obtain ⟨vs, hv⟩ := hf
      obtain ⟨mA, hns, hr⟩ := I.hok dd _ hdd
      obtain ⟨od, ho, hl⟩ := lookIn_ns hns
      have J : PySem.W.InstAt s.heap a oe D (some od) := ⟨hget, hz.1, by unfold PySem.W.notCls; rw [hv] <;> rfl, by rw [hz.2]; exact ho⟩
      obtain ⟨cd, hc, _⟩ := PySem.W.any_some C.hd
      exact PySem.W.kia_one (PySem.W.kitx_exc (by rw [hc]; rfl) C.hg C.hk C.hs C.ha C.hn C.ht C.hm) I.kIn J e (fun z => nomatch z) fun tk => ⟨.bl b, H, I.kept (t' := tk) fun _ _ z => z, rfl, q⟩
theorem ExcC.xf {K : PySem.W.Frag} {D : Addr} (C : ExcC K D) : XfC K D := ⟨C.hg, C.hk, C.hs, C.hd⟩
/-! ### loops of comprehensions over ranges, any body -/
theorem rngW {lo : Int} {n : Nat} {H0 : Hp} {Qd : Hp → Prop} {Body : V → Hp → (Hp → Prop) → Prop} (Pv : Nat → Hp → Prop) (h0 : Pv 0 H0) (hs : ∀ i H, i < n → Pv i H → Body (.int (lo + i)) H (Pv (i + 1))) (hd : ∀ H, Pv n H → Qd H) :
    ∃ W : Nat → Nat → Hp → Prop, (∃ m, W 0 m H0) ∧ ∀ i m H, W i m H → ((Itr lo n).stop i H ∧ Qd H) ∨ ((Itr lo n).go i H ∧ ∃ Nx : Hp → Prop, (∀ H', Nx H' → ∃ m', m' < m ∧ W (i + 1) m' H') ∧ ∀ x H', (Itr lo n).yld i H x H' → Body x H' Nx) := by
  refine ⟨fun i m H => m + i = n ∧ Pv i H, ⟨n, rfl, h0⟩, fun i m H hW => ?_⟩
  obtain ⟨em, p⟩ := hW
  by_cases hi : i < n
  · refine .inr ⟨hi, Pv (i + 1), fun H' p' => ⟨m - 1, by omega, by omega, p'⟩, fun x H' hy => ?_⟩
    obtain ⟨rfl, rfl⟩ := hy
    exact hs i _ hi p
  · have e : i = n := by omega
    subst e
    exact .inl ⟨Nat.le_refl _, hd H p⟩
theorem g_callR {i : Nat} {R : Addr → Sp → Prop} {E : XK} {t : TA} {σ : L2.St} {H : Hp} {Q : VK} {f : Addr} {sp : Sp} (h : σ[i]? = some (some (V.ref f))) (hR : R f sp) (q : t σ H fun vs H1 => sp vs H1 Q E) : tCallR i R E t σ H Q := ⟨f, sp, h, hR, q⟩
/-! ### parts of a text -/
def noS : Stmt := .Pass ⟨0, 0, 0, 0⟩
def noE : Expr := .Name "" ⟨0, 0, 0, 0⟩
def nth (l : List Stmt) (i : Nat) : Stmt := l.getD i noS
def sBody : Stmt → Nat → Stmt
  | .For (body := b) .., i => nth b i
  | .If (body := b) .., i => nth b i
  | .While (body := b) .., i => nth b i
  | _, _ => noS
def sElse : Stmt → Nat → Stmt
  | .If (orelse := b) .., i => nth b i
  | _, _ => noS
def sExpr : Stmt → Expr
  | .If (test := e) .. => e
  | .Assign (value := e) .. => e
  | .Return (value := some e) .. => e
  | .For (iter := e) .. => e
  | .Expr e _ => e
  | _ => noE
def eAt : Expr → Nat → Expr
  | .BoolOp _ vs _, i => vs.getD i noE
  | .BinOp l _ _ _, 0 => l
  | .BinOp _ _ r _, _ => r
  | .UnaryOp _ e _, _ => e
  | .Compare l _ _ _, 0 => l
  | .Compare _ _ cs _, i + 1 => cs.getD i noE
  | .Call _ as _ _, i => as.getD i noE
  | .List es _, i => es.getD i noE
  | .Tuple es _ _, i => es.getD i noE
  | .ListComp e _ _ _, _ => e
  | _, _ => noE
def lamP : Expr → Arguments
  | .Lambda a _ _ _ => a
  | _ => { posonlyargs := [], args := [], vararg := none, kwonlyargs := [], kw_defaults := [], kwarg := none, defaults := [] }
def lamB : Expr → Expr
  | .Lambda _ b _ _ => b
  | e => e
def lamS : Expr → Scope
  | .Lambda _ _ s _ => s
  | _ => { kind := .function, names := [], isGenerator := false, isCoroutine := false }
end NCLam
/-! NCKw: own errors over ArithmeticError made as values, by one keyword too; isinstance of them, their fields. -/
namespace NCKw
open PySem PySem.Spec PySem.HandSPX
section
variable {prog : Program} {w : World} {A : Around} {E : Value → Shared → Prop} {R : Result → Shared → Prop} {h : Heap} {g : Array GenState} {d : Drawn} {t : Nat} {os : OsState}
variable {nm q : Str} {C N : Addr} {bs bm bmB : List Value} {hdct : Bool} {sn : List Str} {sub : List Value} {ab : Bool} {col : Option Bool} {dd : Option Addr} {k0 k1 k2 k3 k5 : Option Value} {B newId initId : String}
theorem new_kw (F : ExcBaseFacts B newId initId bmB) (hT : ∀ X : String, bm.contains (.type X) = bmB.contains (.type X)) {key : Str} {u : Value}
    (cC : h.get? C = some (excClassObj nm q C N bs bm hdct sn sub ab col dd k0 k1 k2 k3 k5 newId)) (hq : R (.ok (.ret (.ref (h.objs.size + 1)))) ⟨(h.push (W.kdv_tup [])).push (excO C h.objs.size), g, d, t, os⟩) : codeAny (model prog w) A (.builtin newId ⟨[.ref C], [(key, u)]⟩) R ⟨h, g, d, t, os⟩ := by
  have en := F.ends
  have x1 : (Value.ref C :: bm).contains (.type B) = true := by rw [List.contains_cons, hT, F.hasB, Bool.or_true]
  have x2 : (Value.ref C :: bm).contains (.type "AttributeError") = false := by rw [List.contains_cons, hT, F.noAttr]; rfl
  have x3 : (Value.ref C :: bm).contains (.type "NameError") = false := by rw [List.contains_cons, hT, F.noName]; rfl
  refine codeAny_builtinAt F.entry ?_
  unfold Builtin.«BaseException.__new__»
  refine wpAt_bind ?_; show wpAt _ _ _ (stack >>= _) _ _ _
  refine wpAt_bind (wpAt_stack fun p below => wpAt_of_wpAny ?_); wp_walk
  refine wpAt_of_wpAny ?_; rw [F.owner]
  repeat (first | with_reducible refine wpAny_madeHere_exc F.canon cC ?_ | with_reducible refine wpAny_loadPart_at cC ?_ | (with_reducible refine wpAny_isSubtype_exc cC ?_; first | rw [x1] | rw [x2] | rw [x3]) | wp_step)
  show R _ _
  rw [Heap.size_push]; exact hq
theorem check_new_kw (F : ExcBaseFacts B newId initId bmB) (hT : ∀ X : String, bm.contains (.type X) = bmB.contains (.type X)) {M : Model} {key : Str} {u : Value} {Q : Unit → Shared → Prop}
    (cC : h.get? C = some (excClassObj nm q C N bs bm hdct sn sub ab col dd k0 k1 k2 k3 k5 newId)) (hq : Q () ⟨h, g, d, t, os⟩) : wpAny M A (checkBuiltinCall newId ⟨[.ref C], [(key, u)]⟩) Q E ⟨h, g, d, t, os⟩ := by
  have x1 : (Value.ref C :: bm).contains (.type B) = true := by rw [List.contains_cons, hT, F.hasB, Bool.or_true]
  have x2 := F.noStar
  simp only [checkBuiltinCall, F.newKind, F.newSplit, F.newRow]
  repeat (first | refine wpAny_loadPart_at cC ?_ | (refine wpAny_isSubtype_exc cC ?_; rw [x1]) | refine wpAny_staticBase_exc cC ?_ | refine wpAny_madeBy_exc cC ?_ | simp only [bne_self_eq_false, Bool.false_eq_true, if_false] | wp_step)
  exact hq
theorem type_call_kw (F : ExcBaseFacts B newId initId bmB) (hT : ∀ X : String, bm.contains (.type X) = bmB.contains (.type X)) {fI : Addr} {Q : Fin → Shared → Prop} {key : Str} {u : Value}
    (cC : h.get? C = some (excClassObj nm q C N bs bm hdct sn sub ab col dd k0 k1 k2 k3 k5 newId)) (hi : W.Looks (model prog w) h (typeLookup (.ref C) "__init__") (some (.ref fI))) (hb : ∀ self, W.Looks (model prog w) h (bindSpecial (.ref fI) self) (.ref fI, [self]))
    (hq : codeAny (model prog w) A (.call (.ref fI) ⟨[.ref (h.objs.size + 1)], [(key, u)]⟩) (fun r s' => match r with | .ok (.ret v) => v = .none ∧ Q (.done (.ret (.ref (h.objs.size + 1)))) s' | .ok _ => False | .error e => E e s') ⟨(h.push (W.kdv_tup [])).push (excO C h.objs.size), g, d, t, os⟩) :
    wpAny (model prog w) A (Builtin.«type.__call__» ⟨[.ref C], [(key, u)]⟩) Q E ⟨h, g, d, t, os⟩ := by
  repeat (first | with_reducible refine wpAny_loadPart_at cC ?_ | with_reducible refine wpAny_madeBy_exc cC ?_ | wp_step)
  refine codeAny_call_builtin_code (Code.quiet_builtin _ F.quiet) (check_new_kw F hT cC (new_kw F hT cC ?_))
  show wpAny _ _ _ _ _ _
  have k : ∀ b o, h.get? b = some o → ((h.push (W.kdv_tup [])).push (excO C h.objs.size)).get? b = some o := fun b o e => Heap.get?_push_of_some _ (Heap.get?_push_of_some _ e)
  have cC1 := k _ _ cC
  have self0 : ((h.push (W.kdv_tup [])).push (excO C h.objs.size)).get? (h.objs.size + 1) = some (excO C h.objs.size) := by heap_get
  have x1 : (Value.ref C :: bm).contains (.ref C) = true := by simp
  unfold isInstance
  repeat (first | with_reducible refine wpAny_loadPart_at self0 ?_ | (with_reducible refine wpAny_isSubtype_exc cC1 ?_; rw [x1]) | wp_step)
  show wpAny _ _ (typeLookup (.ref C) _) _ _ _
  refine (hi.keeps k).at (wpAny_holding (wpAny_bind (((hb (.ref (h.objs.size + 1))).keeps k).at ?_)))
  refine wpAny_bind (wpAny_call (codeAny_mono hq fun r s' z => ?_))
  rcases r with e | (v | _ | _ | _) <;> first | exact z | exact z.elim | skip
  obtain ⟨rfl, z⟩ := z
  first | exact wpAny_pure (wpAny_pure z) | (wp_walk; exact z)
theorem call_kw (F : ExcBaseFacts B newId initId bmB) (hT : ∀ X : String, bm.contains (.type X) = bmB.contains (.type X)) {fI : Addr} {key : Str} {u : Value}
    (cC : h.get? C = some (excClassObj nm q C N bs bm hdct sn sub ab col dd k0 k1 k2 k3 k5 newId)) (hi : W.Looks (model prog w) h (typeLookup (.ref C) "__init__") (some (.ref fI))) (hb : ∀ self, W.Looks (model prog w) h (bindSpecial (.ref fI) self) (.ref fI, [self]))
    (hq : codeAny (model prog w) (A.under (.builtin "type.__call__" ⟨[.ref C], [(key, u)]⟩)) (.call (.ref fI) ⟨[.ref (h.objs.size + 1)], [(key, u)]⟩) (W.InitBack (h.objs.size + 1) R) ⟨(h.push (W.kdv_tup [])).push (excO C h.objs.size), g, d, t, os⟩) :
    codeAny (model prog w) A (.call (.ref C) ⟨[], [(key, u)]⟩) R ⟨h, g, d, t, os⟩ := by
  have y1 := tc_lookup
  have y2 := tc_bind (.ref C)
  have y3 : (⟨h, g, d, t, os⟩ : Shared).TypeIs (.ref C) "type" := ⟨_, cC, rfl⟩
  refine codeAny_of_tree ?_
  show wpAny _ _ (callAny (.ref C) _) _ _ _
  repeat (any_goals (first | assumption | with_reducible refine wpAny_loadPart_at cC ?_ | wp_step))
  refine ⟨rfl, ?_⟩
  refine codeAny_call_builtin_at (Code.quiet_builtin _ (by decide +kernel)) entry_typeCall (wpAny_check_type_call_sub cC (type_call_kw F hT cC hi hb ?_))
  refine codeAny_mono hq fun r s' z => ?_
  rcases r with e | (v | _ | _ | _) <;> exact z
end
end NCKw
namespace NCKw
open PySem PySem.Spec PyProof.Rows L2
section
variable {X : Cx} {p pos : Pos}
/-- what C(..) leaves: the error at a, kept -/
abbrev MkV (C : Addr) (sp : Sp) (vs : List V) (H1 : Hp) (Q : VK) : Prop := ∀ a, H1 a = none → sp (.ref a :: vs) (upd H1 a (exo a C none)) (fun v H2 => v = .non ∧ Q (.ref a) H2) (fun _ _ _ => False)
theorem mkV_core {C fI : Addr} {k : Nat} {fd : FuncData} {ps : List Str} {sp : Sp} {pins : List (Addr × Obj)} {σ : L2.St} {H1 : Hp} {Q : VK} {s1 : Shared} {vs : List V} {us : List Value} (T : OexA X.K C) (iC : PySem.W.findIn X.K (.ref C) "__init__" = some (some (.ref fI))) (tI : PySem.W.typeIn X.K (.ref fI) = some (.type "function"))
    (F1 : FnOk X.prog X.w X.K X.mg X.base CX0 k fI fd ps sp) (hr : Room (k + 1) X.A) (hb : Binds X.K fd ps []) (I1 : Inv X pins σ H1 s1) (r1 : Vals vs us) (hz : vs.length ≤ 1000) (q1 : MkV C sp vs H1 Q) : wpAny (model X.prog X.w) X.A (call (.ref C) us) (EP X pins σ Q) X.xe s1 := by
  obtain ⟨nm, N, q, bs, bm, hdct, sn, sub, ab, col, dd, k0, k1, k2, k3, k5, hC, hbm⟩ := PySem.W.excInit_of I1.kIn T.ini
  obtain ⟨hp, g, dr, tk, os⟩ := s1
  have hq := q1 (hp.objs.size + 1) (I1.hok.fresh (Nat.le_succ _))
  have got : ((hp.push (PySem.W.kdv_tup us)).push (PySem.HandSPX.excO C hp.objs.size)).get? (hp.objs.size + 1) = some (PySem.HandSPX.excO C hp.objs.size) := by heap_get
  have I2 : Inv X pins σ (upd H1 (hp.objs.size + 1) (exo (hp.objs.size + 1) C none)) ⟨(hp.push (PySem.W.kdv_tup us)).push (PySem.HandSPX.excO C hp.objs.size), g, dr, tk, os⟩ :=
    I1.laid (t' := tk) (a := hp.objs.size + 1) (o := exo (hp.objs.size + 1) C none) (fun b o e => Heap.get?_push_of_some _ (Heap.get?_push_of_some _ e)) (Nat.le_succ _) (exo_ok got)
  have r3 : Vals (V.ref (hp.objs.size + 1) :: vs) (Value.ref (hp.objs.size + 1) :: us ++ []) := by rw [List.append_nil]; exact .cons rfl r1
  have hl : (Value.ref (hp.objs.size + 1) :: us ++ []).length = ps.length := by rw [← r3.length]; exact F1.len _ _ _ _ hq
  have hus : us.length ≤ sizeLine := by rw [← Paired.length r1, sizeLine_eq]; omega
  refine wpAny_call (PySem.HandSPX.call_own F.excBase_ArithmeticError hbm hC (PySem.W.looks_findIn I1.kIn iC) (fun self => PySem.W.bind_fn I1.kIn self tI) hus
    (codeAny_mono (F1.run _ X.stack _ _ ⟨Value.ref (hp.objs.size + 1) :: us, []⟩ _ _ _ (fun _ _ _ => False) (hr.make C us []) (I2.env0.make C us []) (hb _ (Value.ref (hp.objs.size + 1) :: us) I2.kIn hl) r3 hq) fun r s' z => ?_))
  cases r with
  | error er => exact (show False from z).elim
  | ok fl =>
    cases fl with
    | ret u =>
      obtain ⟨v, H2, J, rv, ev, qv⟩ := I2.after z
      subst ev
      exact ⟨rv, .ref _, H2, J, rfl, qv⟩
    | next => exact False.elim z
    | brk => exact False.elim z
    | cont => exact False.elim z
theorem mkK_core {C fI : Addr} {k : Nat} {fd : FuncData} {ps : List Str} {sp : Sp} {key : Str} {pins : List (Addr × Obj)} {σ : L2.St} {H1 : Hp} {Q : VK} {s1 : Shared} {v : V} {u : Value} (T : OexA X.K C) (iC : PySem.W.findIn X.K (.ref C) "__init__" = some (some (.ref fI))) (tI : PySem.W.typeIn X.K (.ref fI) = some (.type "function"))
    (F1 : FnOk X.prog X.w X.K X.mg X.base CX0 k fI fd ps sp) (hr : Room (k + 1) X.A) (hb : ∀ (s : Shared) (a u : Value), X.K.In s.heap → BindsTo s fd ⟨[a], [(key, u)]⟩ (ps.zip [a, u])) (I1 : Inv X pins σ H1 s1) (r1 : RelV v u) (q1 : MkV C sp [v] H1 Q) : codeAny (model X.prog X.w) X.A (.call (.ref C) ⟨[], [(key, u)]⟩) (fun r s' => match r with | .ok (.ret u) => EP X pins σ Q u s' | .ok _ => False | .error e => False) s1 := by
  obtain ⟨nm, N, q, bs, bm, hdct, sn, sub, ab, col, dd, k0, k1, k2, k3, k5, hC, hbm⟩ := PySem.W.excInit_of I1.kIn T.ini
  obtain ⟨hp, g, dr, tk, os⟩ := s1
  have hq := q1 (hp.objs.size + 1) (I1.hok.fresh (Nat.le_succ _))
  have got : ((hp.push (PySem.W.kdv_tup [])).push (PySem.HandSPX.excO C hp.objs.size)).get? (hp.objs.size + 1) = some (PySem.HandSPX.excO C hp.objs.size) := by heap_get
  have I2 : Inv X pins σ (upd H1 (hp.objs.size + 1) (exo (hp.objs.size + 1) C none)) ⟨(hp.push (PySem.W.kdv_tup [])).push (PySem.HandSPX.excO C hp.objs.size), g, dr, tk, os⟩ :=
    I1.laid (t' := tk) (a := hp.objs.size + 1) (o := exo (hp.objs.size + 1) C none) (fun b o e => Heap.get?_push_of_some _ (Heap.get?_push_of_some _ e)) (Nat.le_succ _) (exo_ok got)
  have r3 : Vals [V.ref (hp.objs.size + 1), v] [Value.ref (hp.objs.size + 1), u] := .cons rfl (.cons r1 .nil)
  refine call_kw F.excBase_ArithmeticError hbm hC (PySem.W.looks_findIn I1.kIn iC) (fun self => PySem.W.bind_fn I1.kIn self tI)
    (codeAny_mono (F1.run _ X.stack _ _ ⟨[Value.ref (hp.objs.size + 1)], [(key, u)]⟩ _ _ _ (fun _ _ _ => False) (hr.make C [] [(key, u)]) (I2.env0.make C [] [(key, u)]) (hb _ _ _ I2.kIn) r3 hq) fun r s' z => ?_)
  cases r with
  | error er => exact (show False from z).elim
  | ok fl =>
    cases fl with
    | ret u =>
      obtain ⟨v, H2, J, rv, ev, qv⟩ := I2.after z
      subst ev
      exact ⟨rv, .ref _, H2, J, rfl, qv⟩
    | next => exact False.elim z
    | brk => exact False.elim z
    | cont => exact False.elim z
/-- C(e, ..) kept -/
theorem pe_mkV {C fI : Addr} {k : Nat} {fd : FuncData} {ps : List Str} {sp : Sp} {x : Str} {e : Expr} {es : List Expr} {ta : TA} (T : OexA X.K C) (iC : PySem.W.findIn X.K (.ref C) "__init__" = some (some (.ref fI))) (tI : PySem.W.typeIn X.K (.ref fI) = some (.type "function")) (F1 : FnOk X.prog X.w X.K X.mg X.base CX0 k fI fd ps sp) (hr : Room (k + 1) X.A) (hb : Binds X.K fd ps []) (hg : Gl X x) (hm : X.mg x = some (.ref C)) (ha : PA X (e :: es) ta)
    (hdb : (x == ("__debug__" : Str)) = false := by decide) (he : starEach (e :: es) X.env = (false, eval e X.env) :: starEach es X.env := by rfl) (hpl : (backTo pos (starEach es X.env)).any (·.1) = false := by rfl) : PE X (.Call (.Name x p) (e :: es) [] pos) (fun σ H Q => ta σ H fun vs H1 => vs.length ≤ 1000 ∧ MkV C sp vs H1 Q) := by
  refine ⟨fun pins s σ H Q I h => ?_⟩
  refine wpAny_Call_Name_kw (ld_glob I hg hm ?_ hdb)
  exact PySem.W.callWith_K (h₀ := X.base) I.ok.mod.kin T.kC (thn (ha.run pos pins s σ H _ I h) fun us s1 ⟨vs, H1, I1, r1, hz, q1⟩ => ⟨I1.kIn, mkV_core T iC tI F1 hr hb I1 r1 hz q1⟩) he hpl
theorem pe_mkV0 {C fI : Addr} {k : Nat} {fd : FuncData} {ps : List Str} {sp : Sp} {x : Str} (T : OexA X.K C) (iC : PySem.W.findIn X.K (.ref C) "__init__" = some (some (.ref fI))) (tI : PySem.W.typeIn X.K (.ref fI) = some (.type "function")) (F1 : FnOk X.prog X.w X.K X.mg X.base CX0 k fI fd ps sp) (hr : Room (k + 1) X.A) (hb : Binds X.K fd ps []) (hg : Gl X x) (hm : X.mg x = some (.ref C))
    (hdb : (x == ("__debug__" : Str)) = false := by decide) : PE X (.Call (.Name x p) [] [] pos) (fun _ H Q => MkV C sp [] H Q) := by
  refine ⟨fun pins s σ H Q I h => ?_⟩
  refine wpAny_Call_Name_kw (ld_glob I hg hm ?_ hdb)
  exact PySem.W.callWith_K0 I.kIn T.kC (mkV_core (us := []) T iC tI F1 hr hb I .nil (by decide) h)
/-- C(key=e) kept -/
theorem pe_mkVK {C fI : Addr} {k : Nat} {fd : FuncData} {ps : List Str} {sp : Sp} {x key : Str} {kws : List Keyword} {tk : TA} (T : OexA X.K C) (iC : PySem.W.findIn X.K (.ref C) "__init__" = some (some (.ref fI))) (tI : PySem.W.typeIn X.K (.ref fI) = some (.type "function")) (F1 : FnOk X.prog X.w X.K X.mg X.base CX0 k fI fd ps sp) (hr : Room (k + 1) X.A)
    (hb : ∀ (s : Shared) (a u : Value), X.K.In s.heap → BindsTo s fd ⟨[a], [(key, u)]⟩ (ps.zip [a, u])) (hg : Gl X x) (hm : X.mg x = some (.ref C)) (hkw : PK X kws tk) (hall : (backToKw pos (keywordEach kws X.env)).all (·.1.isSome) = true := by rfl) (hks : (backToKw pos (keywordEach kws X.env)).filterMap (·.1) = [key] := by rfl) (hdb : (x == ("__debug__" : Str)) = false := by decide)
    (hpl : ((backTo pos (starEach [] X.env)).any (·.1) || (backToKw pos (keywordEach kws X.env)).any (·.1.isNone)) = false := by rfl) : PE X (.Call (.Name x p) [] kws pos) (fun σ H Q => tk σ H fun vs H1 => ∃ v, vs = [v] ∧ MkV C sp [v] H1 Q) := by
  refine ⟨fun pins s σ H Q I h => ?_⟩
  refine wpAny_Call_Name_kw (ld_glob I hg hm ?_ hdb)
  refine PySem.W.callWith_KW0 (h₀ := X.base) I.ok.mod.kin T.kC hall ?_ hpl
  refine thn (hkw.run pos pins s σ H _ I h) fun ws s2 ⟨zs, H2, I2, rz, v, ez, q2⟩ => ⟨I2.kIn, ?_⟩
  subst ez
  rw [hks]
  cases rz with
  | @cons _ u _ _ r1 r2 =>
    cases r2
    refine wpAny_call (codeAny_mono (mkK_core (u := u) T iC tI F1 hr hb I2 r1 q2) fun r s' z => ?_)
    cases r with
    | error er => exact (show False from z).elim
    | ok fl =>
      cases fl with
      | ret u => exact z
      | next => exact False.elim z
      | brk => exact False.elim z
      | cont => exact False.elim z
/-- isinstance(e, c), e a kept error -/
def rIsX (K : PySem.W.Frag) : List V → Hp → VK → Prop := fun xs H Q => ∃ (a C : Addr) (d : Option Addr) (c : V) (cv : Value) (b : Bool), xs = [.ref a, c] ∧ H a = some (exo a C d) ∧ (∀ dd, d = some dd → ∃ fs, H dd = some (exd dd fs)) ∧ ExcC K C ∧ (∀ u, RelV c u → u = cv) ∧ PySem.W.kitOne K (.ref C) cv = some b ∧ Q (.bl b) H
theorem inst_of {pins : List (Addr × Obj)} {σ : L2.St} {H : Hp} {s : Shared} {a C : Addr} {d : Option Addr} (I : Inv X pins σ H s) (e : H a = some (exo a C d)) (hd : ∀ dd, d = some dd → ∃ fs, H dd = some (exd dd fs)) : ∃ (ox : Obj) (od : Option Obj), PySem.W.InstAt s.heap a ox C od := by
  obtain ⟨t1, ho⟩ := exo_at I.hok e
  cases d with
  | none => exact ⟨_, none, ho, rfl, rfl, True.intro⟩
  | some dd =>
    obtain ⟨fs, hf⟩ := hd dd rfl
    obtain ⟨mA, hns, _⟩ := exd_at I.hok hf
    obtain ⟨od, h1, _⟩ := lookIn_ns hns
    exact ⟨_, some od, ho, rfl, rfl, h1⟩
theorem call_isX : CallR X (.builtin "isinstance") (rIsX X.K) := by
  intro pins s σ H xs us Q I r h
  obtain ⟨a, C, d, c, cv, b, rfl, ha, hd, EC, hcv, e, q⟩ := h
  cases r with
  | cons rx rr =>
    cases rr with
    | cons rt rr =>
      cases rr
      cases rx
      obtain rfl := hcv _ rt
      obtain ⟨ox, od, J⟩ := inst_of I ha hd
      obtain ⟨cd, hc, _⟩ := PySem.W.any_some EC.hd
      exact PySem.W.kia_one (PySem.W.kitx_exc (by rw [hc]; rfl) EC.hg EC.hk EC.hs EC.ha EC.hn EC.ht EC.hm) I.kIn J e (fun z => nomatch z) fun tk => ⟨.bl b, H, I.kept (t' := tk) fun _ _ z => z, rfl, q⟩
/-- e.f, e a kept error -/
def tXv (K : PySem.W.Frag) (f : Str) (te : TE) : TE := fun σ H Q => te σ H fun x H1 => ∃ (a C dd : Addr) (fs : List (Str × V)) (v : V), x = .ref a ∧ H1 a = some (exo a C (some dd)) ∧ H1 dd = some (exd dd fs) ∧ ExcC K C ∧ PySem.W.findIn K (.ref C) f = some none ∧ fs.lookup f = some v ∧ Q v H1
theorem pe_xv {e : Expr} {te : TE} {n : Str} (he : PE X e te) (hb : attributeBase e n X.env (eval e X.env) = eval e X.env := by rfl) : PE X (.Attribute e n pos) (tXv X.K n te) := by
  refine ⟨fun pins s σ H Q I h => ?_⟩
  refine attr_of hb (thn (he.run pins s σ H _ I h) fun u s1 ⟨x, H1, I1, rx, a, C, dd, fs, v, ex, ha, hd, EC, hno, l, q⟩ => ?_)
  subst ex
  obtain rfl : u = Value.ref a := rx
  obtain ⟨t1, ho⟩ := exo_at I1.hok ha
  obtain ⟨mA, hns, hr⟩ := exd_at I1.hok hd
  obtain ⟨od, h1, hl⟩ := lookIn_ns hns
  obtain ⟨u, hu, ru⟩ := RelO.some_of (v := v) (o := mA n) (by rw [← l]; exact hr n)
  have J : PySem.W.InstAt s1.heap a _ C (some od) := ⟨ho, rfl, rfl, h1⟩
  exact HandSPX.exc_get I1.kIn J EC.hg EC.hk EC.hs (PySem.W.findObj_own EC.hd hno rfl (by rw [hl, hu])) (handed_of ru) ⟨v, H1, I1.tok _, ru, q⟩
end
/-- what the head says of isinstance(e, built-in) -/
def kitTB (K : PySem.W.Frag) (C : Addr) (t : String) : Bool := decide (PySem.W.kitOne K (.ref C) (.type t) = some true)
theorem kitTB_ok {K : PySem.W.Frag} {C : Addr} {t : String} (h : kitTB K C t = true) : PySem.W.kitOne K (.ref C) (.type t) = some true := of_decide_eq_true h
/-- b is True -/
def rIsB : R2 := fun x y H Q => ∃ b c : Bool, x = .bl b ∧ y = .bl c ∧ Q (.bl (b == c)) H
theorem op_isB {X : Cx} : OpR X (compareOp .Is) rIsB := by
  intro pins s σ H x y v u Q I rx ry h
  obtain ⟨b, c, rfl, rfl, q⟩ := h
  cases rx
  cases ry
  refine wpAny_is_plain rfl (fin_bl I q ?_)
  cases b <;> cases c <;> rfl
end NCKw
open PySem PySem.Spec PyProof.Rows L2
local macro_rules | `(tactic| walk_at "mul") => `(tactic| first | exact mulL (by omega) (by omega) | exact mulR (by omega) (by omega) | exact mulL (by decide) (by decide) | exact mulR (by decide) (by decide))
local macro_rules | `(tactic| walk_at "r1") => `(tactic| first
  | with_reducible refine g_seq ?_ | with_reducible refine g_next ?_ | with_reducible refine g_ret ?_ | with_reducible refine g_asg ?_ | with_reducible refine g_name ?_ | with_reducible refine g_drop ?_ | with_reducible refine g_ifS ?_ | with_reducible refine g_par ?_ | with_reducible refine g_par3 ?_
  | ((with_reducible refine g_var (v := ?v) ?h ?_); (case h => exact rfl))
  | with_reducible refine g_c ?_ | with_reducible refine g_op ?_ | with_reducible refine g_un ?_ | with_reducible refine g_I0 ?_ | with_reducible refine g_U ?_
  | with_reducible refine g_eqI ?_ | with_reducible refine g_neI ?_ | with_reducible refine g_eqB ?_ | with_reducible refine g_neB ?_
  | with_reducible refine g_cons ?_ | with_reducible refine g_nil ?_ | with_reducible refine g_tup ?_ | with_reducible refine g_lst ?_ | with_reducible refine g_cb ?_ | with_reducible refine g_call ?_ | with_reducible refine g_callN ?_
  | with_reducible refine g_yes ?_ | with_reducible refine g_test ?_ | with_reducible refine g_tb ?_ | with_reducible refine g_bl ?_ | with_reducible refine g_and ?_ | with_reducible refine g_or ?_ | with_reducible refine g_not ?_ | with_reducible refine g_if ?_
  | with_reducible refine g_chain ?_ | with_reducible refine g_andV ?_ | with_reducible refine g_orV ?_ | with_reducible refine g_notV ?_ | with_reducible refine g_sub ?_ | with_reducible refine g_sl ?_ | with_reducible refine g_consG ?_ | with_reducible refine g_nilG ?_
  | with_reducible refine g_for ?_ | with_reducible refine g_lc ?_ | with_reducible refine g_rng1 ?_ | with_reducible refine g_rng2 ?_ | with_reducible refine g_ilist ?_ | with_reducible refine g_itup ?_ | with_reducible refine g_ikeys ?_ | with_reducible refine g_intI ?_ | with_reducible refine g_intB ?_ | with_reducible refine g_abs ?_ | with_reducible refine g_min2 ?_ | with_reducible refine g_max2 ?_ | with_reducible refine g_po ?_ | with_reducible refine g_pon ?_ | with_reducible refine g_int1 ?_
  | ((with_reducible refine g_lenL (xs := ?xs) ?h ?_); (case h => assumption))
  | ((with_reducible refine g_lenT (xs := ?xs) ?h ?_); (case h => assumption))
  | ((with_reducible refine g_mod ?h ?_); (case h => first | decide | omega))
  | ((with_reducible refine g_div ?h ?h2 ?_); (case h => first | decide | omega); (case h2 => first | decide | omega))
  | ((with_reducible refine g_pow ?h ?_); (case h => first | exact ⟨by decide, by decide, by decide⟩ | exact pow_ok (by omega) (by omega) (by omega) (by omega)))
  | ((with_reducible refine g_tupG (xs := ?xs) ?h ?n ?_); (case h => assumption); (case n => exact rfl))
  | ((with_reducible refine g_unl (xs := ?xs) ?h ?n ?_); (case h => assumption); (case n => exact rfl))
  | ((with_reducible refine g_mul ?h ?_); (case h => walk_at "mul"))
  | ((with_reducible refine g_mulA ?h ?_); (case h => first | exact mulW (by assumption) (by assumption) | exact .inl (by walk_at "mul")))
  | ((with_reducible refine g_divA ?h ?_); (case h => first | exact divW (by assumption) (by assumption) | exact divB (by omega) (by omega) | exact ⟨by decide, by decide⟩))
  | ((with_reducible refine g_powA ?h ?_); (case h => first | exact powW (by assumption) | exact powS (by decide) (by decide) (by decide)))
  | with_reducible refine g_max3 ?_ | with_reducible refine g_ceI ?_ | with_reducible refine g_osA ?_ | with_reducible refine g_mkA ?_
  | ((with_reducible refine g_ixT (v := ?v) (xs := ?xs) ?h ?a ?_); (case h => assumption); (case a => exact rfl))
  | ((with_reducible refine g_ixL (v := ?v) (xs := ?xs) ?h ?a ?_); (case h => assumption); (case a => exact rfl)))
local macro_rules | `(tactic| walk_at "rd") => `(tactic| repeat walk_at "r1")
local macro_rules | `(tactic| walk_at "nm") => `(tactic| try dsimp only [List.set_cons_zero, List.set_cons_succ])
namespace NC
abbrev P0 : Program := PySem.Challenge.pw_nearcells_k04_what_signs_refuse
abbrev top (i : Nat) : Stmt := P0.main.body.getD i (.Pass ⟨0, 0, 0, 0⟩)
def mkD (g nm : Str) (i : Nat) : He.DefD := ⟨(g, none), nm, nm, defArgs (top i), defBody (top i), defScope (top i), [], []⟩
abbrev FnP (K : PySem.W.Frag) (x : Str) (st : Stmt) (f : Addr) (fd : FuncData) : Prop := FunD K x x (defArgs st) (defBody st) (defScope st) [] [] f fd
def initOf : Stmt → Stmt
  | .ClassDef (body := b) .. => b.headD (.Pass ⟨0, 0, 0, 0⟩)
  | s => s
abbrev ini (i : Nat) : Stmt := initOf (top i)
def mkI (C q : Str) (i : Nat) : He.DefD := ⟨(C, some "__init__"), "__init__", q, defArgs (ini i), defBody (ini i), defScope (ini i), [], []⟩
def fns : List He.DefD := [mkD "is_integer" "is_integer" 9,
  mkD "is_between_wholes" "is_between" 10,
  mkD "common" "common" 12,
  mkD "reduced" "reduced" 13,
  mkD "sign" "sign" 14,
  mkD "is_site" "is_site" 18,
  mkD "is_place" "is_place" 19,
  mkD "check_site" "check_site" 20,
  mkD "check_place" "check_place" 21,
  mkD "place_of" "place_of" 22,
  mkD "turn" "turn" 24,
  mkD "power" "power" 25,
  mkD "inside" "inside" 26,
  mkD "on_stretch" "on_stretch" 27,
  mkD "centre_of" "centre_of" 28,
  mkD "square_of" "square_of" 29,
  mkD "lead" "lead" 30,
  mkD "side" "side" 31,
  mkD "is_between_signs" "is_between" 32,
  mkD "check_circle" "check_circle" 34,
  mkD "circle" "circle" 35,
  mkD "in_circle" "in_circle" 36,
  mkD "square" "square" 37,
  mkD "nearer" "nearer" 38,
  mkD "lift_side" "lift_side" 39,
  mkD "_law_source_of" "_law_source_of" 41,
  mkD "_law_next" "_law_next" 42,
  mkD "_law_one" "_law_one" 43,
  mkD "_law_cell_at" "_law_cell_at" 44,
  mkD "_law_raised" "_law_raised" 45,
  mkD "_law_all_raise" "_law_all_raise" 46,
  mkD "_law_sites_right" "_law_sites_right" 47,
  mkD "_law_places_right" "_law_places_right" 48,
  mkD "_law_errors_right" "_law_errors_right" 49,
  mkD "law" "law" 50,
  mkI "InvalidSites" "InvalidSites.__init__" 2,
  mkI "InvalidTriangles" "InvalidTriangles.__init__" 3,
  mkI "InvalidBound" "InvalidBound.__init__" 4,
  mkI "InvalidCall" "InvalidCall.__init__" 5,
  mkI "NoCircle" "NoCircle.__init__" 6,
  mkI "LimitExceeded" "LimitExceeded.__init__" 7]
def fas : List He.Fa := [.glo "is_integer", .glo "is_between_wholes", .glo "common", .glo "reduced", .glo "sign", .glo "is_site", .glo "is_place", .glo "check_site", .glo "check_place", .glo "place_of", .glo "turn", .glo "power", .glo "inside", .glo "on_stretch", .glo "centre_of", .glo "square_of", .glo "lead", .glo "side", .glo "is_between_signs", .glo "check_circle", .glo "circle", .glo "in_circle", .glo "square", .glo "nearer", .glo "lift_side", .glo "_law_source_of", .glo "_law_next", .glo "_law_one", .glo "_law_cell_at", .glo "_law_raised", .glo "_law_all_raise", .glo "_law_sites_right", .glo "_law_places_right", .glo "_law_errors_right", .glo "law", .int "MOST_COORDINATE" 1000000, .int "MOST_PLACE" 1000000000000000000000000000000, .free "isinstance", .free "int", .free "bool", .free "tuple", .free "len", .free "all", .free "range", .free "max", .free "abs", .free "enumerate", .free "ArithmeticError", .glo "CellError", .glo "InvalidSites", .glo "InvalidTriangles", .glo "InvalidBound", .glo "InvalidCall", .glo "NoCircle", .glo "LimitExceeded", .meth "InvalidSites" "__init__", .meth "InvalidTriangles" "__init__", .meth "InvalidBound" "__init__", .meth "InvalidCall" "__init__", .meth "NoCircle" "__init__", .meth "LimitExceeded" "__init__", .noat "InvalidSites" "at", .noat "InvalidTriangles" "at", .noat "InvalidBound" "argument", .noat "InvalidCall" "call", .noat "LimitExceeded" "limit", .exm "InvalidBound" "InvalidBound" true, .exm "NoCircle" "InvalidBound" false, .exm "NoCircle" "NoCircle" true]
structure Tops (K : PySem.W.Frag) (mg : Str → Option Value) where
  fd_is_integer : FuncData
  F_is_integer : FnP K "is_integer" (top 9) (He.ga K "is_integer") fd_is_integer
  g_is_integer : mg "is_integer" = some (.ref (He.ga K "is_integer"))
  fd_is_between_wholes : FuncData
  F_is_between_wholes : FnP K "is_between" (top 10) (He.ga K "is_between_wholes") fd_is_between_wholes
  g_is_between_wholes : mg "is_between_wholes" = some (.ref (He.ga K "is_between_wholes"))
  fd_common : FuncData
  F_common : FnP K "common" (top 12) (He.ga K "common") fd_common
  g_common : mg "common" = some (.ref (He.ga K "common"))
  fd_reduced : FuncData
  F_reduced : FnP K "reduced" (top 13) (He.ga K "reduced") fd_reduced
  g_reduced : mg "reduced" = some (.ref (He.ga K "reduced"))
  fd_sign : FuncData
  F_sign : FnP K "sign" (top 14) (He.ga K "sign") fd_sign
  g_sign : mg "sign" = some (.ref (He.ga K "sign"))
  fd_is_site : FuncData
  F_is_site : FnP K "is_site" (top 18) (He.ga K "is_site") fd_is_site
  g_is_site : mg "is_site" = some (.ref (He.ga K "is_site"))
  fd_is_place : FuncData
  F_is_place : FnP K "is_place" (top 19) (He.ga K "is_place") fd_is_place
  g_is_place : mg "is_place" = some (.ref (He.ga K "is_place"))
  fd_check_site : FuncData
  F_check_site : FnP K "check_site" (top 20) (He.ga K "check_site") fd_check_site
  g_check_site : mg "check_site" = some (.ref (He.ga K "check_site"))
  fd_check_place : FuncData
  F_check_place : FnP K "check_place" (top 21) (He.ga K "check_place") fd_check_place
  g_check_place : mg "check_place" = some (.ref (He.ga K "check_place"))
  fd_place_of : FuncData
  F_place_of : FnP K "place_of" (top 22) (He.ga K "place_of") fd_place_of
  g_place_of : mg "place_of" = some (.ref (He.ga K "place_of"))
  fd_turn : FuncData
  F_turn : FnP K "turn" (top 24) (He.ga K "turn") fd_turn
  g_turn : mg "turn" = some (.ref (He.ga K "turn"))
  fd_power : FuncData
  F_power : FnP K "power" (top 25) (He.ga K "power") fd_power
  g_power : mg "power" = some (.ref (He.ga K "power"))
  fd_inside : FuncData
  F_inside : FnP K "inside" (top 26) (He.ga K "inside") fd_inside
  g_inside : mg "inside" = some (.ref (He.ga K "inside"))
  fd_on_stretch : FuncData
  F_on_stretch : FnP K "on_stretch" (top 27) (He.ga K "on_stretch") fd_on_stretch
  g_on_stretch : mg "on_stretch" = some (.ref (He.ga K "on_stretch"))
  fd_centre_of : FuncData
  F_centre_of : FnP K "centre_of" (top 28) (He.ga K "centre_of") fd_centre_of
  g_centre_of : mg "centre_of" = some (.ref (He.ga K "centre_of"))
  fd_square_of : FuncData
  F_square_of : FnP K "square_of" (top 29) (He.ga K "square_of") fd_square_of
  g_square_of : mg "square_of" = some (.ref (He.ga K "square_of"))
  fd_lead : FuncData
  F_lead : FnP K "lead" (top 30) (He.ga K "lead") fd_lead
  g_lead : mg "lead" = some (.ref (He.ga K "lead"))
  fd_side : FuncData
  F_side : FnP K "side" (top 31) (He.ga K "side") fd_side
  g_side : mg "side" = some (.ref (He.ga K "side"))
  fd_is_between_signs : FuncData
  F_is_between_signs : FnP K "is_between" (top 32) (He.ga K "is_between_signs") fd_is_between_signs
  g_is_between_signs : mg "is_between_signs" = some (.ref (He.ga K "is_between_signs"))
  fd_check_circle : FuncData
  F_check_circle : FnP K "check_circle" (top 34) (He.ga K "check_circle") fd_check_circle
  g_check_circle : mg "check_circle" = some (.ref (He.ga K "check_circle"))
  fd_circle : FuncData
  F_circle : FnP K "circle" (top 35) (He.ga K "circle") fd_circle
  g_circle : mg "circle" = some (.ref (He.ga K "circle"))
  fd_in_circle : FuncData
  F_in_circle : FnP K "in_circle" (top 36) (He.ga K "in_circle") fd_in_circle
  g_in_circle : mg "in_circle" = some (.ref (He.ga K "in_circle"))
  fd_square : FuncData
  F_square : FnP K "square" (top 37) (He.ga K "square") fd_square
  g_square : mg "square" = some (.ref (He.ga K "square"))
  fd_nearer : FuncData
  F_nearer : FnP K "nearer" (top 38) (He.ga K "nearer") fd_nearer
  g_nearer : mg "nearer" = some (.ref (He.ga K "nearer"))
  fd_lift_side : FuncData
  F_lift_side : FnP K "lift_side" (top 39) (He.ga K "lift_side") fd_lift_side
  g_lift_side : mg "lift_side" = some (.ref (He.ga K "lift_side"))
  fd_law_source_of : FuncData
  F_law_source_of : FnP K "_law_source_of" (top 41) (He.ga K "_law_source_of") fd_law_source_of
  g_law_source_of : mg "_law_source_of" = some (.ref (He.ga K "_law_source_of"))
  fd_law_next : FuncData
  F_law_next : FnP K "_law_next" (top 42) (He.ga K "_law_next") fd_law_next
  g_law_next : mg "_law_next" = some (.ref (He.ga K "_law_next"))
  fd_law_one : FuncData
  F_law_one : FnP K "_law_one" (top 43) (He.ga K "_law_one") fd_law_one
  g_law_one : mg "_law_one" = some (.ref (He.ga K "_law_one"))
  fd_law_cell_at : FuncData
  F_law_cell_at : FnP K "_law_cell_at" (top 44) (He.ga K "_law_cell_at") fd_law_cell_at
  g_law_cell_at : mg "_law_cell_at" = some (.ref (He.ga K "_law_cell_at"))
  fd_law_raised : FuncData
  F_law_raised : FnP K "_law_raised" (top 45) (He.ga K "_law_raised") fd_law_raised
  g_law_raised : mg "_law_raised" = some (.ref (He.ga K "_law_raised"))
  fd_law_all_raise : FuncData
  F_law_all_raise : FnP K "_law_all_raise" (top 46) (He.ga K "_law_all_raise") fd_law_all_raise
  g_law_all_raise : mg "_law_all_raise" = some (.ref (He.ga K "_law_all_raise"))
  fd_law_sites_right : FuncData
  F_law_sites_right : FnP K "_law_sites_right" (top 47) (He.ga K "_law_sites_right") fd_law_sites_right
  g_law_sites_right : mg "_law_sites_right" = some (.ref (He.ga K "_law_sites_right"))
  fd_law_places_right : FuncData
  F_law_places_right : FnP K "_law_places_right" (top 48) (He.ga K "_law_places_right") fd_law_places_right
  g_law_places_right : mg "_law_places_right" = some (.ref (He.ga K "_law_places_right"))
  fd_law_errors_right : FuncData
  F_law_errors_right : FnP K "_law_errors_right" (top 49) (He.ga K "_law_errors_right") fd_law_errors_right
  g_law_errors_right : mg "_law_errors_right" = some (.ref (He.ga K "_law_errors_right"))
  fd_law : FuncData
  F_law : FnP K "law" (top 50) (He.ga K "law") fd_law
  g_law : mg "law" = some (.ref (He.ga K "law"))
  t_MOST_COORDINATE : Tok
  c_MOST_COORDINATE : mg "MOST_COORDINATE" = some (.int 1000000 t_MOST_COORDINATE)
  t_MOST_PLACE : Tok
  c_MOST_PLACE : mg "MOST_PLACE" = some (.int 1000000000000000000000000000000 t_MOST_PLACE)
  m_isinstance : mg "isinstance" = none
  m_int : mg "int" = none
  m_bool : mg "bool" = none
  m_tuple : mg "tuple" = none
  m_len : mg "len" = none
  m_all : mg "all" = none
  m_range : mg "range" = none
  m_max : mg "max" = none
  m_abs : mg "abs" = none
  m_enumerate : mg "enumerate" = none
  m_ArithmeticError : mg "ArithmeticError" = none
  g_CellError : mg "CellError" = some (.ref (He.ga K "CellError"))
  B_CellError : BaseA K (He.ga K "CellError")
  fd_InvalidSites_init : FuncData
  F_InvalidSites_init : FunD K "__init__" "InvalidSites.__init__" (defArgs (ini 2)) (defBody (ini 2)) (defScope (ini 2)) [] [] (He.ma K (He.ga K "InvalidSites") "__init__") fd_InvalidSites_init
  g_InvalidSites : mg "InvalidSites" = some (.ref (He.ga K "InvalidSites"))
  i_InvalidSites : PySem.W.findIn K (.ref (He.ga K "InvalidSites")) "__init__" = some (some (.ref (He.ma K (He.ga K "InvalidSites") "__init__")))
  t_InvalidSites : PySem.W.typeIn K (.ref (He.ma K (He.ga K "InvalidSites") "__init__")) = some (.type "function")
  X_InvalidSites : OexA K (He.ga K "InvalidSites")
  C_InvalidSites : ExcC K (He.ga K "InvalidSites")
  k_InvalidSites : PySem.W.kitOne K (.ref (He.ga K "InvalidSites")) (.ref (He.ga K "CellError")) = some true
  n_InvalidSites_at : PySem.W.findIn K (.ref (He.ga K "InvalidSites")) "at" = some none
  fd_InvalidTriangles_init : FuncData
  F_InvalidTriangles_init : FunD K "__init__" "InvalidTriangles.__init__" (defArgs (ini 3)) (defBody (ini 3)) (defScope (ini 3)) [] [] (He.ma K (He.ga K "InvalidTriangles") "__init__") fd_InvalidTriangles_init
  g_InvalidTriangles : mg "InvalidTriangles" = some (.ref (He.ga K "InvalidTriangles"))
  i_InvalidTriangles : PySem.W.findIn K (.ref (He.ga K "InvalidTriangles")) "__init__" = some (some (.ref (He.ma K (He.ga K "InvalidTriangles") "__init__")))
  t_InvalidTriangles : PySem.W.typeIn K (.ref (He.ma K (He.ga K "InvalidTriangles") "__init__")) = some (.type "function")
  X_InvalidTriangles : OexA K (He.ga K "InvalidTriangles")
  C_InvalidTriangles : ExcC K (He.ga K "InvalidTriangles")
  k_InvalidTriangles : PySem.W.kitOne K (.ref (He.ga K "InvalidTriangles")) (.ref (He.ga K "CellError")) = some true
  n_InvalidTriangles_at : PySem.W.findIn K (.ref (He.ga K "InvalidTriangles")) "at" = some none
  fd_InvalidBound_init : FuncData
  F_InvalidBound_init : FunD K "__init__" "InvalidBound.__init__" (defArgs (ini 4)) (defBody (ini 4)) (defScope (ini 4)) [] [] (He.ma K (He.ga K "InvalidBound") "__init__") fd_InvalidBound_init
  g_InvalidBound : mg "InvalidBound" = some (.ref (He.ga K "InvalidBound"))
  i_InvalidBound : PySem.W.findIn K (.ref (He.ga K "InvalidBound")) "__init__" = some (some (.ref (He.ma K (He.ga K "InvalidBound") "__init__")))
  t_InvalidBound : PySem.W.typeIn K (.ref (He.ma K (He.ga K "InvalidBound") "__init__")) = some (.type "function")
  X_InvalidBound : OexA K (He.ga K "InvalidBound")
  C_InvalidBound : ExcC K (He.ga K "InvalidBound")
  k_InvalidBound : PySem.W.kitOne K (.ref (He.ga K "InvalidBound")) (.ref (He.ga K "CellError")) = some true
  n_InvalidBound_argument : PySem.W.findIn K (.ref (He.ga K "InvalidBound")) "argument" = some none
  fd_InvalidCall_init : FuncData
  F_InvalidCall_init : FunD K "__init__" "InvalidCall.__init__" (defArgs (ini 5)) (defBody (ini 5)) (defScope (ini 5)) [] [] (He.ma K (He.ga K "InvalidCall") "__init__") fd_InvalidCall_init
  g_InvalidCall : mg "InvalidCall" = some (.ref (He.ga K "InvalidCall"))
  i_InvalidCall : PySem.W.findIn K (.ref (He.ga K "InvalidCall")) "__init__" = some (some (.ref (He.ma K (He.ga K "InvalidCall") "__init__")))
  t_InvalidCall : PySem.W.typeIn K (.ref (He.ma K (He.ga K "InvalidCall") "__init__")) = some (.type "function")
  X_InvalidCall : OexA K (He.ga K "InvalidCall")
  C_InvalidCall : ExcC K (He.ga K "InvalidCall")
  k_InvalidCall : PySem.W.kitOne K (.ref (He.ga K "InvalidCall")) (.ref (He.ga K "CellError")) = some true
  n_InvalidCall_call : PySem.W.findIn K (.ref (He.ga K "InvalidCall")) "call" = some none
  fd_NoCircle_init : FuncData
  F_NoCircle_init : FunD K "__init__" "NoCircle.__init__" (defArgs (ini 6)) (defBody (ini 6)) (defScope (ini 6)) [] [] (He.ma K (He.ga K "NoCircle") "__init__") fd_NoCircle_init
  g_NoCircle : mg "NoCircle" = some (.ref (He.ga K "NoCircle"))
  i_NoCircle : PySem.W.findIn K (.ref (He.ga K "NoCircle")) "__init__" = some (some (.ref (He.ma K (He.ga K "NoCircle") "__init__")))
  t_NoCircle : PySem.W.typeIn K (.ref (He.ma K (He.ga K "NoCircle") "__init__")) = some (.type "function")
  X_NoCircle : OexA K (He.ga K "NoCircle")
  C_NoCircle : ExcC K (He.ga K "NoCircle")
  k_NoCircle : PySem.W.kitOne K (.ref (He.ga K "NoCircle")) (.ref (He.ga K "CellError")) = some true
  fd_LimitExceeded_init : FuncData
  F_LimitExceeded_init : FunD K "__init__" "LimitExceeded.__init__" (defArgs (ini 7)) (defBody (ini 7)) (defScope (ini 7)) [] [] (He.ma K (He.ga K "LimitExceeded") "__init__") fd_LimitExceeded_init
  g_LimitExceeded : mg "LimitExceeded" = some (.ref (He.ga K "LimitExceeded"))
  i_LimitExceeded : PySem.W.findIn K (.ref (He.ga K "LimitExceeded")) "__init__" = some (some (.ref (He.ma K (He.ga K "LimitExceeded") "__init__")))
  t_LimitExceeded : PySem.W.typeIn K (.ref (He.ma K (He.ga K "LimitExceeded") "__init__")) = some (.type "function")
  X_LimitExceeded : OexA K (He.ga K "LimitExceeded")
  C_LimitExceeded : ExcC K (He.ga K "LimitExceeded")
  k_LimitExceeded : PySem.W.kitOne K (.ref (He.ga K "LimitExceeded")) (.ref (He.ga K "CellError")) = some true
  n_LimitExceeded_limit : PySem.W.findIn K (.ref (He.ga K "LimitExceeded")) "limit" = some none
  t_law_sites_right_law_places_right : (He.cT K ("_law_sites_right", none)).2 ≠ (He.cT K ("_law_places_right", none)).2
  kt_InvalidSites_InvalidSites : PySem.W.kitOne K (.ref (He.ga K "InvalidSites")) (.ref (He.ga K "InvalidSites")) = some true
  kt_InvalidSites_InvalidTriangles : PySem.W.kitOne K (.ref (He.ga K "InvalidSites")) (.ref (He.ga K "InvalidTriangles")) = some false
  kt_InvalidSites_InvalidBound : PySem.W.kitOne K (.ref (He.ga K "InvalidSites")) (.ref (He.ga K "InvalidBound")) = some false
  kt_InvalidSites_InvalidCall : PySem.W.kitOne K (.ref (He.ga K "InvalidSites")) (.ref (He.ga K "InvalidCall")) = some false
  kt_InvalidSites_NoCircle : PySem.W.kitOne K (.ref (He.ga K "InvalidSites")) (.ref (He.ga K "NoCircle")) = some false
  kt_InvalidSites_LimitExceeded : PySem.W.kitOne K (.ref (He.ga K "InvalidSites")) (.ref (He.ga K "LimitExceeded")) = some false
  kt_InvalidTriangles_InvalidSites : PySem.W.kitOne K (.ref (He.ga K "InvalidTriangles")) (.ref (He.ga K "InvalidSites")) = some false
  kt_InvalidTriangles_InvalidTriangles : PySem.W.kitOne K (.ref (He.ga K "InvalidTriangles")) (.ref (He.ga K "InvalidTriangles")) = some true
  kt_InvalidTriangles_InvalidBound : PySem.W.kitOne K (.ref (He.ga K "InvalidTriangles")) (.ref (He.ga K "InvalidBound")) = some false
  kt_InvalidTriangles_InvalidCall : PySem.W.kitOne K (.ref (He.ga K "InvalidTriangles")) (.ref (He.ga K "InvalidCall")) = some false
  kt_InvalidTriangles_NoCircle : PySem.W.kitOne K (.ref (He.ga K "InvalidTriangles")) (.ref (He.ga K "NoCircle")) = some false
  kt_InvalidTriangles_LimitExceeded : PySem.W.kitOne K (.ref (He.ga K "InvalidTriangles")) (.ref (He.ga K "LimitExceeded")) = some false
  kt_InvalidBound_InvalidSites : PySem.W.kitOne K (.ref (He.ga K "InvalidBound")) (.ref (He.ga K "InvalidSites")) = some false
  kt_InvalidBound_InvalidTriangles : PySem.W.kitOne K (.ref (He.ga K "InvalidBound")) (.ref (He.ga K "InvalidTriangles")) = some false
  kt_InvalidBound_InvalidBound : PySem.W.kitOne K (.ref (He.ga K "InvalidBound")) (.ref (He.ga K "InvalidBound")) = some true
  kt_InvalidBound_InvalidCall : PySem.W.kitOne K (.ref (He.ga K "InvalidBound")) (.ref (He.ga K "InvalidCall")) = some false
  kt_InvalidBound_NoCircle : PySem.W.kitOne K (.ref (He.ga K "InvalidBound")) (.ref (He.ga K "NoCircle")) = some false
  kt_InvalidBound_LimitExceeded : PySem.W.kitOne K (.ref (He.ga K "InvalidBound")) (.ref (He.ga K "LimitExceeded")) = some false
  kt_InvalidCall_InvalidSites : PySem.W.kitOne K (.ref (He.ga K "InvalidCall")) (.ref (He.ga K "InvalidSites")) = some false
  kt_InvalidCall_InvalidTriangles : PySem.W.kitOne K (.ref (He.ga K "InvalidCall")) (.ref (He.ga K "InvalidTriangles")) = some false
  kt_InvalidCall_InvalidBound : PySem.W.kitOne K (.ref (He.ga K "InvalidCall")) (.ref (He.ga K "InvalidBound")) = some false
  kt_InvalidCall_InvalidCall : PySem.W.kitOne K (.ref (He.ga K "InvalidCall")) (.ref (He.ga K "InvalidCall")) = some true
  kt_InvalidCall_NoCircle : PySem.W.kitOne K (.ref (He.ga K "InvalidCall")) (.ref (He.ga K "NoCircle")) = some false
  kt_InvalidCall_LimitExceeded : PySem.W.kitOne K (.ref (He.ga K "InvalidCall")) (.ref (He.ga K "LimitExceeded")) = some false
  kt_NoCircle_InvalidSites : PySem.W.kitOne K (.ref (He.ga K "NoCircle")) (.ref (He.ga K "InvalidSites")) = some false
  kt_NoCircle_InvalidTriangles : PySem.W.kitOne K (.ref (He.ga K "NoCircle")) (.ref (He.ga K "InvalidTriangles")) = some false
  kt_NoCircle_InvalidBound : PySem.W.kitOne K (.ref (He.ga K "NoCircle")) (.ref (He.ga K "InvalidBound")) = some false
  kt_NoCircle_InvalidCall : PySem.W.kitOne K (.ref (He.ga K "NoCircle")) (.ref (He.ga K "InvalidCall")) = some false
  kt_NoCircle_NoCircle : PySem.W.kitOne K (.ref (He.ga K "NoCircle")) (.ref (He.ga K "NoCircle")) = some true
  kt_NoCircle_LimitExceeded : PySem.W.kitOne K (.ref (He.ga K "NoCircle")) (.ref (He.ga K "LimitExceeded")) = some false
  kt_LimitExceeded_InvalidSites : PySem.W.kitOne K (.ref (He.ga K "LimitExceeded")) (.ref (He.ga K "InvalidSites")) = some false
  kt_LimitExceeded_InvalidTriangles : PySem.W.kitOne K (.ref (He.ga K "LimitExceeded")) (.ref (He.ga K "InvalidTriangles")) = some false
  kt_LimitExceeded_InvalidBound : PySem.W.kitOne K (.ref (He.ga K "LimitExceeded")) (.ref (He.ga K "InvalidBound")) = some false
  kt_LimitExceeded_InvalidCall : PySem.W.kitOne K (.ref (He.ga K "LimitExceeded")) (.ref (He.ga K "InvalidCall")) = some false
  kt_LimitExceeded_NoCircle : PySem.W.kitOne K (.ref (He.ga K "LimitExceeded")) (.ref (He.ga K "NoCircle")) = some false
  kt_LimitExceeded_LimitExceeded : PySem.W.kitOne K (.ref (He.ga K "LimitExceeded")) (.ref (He.ga K "LimitExceeded")) = some true
  kt_InvalidSites_ArithmeticError : PySem.W.kitOne K (.ref (He.ga K "InvalidSites")) (.type "ArithmeticError") = some true
  kt_InvalidTriangles_ArithmeticError : PySem.W.kitOne K (.ref (He.ga K "InvalidTriangles")) (.type "ArithmeticError") = some true
  kt_InvalidBound_ArithmeticError : PySem.W.kitOne K (.ref (He.ga K "InvalidBound")) (.type "ArithmeticError") = some true
  kt_InvalidCall_ArithmeticError : PySem.W.kitOne K (.ref (He.ga K "InvalidCall")) (.type "ArithmeticError") = some true
  kt_NoCircle_ArithmeticError : PySem.W.kitOne K (.ref (He.ga K "NoCircle")) (.type "ArithmeticError") = some true
  kt_LimitExceeded_ArithmeticError : PySem.W.kitOne K (.ref (He.ga K "LimitExceeded")) (.type "ArithmeticError") = some true
  e_InvalidBound_InvalidBound : PySem.W.exmOne K (.ref (He.ga K "InvalidBound")) (.ref (He.ga K "InvalidBound")) = some true
  e_NoCircle_InvalidBound : PySem.W.exmOne K (.ref (He.ga K "NoCircle")) (.ref (He.ga K "InvalidBound")) = some false
  e_NoCircle_NoCircle : PySem.W.exmOne K (.ref (He.ga K "NoCircle")) (.ref (He.ga K "NoCircle")) = some true
abbrev exF : PySem.W.Frag → Bool := fun K => baseAB K (He.ga K "CellError") && (oexAB K (He.ga K "InvalidSites") && (oexAB K (He.ga K "InvalidTriangles") && (oexAB K (He.ga K "InvalidBound") && (oexAB K (He.ga K "InvalidCall") && (oexAB K (He.ga K "NoCircle") && (oexAB K (He.ga K "LimitExceeded") && (excCB K (He.ga K "InvalidSites") && (excCB K (He.ga K "InvalidTriangles") && (excCB K (He.ga K "InvalidBound") && (excCB K (He.ga K "InvalidCall") && (excCB K (He.ga K "NoCircle") && (excCB K (He.ga K "LimitExceeded") && (kitEB K (He.ga K "InvalidSites") (He.ga K "CellError") true && (kitEB K (He.ga K "InvalidTriangles") (He.ga K "CellError") true && (kitEB K (He.ga K "InvalidBound") (He.ga K "CellError") true && (kitEB K (He.ga K "InvalidCall") (He.ga K "CellError") true && (kitEB K (He.ga K "NoCircle") (He.ga K "CellError") true && (kitEB K (He.ga K "LimitExceeded") (He.ga K "CellError") true && (decide ((He.cT K ("_law_sites_right", none)).2 ≠ (He.cT K ("_law_places_right", none)).2) && (kitEB K (He.ga K "InvalidSites") (He.ga K "InvalidSites") true && (kitEB K (He.ga K "InvalidSites") (He.ga K "InvalidTriangles") false && (kitEB K (He.ga K "InvalidSites") (He.ga K "InvalidBound") false && (kitEB K (He.ga K "InvalidSites") (He.ga K "InvalidCall") false && (kitEB K (He.ga K "InvalidSites") (He.ga K "NoCircle") false && (kitEB K (He.ga K "InvalidSites") (He.ga K "LimitExceeded") false && (kitEB K (He.ga K "InvalidTriangles") (He.ga K "InvalidSites") false && (kitEB K (He.ga K "InvalidTriangles") (He.ga K "InvalidTriangles") true && (kitEB K (He.ga K "InvalidTriangles") (He.ga K "InvalidBound") false && (kitEB K (He.ga K "InvalidTriangles") (He.ga K "InvalidCall") false && (kitEB K (He.ga K "InvalidTriangles") (He.ga K "NoCircle") false && (kitEB K (He.ga K "InvalidTriangles") (He.ga K "LimitExceeded") false && (kitEB K (He.ga K "InvalidBound") (He.ga K "InvalidSites") false && (kitEB K (He.ga K "InvalidBound") (He.ga K "InvalidTriangles") false && (kitEB K (He.ga K "InvalidBound") (He.ga K "InvalidBound") true && (kitEB K (He.ga K "InvalidBound") (He.ga K "InvalidCall") false && (kitEB K (He.ga K "InvalidBound") (He.ga K "NoCircle") false && (kitEB K (He.ga K "InvalidBound") (He.ga K "LimitExceeded") false && (kitEB K (He.ga K "InvalidCall") (He.ga K "InvalidSites") false && (kitEB K (He.ga K "InvalidCall") (He.ga K "InvalidTriangles") false && (kitEB K (He.ga K "InvalidCall") (He.ga K "InvalidBound") false && (kitEB K (He.ga K "InvalidCall") (He.ga K "InvalidCall") true && (kitEB K (He.ga K "InvalidCall") (He.ga K "NoCircle") false && (kitEB K (He.ga K "InvalidCall") (He.ga K "LimitExceeded") false && (kitEB K (He.ga K "NoCircle") (He.ga K "InvalidSites") false && (kitEB K (He.ga K "NoCircle") (He.ga K "InvalidTriangles") false && (kitEB K (He.ga K "NoCircle") (He.ga K "InvalidBound") false && (kitEB K (He.ga K "NoCircle") (He.ga K "InvalidCall") false && (kitEB K (He.ga K "NoCircle") (He.ga K "NoCircle") true && (kitEB K (He.ga K "NoCircle") (He.ga K "LimitExceeded") false && (kitEB K (He.ga K "LimitExceeded") (He.ga K "InvalidSites") false && (kitEB K (He.ga K "LimitExceeded") (He.ga K "InvalidTriangles") false && (kitEB K (He.ga K "LimitExceeded") (He.ga K "InvalidBound") false && (kitEB K (He.ga K "LimitExceeded") (He.ga K "InvalidCall") false && (kitEB K (He.ga K "LimitExceeded") (He.ga K "NoCircle") false && (kitEB K (He.ga K "LimitExceeded") (He.ga K "LimitExceeded") true && (NCKw.kitTB K (He.ga K "InvalidSites") "ArithmeticError" && (NCKw.kitTB K (He.ga K "InvalidTriangles") "ArithmeticError" && (NCKw.kitTB K (He.ga K "InvalidBound") "ArithmeticError" && (NCKw.kitTB K (He.ga K "InvalidCall") "ArithmeticError" && (NCKw.kitTB K (He.ga K "NoCircle") "ArithmeticError" && (NCKw.kitTB K (He.ga K "LimitExceeded") "ArithmeticError")))))))))))))))))))))))))))))))))))))))))))))))))))))))))))))
theorem tops {K : PySem.W.Frag} {h : Heap} {mg : Str → Option Value} (X : K.In h) (G : h.Ns mainGlobals mg) (c : He.SaysD fas fns K) (m : exF K = true) : Nonempty (Tops K mg) := by
  obtain ⟨fd0, F0⟩ := c.def_ 0 rfl
  obtain ⟨fd1, F1⟩ := c.def_ 1 rfl
  obtain ⟨fd2, F2⟩ := c.def_ 2 rfl
  obtain ⟨fd3, F3⟩ := c.def_ 3 rfl
  obtain ⟨fd4, F4⟩ := c.def_ 4 rfl
  obtain ⟨fd5, F5⟩ := c.def_ 5 rfl
  obtain ⟨fd6, F6⟩ := c.def_ 6 rfl
  obtain ⟨fd7, F7⟩ := c.def_ 7 rfl
  obtain ⟨fd8, F8⟩ := c.def_ 8 rfl
  obtain ⟨fd9, F9⟩ := c.def_ 9 rfl
  obtain ⟨fd10, F10⟩ := c.def_ 10 rfl
  obtain ⟨fd11, F11⟩ := c.def_ 11 rfl
  obtain ⟨fd12, F12⟩ := c.def_ 12 rfl
  obtain ⟨fd13, F13⟩ := c.def_ 13 rfl
  obtain ⟨fd14, F14⟩ := c.def_ 14 rfl
  obtain ⟨fd15, F15⟩ := c.def_ 15 rfl
  obtain ⟨fd16, F16⟩ := c.def_ 16 rfl
  obtain ⟨fd17, F17⟩ := c.def_ 17 rfl
  obtain ⟨fd18, F18⟩ := c.def_ 18 rfl
  obtain ⟨fd19, F19⟩ := c.def_ 19 rfl
  obtain ⟨fd20, F20⟩ := c.def_ 20 rfl
  obtain ⟨fd21, F21⟩ := c.def_ 21 rfl
  obtain ⟨fd22, F22⟩ := c.def_ 22 rfl
  obtain ⟨fd23, F23⟩ := c.def_ 23 rfl
  obtain ⟨fd24, F24⟩ := c.def_ 24 rfl
  obtain ⟨fd25, F25⟩ := c.def_ 25 rfl
  obtain ⟨fd26, F26⟩ := c.def_ 26 rfl
  obtain ⟨fd27, F27⟩ := c.def_ 27 rfl
  obtain ⟨fd28, F28⟩ := c.def_ 28 rfl
  obtain ⟨fd29, F29⟩ := c.def_ 29 rfl
  obtain ⟨fd30, F30⟩ := c.def_ 30 rfl
  obtain ⟨fd31, F31⟩ := c.def_ 31 rfl
  obtain ⟨fd32, F32⟩ := c.def_ 32 rfl
  obtain ⟨fd33, F33⟩ := c.def_ 33 rfl
  obtain ⟨fd34, F34⟩ := c.def_ 34 rfl
  obtain ⟨t0, c0⟩ := He.int_ok X G (c.fact 35 rfl)
  obtain ⟨t1, c1⟩ := He.int_ok X G (c.fact 36 rfl)
  obtain ⟨mB, m⟩ := Bool.and_eq_true_iff.mp m
  obtain ⟨mX0, m⟩ := Bool.and_eq_true_iff.mp m
  obtain ⟨mX1, m⟩ := Bool.and_eq_true_iff.mp m
  obtain ⟨mX2, m⟩ := Bool.and_eq_true_iff.mp m
  obtain ⟨mX3, m⟩ := Bool.and_eq_true_iff.mp m
  obtain ⟨mX4, m⟩ := Bool.and_eq_true_iff.mp m
  obtain ⟨mX5, m⟩ := Bool.and_eq_true_iff.mp m
  obtain ⟨mC0, m⟩ := Bool.and_eq_true_iff.mp m
  obtain ⟨mC1, m⟩ := Bool.and_eq_true_iff.mp m
  obtain ⟨mC2, m⟩ := Bool.and_eq_true_iff.mp m
  obtain ⟨mC3, m⟩ := Bool.and_eq_true_iff.mp m
  obtain ⟨mC4, m⟩ := Bool.and_eq_true_iff.mp m
  obtain ⟨mC5, m⟩ := Bool.and_eq_true_iff.mp m
  obtain ⟨mK0, m⟩ := Bool.and_eq_true_iff.mp m
  obtain ⟨mK1, m⟩ := Bool.and_eq_true_iff.mp m
  obtain ⟨mK2, m⟩ := Bool.and_eq_true_iff.mp m
  obtain ⟨mK3, m⟩ := Bool.and_eq_true_iff.mp m
  obtain ⟨mK4, m⟩ := Bool.and_eq_true_iff.mp m
  obtain ⟨mK5, m⟩ := Bool.and_eq_true_iff.mp m
  obtain ⟨mT0, m⟩ := Bool.and_eq_true_iff.mp m
  obtain ⟨mE0, m⟩ := Bool.and_eq_true_iff.mp m
  obtain ⟨mE1, m⟩ := Bool.and_eq_true_iff.mp m
  obtain ⟨mE2, m⟩ := Bool.and_eq_true_iff.mp m
  obtain ⟨mE3, m⟩ := Bool.and_eq_true_iff.mp m
  obtain ⟨mE4, m⟩ := Bool.and_eq_true_iff.mp m
  obtain ⟨mE5, m⟩ := Bool.and_eq_true_iff.mp m
  obtain ⟨mE6, m⟩ := Bool.and_eq_true_iff.mp m
  obtain ⟨mE7, m⟩ := Bool.and_eq_true_iff.mp m
  obtain ⟨mE8, m⟩ := Bool.and_eq_true_iff.mp m
  obtain ⟨mE9, m⟩ := Bool.and_eq_true_iff.mp m
  obtain ⟨mE10, m⟩ := Bool.and_eq_true_iff.mp m
  obtain ⟨mE11, m⟩ := Bool.and_eq_true_iff.mp m
  obtain ⟨mE12, m⟩ := Bool.and_eq_true_iff.mp m
  obtain ⟨mE13, m⟩ := Bool.and_eq_true_iff.mp m
  obtain ⟨mE14, m⟩ := Bool.and_eq_true_iff.mp m
  obtain ⟨mE15, m⟩ := Bool.and_eq_true_iff.mp m
  obtain ⟨mE16, m⟩ := Bool.and_eq_true_iff.mp m
  obtain ⟨mE17, m⟩ := Bool.and_eq_true_iff.mp m
  obtain ⟨mE18, m⟩ := Bool.and_eq_true_iff.mp m
  obtain ⟨mE19, m⟩ := Bool.and_eq_true_iff.mp m
  obtain ⟨mE20, m⟩ := Bool.and_eq_true_iff.mp m
  obtain ⟨mE21, m⟩ := Bool.and_eq_true_iff.mp m
  obtain ⟨mE22, m⟩ := Bool.and_eq_true_iff.mp m
  obtain ⟨mE23, m⟩ := Bool.and_eq_true_iff.mp m
  obtain ⟨mE24, m⟩ := Bool.and_eq_true_iff.mp m
  obtain ⟨mE25, m⟩ := Bool.and_eq_true_iff.mp m
  obtain ⟨mE26, m⟩ := Bool.and_eq_true_iff.mp m
  obtain ⟨mE27, m⟩ := Bool.and_eq_true_iff.mp m
  obtain ⟨mE28, m⟩ := Bool.and_eq_true_iff.mp m
  obtain ⟨mE29, m⟩ := Bool.and_eq_true_iff.mp m
  obtain ⟨mE30, m⟩ := Bool.and_eq_true_iff.mp m
  obtain ⟨mE31, m⟩ := Bool.and_eq_true_iff.mp m
  obtain ⟨mE32, m⟩ := Bool.and_eq_true_iff.mp m
  obtain ⟨mE33, m⟩ := Bool.and_eq_true_iff.mp m
  obtain ⟨mE34, m⟩ := Bool.and_eq_true_iff.mp m
  obtain ⟨mE35, m⟩ := Bool.and_eq_true_iff.mp m
  obtain ⟨mE36, m⟩ := Bool.and_eq_true_iff.mp m
  obtain ⟨mE37, m⟩ := Bool.and_eq_true_iff.mp m
  obtain ⟨mE38, m⟩ := Bool.and_eq_true_iff.mp m
  obtain ⟨mE39, m⟩ := Bool.and_eq_true_iff.mp m
  obtain ⟨mE40, m⟩ := Bool.and_eq_true_iff.mp m
  have mE41 := m
  obtain ⟨fdI0, FI0⟩ := c.def_ 35 rfl
  obtain ⟨ia0, ib0⟩ := Bool.and_eq_true_iff.mp (show ((He.Fa.meth "InvalidSites" "__init__").ok K = true) from c.fact 55 rfl)
  obtain ⟨fdI1, FI1⟩ := c.def_ 36 rfl
  obtain ⟨ia1, ib1⟩ := Bool.and_eq_true_iff.mp (show ((He.Fa.meth "InvalidTriangles" "__init__").ok K = true) from c.fact 56 rfl)
  obtain ⟨fdI2, FI2⟩ := c.def_ 37 rfl
  obtain ⟨ia2, ib2⟩ := Bool.and_eq_true_iff.mp (show ((He.Fa.meth "InvalidBound" "__init__").ok K = true) from c.fact 57 rfl)
  obtain ⟨fdI3, FI3⟩ := c.def_ 38 rfl
  obtain ⟨ia3, ib3⟩ := Bool.and_eq_true_iff.mp (show ((He.Fa.meth "InvalidCall" "__init__").ok K = true) from c.fact 58 rfl)
  obtain ⟨fdI4, FI4⟩ := c.def_ 39 rfl
  obtain ⟨ia4, ib4⟩ := Bool.and_eq_true_iff.mp (show ((He.Fa.meth "NoCircle" "__init__").ok K = true) from c.fact 59 rfl)
  obtain ⟨fdI5, FI5⟩ := c.def_ 40 rfl
  obtain ⟨ia5, ib5⟩ := Bool.and_eq_true_iff.mp (show ((He.Fa.meth "LimitExceeded" "__init__").ok K = true) from c.fact 60 rfl)
  exact ⟨{ fd_is_integer := fd0, F_is_integer := F0, g_is_integer := He.glo_ok X G (c.fact 0 rfl), fd_is_between_wholes := fd1, F_is_between_wholes := F1, g_is_between_wholes := He.glo_ok X G (c.fact 1 rfl), fd_common := fd2, F_common := F2, g_common := He.glo_ok X G (c.fact 2 rfl), fd_reduced := fd3, F_reduced := F3, g_reduced := He.glo_ok X G (c.fact 3 rfl), fd_sign := fd4, F_sign := F4, g_sign := He.glo_ok X G (c.fact 4 rfl), fd_is_site := fd5, F_is_site := F5, g_is_site := He.glo_ok X G (c.fact 5 rfl), fd_is_place := fd6, F_is_place := F6, g_is_place := He.glo_ok X G (c.fact 6 rfl), fd_check_site := fd7, F_check_site := F7, g_check_site := He.glo_ok X G (c.fact 7 rfl), fd_check_place := fd8, F_check_place := F8, g_check_place := He.glo_ok X G (c.fact 8 rfl), fd_place_of := fd9, F_place_of := F9, g_place_of := He.glo_ok X G (c.fact 9 rfl), fd_turn := fd10, F_turn := F10, g_turn := He.glo_ok X G (c.fact 10 rfl), fd_power := fd11, F_power := F11, g_power := He.glo_ok X G (c.fact 11 rfl), fd_inside := fd12, F_inside := F12, g_inside := He.glo_ok X G (c.fact 12 rfl), fd_on_stretch := fd13, F_on_stretch := F13, g_on_stretch := He.glo_ok X G (c.fact 13 rfl), fd_centre_of := fd14, F_centre_of := F14, g_centre_of := He.glo_ok X G (c.fact 14 rfl), fd_square_of := fd15, F_square_of := F15, g_square_of := He.glo_ok X G (c.fact 15 rfl), fd_lead := fd16, F_lead := F16, g_lead := He.glo_ok X G (c.fact 16 rfl), fd_side := fd17, F_side := F17, g_side := He.glo_ok X G (c.fact 17 rfl), fd_is_between_signs := fd18, F_is_between_signs := F18, g_is_between_signs := He.glo_ok X G (c.fact 18 rfl), fd_check_circle := fd19, F_check_circle := F19, g_check_circle := He.glo_ok X G (c.fact 19 rfl), fd_circle := fd20, F_circle := F20, g_circle := He.glo_ok X G (c.fact 20 rfl), fd_in_circle := fd21, F_in_circle := F21, g_in_circle := He.glo_ok X G (c.fact 21 rfl), fd_square := fd22, F_square := F22, g_square := He.glo_ok X G (c.fact 22 rfl), fd_nearer := fd23, F_nearer := F23, g_nearer := He.glo_ok X G (c.fact 23 rfl), fd_lift_side := fd24, F_lift_side := F24, g_lift_side := He.glo_ok X G (c.fact 24 rfl), fd_law_source_of := fd25, F_law_source_of := F25, g_law_source_of := He.glo_ok X G (c.fact 25 rfl), fd_law_next := fd26, F_law_next := F26, g_law_next := He.glo_ok X G (c.fact 26 rfl), fd_law_one := fd27, F_law_one := F27, g_law_one := He.glo_ok X G (c.fact 27 rfl), fd_law_cell_at := fd28, F_law_cell_at := F28, g_law_cell_at := He.glo_ok X G (c.fact 28 rfl), fd_law_raised := fd29, F_law_raised := F29, g_law_raised := He.glo_ok X G (c.fact 29 rfl), fd_law_all_raise := fd30, F_law_all_raise := F30, g_law_all_raise := He.glo_ok X G (c.fact 30 rfl), fd_law_sites_right := fd31, F_law_sites_right := F31, g_law_sites_right := He.glo_ok X G (c.fact 31 rfl), fd_law_places_right := fd32, F_law_places_right := F32, g_law_places_right := He.glo_ok X G (c.fact 32 rfl), fd_law_errors_right := fd33, F_law_errors_right := F33, g_law_errors_right := He.glo_ok X G (c.fact 33 rfl), fd_law := fd34, F_law := F34, g_law := He.glo_ok X G (c.fact 34 rfl), t_MOST_COORDINATE := t0, c_MOST_COORDINATE := c0, t_MOST_PLACE := t1, c_MOST_PLACE := c1, m_isinstance := He.free_ok X G (c.fact 37 rfl), m_int := He.free_ok X G (c.fact 38 rfl), m_bool := He.free_ok X G (c.fact 39 rfl), m_tuple := He.free_ok X G (c.fact 40 rfl), m_len := He.free_ok X G (c.fact 41 rfl), m_all := He.free_ok X G (c.fact 42 rfl), m_range := He.free_ok X G (c.fact 43 rfl), m_max := He.free_ok X G (c.fact 44 rfl), m_abs := He.free_ok X G (c.fact 45 rfl), m_enumerate := He.free_ok X G (c.fact 46 rfl), m_ArithmeticError := He.free_ok X G (c.fact 47 rfl), g_CellError := He.glo_ok X G (c.fact 48 rfl), B_CellError := baseAB_ok mB, fd_InvalidSites_init := fdI0, F_InvalidSites_init := FI0, g_InvalidSites := He.glo_ok X G (c.fact 49 rfl), i_InvalidSites := He.eqO_ok ia0, t_InvalidSites := beq_iff_eq.mp (Bool.and_eq_true_iff.mp ib0).1, X_InvalidSites := oexAB_ok mX0, C_InvalidSites := excCB_ok mC0, k_InvalidSites := kitEB_ok mK0, fd_InvalidTriangles_init := fdI1, F_InvalidTriangles_init := FI1, g_InvalidTriangles := He.glo_ok X G (c.fact 50 rfl), i_InvalidTriangles := He.eqO_ok ia1, t_InvalidTriangles := beq_iff_eq.mp (Bool.and_eq_true_iff.mp ib1).1, X_InvalidTriangles := oexAB_ok mX1, C_InvalidTriangles := excCB_ok mC1, k_InvalidTriangles := kitEB_ok mK1, fd_InvalidBound_init := fdI2, F_InvalidBound_init := FI2, g_InvalidBound := He.glo_ok X G (c.fact 51 rfl), i_InvalidBound := He.eqO_ok ia2, t_InvalidBound := beq_iff_eq.mp (Bool.and_eq_true_iff.mp ib2).1, X_InvalidBound := oexAB_ok mX2, C_InvalidBound := excCB_ok mC2, k_InvalidBound := kitEB_ok mK2, fd_InvalidCall_init := fdI3, F_InvalidCall_init := FI3, g_InvalidCall := He.glo_ok X G (c.fact 52 rfl), i_InvalidCall := He.eqO_ok ia3, t_InvalidCall := beq_iff_eq.mp (Bool.and_eq_true_iff.mp ib3).1, X_InvalidCall := oexAB_ok mX3, C_InvalidCall := excCB_ok mC3, k_InvalidCall := kitEB_ok mK3, fd_NoCircle_init := fdI4, F_NoCircle_init := FI4, g_NoCircle := He.glo_ok X G (c.fact 53 rfl), i_NoCircle := He.eqO_ok ia4, t_NoCircle := beq_iff_eq.mp (Bool.and_eq_true_iff.mp ib4).1, X_NoCircle := oexAB_ok mX4, C_NoCircle := excCB_ok mC4, k_NoCircle := kitEB_ok mK4, fd_LimitExceeded_init := fdI5, F_LimitExceeded_init := FI5, g_LimitExceeded := He.glo_ok X G (c.fact 54 rfl), i_LimitExceeded := He.eqO_ok ia5, t_LimitExceeded := beq_iff_eq.mp (Bool.and_eq_true_iff.mp ib5).1, X_LimitExceeded := oexAB_ok mX5, C_LimitExceeded := excCB_ok mC5, k_LimitExceeded := kitEB_ok mK5, n_InvalidSites_at := He.noat_ok (c.fact 61 rfl), n_InvalidTriangles_at := He.noat_ok (c.fact 62 rfl), n_InvalidBound_argument := He.noat_ok (c.fact 63 rfl), n_InvalidCall_call := He.noat_ok (c.fact 64 rfl), n_LimitExceeded_limit := He.noat_ok (c.fact 65 rfl), kt_InvalidSites_InvalidSites := kitEB_ok mE0, kt_InvalidSites_InvalidTriangles := kitEB_ok mE1, kt_InvalidSites_InvalidBound := kitEB_ok mE2, kt_InvalidSites_InvalidCall := kitEB_ok mE3, kt_InvalidSites_NoCircle := kitEB_ok mE4, kt_InvalidSites_LimitExceeded := kitEB_ok mE5, kt_InvalidTriangles_InvalidSites := kitEB_ok mE6, kt_InvalidTriangles_InvalidTriangles := kitEB_ok mE7, kt_InvalidTriangles_InvalidBound := kitEB_ok mE8, kt_InvalidTriangles_InvalidCall := kitEB_ok mE9, kt_InvalidTriangles_NoCircle := kitEB_ok mE10, kt_InvalidTriangles_LimitExceeded := kitEB_ok mE11, kt_InvalidBound_InvalidSites := kitEB_ok mE12, kt_InvalidBound_InvalidTriangles := kitEB_ok mE13, kt_InvalidBound_InvalidBound := kitEB_ok mE14, kt_InvalidBound_InvalidCall := kitEB_ok mE15, kt_InvalidBound_NoCircle := kitEB_ok mE16, kt_InvalidBound_LimitExceeded := kitEB_ok mE17, kt_InvalidCall_InvalidSites := kitEB_ok mE18, kt_InvalidCall_InvalidTriangles := kitEB_ok mE19, kt_InvalidCall_InvalidBound := kitEB_ok mE20, kt_InvalidCall_InvalidCall := kitEB_ok mE21, kt_InvalidCall_NoCircle := kitEB_ok mE22, kt_InvalidCall_LimitExceeded := kitEB_ok mE23, kt_NoCircle_InvalidSites := kitEB_ok mE24, kt_NoCircle_InvalidTriangles := kitEB_ok mE25, kt_NoCircle_InvalidBound := kitEB_ok mE26, kt_NoCircle_InvalidCall := kitEB_ok mE27, kt_NoCircle_NoCircle := kitEB_ok mE28, kt_NoCircle_LimitExceeded := kitEB_ok mE29, kt_LimitExceeded_InvalidSites := kitEB_ok mE30, kt_LimitExceeded_InvalidTriangles := kitEB_ok mE31, kt_LimitExceeded_InvalidBound := kitEB_ok mE32, kt_LimitExceeded_InvalidCall := kitEB_ok mE33, kt_LimitExceeded_NoCircle := kitEB_ok mE34, kt_LimitExceeded_LimitExceeded := kitEB_ok mE35, kt_InvalidSites_ArithmeticError := NCKw.kitTB_ok mE36, kt_InvalidTriangles_ArithmeticError := NCKw.kitTB_ok mE37, kt_InvalidBound_ArithmeticError := NCKw.kitTB_ok mE38, kt_InvalidCall_ArithmeticError := NCKw.kitTB_ok mE39, kt_NoCircle_ArithmeticError := NCKw.kitTB_ok mE40, kt_LimitExceeded_ArithmeticError := NCKw.kitTB_ok mE41, t_law_sites_right_law_places_right := of_decide_eq_true mT0, e_InvalidBound_InvalidBound := He.exm_ok (c.fact 66 rfl), e_NoCircle_InvalidBound := He.exm_ok (c.fact 67 rfl), e_NoCircle_NoCircle := He.exm_ok (c.fact 68 rfl) }⟩
abbrev R0 : PySem.W.OpenRow := PySem.W.OpenLaw.row PySem.Challenge.rw_nearcells_k04_what_signs_refuse
abbrev hk : PySem.W.Hook := NCHook.hook 4 fas fns [] [("_law_sites_right", none), ("_law_places_right", none)] exF
def ob (s : PySem.W.SharedT) : He.AlX := NCHook.ob 4 fas fns [] [("_law_sites_right", none), ("_law_places_right", none)] exF (HandSHeadRun.getT s)
theorem ob_eq (s : PySem.W.SharedT) : ob s = hk.obs s.abs := NCHook.ob_eq (HandSHeadRun.getT_eq s)
def loose0 : List PySem.Str := ["CellError", "InvalidSites", "InvalidTriangles", "InvalidBound", "InvalidCall", "NoCircle", "LimitExceeded", "is_integer", "is_between", "is_between_wholes", "common", "reduced", "sign", "MOST_COORDINATE", "MOST_PLACE", "is_site", "is_place", "check_site", "check_place", "place_of", "turn", "power", "inside", "on_stretch", "centre_of", "square_of", "lead", "side", "is_between_signs", "check_circle"]
def loose1 : List PySem.Str := ["circle", "in_circle", "square", "nearer", "lift_side", "_law_source_of", "_law_next", "_law_one", "_law_cell_at", "_law_raised", "_law_all_raise", "_law_sites_right", "_law_places_right", "_law_errors_right"]
abbrev loose : List PySem.Str := loose0 ++ loose1
theorem run (w : World) : HandSHeadRun.RunEq R0 (PySem.W.view R0.prog [50]) hk ob 4000 loose w := by
  intro os
  kernel_rfl
abbrev N_is_integer : List Str := ["value"]
abbrev P_is_integer : List Str := ["value"]
theorem sc_is_integer : FnScope N_is_integer P_is_integer (defScope (top 9)) := ⟨rfl, rfl, rfl, by decide +kernel, rfl, by decide +kernel, by decide +kernel⟩
theorem st_is_integer (x0 : V) : L2.start N_is_integer [x0] = [some x0] := rfl
theorem b_is_integer {K : PySem.W.Frag} {mg : Str → Option Value} (T : Tops K mg) : Binds K T.fd_is_integer P_is_integer [] := T.F_is_integer.bindsN fun _ _ _ _ _ _ us hl => match us, hl with | [_], _ => rfl
abbrev N_is_between_wholes : List Str := ["value", "low", "high"]
abbrev P_is_between_wholes : List Str := ["value", "low", "high"]
theorem sc_is_between_wholes : FnScope N_is_between_wholes P_is_between_wholes (defScope (top 10)) := ⟨rfl, rfl, rfl, by decide +kernel, rfl, by decide +kernel, by decide +kernel⟩
theorem st_is_between_wholes (x0 : V) (x1 : V) (x2 : V) : L2.start N_is_between_wholes [x0, x1, x2] = [some x0, some x1, some x2] := rfl
theorem b_is_between_wholes {K : PySem.W.Frag} {mg : Str → Option Value} (T : Tops K mg) : Binds K T.fd_is_between_wholes P_is_between_wholes [] := T.F_is_between_wholes.bindsN fun _ _ _ _ _ _ us hl => match us, hl with | [_, _, _], _ => rfl
abbrev N_common : List Str := ["a", "b"]
abbrev P_common : List Str := ["a", "b"]
theorem sc_common : FnScope N_common P_common (defScope (top 12)) := ⟨rfl, rfl, rfl, by decide +kernel, rfl, by decide +kernel, by decide +kernel⟩
theorem st_common (x0 : V) (x1 : V) : L2.start N_common [x0, x1] = [some x0, some x1] := rfl
theorem b_common {K : PySem.W.Frag} {mg : Str → Option Value} (T : Tops K mg) : Binds K T.fd_common P_common [] := T.F_common.bindsN fun _ _ _ _ _ _ us hl => match us, hl with | [_, _], _ => rfl
abbrev N_reduced : List Str := ["above", "below", "great"]
abbrev P_reduced : List Str := ["above", "below"]
theorem sc_reduced : FnScope N_reduced P_reduced (defScope (top 13)) := ⟨rfl, rfl, rfl, by decide +kernel, rfl, by decide +kernel, by decide +kernel⟩
theorem st_reduced (x0 : V) (x1 : V) : L2.start N_reduced [x0, x1] = [some x0, some x1, none] := rfl
theorem b_reduced {K : PySem.W.Frag} {mg : Str → Option Value} (T : Tops K mg) : Binds K T.fd_reduced P_reduced [] := T.F_reduced.bindsN fun _ _ _ _ _ _ us hl => match us, hl with | [_, _], _ => rfl
abbrev N_sign : List Str := ["value"]
abbrev P_sign : List Str := ["value"]
theorem sc_sign : FnScope N_sign P_sign (defScope (top 14)) := ⟨rfl, rfl, rfl, by decide +kernel, rfl, by decide +kernel, by decide +kernel⟩
theorem st_sign (x0 : V) : L2.start N_sign [x0] = [some x0] := rfl
theorem b_sign {K : PySem.W.Frag} {mg : Str → Option Value} (T : Tops K mg) : Binds K T.fd_sign P_sign [] := T.F_sign.bindsN fun _ _ _ _ _ _ us hl => match us, hl with | [_], _ => rfl
abbrev N_is_site : List Str := ["value", "one"]
abbrev P_is_site : List Str := ["value"]
theorem sc_is_site : FnScope N_is_site P_is_site (defScope (top 18)) := ⟨rfl, rfl, rfl, by decide +kernel, rfl, by decide +kernel, by decide +kernel⟩
theorem st_is_site (x0 : V) : L2.start N_is_site [x0] = [some x0, none] := rfl
theorem b_is_site {K : PySem.W.Frag} {mg : Str → Option Value} (T : Tops K mg) : Binds K T.fd_is_site P_is_site [] := T.F_is_site.bindsN fun _ _ _ _ _ _ us hl => match us, hl with | [_], _ => rfl
abbrev N_is_place : List Str := ["value", "x", "y", "d", "one"]
abbrev P_is_place : List Str := ["value"]
theorem sc_is_place : FnScope N_is_place P_is_place (defScope (top 19)) := ⟨rfl, rfl, rfl, by decide +kernel, rfl, by decide +kernel, by decide +kernel⟩
theorem st_is_place (x0 : V) : L2.start N_is_place [x0] = [some x0, none, none, none, none] := rfl
theorem b_is_place {K : PySem.W.Frag} {mg : Str → Option Value} (T : Tops K mg) : Binds K T.fd_is_place P_is_place [] := T.F_is_place.bindsN fun _ _ _ _ _ _ us hl => match us, hl with | [_], _ => rfl
abbrev N_check_site : List Str := ["argument", "value"]
abbrev P_check_site : List Str := ["argument", "value"]
theorem sc_check_site : FnScope N_check_site P_check_site (defScope (top 20)) := ⟨rfl, rfl, rfl, by decide +kernel, rfl, by decide +kernel, by decide +kernel⟩
theorem st_check_site (x0 : V) (x1 : V) : L2.start N_check_site [x0, x1] = [some x0, some x1] := rfl
theorem b_check_site {K : PySem.W.Frag} {mg : Str → Option Value} (T : Tops K mg) : Binds K T.fd_check_site P_check_site [] := T.F_check_site.bindsN fun _ _ _ _ _ _ us hl => match us, hl with | [_, _], _ => rfl
abbrev N_check_place : List Str := ["argument", "value"]
abbrev P_check_place : List Str := ["argument", "value"]
theorem sc_check_place : FnScope N_check_place P_check_place (defScope (top 21)) := ⟨rfl, rfl, rfl, by decide +kernel, rfl, by decide +kernel, by decide +kernel⟩
theorem st_check_place (x0 : V) (x1 : V) : L2.start N_check_place [x0, x1] = [some x0, some x1] := rfl
theorem b_check_place {K : PySem.W.Frag} {mg : Str → Option Value} (T : Tops K mg) : Binds K T.fd_check_place P_check_place [] := T.F_check_place.bindsN fun _ _ _ _ _ _ us hl => match us, hl with | [_, _], _ => rfl
abbrev N_place_of : List Str := ["x", "y", "d", "great"]
abbrev P_place_of : List Str := ["x", "y", "d"]
theorem sc_place_of : FnScope N_place_of P_place_of (defScope (top 22)) := ⟨rfl, rfl, rfl, by decide +kernel, rfl, by decide +kernel, by decide +kernel⟩
theorem st_place_of (x0 : V) (x1 : V) (x2 : V) : L2.start N_place_of [x0, x1, x2] = [some x0, some x1, some x2, none] := rfl
theorem b_place_of {K : PySem.W.Frag} {mg : Str → Option Value} (T : Tops K mg) : Binds K T.fd_place_of P_place_of [] := T.F_place_of.bindsN fun _ _ _ _ _ _ us hl => match us, hl with | [_, _, _], _ => rfl
abbrev N_turn : List Str := ["a", "b", "c"]
abbrev P_turn : List Str := ["a", "b", "c"]
theorem sc_turn : FnScope N_turn P_turn (defScope (top 24)) := ⟨rfl, rfl, rfl, by decide +kernel, rfl, by decide +kernel, by decide +kernel⟩
theorem st_turn (x0 : V) (x1 : V) (x2 : V) : L2.start N_turn [x0, x1, x2] = [some x0, some x1, some x2] := rfl
theorem b_turn {K : PySem.W.Frag} {mg : Str → Option Value} (T : Tops K mg) : Binds K T.fd_turn P_turn [] := T.F_turn.bindsN fun _ _ _ _ _ _ us hl => match us, hl with | [_, _, _], _ => rfl
abbrev N_power : List Str := ["a", "b", "c", "d", "rows", "ax", "ay", "bx", "by", "cx", "cy", "lifts", "one", "x", "y"]
abbrev P_power : List Str := ["a", "b", "c", "d"]
theorem sc_power : FnScope N_power P_power (defScope (top 25)) := ⟨rfl, rfl, rfl, by decide +kernel, rfl, by decide +kernel, by decide +kernel⟩
theorem st_power (x0 : V) (x1 : V) (x2 : V) (x3 : V) : L2.start N_power [x0, x1, x2, x3] = [some x0, some x1, some x2, some x3, none, none, none, none, none, none, none, none, none, none, none] := rfl
theorem b_power {K : PySem.W.Frag} {mg : Str → Option Value} (T : Tops K mg) : Binds K T.fd_power P_power [] := T.F_power.bindsN fun _ _ _ _ _ _ us hl => match us, hl with | [_, _, _, _], _ => rfl
abbrev N_inside : List Str := ["a", "b", "c", "d"]
abbrev P_inside : List Str := ["a", "b", "c", "d"]
theorem sc_inside : FnScope N_inside P_inside (defScope (top 26)) := ⟨rfl, rfl, rfl, by decide +kernel, rfl, by decide +kernel, by decide +kernel⟩
theorem st_inside (x0 : V) (x1 : V) (x2 : V) (x3 : V) : L2.start N_inside [x0, x1, x2, x3] = [some x0, some x1, some x2, some x3] := rfl
theorem b_inside {K : PySem.W.Frag} {mg : Str → Option Value} (T : Tops K mg) : Binds K T.fd_inside P_inside [] := T.F_inside.bindsN fun _ _ _ _ _ _ us hl => match us, hl with | [_, _, _, _], _ => rfl
abbrev N_on_stretch : List Str := ["a", "b", "c", "dots"]
abbrev P_on_stretch : List Str := ["a", "b", "c"]
theorem sc_on_stretch : FnScope N_on_stretch P_on_stretch (defScope (top 27)) := ⟨rfl, rfl, rfl, by decide +kernel, rfl, by decide +kernel, by decide +kernel⟩
theorem st_on_stretch (x0 : V) (x1 : V) (x2 : V) : L2.start N_on_stretch [x0, x1, x2] = [some x0, some x1, some x2, none] := rfl
theorem b_on_stretch {K : PySem.W.Frag} {mg : Str → Option Value} (T : Tops K mg) : Binds K T.fd_on_stretch P_on_stretch [] := T.F_on_stretch.bindsN fun _ _ _ _ _ _ us hl => match us, hl with | [_, _, _], _ => rfl
abbrev N_centre_of : List Str := ["a", "b", "c", "area", "bx", "by", "cx", "cy", "first", "second", "x", "y"]
abbrev P_centre_of : List Str := ["a", "b", "c"]
theorem sc_centre_of : FnScope N_centre_of P_centre_of (defScope (top 28)) := ⟨rfl, rfl, rfl, by decide +kernel, rfl, by decide +kernel, by decide +kernel⟩
theorem st_centre_of (x0 : V) (x1 : V) (x2 : V) : L2.start N_centre_of [x0, x1, x2] = [some x0, some x1, some x2, none, none, none, none, none, none, none, none, none] := rfl
theorem b_centre_of {K : PySem.W.Frag} {mg : Str → Option Value} (T : Tops K mg) : Binds K T.fd_centre_of P_centre_of [] := T.F_centre_of.bindsN fun _ _ _ _ _ _ us hl => match us, hl with | [_, _, _], _ => rfl
abbrev N_square_of : List Str := ["place", "site", "x", "y", "d", "u", "v"]
abbrev P_square_of : List Str := ["place", "site"]
theorem sc_square_of : FnScope N_square_of P_square_of (defScope (top 29)) := ⟨rfl, rfl, rfl, by decide +kernel, rfl, by decide +kernel, by decide +kernel⟩
theorem st_square_of (x0 : V) (x1 : V) : L2.start N_square_of [x0, x1] = [some x0, some x1, none, none, none, none, none] := rfl
theorem b_square_of {K : PySem.W.Frag} {mg : Str → Option Value} (T : Tops K mg) : Binds K T.fd_square_of P_square_of [] := T.F_square_of.bindsN fun _ _ _ _ _ _ us hl => match us, hl with | [_, _], _ => rfl
abbrev N_lead : List Str := ["place", "a", "b", "x", "y", "d", "one", "other"]
abbrev P_lead : List Str := ["place", "a", "b"]
theorem sc_lead : FnScope N_lead P_lead (defScope (top 30)) := ⟨rfl, rfl, rfl, by decide +kernel, rfl, by decide +kernel, by decide +kernel⟩
theorem st_lead (x0 : V) (x1 : V) (x2 : V) : L2.start N_lead [x0, x1, x2] = [some x0, some x1, some x2, none, none, none, none, none] := rfl
theorem b_lead {K : PySem.W.Frag} {mg : Str → Option Value} (T : Tops K mg) : Binds K T.fd_lead P_lead [] := T.F_lead.bindsN fun _ _ _ _ _ _ us hl => match us, hl with | [_, _, _], _ => rfl
abbrev N_side : List Str := ["a", "b", "c"]
abbrev P_side : List Str := ["a", "b", "c"]
theorem sc_side : FnScope N_side P_side (defScope (top 31)) := ⟨rfl, rfl, rfl, by decide +kernel, rfl, by decide +kernel, by decide +kernel⟩
theorem st_side (x0 : V) (x1 : V) (x2 : V) : L2.start N_side [x0, x1, x2] = [some x0, some x1, some x2] := rfl
theorem b_side {K : PySem.W.Frag} {mg : Str → Option Value} (T : Tops K mg) : Binds K T.fd_side P_side [] := T.F_side.bindsN fun _ _ _ _ _ _ us hl => match us, hl with | [_, _, _], _ => rfl
abbrev N_is_between_signs : List Str := ["a", "b", "c"]
abbrev P_is_between_signs : List Str := ["a", "b", "c"]
theorem sc_is_between_signs : FnScope N_is_between_signs P_is_between_signs (defScope (top 32)) := ⟨rfl, rfl, rfl, by decide +kernel, rfl, by decide +kernel, by decide +kernel⟩
theorem st_is_between_signs (x0 : V) (x1 : V) (x2 : V) : L2.start N_is_between_signs [x0, x1, x2] = [some x0, some x1, some x2] := rfl
theorem b_is_between_signs {K : PySem.W.Frag} {mg : Str → Option Value} (T : Tops K mg) : Binds K T.fd_is_between_signs P_is_between_signs [] := T.F_is_between_signs.bindsN fun _ _ _ _ _ _ us hl => match us, hl with | [_, _, _], _ => rfl
abbrev N_check_circle : List Str := ["a", "b", "c"]
abbrev P_check_circle : List Str := ["a", "b", "c"]
theorem sc_check_circle : FnScope N_check_circle P_check_circle (defScope (top 34)) := ⟨rfl, rfl, rfl, by decide +kernel, rfl, by decide +kernel, by decide +kernel⟩
theorem st_check_circle (x0 : V) (x1 : V) (x2 : V) : L2.start N_check_circle [x0, x1, x2] = [some x0, some x1, some x2] := rfl
theorem b_check_circle {K : PySem.W.Frag} {mg : Str → Option Value} (T : Tops K mg) : Binds K T.fd_check_circle P_check_circle [] := T.F_check_circle.bindsN fun _ _ _ _ _ _ us hl => match us, hl with | [_, _, _], _ => rfl
abbrev N_circle : List Str := ["a", "b", "c", "centre"]
abbrev P_circle : List Str := ["a", "b", "c"]
theorem sc_circle : FnScope N_circle P_circle (defScope (top 35)) := ⟨rfl, rfl, rfl, by decide +kernel, rfl, by decide +kernel, by decide +kernel⟩
theorem st_circle (x0 : V) (x1 : V) (x2 : V) : L2.start N_circle [x0, x1, x2] = [some x0, some x1, some x2, none] := rfl
theorem b_circle {K : PySem.W.Frag} {mg : Str → Option Value} (T : Tops K mg) : Binds K T.fd_circle P_circle [] := T.F_circle.bindsN fun _ _ _ _ _ _ us hl => match us, hl with | [_, _, _], _ => rfl
abbrev N_in_circle : List Str := ["a", "b", "c", "d"]
abbrev P_in_circle : List Str := ["a", "b", "c", "d"]
theorem sc_in_circle : FnScope N_in_circle P_in_circle (defScope (top 36)) := ⟨rfl, rfl, rfl, by decide +kernel, rfl, by decide +kernel, by decide +kernel⟩
theorem st_in_circle (x0 : V) (x1 : V) (x2 : V) (x3 : V) : L2.start N_in_circle [x0, x1, x2, x3] = [some x0, some x1, some x2, some x3] := rfl
theorem b_in_circle {K : PySem.W.Frag} {mg : Str → Option Value} (T : Tops K mg) : Binds K T.fd_in_circle P_in_circle [] := T.F_in_circle.bindsN fun _ _ _ _ _ _ us hl => match us, hl with | [_, _, _, _], _ => rfl
abbrev N_square : List Str := ["place", "site"]
abbrev P_square : List Str := ["place", "site"]
theorem sc_square : FnScope N_square P_square (defScope (top 37)) := ⟨rfl, rfl, rfl, by decide +kernel, rfl, by decide +kernel, by decide +kernel⟩
theorem st_square (x0 : V) (x1 : V) : L2.start N_square [x0, x1] = [some x0, some x1] := rfl
theorem b_square {K : PySem.W.Frag} {mg : Str → Option Value} (T : Tops K mg) : Binds K T.fd_square P_square [] := T.F_square.bindsN fun _ _ _ _ _ _ us hl => match us, hl with | [_, _], _ => rfl
abbrev N_nearer : List Str := ["place", "a", "b"]
abbrev P_nearer : List Str := ["place", "a", "b"]
theorem sc_nearer : FnScope N_nearer P_nearer (defScope (top 38)) := ⟨rfl, rfl, rfl, by decide +kernel, rfl, by decide +kernel, by decide +kernel⟩
theorem st_nearer (x0 : V) (x1 : V) (x2 : V) : L2.start N_nearer [x0, x1, x2] = [some x0, some x1, some x2] := rfl
theorem b_nearer {K : PySem.W.Frag} {mg : Str → Option Value} (T : Tops K mg) : Binds K T.fd_nearer P_nearer [] := T.F_nearer.bindsN fun _ _ _ _ _ _ us hl => match us, hl with | [_, _, _], _ => rfl
abbrev N_lift_side : List Str := ["a", "b", "c", "d"]
abbrev P_lift_side : List Str := ["a", "b", "c", "d"]
theorem sc_lift_side : FnScope N_lift_side P_lift_side (defScope (top 39)) := ⟨rfl, rfl, rfl, by decide +kernel, rfl, by decide +kernel, by decide +kernel⟩
theorem st_lift_side (x0 : V) (x1 : V) (x2 : V) (x3 : V) : L2.start N_lift_side [x0, x1, x2, x3] = [some x0, some x1, some x2, some x3] := rfl
theorem b_lift_side {K : PySem.W.Frag} {mg : Str → Option Value} (T : Tops K mg) : Binds K T.fd_lift_side P_lift_side [] := T.F_lift_side.bindsN fun _ _ _ _ _ _ us hl => match us, hl with | [_, _, _, _], _ => rfl
abbrev N_law_source_of : List Str := ["_law_number_here"]
abbrev P_law_source_of : List Str := ["_law_number_here"]
theorem sc_law_source_of : FnScope N_law_source_of P_law_source_of (defScope (top 41)) := ⟨rfl, rfl, rfl, by decide +kernel, rfl, by decide +kernel, by decide +kernel⟩
theorem st_law_source_of (x0 : V) : L2.start N_law_source_of [x0] = [some x0] := rfl
theorem b_law_source_of {K : PySem.W.Frag} {mg : Str → Option Value} (T : Tops K mg) : Binds K T.fd_law_source_of P_law_source_of [] := T.F_law_source_of.bindsN fun _ _ _ _ _ _ us hl => match us, hl with | [_], _ => rfl
abbrev N_law_next : List Str := ["_law_source", "_law_many", "_law_found", "_law_prime", "_law_number"]
abbrev P_law_next : List Str := ["_law_source", "_law_many"]
theorem sc_law_next : FnScope N_law_next P_law_next (defScope (top 42)) := ⟨rfl, rfl, rfl, by decide +kernel, rfl, by decide +kernel, by decide +kernel⟩
theorem st_law_next (x0 : V) (x1 : V) : L2.start N_law_next [x0, x1] = [some x0, some x1, none, none, none] := rfl
theorem b_law_next {K : PySem.W.Frag} {mg : Str → Option Value} (T : Tops K mg) : Binds K T.fd_law_next P_law_next [] := T.F_law_next.bindsN fun _ _ _ _ _ _ us hl => match us, hl with | [_, _], _ => rfl
abbrev N_law_one : List Str := ["_law_source", "_law_some"]
abbrev P_law_one : List Str := ["_law_source", "_law_some"]
theorem sc_law_one : FnScope N_law_one P_law_one (defScope (top 43)) := ⟨rfl, rfl, rfl, by decide +kernel, rfl, by decide +kernel, by decide +kernel⟩
theorem st_law_one (x0 : V) (x1 : V) : L2.start N_law_one [x0, x1] = [some x0, some x1] := rfl
theorem b_law_one {K : PySem.W.Frag} {mg : Str → Option Value} (T : Tops K mg) : Binds K T.fd_law_one P_law_one [] := T.F_law_one.bindsN fun _ _ _ _ _ _ us hl => match us, hl with | [_, _], _ => rfl
abbrev N_law_cell_at : List Str := ["_law_script", "_law_index"]
abbrev P_law_cell_at : List Str := ["_law_script", "_law_index"]
theorem sc_law_cell_at : FnScope N_law_cell_at P_law_cell_at (defScope (top 44)) := ⟨rfl, rfl, rfl, by decide +kernel, rfl, by decide +kernel, by decide +kernel⟩
theorem st_law_cell_at (x0 : V) (x1 : V) : L2.start N_law_cell_at [x0, x1] = [some x0, some x1] := rfl
theorem b_law_cell_at {K : PySem.W.Frag} {mg : Str → Option Value} (T : Tops K mg) : Binds K T.fd_law_cell_at P_law_cell_at [] := T.F_law_cell_at.bindsN fun _ _ _ _ _ _ us hl => match us, hl with | [_, _], _ => rfl
abbrev N_law_raised : List Str := ["_law_call_here", "_law_found", "_law_e"]
abbrev P_law_raised : List Str := ["_law_call_here"]
theorem sc_law_raised : FnScope N_law_raised P_law_raised (defScope (top 45)) := ⟨rfl, rfl, rfl, by decide +kernel, rfl, by decide +kernel, by decide +kernel⟩
theorem st_law_raised (x0 : V) : L2.start N_law_raised [x0] = [some x0, none, none] := rfl
theorem b_law_raised {K : PySem.W.Frag} {mg : Str → Option Value} (T : Tops K mg) : Binds K T.fd_law_raised P_law_raised [] := T.F_law_raised.bindsN fun _ _ _ _ _ _ us hl => match us, hl with | [_], _ => rfl
abbrev N_law_all_raise : List Str := ["_law_calls", "_law_due", "_law_call_here"]
abbrev P_law_all_raise : List Str := ["_law_calls", "_law_due"]
theorem sc_law_all_raise : FnScope N_law_all_raise P_law_all_raise (defScope (top 46)) := ⟨rfl, rfl, rfl, by decide +kernel, rfl, by decide +kernel, by decide +kernel⟩
theorem st_law_all_raise (x0 : V) (x1 : V) : L2.start N_law_all_raise [x0, x1] = [some x0, some x1, none] := rfl
theorem b_law_all_raise {K : PySem.W.Frag} {mg : Str → Option Value} (T : Tops K mg) : Binds K T.fd_law_all_raise P_law_all_raise [] := T.F_law_all_raise.bindsN fun _ _ _ _ _ _ us hl => match us, hl with | [_, _], _ => rfl
abbrev N_law_sites_right : List Str := ["_law_deep", "_law_odds", "_law_calls", "_law_a", "_law_b", "_law_c", "_law_odd"]
abbrev P_law_sites_right : List Str := ["_law_deep"]
theorem sc_law_sites_right : FnScope N_law_sites_right P_law_sites_right (defScope (top 47)) := ⟨rfl, rfl, rfl, by decide +kernel, rfl, by decide +kernel, by decide +kernel⟩
theorem st_law_sites_right (x0 : V) : L2.start N_law_sites_right [x0] = [some x0, none, none, none, none, none, none] := rfl
theorem b_law_sites_right {K : PySem.W.Frag} {mg : Str → Option Value} (T : Tops K mg) : Binds K T.fd_law_sites_right P_law_sites_right [] := T.F_law_sites_right.bindsN fun _ _ _ _ _ _ us hl => match us, hl with | [_], _ => rfl
abbrev N_law_places_right : List Str := ["_law_deep", "_law_odds", "_law_odd"]
abbrev P_law_places_right : List Str := ["_law_deep"]
theorem sc_law_places_right : FnScope N_law_places_right P_law_places_right (defScope (top 48)) := ⟨rfl, rfl, rfl, by decide +kernel, rfl, by decide +kernel, by decide +kernel⟩
theorem st_law_places_right (x0 : V) : L2.start N_law_places_right [x0] = [some x0, none, none] := rfl
theorem b_law_places_right {K : PySem.W.Frag} {mg : Str → Option Value} (T : Tops K mg) : Binds K T.fd_law_places_right P_law_places_right [] := T.F_law_places_right.bindsN fun _ _ _ _ _ _ us hl => match us, hl with | [_], _ => rfl
abbrev N_law_errors_right : List Str := ["_law_x", "_law_every", "_law_k", "_law_e", "_law_marks", "_law_j", "_law_mark"]
abbrev P_law_errors_right : List Str := ["_law_x"]
theorem sc_law_errors_right : FnScope N_law_errors_right P_law_errors_right (defScope (top 49)) := ⟨rfl, rfl, rfl, by decide +kernel, rfl, by decide +kernel, by decide +kernel⟩
theorem st_law_errors_right (x0 : V) : L2.start N_law_errors_right [x0] = [some x0, none, none, none, none, none, none] := rfl
theorem b_law_errors_right {K : PySem.W.Frag} {mg : Str → Option Value} (T : Tops K mg) : Binds K T.fd_law_errors_right P_law_errors_right [] := T.F_law_errors_right.bindsN fun _ _ _ _ _ _ us hl => match us, hl with | [_], _ => rfl
abbrev N_law : List Str := ["_law_script", "_law_deep", "_law_k", "_law_number_here", "_law_no", "_law_one_here"]
abbrev P_law : List Str := ["_law_script"]
theorem sc_law : FnScope N_law P_law (defScope (top 50)) := ⟨rfl, rfl, rfl, by decide +kernel, rfl, by decide +kernel, by decide +kernel⟩
theorem st_law (x0 : V) : L2.start N_law [x0] = [some x0, none, none, none, none, none] := rfl
theorem b_law {K : PySem.W.Frag} {mg : Str → Option Value} (T : Tops K mg) : Binds K T.fd_law P_law [] := T.F_law.bindsN fun _ _ _ _ _ _ us hl => match us, hl with | [_], _ => rfl
abbrev N_InvalidSites_init : List Str := ["self", "at"]
abbrev P_InvalidSites_init : List Str := ["self", "at"]
theorem sc_InvalidSites_init : FnScope N_InvalidSites_init P_InvalidSites_init (defScope (ini 2)) := ⟨rfl, rfl, rfl, by decide +kernel, rfl, by decide +kernel, by decide +kernel⟩
theorem st_InvalidSites_init (x0 : V) (x1 : V) : L2.start N_InvalidSites_init [x0, x1] = [some x0, some x1] := rfl
theorem b_InvalidSites_init {K : PySem.W.Frag} {mg : Str → Option Value} (T : Tops K mg) : Binds K T.fd_InvalidSites_init P_InvalidSites_init [] := T.F_InvalidSites_init.bindsN fun _ _ _ _ _ _ us hl => match us, hl with | [_, _], _ => rfl
abbrev N_InvalidTriangles_init : List Str := ["self", "at"]
abbrev P_InvalidTriangles_init : List Str := ["self", "at"]
theorem sc_InvalidTriangles_init : FnScope N_InvalidTriangles_init P_InvalidTriangles_init (defScope (ini 3)) := ⟨rfl, rfl, rfl, by decide +kernel, rfl, by decide +kernel, by decide +kernel⟩
theorem st_InvalidTriangles_init (x0 : V) (x1 : V) : L2.start N_InvalidTriangles_init [x0, x1] = [some x0, some x1] := rfl
theorem b_InvalidTriangles_init {K : PySem.W.Frag} {mg : Str → Option Value} (T : Tops K mg) : Binds K T.fd_InvalidTriangles_init P_InvalidTriangles_init [] := T.F_InvalidTriangles_init.bindsN fun _ _ _ _ _ _ us hl => match us, hl with | [_, _], _ => rfl
abbrev N_InvalidBound_init : List Str := ["self", "argument"]
abbrev P_InvalidBound_init : List Str := ["self", "argument"]
theorem sc_InvalidBound_init : FnScope N_InvalidBound_init P_InvalidBound_init (defScope (ini 4)) := ⟨rfl, rfl, rfl, by decide +kernel, rfl, by decide +kernel, by decide +kernel⟩
theorem st_InvalidBound_init (x0 : V) (x1 : V) : L2.start N_InvalidBound_init [x0, x1] = [some x0, some x1] := rfl
theorem b_InvalidBound_init {K : PySem.W.Frag} {mg : Str → Option Value} (T : Tops K mg) : Binds K T.fd_InvalidBound_init P_InvalidBound_init [] := T.F_InvalidBound_init.bindsN fun _ _ _ _ _ _ us hl => match us, hl with | [_, _], _ => rfl
abbrev N_InvalidCall_init : List Str := ["self", "call"]
abbrev P_InvalidCall_init : List Str := ["self", "call"]
theorem sc_InvalidCall_init : FnScope N_InvalidCall_init P_InvalidCall_init (defScope (ini 5)) := ⟨rfl, rfl, rfl, by decide +kernel, rfl, by decide +kernel, by decide +kernel⟩
theorem st_InvalidCall_init (x0 : V) (x1 : V) : L2.start N_InvalidCall_init [x0, x1] = [some x0, some x1] := rfl
theorem b_InvalidCall_init {K : PySem.W.Frag} {mg : Str → Option Value} (T : Tops K mg) : Binds K T.fd_InvalidCall_init P_InvalidCall_init [] := T.F_InvalidCall_init.bindsN fun _ _ _ _ _ _ us hl => match us, hl with | [_, _], _ => rfl
abbrev N_NoCircle_init : List Str := ["self"]
abbrev P_NoCircle_init : List Str := ["self"]
theorem sc_NoCircle_init : FnScope N_NoCircle_init P_NoCircle_init (defScope (ini 6)) := ⟨rfl, rfl, rfl, by decide +kernel, rfl, by decide +kernel, by decide +kernel⟩
theorem st_NoCircle_init (x0 : V) : L2.start N_NoCircle_init [x0] = [some x0] := rfl
theorem b_NoCircle_init {K : PySem.W.Frag} {mg : Str → Option Value} (T : Tops K mg) : Binds K T.fd_NoCircle_init P_NoCircle_init [] := T.F_NoCircle_init.bindsN fun _ _ _ _ _ _ us hl => match us, hl with | [_], _ => rfl
abbrev N_LimitExceeded_init : List Str := ["self", "limit"]
abbrev P_LimitExceeded_init : List Str := ["self", "limit"]
theorem sc_LimitExceeded_init : FnScope N_LimitExceeded_init P_LimitExceeded_init (defScope (ini 7)) := ⟨rfl, rfl, rfl, by decide +kernel, rfl, by decide +kernel, by decide +kernel⟩
theorem st_LimitExceeded_init (x0 : V) (x1 : V) : L2.start N_LimitExceeded_init [x0, x1] = [some x0, some x1] := rfl
theorem b_LimitExceeded_init {K : PySem.W.Frag} {mg : Str → Option Value} (T : Tops K mg) : Binds K T.fd_LimitExceeded_init P_LimitExceeded_init [] := T.F_LimitExceeded_init.bindsN fun _ _ _ _ _ _ us hl => match us, hl with | [_, _], _ => rfl
theorem kb_is_integer_value {K : PySem.W.Frag} {mg : Str → Option Value} (T : Tops K mg) : KBn K T.fd_is_integer P_is_integer 0 ["value"] (fun us ws => permL [0] (us ++ ws)) (fun us ws => permL [0] (us ++ ws)) := T.F_is_integer.kbnP 0 _ _ fun _ _ _ _ _ _ us ws h1 h2 => match us, h1, ws, h2 with | [], _, [_], _ => rfl

end NC
namespace NC
section
variable {P : Program} {w : World} {K : PySem.W.Frag} {mg : Str → Option Value} {base : Heap}

def Bd (x : Int) : Prop := -1000000 ≤ x ∧ x ≤ 1000000
def sgn (i : Int) : Int := (if 0 < i then 1 else 0) - (if i < 0 then 1 else 0)
def turnZ (ax ay bx by_ cx cy : Int) : Int := (bx - ax) * (cy - ay) - (by_ - ay) * (cx - ax)
theorem sgn_pos {i : Int} (h : 0 < i) : sgn i = 1 := by unfold sgn; rw [if_pos h, if_neg (by omega)]; rfl
theorem sgn_neg {i : Int} (h : i < 0) : sgn i = -1 := by unfold sgn; rw [if_neg (by omega), if_pos h]; rfl
theorem sgn_zero {i : Int} (h : i = 0) : sgn i = 0 := by unfold sgn; rw [if_neg (by omega), if_neg (by omega)]; rfl
theorem sgn_negate (i : Int) : sgn (-i) = 0 - sgn i := by
  rcases (show i < 0 ∨ i = 0 ∨ 0 < i by omega) with h | h | h
  · rw [sgn_neg h, sgn_pos (by omega)]; rfl
  · rw [sgn_zero h, sgn_zero (by omega)]; rfl
  · rw [sgn_pos h, sgn_neg (by omega)]; rfl
/-- three sites a, b, c -/
structure S3 (H : Hp) (pa pb pc : Addr) (ax ay bx by_ cx cy : Int) : Prop where
  a : H pa = some (.tup [.int ax, .int ay])
  b : H pb = some (.tup [.int bx, .int by_])
  c : H pc = some (.tup [.int cx, .int cy])
  bd : (Bd ax ∧ Bd ay) ∧ (Bd bx ∧ Bd by_) ∧ (Bd cx ∧ Bd cy)
theorem S3.mono {H H' : Hp} {pa pb pc : Addr} {ax ay bx by_ cx cy : Int} (k : TK H H') (h : S3 H pa pb pc ax ay bx by_ cx cy) : S3 H' pa pb pc ax ay bx by_ cx cy := ⟨k _ _ h.a, k _ _ h.b, k _ _ h.c, h.bd⟩

def RB (K : PySem.W.Frag) (w : Str) (H : Hp) (E : XK) : Prop := NCLam.Rz (He.ga K "InvalidBound") "argument" (.str w) H E
def RN (K : PySem.W.Frag) (H : Hp) (E : XK) : Prop := ∀ H', Same H H' → E (.ref (He.ga K "NoCircle")) none H'
theorem RN.mono {H H1 : Hp} {E : XK} (h : RN K H E) (s : Same H H1) : RN K H1 E := fun H' k => h H' (s.trans k)
theorem del_new {H : Hp} {a : Addr} {o : HO} (h : H a = none) : del (upd H a o) a = H := by
  funext b
  by_cases e : b = a
  · rw [e, del_same, h]
  · rw [del_ne e, upd_ne e]
/-- no integer -/
def NI (H : Hp) (v : V) : Prop := v = .non ∨ (∃ z, v = .str z) ∨ (∃ b, v = .bl b) ∨ ∃ p, v = .ref p ∧ ((∃ xs, H p = some (.lst xs)) ∨ (∃ xs, H p = some (.tup xs)) ∨ ∃ kvs, H p = some (.dT kvs))
theorem NI.ext {H H' : Hp} {v : V} (h : NI H v) (e : LamX.ExtN H H') : NI H' v := by
  rcases h with h | h | h | ⟨p, rfl, h⟩
  · exact .inl h
  · exact .inr (.inl h)
  · exact .inr (.inr (.inl h))
  · refine .inr (.inr (.inr ⟨p, rfl, ?_⟩))
    rcases h with ⟨xs, h⟩ | ⟨xs, h⟩ | ⟨xs, h⟩
    · exact .inl ⟨xs, e _ _ h (fun _ z => by cases z)⟩
    · exact .inr (.inl ⟨xs, e _ _ h (fun _ z => by cases z)⟩)
    · exact .inr (.inr ⟨xs, e _ _ h (fun _ z => by cases z)⟩)
/-- what is_between tells of v -/
def BetV (H : Hp) (lo hi : Int) (v : V) (b : Bool) : Prop := (∃ i : Int, v = .int i ∧ b = (decide (lo ≤ i) && decide (i ≤ hi))) ∨ (NI H v ∧ b = false)
theorem BetV.ext {H H' : Hp} {lo hi : Int} {v : V} {b : Bool} (h : BetV H lo hi v b) (e : LamX.ExtN H H') : BetV H' lo hi v b := h.imp id fun ⟨a, c⟩ => ⟨a.ext e, c⟩
theorem BetV.good {H : Hp} {lo hi : Int} {v : V} (h : BetV H lo hi v true) : ∃ i : Int, v = .int i ∧ lo ≤ i ∧ i ≤ hi := by
  rcases h with ⟨i, e, hb⟩ | ⟨_, hb⟩
  · obtain ⟨h1, h2⟩ := Bool.and_eq_true_iff.mp hb.symm
    exact ⟨i, e, of_decide_eq_true h1, of_decide_eq_true h2⟩
  · cases hb
theorem BetV.int {H : Hp} {lo hi i : Int} (h1 : lo ≤ i) (h2 : i ≤ hi) : BetV H lo hi (.int i) true := .inl ⟨i, rfl, by rw [decide_eq_true h1, decide_eq_true h2]; rfl⟩
theorem BetV.out {H : Hp} {lo hi i : Int} (h : ¬ (lo ≤ i ∧ i ≤ hi)) : BetV H lo hi (.int i) false := .inl ⟨i, rfl, by
  cases q : (decide (lo ≤ i) && decide (i ≤ hi)) with
  | false => rfl
  | true =>
    obtain ⟨h1, h2⟩ := Bool.and_eq_true_iff.mp q
    exact absurd ⟨of_decide_eq_true h1, of_decide_eq_true h2⟩ h⟩
def sp_is_integer : Sp := fun vs H Q _ => ∃ v : V, vs = [v] ∧ ((∃ i : Int, v = .int i ∧ Q (.bl true) H) ∨ (NI H v ∧ Q (.bl false) H))
theorem ok_is_integer (T : Tops K mg) : FnOk P w K mg base CX0 1 (He.ga K "is_integer") T.fd_is_integer P_is_integer sp_is_integer := by
  refine T.F_is_integer.ok sc_is_integer (fun vs H Q E h => ?_) (fun cdv A outer s H vs Q E hr h => ?_)
  · obtain ⟨v, rfl, h⟩ := h
    rfl
  · obtain ⟨v, rfl, h⟩ := h
    refine ⟨_, PSs.nox ((pss_one (ps_ret (pe_and (pe_callB (call_isiK0 K) (by rfl) T.m_isinstance (by decide +kernel) (pa_cons (pv 0) (pa_cons (pe_bltn (v := .ty "int") rfl T.m_int (by decide +kernel) rfl) pa_nil))) (pe_one (pe_not (pe_callB (call_isiK0 K) (by rfl) T.m_isinstance (by decide +kernel) (pa_cons (pv 0) (pa_cons (pe_bltn (v := .ty "bool") rfl T.m_bool (by decide +kernel) rfl) pa_nil))))))))), ?_⟩
    rw [st_is_integer]
    rcases h with ⟨i, rfl, q⟩ | ⟨h, q⟩
    · walk_at "rd"
      refine ⟨_, _, _, _, true, rfl, .ty _, .base (.int _), kit_ty (by decide +kernel), ?_⟩
      walk_at "rd"
      refine iteT ?_
      walk_at "rd"
      refine ⟨_, _, _, _, false, rfl, .ty _, .base (.int _), kit_ty (by decide +kernel), ?_⟩
      walk_at "rd"
      exact q
    · rcases h with rfl | ⟨z, rfl⟩ | ⟨b, rfl⟩ | ⟨p, rfl, ⟨xs, h⟩ | ⟨xs, h⟩ | ⟨xs, h⟩⟩
      · walk_at "rd"
        refine ⟨_, _, _, _, false, rfl, .ty _, .base .non, kit_ty (by decide +kernel), ?_⟩
        walk_at "rd"
        exact iteF q
      · walk_at "rd"
        refine ⟨_, _, _, _, false, rfl, .ty _, .base (.str _), kit_ty (by decide +kernel), ?_⟩
        walk_at "rd"
        exact iteF q
      · walk_at "rd"
        refine ⟨_, _, _, _, true, rfl, .ty _, .base (.bl _), kit_ty (by decide +kernel), ?_⟩
        walk_at "rd"
        refine iteT ?_
        walk_at "rd"
        refine ⟨_, _, _, _, true, rfl, .ty _, .base (.bl _), kit_ty (by decide +kernel), ?_⟩
        walk_at "rd"
        exact q
      · walk_at "rd"
        refine ⟨_, _, _, _, false, rfl, .ty _, .base (.lst h), kit_ty (by decide +kernel), ?_⟩
        walk_at "rd"
        exact iteF q
      · walk_at "rd"
        refine ⟨_, _, _, _, false, rfl, .ty _, .base (.tup h), kit_ty (by decide +kernel), ?_⟩
        walk_at "rd"
        exact iteF q
      · walk_at "rd"
        refine ⟨_, _, _, _, false, rfl, .ty _, .base (.dT h), kit_ty (by decide +kernel), ?_⟩
        walk_at "rd"
        exact iteF q

def sp_is_between_wholes : Sp := fun vs H Q _ => ∃ (v : V) (lo hi : Int) (b : Bool), vs = [v, .int lo, .int hi] ∧ BetV H lo hi v b ∧ Q (.bl b) H
theorem ok_is_between_wholes (T : Tops K mg) : FnOk P w K mg base CX0 2 (He.ga K "is_between_wholes") T.fd_is_between_wholes P_is_between_wholes sp_is_between_wholes := by
  refine T.F_is_between_wholes.ok sc_is_between_wholes (fun vs H Q E h => ?_) (fun cdv A outer s H vs Q E hr h => ?_)
  · obtain ⟨v, lo, hi, b, rfl, h, q⟩ := h
    rfl
  · obtain ⟨v, lo, hi, b, rfl, h, q⟩ := h
    refine ⟨_, PSs.nox ((pss_one (ps_ret (pe_and (pe_call (ok_is_integer T) (hr.mono (by decide)) (by rfl) T.g_is_integer T.F_is_integer.kp (b_is_integer T) .nil pass0 (pa_cons (pv 0) pa_nil)) (pe_one (pe_chain op_le op_le (pv 1) (pv 0) (pv 2))))))), ?_⟩
    rw [st_is_between_wholes]
    rcases h with ⟨i, rfl, rfl⟩ | ⟨h, rfl⟩
    · walk_at "rd"
      refine ⟨_, rfl, .inl ⟨i, rfl, ?_⟩⟩
      walk_at "rd"
      refine iteT ?_
      walk_at "rd"
      refine ite2 (fun h => ?_) (fun h => ?_)
      · walk_at "rd"
        rw [h, Bool.true_and] at q
        exact q
      · have h2 : decide (lo ≤ i) = false := by simpa using h
        rw [h2, Bool.false_and] at q
        exact q
    · walk_at "rd"
      refine ⟨_, rfl, .inr ⟨h, ?_⟩⟩
      walk_at "rd"
      exact iteF q

/-- no tuple -/
def NT (H : Hp) (v : V) : Prop := v = .non ∨ (∃ i, v = .int i) ∨ (∃ z, v = .str z) ∨ (∃ b, v = .bl b) ∨ ∃ p, v = .ref p ∧ ((∃ xs, H p = some (.lst xs)) ∨ ∃ kvs, H p = some (.dT kvs))
theorem NT.ext {H H' : Hp} {v : V} (h : NT H v) (e : LamX.ExtN H H') : NT H' v := by
  rcases h with h | h | h | h | ⟨p, rfl, h⟩
  · exact .inl h
  · exact .inr (.inl h)
  · exact .inr (.inr (.inl h))
  · exact .inr (.inr (.inr (.inl h)))
  · refine .inr (.inr (.inr (.inr ⟨p, rfl, ?_⟩)))
    rcases h with ⟨xs, h⟩ | ⟨xs, h⟩
    · exact .inl ⟨xs, e _ _ h (fun _ z => by cases z)⟩
    · exact .inr ⟨xs, e _ _ h (fun _ z => by cases z)⟩
theorem NT.ty {H : Hp} {v : V} (h : NT H v) : ∃ t, TyX K H v (.type t) ∧ kitB t "tuple" = some false := by
  rcases h with rfl | ⟨i, rfl⟩ | ⟨z, rfl⟩ | ⟨b, rfl⟩ | ⟨p, rfl, ⟨xs, h⟩ | ⟨xs, h⟩⟩
  · exact ⟨_, .base .non, by decide +kernel⟩
  · exact ⟨_, .base (.int _), by decide +kernel⟩
  · exact ⟨_, .base (.str _), by decide +kernel⟩
  · exact ⟨_, .base (.bl _), by decide +kernel⟩
  · exact ⟨_, .base (.lst h), by decide +kernel⟩
  · exact ⟨_, .base (.dT h), by decide +kernel⟩
/-- what is_site tells of v -/
def SiteV (H : Hp) (v : V) (b : Bool) : Prop := (b = false ∧ NT H v) ∨ ∃ p xs, v = V.ref p ∧ H p = some (.tup xs) ∧ ((b = false ∧ xs.length ≠ 2 ∧ xs.length ≤ 100) ∨ ∃ x y b1 b2, xs = [x, y] ∧ BetV H (0 - 1000000) 1000000 x b1 ∧ BetV H (0 - 1000000) 1000000 y b2 ∧ b = (b1 && b2))
theorem SiteV.ext {H H' : Hp} {v : V} {b : Bool} (h : SiteV H v b) (e : LamX.ExtN H H') : SiteV H' v b := by
  rcases h with ⟨h1, h2⟩ | ⟨p, xs, rfl, h1, h2⟩
  · exact .inl ⟨h1, h2.ext e⟩
  · refine .inr ⟨p, xs, rfl, e _ _ h1 (fun _ z => by cases z), ?_⟩
    rcases h2 with h2 | ⟨x, y, b1, b2, h3, h4, h5, h6⟩
    · exact .inl h2
    · exact .inr ⟨x, y, b1, b2, h3, h4.ext e, h5.ext e, h6⟩
def sp_is_site : Sp := fun vs H Q _ => ∃ (v : V) (b : Bool), vs = [v] ∧ SiteV H v b ∧ ∀ H', Same H H' → Q (.bl b) H'
theorem ok_is_site (T : Tops K mg) : FnOk P w K mg base CX0 3 (He.ga K "is_site") T.fd_is_site P_is_site sp_is_site := by
  refine T.F_is_site.ok sc_is_site (fun vs H Q E h => ?_) (fun cdv A outer s H vs Q E hr h => ?_)
  · obtain ⟨v, b, rfl, h, q⟩ := h
    rfl
  · obtain ⟨v, b, rfl, h, q⟩ := h
    refine ⟨_, PSs.nox ((pss_cons (ps_if (PW.pt (pw_or (pt_not (pt_val (pe_callB (call_isiK0 K) (by rfl) T.m_isinstance (by decide +kernel) (pa_cons (pv 0) (pa_cons (pe_bltn (v := .ty "tuple") rfl T.m_tuple (by decide +kernel) rfl) pa_nil))))) (pw_or1 (pt_cmpR op_ne (pe_callB (call_lenK K) (by rfl) T.m_len PySem.boot_len (pa_cons (pv 0) pa_nil)) pe_int (nomark _)))))
       (pss_one (ps_ret pe_bl))
       pss_nil)
       (pss_one (ps_ret (pe_callB (cr_allK K rfl) (by rfl) T.m_all (by decide +kernel) (pa_cons (pe_lc (own := [("one", 1)]) (g := gName 1) (tt := tYes) rfl sc_is_site.nd (pi_tupK K (pv 0)) (blkOk_by (own := [("one", 1)]) (N := N_is_site) (sc := defScope (top 18)) (by decide +kernel)) (fun _ _ _ _ _ => (pg_name (i := 1) sc_is_site.nd rfl (.inl rfl))) (fun _ _ _ _ _ => pts_nil) (fun _ _ _ _ _ => (pe_call (ok_is_between_wholes T) (hr.mono (by decide)) (by rfl) T.g_is_between_wholes T.F_is_between_wholes.kp (b_is_between_wholes T) .nil pass0 (pa_cons (pv 1) (pa_cons (pe_op op_sub pe_int (pe_glob (v := .int 1000000) rfl T.c_MOST_COORDINATE ⟨_, rfl⟩)) (pa_cons (pe_glob (v := .int 1000000) rfl T.c_MOST_COORDINATE ⟨_, rfl⟩) pa_nil)))))) pa_nil)))))), ?_⟩
    rw [st_is_site]
    rcases h with ⟨rfl, h⟩ | ⟨p, xs, rfl, hp, h⟩
    · obtain ⟨t, ty, kt⟩ := h.ty (K := K)
      walk_at "rd"
      refine ⟨_, _, _, _, false, rfl, .ty _, ty, kit_ty kt, ?_⟩
      walk_at "rd"
      refine iteT ?_
      refine iteT ?_
      walk_at "rd"
      exact q H (.refl H)
    · walk_at "rd"
      refine ⟨_, _, _, _, true, rfl, .ty _, .base (.tup hp), kit_ty (by decide +kernel), ?_⟩
      walk_at "rd"
      refine iteF ?_
      walk_at "rd"
      rcases h with ⟨rfl, hn, hm⟩ | ⟨x, y, b1, b2, rfl, hx, hy, rfl⟩
      · rw [decide_eq_false (show ¬ ((xs.length : Int) = 2) by omega)]
        refine iteT ?_
        walk_at "rd"
        exact q H (.refl H)
      · refine iteF ?_
        walk_at "rd"
        refine ⟨p, rfl, ⟨_, SqT.of hp⟩, fun D hD => ?_⟩
        refine lc_tup (K := K) (a := p) (xs := [x, y]) (fun i H' => Same H H' ∧ H' D = some (.lst (([b1, b2].take i).map V.bl))) ⟨same_new hD, upd_same⟩ (fun i H' _ h => SqT.of (h.1 _ _ hp)) ?_ ?_
        · rintro i z H' hz ⟨hs, hl⟩
          have hzz : ∃ b, BetV H (0 - 1000000) 1000000 z b ∧ [b1, b2][i]? = some b ∧ i < 2 := by
            match i, hz with
            | 0, hz => exact ⟨b1, (Option.some.inj hz) ▸ hx, rfl, by decide⟩
            | 1, hz => exact ⟨b2, (Option.some.inj hz) ▸ hy, rfl, by decide⟩
          obtain ⟨b, hb, hn, hi⟩ := hzz
          walk_at "rd"
          refine ⟨rfl, ?_⟩
          walk_at "rd"
          refine iteT ?_
          walk_at "rd"
          refine ⟨_, _, _, b, rfl, hb.ext (.of hs), ?_⟩
          refine ⟨_, hl, len_lt (by rw [List.length_map, List.length_take]; omega), ?_, ?_⟩
          · intro b o hb
            rw [upd_ne (ne_of_none hb hD)]
            exact hs _ _ hb
          · rw [upd_same, List.take_add_one, hn, List.map_append]
            rfl
        · rintro H' ⟨hs, hl⟩
          refine ⟨D, [b1, b2], rfl, SqL.of hl, ?_⟩
          have e : [b1, b2].all id = (b1 && b2) := by
            show (b1 && (b2 && true)) = _
            rw [Bool.and_true]
          have qq := q H' hs
          rw [← e] at qq
          exact qq

end

end NC
namespace NC
section
variable {P : Program} {w : World} {K : PySem.W.Frag} {mg : Str → Option Value} {base : Heap}

theorem sq_nn (u : Int) : 0 ≤ u * u := by
  rcases (show 0 ≤ u ∨ u ≤ 0 by omega) with h | h
  · exact Int.mul_nonneg h h
  · exact Int.mul_nonneg_of_nonpos_of_nonpos h h
theorem sq_pos {u : Int} (h : u ≠ 0) : 0 < u * u := by
  rcases (show 0 < u ∨ u < 0 by omega) with h | h
  · exact Int.mul_pos h h
  · exact Int.mul_pos_of_neg_of_neg h h

/-- a site as data -/
theorem dp_site {H : Hp} {p : Addr} {x y : Int} (h : H p = some (.tup [.int x, .int y])) : Dp K H (.ref p) (.tuple [.int x, .int y]) := .tup (SqT.of h) (.cons (.int _) (.cons (.int _) .nil))
theorem eqv_site (x y u v : Int) : PyData.eqv (.tuple [.int x, .int y]) (.tuple [.int u, .int v]) = (decide (x = u) && decide (y = v)) := by
  simp [PyData.eqv, PyData.eqvAll, Bool.beq_eq_decide_eq]
/-- the greatest common divisor as an int -/
def gZ (a b : Int) : Int := (Int.gcd a b : Int)
def plG (x y d : Int) : Int := gZ (gZ x y) d * (if 0 < d then 1 else -1)
theorem gZ_nn (a b : Int) : 0 ≤ gZ a b := Int.natCast_nonneg _
theorem gZ_pos {a b : Int} (h : b ≠ 0) : 0 < gZ a b := by
  unfold gZ
  have : 0 < Int.gcd a b := Int.gcd_pos_of_ne_zero_right a h
  omega
/-- a place: its three numbers in lowest terms -/
theorem place_low {x y d : Int} (hd : d ≠ 0) : ∃ x' y' d' : Int, x = plG x y d * x' ∧ y = plG x y d * y' ∧ d = plG x y d * d' ∧ 0 < d' ∧ gZ (gZ x' y') d' = 1 ∧ plG x y d ≠ 0 ∧
    x.fdiv (plG x y d) = x' ∧ y.fdiv (plG x y d) = y' ∧ d.fdiv (plG x y d) = d' ∧ x'.natAbs ≤ x.natAbs ∧ y'.natAbs ≤ y.natAbs ∧ d'.natAbs ≤ d.natAbs := by
  have g0 : 0 < gZ (gZ x y) d := gZ_pos hd
  have hs : (if 0 < d then (1 : Int) else -1) * (if 0 < d then (1 : Int) else -1) = 1 := by split <;> rfl
  have gne : plG x y d ≠ 0 := by
    unfold plG
    split <;> omega
  have dx : gZ (gZ x y) d ∣ x := Int.dvd_trans (Int.gcd_dvd_left (gZ x y) d) (Int.gcd_dvd_left x y)
  have dy : gZ (gZ x y) d ∣ y := Int.dvd_trans (Int.gcd_dvd_left (gZ x y) d) (Int.gcd_dvd_right x y)
  have dd : gZ (gZ x y) d ∣ d := Int.gcd_dvd_right (gZ x y) d
  have dv : ∀ z, gZ (gZ x y) d ∣ z → ∃ z', z = plG x y d * z' := fun z ⟨w, e⟩ => by
    refine ⟨(if 0 < d then (1 : Int) else -1) * w, ?_⟩
    unfold plG
    rw [e]
    have : gZ (gZ x y) d * (if 0 < d then (1 : Int) else -1) * ((if 0 < d then (1 : Int) else -1) * w) = gZ (gZ x y) d * ((if 0 < d then (1 : Int) else -1) * (if 0 < d then (1 : Int) else -1)) * w := by
      generalize (if 0 < d then (1 : Int) else -1) = t
      grind
    rw [this, hs]
    grind
  obtain ⟨x', ex⟩ := dv x dx
  obtain ⟨y', ey⟩ := dv y dy
  obtain ⟨d', ed⟩ := dv d dd
  have nb : (plG x y d).natAbs = (gZ (gZ x y) d).natAbs := by
    unfold plG
    rw [Int.natAbs_mul]
    split <;> simp
  have hd' : 0 < d' := by
    have e2 : gZ (gZ x y) d * (if 0 < d then (1 : Int) else -1) * d' = d := by
      have := ed.symm
      unfold plG at this
      exact this
    by_cases h : 0 < d
    · rw [if_pos h] at e2
      refine Int.not_le.mp fun z => ?_
      have : gZ (gZ x y) d * 1 * d' ≤ 0 := Int.mul_nonpos_of_nonneg_of_nonpos (by omega) z
      omega
    · rw [if_neg h] at e2
      refine Int.not_le.mp fun z => ?_
      have : 0 ≤ gZ (gZ x y) d * -1 * d' := Int.mul_nonneg_of_nonpos_of_nonpos (by omega) z
      omega
  have low : gZ (gZ x' y') d' = 1 := by
    have e1 : Int.gcd x y = (plG x y d).natAbs * Int.gcd x' y' := by
      have h := Int.gcd_mul_left (plG x y d) x' y'
      rw [← ex, ← ey] at h
      exact h
    have e2 : Int.gcd (gZ x y) d = (plG x y d).natAbs * Int.gcd (gZ x' y') d' := by
      have e3 : gZ x y = ((plG x y d).natAbs : Int) * gZ x' y' := by
        unfold gZ
        rw [e1]
        exact Int.natCast_mul _ _
      have e4 : Int.gcd (((plG x y d).natAbs : Int) * gZ x' y') d = Int.gcd (plG x y d * gZ x' y') d := by
        rw [Int.gcd_eq_natAbs_gcd_natAbs, Int.gcd_eq_natAbs_gcd_natAbs, Int.natAbs_mul, Int.natAbs_mul, Int.natAbs_natCast]
      rw [e3, e4]
      have h := Int.gcd_mul_left (plG x y d) (gZ x' y') d'
      rw [← ed] at h
      exact h
    have e5 : (gZ (gZ x y) d).natAbs = Int.gcd (gZ x y) d := by
      show ((Int.gcd (gZ x y) d : Int)).natAbs = _
      simp
    rw [nb, e5] at e2
    have p : 0 < Int.gcd (gZ x y) d := by
      have := g0
      unfold gZ at this
      unfold gZ
      omega
    have e6 : Int.gcd (gZ x' y') d' = 1 := by
      have : Int.gcd (gZ x y) d * 1 = Int.gcd (gZ x y) d * Int.gcd (gZ x' y') d' := by omega
      exact (Nat.eq_of_mul_eq_mul_left p this).symm
    show ((Int.gcd (gZ x' y') d' : Nat) : Int) = 1
    rw [e6]
    rfl
  have fd : ∀ z z', z = plG x y d * z' → z.fdiv (plG x y d) = z' := fun z z' e => by
    rw [e]
    exact Int.mul_fdiv_cancel_left _ gne
  have le : ∀ z z', z = plG x y d * z' → z'.natAbs ≤ z.natAbs := fun z z' e => by
    rw [e, Int.natAbs_mul]
    exact Nat.le_mul_of_pos_left _ (by omega)
  exact ⟨x', y', d', ex, ey, ed, hd', low, gne, fd _ _ ex, fd _ _ ey, fd _ _ ed, le _ _ ex, le _ _ ey, le _ _ ed⟩
theorem gcd_step {x y : Int} (hx : 0 ≤ x) (hy : 0 < y) : gZ y (x % y) = gZ x y := by
  obtain ⟨m, rfl⟩ := Int.eq_ofNat_of_zero_le hx
  obtain ⟨n, rfl⟩ := Int.eq_ofNat_of_zero_le (Int.le_of_lt hy)
  unfold gZ
  rw [← Int.natCast_emod, Int.gcd_natCast_natCast, Int.gcd_natCast_natCast, Nat.gcd_comm n (m % n), ← Nat.gcd_rec n m, Nat.gcd_comm n m]
theorem gZ_abs (a b : Int) : gZ (if a < 0 then -a else a) (if b < 0 then -b else b) = gZ a b := by
  have h : ∀ z : Int, (if z < 0 then -z else z).natAbs = z.natAbs := fun z => by split <;> omega
  unfold gZ
  rw [Int.gcd_eq_natAbs_gcd_natAbs, Int.gcd_eq_natAbs_gcd_natAbs, h, h]
theorem gZ_zero {a : Int} (h : 0 ≤ a) : gZ a 0 = a := by
  unfold gZ
  rw [Int.gcd_zero_right]
  omega
def sp_common : Sp := fun vs H Q _ => ∃ a b : Int, vs = [.int a, .int b] ∧ Q (.int (gZ a b)) H
theorem ok_common (T : Tops K mg) : FnOk P w K mg base CX0 1 (He.ga K "common") T.fd_common P_common sp_common := by
  refine T.F_common.ok sc_common (fun vs H Q E h => ?_) (fun cdv A outer s H vs Q E hr h => ?_)
  · obtain ⟨a, b, rfl, q⟩ := h
    rfl
  · obtain ⟨a, b, rfl, q⟩ := h
    refine ⟨_, PSs.nox ((pss_cons (ps_par (i := 0) (j := 1) (by rfl) sc_common.nd rfl rfl (by decide) rfl rfl (pa_cons (pe_callB call_absN (by rfl) T.m_abs (by decide +kernel) (pa_cons (pv 0) pa_nil)) (pa_cons (pe_callB call_absN (by rfl) T.m_abs (by decide +kernel) (pa_cons (pv 1) pa_nil)) pa_nil)) (by rfl))
       (pss_cons (ps_while PassesOwn.never (pt_cmpR op_gt (pv 1) pe_int (nomark _))
       (pss_one (ps_par (i := 0) (j := 1) (by rfl) sc_common.nd rfl rfl (by decide) rfl rfl (pa_cons (pv 1) (pa_cons (pe_op op_mod (pv 0) (pv 1)) pa_nil)) (by rfl))))
       (pss_one (ps_ret (pv 0)))))), ?_⟩
    rw [st_common]
    walk_at "rd"
    refine ⟨_, _, rfl, ?_⟩
    walk_at "rd"
    walk_at "nm"
    refine while_by (fun σ H' => H' = H ∧ ∃ x y : Int, σ = [some (.int x), some (.int y)] ∧ 0 ≤ x ∧ 0 ≤ y ∧ gZ x y = gZ a b) (fun σ _ => match σ with
      | [_, some (.int y)] => y.toNat
      | _ => 0) ⟨rfl, _, _, rfl, by split <;> omega, by split <;> omega, gZ_abs a b⟩ ?_ ?_
    · rintro σ H' ⟨rfl, x, y, rfl, hx, hy, e⟩
      walk_at "rd"
      refine ite2 (fun h => ?_) (fun h => ?_)
      · have hy0 : 0 < y := of_decide_eq_true h
        walk_at "rd"
        refine ⟨_, _, rfl, ?_⟩
        walk_at "nm"
        refine ⟨⟨rfl, y, x % y, rfl, hy, Int.emod_nonneg _ (by omega), ?_⟩, ?_⟩
        · rw [gcd_step hx hy0, e]
        · have h1 := Int.emod_lt_of_pos x hy0
          have h2 := Int.emod_nonneg x (show y ≠ 0 by omega)
          show (x % y).toNat < y.toNat
          omega
      · have hy0 : y = 0 := by
          have : ¬ (0 < y) := fun z => h (decide_eq_true z)
          omega
        subst hy0
        walk_at "rd"
        rw [gZ_zero hx] at e
        rw [e]
        exact q
    · intro σ H' Q1 Q2 hq h
      obtain ⟨v, hv, i, j, e1, e2, k, e3, h⟩ := h
      exact ⟨v, hv, i, j, e1, e2, k, e3, hq _ _ h⟩

theorem gZ_le {a b : Int} (h : 0 < b) : gZ a b ≤ b := by
  unfold gZ
  exact Int.gcd_le_right a h
theorem pow_mono {n : Nat} {a b : Nat} (h : n < 2 ^ a) (l : a ≤ b) : n < 2 ^ b := Nat.lt_of_lt_of_le h (Nat.pow_le_pow_right (by decide) l)
/-- a place in lowest terms -/
structure Pl (x y d : Int) : Prop where
  d1 : 1 ≤ d
  bx : x.natAbs < 1000000000000000000000000000000
  by_ : y.natAbs < 1000000000000000000000000000000
  bd : d < 1000000000000000000000000000000
  low : gZ (gZ x y) d = 1
def sp_reduced : Sp := fun vs H Q _ => ∃ a b : Int, vs = [.int a, .int b] ∧ 0 < b ∧ b.natAbs < 2 ^ 4000 ∧ ∀ p, H p = none → Q (.ref p) (upd H p (.tup [.int (a.fdiv (gZ a b)), .int (b.fdiv (gZ a b))]))
def sp_is_place0 : Sp := fun vs H Q _ => ∃ (p : Addr) (x y d : Int), vs = [.ref p] ∧ H p = some (.tup [.int x, .int y, .int d]) ∧ Pl x y d ∧ ∀ H', Same H H' → Q (.bl true) H'
def sp_check_place0 : Sp := fun vs H Q _ => ∃ (z : Str) (p : Addr) (x y d : Int), vs = [.str z, .ref p] ∧ H p = some (.tup [.int x, .int y, .int d]) ∧ Pl x y d ∧ ∀ H', Same H H' → Q .non H'
def sp_place_of : Sp := fun vs H Q _ => ∃ x y d : Int, vs = [.int x, .int y, .int d] ∧ d ≠ 0 ∧ d.natAbs < 2 ^ 4000 ∧ ∀ p, H p = none → Q (.ref p) (upd H p (.tup [.int (x.fdiv (plG x y d)), .int (y.fdiv (plG x y d)), .int (d.fdiv (plG x y d))]))
theorem gZ_abs_le {a b : Int} (h : b ≠ 0) : (gZ a b).natAbs ≤ b.natAbs := by
  unfold gZ
  rw [Int.natAbs_natCast]
  exact Int.gcd_le_natAbs_right a h

def plB (x y d : Int) : Bool := decide (1 ≤ d) && (decide (x.natAbs < 1000000000000000000000000000000 ∧ y.natAbs < 1000000000000000000000000000000 ∧ d < 1000000000000000000000000000000) && decide (gZ (gZ x y) d = 1))
theorem plB_pl {x y d : Int} (h : plB x y d = true) : Pl x y d := by
  obtain ⟨h1, h⟩ := Bool.and_eq_true_iff.mp h
  obtain ⟨h2, h3⟩ := Bool.and_eq_true_iff.mp h
  obtain ⟨h4, h5, h6⟩ := of_decide_eq_true h2
  exact ⟨of_decide_eq_true h1, h4, h5, h6, of_decide_eq_true h3⟩
def IntV (H : Hp) (v : V) (b : Bool) : Prop := (∃ i, v = V.int i ∧ b = true) ∨ (NI H v ∧ b = false)
theorem IntV.ext {H H' : Hp} {v : V} {b : Bool} (h : IntV H v b) (e : LamX.ExtN H H') : IntV H' v b := h.imp id fun ⟨a, c⟩ => ⟨a.ext e, c⟩
/-- what is_place tells of v -/
def PlaceV (H : Hp) (v : V) (b : Bool) : Prop := (b = false ∧ NT H v) ∨ ∃ p xs, v = V.ref p ∧ H p = some (.tup xs) ∧ ((b = false ∧ xs.length ≠ 3 ∧ xs.length ≤ 100) ∨ ∃ x y d, xs = [x, y, d] ∧ ((b = false ∧ ∃ b1 b2 b3, IntV H x b1 ∧ IntV H y b2 ∧ IntV H d b3 ∧ (b1 && (b2 && b3)) = false) ∨ ∃ xi yi di, x = .int xi ∧ y = .int yi ∧ d = .int di ∧ b = plB xi yi di))
theorem PlaceV.ext {H H' : Hp} {v : V} {b : Bool} (h : PlaceV H v b) (e : LamX.ExtN H H') : PlaceV H' v b := by
  rcases h with ⟨h1, h2⟩ | ⟨p, xs, rfl, h1, h2⟩
  · exact .inl ⟨h1, h2.ext e⟩
  · refine .inr ⟨p, xs, rfl, e _ _ h1 (fun _ z => by cases z), ?_⟩
    rcases h2 with h2 | ⟨x, y, d, h3, h4⟩
    · exact .inl h2
    · refine .inr ⟨x, y, d, h3, ?_⟩
      rcases h4 with ⟨h4, b1, b2, b3, i1, i2, i3, h5⟩ | h4
      · exact .inl ⟨h4, b1, b2, b3, i1.ext e, i2.ext e, i3.ext e, h5⟩
      · exact .inr h4
def sp_is_place : Sp := fun vs H Q _ => ∃ (v : V) (b : Bool), vs = [v] ∧ PlaceV H v b ∧ ∀ H', Same H H' → Q (.bl b) H'
theorem ok_is_place (T : Tops K mg) : FnOk P w K mg base CX0 2 (He.ga K "is_place") T.fd_is_place P_is_place sp_is_place := by
  refine T.F_is_place.ok sc_is_place (fun vs H Q E h => ?_) (fun cdv A outer s H vs Q E hr h => ?_)
  · obtain ⟨v, b, rfl, h, q⟩ := h
    rfl
  · obtain ⟨v, b, rfl, h, q⟩ := h
    refine ⟨_, PSs.nox ((pss_cons (ps_if (PW.pt (pw_or (pt_not (pt_val (pe_callB (call_isiK0 K) (by rfl) T.m_isinstance (by decide +kernel) (pa_cons (pv 0) (pa_cons (pe_bltn (v := .ty "tuple") rfl T.m_tuple (by decide +kernel) rfl) pa_nil))))) (pw_or (pt_cmpR op_ne (pe_callB (call_lenK K) (by rfl) T.m_len PySem.boot_len (pa_cons (pv 0) pa_nil)) pe_int (nomark _)) (pw_or1 (pt_not (pt_val (pe_callB (cr_allK K rfl) (by rfl) T.m_all (by decide +kernel) (pa_cons (pe_lc (own := [("one", 4)]) (g := gName 4) (tt := tYes) rfl sc_is_place.nd (pi_tupK K (pv 0)) (blkOk_by (own := [("one", 4)]) (N := N_is_place) (sc := defScope (top 19)) (by decide +kernel)) (fun _ _ _ _ _ => (pg_name (i := 4) sc_is_place.nd rfl (.inl rfl))) (fun _ _ _ _ _ => pts_nil) (fun _ _ _ _ _ => (pe_call (ok_is_integer T) (hr.mono (by decide)) (by rfl) T.g_is_integer T.F_is_integer.kp (b_is_integer T) .nil pass0 (pa_cons (pv 4) pa_nil)))) pa_nil))))))))
       (pss_one (ps_ret pe_bl))
       pss_nil)
       (pss_cons (ps_asg (pv 0) (pg_tup rfl (pgs_cons (pg_name (i := 1) sc_is_place.nd rfl (.inl rfl)) (pgs_cons (pg_name (i := 2) sc_is_place.nd rfl (.inl rfl)) (pgs_cons (pg_name (i := 3) sc_is_place.nd rfl (.inl rfl)) pgs_nil)))))
       (pss_one (ps_ret (pe_and (pe_cmpR op_ge (pv 3) pe_int (nomark _)) (pe_and (pe_cmpR op_lt (pe_callB (call_max3N rfl) (by rfl) T.m_max (by decide +kernel) (pa_cons (pe_callB call_absN (by rfl) T.m_abs (by decide +kernel) (pa_cons (pv 1) pa_nil)) (pa_cons (pe_callB call_absN (by rfl) T.m_abs (by decide +kernel) (pa_cons (pv 2) pa_nil)) (pa_cons (pv 3) pa_nil)))) (pe_glob (v := .int 1000000000000000000000000000000) rfl T.c_MOST_PLACE ⟨_, rfl⟩) (nomark _)) (pe_one (pe_cmpR op_eq (pe_call (ok_common T) (hr.mono (by decide)) (by rfl) T.g_common T.F_common.kp (b_common T) .nil pass0 (pa_cons (pe_call (ok_common T) (hr.mono (by decide)) (by rfl) T.g_common T.F_common.kp (b_common T) .nil pass0 (pa_cons (pv 1) (pa_cons (pv 2) pa_nil))) (pa_cons (pv 3) pa_nil))) pe_int (nomark _)))))))))), ?_⟩
    rw [st_is_place]
    rcases h with ⟨rfl, h⟩ | ⟨p, xs, rfl, hp, h⟩
    · obtain ⟨t, ty, kt⟩ := h.ty (K := K)
      walk_at "rd"
      refine ⟨_, _, _, _, false, rfl, .ty _, ty, kit_ty kt, ?_⟩
      walk_at "rd"
      refine iteT ?_
      refine iteT ?_
      walk_at "rd"
      exact q H (.refl H)
    · walk_at "rd"
      refine ⟨_, _, _, _, true, rfl, .ty _, .base (.tup hp), kit_ty (by decide +kernel), ?_⟩
      walk_at "rd"
      refine iteF ?_
      walk_at "rd"
      rcases h with ⟨rfl, hn, hm⟩ | ⟨x, y, d, rfl, h⟩
      · rw [decide_eq_false (show ¬ ((xs.length : Int) = 3) by omega)]
        refine iteT ?_
        walk_at "rd"
        refine iteT ?_
        walk_at "rd"
        exact q H (.refl H)
      · refine iteF ?_
        have hI : ∃ b1 b2 b3, IntV H x b1 ∧ IntV H y b2 ∧ IntV H d b3 ∧ (((b1 && (b2 && b3)) = false ∧ b = false) ∨ ((b1 && (b2 && b3)) = true ∧ ∃ xi yi di, x = .int xi ∧ y = .int yi ∧ d = .int di ∧ b = plB xi yi di)) := by
          rcases h with ⟨h4, b1, b2, b3, i1, i2, i3, h5⟩ | ⟨xi, yi, di, rfl, rfl, rfl, h⟩
          · exact ⟨b1, b2, b3, i1, i2, i3, .inl ⟨h5, h4⟩⟩
          · exact ⟨true, true, true, .inl ⟨_, rfl, rfl⟩, .inl ⟨_, rfl, rfl⟩, .inl ⟨_, rfl, rfl⟩, .inr ⟨rfl, xi, yi, di, rfl, rfl, rfl, h⟩⟩
        obtain ⟨b1, b2, b3, i1, i2, i3, hI⟩ := hI
        walk_at "rd"
        refine ⟨p, rfl, ⟨_, SqT.of hp⟩, fun D hD => ?_⟩
        refine lc_tup (K := K) (a := p) (xs := [x, y, d]) (fun i H' => Same H H' ∧ H' D = some (.lst (([b1, b2, b3].take i).map V.bl))) ⟨same_new hD, upd_same⟩ (fun i H' _ h => SqT.of (h.1 _ _ hp)) ?_ ?_
        · rintro i z H' hz ⟨hs, hl⟩
          have hzz : ∃ b, IntV H z b ∧ [b1, b2, b3][i]? = some b ∧ i < 3 := by
            match i, hz with
            | 0, hz => exact ⟨b1, (Option.some.inj hz) ▸ i1, rfl, by decide⟩
            | 1, hz => exact ⟨b2, (Option.some.inj hz) ▸ i2, rfl, by decide⟩
            | 2, hz => exact ⟨b3, (Option.some.inj hz) ▸ i3, rfl, by decide⟩
          obtain ⟨b, hb, hn, hi⟩ := hzz
          have go : ∀ Q' : VK, Q' (.bl b) H' → sp_is_integer [z] H' Q' (fun _ _ _ => False) := fun Q' hQ => by
            rcases hb.ext (.of hs) with ⟨i, rfl, rfl⟩ | ⟨hni, rfl⟩
            · exact ⟨_, rfl, .inl ⟨i, rfl, hQ⟩⟩
            · exact ⟨_, rfl, .inr ⟨hni, hQ⟩⟩
          walk_at "rd"
          refine ⟨rfl, ?_⟩
          walk_at "rd"
          refine iteT ?_
          walk_at "rd"
          refine go _ ?_
          refine ⟨_, hl, len_lt (by rw [List.length_map, List.length_take]; omega), ?_, ?_⟩
          · intro b o hb
            rw [upd_ne (ne_of_none hb hD)]
            exact hs _ _ hb
          · rw [upd_same, List.take_add_one, hn, List.map_append]
            rfl
        · rintro H' ⟨hs, hl⟩
          have hp' := hs _ _ hp
          refine ⟨D, [b1, b2, b3], rfl, SqL.of hl, ?_⟩
          walk_at "rd"
          have e : [b1, b2, b3].all id = (b1 && (b2 && b3)) := by
            show (b1 && (b2 && (b3 && true))) = _
            rw [Bool.and_true]
          rw [e]
          rcases hI with ⟨h0, rfl⟩ | ⟨h0, xi, yi, di, rfl, rfl, rfl, rfl⟩
          · rw [h0]
            refine iteT ?_
            walk_at "rd"
            exact q H' hs
          · rw [h0]
            refine iteF ?_
            walk_at "rd"
            have qq := q H' hs
            unfold plB at qq
            refine ite2 (fun c => ?_) (fun c => ?_)
            · rw [c, Bool.true_and] at qq
              walk_at "rd"
              generalize hm : (if (if yi < 0 then -yi else yi) > (if xi < 0 then -xi else xi) then (if di > (if yi < 0 then -yi else yi) then di else (if yi < 0 then -yi else yi)) else (if di > (if xi < 0 then -xi else xi) then di else (if xi < 0 then -xi else xi))) = m
              have c1 : 1 ≤ di := of_decide_eq_true c
              have hm2 : decide (m < 1000000000000000000000000000000) = decide (xi.natAbs < 1000000000000000000000000000000 ∧ yi.natAbs < 1000000000000000000000000000000 ∧ di < 1000000000000000000000000000000) := by
                refine decide_eq_decide.mpr ?_
                rw [← hm]
                split <;> split <;> split <;> omega
              rw [hm2]
              refine ite2 (fun c2 => ?_) (fun c2 => ?_)
              · rw [c2, Bool.true_and] at qq
                walk_at "rd"
                refine ⟨_, _, rfl, ?_⟩
                walk_at "rd"
                refine ⟨_, _, rfl, ?_⟩
                walk_at "rd"
                exact qq
              · rw [Bool.eq_false_iff.mpr c2, Bool.false_and] at qq
                exact qq
            · rw [Bool.eq_false_iff.mpr c, Bool.false_and] at qq
              exact qq

end

end NC
namespace NC
section
variable {P : Program} {w : World} {K : PySem.W.Frag} {mg : Str → Option Value} {base : Heap}
theorem ok_InvalidSites_init (T : Tops K mg) : FnOk P w K mg base CX0 1 (He.ma K (He.ga K "InvalidSites") "__init__") T.fd_InvalidSites_init P_InvalidSites_init (NCLam.spInit (He.ga K "InvalidSites") "at") := by
  refine T.F_InvalidSites_init.ok sc_InvalidSites_init (fun vs H Q E h => ?_) (fun cdv A outer s H vs Q E hr h => ?_)
  · obtain ⟨a, v, rfl, ha, q⟩ := h
    rfl
  · obtain ⟨a, v, rfl, ha, q⟩ := h
    refine ⟨_, PSs.nox ((pss_cons (ps_expr (pe_ceinit T.B_CellError (by rfl) T.g_CellError (pa_cons (pv 0) (pa_cons pe_str pa_nil))))
       (pss_one (ps_osA (pv 0) (pv 1))))), ?_⟩
    rw [st_InvalidSites_init]
    walk_at "rd"
    refine ⟨a, He.ga K "InvalidSites", [V.str "invalid sites"], rfl, by decide, T.X_InvalidSites, ha, ?_⟩
    walk_at "rd"
    exact ⟨a, _, rfl, T.X_InvalidSites, T.n_InvalidSites_at, ha, fun dx nd ne => q dx nd ne⟩
theorem ok_InvalidTriangles_init (T : Tops K mg) : FnOk P w K mg base CX0 1 (He.ma K (He.ga K "InvalidTriangles") "__init__") T.fd_InvalidTriangles_init P_InvalidTriangles_init (NCLam.spInit (He.ga K "InvalidTriangles") "at") := by
  refine T.F_InvalidTriangles_init.ok sc_InvalidTriangles_init (fun vs H Q E h => ?_) (fun cdv A outer s H vs Q E hr h => ?_)
  · obtain ⟨a, v, rfl, ha, q⟩ := h
    rfl
  · obtain ⟨a, v, rfl, ha, q⟩ := h
    refine ⟨_, PSs.nox ((pss_cons (ps_expr (pe_ceinit T.B_CellError (by rfl) T.g_CellError (pa_cons (pv 0) (pa_cons pe_str pa_nil))))
       (pss_one (ps_osA (pv 0) (pv 1))))), ?_⟩
    rw [st_InvalidTriangles_init]
    walk_at "rd"
    refine ⟨a, He.ga K "InvalidTriangles", [V.str "invalid triangles"], rfl, by decide, T.X_InvalidTriangles, ha, ?_⟩
    walk_at "rd"
    exact ⟨a, _, rfl, T.X_InvalidTriangles, T.n_InvalidTriangles_at, ha, fun dx nd ne => q dx nd ne⟩
theorem ok_InvalidBound_init (T : Tops K mg) : FnOk P w K mg base CX0 1 (He.ma K (He.ga K "InvalidBound") "__init__") T.fd_InvalidBound_init P_InvalidBound_init (NCLam.spInit (He.ga K "InvalidBound") "argument") := by
  refine T.F_InvalidBound_init.ok sc_InvalidBound_init (fun vs H Q E h => ?_) (fun cdv A outer s H vs Q E hr h => ?_)
  · obtain ⟨a, v, rfl, ha, q⟩ := h
    rfl
  · obtain ⟨a, v, rfl, ha, q⟩ := h
    refine ⟨_, PSs.nox ((pss_cons (ps_expr (pe_ceinit T.B_CellError (by rfl) T.g_CellError (pa_cons (pv 0) (pa_cons pe_str pa_nil))))
       (pss_one (ps_osA (pv 0) (pv 1))))), ?_⟩
    rw [st_InvalidBound_init]
    walk_at "rd"
    refine ⟨a, He.ga K "InvalidBound", [V.str "invalid bound"], rfl, by decide, T.X_InvalidBound, ha, ?_⟩
    walk_at "rd"
    exact ⟨a, _, rfl, T.X_InvalidBound, T.n_InvalidBound_argument, ha, fun dx nd ne => q dx nd ne⟩
theorem ok_InvalidCall_init (T : Tops K mg) : FnOk P w K mg base CX0 1 (He.ma K (He.ga K "InvalidCall") "__init__") T.fd_InvalidCall_init P_InvalidCall_init (NCLam.spInit (He.ga K "InvalidCall") "call") := by
  refine T.F_InvalidCall_init.ok sc_InvalidCall_init (fun vs H Q E h => ?_) (fun cdv A outer s H vs Q E hr h => ?_)
  · obtain ⟨a, v, rfl, ha, q⟩ := h
    rfl
  · obtain ⟨a, v, rfl, ha, q⟩ := h
    refine ⟨_, PSs.nox ((pss_cons (ps_expr (pe_ceinit T.B_CellError (by rfl) T.g_CellError (pa_cons (pv 0) (pa_cons pe_str pa_nil))))
       (pss_one (ps_osA (pv 0) (pv 1))))), ?_⟩
    rw [st_InvalidCall_init]
    walk_at "rd"
    refine ⟨a, He.ga K "InvalidCall", [V.str "invalid call"], rfl, by decide, T.X_InvalidCall, ha, ?_⟩
    walk_at "rd"
    exact ⟨a, _, rfl, T.X_InvalidCall, T.n_InvalidCall_call, ha, fun dx nd ne => q dx nd ne⟩
def sp_NoCircle_init (K : PySem.W.Frag) : Sp := fun vs H Q _ => ∃ a : Addr, vs = [.ref a] ∧ H a = some (exo a (He.ga K "NoCircle") none) ∧ Q .non H
theorem ok_NoCircle_init (T : Tops K mg) : FnOk P w K mg base CX0 1 (He.ma K (He.ga K "NoCircle") "__init__") T.fd_NoCircle_init P_NoCircle_init (sp_NoCircle_init K) := by
  refine T.F_NoCircle_init.ok sc_NoCircle_init (fun vs H Q E h => ?_) (fun cdv A outer s H vs Q E hr h => ?_)
  · obtain ⟨a, rfl, ha, q⟩ := h
    rfl
  · obtain ⟨a, rfl, ha, q⟩ := h
    refine ⟨_, PSs.nox ((pss_one (ps_expr (pe_ceinit T.B_CellError (by rfl) T.g_CellError (pa_cons (pv 0) (pa_cons pe_str pa_nil)))))), ?_⟩
    rw [st_NoCircle_init]
    walk_at "rd"
    exact ⟨a, He.ga K "NoCircle", [V.str "no circle"], rfl, by decide, T.X_NoCircle, ha, q⟩
theorem ok_LimitExceeded_init (T : Tops K mg) : FnOk P w K mg base CX0 1 (He.ma K (He.ga K "LimitExceeded") "__init__") T.fd_LimitExceeded_init P_LimitExceeded_init (NCLam.spInit (He.ga K "LimitExceeded") "limit") := by
  refine T.F_LimitExceeded_init.ok sc_LimitExceeded_init (fun vs H Q E h => ?_) (fun cdv A outer s H vs Q E hr h => ?_)
  · obtain ⟨a, v, rfl, ha, q⟩ := h
    rfl
  · obtain ⟨a, v, rfl, ha, q⟩ := h
    refine ⟨_, PSs.nox ((pss_cons (ps_expr (pe_ceinit T.B_CellError (by rfl) T.g_CellError (pa_cons (pv 0) (pa_cons pe_str pa_nil))))
       (pss_one (ps_osA (pv 0) (pv 1))))), ?_⟩
    rw [st_LimitExceeded_init]
    walk_at "rd"
    refine ⟨a, He.ga K "LimitExceeded", [V.str "limit exceeded"], rfl, by decide, T.X_LimitExceeded, ha, ?_⟩
    walk_at "rd"
    exact ⟨a, _, rfl, T.X_LimitExceeded, T.n_LimitExceeded_limit, ha, fun dx nd ne => q dx nd ne⟩

def spx_check_site (K : PySem.W.Frag) : Sp := fun vs H Q E => ∃ (w : Str) (v : V) (b : Bool), vs = [.str w, v] ∧ SiteV H v b ∧ (b = false → RB K w H E) ∧ (b = true → ∀ H', Same H H' → Q .non H')
theorem okx_check_site (T : Tops K mg) : FnOk P w K mg base (L2.CX P w) 4 (He.ga K "check_site") T.fd_check_site P_check_site (spx_check_site K) := by
  refine T.F_check_site.ok sc_check_site (fun vs H Q E h => ?_) (fun cdv A outer s H vs Q E hr h => ?_)
  · obtain ⟨w, v, b, rfl, h, r, q⟩ := h
    rfl
  · obtain ⟨w, v, b, rfl, h, r, q⟩ := h
    refine ⟨_, (pss_one (ps_if (pt_not (pt_val (pe_call (ok_is_site T) (hr.mono (by decide)) (by rfl) T.g_is_site T.F_is_site.kp (b_is_site T) .nil pass0 (pa_cons (pv 1) pa_nil))))
       (pss_one (ps_raise rfl (takes_of rfl rfl rfl rfl) (pmk_oexA T.X_InvalidBound T.i_InvalidBound T.t_InvalidBound (ok_InvalidBound_init T) (hr.mono (by decide)) (b_InvalidBound_init T) pass0 (by rfl) T.g_InvalidBound (pa_cons (pv 0) pa_nil))))
       pss_nil)), ?_⟩
    rw [st_check_site]
    walk_at "rd"
    refine ⟨v, b, rfl, h, fun H1 k1 => ?_⟩
    walk_at "rd"
    cases b with
    | false =>
      refine iteT ?_
      walk_at "rd"
      exact NCLam.raise_ok ((r rfl).mono k1)
    | true =>
      refine iteF ?_
      exact q rfl H1 k1

def spx_check_place (K : PySem.W.Frag) : Sp := fun vs H Q E => ∃ (w : Str) (v : V) (b : Bool), vs = [.str w, v] ∧ PlaceV H v b ∧ (b = false → RB K w H E) ∧ (b = true → ∀ H', Same H H' → Q .non H')
theorem okx_check_place (T : Tops K mg) : FnOk P w K mg base (L2.CX P w) 3 (He.ga K "check_place") T.fd_check_place P_check_place (spx_check_place K) := by
  refine T.F_check_place.ok sc_check_place (fun vs H Q E h => ?_) (fun cdv A outer s H vs Q E hr h => ?_)
  · obtain ⟨w, v, b, rfl, h, r, q⟩ := h
    rfl
  · obtain ⟨w, v, b, rfl, h, r, q⟩ := h
    refine ⟨_, (pss_one (ps_if (pt_not (pt_val (pe_call (ok_is_place T) (hr.mono (by decide)) (by rfl) T.g_is_place T.F_is_place.kp (b_is_place T) .nil pass0 (pa_cons (pv 1) pa_nil))))
       (pss_one (ps_raise rfl (takes_of rfl rfl rfl rfl) (pmk_oexA T.X_InvalidBound T.i_InvalidBound T.t_InvalidBound (ok_InvalidBound_init T) (hr.mono (by decide)) (b_InvalidBound_init T) pass0 (by rfl) T.g_InvalidBound (pa_cons (pv 0) pa_nil))))
       pss_nil)), ?_⟩
    rw [st_check_place]
    walk_at "rd"
    refine ⟨v, b, rfl, h, fun H1 k1 => ?_⟩
    walk_at "rd"
    cases b with
    | false =>
      refine iteT ?_
      walk_at "rd"
      exact NCLam.raise_ok ((r rfl).mono k1)
    | true =>
      refine iteF ?_
      exact q rfl H1 k1
def sp_sign : Sp := fun vs H Q _ => ∃ i : Int, vs = [.int i] ∧ Q (.int (sgn i)) H
theorem ok_sign (T : Tops K mg) : FnOk P w K mg base CX0 1 (He.ga K "sign") T.fd_sign P_sign sp_sign := by
  refine T.F_sign.ok sc_sign (fun vs H Q E h => ?_) (fun cdv A outer s H vs Q E hr h => ?_)
  · obtain ⟨i, rfl, q⟩ := h
    rfl
  · obtain ⟨i, rfl, q⟩ := h
    refine ⟨_, PSs.nox ((pss_one (ps_ret (pe_op op_sub (pe_callTy call_intN (by rfl) T.m_int (by decide +kernel) (pa_cons (pe_cmpR op_gt (pv 0) pe_int (nomark _)) pa_nil)) (pe_callTy call_intN (by rfl) T.m_int (by decide +kernel) (pa_cons (pe_cmpR op_lt (pv 0) pe_int (nomark _)) pa_nil)))))), ?_⟩
    rw [st_sign]
    walk_at "rd"
    have e : zsg (decide (0 < i)) - zsg (decide (i < 0)) = sgn i := by
      unfold sgn zsg
      simp only [decide_eq_true_eq]
    show Q (.int (zsg (decide (0 < i)) - zsg (decide (i < 0)))) H
    rw [e]
    exact q
def sp_turn : Sp := fun vs H Q _ => ∃ pa pb pc ax ay bx by_ cx cy, vs = [.ref pa, .ref pb, .ref pc] ∧ S3 H pa pb pc ax ay bx by_ cx cy ∧ Q (.int (turnZ ax ay bx by_ cx cy)) H
theorem ok_turn (T : Tops K mg) : FnOk P w K mg base CX0 1 (He.ga K "turn") T.fd_turn P_turn sp_turn := by
  refine T.F_turn.ok sc_turn (fun vs H Q E h => ?_) (fun cdv A outer s H vs Q E hr h => ?_)
  · obtain ⟨pa, pb, pc, ax, ay, bx, by_, cx, cy, rfl, ⟨ha, hb, hc, hd⟩, q⟩ := h
    rfl
  · obtain ⟨pa, pb, pc, ax, ay, bx, by_, cx, cy, rfl, ⟨ha, hb, hc, hd⟩, q⟩ := h
    refine ⟨_, PSs.nox ((pss_one (ps_ret (pe_op op_sub (pe_op op_mul (pe_op op_sub (pe_ix (ix_tupK K) (pv 1) pe_int (fun _ _ => rfl)) (pe_ix (ix_tupK K) (pv 0) pe_int (fun _ _ => rfl))) (pe_op op_sub (pe_ix (ix_tupK K) (pv 2) pe_int (fun _ _ => rfl)) (pe_ix (ix_tupK K) (pv 0) pe_int (fun _ _ => rfl)))) (pe_op op_mul (pe_op op_sub (pe_ix (ix_tupK K) (pv 1) pe_int (fun _ _ => rfl)) (pe_ix (ix_tupK K) (pv 0) pe_int (fun _ _ => rfl))) (pe_op op_sub (pe_ix (ix_tupK K) (pv 2) pe_int (fun _ _ => rfl)) (pe_ix (ix_tupK K) (pv 0) pe_int (fun _ _ => rfl)))))))), ?_⟩
    rw [st_turn]
    unfold Bd at hd
    walk_at "rd"
    exact q
theorem ok_reduced (T : Tops K mg) : FnOk P w K mg base CX0 2 (He.ga K "reduced") T.fd_reduced P_reduced sp_reduced := by
  refine T.F_reduced.ok sc_reduced (fun vs H Q E h => ?_) (fun cdv A outer s H vs Q E hr h => ?_)
  · obtain ⟨a, b, rfl, hb, hb2, q⟩ := h
    rfl
  · obtain ⟨a, b, rfl, hb, hb2, q⟩ := h
    refine ⟨_, PSs.nox ((pss_cons (ps_set (i := 2) sc_reduced.nd rfl (.inl rfl) (pe_call (ok_common T) (hr.mono (by decide)) (by rfl) T.g_common T.F_common.kp (b_common T) .nil pass0 (pa_cons (pv 0) (pa_cons (pv 1) pa_nil))))
       (pss_cons (ps_set (i := 2) sc_reduced.nd rfl (.inl rfl) (pe_ifExp (pt_cmpR op_gt (pv 1) pe_int (nomark _)) (pv 2) (pe_op op_sub pe_int (pv 2))))
       (pss_one (ps_ret (pe_tup (pa_cons (pe_op op_fdivA (pv 0) (pv 2)) (pa_cons (pe_op op_fdivA (pv 1) (pv 2)) pa_nil)))))))), ?_⟩
    rw [st_reduced]
    walk_at "rd"
    refine ⟨_, _, rfl, ?_⟩
    have g0 : 0 < gZ a b := gZ_pos (by omega)
    have g1 : (gZ a b).natAbs < 2 ^ 4000 := Nat.lt_of_le_of_lt (gZ_abs_le (by omega)) hb2
    have g2 : gZ a b ≠ 0 := by omega
    walk_at "rd"
    rw [decide_eq_true hb]
    refine iteT ?_
    walk_at "rd"
    exact ⟨len_le (n := 2) (by decide), fun p hp => q p hp⟩
theorem ok_power (T : Tops K mg) : FnOk P w K mg base CX0 1 (He.ga K "power") T.fd_power P_power (fun _ _ _ _ => False) := (T.F_power.ok (k := 0) sc_power (fun vs H Q E h => h.elim) (fun cdv A outer s H vs Q E hr h => h.elim))
theorem ok_inside (T : Tops K mg) : FnOk P w K mg base CX0 2 (He.ga K "inside") T.fd_inside P_inside (fun _ _ _ _ => False) := (T.F_inside.ok (k := 1) sc_inside (fun vs H Q E h => h.elim) (fun cdv A outer s H vs Q E hr h => h.elim))
theorem ok_place_of (T : Tops K mg) : FnOk P w K mg base CX0 2 (He.ga K "place_of") T.fd_place_of P_place_of (fun _ _ _ _ => False) := (T.F_place_of.ok (k := 1) sc_place_of (fun vs H Q E h => h.elim) (fun cdv A outer s H vs Q E hr h => h.elim))
theorem ok_centre_of (T : Tops K mg) : FnOk P w K mg base CX0 3 (He.ga K "centre_of") T.fd_centre_of P_centre_of (fun _ _ _ _ => False) := (T.F_centre_of.ok (k := 2) sc_centre_of (fun vs H Q E h => h.elim) (fun cdv A outer s H vs Q E hr h => h.elim))
theorem ok_lead (T : Tops K mg) : FnOk P w K mg base CX0 1 (He.ga K "lead") T.fd_lead P_lead (fun _ _ _ _ => False) := (T.F_lead.ok (k := 0) sc_lead (fun vs H Q E h => h.elim) (fun cdv A outer s H vs Q E hr h => h.elim))

end

end NC
namespace NC
section
variable {P : Program} {w : World} {K : PySem.W.Frag} {mg : Str → Option Value} {base : Heap}

/-- v is a site -/
def IsSt (H : Hp) (v : V) (x y : Int) : Prop := ∃ p : Addr, v = V.ref p ∧ H p = some (.tup [.int x, .int y]) ∧ Bd x ∧ Bd y
theorem IsSt.site {H : Hp} {v : V} {x y : Int} (h : IsSt H v x y) : SiteV H v true := by
  obtain ⟨p, rfl, h, hx, hy⟩ := h
  unfold Bd at hx hy
  exact .inr ⟨p, _, rfl, h, .inr ⟨_, _, true, true, rfl, .int (by omega) (by omega), .int (by omega) (by omega), rfl⟩⟩
theorem IsSt.ext {H H' : Hp} {v : V} {x y : Int} (h : IsSt H v x y) (e : LamX.ExtN H H') : IsSt H' v x y := by
  obtain ⟨p, e1, h, b⟩ := h
  exact ⟨p, e1, e _ _ h (fun _ z => by cases z), b⟩
theorem SiteV.good {H : Hp} {v : V} (h : SiteV H v true) : ∃ x y, IsSt H v x y := by
  rcases h with ⟨h, _⟩ | ⟨p, xs, rfl, h1, ⟨h, _⟩ | ⟨x, y, b1, b2, rfl, hx, hy, hb⟩⟩
  · cases h
  · cases h
  · obtain ⟨e1, e2⟩ := Bool.and_eq_true_iff.mp hb.symm
    subst e1 e2
    obtain ⟨i, rfl, i1, i2⟩ := hx.good
    obtain ⟨j, rfl, j1, j2⟩ := hy.good
    exact ⟨i, j, p, rfl, h1, ⟨by omega, by omega⟩, ⟨by omega, by omega⟩⟩
def sp_on_stretch : Sp := fun vs H Q _ => ∃ pa pb pc ax ay bx by_ cx cy, vs = [.ref pa, .ref pb, .ref pc] ∧ S3 H pa pb pc ax ay bx by_ cx cy ∧ Q (.bl (decide (turnZ ax ay bx by_ cx cy = 0) && decide ((cx - ax) * (cx - bx) + (cy - ay) * (cy - by_) ≤ 0))) H
theorem ok_on_stretch (T : Tops K mg) : FnOk P w K mg base CX0 2 (He.ga K "on_stretch") T.fd_on_stretch P_on_stretch sp_on_stretch := by
  refine T.F_on_stretch.ok sc_on_stretch (fun vs H Q E h => ?_) (fun cdv A outer s H vs Q E hr h => ?_)
  · obtain ⟨pa, pb, pc, ax, ay, bx, by_, cx, cy, rfl, S, q⟩ := h
    rfl
  · obtain ⟨pa, pb, pc, ax, ay, bx, by_, cx, cy, rfl, S, q⟩ := h
    refine ⟨_, PSs.nox ((pss_cons (ps_if (pt_cmpR op_ne (pe_call (ok_turn T) (hr.mono (by decide)) (by rfl) T.g_turn T.F_turn.kp (b_turn T) .nil pass0 (pa_cons (pv 0) (pa_cons (pv 1) (pa_cons (pv 2) pa_nil)))) pe_int (nomark _))
       (pss_one (ps_ret pe_bl))
       pss_nil)
       (pss_cons (ps_set (i := 3) sc_on_stretch.nd rfl (.inl rfl) (pe_op op_add (pe_op op_mul (pe_op op_sub (pe_ix (ix_tupK K) (pv 2) pe_int (fun _ _ => rfl)) (pe_ix (ix_tupK K) (pv 0) pe_int (fun _ _ => rfl))) (pe_op op_sub (pe_ix (ix_tupK K) (pv 2) pe_int (fun _ _ => rfl)) (pe_ix (ix_tupK K) (pv 1) pe_int (fun _ _ => rfl)))) (pe_op op_mul (pe_op op_sub (pe_ix (ix_tupK K) (pv 2) pe_int (fun _ _ => rfl)) (pe_ix (ix_tupK K) (pv 0) pe_int (fun _ _ => rfl))) (pe_op op_sub (pe_ix (ix_tupK K) (pv 2) pe_int (fun _ _ => rfl)) (pe_ix (ix_tupK K) (pv 1) pe_int (fun _ _ => rfl))))))
       (pss_one (ps_ret (pe_cmpR op_le (pv 3) pe_int (nomark _))))))), ?_⟩
    rw [st_on_stretch]
    obtain ⟨ha, hb, hc, hd⟩ := id S
    unfold Bd at hd
    walk_at "rd"
    refine ⟨pa, pb, pc, ax, ay, bx, by_, cx, cy, rfl, S, ?_⟩
    walk_at "rd"
    refine ite2 (fun h => ?_) (fun h => ?_)
    · have h0 : decide (turnZ ax ay bx by_ cx cy = 0) = false := by simpa using h
      rw [h0, Bool.false_and] at q
      walk_at "rd"
      exact q
    · have h0 : decide (turnZ ax ay bx by_ cx cy = 0) = true := by simpa using h
      rw [h0, Bool.true_and] at q
      walk_at "rd"
      exact q

def spx_side (K : PySem.W.Frag) : Sp := fun vs H _ E => ∃ (a b c : V) (b1 b2 : Bool), vs = [a, b, c] ∧ SiteV H a b1 ∧ (b1 = true → SiteV H b b2) ∧ (b1 = false → RB K "a" H E) ∧ (b1 = true → b2 = false → RB K "b" H E) ∧
  (b1 = true → b2 = true → ∀ ax ay bx by_, IsSt H a ax ay → IsSt H b bx by_ → (ax = bx ∧ ay = by_ ∧ RB K "b" H E) ∨ (¬ (ax = bx ∧ ay = by_) ∧ SiteV H c false ∧ RB K "c" H E))
theorem okx_side (T : Tops K mg) : FnOk P w K mg base (L2.CX P w) 5 (He.ga K "side") T.fd_side P_side (spx_side K) := by
  refine T.F_side.ok sc_side (fun vs H Q E h => ?_) (fun cdv A outer s H vs Q E hr h => ?_)
  · obtain ⟨a, b, c, b1, b2, rfl, h1, h2, r1, r2, r3⟩ := h
    rfl
  · obtain ⟨a, b, c, b1, b2, rfl, h1, h2, r1, r2, r3⟩ := h
    refine ⟨_, (pss_cons (ps_expr (pe_call (okx_check_site T) (hr.mono (by decide)) (by rfl) T.g_check_site T.F_check_site.kp (b_check_site T) .nil (passes_call (takes_of rfl rfl rfl rfl) (fun _ _ _ _ h => h)) (pa_cons pe_str (pa_cons (pv 0) pa_nil))))
       (pss_cons (ps_expr (pe_call (okx_check_site T) (hr.mono (by decide)) (by rfl) T.g_check_site T.F_check_site.kp (b_check_site T) .nil (passes_call (takes_of rfl rfl rfl rfl) (fun _ _ _ _ h => h)) (pa_cons pe_str (pa_cons (pv 1) pa_nil))))
       (pss_cons (ps_if (pt_cmpR (op_eqDK K hr.units) (pv 0) (pv 1) (nomark _))
       (pss_one (ps_raise rfl (takes_of rfl rfl rfl rfl) (pmk_oexA T.X_InvalidBound T.i_InvalidBound T.t_InvalidBound (ok_InvalidBound_init T) (hr.mono (by decide)) (b_InvalidBound_init T) pass0 (by rfl) T.g_InvalidBound (pa_cons pe_str pa_nil))))
       pss_nil)
       (pss_cons (ps_expr (pe_call (okx_check_site T) (hr.mono (by decide)) (by rfl) T.g_check_site T.F_check_site.kp (b_check_site T) .nil (passes_call (takes_of rfl rfl rfl rfl) (fun _ _ _ _ h => h)) (pa_cons pe_str (pa_cons (pv 2) pa_nil))))
       (pss_one (ps_ret (pe_call (ok_sign T) (hr.mono (by decide)) (by rfl) T.g_sign T.F_sign.kp (b_sign T) .nil pass0 (pa_cons (pe_call (ok_turn T) (hr.mono (by decide)) (by rfl) T.g_turn T.F_turn.kp (b_turn T) .nil pass0 (pa_cons (pv 0) (pa_cons (pv 1) (pa_cons (pv 2) pa_nil)))) pa_nil)))))))), ?_⟩
    rw [st_side]
    walk_at "rd"
    refine ⟨_, a, b1, rfl, h1, r1, fun e1 H1 k1 => ?_⟩
    walk_at "rd"
    refine ⟨_, b, b2, rfl, (h2 e1).ext (.of k1), fun z => (r2 e1 z).mono k1, fun e2 H2 k2 => ?_⟩
    obtain ⟨ax, ay, ga⟩ := (e1 ▸ h1).good
    obtain ⟨bx, by_, gb⟩ := (e2 ▸ h2 e1).good
    have k12 := k1.trans k2
    obtain ⟨pa, rfl, ha, ba⟩ := ga.ext (.of k12)
    obtain ⟨pb, rfl, hb, bb⟩ := gb.ext (.of k12)
    walk_at "rd"
    refine ⟨_, _, dp_site ha, dp_site hb, rfl, rfl, ?_⟩
    rw [eqv_site]
    rcases r3 e1 e2 ax ay bx by_ ga gb with ⟨rfl, rfl, r⟩ | ⟨hn, hc, r⟩
    · rw [decide_eq_true rfl, decide_eq_true rfl]
      walk_at "rd"
      refine iteT ?_
      walk_at "rd"
      exact NCLam.raise_ok (r.mono k12)
    · have e : (decide (ax = bx) && decide (ay = by_)) = false := by
        cases z : (decide (ax = bx) && decide (ay = by_)) with
        | false => rfl
        | true =>
          obtain ⟨z1, z2⟩ := Bool.and_eq_true_iff.mp z
          exact absurd ⟨of_decide_eq_true z1, of_decide_eq_true z2⟩ hn
      rw [e]
      walk_at "rd"
      refine iteF ?_
      walk_at "rd"
      exact ⟨_, c, false, rfl, hc.ext (.of k12), fun _ => r.mono k12, fun z => (by cases z)⟩

def spx_is_between_signs (K : PySem.W.Frag) : Sp := fun vs H Q E => ∃ (a b c : V) (b1 b2 b3 : Bool), vs = [a, b, c] ∧ SiteV H a b1 ∧ (b1 = true → SiteV H b b2) ∧ (b1 = true → b2 = true → SiteV H c b3) ∧ (b1 = false → RB K "a" H E) ∧ (b1 = true → b2 = false → RB K "b" H E) ∧ (b1 = true → b2 = true → b3 = false → RB K "c" H E) ∧
  (b1 = true → b2 = true → b3 = true → ∀ ax ay bx by_ cx cy, IsSt H a ax ay → IsSt H b bx by_ → IsSt H c cx cy → ∀ H', Same H H' → Q (.bl (decide (turnZ ax ay bx by_ cx cy = 0) && decide ((cx - ax) * (cx - bx) + (cy - ay) * (cy - by_) ≤ 0))) H')
theorem okx_is_between_signs (T : Tops K mg) : FnOk P w K mg base (L2.CX P w) 5 (He.ga K "is_between_signs") T.fd_is_between_signs P_is_between_signs (spx_is_between_signs K) := by
  refine T.F_is_between_signs.ok sc_is_between_signs (fun vs H Q E h => ?_) (fun cdv A outer s H vs Q E hr h => ?_)
  · obtain ⟨a, b, c, b1, b2, b3, rfl, h1, h2, h3, r1, r2, r3, q⟩ := h
    rfl
  · obtain ⟨a, b, c, b1, b2, b3, rfl, h1, h2, h3, r1, r2, r3, q⟩ := h
    refine ⟨_, (pss_cons (ps_expr (pe_call (okx_check_site T) (hr.mono (by decide)) (by rfl) T.g_check_site T.F_check_site.kp (b_check_site T) .nil (passes_call (takes_of rfl rfl rfl rfl) (fun _ _ _ _ h => h)) (pa_cons pe_str (pa_cons (pv 0) pa_nil))))
       (pss_cons (ps_expr (pe_call (okx_check_site T) (hr.mono (by decide)) (by rfl) T.g_check_site T.F_check_site.kp (b_check_site T) .nil (passes_call (takes_of rfl rfl rfl rfl) (fun _ _ _ _ h => h)) (pa_cons pe_str (pa_cons (pv 1) pa_nil))))
       (pss_cons (ps_expr (pe_call (okx_check_site T) (hr.mono (by decide)) (by rfl) T.g_check_site T.F_check_site.kp (b_check_site T) .nil (passes_call (takes_of rfl rfl rfl rfl) (fun _ _ _ _ h => h)) (pa_cons pe_str (pa_cons (pv 2) pa_nil))))
       (pss_one (ps_ret (pe_call (ok_on_stretch T) (hr.mono (by decide)) (by rfl) T.g_on_stretch T.F_on_stretch.kp (b_on_stretch T) .nil pass0 (pa_cons (pv 0) (pa_cons (pv 1) (pa_cons (pv 2) pa_nil))))))))), ?_⟩
    rw [st_is_between_signs]
    walk_at "rd"
    refine ⟨_, a, b1, rfl, h1, r1, fun e1 H1 k1 => ?_⟩
    walk_at "rd"
    refine ⟨_, b, b2, rfl, (h2 e1).ext (.of k1), fun z => (r2 e1 z).mono k1, fun e2 H2 k2 => ?_⟩
    have k12 := k1.trans k2
    walk_at "rd"
    refine ⟨_, c, b3, rfl, (h3 e1 e2).ext (.of k12), fun z => (r3 e1 e2 z).mono k12, fun e3 H3 k3 => ?_⟩
    have k13 := k12.trans k3
    obtain ⟨ax, ay, ga⟩ := (e1 ▸ h1).good
    obtain ⟨bx, by_, gb⟩ := (e2 ▸ h2 e1).good
    obtain ⟨cx, cy, gc⟩ := (e3 ▸ h3 e1 e2).good
    have qq := q e1 e2 e3 ax ay bx by_ cx cy ga gb gc H3 k13
    obtain ⟨pa, rfl, ha, ba⟩ := ga.ext (.of k13)
    obtain ⟨pb, rfl, hb, bb⟩ := gb.ext (.of k13)
    obtain ⟨pc, rfl, hc, bc⟩ := gc.ext (.of k13)
    walk_at "rd"
    exact ⟨pa, pb, pc, ax, ay, bx, by_, cx, cy, rfl, ⟨ha, hb, hc, ba, bb, bc⟩, qq⟩

def spx_check_circle (K : PySem.W.Frag) : Sp := fun vs H Q E => ∃ (a b c : V) (b1 b2 b3 : Bool), vs = [a, b, c] ∧ SiteV H a b1 ∧ (b1 = true → SiteV H b b2) ∧ (b1 = true → b2 = true → SiteV H c b3) ∧ (b1 = false → RB K "a" H E) ∧ (b1 = true → b2 = false → RB K "b" H E) ∧ (b1 = true → b2 = true → b3 = false → RB K "c" H E) ∧ (b1 = true → b2 = true → b3 = true → ∀ H', Same H H' → Q .non H')
theorem okx_check_circle (T : Tops K mg) : FnOk P w K mg base (L2.CX P w) 5 (He.ga K "check_circle") T.fd_check_circle P_check_circle (spx_check_circle K) := by
  refine T.F_check_circle.ok sc_check_circle (fun vs H Q E h => ?_) (fun cdv A outer s H vs Q E hr h => ?_)
  · obtain ⟨a, b, c, b1, b2, b3, rfl, h1, h2, h3, r1, r2, r3, q⟩ := h
    rfl
  · obtain ⟨a, b, c, b1, b2, b3, rfl, h1, h2, h3, r1, r2, r3, q⟩ := h
    refine ⟨_, (pss_cons (ps_expr (pe_call (okx_check_site T) (hr.mono (by decide)) (by rfl) T.g_check_site T.F_check_site.kp (b_check_site T) .nil (passes_call (takes_of rfl rfl rfl rfl) (fun _ _ _ _ h => h)) (pa_cons pe_str (pa_cons (pv 0) pa_nil))))
       (pss_cons (ps_expr (pe_call (okx_check_site T) (hr.mono (by decide)) (by rfl) T.g_check_site T.F_check_site.kp (b_check_site T) .nil (passes_call (takes_of rfl rfl rfl rfl) (fun _ _ _ _ h => h)) (pa_cons pe_str (pa_cons (pv 1) pa_nil))))
       (pss_one (ps_expr (pe_call (okx_check_site T) (hr.mono (by decide)) (by rfl) T.g_check_site T.F_check_site.kp (b_check_site T) .nil (passes_call (takes_of rfl rfl rfl rfl) (fun _ _ _ _ h => h)) (pa_cons pe_str (pa_cons (pv 2) pa_nil))))))), ?_⟩
    rw [st_check_circle]
    walk_at "rd"
    refine ⟨_, a, b1, rfl, h1, r1, fun e1 H1 k1 => ?_⟩
    walk_at "rd"
    refine ⟨_, b, b2, rfl, (h2 e1).ext (.of k1), fun z => (r2 e1 z).mono k1, fun e2 H2 k2 => ?_⟩
    have k12 := k1.trans k2
    walk_at "rd"
    exact ⟨_, c, b3, rfl, (h3 e1 e2).ext (.of k12), fun z => (r3 e1 e2 z).mono k12, fun e3 H3 k3 => q e1 e2 e3 H3 (k12.trans k3)⟩

end

end NC
namespace NC
section
variable {P : Program} {w : World} {K : PySem.W.Frag} {mg : Str → Option Value} {base : Heap}
theorem nb_mul {i j : Int} {a b : Nat} (h1 : i.natAbs ≤ a) (h2 : j.natAbs ≤ b) : (i * j).natAbs ≤ a * b := by
  rw [Int.natAbs_mul]
  exact Nat.mul_le_mul h1 h2
/-- squared distance of place and site, times the square of the denominator -/
def farZ (x y d sx sy : Int) : Int := (x - sx * d) * (x - sx * d) + (y - sy * d) * (y - sy * d)
def sp_square_of : Sp := fun vs H Q _ => ∃ (p s : Addr) (x y d sx sy : Int), vs = [.ref p, .ref s] ∧ H p = some (.tup [.int x, .int y, .int d]) ∧ H s = some (.tup [.int sx, .int sy]) ∧ Bd sx ∧ Bd sy ∧ Pl x y d ∧
  ∀ r, H r = none → Q (.ref r) (upd H r (.tup [.int ((farZ x y d sx sy).fdiv (gZ (farZ x y d sx sy) (d * d))), .int ((d * d).fdiv (gZ (farZ x y d sx sy) (d * d)))]))
theorem far_nb {x y d sx sy : Int} (h : Pl x y d) (h1 : Bd sx) (h2 : Bd sy) : (x - sx * d).natAbs < 2 ^ 400 ∧ (y - sy * d).natAbs < 2 ^ 400 ∧ d.natAbs < 2 ^ 400 ∧ 0 < d * d ∧ (d * d).natAbs < 2 ^ 4000 := by
  unfold Bd at h1 h2
  have hx := h.bx
  have hy := h.by_
  have hd := h.bd
  have d1 := h.d1
  have m1 := nb_mul (i := sx) (j := d) (a := 1000000) (b := 1000000000000000000000000000000) (by omega) (by omega)
  have m2 := nb_mul (i := sy) (j := d) (a := 1000000) (b := 1000000000000000000000000000000) (by omega) (by omega)
  have m3 := nb_mul (i := d) (j := d) (a := 1000000000000000000000000000000) (b := 1000000000000000000000000000000) (by omega) (by omega)
  have e : (2 : Nat) ^ 250 = 1809251394333065553493296640760748560207343510400633813116524750123642650624 := by decide
  have l4 : (2 : Nat) ^ 250 ≤ 2 ^ 400 := Nat.pow_le_pow_right (by decide) (by decide)
  have l5 : (2 : Nat) ^ 250 ≤ 2 ^ 4000 := Nat.pow_le_pow_right (by decide) (by decide)
  generalize (2 : Nat) ^ 400 = P4 at l4 ⊢
  generalize (2 : Nat) ^ 4000 = P5 at l5 ⊢
  rw [e] at l4 l5
  refine ⟨by omega, by omega, by omega, Int.mul_pos (by omega) (by omega), by omega⟩
theorem ok_square_of (T : Tops K mg) : FnOk P w K mg base CX0 3 (He.ga K "square_of") T.fd_square_of P_square_of sp_square_of := by
  refine T.F_square_of.ok sc_square_of (fun vs H Q E h => ?_) (fun cdv A outer s H vs Q E hr h => ?_)
  · obtain ⟨p, s, x, y, d, sx, sy, rfl, hp, hs, bx, by_, hl, q⟩ := h
    rfl
  · obtain ⟨p, s, x, y, d, sx, sy, rfl, hp, hs, bx, by_, hl, q⟩ := h
    refine ⟨_, PSs.nox ((pss_cons (ps_asg (pv 0) (pg_tup rfl (pgs_cons (pg_name (i := 2) sc_square_of.nd rfl (.inl rfl)) (pgs_cons (pg_name (i := 3) sc_square_of.nd rfl (.inl rfl)) (pgs_cons (pg_name (i := 4) sc_square_of.nd rfl (.inl rfl)) pgs_nil)))))
       (pss_cons (ps_par (i := 5) (j := 6) (by rfl) sc_square_of.nd rfl rfl (by decide) rfl rfl (pa_cons (pe_op op_sub (pv 2) (pe_op op_mulA (pe_ix (ix_tupK K) (pv 1) pe_int (fun _ _ => rfl)) (pv 4))) (pa_cons (pe_op op_sub (pv 3) (pe_op op_mulA (pe_ix (ix_tupK K) (pv 1) pe_int (fun _ _ => rfl)) (pv 4))) pa_nil)) (by rfl))
       (pss_one (ps_ret (pe_call (ok_reduced T) (hr.mono (by decide)) (by rfl) T.g_reduced T.F_reduced.kp (b_reduced T) .nil pass0 (pa_cons (pe_op op_add (pe_op op_mulA (pv 5) (pv 5)) (pe_op op_mulA (pv 6) (pv 6))) (pa_cons (pe_op op_mulA (pv 4) (pv 4)) pa_nil)))))))), ?_⟩
    rw [st_square_of]
    have nb := far_nb hl bx by_
    unfold Bd at bx by_
    obtain ⟨n1, n2, n3, n4, n5⟩ := nb
    walk_at "rd"
    refine ⟨_, _, rfl, ?_⟩
    walk_at "rd"
    exact ⟨_, _, rfl, n4, n5, fun r hr => q r hr⟩

def C3 (K : PySem.W.Frag) (a b c : V) (b1 b2 b3 : Bool) (H : Hp) (E : XK) : Prop := SiteV H a b1 ∧ (b1 = true → SiteV H b b2) ∧ (b1 = true → b2 = true → SiteV H c b3) ∧ (b1 = false → RB K "a" H E) ∧ (b1 = true → b2 = false → RB K "b" H E) ∧ (b1 = true → b2 = true → b3 = false → RB K "c" H E)
def spx_circle (K : PySem.W.Frag) : Sp := fun vs H _ E => ∃ (a b c : V) (b1 b2 b3 : Bool), vs = [a, b, c] ∧ C3 K a b c b1 b2 b3 H E ∧ (b1 = true → b2 = true → b3 = true → ∀ ax ay bx by_ cx cy, IsSt H a ax ay → IsSt H b bx by_ → IsSt H c cx cy → turnZ ax ay bx by_ cx cy = 0 ∧ RN K H E)
theorem okx_circle (T : Tops K mg) : FnOk P w K mg base (L2.CX P w) 6 (He.ga K "circle") T.fd_circle P_circle (spx_circle K) := by
  refine T.F_circle.ok sc_circle (fun vs H Q E h => ?_) (fun cdv A outer s H vs Q E hr h => ?_)
  · obtain ⟨a, b, c, b1, b2, b3, rfl, ⟨h1, h2, h3, r1, r2, r3⟩, q⟩ := h
    rfl
  · obtain ⟨a, b, c, b1, b2, b3, rfl, ⟨h1, h2, h3, r1, r2, r3⟩, q⟩ := h
    refine ⟨_, (pss_cons (ps_expr (pe_call (okx_check_circle T) (hr.mono (by decide)) (by rfl) T.g_check_circle T.F_check_circle.kp (b_check_circle T) .nil (passes_call (takes_of rfl rfl rfl rfl) (fun _ _ _ _ h => h)) (pa_cons (pv 0) (pa_cons (pv 1) (pa_cons (pv 2) pa_nil)))))
       (pss_cons (ps_if (pt_cmpR op_eq (pe_call (ok_turn T) (hr.mono (by decide)) (by rfl) T.g_turn T.F_turn.kp (b_turn T) .nil pass0 (pa_cons (pv 0) (pa_cons (pv 1) (pa_cons (pv 2) pa_nil)))) pe_int (nomark _))
       (pss_one (ps_raise rfl (takes_of rfl rfl rfl rfl) (pmk_oexA0 T.X_NoCircle T.i_NoCircle T.t_NoCircle (ok_NoCircle_init T) (hr.mono (by decide)) (b_NoCircle_init T) pass0 (by rfl) T.g_NoCircle)))
       pss_nil)
       (pss_cons (ps_set (i := 3) sc_circle.nd rfl (.inl rfl) (pe_call (ok_centre_of T) (hr.mono (by decide)) (by rfl) T.g_centre_of T.F_centre_of.kp (b_centre_of T) .nil pass0 (pa_cons (pv 0) (pa_cons (pv 1) (pa_cons (pv 2) pa_nil)))))
       (pss_one (ps_ret (pe_tup (pa_cons (pv 3) (pa_cons (pe_call (ok_square_of T) (hr.mono (by decide)) (by rfl) T.g_square_of T.F_square_of.kp (b_square_of T) .nil pass0 (pa_cons (pv 3) (pa_cons (pv 0) pa_nil))) pa_nil)))))))), ?_⟩
    rw [st_circle]
    walk_at "rd"
    refine ⟨a, b, c, b1, b2, b3, rfl, h1, h2, h3, r1, r2, r3, fun e1 e2 e3 H1 k1 => ?_⟩
    obtain ⟨ax, ay, ga⟩ := (e1 ▸ h1).good
    obtain ⟨bx, by_, gb⟩ := (e2 ▸ h2 e1).good
    obtain ⟨cx, cy, gc⟩ := (e3 ▸ h3 e1 e2).good
    obtain ⟨ht, r⟩ := q e1 e2 e3 ax ay bx by_ cx cy ga gb gc
    obtain ⟨pa, rfl, ha, ba⟩ := ga.ext (.of k1)
    obtain ⟨pb, rfl, hb, bb⟩ := gb.ext (.of k1)
    obtain ⟨pc, rfl, hc, bc⟩ := gc.ext (.of k1)
    walk_at "rd"
    refine ⟨pa, pb, pc, ax, ay, bx, by_, cx, cy, rfl, ⟨ha, hb, hc, ba, bb, bc⟩, ?_⟩
    walk_at "rd"
    rw [decide_eq_true ht]
    refine iteT ?_
    walk_at "rd"
    refine ⟨by decide, fun a ha => ⟨a, rfl, upd_same, rfl, .inl ⟨upd_same, ?_⟩⟩⟩
    rw [del_new ha]
    exact r _ k1

def spx_in_circle (K : PySem.W.Frag) : Sp := fun vs H _ E => ∃ (a b c d : V) (b1 b2 b3 b4 : Bool), vs = [a, b, c, d] ∧ C3 K a b c b1 b2 b3 H E ∧ (b1 = true → b2 = true → b3 = true → SiteV H d b4 ∧ (b4 = false → RB K "d" H E) ∧ (b4 = true → ∀ ax ay bx by_ cx cy, IsSt H a ax ay → IsSt H b bx by_ → IsSt H c cx cy → turnZ ax ay bx by_ cx cy = 0 ∧ RN K H E))
theorem okx_in_circle (T : Tops K mg) : FnOk P w K mg base (L2.CX P w) 6 (He.ga K "in_circle") T.fd_in_circle P_in_circle (spx_in_circle K) := by
  refine T.F_in_circle.ok sc_in_circle (fun vs H Q E h => ?_) (fun cdv A outer s H vs Q E hr h => ?_)
  · obtain ⟨a, b, c, d, b1, b2, b3, b4, rfl, ⟨h1, h2, h3, r1, r2, r3⟩, q⟩ := h
    rfl
  · obtain ⟨a, b, c, d, b1, b2, b3, b4, rfl, ⟨h1, h2, h3, r1, r2, r3⟩, q⟩ := h
    refine ⟨_, (pss_cons (ps_expr (pe_call (okx_check_circle T) (hr.mono (by decide)) (by rfl) T.g_check_circle T.F_check_circle.kp (b_check_circle T) .nil (passes_call (takes_of rfl rfl rfl rfl) (fun _ _ _ _ h => h)) (pa_cons (pv 0) (pa_cons (pv 1) (pa_cons (pv 2) pa_nil)))))
       (pss_cons (ps_expr (pe_call (okx_check_site T) (hr.mono (by decide)) (by rfl) T.g_check_site T.F_check_site.kp (b_check_site T) .nil (passes_call (takes_of rfl rfl rfl rfl) (fun _ _ _ _ h => h)) (pa_cons pe_str (pa_cons (pv 3) pa_nil))))
       (pss_cons (ps_if (pt_cmpR op_eq (pe_call (ok_turn T) (hr.mono (by decide)) (by rfl) T.g_turn T.F_turn.kp (b_turn T) .nil pass0 (pa_cons (pv 0) (pa_cons (pv 1) (pa_cons (pv 2) pa_nil)))) pe_int (nomark _))
       (pss_one (ps_raise rfl (takes_of rfl rfl rfl rfl) (pmk_oexA0 T.X_NoCircle T.i_NoCircle T.t_NoCircle (ok_NoCircle_init T) (hr.mono (by decide)) (b_NoCircle_init T) pass0 (by rfl) T.g_NoCircle)))
       pss_nil)
       (pss_one (ps_ret (pe_call (ok_inside T) (hr.mono (by decide)) (by rfl) T.g_inside T.F_inside.kp (b_inside T) .nil pass0 (pa_cons (pv 0) (pa_cons (pv 1) (pa_cons (pv 2) (pa_cons (pv 3) pa_nil)))))))))), ?_⟩
    rw [st_in_circle]
    walk_at "rd"
    refine ⟨a, b, c, b1, b2, b3, rfl, h1, h2, h3, r1, r2, r3, fun e1 e2 e3 H1 k1 => ?_⟩
    obtain ⟨ax, ay, ga⟩ := (e1 ▸ h1).good
    obtain ⟨bx, by_, gb⟩ := (e2 ▸ h2 e1).good
    obtain ⟨cx, cy, gc⟩ := (e3 ▸ h3 e1 e2).good
    obtain ⟨h4, r4, q⟩ := q e1 e2 e3
    walk_at "rd"
    refine ⟨_, d, b4, rfl, h4.ext (.of k1), fun z => (r4 z).mono k1, fun e4 H2 k2 => ?_⟩
    have k12 := k1.trans k2
    obtain ⟨ht, r⟩ := q e4 ax ay bx by_ cx cy ga gb gc
    obtain ⟨pa, rfl, ha, ba⟩ := ga.ext (.of k12)
    obtain ⟨pb, rfl, hb, bb⟩ := gb.ext (.of k12)
    obtain ⟨pc, rfl, hc, bc⟩ := gc.ext (.of k12)
    walk_at "rd"
    refine ⟨pa, pb, pc, ax, ay, bx, by_, cx, cy, rfl, ⟨ha, hb, hc, ba, bb, bc⟩, ?_⟩
    walk_at "rd"
    rw [decide_eq_true ht]
    refine iteT ?_
    walk_at "rd"
    refine ⟨by decide, fun a ha => ⟨a, rfl, upd_same, rfl, .inl ⟨upd_same, ?_⟩⟩⟩
    rw [del_new ha]
    exact r _ k12
theorem okx_lift_side (T : Tops K mg) : FnOk P w K mg base (L2.CX P w) 7 (He.ga K "lift_side") T.fd_lift_side P_lift_side (spx_in_circle K) := by
  refine T.F_lift_side.ok sc_lift_side (fun vs H Q E h => ?_) (fun cdv A outer s H vs Q E hr h => ?_)
  · obtain ⟨a, b, c, d, b1, b2, b3, b4, rfl, h, q⟩ := h
    rfl
  · obtain ⟨a, b, c, d, b1, b2, b3, b4, rfl, h, q⟩ := h
    refine ⟨_, (pss_one (ps_ret (pe_op op_sub pe_int (pe_call (okx_in_circle T) (hr.mono (by decide)) (by rfl) T.g_in_circle T.F_in_circle.kp (b_in_circle T) .nil (passes_call (takes_of rfl rfl rfl rfl) (fun _ _ _ _ h => h)) (pa_cons (pv 0) (pa_cons (pv 1) (pa_cons (pv 2) (pa_cons (pv 3) pa_nil)))))))), ?_⟩
    rw [st_lift_side]
    walk_at "rd"
    exact ⟨a, b, c, d, b1, b2, b3, b4, rfl, h, q⟩

def IsPl (H : Hp) (v : V) (x y d : Int) : Prop := ∃ p : Addr, v = V.ref p ∧ H p = some (.tup [.int x, .int y, .int d]) ∧ Pl x y d
theorem IsPl.ext {H H' : Hp} {v : V} {x y d : Int} (h : IsPl H v x y d) (e : LamX.ExtN H H') : IsPl H' v x y d := by
  obtain ⟨p, e1, h, b⟩ := h
  exact ⟨p, e1, e _ _ h (fun _ z => by cases z), b⟩
theorem PlaceV.good {H : Hp} {v : V} (h : PlaceV H v true) : ∃ x y d, IsPl H v x y d := by
  rcases h with ⟨h, _⟩ | ⟨p, xs, rfl, h1, ⟨h, _⟩ | ⟨x, y, d, rfl, ⟨h, _⟩ | ⟨xi, yi, di, rfl, rfl, rfl, hb⟩⟩⟩
  · cases h
  · cases h
  · cases h
  · exact ⟨xi, yi, di, p, rfl, h1, plB_pl hb.symm⟩
def spx_square (K : PySem.W.Frag) : Sp := fun vs H Q E => ∃ (p s : V) (b1 b2 : Bool), vs = [p, s] ∧ PlaceV H p b1 ∧ (b1 = true → SiteV H s b2) ∧ (b1 = false → RB K "place" H E) ∧ (b1 = true → b2 = false → RB K "site" H E) ∧
  (b1 = true → b2 = true → ∀ x y d sx sy, IsPl H p x y d → IsSt H s sx sy → ∀ H' r, Same H H' → H' r = some (.tup [.int ((farZ x y d sx sy).fdiv (gZ (farZ x y d sx sy) (d * d))), .int ((d * d).fdiv (gZ (farZ x y d sx sy) (d * d)))]) → Q (.ref r) H')
theorem okx_square (T : Tops K mg) : FnOk P w K mg base (L2.CX P w) 5 (He.ga K "square") T.fd_square P_square (spx_square K) := by
  refine T.F_square.ok sc_square (fun vs H Q E h => ?_) (fun cdv A outer s H vs Q E hr h => ?_)
  · obtain ⟨p, s, b1, b2, rfl, h1, h2, r1, r2, q⟩ := h
    rfl
  · obtain ⟨p, s, b1, b2, rfl, h1, h2, r1, r2, q⟩ := h
    refine ⟨_, (pss_cons (ps_expr (pe_call (okx_check_place T) (hr.mono (by decide)) (by rfl) T.g_check_place T.F_check_place.kp (b_check_place T) .nil (passes_call (takes_of rfl rfl rfl rfl) (fun _ _ _ _ h => h)) (pa_cons pe_str (pa_cons (pv 0) pa_nil))))
       (pss_cons (ps_expr (pe_call (okx_check_site T) (hr.mono (by decide)) (by rfl) T.g_check_site T.F_check_site.kp (b_check_site T) .nil (passes_call (takes_of rfl rfl rfl rfl) (fun _ _ _ _ h => h)) (pa_cons pe_str (pa_cons (pv 1) pa_nil))))
       (pss_one (ps_ret (pe_call (ok_square_of T) (hr.mono (by decide)) (by rfl) T.g_square_of T.F_square_of.kp (b_square_of T) .nil pass0 (pa_cons (pv 0) (pa_cons (pv 1) pa_nil))))))), ?_⟩
    rw [st_square]
    walk_at "rd"
    refine ⟨_, p, b1, rfl, h1, r1, fun e1 H1 k1 => ?_⟩
    walk_at "rd"
    refine ⟨_, s, b2, rfl, (h2 e1).ext (.of k1), fun z => (r2 e1 z).mono k1, fun e2 H2 k2 => ?_⟩
    have k12 := k1.trans k2
    obtain ⟨x, y, d, gp⟩ := (e1 ▸ h1).good
    obtain ⟨sx, sy, gs⟩ := (e2 ▸ h2 e1).good
    have qq := q e1 e2 x y d sx sy gp gs
    obtain ⟨pp, rfl, hp, hl⟩ := gp.ext (.of k12)
    obtain ⟨ps, rfl, hs, bx, by_⟩ := gs.ext (.of k12)
    walk_at "rd"
    exact ⟨pp, ps, x, y, d, sx, sy, rfl, hp, hs, bx, by_, hl, fun r hr => qq _ r (k12.trans (same_new hr)) upd_same⟩

def spx_nearer (K : PySem.W.Frag) : Sp := fun vs H _ E => ∃ (p a b : V) (b1 b2 : Bool), vs = [p, a, b] ∧ PlaceV H p b1 ∧ (b1 = true → SiteV H a b2) ∧ (b1 = true → b2 = true → SiteV H b false) ∧ (b1 = false → RB K "place" H E) ∧ (b1 = true → b2 = false → RB K "a" H E) ∧ (b1 = true → b2 = true → RB K "b" H E)
theorem okx_nearer (T : Tops K mg) : FnOk P w K mg base (L2.CX P w) 5 (He.ga K "nearer") T.fd_nearer P_nearer (spx_nearer K) := by
  refine T.F_nearer.ok sc_nearer (fun vs H Q E h => ?_) (fun cdv A outer s H vs Q E hr h => ?_)
  · obtain ⟨p, a, b, b1, b2, rfl, h1, h2, h3, r1, r2, r3⟩ := h
    rfl
  · obtain ⟨p, a, b, b1, b2, rfl, h1, h2, h3, r1, r2, r3⟩ := h
    refine ⟨_, (pss_cons (ps_expr (pe_call (okx_check_place T) (hr.mono (by decide)) (by rfl) T.g_check_place T.F_check_place.kp (b_check_place T) .nil (passes_call (takes_of rfl rfl rfl rfl) (fun _ _ _ _ h => h)) (pa_cons pe_str (pa_cons (pv 0) pa_nil))))
       (pss_cons (ps_expr (pe_call (okx_check_site T) (hr.mono (by decide)) (by rfl) T.g_check_site T.F_check_site.kp (b_check_site T) .nil (passes_call (takes_of rfl rfl rfl rfl) (fun _ _ _ _ h => h)) (pa_cons pe_str (pa_cons (pv 1) pa_nil))))
       (pss_cons (ps_expr (pe_call (okx_check_site T) (hr.mono (by decide)) (by rfl) T.g_check_site T.F_check_site.kp (b_check_site T) .nil (passes_call (takes_of rfl rfl rfl rfl) (fun _ _ _ _ h => h)) (pa_cons pe_str (pa_cons (pv 2) pa_nil))))
       (pss_one (ps_ret (pe_call (ok_sign T) (hr.mono (by decide)) (by rfl) T.g_sign T.F_sign.kp (b_sign T) .nil pass0 (pa_cons (pe_call (ok_lead T) (hr.mono (by decide)) (by rfl) T.g_lead T.F_lead.kp (b_lead T) .nil pass0 (pa_cons (pv 0) (pa_cons (pv 1) (pa_cons (pv 2) pa_nil)))) pa_nil))))))), ?_⟩
    rw [st_nearer]
    walk_at "rd"
    refine ⟨_, p, b1, rfl, h1, r1, fun e1 H1 k1 => ?_⟩
    walk_at "rd"
    refine ⟨_, a, b2, rfl, (h2 e1).ext (.of k1), fun z => (r2 e1 z).mono k1, fun e2 H2 k2 => ?_⟩
    have k12 := k1.trans k2
    walk_at "rd"
    exact ⟨_, b, false, rfl, (h3 e1 e2).ext (.of k12), fun _ => (r3 e1 e2).mono k12, fun z => (by cases z)⟩

end

end NC
namespace NC
section
variable {P : Program} {w : World} {K : PySem.W.Frag} {mg : Str → Option Value} {base : Heap}

/-- a source of draws -/
def SrcL (xs : List V) : Prop := ∃ i j k : Int, xs = [.int i, .int j, .int k] ∧ 0 ≤ i ∧ 0 ≤ j ∧ j < 2147483647 ∧ 0 ≤ k
def sp_law_source_of : Sp := fun vs H Q _ => ∃ n : Int, vs = [.int n] ∧ ∀ p xs, H p = none → SrcL xs → Q (.ref p) (upd H p (.lst xs))
def sp_law_next : Sp := fun vs H Q _ => ∃ (s : Addr) (m : Int) (xs : List V), vs = [.ref s, .int m] ∧ H s = some (.lst xs) ∧ SrcL xs ∧ 0 < m ∧ m < 1267650600228229401496703205376 ∧ ∀ r ys, 0 ≤ r → r < m → SrcL ys → Q (.int r) (upd H s (.lst ys))
def sp_law_one : Sp := fun vs H Q _ => ∃ (s l : Addr) (xs zs : List V), vs = [.ref s, .ref l] ∧ H s = some (.lst xs) ∧ SrcL xs ∧ H l = some (.lst zs) ∧ s ≠ l ∧ 0 < zs.length ∧ zs.length < 1000000 ∧ ∀ z ys, z ∈ zs → SrcL ys → Q z (upd H s (.lst ys))
theorem ok_law_source_of (T : Tops K mg) : FnOk P w K mg base CX0 1 (He.ga K "_law_source_of") T.fd_law_source_of P_law_source_of sp_law_source_of := by
  refine T.F_law_source_of.ok sc_law_source_of (fun vs H Q E h => ?_) (fun cdv A outer s H vs Q E hr h => ?_)
  · obtain ⟨n, rfl, q⟩ := h
    rfl
  · obtain ⟨n, rfl, q⟩ := h
    refine ⟨_, PSs.nox ((pss_cons (ps_set (i := 0) sc_law_source_of.nd rfl (.inl rfl) (pe_ifExp (pt_cmpR op_ge (pv 0) pe_int (nomark _)) (pv 0) (pe_op op_sub (pe_op op_sub pe_int (pe_op op_mul pe_int (pv 0))) pe_int)))
       (pss_one (ps_ret (pe_lst (pa_cons (pe_op op_mul (pv 0) (pe_callTy call_intN (by rfl) T.m_int (by decide +kernel) (pa_cons (pe_cmpR op_ge (pv 0) (pe_op op_pow pe_int pe_int) (nomark _)) pa_nil))) (pa_cons (pe_op op_mod (pe_callTy call_intN (by rfl) T.m_int (by decide +kernel) (pa_cons (pv 0) pa_nil)) pe_int) (pa_cons pe_int pa_nil)))))))), ?_⟩
    rw [st_law_source_of]
    walk_at "rd"
    have fin : ∀ n : Int, 0 ≤ n → ∀ (p : Addr) (k : Bool), H p = none → Q (.ref p) (upd H p (.lst [.int (n * zsg k), .int (n % 2147483647), .int 0])) := fun n hn p k hp => by
      refine q p _ hp ⟨_, _, _, rfl, ?_, ?_, ?_, by decide⟩
      · exact Int.mul_nonneg hn (zsg_lo k)
      · exact Int.emod_nonneg _ (by decide)
      · exact Int.emod_lt_of_pos _ (by decide)
    refine ite2 (fun h => ?_) (fun h => ?_)
    · walk_at "rd"
      refine g_mul (mulR (Int.le_trans (by decide) (zsg_lo _)) (Int.le_trans (zsg_hi _) (by decide))) ?_
      walk_at "rd"
      exact ⟨len_le (n := 3) (by decide), fun p hp => fin n (of_decide_eq_true h) p _ hp⟩
    · have hn : ¬ (0 ≤ n) := fun z => h (decide_eq_true z)
      walk_at "rd"
      refine g_mul (mulR (Int.le_trans (by decide) (zsg_lo _)) (Int.le_trans (zsg_hi _) (by decide))) ?_
      walk_at "rd"
      exact ⟨len_le (n := 3) (by decide), fun p hp => fin (0 - 3 * n - 1) (by omega) p _ hp⟩
theorem ok_law_next (T : Tops K mg) : FnOk P w K mg base CX0 1 (He.ga K "_law_next") T.fd_law_next P_law_next sp_law_next := by
  refine T.F_law_next.ok sc_law_next (fun vs H Q E h => ?_) (fun cdv A outer s H vs Q E hr h => ?_)
  · obtain ⟨s, m, xs, rfl, hs, ⟨i, j, k, rfl, hi, hj, hj2, hk⟩, hm, hm2, q⟩ := h
    rfl
  · obtain ⟨s, m, xs, rfl, hs, ⟨i, j, k, rfl, hi, hj, hj2, hk⟩, hm, hm2, q⟩ := h
    refine ⟨_, PSs.nox ((pss_cons (ps_if (pt_cmpR op_gt (pe_ix (ix_listK K) (pv 0) pe_int (fun _ _ => rfl)) pe_int (nomark _))
       (pss_cons (ps_set (i := 2) sc_law_next.nd rfl (.inl rfl) (pe_op op_mod (pe_callTy call_intN (by rfl) T.m_int (by decide +kernel) (pa_cons (pe_ix (ix_listK K) (pv 0) pe_int (fun _ _ => rfl)) pa_nil)) (pv 1)))
       (pss_cons (ps_asg (pe_op op_fdivA (pe_ix (ix_listK K) (pv 0) pe_int (fun _ _ => rfl)) (pv 1)) (pg_sub (pv 0) pe_int set_list))
       (pss_one (ps_ret (pv 2)))))
       pss_nil)
       (pss_cons (ps_asg (pe_op op_add (pe_ix (ix_listK K) (pv 0) pe_int (fun _ _ => rfl)) pe_int) (pg_sub (pv 0) pe_int set_list))
       (pss_cons (ps_set (i := 3) sc_law_next.nd rfl (.inl rfl) pe_int)
       (pss_cons (ps_set (i := 4) sc_law_next.nd rfl (.inl rfl) (pe_op op_mod (pe_callTy call_intN (by rfl) T.m_int (by decide +kernel) (pa_cons (pe_op op_add (pe_op op_add (pe_ix (ix_listK K) (pv 0) pe_int (fun _ _ => rfl)) (pe_op op_mul pe_int (pe_ix (ix_listK K) (pv 0) pe_int (fun _ _ => rfl)))) pe_int) pa_nil)) (pv 3)))
       (pss_cons (ps_set (i := 4) sc_law_next.nd rfl (.inl rfl) (pe_op op_mod (pe_callTy call_intN (by rfl) T.m_int (by decide +kernel) (pa_cons (pe_op op_mul (pv 4) pe_int) pa_nil)) (pv 3)))
       (pss_cons (ps_set (i := 4) sc_law_next.nd rfl (.inl rfl) (pe_op op_mod (pe_callTy call_intN (by rfl) T.m_int (by decide +kernel) (pa_cons (pe_op op_mul (pv 4) (pe_op op_add (pe_op op_fdivA (pv 4) pe_int) pe_int)) pa_nil)) (pv 3)))
       (pss_cons (ps_set (i := 4) sc_law_next.nd rfl (.inl rfl) (pe_op op_mod (pe_callTy call_intN (by rfl) T.m_int (by decide +kernel) (pa_cons (pe_op op_mul (pv 4) (pe_op op_add (pe_op op_fdivA (pv 4) pe_int) pe_int)) pa_nil)) pe_int))
       (pss_one (ps_ret (pe_op op_mod (pe_callTy call_intN (by rfl) T.m_int (by decide +kernel) (pa_cons (pe_op op_fdivA (pv 4) pe_int) pa_nil)) (pv 1)))))))))))), ?_⟩
    rw [st_law_next]
    walk_at "rd"
    refine ite2 (fun h => ?_) (fun h => ?_)
    · have h0 : 0 < i := of_decide_eq_true h
      walk_at "rd"
      refine g_setL (j := 0) hs rfl ?_
      walk_at "rd"
      exact q _ _ (Int.emod_nonneg _ (by omega)) (Int.emod_lt_of_pos _ hm) ⟨_, _, _, rfl, by rw [Int.fdiv_eq_ediv_of_nonneg _ (by omega)]; exact Int.ediv_nonneg hi (by omega), hj, hj2, hk⟩
    · walk_at "rd"
      refine g_setL (j := 2) hs rfl ?_
      have hs1 : (upd H s (.lst ([.int i, .int j, .int k].set 2 (.int (k + 1))))) s = some (.lst [.int i, .int j, .int (k + 1)]) := upd_same
      walk_at "rd"
      have b1 : ∀ z : Int, 0 ≤ z % 2147483647 ∧ z % 2147483647 < 2147483647 := fun z => ⟨Int.emod_nonneg _ (by decide), Int.emod_lt_of_pos _ (by decide)⟩
      generalize e1 : (j + 104729 * (k + 1) + 7919) % 2147483647 = z1
      have hz1 := b1 (j + 104729 * (k + 1) + 7919)
      rw [e1] at hz1
      walk_at "rd"
      generalize e2 : z1 * 48271 % 2147483647 = z2
      have hz2 := b1 (z1 * 48271)
      rw [e2] at hz2
      walk_at "rd"
      generalize e3 : z2 * (z2.fdiv 1009 + 69621) % 2147483647 = z3
      have hz3 := b1 (z2 * (z2.fdiv 1009 + 69621))
      rw [e3] at hz3
      walk_at "rd"
      exact q _ _ (Int.emod_nonneg _ (by omega)) (Int.emod_lt_of_pos _ hm) ⟨_, _, _, rfl, hi, hj, hj2, by omega⟩
theorem ok_law_one (T : Tops K mg) : FnOk P w K mg base CX0 2 (He.ga K "_law_one") T.fd_law_one P_law_one sp_law_one := by
  refine T.F_law_one.ok sc_law_one (fun vs H Q E h => ?_) (fun cdv A outer s H vs Q E hr h => ?_)
  · obtain ⟨s, l, xs, zs, rfl, hs, hx, hl, ne, l0, l1, q⟩ := h
    rfl
  · obtain ⟨s, l, xs, zs, rfl, hs, hx, hl, ne, l0, l1, q⟩ := h
    refine ⟨_, PSs.nox ((pss_one (ps_ret (pe_ix (ix_listK K) (pv 1) (pe_call (ok_law_next T) (hr.mono (by decide)) (by rfl) T.g_law_next T.F_law_next.kp (b_law_next T) .nil pass0 (pa_cons (pv 0) (pa_cons (pe_callB (call_lenK K) (by rfl) T.m_len PySem.boot_len (pa_cons (pv 1) pa_nil)) pa_nil))) (fun _ _ => rfl))))), ?_⟩
    rw [st_law_one]
    walk_at "rd"
    refine ⟨s, _, xs, rfl, hs, hx, by omega, by omega, fun r ys r0 r1 hy => ?_⟩
    obtain ⟨n, rfl⟩ := Int.eq_ofNat_of_zero_le r0
    have hn : n < zs.length := by omega
    refine g_ixL (xs := zs) (v := zs[n]) (by rw [upd_ne (Ne.symm ne)]; exact hl) (atI_nat (List.getElem?_eq_getElem hn)) ?_
    exact q _ _ (List.getElem_mem hn) hy
theorem cutV_0 (xs : List V) (i : Nat) : cutV xs (some (i : Int)) (some ((i : Int) + 1)) = (xs.drop i).take 1 := by
  unfold cutV
  rw [show HT.sIx xs.length 0 (some (i : Int)) = min i xs.length from HT.sIx_nat xs.length 0 i]
  rw [show HT.sIx xs.length xs.length (some ((i : Int) + 1)) = min (i + 1) xs.length from HT.sIx_nat xs.length xs.length (i + 1)]
  by_cases h : i < xs.length
  · rw [show min i xs.length = i by omega, show min (i + 1) xs.length = i + 1 by omega, show i + 1 - i = 1 by omega]
  · rw [List.drop_eq_nil_of_le (by omega), List.drop_eq_nil_of_le (by omega), List.take_nil, List.take_nil]
def sp_law_cell_at (K : PySem.W.Frag) : Sp := fun vs H Q _ => ∃ (a : Addr) (ns : List Int) (i : Nat), vs = [.ref a, .int i] ∧ SqL K H a (ns.map V.int) ∧ ∀ H', Same H H' → Q (.int (ns.getD i 0)) H'
theorem ok_law_cell_at (T : Tops K mg) : FnOk P w K mg base CX0 1 (He.ga K "_law_cell_at") T.fd_law_cell_at P_law_cell_at (sp_law_cell_at K) := by
  refine T.F_law_cell_at.ok sc_law_cell_at (fun vs H Q E h => ?_) (fun cdv A outer s H vs Q E hr h => ?_)
  · obtain ⟨a, ns, i, rfl, hS, q⟩ := h
    rfl
  · obtain ⟨a, ns, i, rfl, hS, q⟩ := h
    refine ⟨_, PSs.nox ((pss_one (ps_ret (pe_ix (ix_listK K) (pe_op op_cat (pe_slice (sl_listK K) (pv 0) (po_some (pv 1)) (po_some (pe_op op_add (pv 1) pe_int))) (pe_lst (pa_cons pe_int pa_nil))) pe_int (fun _ _ => rfl))))), ?_⟩
    rw [st_law_cell_at]
    walk_at "rd"
    refine ⟨a, _, rfl, hS, fun p hp => ?_⟩
    walk_at "rd"
    refine ⟨by decide, fun p2 hp2 => ?_⟩
    have e1 : (upd (upd H p (.lst (cutV (ns.map V.int) (some (i : Int)) (some ((i : Int) + 1))))) p2 (.lst [.int 0])) p = some (.lst (cutV (ns.map V.int) (some (i : Int)) (some ((i : Int) + 1)))) := by
      rw [upd_ne (ne_of_none upd_same hp2), upd_same]
    refine ⟨p, p2, _, _, rfl, rfl, e1, upd_same, len_le (by
      rw [cutV_0, List.length_take]
      show _ + 1 ≤ _
      omega), fun p3 hp3 => ?_⟩
    have same : Same H (upd (upd (upd H p (.lst (cutV (ns.map V.int) (some (i : Int)) (some ((i : Int) + 1))))) p2 (.lst [.int 0])) p3 (.lst (cutV (ns.map V.int) (some (i : Int)) (some ((i : Int) + 1)) ++ [.int 0]))) := ((same_new hp).trans (same_new hp2)).trans (same_new hp3)
    walk_at "rd"
    refine g_ixL (v := .int (ns.getD i 0)) upd_same ?_ ?_
    · rw [cutV_0]
      show atI ((ns.map V.int).drop i |>.take 1 |>.append [.int 0]) ((0 : Nat) : Int) = _
      apply atI_nat
      by_cases h : i < ns.length
      · have e : ((ns.map V.int).drop i).take 1 = [.int ns[i]] := by
          rw [List.drop_eq_getElem_cons (by rw [List.length_map]; exact h)]
          simp
        rw [e, List.getD_eq_getElem?_getD, List.getElem?_eq_getElem h]
        rfl
      · rw [List.drop_eq_nil_of_le (by rw [List.length_map]; omega), List.getD_eq_getElem?_getD, List.getElem?_eq_none (l := ns) (by omega)]
        rfl
    · exact q _ same
def raisedE (K : PySem.W.Frag) (Q : VK) : XK := fun cls d H' => (∃ dd v, cls = .ref (He.ga K "InvalidBound") ∧ d = some dd ∧ H' dd = some (.xd [("argument", v)]) ∧ Q v H') ∨ (cls = .ref (He.ga K "NoCircle") ∧ Q (.str "circle") H')
/-- what _law_raised makes of a call -/
def raisedT (K : PySem.W.Frag) (al : Addr → XK → Hp → VK → Prop) (f : Addr) (H : Hp) (Q : VK) : Prop := al f (raisedE K Q) H (fun _ H1 => ∃ v, some (some V.non) = some (some v) ∧ Q v H1)
def sp_law_raised (K : PySem.W.Frag) (al : Addr → XK → Hp → VK → Prop) : Sp := fun vs H Q _ => ∃ f : Addr, vs = [.ref f] ∧ raisedT K al f H Q
theorem ok_law_raised (T : Tops K mg) {kk : Nat} {al : Addr → XK → Hp → VK → Prop} (ha : ∀ f, NCLam.Acts P w K mg base kk f (al f)) : FnOk P w K mg base CX0 (kk + 1) (He.ga K "_law_raised") T.fd_law_raised P_law_raised (sp_law_raised K al) := by
  refine T.F_law_raised.ok sc_law_raised (fun vs H Q E h => ?_) (fun cdv A outer s H vs Q E hr h => ?_)
  · obtain ⟨f, rfl, _⟩ := h
    rfl
  obtain ⟨f, rfl, h⟩ := h
  refine ⟨_, PSs.nox (pss_cons (ps_set (i := 1) sc_law_raised.nd rfl (.inl rfl) pe_non) (pss_cons (ps_try_any (X := (cxOf CX0 P w K mg base N_law_raised "_law_raised" (defScope (top 45)) (He.ga K "_law_raised") cdv A outer s H E).nox) (Wout := fun _ _ _ _ => False)
      (tb := fun W D σ H => ∃ (f : Addr) (E : XK), σ[0]? = some (some (V.ref f)) ∧ (∀ cls d H', E cls d H' → W cls d σ H') ∧ al f E H (fun _ H1 => D.nx σ H1))
      (l := [(.ref (He.ga K "InvalidBound"), some 2, fun a cls d D σ H => cls = .ref (He.ga K "InvalidBound") ∧ tAsg (tXf a cls d (He.ga K "InvalidBound") "argument" (tVar 2)) (gName 1) D σ H), (.ref (He.ga K "NoCircle"), none, fun _ _ _ => tAsg (tC (.str "circle")) (gName 1)), (.ref (He.ga K "CellError"), none, fun _ _ _ => tAsg (tC (.str "another")) (gName 1))]) rfl rfl LamX.takes0 (fun W pn xe tk _ => ?b) (.named (X := (cxOf CX0 P w K mg base N_law_raised "_law_raised" (defScope (top 45)) (He.ga K "_law_raised") cdv A outer s H E).nox) (i := 2) sc_law_raised.nd rfl rfl (by exact ⟨rfl, by decide, .inl T.g_InvalidBound⟩) (fun a oe cls d pn hz hf => ?h0) (.plain (X := (cxOf CX0 P w K mg base N_law_raised "_law_raised" (defScope (top 45)) (He.ga K "_law_raised") cdv A outer s H E).nox) (by exact ⟨rfl, by decide, .inl T.g_NoCircle⟩) (fun a oe cls d pn hz hf => ?h1) (.plain (X := (cxOf CX0 P w K mg base N_law_raised "_law_raised" (defScope (top 45)) (He.ga K "_law_raised") cdv A outer s H E).nox) (by exact ⟨rfl, by decide, .inl T.g_CellError⟩) (fun a oe cls d pn hz hf => ?h2) .nil)))) (pss_one (ps_ret (pv 1))))), ?e⟩
  case b => exact pss_one (ps_expr (NCLam.pe_act (X := Cx.tr ((cxOf CX0 P w K mg base N_law_raised "_law_raised" (defScope (top 45)) (He.ga K "_law_raised") cdv A outer s H E).nox) pn xe) (al := al) ha hr tk rfl (.inl rfl)))
  case h0 =>
    refine ⟨fun pins s' σ H' D I h' => ?_⟩
    obtain ⟨rfl, h3⟩ := h'
    exact (pss_one (ps_set (i := 1) sc_law_raised.nd rfl (.inl rfl) (pe_xf (X := (cxOf CX0 P w K mg base N_law_raised "_law_raised" (defScope (top 45)) (He.ga K "_law_raised") cdv A outer s H E).nox) (NCLam.ExcC.xf T.C_InvalidBound) T.n_InvalidBound_argument hz hf (pv 2)))).run pins s' σ H' D I h3
  case h1 => exact pss_one (ps_set (i := 1) sc_law_raised.nd rfl (.inl rfl) pe_str)
  case h2 => exact pss_one (ps_set (i := 1) sc_law_raised.nd rfl (.inl rfl) pe_str)
  case e =>
    rw [st_law_raised]
    refine ⟨f, raisedE K Q, rfl, fun cls d H' hE => ?_, h⟩
    rcases hE with ⟨dd, v, rfl, rfl, hd, q⟩ | ⟨rfl, q⟩
    · exact ⟨true, T.e_InvalidBound_InvalidBound, fun _ a na => ⟨rfl, g_asg ⟨.ref a, rfl, rfl, rfl, dd, _, v, rfl, hd, by simp [List.lookup], ⟨_, rfl, q⟩⟩⟩, fun z => by cases z⟩
    · exact ⟨false, T.e_NoCircle_InvalidBound, fun z => (by cases z), fun _ => ⟨true, T.e_NoCircle_NoCircle, fun _ a na => g_asg (g_c ⟨_, rfl, q⟩), fun z => by cases z⟩⟩

end

end NC
namespace NC
section
variable {P : Program} {w : World} {K : PySem.W.Frag} {mg : Str → Option Value} {base : Heap}

theorem eqvS (w : Str) : PyData.eqv (.str w) (.str w) = true := by simp [PyData.eqv]
def sp_law_all_raise (K : PySem.W.Frag) (al : Addr → XK → Hp → VK → Prop) : Sp := fun vs H Q _ => ∃ (l : Addr) (fs : List Addr) (w : Str), vs = [.ref l, .str w] ∧ SeqAt.shaped (PyData.str w) = true ∧ H l = some (.lst (fs.map V.ref)) ∧ fs.length ≤ 100 ∧
  (∀ f ∈ fs, ∀ (H' : Hp) (Q' : VK), Same H H' → (∀ H'', Same H' H'' → Q' (.str w) H'') → raisedT K al f H' Q') ∧ ∀ H', Same H H' → Q (.bl true) H'
theorem ok_law_all_raise (T : Tops K mg) {kk : Nat} {al : Addr → XK → Hp → VK → Prop} (ha : ∀ f, NCLam.Acts P w K mg base kk f (al f)) : FnOk P w K mg base CX0 (kk + 2) (He.ga K "_law_all_raise") T.fd_law_all_raise P_law_all_raise (sp_law_all_raise K al) := by
  refine T.F_law_all_raise.ok sc_law_all_raise (fun vs H Q E h => ?_) (fun cdv A outer s H vs Q E hr h => ?_)
  · obtain ⟨l, fs, w, rfl, _⟩ := h
    rfl
  · obtain ⟨l, fs, w, rfl, sh, hl, hn, h, q⟩ := h
    refine ⟨_, PSs.nox (pss_one (ps_ret (pe_cmpR (op_eqDK K hr.units) (pe_lc (own := [("_law_call_here", 2)]) (g := gName 2) rfl sc_law_all_raise.nd (pi_listK K (pv 0)) (blkOk_by (own := [("_law_call_here", 2)]) (N := N_law_all_raise) (sc := defScope (top 46)) (by decide +kernel)) (fun _ _ _ _ _ => (pg_name (i := 2) sc_law_all_raise.nd rfl (.inl rfl))) (fun _ _ _ _ _ => (pts_one (pt_cmpR (op_neDK K hr.units) (pe_call (ok_law_raised T ha) hr (by rfl) T.g_law_raised T.F_law_raised.kp (b_law_raised T) .nil pass0 (pa_cons (pv 2) pa_nil)) (pv 1) (nomark _)))) (fun _ _ _ _ _ => pe_int)) (pe_lst pa_nil) (nomark _)))), ?_⟩
    rw [st_law_all_raise]
    walk_at "rd"
    refine ⟨l, rfl, ⟨_, SqL.of hl⟩, fun D hD => ?_⟩
    refine lc_list (K := K) (a := l) (xs := fs.map V.ref) (fun i H' => Same H H' ∧ H' D = some (.lst [])) ⟨same_new hD, upd_same⟩ (fun i H' _ h => SqL.of (h.1 _ _ hl)) ?_ ?_
    · rintro i z H' hz ⟨hs, el⟩
      rw [List.getElem?_map] at hz
      obtain ⟨f, hf, rfl⟩ := Option.map_eq_some_iff.mp hz
      walk_at "rd"
      refine ⟨rfl, ?_⟩
      walk_at "rd"
      refine ⟨f, rfl, h f (List.mem_of_getElem? hf) H' _ hs fun H2 h2 => ?_⟩
      walk_at "rd"
      refine ⟨_, _, .str w, .str w, sh, sh, ?_⟩
      rw [eqvS]
      walk_at "rd"
      refine iteF ?_
      exact ⟨hs.trans h2, h2 _ _ el⟩
    · rintro H2 ⟨hs, el⟩
      walk_at "rd"
      refine ⟨by decide, fun le hle => ?_⟩
      have ke := same_new (o := .lst []) hle
      refine ⟨.list [], .list [], .lst (SqL.of (ke _ _ el)) .nil, .lst (SqL.of upd_same) .nil, by decide +kernel, by decide +kernel, ?_⟩
      exact q _ (hs.trans ke)

end

end NC
namespace NC
section
variable {P : Program} {w : World} {K : PySem.W.Frag} {mg : Str → Option Value} {base : Heap}
abbrev rQ_law_sites_right : Str := (envOfC "_law_sites_right" (defScope (top 47)) 0 0 .none).qual ++ "<lambda>"
abbrev rQ_law_places_right : Str := (envOfC "_law_places_right" (defScope (top 48)) 0 0 .none).qual ++ "<lambda>"
def tbs (K : PySem.W.Frag) : List (Addr × Str) := [((He.cT K ("_law_sites_right", none)).2, rQ_law_sites_right), ((He.cT K ("_law_places_right", none)).2, rQ_law_places_right)]
theorem mem_law_sites_right (K : PySem.W.Frag) : ((He.cT K ("_law_sites_right", none)).2, rQ_law_sites_right) ∈ tbs K := by
  unfold tbs
  simp
theorem uniq_law_sites_right (T : Tops K mg) : ∀ p ∈ tbs K, p.1 = (He.cT K ("_law_sites_right", none)).2 → p.2 = rQ_law_sites_right := fun p hp e => by
  unfold tbs at hp
  simp only [List.mem_cons, List.not_mem_nil, or_false] at hp
  rcases hp with rfl | rfl
  · rfl
  · exact absurd e.symm T.t_law_sites_right_law_places_right
theorem mem_law_places_right (K : PySem.W.Frag) : ((He.cT K ("_law_places_right", none)).2, rQ_law_places_right) ∈ tbs K := by
  unfold tbs
  simp
theorem uniq_law_places_right (T : Tops K mg) : ∀ p ∈ tbs K, p.1 = (He.cT K ("_law_places_right", none)).2 → p.2 = rQ_law_places_right := fun p hp e => by
  unfold tbs at hp
  simp only [List.mem_cons, List.not_mem_nil, or_false] at hp
  rcases hp with rfl | rfl
  · exact absurd e T.t_law_sites_right_law_places_right
  · rfl
theorem tabs0 {H : Hp} (h : ∀ p ∈ [He.cT K ("_law_sites_right", none), He.cT K ("_law_places_right", none)], H p.2 = some (.tbl #[])) : LamX.Tabs (tbs K) H := fun p hp => by
  unfold tbs at hp
  simp only [List.mem_cons, List.not_mem_nil, or_false] at hp
  rcases hp with rfl | rfl
  · exact LamX.TabS.nil (h _ (by simp))
  · exact LamX.TabS.nil (h _ (by simp))

theorem rb_raised {w : Str} {H : Hp} {Q : VK} (h : ∀ H', Same H H' → Q (.str w) H') : RB K w H (raisedE K Q) := fun H' d k n e => .inl ⟨d, _, rfl, rfl, e, h H' k⟩
theorem rn_raised {H : Hp} {Q : VK} (h : ∀ H', Same H H' → Q (.str "circle") H') : RN K H (raisedE K Q) := fun H' k => .inr ⟨rfl, h H' k⟩
theorem pl001 {H : Hp} {p : Addr} (h : H p = some (.tup [.int 0, .int 0, .int 1])) : PlaceV H (.ref p) true := .inr ⟨p, _, rfl, h, .inr ⟨_, _, _, rfl, .inr ⟨0, 0, 1, rfl, rfl, rfl, by decide +kernel⟩⟩⟩
theorem IsSt.inj {H : Hp} {v : V} {x y x2 y2 : Int} (h : IsSt H v x y) (g : IsSt H v x2 y2) : x = x2 ∧ y = y2 := by
  obtain ⟨p, rfl, h1, _⟩ := h
  obtain ⟨q, e, h2, _⟩ := g
  cases e
  rw [h1] at h2
  cases h2
  exact ⟨rfl, rfl⟩
theorem bad_len {H : Hp} {p : Addr} {xs : List V} (h : H p = some (.tup xs)) (n : xs.length ≠ 2) (m : xs.length ≤ 100) : SiteV H (.ref p) false := .inr ⟨p, xs, rfl, h, .inl ⟨rfl, n, m⟩⟩
theorem bad_x {H : Hp} {p : Addr} {x : V} {b : Bool} {y : V} (h : H p = some (.tup [x, y])) (hx : BetV H (0 - 1000000) 1000000 x false) (hy : BetV H (0 - 1000000) 1000000 y b) : SiteV H (.ref p) false := .inr ⟨p, _, rfl, h, .inr ⟨_, _, _, _, rfl, hx, hy, rfl⟩⟩
theorem bad_y {H : Hp} {p : Addr} {x y : V} {b : Bool} (h : H p = some (.tup [x, y])) (hx : BetV H (0 - 1000000) 1000000 x b) (hy : BetV H (0 - 1000000) 1000000 y false) : SiteV H (.ref p) false := .inr ⟨p, _, rfl, h, .inr ⟨_, _, _, _, rfl, hx, hy, by rw [Bool.and_false]⟩⟩
theorem bet0 {H : Hp} : BetV H (0 - 1000000) 1000000 (.int 0) true := .int (by decide) (by decide)

end

end NC
namespace NC
section
variable {P : Program} {w : World} {K : PySem.W.Frag} {mg : Str → Option Value} {base : Heap}

theorem BetV.no {H : Hp} {lo hi : Int} {v : V} (h : NI H v) : BetV H lo hi v false := .inr ⟨h, rfl⟩
theorem betH {H : Hp} : BetV H (0 - 1000000) 1000000 (.int (10 ^ (6 : Int).toNat + 1)) false := .out (by decide)
theorem betL {H : Hp} : BetV H (0 - 1000000) 1000000 (.int (-(10 ^ (6 : Int).toNat) - 1)) false := .out (by decide)
def sp_law_sites_right (K : PySem.W.Frag) : Sp := fun vs H Q _ => ∃ (pd : Addr) (v : V), vs = [.ref pd] ∧ H pd = some (.tup [v]) ∧ LamX.Tabs (tbs K) H ∧ ∀ H', LamX.ExtN H H' → LamX.Tabs (tbs K) H' → Q (.bl true) H'
theorem ok_law_sites_right (T : Tops K mg) (tb_law_sites_right : LamX.TabB base mg (He.cT K ("_law_sites_right", none)).1 (He.cT K ("_law_sites_right", none)).2) : FnOk P w K mg base CX0 17 (He.ga K "_law_sites_right") T.fd_law_sites_right P_law_sites_right (sp_law_sites_right K) := by
  refine T.F_law_sites_right.okC (p := ("_law_sites_right", none)) rfl sc_law_sites_right (fun vs H Q E h => ?_) (fun A outer s H vs Q E hr h => ?_)
  · obtain ⟨pd, v, rfl, hd, tb0, q⟩ := h
    rfl
  · obtain ⟨pd, v, rfl, hd, tb0, q⟩ := h
    refine ⟨_, PSs.nox ((pss_cons (ps_asg (pe_tup (pa_cons (pe_tup (pa_cons pe_int (pa_cons pe_int pa_nil))) (pa_cons (pe_tup (pa_cons pe_int (pa_cons pe_int pa_nil))) (pa_cons (pe_tup (pa_cons pe_int (pa_cons pe_int pa_nil))) pa_nil)))) (pg_tup rfl (pgs_cons (pg_name (i := 3) sc_law_sites_right.nd rfl (.inr rfl)) (pgs_cons (pg_name (i := 4) sc_law_sites_right.nd rfl (.inr rfl)) (pgs_cons (pg_name (i := 5) sc_law_sites_right.nd rfl (.inr rfl)) pgs_nil)))))
       (pss_cons (ps_set (i := 1) sc_law_sites_right.nd rfl (.inl rfl) (pe_lst (pa_cons pe_non (pa_cons pe_int (pa_cons pe_str (pa_cons (pe_lst (pa_cons pe_int (pa_cons pe_int pa_nil))) (pa_cons (pe_tup (pa_cons pe_int pa_nil)) (pa_cons (pe_tup (pa_cons pe_int (pa_cons pe_int (pa_cons pe_int pa_nil)))) (pa_cons (pe_tup (pa_cons pe_int (pa_cons pe_non pa_nil))) (pa_cons (pe_tup (pa_cons pe_bl (pa_cons pe_int pa_nil))) (pa_cons (pe_tup (pa_cons pe_int (pa_cons pe_bl pa_nil))) pa_nil)))))))))))
       (pss_cons (ps_set (i := 1) sc_law_sites_right.nd rfl (.inl rfl) (pe_op op_cat (pv 1) (pe_lst (pa_cons (pe_tup (pa_cons (pe_op op_add (pe_op op_pow pe_int pe_int) pe_int) (pa_cons pe_int pa_nil))) (pa_cons (pe_tup (pa_cons pe_int (pa_cons (pe_op op_sub (pe_un un_neg (pe_op op_pow pe_int pe_int)) pe_int) pa_nil))) pa_nil)))))
       (pss_cons (ps_for PassesOwn.never rfl (pi_listK K (pe_op op_cat (pv 1) (pe_lst (pa_cons pe_dnewT (pa_cons (pe_tup (pa_cons pe_str (pa_cons pe_int pa_nil))) (pa_cons (pe_tup (pa_cons (pe_tup (pa_cons pe_int pa_nil)) (pa_cons pe_int pa_nil))) (pa_cons (pv 0) (pa_cons (pe_tup (pa_cons (pv 0) (pa_cons pe_int pa_nil))) (pa_cons (pe_tup (pa_cons pe_int (pa_cons (pv 0) pa_nil))) pa_nil))))))))) (pg_name (i := 6) sc_law_sites_right.nd rfl (.inr rfl))
       (pss_cons (ps_set (i := 2) sc_law_sites_right.nd rfl (.inl rfl) (pe_lst (pa_cons (NCLam.pe_lamV (T := tbs K) tb_law_sites_right rfl (mem_law_sites_right K) (uniq_law_sites_right T) (NCLam.lamN_by (show NCLam.lamNB N_law_sites_right (defScope (top 47)) _ = true by decide +kernel)) rfl) (pa_cons (NCLam.pe_lamVD (T := tbs K) tb_law_sites_right rfl (mem_law_sites_right K) (uniq_law_sites_right T) (NCLam.lamN_by (show NCLam.lamNB N_law_sites_right (defScope (top 47)) _ = true by decide +kernel)) rfl) pa_nil))))
       (pss_cons (ps_set (i := 2) sc_law_sites_right.nd rfl (.inl rfl) (pe_op op_cat (pv 2) (pe_lst (pa_cons (NCLam.pe_lamV (T := tbs K) tb_law_sites_right rfl (mem_law_sites_right K) (uniq_law_sites_right T) (NCLam.lamN_by (show NCLam.lamNB N_law_sites_right (defScope (top 47)) _ = true by decide +kernel)) rfl) (pa_cons (NCLam.pe_lamVD (T := tbs K) tb_law_sites_right rfl (mem_law_sites_right K) (uniq_law_sites_right T) (NCLam.lamN_by (show NCLam.lamNB N_law_sites_right (defScope (top 47)) _ = true by decide +kernel)) rfl) pa_nil)))))
       (pss_cons (ps_set (i := 2) sc_law_sites_right.nd rfl (.inl rfl) (pe_op op_cat (pv 2) (pe_lst (pa_cons (NCLam.pe_lamV (T := tbs K) tb_law_sites_right rfl (mem_law_sites_right K) (uniq_law_sites_right T) (NCLam.lamN_by (show NCLam.lamNB N_law_sites_right (defScope (top 47)) _ = true by decide +kernel)) rfl) (pa_cons (NCLam.pe_lamVD (T := tbs K) tb_law_sites_right rfl (mem_law_sites_right K) (uniq_law_sites_right T) (NCLam.lamN_by (show NCLam.lamNB N_law_sites_right (defScope (top 47)) _ = true by decide +kernel)) rfl) pa_nil)))))
       (pss_cons (ps_if (pt_not (pt_val (NCLam.pe_callL (kk := 10) (NCLam.acting_or (NCLam.acting0 (params := NCLam.lamP (NCLam.eAt (NCLam.sExpr (NCLam.sBody (NCLam.nth (defBody (top 47)) 3) 0)) 0)) (body := NCLam.lamB (NCLam.eAt (NCLam.sExpr (NCLam.sBody (NCLam.nth (defBody (top 47)) 3) 0)) 0)) (scope := NCLam.lamS (NCLam.eAt (NCLam.sExpr (NCLam.sBody (NCLam.nth (defBody (top 47)) 3) 0)) 0)) (k := 9) (fun _ => rfl) (NCLam.lamN_by (show NCLam.lamNB N_law_sites_right (defScope (top 47)) _ = true by decide +kernel)) (fun _ _ _ => rfl) (fun B A outer s H E f c' hr => (pe_call (okx_side T) (hr.mono (by decide)) (by rfl) T.g_side T.F_side.kp (b_side T) .nil (passes_call (takes_of rfl rfl rfl rfl) (fun _ _ _ _ h => h)) (pa_cons (pv 6) (pa_cons pe_non (pa_cons pe_non pa_nil)))))) (NCLam.acting_or (NCLam.acting1 (params := NCLam.lamP (NCLam.eAt (NCLam.sExpr (NCLam.sBody (NCLam.nth (defBody (top 47)) 3) 0)) 1)) (body := NCLam.lamB (NCLam.eAt (NCLam.sExpr (NCLam.sBody (NCLam.nth (defBody (top 47)) 3) 0)) 1)) (scope := NCLam.lamS (NCLam.eAt (NCLam.sExpr (NCLam.sBody (NCLam.nth (defBody (top 47)) 3) 0)) 1)) (k := 9) (i := 0) (x := "_law_of") (fun _ => rfl) (NCLam.lamN_by (show NCLam.lamNB N_law_sites_right (defScope (top 47)) _ = true by decide +kernel)) rfl (fun _ _ _ _ _ => ⟨_, rfl, rfl⟩) (fun B A outer s H E f c' hr => (pe_call (okx_is_between_signs T) (hr.mono (by decide)) (by rfl) T.g_is_between_signs T.F_is_between_signs.kp (b_is_between_signs T) .nil (passes_call (takes_of rfl rfl rfl rfl) (fun _ _ _ _ h => h)) (pa_cons (pv 6) (pa_cons pe_non (pa_cons pe_non pa_nil)))))) (NCLam.acting_or (NCLam.acting0 (params := NCLam.lamP (NCLam.eAt (NCLam.eAt (NCLam.sExpr (NCLam.sBody (NCLam.nth (defBody (top 47)) 3) 1)) 1) 0)) (body := NCLam.lamB (NCLam.eAt (NCLam.eAt (NCLam.sExpr (NCLam.sBody (NCLam.nth (defBody (top 47)) 3) 1)) 1) 0)) (scope := NCLam.lamS (NCLam.eAt (NCLam.eAt (NCLam.sExpr (NCLam.sBody (NCLam.nth (defBody (top 47)) 3) 1)) 1) 0)) (k := 9) (fun _ => rfl) (NCLam.lamN_by (show NCLam.lamNB N_law_sites_right (defScope (top 47)) _ = true by decide +kernel)) (fun _ _ _ => rfl) (fun B A outer s H E f c' hr => (pe_call (okx_circle T) (hr.mono (by decide)) (by rfl) T.g_circle T.F_circle.kp (b_circle T) .nil (passes_call (takes_of rfl rfl rfl rfl) (fun _ _ _ _ h => h)) (pa_cons (pv 6) (pa_cons pe_non (pa_cons pe_non pa_nil)))))) (NCLam.acting_or (NCLam.acting1 (params := NCLam.lamP (NCLam.eAt (NCLam.eAt (NCLam.sExpr (NCLam.sBody (NCLam.nth (defBody (top 47)) 3) 1)) 1) 1)) (body := NCLam.lamB (NCLam.eAt (NCLam.eAt (NCLam.sExpr (NCLam.sBody (NCLam.nth (defBody (top 47)) 3) 1)) 1) 1)) (scope := NCLam.lamS (NCLam.eAt (NCLam.eAt (NCLam.sExpr (NCLam.sBody (NCLam.nth (defBody (top 47)) 3) 1)) 1) 1)) (k := 9) (i := 0) (x := "_law_of") (fun _ => rfl) (NCLam.lamN_by (show NCLam.lamNB N_law_sites_right (defScope (top 47)) _ = true by decide +kernel)) rfl (fun _ _ _ _ _ => ⟨_, rfl, rfl⟩) (fun B A outer s H E f c' hr => (pe_call (okx_in_circle T) (hr.mono (by decide)) (by rfl) T.g_in_circle T.F_in_circle.kp (b_in_circle T) .nil (passes_call (takes_of rfl rfl rfl rfl) (fun _ _ _ _ h => h)) (pa_cons (pv 6) (pa_cons pe_non (pa_cons pe_non (pa_cons pe_non pa_nil))))))) (NCLam.acting_or (NCLam.acting0 (params := NCLam.lamP (NCLam.eAt (NCLam.eAt (NCLam.sExpr (NCLam.sBody (NCLam.nth (defBody (top 47)) 3) 2)) 1) 0)) (body := NCLam.lamB (NCLam.eAt (NCLam.eAt (NCLam.sExpr (NCLam.sBody (NCLam.nth (defBody (top 47)) 3) 2)) 1) 0)) (scope := NCLam.lamS (NCLam.eAt (NCLam.eAt (NCLam.sExpr (NCLam.sBody (NCLam.nth (defBody (top 47)) 3) 2)) 1) 0)) (k := 9) (fun _ => rfl) (NCLam.lamN_by (show NCLam.lamNB N_law_sites_right (defScope (top 47)) _ = true by decide +kernel)) (fun _ _ _ => rfl) (fun B A outer s H E f c' hr => (pe_call (okx_lift_side T) (hr.mono (by decide)) (by rfl) T.g_lift_side T.F_lift_side.kp (b_lift_side T) .nil (passes_call (takes_of rfl rfl rfl rfl) (fun _ _ _ _ h => h)) (pa_cons (pv 6) (pa_cons pe_non (pa_cons pe_non (pa_cons pe_non pa_nil))))))) (NCLam.acting1 (params := NCLam.lamP (NCLam.eAt (NCLam.eAt (NCLam.sExpr (NCLam.sBody (NCLam.nth (defBody (top 47)) 3) 2)) 1) 1)) (body := NCLam.lamB (NCLam.eAt (NCLam.eAt (NCLam.sExpr (NCLam.sBody (NCLam.nth (defBody (top 47)) 3) 2)) 1) 1)) (scope := NCLam.lamS (NCLam.eAt (NCLam.eAt (NCLam.sExpr (NCLam.sBody (NCLam.nth (defBody (top 47)) 3) 2)) 1) 1)) (k := 9) (i := 0) (x := "_law_of") (fun _ => rfl) (NCLam.lamN_by (show NCLam.lamNB N_law_sites_right (defScope (top 47)) _ = true by decide +kernel)) rfl (fun _ _ _ _ _ => ⟨_, rfl, rfl⟩) (fun B A outer s H E f c' hr => (pe_call (okx_nearer T) (hr.mono (by decide)) (by rfl) T.g_nearer T.F_nearer.kp (b_nearer T) .nil (passes_call (takes_of rfl rfl rfl rfl) (fun _ _ _ _ h => h)) (pa_cons (pe_tup (pa_cons pe_int (pa_cons pe_int (pa_cons pe_int pa_nil)))) (pa_cons (pv 6) (pa_cons pe_non pa_nil))))))))))) (fun base al ha => ok_law_all_raise T ha) (hr.mono (by decide)) (by rfl) T.g_law_all_raise T.F_law_all_raise.kp (b_law_all_raise T) (pa_cons (pv 2) (pa_cons pe_str pa_nil)))))
       (pss_one (ps_ret pe_bl))
       pss_nil)
       (pss_cons (ps_set (i := 2) sc_law_sites_right.nd rfl (.inl rfl) (pe_lst (pa_cons (NCLam.pe_lamV (T := tbs K) tb_law_sites_right rfl (mem_law_sites_right K) (uniq_law_sites_right T) (NCLam.lamN_by (show NCLam.lamNB N_law_sites_right (defScope (top 47)) _ = true by decide +kernel)) rfl) (pa_cons (NCLam.pe_lamVD (T := tbs K) tb_law_sites_right rfl (mem_law_sites_right K) (uniq_law_sites_right T) (NCLam.lamN_by (show NCLam.lamNB N_law_sites_right (defScope (top 47)) _ = true by decide +kernel)) rfl) pa_nil))))
       (pss_cons (ps_set (i := 2) sc_law_sites_right.nd rfl (.inl rfl) (pe_op op_cat (pv 2) (pe_lst (pa_cons (NCLam.pe_lamVD (T := tbs K) tb_law_sites_right rfl (mem_law_sites_right K) (uniq_law_sites_right T) (NCLam.lamN_by (show NCLam.lamNB N_law_sites_right (defScope (top 47)) _ = true by decide +kernel)) rfl) pa_nil))))
       (pss_cons (ps_set (i := 2) sc_law_sites_right.nd rfl (.inl rfl) (pe_op op_cat (pv 2) (pe_lst (pa_cons (NCLam.pe_lamV (T := tbs K) tb_law_sites_right rfl (mem_law_sites_right K) (uniq_law_sites_right T) (NCLam.lamN_by (show NCLam.lamNB N_law_sites_right (defScope (top 47)) _ = true by decide +kernel)) rfl) (pa_cons (NCLam.pe_lamVD (T := tbs K) tb_law_sites_right rfl (mem_law_sites_right K) (uniq_law_sites_right T) (NCLam.lamN_by (show NCLam.lamNB N_law_sites_right (defScope (top 47)) _ = true by decide +kernel)) rfl) pa_nil)))))
       (pss_cons (ps_if (pt_not (pt_val (NCLam.pe_callL (kk := 10) (NCLam.acting_or (NCLam.acting0 (params := NCLam.lamP (NCLam.eAt (NCLam.sExpr (NCLam.sBody (NCLam.nth (defBody (top 47)) 3) 4)) 0)) (body := NCLam.lamB (NCLam.eAt (NCLam.sExpr (NCLam.sBody (NCLam.nth (defBody (top 47)) 3) 4)) 0)) (scope := NCLam.lamS (NCLam.eAt (NCLam.sExpr (NCLam.sBody (NCLam.nth (defBody (top 47)) 3) 4)) 0)) (k := 9) (fun _ => rfl) (NCLam.lamN_by (show NCLam.lamNB N_law_sites_right (defScope (top 47)) _ = true by decide +kernel)) (fun _ _ _ => rfl) (fun B A outer s H E f c' hr => (pe_call (okx_side T) (hr.mono (by decide)) (by rfl) T.g_side T.F_side.kp (b_side T) .nil (passes_call (takes_of rfl rfl rfl rfl) (fun _ _ _ _ h => h)) (pa_cons (pv 3) (pa_cons (pv 6) (pa_cons pe_non pa_nil)))))) (NCLam.acting_or (NCLam.acting1 (params := NCLam.lamP (NCLam.eAt (NCLam.sExpr (NCLam.sBody (NCLam.nth (defBody (top 47)) 3) 4)) 1)) (body := NCLam.lamB (NCLam.eAt (NCLam.sExpr (NCLam.sBody (NCLam.nth (defBody (top 47)) 3) 4)) 1)) (scope := NCLam.lamS (NCLam.eAt (NCLam.sExpr (NCLam.sBody (NCLam.nth (defBody (top 47)) 3) 4)) 1)) (k := 9) (i := 0) (x := "_law_of") (fun _ => rfl) (NCLam.lamN_by (show NCLam.lamNB N_law_sites_right (defScope (top 47)) _ = true by decide +kernel)) rfl (fun _ _ _ _ _ => ⟨_, rfl, rfl⟩) (fun B A outer s H E f c' hr => (pe_call (okx_is_between_signs T) (hr.mono (by decide)) (by rfl) T.g_is_between_signs T.F_is_between_signs.kp (b_is_between_signs T) .nil (passes_call (takes_of rfl rfl rfl rfl) (fun _ _ _ _ h => h)) (pa_cons (pv 3) (pa_cons (pv 6) (pa_cons pe_non pa_nil)))))) (NCLam.acting_or (NCLam.acting1 (params := NCLam.lamP (NCLam.eAt (NCLam.eAt (NCLam.sExpr (NCLam.sBody (NCLam.nth (defBody (top 47)) 3) 5)) 1) 0)) (body := NCLam.lamB (NCLam.eAt (NCLam.eAt (NCLam.sExpr (NCLam.sBody (NCLam.nth (defBody (top 47)) 3) 5)) 1) 0)) (scope := NCLam.lamS (NCLam.eAt (NCLam.eAt (NCLam.sExpr (NCLam.sBody (NCLam.nth (defBody (top 47)) 3) 5)) 1) 0)) (k := 9) (i := 0) (x := "_law_to") (fun _ => rfl) (NCLam.lamN_by (show NCLam.lamNB N_law_sites_right (defScope (top 47)) _ = true by decide +kernel)) rfl (fun _ _ _ _ _ => ⟨_, rfl, rfl⟩) (fun B A outer s H E f c' hr => (pe_call (okx_circle T) (hr.mono (by decide)) (by rfl) T.g_circle T.F_circle.kp (b_circle T) .nil (passes_call (takes_of rfl rfl rfl rfl) (fun _ _ _ _ h => h)) (pa_cons (pv 3) (pa_cons (pv 6) (pa_cons pe_non pa_nil)))))) (NCLam.acting_or (NCLam.acting0 (params := NCLam.lamP (NCLam.eAt (NCLam.eAt (NCLam.sExpr (NCLam.sBody (NCLam.nth (defBody (top 47)) 3) 6)) 1) 0)) (body := NCLam.lamB (NCLam.eAt (NCLam.eAt (NCLam.sExpr (NCLam.sBody (NCLam.nth (defBody (top 47)) 3) 6)) 1) 0)) (scope := NCLam.lamS (NCLam.eAt (NCLam.eAt (NCLam.sExpr (NCLam.sBody (NCLam.nth (defBody (top 47)) 3) 6)) 1) 0)) (k := 9) (fun _ => rfl) (NCLam.lamN_by (show NCLam.lamNB N_law_sites_right (defScope (top 47)) _ = true by decide +kernel)) (fun _ _ _ => rfl) (fun B A outer s H E f c' hr => (pe_call (okx_in_circle T) (hr.mono (by decide)) (by rfl) T.g_in_circle T.F_in_circle.kp (b_in_circle T) .nil (passes_call (takes_of rfl rfl rfl rfl) (fun _ _ _ _ h => h)) (pa_cons (pv 3) (pa_cons (pv 6) (pa_cons pe_non (pa_cons pe_non pa_nil))))))) (NCLam.acting_or (NCLam.acting1 (params := NCLam.lamP (NCLam.eAt (NCLam.eAt (NCLam.sExpr (NCLam.sBody (NCLam.nth (defBody (top 47)) 3) 6)) 1) 1)) (body := NCLam.lamB (NCLam.eAt (NCLam.eAt (NCLam.sExpr (NCLam.sBody (NCLam.nth (defBody (top 47)) 3) 6)) 1) 1)) (scope := NCLam.lamS (NCLam.eAt (NCLam.eAt (NCLam.sExpr (NCLam.sBody (NCLam.nth (defBody (top 47)) 3) 6)) 1) 1)) (k := 9) (i := 0) (x := "_law_of") (fun _ => rfl) (NCLam.lamN_by (show NCLam.lamNB N_law_sites_right (defScope (top 47)) _ = true by decide +kernel)) rfl (fun _ _ _ _ _ => ⟨_, rfl, rfl⟩) (fun B A outer s H E f c' hr => (pe_call (okx_lift_side T) (hr.mono (by decide)) (by rfl) T.g_lift_side T.F_lift_side.kp (b_lift_side T) .nil (passes_call (takes_of rfl rfl rfl rfl) (fun _ _ _ _ h => h)) (pa_cons (pv 3) (pa_cons (pv 6) (pa_cons pe_non (pa_cons pe_non pa_nil))))))) (NCLam.acting0 (params := NCLam.lamP (NCLam.eAt (NCLam.eAt (NCLam.eAt (NCLam.eAt (NCLam.sExpr (NCLam.sBody (NCLam.nth (defBody (top 47)) 3) 7)) 0) 0) 1) 0)) (body := NCLam.lamB (NCLam.eAt (NCLam.eAt (NCLam.eAt (NCLam.eAt (NCLam.sExpr (NCLam.sBody (NCLam.nth (defBody (top 47)) 3) 7)) 0) 0) 1) 0)) (scope := NCLam.lamS (NCLam.eAt (NCLam.eAt (NCLam.eAt (NCLam.eAt (NCLam.sExpr (NCLam.sBody (NCLam.nth (defBody (top 47)) 3) 7)) 0) 0) 1) 0)) (k := 9) (fun _ => rfl) (NCLam.lamN_by (show NCLam.lamNB N_law_sites_right (defScope (top 47)) _ = true by decide +kernel)) (fun _ _ _ => rfl) (fun B A outer s H E f c' hr => (pe_call (okx_nearer T) (hr.mono (by decide)) (by rfl) T.g_nearer T.F_nearer.kp (b_nearer T) .nil (passes_call (takes_of rfl rfl rfl rfl) (fun _ _ _ _ h => h)) (pa_cons (pe_tup (pa_cons pe_int (pa_cons pe_int (pa_cons pe_int pa_nil)))) (pa_cons (pv 3) (pa_cons (pv 6) pa_nil))))))))))) (fun base al ha => ok_law_all_raise T ha) (hr.mono (by decide)) (by rfl) T.g_law_all_raise T.F_law_all_raise.kp (b_law_all_raise T) (pa_cons (pe_op op_cat (pv 2) (pe_lst (pa_cons (NCLam.pe_lamV (T := tbs K) tb_law_sites_right rfl (mem_law_sites_right K) (uniq_law_sites_right T) (NCLam.lamN_by (show NCLam.lamNB N_law_sites_right (defScope (top 47)) _ = true by decide +kernel)) rfl) pa_nil))) (pa_cons pe_str pa_nil)))))
       (pss_one (ps_ret pe_bl))
       pss_nil)
       (pss_cons (ps_set (i := 2) sc_law_sites_right.nd rfl (.inl rfl) (pe_lst (pa_cons (NCLam.pe_lamV (T := tbs K) tb_law_sites_right rfl (mem_law_sites_right K) (uniq_law_sites_right T) (NCLam.lamN_by (show NCLam.lamNB N_law_sites_right (defScope (top 47)) _ = true by decide +kernel)) rfl) (pa_cons (NCLam.pe_lamVD (T := tbs K) tb_law_sites_right rfl (mem_law_sites_right K) (uniq_law_sites_right T) (NCLam.lamN_by (show NCLam.lamNB N_law_sites_right (defScope (top 47)) _ = true by decide +kernel)) rfl) (pa_cons (NCLam.pe_lamVD (T := tbs K) tb_law_sites_right rfl (mem_law_sites_right K) (uniq_law_sites_right T) (NCLam.lamN_by (show NCLam.lamNB N_law_sites_right (defScope (top 47)) _ = true by decide +kernel)) rfl) pa_nil)))))
       (pss_cons (ps_set (i := 2) sc_law_sites_right.nd rfl (.inl rfl) (pe_op op_cat (pv 2) (pe_lst (pa_cons (NCLam.pe_lamV (T := tbs K) tb_law_sites_right rfl (mem_law_sites_right K) (uniq_law_sites_right T) (NCLam.lamN_by (show NCLam.lamNB N_law_sites_right (defScope (top 47)) _ = true by decide +kernel)) rfl) (pa_cons (NCLam.pe_lamVD (T := tbs K) tb_law_sites_right rfl (mem_law_sites_right K) (uniq_law_sites_right T) (NCLam.lamN_by (show NCLam.lamNB N_law_sites_right (defScope (top 47)) _ = true by decide +kernel)) rfl) pa_nil)))))
       (pss_cons (ps_if (pt_not (pt_val (NCLam.pe_callL (kk := 10) (NCLam.acting_or (NCLam.acting0 (params := NCLam.lamP (NCLam.eAt (NCLam.sExpr (NCLam.sBody (NCLam.nth (defBody (top 47)) 3) 8)) 0)) (body := NCLam.lamB (NCLam.eAt (NCLam.sExpr (NCLam.sBody (NCLam.nth (defBody (top 47)) 3) 8)) 0)) (scope := NCLam.lamS (NCLam.eAt (NCLam.sExpr (NCLam.sBody (NCLam.nth (defBody (top 47)) 3) 8)) 0)) (k := 9) (fun _ => rfl) (NCLam.lamN_by (show NCLam.lamNB N_law_sites_right (defScope (top 47)) _ = true by decide +kernel)) (fun _ _ _ => rfl) (fun B A outer s H E f c' hr => (pe_call (okx_side T) (hr.mono (by decide)) (by rfl) T.g_side T.F_side.kp (b_side T) .nil (passes_call (takes_of rfl rfl rfl rfl) (fun _ _ _ _ h => h)) (pa_cons (pv 3) (pa_cons (pv 4) (pa_cons (pv 6) pa_nil)))))) (NCLam.acting_or (NCLam.acting1 (params := NCLam.lamP (NCLam.eAt (NCLam.sExpr (NCLam.sBody (NCLam.nth (defBody (top 47)) 3) 8)) 1)) (body := NCLam.lamB (NCLam.eAt (NCLam.sExpr (NCLam.sBody (NCLam.nth (defBody (top 47)) 3) 8)) 1)) (scope := NCLam.lamS (NCLam.eAt (NCLam.sExpr (NCLam.sBody (NCLam.nth (defBody (top 47)) 3) 8)) 1)) (k := 9) (i := 0) (x := "_law_of") (fun _ => rfl) (NCLam.lamN_by (show NCLam.lamNB N_law_sites_right (defScope (top 47)) _ = true by decide +kernel)) rfl (fun _ _ _ _ _ => ⟨_, rfl, rfl⟩) (fun B A outer s H E f c' hr => (pe_call (okx_is_between_signs T) (hr.mono (by decide)) (by rfl) T.g_is_between_signs T.F_is_between_signs.kp (b_is_between_signs T) .nil (passes_call (takes_of rfl rfl rfl rfl) (fun _ _ _ _ h => h)) (pa_cons (pv 3) (pa_cons (pv 4) (pa_cons (pv 6) pa_nil)))))) (NCLam.acting_or (NCLam.acting1 (params := NCLam.lamP (NCLam.eAt (NCLam.sExpr (NCLam.sBody (NCLam.nth (defBody (top 47)) 3) 8)) 2)) (body := NCLam.lamB (NCLam.eAt (NCLam.sExpr (NCLam.sBody (NCLam.nth (defBody (top 47)) 3) 8)) 2)) (scope := NCLam.lamS (NCLam.eAt (NCLam.sExpr (NCLam.sBody (NCLam.nth (defBody (top 47)) 3) 8)) 2)) (k := 9) (i := 0) (x := "_law_to") (fun _ => rfl) (NCLam.lamN_by (show NCLam.lamNB N_law_sites_right (defScope (top 47)) _ = true by decide +kernel)) rfl (fun _ _ _ _ _ => ⟨_, rfl, rfl⟩) (fun B A outer s H E f c' hr => (pe_call (okx_circle T) (hr.mono (by decide)) (by rfl) T.g_circle T.F_circle.kp (b_circle T) .nil (passes_call (takes_of rfl rfl rfl rfl) (fun _ _ _ _ h => h)) (pa_cons (pv 3) (pa_cons (pv 3) (pa_cons (pv 6) pa_nil)))))) (NCLam.acting_or (NCLam.acting0 (params := NCLam.lamP (NCLam.eAt (NCLam.eAt (NCLam.sExpr (NCLam.sBody (NCLam.nth (defBody (top 47)) 3) 9)) 1) 0)) (body := NCLam.lamB (NCLam.eAt (NCLam.eAt (NCLam.sExpr (NCLam.sBody (NCLam.nth (defBody (top 47)) 3) 9)) 1) 0)) (scope := NCLam.lamS (NCLam.eAt (NCLam.eAt (NCLam.sExpr (NCLam.sBody (NCLam.nth (defBody (top 47)) 3) 9)) 1) 0)) (k := 9) (fun _ => rfl) (NCLam.lamN_by (show NCLam.lamNB N_law_sites_right (defScope (top 47)) _ = true by decide +kernel)) (fun _ _ _ => rfl) (fun B A outer s H E f c' hr => (pe_call (okx_in_circle T) (hr.mono (by decide)) (by rfl) T.g_in_circle T.F_in_circle.kp (b_in_circle T) .nil (passes_call (takes_of rfl rfl rfl rfl) (fun _ _ _ _ h => h)) (pa_cons (pv 3) (pa_cons (pv 3) (pa_cons (pv 6) (pa_cons pe_non pa_nil))))))) (NCLam.acting1 (params := NCLam.lamP (NCLam.eAt (NCLam.eAt (NCLam.sExpr (NCLam.sBody (NCLam.nth (defBody (top 47)) 3) 9)) 1) 1)) (body := NCLam.lamB (NCLam.eAt (NCLam.eAt (NCLam.sExpr (NCLam.sBody (NCLam.nth (defBody (top 47)) 3) 9)) 1) 1)) (scope := NCLam.lamS (NCLam.eAt (NCLam.eAt (NCLam.sExpr (NCLam.sBody (NCLam.nth (defBody (top 47)) 3) 9)) 1) 1)) (k := 9) (i := 0) (x := "_law_of") (fun _ => rfl) (NCLam.lamN_by (show NCLam.lamNB N_law_sites_right (defScope (top 47)) _ = true by decide +kernel)) rfl (fun _ _ _ _ _ => ⟨_, rfl, rfl⟩) (fun B A outer s H E f c' hr => (pe_call (okx_lift_side T) (hr.mono (by decide)) (by rfl) T.g_lift_side T.F_lift_side.kp (b_lift_side T) .nil (passes_call (takes_of rfl rfl rfl rfl) (fun _ _ _ _ h => h)) (pa_cons (pv 3) (pa_cons (pv 4) (pa_cons (pv 6) (pa_cons pe_non pa_nil))))))))))) (fun base al ha => ok_law_all_raise T ha) (hr.mono (by decide)) (by rfl) T.g_law_all_raise T.F_law_all_raise.kp (b_law_all_raise T) (pa_cons (pv 2) (pa_cons pe_str pa_nil)))))
       (pss_one (ps_ret pe_bl))
       pss_nil)
       (pss_cons (ps_set (i := 2) sc_law_sites_right.nd rfl (.inl rfl) (pe_lst (pa_cons (NCLam.pe_lamV (T := tbs K) tb_law_sites_right rfl (mem_law_sites_right K) (uniq_law_sites_right T) (NCLam.lamN_by (show NCLam.lamNB N_law_sites_right (defScope (top 47)) _ = true by decide +kernel)) rfl) (pa_cons (NCLam.pe_lamVD (T := tbs K) tb_law_sites_right rfl (mem_law_sites_right K) (uniq_law_sites_right T) (NCLam.lamN_by (show NCLam.lamNB N_law_sites_right (defScope (top 47)) _ = true by decide +kernel)) rfl) pa_nil))))
       (pss_one (ps_if (PW.pt (pw_or (pt_not (pt_val (NCLam.pe_callL (kk := 10) (NCLam.acting_or (NCLam.acting0 (params := NCLam.lamP (NCLam.eAt (NCLam.sExpr (NCLam.sBody (NCLam.nth (defBody (top 47)) 3) 11)) 0)) (body := NCLam.lamB (NCLam.eAt (NCLam.sExpr (NCLam.sBody (NCLam.nth (defBody (top 47)) 3) 11)) 0)) (scope := NCLam.lamS (NCLam.eAt (NCLam.sExpr (NCLam.sBody (NCLam.nth (defBody (top 47)) 3) 11)) 0)) (k := 9) (fun _ => rfl) (NCLam.lamN_by (show NCLam.lamNB N_law_sites_right (defScope (top 47)) _ = true by decide +kernel)) (fun _ _ _ => rfl) (fun B A outer s H E f c' hr => (pe_call (okx_in_circle T) (hr.mono (by decide)) (by rfl) T.g_in_circle T.F_in_circle.kp (b_in_circle T) .nil (passes_call (takes_of rfl rfl rfl rfl) (fun _ _ _ _ h => h)) (pa_cons (pv 3) (pa_cons (pv 3) (pa_cons (pv 4) (pa_cons (pv 6) pa_nil))))))) (NCLam.acting1 (params := NCLam.lamP (NCLam.eAt (NCLam.sExpr (NCLam.sBody (NCLam.nth (defBody (top 47)) 3) 11)) 1)) (body := NCLam.lamB (NCLam.eAt (NCLam.sExpr (NCLam.sBody (NCLam.nth (defBody (top 47)) 3) 11)) 1)) (scope := NCLam.lamS (NCLam.eAt (NCLam.sExpr (NCLam.sBody (NCLam.nth (defBody (top 47)) 3) 11)) 1)) (k := 9) (i := 0) (x := "_law_of") (fun _ => rfl) (NCLam.lamN_by (show NCLam.lamNB N_law_sites_right (defScope (top 47)) _ = true by decide +kernel)) rfl (fun _ _ _ _ _ => ⟨_, rfl, rfl⟩) (fun B A outer s H E f c' hr => (pe_call (okx_lift_side T) (hr.mono (by decide)) (by rfl) T.g_lift_side T.F_lift_side.kp (b_lift_side T) .nil (passes_call (takes_of rfl rfl rfl rfl) (fun _ _ _ _ h => h)) (pa_cons (pv 3) (pa_cons (pv 4) (pa_cons (pv 5) (pa_cons (pv 6) pa_nil)))))))) (fun base al ha => ok_law_all_raise T ha) (hr.mono (by decide)) (by rfl) T.g_law_all_raise T.F_law_all_raise.kp (b_law_all_raise T) (pa_cons (pv 2) (pa_cons pe_str pa_nil))))) (pw_or1 (pt_cmpR (op_neDK K hr.units) (NCLam.pe_callL (kk := 10) (NCLam.acting0 (params := NCLam.lamP (NCLam.eAt (NCLam.eAt (NCLam.eAt (NCLam.sExpr (NCLam.sBody (NCLam.nth (defBody (top 47)) 3) 12)) 1) 0) 0)) (body := NCLam.lamB (NCLam.eAt (NCLam.eAt (NCLam.eAt (NCLam.sExpr (NCLam.sBody (NCLam.nth (defBody (top 47)) 3) 12)) 1) 0) 0)) (scope := NCLam.lamS (NCLam.eAt (NCLam.eAt (NCLam.eAt (NCLam.sExpr (NCLam.sBody (NCLam.nth (defBody (top 47)) 3) 12)) 1) 0) 0)) (k := 9) (fun _ => rfl) (NCLam.lamN_by (show NCLam.lamNB N_law_sites_right (defScope (top 47)) _ = true by decide +kernel)) (fun _ _ _ => rfl) (fun B A outer s H E f c' hr => (pe_call (okx_square T) (hr.mono (by decide)) (by rfl) T.g_square T.F_square.kp (b_square T) .nil (passes_call (takes_of rfl rfl rfl rfl) (fun _ _ _ _ h => h)) (pa_cons (pe_tup (pa_cons pe_int (pa_cons pe_int (pa_cons pe_int pa_nil)))) (pa_cons (pv 6) pa_nil))))) (fun base al ha => ok_law_raised T ha) (hr.mono (by decide)) (by rfl) T.g_law_raised T.F_law_raised.kp (b_law_raised T) (pa_cons (NCLam.pe_lamV (T := tbs K) tb_law_sites_right rfl (mem_law_sites_right K) (uniq_law_sites_right T) (NCLam.lamN_by (show NCLam.lamNB N_law_sites_right (defScope (top 47)) _ = true by decide +kernel)) rfl) pa_nil)) pe_str (nomark _)))))
       (pss_one (ps_ret pe_bl))
       pss_nil)))))))))))))))
       (pss_cons (ps_set (i := 2) sc_law_sites_right.nd rfl (.inl rfl) (pe_lst (pa_cons (NCLam.pe_lamV (T := tbs K) tb_law_sites_right rfl (mem_law_sites_right K) (uniq_law_sites_right T) (NCLam.lamN_by (show NCLam.lamNB N_law_sites_right (defScope (top 47)) _ = true by decide +kernel)) rfl) (pa_cons (NCLam.pe_lamVD (T := tbs K) tb_law_sites_right rfl (mem_law_sites_right K) (uniq_law_sites_right T) (NCLam.lamN_by (show NCLam.lamNB N_law_sites_right (defScope (top 47)) _ = true by decide +kernel)) rfl) (pa_cons (NCLam.pe_lamVD (T := tbs K) tb_law_sites_right rfl (mem_law_sites_right K) (uniq_law_sites_right T) (NCLam.lamN_by (show NCLam.lamNB N_law_sites_right (defScope (top 47)) _ = true by decide +kernel)) rfl) pa_nil)))))
       (pss_cons (ps_if (pt_not (pt_val (NCLam.pe_callL (kk := 10) (NCLam.acting_or (NCLam.acting0 (params := NCLam.lamP (NCLam.eAt (NCLam.sExpr (NCLam.nth (defBody (top 47)) 4)) 0)) (body := NCLam.lamB (NCLam.eAt (NCLam.sExpr (NCLam.nth (defBody (top 47)) 4)) 0)) (scope := NCLam.lamS (NCLam.eAt (NCLam.sExpr (NCLam.nth (defBody (top 47)) 4)) 0)) (k := 9) (fun _ => rfl) (NCLam.lamN_by (show NCLam.lamNB N_law_sites_right (defScope (top 47)) _ = true by decide +kernel)) (fun _ _ _ => rfl) (fun B A outer s H E f c' hr => (pe_call (okx_circle T) (hr.mono (by decide)) (by rfl) T.g_circle T.F_circle.kp (b_circle T) .nil (passes_call (takes_of rfl rfl rfl rfl) (fun _ _ _ _ h => h)) (pa_cons (pv 3) (pa_cons (pv 3) (pa_cons (pv 4) pa_nil)))))) (NCLam.acting_or (NCLam.acting1 (params := NCLam.lamP (NCLam.eAt (NCLam.sExpr (NCLam.nth (defBody (top 47)) 4)) 1)) (body := NCLam.lamB (NCLam.eAt (NCLam.sExpr (NCLam.nth (defBody (top 47)) 4)) 1)) (scope := NCLam.lamS (NCLam.eAt (NCLam.sExpr (NCLam.nth (defBody (top 47)) 4)) 1)) (k := 9) (i := 0) (x := "_law_of") (fun _ => rfl) (NCLam.lamN_by (show NCLam.lamNB N_law_sites_right (defScope (top 47)) _ = true by decide +kernel)) rfl (fun _ _ _ _ _ => ⟨_, rfl, rfl⟩) (fun B A outer s H E f c' hr => (pe_call (okx_circle T) (hr.mono (by decide)) (by rfl) T.g_circle T.F_circle.kp (b_circle T) .nil (passes_call (takes_of rfl rfl rfl rfl) (fun _ _ _ _ h => h)) (pa_cons (pv 3) (pa_cons (pv 4) (pa_cons (pe_tup (pa_cons pe_int (pa_cons pe_int pa_nil))) pa_nil)))))) (NCLam.acting_or (NCLam.acting1 (params := NCLam.lamP (NCLam.eAt (NCLam.sExpr (NCLam.nth (defBody (top 47)) 4)) 2)) (body := NCLam.lamB (NCLam.eAt (NCLam.sExpr (NCLam.nth (defBody (top 47)) 4)) 2)) (scope := NCLam.lamS (NCLam.eAt (NCLam.sExpr (NCLam.nth (defBody (top 47)) 4)) 2)) (k := 9) (i := 0) (x := "_law_to") (fun _ => rfl) (NCLam.lamN_by (show NCLam.lamNB N_law_sites_right (defScope (top 47)) _ = true by decide +kernel)) rfl (fun _ _ _ _ _ => ⟨_, rfl, rfl⟩) (fun B A outer s H E f c' hr => (pe_call (okx_in_circle T) (hr.mono (by decide)) (by rfl) T.g_in_circle T.F_in_circle.kp (b_in_circle T) .nil (passes_call (takes_of rfl rfl rfl rfl) (fun _ _ _ _ h => h)) (pa_cons (pv 3) (pa_cons (pv 4) (pa_cons (pv 4) (pa_cons (pv 5) pa_nil))))))) (NCLam.acting0 (params := NCLam.lamP (NCLam.eAt (NCLam.eAt (NCLam.eAt (NCLam.eAt (NCLam.sExpr (NCLam.nth (defBody (top 47)) 5)) 0) 0) 1) 0)) (body := NCLam.lamB (NCLam.eAt (NCLam.eAt (NCLam.eAt (NCLam.eAt (NCLam.sExpr (NCLam.nth (defBody (top 47)) 5)) 0) 0) 1) 0)) (scope := NCLam.lamS (NCLam.eAt (NCLam.eAt (NCLam.eAt (NCLam.eAt (NCLam.sExpr (NCLam.nth (defBody (top 47)) 5)) 0) 0) 1) 0)) (k := 9) (fun _ => rfl) (NCLam.lamN_by (show NCLam.lamNB N_law_sites_right (defScope (top 47)) _ = true by decide +kernel)) (fun _ _ _ => rfl) (fun B A outer s H E f c' hr => (pe_call (okx_lift_side T) (hr.mono (by decide)) (by rfl) T.g_lift_side T.F_lift_side.kp (b_lift_side T) .nil (passes_call (takes_of rfl rfl rfl rfl) (fun _ _ _ _ h => h)) (pa_cons (pv 3) (pa_cons (pe_tup (pa_cons pe_int (pa_cons pe_int pa_nil))) (pa_cons (pe_tup (pa_cons pe_int (pa_cons pe_int pa_nil))) (pa_cons (pv 5) pa_nil)))))))))) (fun base al ha => ok_law_all_raise T ha) (hr.mono (by decide)) (by rfl) T.g_law_all_raise T.F_law_all_raise.kp (b_law_all_raise T) (pa_cons (pe_op op_cat (pv 2) (pe_lst (pa_cons (NCLam.pe_lamV (T := tbs K) tb_law_sites_right rfl (mem_law_sites_right K) (uniq_law_sites_right T) (NCLam.lamN_by (show NCLam.lamNB N_law_sites_right (defScope (top 47)) _ = true by decide +kernel)) rfl) pa_nil))) (pa_cons pe_str pa_nil)))))
       (pss_one (ps_ret pe_bl))
       pss_nil)
       (pss_cons (ps_if (pt_not (pt_cmpR (op_eqDK K hr.units) (NCLam.pe_callL (kk := 10) (NCLam.acting0 (params := NCLam.lamP (NCLam.eAt (NCLam.eAt (NCLam.eAt (NCLam.sExpr (NCLam.nth (defBody (top 47)) 6)) 0) 0) 0)) (body := NCLam.lamB (NCLam.eAt (NCLam.eAt (NCLam.eAt (NCLam.sExpr (NCLam.nth (defBody (top 47)) 6)) 0) 0) 0)) (scope := NCLam.lamS (NCLam.eAt (NCLam.eAt (NCLam.eAt (NCLam.sExpr (NCLam.nth (defBody (top 47)) 6)) 0) 0) 0)) (k := 9) (fun _ => rfl) (NCLam.lamN_by (show NCLam.lamNB N_law_sites_right (defScope (top 47)) _ = true by decide +kernel)) (fun _ _ _ => rfl) (fun B A outer s H E f c' hr => (pe_call (okx_side T) (hr.mono (by decide)) (by rfl) T.g_side T.F_side.kp (b_side T) .nil (passes_call (takes_of rfl rfl rfl rfl) (fun _ _ _ _ h => h)) (pa_cons (pv 3) (pa_cons (pv 3) (pa_cons pe_non pa_nil)))))) (fun base al ha => ok_law_raised T ha) (hr.mono (by decide)) (by rfl) T.g_law_raised T.F_law_raised.kp (b_law_raised T) (pa_cons (NCLam.pe_lamV (T := tbs K) tb_law_sites_right rfl (mem_law_sites_right K) (uniq_law_sites_right T) (NCLam.lamN_by (show NCLam.lamNB N_law_sites_right (defScope (top 47)) _ = true by decide +kernel)) rfl) pa_nil)) pe_str (nomark _)))
       (pss_one (ps_ret pe_bl))
       pss_nil)
       (pss_cons (ps_if (pt_not (pt_cmpR NCKw.op_isB (pe_call (okx_is_between_signs T) (hr.mono (by decide)) (by rfl) T.g_is_between_signs T.F_is_between_signs.kp (b_is_between_signs T) .nil (NCLam.passN (fun _ _ _ z => z)) (pa_cons (pv 3) (pa_cons (pv 3) (pa_cons (pv 3) pa_nil)))) pe_bl (nomark _)))
       (pss_one (ps_ret pe_bl))
       pss_nil)
       (pss_one (ps_ret (pe_cmpR NCKw.op_isB (pe_call (okx_is_between_signs T) (hr.mono (by decide)) (by rfl) T.g_is_between_signs T.F_is_between_signs.kp (b_is_between_signs T) .nil (NCLam.passN (fun _ _ _ z => z)) (pa_cons (pv 3) (pa_cons (pv 3) (pa_cons (pv 4) pa_nil)))) pe_bl (nomark _))))))))))))), ?_⟩
    rw [st_law_sites_right]
    walk_at "rd"
    refine ⟨len_le (n := 2) (by decide), fun ta0 hta0 => ?_⟩
    walk_at "rd"
    refine ⟨len_le (n := 2) (by decide), fun ta1 hta1 => ?_⟩
    walk_at "rd"
    refine ⟨len_le (n := 2) (by decide), fun ta2 hta2 => ?_⟩
    walk_at "rd"
    refine ⟨len_le (n := 3) (by decide), fun taL htaL => ?_⟩
    have kta0 := same_new (o := .tup [.int 0, .int 0]) hta0
    have kta1 := same_new (o := .tup [.int 4, .int 0]) hta1
    have kta2 := same_new (o := .tup [.int 1, .int 3]) hta2
    have ktaL := same_new (o := .tup [.ref ta0, .ref ta1, .ref ta2]) htaL
    have fta0 := ktaL _ _ (kta2 _ _ (kta1 _ _ (upd_same (H := H) (a := ta0) (o := .tup [.int 0, .int 0]))))
    have fta1 := ktaL _ _ (kta2 _ _ (upd_same (H := upd (H) ta0 (.tup [.int 0, .int 0])) (a := ta1) (o := .tup [.int 4, .int 0])))
    have fta2 := ktaL _ _ (upd_same (H := upd (upd (H) ta0 (.tup [.int 0, .int 0])) ta1 (.tup [.int 4, .int 0])) (a := ta2) (o := .tup [.int 1, .int 3]))
    have ftaL := upd_same (H := upd (upd (upd (H) ta0 (.tup [.int 0, .int 0])) ta1 (.tup [.int 4, .int 0])) ta2 (.tup [.int 1, .int 3])) (a := taL) (o := .tup [.ref ta0, .ref ta1, .ref ta2])
    have kta := (kta0.trans (kta1.trans (kta2.trans ktaL)))
    generalize upd (upd (upd (upd (H) ta0 (.tup [.int 0, .int 0])) ta1 (.tup [.int 4, .int 0])) ta2 (.tup [.int 1, .int 3])) taL (.tup [.ref ta0, .ref ta1, .ref ta2]) = H1 at fta0 fta1 fta2 ftaL kta ⊢
    clear kta0 kta1 kta2 ktaL
    replace hd := kta _ _ hd
    have tb1 := tb0.ext kta
    walk_at "rd"
    refine ⟨len_le (n := 2) (by decide), fun oa0 hoa0 => ?_⟩
    walk_at "rd"
    refine ⟨len_le (n := 1) (by decide), fun oa1 hoa1 => ?_⟩
    walk_at "rd"
    refine ⟨len_le (n := 3) (by decide), fun oa2 hoa2 => ?_⟩
    walk_at "rd"
    refine ⟨len_le (n := 2) (by decide), fun oa3 hoa3 => ?_⟩
    walk_at "rd"
    refine ⟨len_le (n := 2) (by decide), fun oa4 hoa4 => ?_⟩
    walk_at "rd"
    refine ⟨len_le (n := 2) (by decide), fun oa5 hoa5 => ?_⟩
    walk_at "rd"
    refine ⟨len_le (n := 9) (by decide), fun oaL hoaL => ?_⟩
    have koa0 := same_new (o := .lst [.int 0, .int 0]) hoa0
    have koa1 := same_new (o := .tup [.int 0]) hoa1
    have koa2 := same_new (o := .tup [.int 0, .int 0, .int 1]) hoa2
    have koa3 := same_new (o := .tup [.int 0, .non]) hoa3
    have koa4 := same_new (o := .tup [.bl true, .int 0]) hoa4
    have koa5 := same_new (o := .tup [.int 0, .bl false]) hoa5
    have koaL := same_new (o := .lst [.non, .int 5, .str "ab", .ref oa0, .ref oa1, .ref oa2, .ref oa3, .ref oa4, .ref oa5]) hoaL
    have foa0 := koaL _ _ (koa5 _ _ (koa4 _ _ (koa3 _ _ (koa2 _ _ (koa1 _ _ (upd_same (H := H1) (a := oa0) (o := .lst [.int 0, .int 0])))))))
    have foa1 := koaL _ _ (koa5 _ _ (koa4 _ _ (koa3 _ _ (koa2 _ _ (upd_same (H := upd (H1) oa0 (.lst [.int 0, .int 0])) (a := oa1) (o := .tup [.int 0]))))))
    have foa2 := koaL _ _ (koa5 _ _ (koa4 _ _ (koa3 _ _ (upd_same (H := upd (upd (H1) oa0 (.lst [.int 0, .int 0])) oa1 (.tup [.int 0])) (a := oa2) (o := .tup [.int 0, .int 0, .int 1])))))
    have foa3 := koaL _ _ (koa5 _ _ (koa4 _ _ (upd_same (H := upd (upd (upd (H1) oa0 (.lst [.int 0, .int 0])) oa1 (.tup [.int 0])) oa2 (.tup [.int 0, .int 0, .int 1])) (a := oa3) (o := .tup [.int 0, .non]))))
    have foa4 := koaL _ _ (koa5 _ _ (upd_same (H := upd (upd (upd (upd (H1) oa0 (.lst [.int 0, .int 0])) oa1 (.tup [.int 0])) oa2 (.tup [.int 0, .int 0, .int 1])) oa3 (.tup [.int 0, .non])) (a := oa4) (o := .tup [.bl true, .int 0])))
    have foa5 := koaL _ _ (upd_same (H := upd (upd (upd (upd (upd (H1) oa0 (.lst [.int 0, .int 0])) oa1 (.tup [.int 0])) oa2 (.tup [.int 0, .int 0, .int 1])) oa3 (.tup [.int 0, .non])) oa4 (.tup [.bl true, .int 0])) (a := oa5) (o := .tup [.int 0, .bl false]))
    have foaL := upd_same (H := upd (upd (upd (upd (upd (upd (H1) oa0 (.lst [.int 0, .int 0])) oa1 (.tup [.int 0])) oa2 (.tup [.int 0, .int 0, .int 1])) oa3 (.tup [.int 0, .non])) oa4 (.tup [.bl true, .int 0])) oa5 (.tup [.int 0, .bl false])) (a := oaL) (o := .lst [.non, .int 5, .str "ab", .ref oa0, .ref oa1, .ref oa2, .ref oa3, .ref oa4, .ref oa5])
    have koa := (koa0.trans (koa1.trans (koa2.trans (koa3.trans (koa4.trans (koa5.trans koaL))))))
    generalize upd (upd (upd (upd (upd (upd (upd (H1) oa0 (.lst [.int 0, .int 0])) oa1 (.tup [.int 0])) oa2 (.tup [.int 0, .int 0, .int 1])) oa3 (.tup [.int 0, .non])) oa4 (.tup [.bl true, .int 0])) oa5 (.tup [.int 0, .bl false])) oaL (.lst [.non, .int 5, .str "ab", .ref oa0, .ref oa1, .ref oa2, .ref oa3, .ref oa4, .ref oa5]) = H2 at foa0 foa1 foa2 foa3 foa4 foa5 foaL koa ⊢
    clear koa0 koa1 koa2 koa3 koa4 koa5 koaL
    replace hd := koa _ _ hd
    replace fta0 := koa _ _ fta0
    replace fta1 := koa _ _ fta1
    replace fta2 := koa _ _ fta2
    have tb2 := tb1.ext koa
    walk_at "rd"
    refine ⟨len_le (n := 2) (by decide), fun ob0 hob0 => ?_⟩
    walk_at "rd"
    refine ⟨len_le (n := 2) (by decide), fun ob1 hob1 => ?_⟩
    walk_at "rd"
    refine ⟨len_le (n := 2) (by decide), fun obL hobL => ?_⟩
    have kob0 := same_new (o := .tup [.int (10 ^ (6 : Int).toNat + 1), .int 0]) hob0
    have kob1 := same_new (o := .tup [.int 0, .int (-(10 ^ (6 : Int).toNat) - 1)]) hob1
    have kobL := same_new (o := .lst [.ref ob0, .ref ob1]) hobL
    have fob0 := kobL _ _ (kob1 _ _ (upd_same (H := H2) (a := ob0) (o := .tup [.int (10 ^ (6 : Int).toNat + 1), .int 0])))
    have fob1 := kobL _ _ (upd_same (H := upd (H2) ob0 (.tup [.int (10 ^ (6 : Int).toNat + 1), .int 0])) (a := ob1) (o := .tup [.int 0, .int (-(10 ^ (6 : Int).toNat) - 1)]))
    have fobL := upd_same (H := upd (upd (H2) ob0 (.tup [.int (10 ^ (6 : Int).toNat + 1), .int 0])) ob1 (.tup [.int 0, .int (-(10 ^ (6 : Int).toNat) - 1)])) (a := obL) (o := .lst [.ref ob0, .ref ob1])
    have kob := (kob0.trans (kob1.trans kobL))
    generalize upd (upd (upd (H2) ob0 (.tup [.int (10 ^ (6 : Int).toNat + 1), .int 0])) ob1 (.tup [.int 0, .int (-(10 ^ (6 : Int).toNat) - 1)])) obL (.lst [.ref ob0, .ref ob1]) = H3 at fob0 fob1 fobL kob ⊢
    clear kob0 kob1 kobL
    replace hd := kob _ _ hd
    replace fta0 := kob _ _ fta0
    replace fta1 := kob _ _ fta1
    replace fta2 := kob _ _ fta2
    replace foa0 := kob _ _ foa0
    replace foa1 := kob _ _ foa1
    replace foa2 := kob _ _ foa2
    replace foa3 := kob _ _ foa3
    replace foa4 := kob _ _ foa4
    replace foa5 := kob _ _ foa5
    replace foaL := kob _ _ foaL
    refine ⟨oaL, obL, [.non, .int 5, .str "ab", .ref oa0, .ref oa1, .ref oa2, .ref oa3, .ref oa4, .ref oa5], [.ref ob0, .ref ob1], rfl, rfl, foaL, fobL, len_le (n := 11) (by decide), fun mA hmA => ?_⟩
    have kmA := same_new (o := .lst ([.non, .int 5, .str "ab", .ref oa0, .ref oa1, .ref oa2, .ref oa3, .ref oa4, .ref oa5] ++ [.ref ob0, .ref ob1])) hmA
    have fmA : (upd H3 mA (.lst ([.non, .int 5, .str "ab", .ref oa0, .ref oa1, .ref oa2, .ref oa3, .ref oa4, .ref oa5] ++ [.ref ob0, .ref ob1]))) mA = some (.lst [.non, .int 5, .str "ab", .ref oa0, .ref oa1, .ref oa2, .ref oa3, .ref oa4, .ref oa5, .ref ob0, .ref ob1]) := upd_same
    generalize upd H3 mA (.lst ([.non, .int 5, .str "ab", .ref oa0, .ref oa1, .ref oa2, .ref oa3, .ref oa4, .ref oa5] ++ [.ref ob0, .ref ob1])) = H4 at kmA fmA ⊢
    replace hd := kmA _ _ hd
    replace fta0 := kmA _ _ fta0
    replace fta1 := kmA _ _ fta1
    replace fta2 := kmA _ _ fta2
    replace foa0 := kmA _ _ foa0
    replace foa1 := kmA _ _ foa1
    replace foa2 := kmA _ _ foa2
    replace foa3 := kmA _ _ foa3
    replace foa4 := kmA _ _ foa4
    replace foa5 := kmA _ _ foa5
    replace foaL := kmA _ _ foaL
    replace fob0 := kmA _ _ fob0
    replace fob1 := kmA _ _ fob1
    replace fobL := kmA _ _ fobL
    have tb4 := tb2.ext (kob.trans kmA)
    walk_at "nm"
    walk_at "rd"
    refine fun oc0 hoc0 => ?_
    walk_at "rd"
    refine ⟨len_le (n := 2) (by decide), fun oc1 hoc1 => ?_⟩
    walk_at "rd"
    refine ⟨len_le (n := 1) (by decide), fun oc2 hoc2 => ?_⟩
    walk_at "rd"
    refine ⟨len_le (n := 2) (by decide), fun oc3 hoc3 => ?_⟩
    walk_at "rd"
    refine ⟨len_le (n := 2) (by decide), fun oc4 hoc4 => ?_⟩
    walk_at "rd"
    refine ⟨len_le (n := 2) (by decide), fun oc5 hoc5 => ?_⟩
    walk_at "rd"
    refine ⟨len_le (n := 6) (by decide), fun ocL hocL => ?_⟩
    have koc0 := same_new (o := .dT []) hoc0
    have koc1 := same_new (o := .tup [.str "0", .int 0]) hoc1
    have koc2 := same_new (o := .tup [.int 0]) hoc2
    have koc3 := same_new (o := .tup [.ref oc2, .int 0]) hoc3
    have koc4 := same_new (o := .tup [.ref pd, .int 0]) hoc4
    have koc5 := same_new (o := .tup [.int 0, .ref pd]) hoc5
    have kocL := same_new (o := .lst [.ref oc0, .ref oc1, .ref oc3, .ref pd, .ref oc4, .ref oc5]) hocL
    have foc0 := kocL _ _ (koc5 _ _ (koc4 _ _ (koc3 _ _ (koc2 _ _ (koc1 _ _ (upd_same (H := H4) (a := oc0) (o := .dT [])))))))
    have foc1 := kocL _ _ (koc5 _ _ (koc4 _ _ (koc3 _ _ (koc2 _ _ (upd_same (H := upd (H4) oc0 (.dT [])) (a := oc1) (o := .tup [.str "0", .int 0]))))))
    have foc2 := kocL _ _ (koc5 _ _ (koc4 _ _ (koc3 _ _ (upd_same (H := upd (upd (H4) oc0 (.dT [])) oc1 (.tup [.str "0", .int 0])) (a := oc2) (o := .tup [.int 0])))))
    have foc3 := kocL _ _ (koc5 _ _ (koc4 _ _ (upd_same (H := upd (upd (upd (H4) oc0 (.dT [])) oc1 (.tup [.str "0", .int 0])) oc2 (.tup [.int 0])) (a := oc3) (o := .tup [.ref oc2, .int 0]))))
    have foc4 := kocL _ _ (koc5 _ _ (upd_same (H := upd (upd (upd (upd (H4) oc0 (.dT [])) oc1 (.tup [.str "0", .int 0])) oc2 (.tup [.int 0])) oc3 (.tup [.ref oc2, .int 0])) (a := oc4) (o := .tup [.ref pd, .int 0])))
    have foc5 := kocL _ _ (upd_same (H := upd (upd (upd (upd (upd (H4) oc0 (.dT [])) oc1 (.tup [.str "0", .int 0])) oc2 (.tup [.int 0])) oc3 (.tup [.ref oc2, .int 0])) oc4 (.tup [.ref pd, .int 0])) (a := oc5) (o := .tup [.int 0, .ref pd]))
    have focL := upd_same (H := upd (upd (upd (upd (upd (upd (H4) oc0 (.dT [])) oc1 (.tup [.str "0", .int 0])) oc2 (.tup [.int 0])) oc3 (.tup [.ref oc2, .int 0])) oc4 (.tup [.ref pd, .int 0])) oc5 (.tup [.int 0, .ref pd])) (a := ocL) (o := .lst [.ref oc0, .ref oc1, .ref oc3, .ref pd, .ref oc4, .ref oc5])
    have koc := (koc0.trans (koc1.trans (koc2.trans (koc3.trans (koc4.trans (koc5.trans kocL))))))
    generalize upd (upd (upd (upd (upd (upd (upd (H4) oc0 (.dT [])) oc1 (.tup [.str "0", .int 0])) oc2 (.tup [.int 0])) oc3 (.tup [.ref oc2, .int 0])) oc4 (.tup [.ref pd, .int 0])) oc5 (.tup [.int 0, .ref pd])) ocL (.lst [.ref oc0, .ref oc1, .ref oc3, .ref pd, .ref oc4, .ref oc5]) = H5 at foc0 foc1 foc2 foc3 foc4 foc5 focL koc ⊢
    clear koc0 koc1 koc2 koc3 koc4 koc5 kocL
    replace hd := koc _ _ hd
    replace fta0 := koc _ _ fta0
    replace fta1 := koc _ _ fta1
    replace fta2 := koc _ _ fta2
    replace foa0 := koc _ _ foa0
    replace foa1 := koc _ _ foa1
    replace foa2 := koc _ _ foa2
    replace foa3 := koc _ _ foa3
    replace foa4 := koc _ _ foa4
    replace foa5 := koc _ _ foa5
    replace foaL := koc _ _ foaL
    replace fob0 := koc _ _ fob0
    replace fob1 := koc _ _ fob1
    replace fobL := koc _ _ fobL
    replace fmA := koc _ _ fmA
    refine ⟨mA, ocL, [.non, .int 5, .str "ab", .ref oa0, .ref oa1, .ref oa2, .ref oa3, .ref oa4, .ref oa5, .ref ob0, .ref ob1], [.ref oc0, .ref oc1, .ref oc3, .ref pd, .ref oc4, .ref oc5], rfl, rfl, fmA, focL, len_le (n := 17) (by decide), fun mB hmB => ?_⟩
    have kmB := same_new (o := .lst ([.non, .int 5, .str "ab", .ref oa0, .ref oa1, .ref oa2, .ref oa3, .ref oa4, .ref oa5, .ref ob0, .ref ob1] ++ [.ref oc0, .ref oc1, .ref oc3, .ref pd, .ref oc4, .ref oc5])) hmB
    have fmB : (upd H5 mB (.lst ([.non, .int 5, .str "ab", .ref oa0, .ref oa1, .ref oa2, .ref oa3, .ref oa4, .ref oa5, .ref ob0, .ref ob1] ++ [.ref oc0, .ref oc1, .ref oc3, .ref pd, .ref oc4, .ref oc5]))) mB = some (.lst [.non, .int 5, .str "ab", .ref oa0, .ref oa1, .ref oa2, .ref oa3, .ref oa4, .ref oa5, .ref ob0, .ref ob1, .ref oc0, .ref oc1, .ref oc3, .ref pd, .ref oc4, .ref oc5]) := upd_same
    generalize upd H5 mB (.lst ([.non, .int 5, .str "ab", .ref oa0, .ref oa1, .ref oa2, .ref oa3, .ref oa4, .ref oa5, .ref ob0, .ref ob1] ++ [.ref oc0, .ref oc1, .ref oc3, .ref pd, .ref oc4, .ref oc5])) = H6 at kmB fmB ⊢
    replace hd := kmB _ _ hd
    replace fta0 := kmB _ _ fta0
    replace fta1 := kmB _ _ fta1
    replace fta2 := kmB _ _ fta2
    replace foa0 := kmB _ _ foa0
    replace foa1 := kmB _ _ foa1
    replace foa2 := kmB _ _ foa2
    replace foa3 := kmB _ _ foa3
    replace foa4 := kmB _ _ foa4
    replace foa5 := kmB _ _ foa5
    replace foaL := kmB _ _ foaL
    replace fob0 := kmB _ _ fob0
    replace fob1 := kmB _ _ fob1
    replace fobL := kmB _ _ fobL
    replace foc0 := kmB _ _ foc0
    replace foc1 := kmB _ _ foc1
    replace foc2 := kmB _ _ foc2
    replace foc3 := kmB _ _ foc3
    replace foc4 := kmB _ _ foc4
    replace foc5 := kmB _ _ foc5
    replace focL := kmB _ _ focL
    have tb6 := tb4.ext (koc.trans kmB)
    have k06 := kta.trans (koa.trans (kob.trans (kmA.trans (koc.trans kmB))))
    have bads : ∀ z ∈ ([.non, .int 5, .str "ab", .ref oa0, .ref oa1, .ref oa2, .ref oa3, .ref oa4, .ref oa5, .ref ob0, .ref ob1, .ref oc0, .ref oc1, .ref oc3, .ref pd, .ref oc4, .ref oc5] : List V), SiteV H6 z false := by
      intro z hz
      simp only [List.mem_cons, List.not_mem_nil, or_false] at hz
      rcases hz with rfl | rfl | rfl | rfl | rfl | rfl | rfl | rfl | rfl | rfl | rfl | rfl | rfl | rfl | rfl | rfl | rfl
      · exact .inl ⟨rfl, .inl rfl⟩
      · exact .inl ⟨rfl, .inr (.inl ⟨_, rfl⟩)⟩
      · exact .inl ⟨rfl, .inr (.inr (.inl ⟨_, rfl⟩))⟩
      · exact .inl ⟨rfl, .inr (.inr (.inr (.inr ⟨_, rfl, .inl ⟨_, foa0⟩⟩)))⟩
      · exact bad_len foa1 (by decide) (by decide)
      · exact bad_len foa2 (by decide) (by decide)
      · exact bad_y foa3 bet0 (.no (.inl rfl))
      · exact bad_x foa4 (.no (.inr (.inr (.inl ⟨_, rfl⟩)))) bet0
      · exact bad_y foa5 bet0 (.no (.inr (.inr (.inl ⟨_, rfl⟩))))
      · exact bad_x fob0 betH bet0
      · exact bad_y fob1 bet0 betL
      · exact .inl ⟨rfl, .inr (.inr (.inr (.inr ⟨_, rfl, .inr ⟨_, foc0⟩⟩)))⟩
      · exact bad_x foc1 (.no (.inr (.inl ⟨_, rfl⟩))) bet0
      · exact bad_x foc3 (.no (.inr (.inr (.inr ⟨_, rfl, .inr (.inl ⟨_, foc2⟩)⟩)))) bet0
      · exact bad_len hd (by show 1 ≠ 2; decide) (by show 1 ≤ 100; decide)
      · exact bad_x foc4 (.no (.inr (.inr (.inr ⟨_, rfl, .inr (.inl ⟨_, hd⟩)⟩)))) bet0
      · exact bad_y foc5 bet0 (.no (.inr (.inr (.inr ⟨_, rfl, .inr (.inl ⟨_, hd⟩)⟩))))
    have sa : IsSt H6 (.ref ta0) 0 0 := ⟨_, rfl, fta0, by unfold Bd; decide, by unfold Bd; decide⟩
    have sb : IsSt H6 (.ref ta1) 4 0 := ⟨_, rfl, fta1, by unfold Bd; decide, by unfold Bd; decide⟩
    have sc : IsSt H6 (.ref ta2) 1 3 := ⟨_, rfl, fta2, by unfold Bd; decide, by unfold Bd; decide⟩
    have q6 : ∀ H', LamX.ExtN H6 H' → LamX.Tabs (tbs K) H' → Q (.bl true) H' := fun H' x t => q H' (LamX.ExtN.trans (.of k06) x) t
    clear q tb0 tb1 tb2 tb4 k06 koa kob kmA koc kmB kta
    generalize ([.non, .int 5, .str "ab", .ref oa0, .ref oa1, .ref oa2, .ref oa3, .ref oa4, .ref oa5, .ref ob0, .ref ob1, .ref oc0, .ref oc1, .ref oc3, .ref pd, .ref oc4, .ref oc5] : List V) = items at fmB bads ⊢
    refine ⟨mB, rfl, ⟨_, SqL.of fmB⟩, ?_⟩
    refine for_list (K := K) (a := mB) (xs := items) (fun i σ H' => (∃ y1 y2 y6, σ = [some (.ref pd), y1, y2, some (.ref ta0), some (.ref ta1), some (.ref ta2), y6]) ∧ LamX.ExtN H6 H' ∧ LamX.Tabs (tbs K) H') ⟨⟨_, _, _, rfl⟩, .refl _, tb6⟩ (fun i σ H' _ h => SqL.of (h.2.1 _ _ fmB (fun _ z => by cases z))) ?_ ?_
    · rintro i z σ H7 hz ⟨⟨y1, y2, y6, rfl⟩, x7, tb7⟩
      have bo := bads z (List.mem_of_getElem? hz)
      walk_at "nm"
      walk_at "rd"
      refine ⟨tb7, fun f0 H1_0 x1_0 t1_0 n1_0 i1_0 => ?_⟩
      walk_at "rd"
      refine ⟨t1_0, fun f1 H1_1 x1_1 t1_1 n1_1 i1_1 => ?_⟩
      walk_at "rd"
      refine ⟨len_le (n := 2) (by decide), fun l1_0 hl1_0 => ?_⟩
      have kl1_0 := same_new (o := .lst [.ref f0, .ref f1]) hl1_0
      have el1_0 := upd_same (H := H1_1) (a := l1_0) (o := .lst [.ref f0, .ref f1])
      have ttl1_0 := t1_1.ext kl1_0
      generalize upd H1_1 l1_0 (.lst [.ref f0, .ref f1]) = Hl1_0 at kl1_0 el1_0 ttl1_0 ⊢
      walk_at "nm"
      walk_at "rd"
      refine ⟨ttl1_0, fun f2 H1_2 x1_2 t1_2 n1_2 i1_2 => ?_⟩
      walk_at "rd"
      refine ⟨t1_2, fun f3 H1_3 x1_3 t1_3 n1_3 i1_3 => ?_⟩
      walk_at "rd"
      refine ⟨len_le (n := 2) (by decide), fun l1_1 hl1_1 => ?_⟩
      have kl1_1 := same_new (o := .lst [.ref f2, .ref f3]) hl1_1
      have el1_1 := upd_same (H := H1_3) (a := l1_1) (o := .lst [.ref f2, .ref f3])
      have ttl1_1 := t1_3.ext kl1_1
      generalize upd H1_3 l1_1 (.lst [.ref f2, .ref f3]) = Hl1_1 at kl1_1 el1_1 ttl1_1 ⊢
      refine ⟨l1_0, l1_1, [.ref f0, .ref f1], [.ref f2, .ref f3], rfl, rfl, (x1_2.trans (x1_3.trans (LamX.ExtN.of kl1_1))) _ _ el1_0 (fun _ z => by cases z), el1_1, len_le (n := 4) (by decide), fun m1_1 hm1_1 => ?_⟩
      have km1_1 := same_new (o := .lst ([.ref f0, .ref f1] ++ [.ref f2, .ref f3])) hm1_1
      have em1_1 : (upd Hl1_1 m1_1 (.lst ([.ref f0, .ref f1] ++ [.ref f2, .ref f3]))) m1_1 = some (.lst [.ref f0, .ref f1, .ref f2, .ref f3]) := upd_same
      have ttm1_1 := ttl1_1.ext km1_1
      generalize upd Hl1_1 m1_1 (.lst ([.ref f0, .ref f1] ++ [.ref f2, .ref f3])) = Hm1_1 at km1_1 em1_1 ttm1_1 ⊢
      walk_at "nm"
      walk_at "rd"
      refine ⟨ttm1_1, fun f4 H1_4 x1_4 t1_4 n1_4 i1_4 => ?_⟩
      walk_at "rd"
      refine ⟨t1_4, fun f5 H1_5 x1_5 t1_5 n1_5 i1_5 => ?_⟩
      walk_at "rd"
      refine ⟨len_le (n := 2) (by decide), fun l1_2 hl1_2 => ?_⟩
      have kl1_2 := same_new (o := .lst [.ref f4, .ref f5]) hl1_2
      have el1_2 := upd_same (H := H1_5) (a := l1_2) (o := .lst [.ref f4, .ref f5])
      have ttl1_2 := t1_5.ext kl1_2
      generalize upd H1_5 l1_2 (.lst [.ref f4, .ref f5]) = Hl1_2 at kl1_2 el1_2 ttl1_2 ⊢
      refine ⟨m1_1, l1_2, [.ref f0, .ref f1, .ref f2, .ref f3], [.ref f4, .ref f5], rfl, rfl, (x1_4.trans (x1_5.trans (LamX.ExtN.of kl1_2))) _ _ em1_1 (fun _ z => by cases z), el1_2, len_le (n := 6) (by decide), fun m1_2 hm1_2 => ?_⟩
      have km1_2 := same_new (o := .lst ([.ref f0, .ref f1, .ref f2, .ref f3] ++ [.ref f4, .ref f5])) hm1_2
      have em1_2 : (upd Hl1_2 m1_2 (.lst ([.ref f0, .ref f1, .ref f2, .ref f3] ++ [.ref f4, .ref f5]))) m1_2 = some (.lst [.ref f0, .ref f1, .ref f2, .ref f3, .ref f4, .ref f5]) := upd_same
      have ttm1_2 := ttl1_2.ext km1_2
      generalize upd Hl1_2 m1_2 (.lst ([.ref f0, .ref f1, .ref f2, .ref f3] ++ [.ref f4, .ref f5])) = Hm1_2 at km1_2 em1_2 ttm1_2 ⊢
      have v0 := i1_0.ext (x1_1.trans ((LamX.ExtN.of kl1_0).trans (x1_2.trans (x1_3.trans ((LamX.ExtN.of kl1_1).trans ((LamX.ExtN.of km1_1).trans (x1_4.trans (x1_5.trans ((LamX.ExtN.of kl1_2).trans (LamX.ExtN.of km1_2))))))))))
      have v1 := i1_1.ext ((LamX.ExtN.of kl1_0).trans (x1_2.trans (x1_3.trans ((LamX.ExtN.of kl1_1).trans ((LamX.ExtN.of km1_1).trans (x1_4.trans (x1_5.trans ((LamX.ExtN.of kl1_2).trans (LamX.ExtN.of km1_2)))))))))
      have v2 := i1_2.ext (x1_3.trans ((LamX.ExtN.of kl1_1).trans ((LamX.ExtN.of km1_1).trans (x1_4.trans (x1_5.trans ((LamX.ExtN.of kl1_2).trans (LamX.ExtN.of km1_2)))))))
      have v3 := i1_3.ext ((LamX.ExtN.of kl1_1).trans ((LamX.ExtN.of km1_1).trans (x1_4.trans (x1_5.trans ((LamX.ExtN.of kl1_2).trans (LamX.ExtN.of km1_2))))))
      have v4 := i1_4.ext (x1_5.trans ((LamX.ExtN.of kl1_2).trans (LamX.ExtN.of km1_2)))
      have v5 := i1_5.ext ((LamX.ExtN.of kl1_2).trans (LamX.ExtN.of km1_2))
      have xf1 := LamX.ExtN.trans x7 (x1_0.trans (x1_1.trans ((LamX.ExtN.of kl1_0).trans (x1_2.trans (x1_3.trans ((LamX.ExtN.of kl1_1).trans ((LamX.ExtN.of km1_1).trans (x1_4.trans (x1_5.trans ((LamX.ExtN.of kl1_2).trans (LamX.ExtN.of km1_2)))))))))))
      have tf1 := ttm1_2
      have ef1 := em1_2
      walk_at "nm"
      walk_at "rd"
      refine ⟨m1_2, [f0, f1, f2, f3, f4, f5], "a", rfl, by decide +kernel, ef1, by show 6 ≤ 100; decide, fun f hf H' Q' hs hq => ?_, fun Hz1 hz => ?_⟩
      · have xx := xf1.trans (.of hs)
        have j0 := v0.ext (.of hs)
        have j1 := v1.ext (.of hs)
        have j2 := v2.ext (.of hs)
        have j3 := v3.ext (.of hs)
        have j4 := v4.ext (.of hs)
        have j5 := v5.ext (.of hs)
        have rb : RB K "a" H' (raisedE K Q') := rb_raised hq
        have BB := bo.ext xx
        have AA := sa.ext xx
        have BS := sb.ext xx
        have CC := sc.ext xx
        simp only [List.mem_cons, List.not_mem_nil, or_false] at hf
        rcases hf with rfl | rfl | rfl | rfl | rfl | rfl
        · refine .inl ⟨j0, ?_⟩
          walk_at "rd"
          exact ⟨_, _, _, false, false, rfl, BB, fun z => (by cases z), fun _ => rb, fun z => (by cases z), fun z => (by cases z)⟩
        · refine .inr (.inl ⟨j1, ?_⟩)
          walk_at "rd"
          exact ⟨_, _, _, false, false, false, rfl, BB, fun z => (by cases z), fun z => (by cases z), fun _ => rb, fun z => (by cases z), fun z => (by cases z), fun z => (by cases z)⟩
        · refine .inr (.inr (.inl ⟨j2, ?_⟩))
          walk_at "rd"
          exact ⟨_, _, _, false, false, false, rfl, ⟨BB, fun z => (by cases z), fun z => (by cases z), fun _ => rb, fun z => (by cases z), fun z => (by cases z)⟩, fun z => (by cases z)⟩
        · refine .inr (.inr (.inr (.inl ⟨j3, ?_⟩)))
          walk_at "rd"
          exact ⟨_, _, _, _, false, false, false, false, rfl, ⟨BB, fun z => (by cases z), fun z => (by cases z), fun _ => rb, fun z => (by cases z), fun z => (by cases z)⟩, fun z => (by cases z)⟩
        · refine .inr (.inr (.inr (.inr (.inl ⟨j4, ?_⟩))))
          walk_at "rd"
          exact ⟨_, _, _, _, false, false, false, false, rfl, ⟨BB, fun z => (by cases z), fun z => (by cases z), fun _ => rb, fun z => (by cases z), fun z => (by cases z)⟩, fun z => (by cases z)⟩
        · refine .inr (.inr (.inr (.inr (.inr (⟨j5, ?_⟩)))))
          walk_at "rd"
          refine ⟨len_le (n := 3) (by decide), fun tp htp => ?_⟩
          have kt := same_new (o := .tup [.int 0, .int 0, .int 1]) htp
          have PP : PlaceV (upd H' tp (.tup [.int 0, .int 0, .int 1])) (.ref tp) true := pl001 upd_same
          generalize upd H' tp (.tup [.int 0, .int 0, .int 1]) = Ht at kt PP ⊢
          walk_at "rd"
          exact ⟨_, _, _, true, false, rfl, PP, fun _ => BB.ext (.of kt), fun _ z => (by cases z), fun z => (by cases z), fun _ _ => rb.mono kt, fun _ z => (by cases z)⟩
      have tz1 := tf1.ext hz
      have xz1 := xf1.trans (.of hz)
      walk_at "rd"
      refine iteF ?_
      walk_at "rd"
      refine ⟨tz1, fun f0 H2_0 x2_0 t2_0 n2_0 i2_0 => ?_⟩
      walk_at "rd"
      refine ⟨t2_0, fun f1 H2_1 x2_1 t2_1 n2_1 i2_1 => ?_⟩
      walk_at "rd"
      refine ⟨len_le (n := 2) (by decide), fun l2_0 hl2_0 => ?_⟩
      have kl2_0 := same_new (o := .lst [.ref f0, .ref f1]) hl2_0
      have el2_0 := upd_same (H := H2_1) (a := l2_0) (o := .lst [.ref f0, .ref f1])
      have ttl2_0 := t2_1.ext kl2_0
      generalize upd H2_1 l2_0 (.lst [.ref f0, .ref f1]) = Hl2_0 at kl2_0 el2_0 ttl2_0 ⊢
      walk_at "nm"
      walk_at "rd"
      refine ⟨ttl2_0, fun f2 H2_2 x2_2 t2_2 n2_2 i2_2 => ?_⟩
      walk_at "rd"
      refine ⟨len_le (n := 1) (by decide), fun l2_1 hl2_1 => ?_⟩
      have kl2_1 := same_new (o := .lst [.ref f2]) hl2_1
      have el2_1 := upd_same (H := H2_2) (a := l2_1) (o := .lst [.ref f2])
      have ttl2_1 := t2_2.ext kl2_1
      generalize upd H2_2 l2_1 (.lst [.ref f2]) = Hl2_1 at kl2_1 el2_1 ttl2_1 ⊢
      refine ⟨l2_0, l2_1, [.ref f0, .ref f1], [.ref f2], rfl, rfl, (x2_2.trans (LamX.ExtN.of kl2_1)) _ _ el2_0 (fun _ z => by cases z), el2_1, len_le (n := 3) (by decide), fun m2_1 hm2_1 => ?_⟩
      have km2_1 := same_new (o := .lst ([.ref f0, .ref f1] ++ [.ref f2])) hm2_1
      have em2_1 : (upd Hl2_1 m2_1 (.lst ([.ref f0, .ref f1] ++ [.ref f2]))) m2_1 = some (.lst [.ref f0, .ref f1, .ref f2]) := upd_same
      have ttm2_1 := ttl2_1.ext km2_1
      generalize upd Hl2_1 m2_1 (.lst ([.ref f0, .ref f1] ++ [.ref f2])) = Hm2_1 at km2_1 em2_1 ttm2_1 ⊢
      walk_at "nm"
      walk_at "rd"
      refine ⟨ttm2_1, fun f3 H2_3 x2_3 t2_3 n2_3 i2_3 => ?_⟩
      walk_at "rd"
      refine ⟨t2_3, fun f4 H2_4 x2_4 t2_4 n2_4 i2_4 => ?_⟩
      walk_at "rd"
      refine ⟨len_le (n := 2) (by decide), fun l2_2 hl2_2 => ?_⟩
      have kl2_2 := same_new (o := .lst [.ref f3, .ref f4]) hl2_2
      have el2_2 := upd_same (H := H2_4) (a := l2_2) (o := .lst [.ref f3, .ref f4])
      have ttl2_2 := t2_4.ext kl2_2
      generalize upd H2_4 l2_2 (.lst [.ref f3, .ref f4]) = Hl2_2 at kl2_2 el2_2 ttl2_2 ⊢
      refine ⟨m2_1, l2_2, [.ref f0, .ref f1, .ref f2], [.ref f3, .ref f4], rfl, rfl, (x2_3.trans (x2_4.trans (LamX.ExtN.of kl2_2))) _ _ em2_1 (fun _ z => by cases z), el2_2, len_le (n := 5) (by decide), fun m2_2 hm2_2 => ?_⟩
      have km2_2 := same_new (o := .lst ([.ref f0, .ref f1, .ref f2] ++ [.ref f3, .ref f4])) hm2_2
      have em2_2 : (upd Hl2_2 m2_2 (.lst ([.ref f0, .ref f1, .ref f2] ++ [.ref f3, .ref f4]))) m2_2 = some (.lst [.ref f0, .ref f1, .ref f2, .ref f3, .ref f4]) := upd_same
      have ttm2_2 := ttl2_2.ext km2_2
      generalize upd Hl2_2 m2_2 (.lst ([.ref f0, .ref f1, .ref f2] ++ [.ref f3, .ref f4])) = Hm2_2 at km2_2 em2_2 ttm2_2 ⊢
      walk_at "nm"
      walk_at "rd"
      refine ⟨ttm2_2, fun f5 H2_5 x2_5 t2_5 n2_5 i2_5 => ?_⟩
      walk_at "rd"
      refine ⟨len_le (n := 1) (by decide), fun l2_3 hl2_3 => ?_⟩
      have kl2_3 := same_new (o := .lst [.ref f5]) hl2_3
      have el2_3 := upd_same (H := H2_5) (a := l2_3) (o := .lst [.ref f5])
      have ttl2_3 := t2_5.ext kl2_3
      generalize upd H2_5 l2_3 (.lst [.ref f5]) = Hl2_3 at kl2_3 el2_3 ttl2_3 ⊢
      refine ⟨m2_2, l2_3, [.ref f0, .ref f1, .ref f2, .ref f3, .ref f4], [.ref f5], rfl, rfl, (x2_5.trans (LamX.ExtN.of kl2_3)) _ _ em2_2 (fun _ z => by cases z), el2_3, len_le (n := 6) (by decide), fun m2_3 hm2_3 => ?_⟩
      have km2_3 := same_new (o := .lst ([.ref f0, .ref f1, .ref f2, .ref f3, .ref f4] ++ [.ref f5])) hm2_3
      have em2_3 : (upd Hl2_3 m2_3 (.lst ([.ref f0, .ref f1, .ref f2, .ref f3, .ref f4] ++ [.ref f5]))) m2_3 = some (.lst [.ref f0, .ref f1, .ref f2, .ref f3, .ref f4, .ref f5]) := upd_same
      have ttm2_3 := ttl2_3.ext km2_3
      generalize upd Hl2_3 m2_3 (.lst ([.ref f0, .ref f1, .ref f2, .ref f3, .ref f4] ++ [.ref f5])) = Hm2_3 at km2_3 em2_3 ttm2_3 ⊢
      have v0 := i2_0.ext (x2_1.trans ((LamX.ExtN.of kl2_0).trans (x2_2.trans ((LamX.ExtN.of kl2_1).trans ((LamX.ExtN.of km2_1).trans (x2_3.trans (x2_4.trans ((LamX.ExtN.of kl2_2).trans ((LamX.ExtN.of km2_2).trans (x2_5.trans ((LamX.ExtN.of kl2_3).trans (LamX.ExtN.of km2_3))))))))))))
      have v1 := i2_1.ext ((LamX.ExtN.of kl2_0).trans (x2_2.trans ((LamX.ExtN.of kl2_1).trans ((LamX.ExtN.of km2_1).trans (x2_3.trans (x2_4.trans ((LamX.ExtN.of kl2_2).trans ((LamX.ExtN.of km2_2).trans (x2_5.trans ((LamX.ExtN.of kl2_3).trans (LamX.ExtN.of km2_3)))))))))))
      have v2 := i2_2.ext ((LamX.ExtN.of kl2_1).trans ((LamX.ExtN.of km2_1).trans (x2_3.trans (x2_4.trans ((LamX.ExtN.of kl2_2).trans ((LamX.ExtN.of km2_2).trans (x2_5.trans ((LamX.ExtN.of kl2_3).trans (LamX.ExtN.of km2_3)))))))))
      have v3 := i2_3.ext (x2_4.trans ((LamX.ExtN.of kl2_2).trans ((LamX.ExtN.of km2_2).trans (x2_5.trans ((LamX.ExtN.of kl2_3).trans (LamX.ExtN.of km2_3))))))
      have v4 := i2_4.ext ((LamX.ExtN.of kl2_2).trans ((LamX.ExtN.of km2_2).trans (x2_5.trans ((LamX.ExtN.of kl2_3).trans (LamX.ExtN.of km2_3)))))
      have v5 := i2_5.ext ((LamX.ExtN.of kl2_3).trans (LamX.ExtN.of km2_3))
      have xf2 := LamX.ExtN.trans xz1 (x2_0.trans (x2_1.trans ((LamX.ExtN.of kl2_0).trans (x2_2.trans ((LamX.ExtN.of kl2_1).trans ((LamX.ExtN.of km2_1).trans (x2_3.trans (x2_4.trans ((LamX.ExtN.of kl2_2).trans ((LamX.ExtN.of km2_2).trans (x2_5.trans ((LamX.ExtN.of kl2_3).trans (LamX.ExtN.of km2_3)))))))))))))
      have tf2 := ttm2_3
      have ef2 := em2_3
      walk_at "nm"
      walk_at "rd"
      refine ⟨m2_3, [f0, f1, f2, f3, f4, f5], "b", rfl, by decide +kernel, ef2, by show 6 ≤ 100; decide, fun f hf H' Q' hs hq => ?_, fun Hz2 hz => ?_⟩
      · have xx := xf2.trans (.of hs)
        have j0 := v0.ext (.of hs)
        have j1 := v1.ext (.of hs)
        have j2 := v2.ext (.of hs)
        have j3 := v3.ext (.of hs)
        have j4 := v4.ext (.of hs)
        have j5 := v5.ext (.of hs)
        have rb : RB K "b" H' (raisedE K Q') := rb_raised hq
        have BB := bo.ext xx
        have AA := sa.ext xx
        have BS := sb.ext xx
        have CC := sc.ext xx
        simp only [List.mem_cons, List.not_mem_nil, or_false] at hf
        rcases hf with rfl | rfl | rfl | rfl | rfl | rfl
        · refine .inl ⟨j0, ?_⟩
          walk_at "rd"
          exact ⟨_, _, _, true, false, rfl, AA.site, fun _ => BB, fun z => (by cases z), fun _ _ => rb, fun _ z => (by cases z)⟩
        · refine .inr (.inl ⟨j1, ?_⟩)
          walk_at "rd"
          exact ⟨_, _, _, true, false, false, rfl, AA.site, fun _ => BB, fun _ z => (by cases z), fun z => (by cases z), fun _ _ => rb, fun _ z => (by cases z), fun _ z => (by cases z)⟩
        · refine .inr (.inr (.inl ⟨j2, ?_⟩))
          walk_at "rd"
          exact ⟨_, _, _, true, false, false, rfl, ⟨AA.site, fun _ => BB, fun _ z => (by cases z), fun z => (by cases z), fun _ _ => rb, fun _ z => (by cases z)⟩, fun _ z => (by cases z)⟩
        · refine .inr (.inr (.inr (.inl ⟨j3, ?_⟩)))
          walk_at "rd"
          exact ⟨_, _, _, _, true, false, false, false, rfl, ⟨AA.site, fun _ => BB, fun _ z => (by cases z), fun z => (by cases z), fun _ _ => rb, fun _ z => (by cases z)⟩, fun _ z => (by cases z)⟩
        · refine .inr (.inr (.inr (.inr (.inl ⟨j4, ?_⟩))))
          walk_at "rd"
          exact ⟨_, _, _, _, true, false, false, false, rfl, ⟨AA.site, fun _ => BB, fun _ z => (by cases z), fun z => (by cases z), fun _ _ => rb, fun _ z => (by cases z)⟩, fun _ z => (by cases z)⟩
        · refine .inr (.inr (.inr (.inr (.inr (⟨j5, ?_⟩)))))
          walk_at "rd"
          refine ⟨len_le (n := 3) (by decide), fun tp htp => ?_⟩
          have kt := same_new (o := .tup [.int 0, .int 0, .int 1]) htp
          have PP : PlaceV (upd H' tp (.tup [.int 0, .int 0, .int 1])) (.ref tp) true := pl001 upd_same
          generalize upd H' tp (.tup [.int 0, .int 0, .int 1]) = Ht at kt PP ⊢
          walk_at "rd"
          exact ⟨_, _, _, true, true, rfl, PP, fun _ => (AA.ext (.of kt)).site, fun _ _ => BB.ext (.of kt), fun z => (by cases z), fun _ z => (by cases z), fun _ _ => rb.mono kt⟩
      have tz2 := tf2.ext hz
      have xz2 := xf2.trans (.of hz)
      walk_at "rd"
      refine iteF ?_
      walk_at "rd"
      refine ⟨tz2, fun f0 H3_0 x3_0 t3_0 n3_0 i3_0 => ?_⟩
      walk_at "rd"
      refine ⟨t3_0, fun f1 H3_1 x3_1 t3_1 n3_1 i3_1 => ?_⟩
      walk_at "rd"
      refine ⟨t3_1, fun f2 H3_2 x3_2 t3_2 n3_2 i3_2 => ?_⟩
      walk_at "rd"
      refine ⟨len_le (n := 3) (by decide), fun l3_0 hl3_0 => ?_⟩
      have kl3_0 := same_new (o := .lst [.ref f0, .ref f1, .ref f2]) hl3_0
      have el3_0 := upd_same (H := H3_2) (a := l3_0) (o := .lst [.ref f0, .ref f1, .ref f2])
      have ttl3_0 := t3_2.ext kl3_0
      generalize upd H3_2 l3_0 (.lst [.ref f0, .ref f1, .ref f2]) = Hl3_0 at kl3_0 el3_0 ttl3_0 ⊢
      walk_at "nm"
      walk_at "rd"
      refine ⟨ttl3_0, fun f3 H3_3 x3_3 t3_3 n3_3 i3_3 => ?_⟩
      walk_at "rd"
      refine ⟨t3_3, fun f4 H3_4 x3_4 t3_4 n3_4 i3_4 => ?_⟩
      walk_at "rd"
      refine ⟨len_le (n := 2) (by decide), fun l3_1 hl3_1 => ?_⟩
      have kl3_1 := same_new (o := .lst [.ref f3, .ref f4]) hl3_1
      have el3_1 := upd_same (H := H3_4) (a := l3_1) (o := .lst [.ref f3, .ref f4])
      have ttl3_1 := t3_4.ext kl3_1
      generalize upd H3_4 l3_1 (.lst [.ref f3, .ref f4]) = Hl3_1 at kl3_1 el3_1 ttl3_1 ⊢
      refine ⟨l3_0, l3_1, [.ref f0, .ref f1, .ref f2], [.ref f3, .ref f4], rfl, rfl, (x3_3.trans (x3_4.trans (LamX.ExtN.of kl3_1))) _ _ el3_0 (fun _ z => by cases z), el3_1, len_le (n := 5) (by decide), fun m3_1 hm3_1 => ?_⟩
      have km3_1 := same_new (o := .lst ([.ref f0, .ref f1, .ref f2] ++ [.ref f3, .ref f4])) hm3_1
      have em3_1 : (upd Hl3_1 m3_1 (.lst ([.ref f0, .ref f1, .ref f2] ++ [.ref f3, .ref f4]))) m3_1 = some (.lst [.ref f0, .ref f1, .ref f2, .ref f3, .ref f4]) := upd_same
      have ttm3_1 := ttl3_1.ext km3_1
      generalize upd Hl3_1 m3_1 (.lst ([.ref f0, .ref f1, .ref f2] ++ [.ref f3, .ref f4])) = Hm3_1 at km3_1 em3_1 ttm3_1 ⊢
      have v0 := i3_0.ext (x3_1.trans (x3_2.trans ((LamX.ExtN.of kl3_0).trans (x3_3.trans (x3_4.trans ((LamX.ExtN.of kl3_1).trans (LamX.ExtN.of km3_1)))))))
      have v1 := i3_1.ext (x3_2.trans ((LamX.ExtN.of kl3_0).trans (x3_3.trans (x3_4.trans ((LamX.ExtN.of kl3_1).trans (LamX.ExtN.of km3_1))))))
      have v2 := i3_2.ext ((LamX.ExtN.of kl3_0).trans (x3_3.trans (x3_4.trans ((LamX.ExtN.of kl3_1).trans (LamX.ExtN.of km3_1)))))
      have v3 := i3_3.ext (x3_4.trans ((LamX.ExtN.of kl3_1).trans (LamX.ExtN.of km3_1)))
      have v4 := i3_4.ext ((LamX.ExtN.of kl3_1).trans (LamX.ExtN.of km3_1))
      have xf3 := LamX.ExtN.trans xz2 (x3_0.trans (x3_1.trans (x3_2.trans ((LamX.ExtN.of kl3_0).trans (x3_3.trans (x3_4.trans ((LamX.ExtN.of kl3_1).trans (LamX.ExtN.of km3_1))))))))
      have tf3 := ttm3_1
      have ef3 := em3_1
      walk_at "nm"
      walk_at "rd"
      refine ⟨m3_1, [f0, f1, f2, f3, f4], "c", rfl, by decide +kernel, ef3, by show 5 ≤ 100; decide, fun f hf H' Q' hs hq => ?_, fun Hz3 hz => ?_⟩
      · have xx := xf3.trans (.of hs)
        have j0 := v0.ext (.of hs)
        have j1 := v1.ext (.of hs)
        have j2 := v2.ext (.of hs)
        have j3 := v3.ext (.of hs)
        have j4 := v4.ext (.of hs)
        have rb : RB K "c" H' (raisedE K Q') := rb_raised hq
        have BB := bo.ext xx
        have AA := sa.ext xx
        have BS := sb.ext xx
        have CC := sc.ext xx
        simp only [List.mem_cons, List.not_mem_nil, or_false] at hf
        rcases hf with rfl | rfl | rfl | rfl | rfl
        · refine .inl ⟨j0, ?_⟩
          walk_at "rd"
          exact ⟨_, _, _, true, true, rfl, AA.site, fun _ => BS.site, fun z => (by cases z), fun _ z => (by cases z), fun _ _ ax ay bx by_ g1 g2 => (by
            obtain ⟨rfl, rfl⟩ := AA.inj g1
            obtain ⟨rfl, rfl⟩ := BS.inj g2
            exact .inr ⟨by decide, BB, rb⟩)⟩
        · refine .inr (.inl ⟨j1, ?_⟩)
          walk_at "rd"
          exact ⟨_, _, _, true, true, false, rfl, AA.site, fun _ => BS.site, fun _ _ => BB, fun z => (by cases z), fun _ z => (by cases z), fun _ _ _ => rb, fun _ _ z => (by cases z)⟩
        · refine .inr (.inr (.inl ⟨j2, ?_⟩))
          walk_at "rd"
          exact ⟨_, _, _, true, true, false, rfl, ⟨AA.site, fun _ => AA.site, fun _ _ => BB, fun z => (by cases z), fun _ z => (by cases z), fun _ _ _ => rb⟩, fun _ _ z => (by cases z)⟩
        · refine .inr (.inr (.inr (.inl ⟨j3, ?_⟩)))
          walk_at "rd"
          exact ⟨_, _, _, _, true, true, false, false, rfl, ⟨AA.site, fun _ => AA.site, fun _ _ => BB, fun z => (by cases z), fun _ z => (by cases z), fun _ _ _ => rb⟩, fun _ _ z => (by cases z)⟩
        · refine .inr (.inr (.inr (.inr (⟨j4, ?_⟩))))
          walk_at "rd"
          exact ⟨_, _, _, _, true, true, false, false, rfl, ⟨AA.site, fun _ => BS.site, fun _ _ => BB, fun z => (by cases z), fun _ z => (by cases z), fun _ _ _ => rb⟩, fun _ _ z => (by cases z)⟩
      have tz3 := tf3.ext hz
      have xz3 := xf3.trans (.of hz)
      walk_at "rd"
      refine iteF ?_
      walk_at "rd"
      refine ⟨tz3, fun f0 H4_0 x4_0 t4_0 n4_0 i4_0 => ?_⟩
      walk_at "rd"
      refine ⟨t4_0, fun f1 H4_1 x4_1 t4_1 n4_1 i4_1 => ?_⟩
      walk_at "rd"
      refine ⟨len_le (n := 2) (by decide), fun l4_0 hl4_0 => ?_⟩
      have kl4_0 := same_new (o := .lst [.ref f0, .ref f1]) hl4_0
      have el4_0 := upd_same (H := H4_1) (a := l4_0) (o := .lst [.ref f0, .ref f1])
      have ttl4_0 := t4_1.ext kl4_0
      generalize upd H4_1 l4_0 (.lst [.ref f0, .ref f1]) = Hl4_0 at kl4_0 el4_0 ttl4_0 ⊢
      have v0 := i4_0.ext (x4_1.trans (LamX.ExtN.of kl4_0))
      have v1 := i4_1.ext (LamX.ExtN.of kl4_0)
      have xf4 := LamX.ExtN.trans xz3 (x4_0.trans (x4_1.trans (LamX.ExtN.of kl4_0)))
      have tf4 := ttl4_0
      have ef4 := el4_0
      walk_at "nm"
      walk_at "rd"
      refine ⟨l4_0, [f0, f1], "d", rfl, by decide +kernel, ef4, by show 2 ≤ 100; decide, fun f hf H' Q' hs hq => ?_, fun Hz4 hz => ?_⟩
      · have xx := xf4.trans (.of hs)
        have j0 := v0.ext (.of hs)
        have j1 := v1.ext (.of hs)
        have rb : RB K "d" H' (raisedE K Q') := rb_raised hq
        have BB := bo.ext xx
        have AA := sa.ext xx
        have BS := sb.ext xx
        have CC := sc.ext xx
        simp only [List.mem_cons, List.not_mem_nil, or_false] at hf
        rcases hf with rfl | rfl
        · refine .inl ⟨j0, ?_⟩
          walk_at "rd"
          exact ⟨_, _, _, _, true, true, true, false, rfl, ⟨AA.site, fun _ => AA.site, fun _ _ => BS.site, fun z => (by cases z), fun _ z => (by cases z), fun _ _ z => (by cases z)⟩, fun _ _ _ => ⟨BB, fun _ => rb, fun z => (by cases z)⟩⟩
        · refine .inr (⟨j1, ?_⟩)
          walk_at "rd"
          exact ⟨_, _, _, _, true, true, true, false, rfl, ⟨AA.site, fun _ => BS.site, fun _ _ => CC.site, fun z => (by cases z), fun _ z => (by cases z), fun _ _ z => (by cases z)⟩, fun _ _ _ => ⟨BB, fun _ => rb, fun z => (by cases z)⟩⟩
      have tz4 := tf4.ext hz
      have xz4 := xf4.trans (.of hz)
      walk_at "rd"
      refine iteF ?_
      walk_at "rd"
      refine ⟨tz4, fun fs H8 x8 tb8 n8 i8 => ?_⟩
      walk_at "rd"
      refine ⟨fs, rfl, i8, ?_⟩
      walk_at "rd"
      refine ⟨len_le (n := 3) (by decide), fun tp htp => ?_⟩
      have kt := same_new (o := .tup [.int 0, .int 0, .int 1]) htp
      have PP : PlaceV (upd H8 tp (.tup [.int 0, .int 0, .int 1])) (.ref tp) true := pl001 upd_same
      generalize upd H8 tp (.tup [.int 0, .int 0, .int 1]) = Ht at kt PP ⊢
      walk_at "rd"
      refine ⟨_, _, true, false, rfl, PP, fun _ => (bo.ext (xz4.trans x8)).ext (.of kt), fun z => (by cases z), fun _ _ => (rb_raised (fun H9 h9 => ?_)).mono kt, fun _ z => (by cases z)⟩
      walk_at "rd"
      refine ⟨_, _, .str "site", .str "site", by decide +kernel, by decide +kernel, ?_⟩
      rw [eqvS]
      walk_at "rd"
      refine iteF ?_
      walk_at "nm"
      exact ⟨⟨_, _, _, rfl⟩, xz4.trans (x8.trans (.of h9)), tb8.ext h9⟩
    · rintro σ H7 ⟨⟨y1, y2, y6, rfl⟩, x7, tb7⟩
      walk_at "nm"
      walk_at "rd"
      refine ⟨tb7, fun f0 H5_0 x5_0 t5_0 n5_0 i5_0 => ?_⟩
      walk_at "rd"
      refine ⟨t5_0, fun f1 H5_1 x5_1 t5_1 n5_1 i5_1 => ?_⟩
      walk_at "rd"
      refine ⟨t5_1, fun f2 H5_2 x5_2 t5_2 n5_2 i5_2 => ?_⟩
      walk_at "rd"
      refine ⟨len_le (n := 3) (by decide), fun l5_0 hl5_0 => ?_⟩
      have kl5_0 := same_new (o := .lst [.ref f0, .ref f1, .ref f2]) hl5_0
      have el5_0 := upd_same (H := H5_2) (a := l5_0) (o := .lst [.ref f0, .ref f1, .ref f2])
      have ttl5_0 := t5_2.ext kl5_0
      generalize upd H5_2 l5_0 (.lst [.ref f0, .ref f1, .ref f2]) = Hl5_0 at kl5_0 el5_0 ttl5_0 ⊢
      walk_at "nm"
      walk_at "rd"
      refine ⟨ttl5_0, fun f3 H5_3 x5_3 t5_3 n5_3 i5_3 => ?_⟩
      walk_at "rd"
      refine ⟨len_le (n := 1) (by decide), fun l5_1 hl5_1 => ?_⟩
      have kl5_1 := same_new (o := .lst [.ref f3]) hl5_1
      have el5_1 := upd_same (H := H5_3) (a := l5_1) (o := .lst [.ref f3])
      have ttl5_1 := t5_3.ext kl5_1
      generalize upd H5_3 l5_1 (.lst [.ref f3]) = Hl5_1 at kl5_1 el5_1 ttl5_1 ⊢
      refine ⟨l5_0, l5_1, [.ref f0, .ref f1, .ref f2], [.ref f3], rfl, rfl, (x5_3.trans (LamX.ExtN.of kl5_1)) _ _ el5_0 (fun _ z => by cases z), el5_1, len_le (n := 4) (by decide), fun m5_1 hm5_1 => ?_⟩
      have km5_1 := same_new (o := .lst ([.ref f0, .ref f1, .ref f2] ++ [.ref f3])) hm5_1
      have em5_1 : (upd Hl5_1 m5_1 (.lst ([.ref f0, .ref f1, .ref f2] ++ [.ref f3]))) m5_1 = some (.lst [.ref f0, .ref f1, .ref f2, .ref f3]) := upd_same
      have ttm5_1 := ttl5_1.ext km5_1
      generalize upd Hl5_1 m5_1 (.lst ([.ref f0, .ref f1, .ref f2] ++ [.ref f3])) = Hm5_1 at km5_1 em5_1 ttm5_1 ⊢
      have v0 := i5_0.ext (x5_1.trans (x5_2.trans ((LamX.ExtN.of kl5_0).trans (x5_3.trans ((LamX.ExtN.of kl5_1).trans (LamX.ExtN.of km5_1))))))
      have v1 := i5_1.ext (x5_2.trans ((LamX.ExtN.of kl5_0).trans (x5_3.trans ((LamX.ExtN.of kl5_1).trans (LamX.ExtN.of km5_1)))))
      have v2 := i5_2.ext ((LamX.ExtN.of kl5_0).trans (x5_3.trans ((LamX.ExtN.of kl5_1).trans (LamX.ExtN.of km5_1))))
      have v3 := i5_3.ext ((LamX.ExtN.of kl5_1).trans (LamX.ExtN.of km5_1))
      have xf5 := LamX.ExtN.trans x7 (x5_0.trans (x5_1.trans (x5_2.trans ((LamX.ExtN.of kl5_0).trans (x5_3.trans ((LamX.ExtN.of kl5_1).trans (LamX.ExtN.of km5_1)))))))
      have tf5 := ttm5_1
      have ef5 := em5_1
      walk_at "nm"
      walk_at "rd"
      refine ⟨m5_1, [f0, f1, f2, f3], "circle", rfl, by decide +kernel, ef5, by show 4 ≤ 100; decide, fun f hf H' Q' hs hq => ?_, fun Hz5 hz => ?_⟩
      · have xx := xf5.trans (.of hs)
        have j0 := v0.ext (.of hs)
        have j1 := v1.ext (.of hs)
        have j2 := v2.ext (.of hs)
        have j3 := v3.ext (.of hs)
        have rn : RN K H' (raisedE K Q') := rn_raised hq
        have AA := sa.ext xx
        have BS := sb.ext xx
        have CC := sc.ext xx
        simp only [List.mem_cons, List.not_mem_nil, or_false] at hf
        rcases hf with rfl | rfl | rfl | rfl
        · refine .inl ⟨j0, ?_⟩
          walk_at "rd"
          exact ⟨_, _, _, true, true, true, rfl, ⟨AA.site, fun _ => AA.site, fun _ _ => BS.site, fun z => (by cases z), fun _ z => (by cases z), fun _ _ z => (by cases z)⟩, fun _ _ _ ax ay bx by_ cx cy g1 g2 g3 => (by
            obtain ⟨rfl, rfl⟩ := AA.inj g1
            obtain ⟨rfl, rfl⟩ := AA.inj g2
            obtain ⟨rfl, rfl⟩ := BS.inj g3
            exact ⟨by decide, rn⟩)⟩
        · refine .inr (.inl ⟨j1, ?_⟩)
          walk_at "rd"
          refine ⟨len_le (n := 2) (by decide), fun tp htp => ?_⟩
          have kt := same_new (o := .tup [.int 9, .int 0]) htp
          have NN : IsSt (upd H' tp (.tup [.int 9, .int 0])) (.ref tp) 9 0 := ⟨tp, rfl, upd_same, by unfold Bd; decide, by unfold Bd; decide⟩
          generalize upd H' tp (.tup [.int 9, .int 0]) = Ht at kt NN ⊢
          have A2 := AA.ext (.of kt)
          have B2 := BS.ext (.of kt)
          exact ⟨_, _, _, true, true, true, rfl, ⟨A2.site, fun _ => B2.site, fun _ _ => NN.site, fun z => (by cases z), fun _ z => (by cases z), fun _ _ z => (by cases z)⟩, fun _ _ _ ax ay bx by_ cx cy g1 g2 g3 => (by
            obtain ⟨rfl, rfl⟩ := A2.inj g1
            obtain ⟨rfl, rfl⟩ := B2.inj g2
            obtain ⟨rfl, rfl⟩ := NN.inj g3
            exact ⟨by decide, rn.mono kt⟩)⟩
        · refine .inr (.inr (.inl ⟨j2, ?_⟩))
          walk_at "rd"
          exact ⟨_, _, _, _, true, true, true, true, rfl, ⟨AA.site, fun _ => BS.site, fun _ _ => BS.site, fun z => (by cases z), fun _ z => (by cases z), fun _ _ z => (by cases z)⟩, fun _ _ _ => ⟨CC.site, fun z => (by cases z), fun _ ax ay bx by_ cx cy g1 g2 g3 => (by
            obtain ⟨rfl, rfl⟩ := AA.inj g1
            obtain ⟨rfl, rfl⟩ := BS.inj g2
            obtain ⟨rfl, rfl⟩ := BS.inj g3
            exact ⟨by decide, rn⟩)⟩⟩
        · refine .inr (.inr (.inr (⟨j3, ?_⟩)))
          walk_at "rd"
          refine ⟨len_le (n := 2) (by decide), fun tp htp => ?_⟩
          walk_at "rd"
          refine ⟨len_le (n := 2) (by decide), fun tq htq => ?_⟩
          have kp := same_new (o := .tup [.int 1, .int 1]) htp
          have kq := same_new (o := .tup [.int 5, .int 5]) htq
          have kt := kp.trans kq
          have NN : IsSt (upd (upd H' tp (.tup [.int 1, .int 1])) tq (.tup [.int 5, .int 5])) (.ref tp) 1 1 := ⟨tp, rfl, kq _ _ upd_same, by unfold Bd; decide, by unfold Bd; decide⟩
          have N5 : IsSt (upd (upd H' tp (.tup [.int 1, .int 1])) tq (.tup [.int 5, .int 5])) (.ref tq) 5 5 := ⟨tq, rfl, upd_same, by unfold Bd; decide, by unfold Bd; decide⟩
          generalize upd (upd H' tp (.tup [.int 1, .int 1])) tq (.tup [.int 5, .int 5]) = Ht at kt NN N5 ⊢
          have A2 := AA.ext (.of kt)
          have C2 := CC.ext (.of kt)
          walk_at "rd"
          exact ⟨_, _, _, _, true, true, true, true, rfl, ⟨A2.site, fun _ => NN.site, fun _ _ => N5.site, fun z => (by cases z), fun _ z => (by cases z), fun _ _ z => (by cases z)⟩, fun _ _ _ => ⟨C2.site, fun z => (by cases z), fun _ ax ay bx by_ cx cy g1 g2 g3 => (by
            obtain ⟨rfl, rfl⟩ := A2.inj g1
            obtain ⟨rfl, rfl⟩ := NN.inj g2
            obtain ⟨rfl, rfl⟩ := N5.inj g3
            exact ⟨by decide, rn.mono kt⟩)⟩⟩
      have tz5 := tf5.ext hz
      have xz5 := xf5.trans (.of hz)
      walk_at "rd"
      refine iteF ?_
      walk_at "rd"
      refine ⟨tz5, fun fs H8 x8 tb8 n8 i8 => ?_⟩
      walk_at "rd"
      refine ⟨fs, rfl, i8, ?_⟩
      walk_at "rd"
      have x9 := xz5.trans x8
      have AA := sa.ext x9
      refine ⟨_, _, _, true, true, rfl, AA.site, fun _ => AA.site, fun z => (by cases z), fun _ z => (by cases z), fun _ _ ax ay bx by_ g1 g2 => ?_⟩
      obtain ⟨rfl, rfl⟩ := AA.inj g1
      obtain ⟨rfl, rfl⟩ := AA.inj g2
      refine .inl ⟨rfl, rfl, rb_raised (fun H9 h9 => ?_)⟩
      have x10 := x9.trans (.of h9)
      have tb10 := tb8.ext h9
      walk_at "rd"
      refine ⟨_, _, .str "b", .str "b", by decide +kernel, by decide +kernel, ?_⟩
      rw [eqvS]
      walk_at "rd"
      refine iteF ?_
      walk_at "rd"
      have A0 := sa.ext x10
      refine ⟨_, _, _, true, true, true, rfl, A0.site, fun _ => A0.site, fun _ _ => A0.site, fun z => (by cases z), fun _ z => (by cases z), fun _ _ z => (by cases z), fun _ _ _ ax ay bx by_ cx cy g1 g2 g3 H10 h10 => ?_⟩
      obtain ⟨rfl, rfl⟩ := A0.inj g1
      obtain ⟨rfl, rfl⟩ := A0.inj g2
      obtain ⟨rfl, rfl⟩ := A0.inj g3
      rw [show (decide (turnZ 0 0 0 0 0 0 = 0) && decide (((0 : Int) - 0) * (0 - 0) + (0 - 0) * (0 - 0) ≤ 0)) = true from by decide]
      walk_at "rd"
      refine ⟨true, true, rfl, rfl, true, rfl, ?_⟩
      refine iteF ?_
      walk_at "rd"
      have x11 := x10.trans (.of h10)
      have A1 := sa.ext x11
      have B1 := sb.ext x11
      refine ⟨_, _, _, true, true, true, rfl, A1.site, fun _ => A1.site, fun _ _ => B1.site, fun z => (by cases z), fun _ z => (by cases z), fun _ _ z => (by cases z), fun _ _ _ ax ay bx by_ cx cy g1 g2 g3 H11 h11 => ?_⟩
      obtain ⟨rfl, rfl⟩ := A1.inj g1
      obtain ⟨rfl, rfl⟩ := A1.inj g2
      obtain ⟨rfl, rfl⟩ := B1.inj g3
      rw [show (decide (turnZ 0 0 0 0 4 0 = 0) && decide (((4 : Int) - 0) * (4 - 0) + (0 - 0) * (0 - 0) ≤ 0)) = false from by decide]
      walk_at "rd"
      refine ⟨false, false, rfl, rfl, ?_⟩
      exact q6 _ (x11.trans (.of h11)) ((tb10.ext h10).ext h11)

end

end NC
namespace NC
section
variable {P : Program} {w : World} {K : PySem.W.Frag} {mg : Str → Option Value} {base : Heap}

theorem bad_pl {H : Hp} {p : Addr} {x y d : Int} (h : H p = some (.tup [.int x, .int y, .int d])) (b : false = plB x y d) : PlaceV H (.ref p) false := .inr ⟨p, _, rfl, h, .inr ⟨_, _, _, rfl, .inr ⟨_, _, _, rfl, rfl, rfl, b⟩⟩⟩
theorem bad_pln {H : Hp} {p : Addr} {xs : List V} (h : H p = some (.tup xs)) (n : xs.length ≠ 3) (m : xs.length ≤ 100) : PlaceV H (.ref p) false := .inr ⟨p, xs, rfl, h, .inl ⟨rfl, n, m⟩⟩
theorem bad_pi {H : Hp} {p : Addr} {x y d : V} {b1 b2 b3 : Bool} (h : H p = some (.tup [x, y, d])) (h1 : IntV H x b1) (h2 : IntV H y b2) (h3 : IntV H d b3) (b : (b1 && (b2 && b3)) = false) : PlaceV H (.ref p) false := .inr ⟨p, _, rfl, h, .inr ⟨_, _, _, rfl, .inl ⟨rfl, b1, b2, b3, h1, h2, h3, b⟩⟩⟩
theorem IsPl.inj {H : Hp} {v : V} {x y d x2 y2 d2 : Int} (h : IsPl H v x y d) (g : IsPl H v x2 y2 d2) : x = x2 ∧ y = y2 ∧ d = d2 := by
  obtain ⟨p, rfl, h1, _⟩ := h
  obtain ⟨q, e, h2, _⟩ := g
  cases e
  rw [h1] at h2
  cases h2
  exact ⟨rfl, rfl, rfl⟩
def sp_law_places_right (K : PySem.W.Frag) : Sp := fun vs H Q _ => ∃ (pd : Addr) (v : V), vs = [.ref pd] ∧ H pd = some (.tup [v]) ∧ LamX.Tabs (tbs K) H ∧ ∀ H', LamX.ExtN H H' → LamX.Tabs (tbs K) H' → Q (.bl true) H'
theorem ok_law_places_right (T : Tops K mg) (tb_law_places_right : LamX.TabB base mg (He.cT K ("_law_places_right", none)).1 (He.cT K ("_law_places_right", none)).2) : FnOk P w K mg base CX0 17 (He.ga K "_law_places_right") T.fd_law_places_right P_law_places_right (sp_law_places_right K) := by
  refine T.F_law_places_right.okC (p := ("_law_places_right", none)) rfl sc_law_places_right (fun vs H Q E h => ?_) (fun A outer s H vs Q E hr h => ?_)
  · obtain ⟨pd, v, rfl, hd, tb0, q⟩ := h
    rfl
  · obtain ⟨pd, v, rfl, hd, tb0, q⟩ := h
    refine ⟨_, PSs.nox ((pss_cons (ps_set (i := 1) sc_law_places_right.nd rfl (.inl rfl) (pe_lst (pa_cons pe_non (pa_cons (pe_tup (pa_cons pe_int (pa_cons pe_int pa_nil))) (pa_cons (pe_tup (pa_cons pe_int (pa_cons pe_int (pa_cons pe_int pa_nil)))) (pa_cons (pe_tup (pa_cons pe_int (pa_cons pe_int (pa_cons (pe_un un_neg pe_int) pa_nil)))) (pa_cons (pe_tup (pa_cons pe_int (pa_cons pe_int (pa_cons pe_int pa_nil)))) (pa_cons (pe_tup (pa_cons pe_int (pa_cons pe_int (pa_cons pe_int pa_nil)))) (pa_cons (pe_tup (pa_cons pe_bl (pa_cons pe_int (pa_cons pe_int pa_nil)))) (pa_cons (pe_tup (pa_cons pe_int (pa_cons pe_int (pa_cons pe_bl pa_nil)))) pa_nil))))))))))
       (pss_cons (ps_set (i := 1) sc_law_places_right.nd rfl (.inl rfl) (pe_op op_cat (pv 1) (pe_lst (pa_cons (pe_lst (pa_cons pe_int (pa_cons pe_int (pa_cons pe_int pa_nil)))) (pa_cons (pe_tup (pa_cons pe_int (pa_cons pe_int (pa_cons pe_int (pa_cons pe_int pa_nil))))) pa_nil)))))
       (pss_cons (ps_set (i := 1) sc_law_places_right.nd rfl (.inl rfl) (pe_op op_cat (pv 1) (pe_lst (pa_cons (pe_tup (pa_cons (pe_op op_powA pe_int pe_int) (pa_cons pe_int (pa_cons pe_int pa_nil)))) (pa_cons (pe_tup (pa_cons pe_int (pa_cons (pe_un un_neg (pe_op op_powA pe_int pe_int)) (pa_cons pe_int pa_nil)))) (pa_cons (pe_tup (pa_cons pe_int (pa_cons pe_int (pa_cons (pe_op op_powA pe_int pe_int) pa_nil)))) (pa_cons pe_str (pa_cons pe_dnewT pa_nil))))))))
       (pss_cons (ps_for PassesOwn.never rfl (pi_listK K (pe_op op_cat (pv 1) (pe_lst (pa_cons (pe_tup (pa_cons pe_non (pa_cons pe_int (pa_cons pe_int pa_nil)))) (pa_cons (pv 0) (pa_cons (pe_tup (pa_cons (pv 0) (pa_cons pe_int (pa_cons pe_int pa_nil)))) pa_nil)))))) (pg_name (i := 2) sc_law_places_right.nd rfl (.inr rfl))
       (pss_one (ps_if (pt_not (pt_val (NCLam.pe_callL (kk := 10) (NCLam.acting_or (NCLam.acting0 (params := NCLam.lamP (NCLam.eAt (NCLam.eAt (NCLam.eAt (NCLam.sExpr (NCLam.sBody (NCLam.nth (defBody (top 48)) 3) 0)) 0) 0) 0)) (body := NCLam.lamB (NCLam.eAt (NCLam.eAt (NCLam.eAt (NCLam.sExpr (NCLam.sBody (NCLam.nth (defBody (top 48)) 3) 0)) 0) 0) 0)) (scope := NCLam.lamS (NCLam.eAt (NCLam.eAt (NCLam.eAt (NCLam.sExpr (NCLam.sBody (NCLam.nth (defBody (top 48)) 3) 0)) 0) 0) 0)) (k := 9) (fun _ => rfl) (NCLam.lamN_by (show NCLam.lamNB N_law_places_right (defScope (top 48)) _ = true by decide +kernel)) (fun _ _ _ => rfl) (fun B A outer s H E f c' hr => (pe_call (okx_square T) (hr.mono (by decide)) (by rfl) T.g_square T.F_square.kp (b_square T) .nil (passes_call (takes_of rfl rfl rfl rfl) (fun _ _ _ _ h => h)) (pa_cons (pv 2) (pa_cons pe_non pa_nil))))) (NCLam.acting1 (params := NCLam.lamP (NCLam.eAt (NCLam.eAt (NCLam.eAt (NCLam.sExpr (NCLam.sBody (NCLam.nth (defBody (top 48)) 3) 0)) 0) 0) 1)) (body := NCLam.lamB (NCLam.eAt (NCLam.eAt (NCLam.eAt (NCLam.sExpr (NCLam.sBody (NCLam.nth (defBody (top 48)) 3) 0)) 0) 0) 1)) (scope := NCLam.lamS (NCLam.eAt (NCLam.eAt (NCLam.eAt (NCLam.sExpr (NCLam.sBody (NCLam.nth (defBody (top 48)) 3) 0)) 0) 0) 1)) (k := 9) (i := 0) (x := "_law_of") (fun _ => rfl) (NCLam.lamN_by (show NCLam.lamNB N_law_places_right (defScope (top 48)) _ = true by decide +kernel)) rfl (fun _ _ _ _ _ => ⟨_, rfl, rfl⟩) (fun B A outer s H E f c' hr => (pe_call (okx_nearer T) (hr.mono (by decide)) (by rfl) T.g_nearer T.F_nearer.kp (b_nearer T) .nil (passes_call (takes_of rfl rfl rfl rfl) (fun _ _ _ _ h => h)) (pa_cons (pv 2) (pa_cons pe_non (pa_cons pe_non pa_nil))))))) (fun base al ha => ok_law_all_raise T ha) (hr.mono (by decide)) (by rfl) T.g_law_all_raise T.F_law_all_raise.kp (b_law_all_raise T) (pa_cons (pe_lst (pa_cons (NCLam.pe_lamV (T := tbs K) tb_law_places_right rfl (mem_law_places_right K) (uniq_law_places_right T) (NCLam.lamN_by (show NCLam.lamNB N_law_places_right (defScope (top 48)) _ = true by decide +kernel)) rfl) (pa_cons (NCLam.pe_lamVD (T := tbs K) tb_law_places_right rfl (mem_law_places_right K) (uniq_law_places_right T) (NCLam.lamN_by (show NCLam.lamNB N_law_places_right (defScope (top 48)) _ = true by decide +kernel)) rfl) pa_nil))) (pa_cons pe_str pa_nil)))))
       (pss_one (ps_ret pe_bl))
       pss_nil)))
       (pss_one (ps_ret (pe_cmpR (op_eqDK K hr.units) (pe_call (okx_square T) (hr.mono (by decide)) (by rfl) T.g_square T.F_square.kp (b_square T) .nil (NCLam.passN (fun _ _ _ z => z)) (pa_cons (pe_tup (pa_cons (pe_op op_sub (pe_op op_powA pe_int pe_int) pe_int) (pa_cons pe_int (pa_cons pe_int pa_nil)))) (pa_cons (pe_tup (pa_cons pe_int (pa_cons pe_int pa_nil))) pa_nil))) (pe_tup (pa_cons (pe_op op_powA (pe_op op_sub (pe_op op_powA pe_int pe_int) pe_int) pe_int) (pa_cons pe_int pa_nil))) (nomark _))))))))), ?_⟩
    rw [st_law_places_right]
    walk_at "rd"
    refine ⟨len_le (n := 2) (by decide), fun oa0 hoa0 => ?_⟩
    walk_at "rd"
    refine ⟨len_le (n := 3) (by decide), fun oa1 hoa1 => ?_⟩
    walk_at "rd"
    refine ⟨len_le (n := 3) (by decide), fun oa2 hoa2 => ?_⟩
    walk_at "rd"
    refine ⟨len_le (n := 3) (by decide), fun oa3 hoa3 => ?_⟩
    walk_at "rd"
    refine ⟨len_le (n := 3) (by decide), fun oa4 hoa4 => ?_⟩
    walk_at "rd"
    refine ⟨len_le (n := 3) (by decide), fun oa5 hoa5 => ?_⟩
    walk_at "rd"
    refine ⟨len_le (n := 3) (by decide), fun oa6 hoa6 => ?_⟩
    walk_at "rd"
    refine ⟨len_le (n := 8) (by decide), fun oaL hoaL => ?_⟩
    have koa0 := same_new (o := .tup [.int 0, .int 0]) hoa0
    have koa1 := same_new (o := .tup [.int 0, .int 0, .int 0]) hoa1
    have koa2 := same_new (o := .tup [.int 0, .int 0, .int (-1)]) hoa2
    have koa3 := same_new (o := .tup [.int 2, .int 4, .int 2]) hoa3
    have koa4 := same_new (o := .tup [.int 0, .int 0, .int 2]) hoa4
    have koa5 := same_new (o := .tup [.bl true, .int 0, .int 1]) hoa5
    have koa6 := same_new (o := .tup [.int 0, .int 0, .bl true]) hoa6
    have koaL := same_new (o := .lst [.non, .ref oa0, .ref oa1, .ref oa2, .ref oa3, .ref oa4, .ref oa5, .ref oa6]) hoaL
    have foa0 := koaL _ _ (koa6 _ _ (koa5 _ _ (koa4 _ _ (koa3 _ _ (koa2 _ _ (koa1 _ _ (upd_same (H := H) (a := oa0) (o := .tup [.int 0, .int 0]))))))))
    have foa1 := koaL _ _ (koa6 _ _ (koa5 _ _ (koa4 _ _ (koa3 _ _ (koa2 _ _ (upd_same (H := upd (H) oa0 (.tup [.int 0, .int 0])) (a := oa1) (o := .tup [.int 0, .int 0, .int 0])))))))
    have foa2 := koaL _ _ (koa6 _ _ (koa5 _ _ (koa4 _ _ (koa3 _ _ (upd_same (H := upd (upd (H) oa0 (.tup [.int 0, .int 0])) oa1 (.tup [.int 0, .int 0, .int 0])) (a := oa2) (o := .tup [.int 0, .int 0, .int (-1)]))))))
    have foa3 := koaL _ _ (koa6 _ _ (koa5 _ _ (koa4 _ _ (upd_same (H := upd (upd (upd (H) oa0 (.tup [.int 0, .int 0])) oa1 (.tup [.int 0, .int 0, .int 0])) oa2 (.tup [.int 0, .int 0, .int (-1)])) (a := oa3) (o := .tup [.int 2, .int 4, .int 2])))))
    have foa4 := koaL _ _ (koa6 _ _ (koa5 _ _ (upd_same (H := upd (upd (upd (upd (H) oa0 (.tup [.int 0, .int 0])) oa1 (.tup [.int 0, .int 0, .int 0])) oa2 (.tup [.int 0, .int 0, .int (-1)])) oa3 (.tup [.int 2, .int 4, .int 2])) (a := oa4) (o := .tup [.int 0, .int 0, .int 2]))))
    have foa5 := koaL _ _ (koa6 _ _ (upd_same (H := upd (upd (upd (upd (upd (H) oa0 (.tup [.int 0, .int 0])) oa1 (.tup [.int 0, .int 0, .int 0])) oa2 (.tup [.int 0, .int 0, .int (-1)])) oa3 (.tup [.int 2, .int 4, .int 2])) oa4 (.tup [.int 0, .int 0, .int 2])) (a := oa5) (o := .tup [.bl true, .int 0, .int 1])))
    have foa6 := koaL _ _ (upd_same (H := upd (upd (upd (upd (upd (upd (H) oa0 (.tup [.int 0, .int 0])) oa1 (.tup [.int 0, .int 0, .int 0])) oa2 (.tup [.int 0, .int 0, .int (-1)])) oa3 (.tup [.int 2, .int 4, .int 2])) oa4 (.tup [.int 0, .int 0, .int 2])) oa5 (.tup [.bl true, .int 0, .int 1])) (a := oa6) (o := .tup [.int 0, .int 0, .bl true]))
    have foaL := upd_same (H := upd (upd (upd (upd (upd (upd (upd (H) oa0 (.tup [.int 0, .int 0])) oa1 (.tup [.int 0, .int 0, .int 0])) oa2 (.tup [.int 0, .int 0, .int (-1)])) oa3 (.tup [.int 2, .int 4, .int 2])) oa4 (.tup [.int 0, .int 0, .int 2])) oa5 (.tup [.bl true, .int 0, .int 1])) oa6 (.tup [.int 0, .int 0, .bl true])) (a := oaL) (o := .lst [.non, .ref oa0, .ref oa1, .ref oa2, .ref oa3, .ref oa4, .ref oa5, .ref oa6])
    have koa := (koa0.trans (koa1.trans (koa2.trans (koa3.trans (koa4.trans (koa5.trans (koa6.trans koaL)))))))
    generalize upd (upd (upd (upd (upd (upd (upd (upd (H) oa0 (.tup [.int 0, .int 0])) oa1 (.tup [.int 0, .int 0, .int 0])) oa2 (.tup [.int 0, .int 0, .int (-1)])) oa3 (.tup [.int 2, .int 4, .int 2])) oa4 (.tup [.int 0, .int 0, .int 2])) oa5 (.tup [.bl true, .int 0, .int 1])) oa6 (.tup [.int 0, .int 0, .bl true])) oaL (.lst [.non, .ref oa0, .ref oa1, .ref oa2, .ref oa3, .ref oa4, .ref oa5, .ref oa6]) = H1 at foa0 foa1 foa2 foa3 foa4 foa5 foa6 foaL koa ⊢
    clear koa0 koa1 koa2 koa3 koa4 koa5 koa6 koaL
    replace hd := koa _ _ hd
    walk_at "rd"
    refine ⟨len_le (n := 3) (by decide), fun ob0 hob0 => ?_⟩
    walk_at "rd"
    refine ⟨len_le (n := 4) (by decide), fun ob1 hob1 => ?_⟩
    walk_at "rd"
    refine ⟨len_le (n := 2) (by decide), fun obL hobL => ?_⟩
    have kob0 := same_new (o := .lst [.int 0, .int 0, .int 1]) hob0
    have kob1 := same_new (o := .tup [.int 0, .int 0, .int 1, .int 1]) hob1
    have kobL := same_new (o := .lst [.ref ob0, .ref ob1]) hobL
    have fob0 := kobL _ _ (kob1 _ _ (upd_same (H := H1) (a := ob0) (o := .lst [.int 0, .int 0, .int 1])))
    have fob1 := kobL _ _ (upd_same (H := upd (H1) ob0 (.lst [.int 0, .int 0, .int 1])) (a := ob1) (o := .tup [.int 0, .int 0, .int 1, .int 1]))
    have fobL := upd_same (H := upd (upd (H1) ob0 (.lst [.int 0, .int 0, .int 1])) ob1 (.tup [.int 0, .int 0, .int 1, .int 1])) (a := obL) (o := .lst [.ref ob0, .ref ob1])
    have kob := (kob0.trans (kob1.trans kobL))
    generalize upd (upd (upd (H1) ob0 (.lst [.int 0, .int 0, .int 1])) ob1 (.tup [.int 0, .int 0, .int 1, .int 1])) obL (.lst [.ref ob0, .ref ob1]) = H2 at fob0 fob1 fobL kob ⊢
    clear kob0 kob1 kobL
    replace hd := kob _ _ hd
    replace foa0 := kob _ _ foa0
    replace foa1 := kob _ _ foa1
    replace foa2 := kob _ _ foa2
    replace foa3 := kob _ _ foa3
    replace foa4 := kob _ _ foa4
    replace foa5 := kob _ _ foa5
    replace foa6 := kob _ _ foa6
    replace foaL := kob _ _ foaL
    refine ⟨oaL, obL, [.non, .ref oa0, .ref oa1, .ref oa2, .ref oa3, .ref oa4, .ref oa5, .ref oa6], [.ref ob0, .ref ob1], rfl, rfl, foaL, fobL, len_le (n := 10) (by decide), fun mA hmA => ?_⟩
    have kmA := same_new (o := .lst ([.non, .ref oa0, .ref oa1, .ref oa2, .ref oa3, .ref oa4, .ref oa5, .ref oa6] ++ [.ref ob0, .ref ob1])) hmA
    have fmA : (upd H2 mA (.lst ([.non, .ref oa0, .ref oa1, .ref oa2, .ref oa3, .ref oa4, .ref oa5, .ref oa6] ++ [.ref ob0, .ref ob1]))) mA = some (.lst [.non, .ref oa0, .ref oa1, .ref oa2, .ref oa3, .ref oa4, .ref oa5, .ref oa6, .ref ob0, .ref ob1]) := upd_same
    generalize upd H2 mA (.lst ([.non, .ref oa0, .ref oa1, .ref oa2, .ref oa3, .ref oa4, .ref oa5, .ref oa6] ++ [.ref ob0, .ref ob1])) = H3 at kmA fmA ⊢
    replace hd := kmA _ _ hd
    replace foa0 := kmA _ _ foa0
    replace foa1 := kmA _ _ foa1
    replace foa2 := kmA _ _ foa2
    replace foa3 := kmA _ _ foa3
    replace foa4 := kmA _ _ foa4
    replace foa5 := kmA _ _ foa5
    replace foa6 := kmA _ _ foa6
    replace foaL := kmA _ _ foaL
    replace fob0 := kmA _ _ fob0
    replace fob1 := kmA _ _ fob1
    replace fobL := kmA _ _ fobL
    walk_at "nm"
    walk_at "rd"
    refine ⟨len_le (n := 3) (by decide), fun oc0 hoc0 => ?_⟩
    walk_at "rd"
    refine ⟨len_le (n := 3) (by decide), fun oc1 hoc1 => ?_⟩
    walk_at "rd"
    refine ⟨len_le (n := 3) (by decide), fun oc2 hoc2 => ?_⟩
    walk_at "rd"
    refine fun oc3 hoc3 => ?_
    walk_at "rd"
    refine ⟨len_le (n := 5) (by decide), fun ocL hocL => ?_⟩
    have koc0 := same_new (o := .tup [.int (10 ^ (30 : Int).toNat), .int 0, .int 1]) hoc0
    have koc1 := same_new (o := .tup [.int 0, .int (-(10 ^ (30 : Int).toNat)), .int 1]) hoc1
    have koc2 := same_new (o := .tup [.int 1, .int 1, .int (10 ^ (30 : Int).toNat)]) hoc2
    have koc3 := same_new (o := .dT []) hoc3
    have kocL := same_new (o := .lst [.ref oc0, .ref oc1, .ref oc2, .str "abc", .ref oc3]) hocL
    have foc0 := kocL _ _ (koc3 _ _ (koc2 _ _ (koc1 _ _ (upd_same (H := H3) (a := oc0) (o := .tup [.int (10 ^ (30 : Int).toNat), .int 0, .int 1])))))
    have foc1 := kocL _ _ (koc3 _ _ (koc2 _ _ (upd_same (H := upd (H3) oc0 (.tup [.int (10 ^ (30 : Int).toNat), .int 0, .int 1])) (a := oc1) (o := .tup [.int 0, .int (-(10 ^ (30 : Int).toNat)), .int 1]))))
    have foc2 := kocL _ _ (koc3 _ _ (upd_same (H := upd (upd (H3) oc0 (.tup [.int (10 ^ (30 : Int).toNat), .int 0, .int 1])) oc1 (.tup [.int 0, .int (-(10 ^ (30 : Int).toNat)), .int 1])) (a := oc2) (o := .tup [.int 1, .int 1, .int (10 ^ (30 : Int).toNat)])))
    have foc3 := kocL _ _ (upd_same (H := upd (upd (upd (H3) oc0 (.tup [.int (10 ^ (30 : Int).toNat), .int 0, .int 1])) oc1 (.tup [.int 0, .int (-(10 ^ (30 : Int).toNat)), .int 1])) oc2 (.tup [.int 1, .int 1, .int (10 ^ (30 : Int).toNat)])) (a := oc3) (o := .dT []))
    have focL := upd_same (H := upd (upd (upd (upd (H3) oc0 (.tup [.int (10 ^ (30 : Int).toNat), .int 0, .int 1])) oc1 (.tup [.int 0, .int (-(10 ^ (30 : Int).toNat)), .int 1])) oc2 (.tup [.int 1, .int 1, .int (10 ^ (30 : Int).toNat)])) oc3 (.dT [])) (a := ocL) (o := .lst [.ref oc0, .ref oc1, .ref oc2, .str "abc", .ref oc3])
    have koc := (koc0.trans (koc1.trans (koc2.trans (koc3.trans kocL))))
    generalize upd (upd (upd (upd (upd (H3) oc0 (.tup [.int (10 ^ (30 : Int).toNat), .int 0, .int 1])) oc1 (.tup [.int 0, .int (-(10 ^ (30 : Int).toNat)), .int 1])) oc2 (.tup [.int 1, .int 1, .int (10 ^ (30 : Int).toNat)])) oc3 (.dT [])) ocL (.lst [.ref oc0, .ref oc1, .ref oc2, .str "abc", .ref oc3]) = H4 at foc0 foc1 foc2 foc3 focL koc ⊢
    clear koc0 koc1 koc2 koc3 kocL
    replace hd := koc _ _ hd
    replace foa0 := koc _ _ foa0
    replace foa1 := koc _ _ foa1
    replace foa2 := koc _ _ foa2
    replace foa3 := koc _ _ foa3
    replace foa4 := koc _ _ foa4
    replace foa5 := koc _ _ foa5
    replace foa6 := koc _ _ foa6
    replace foaL := koc _ _ foaL
    replace fob0 := koc _ _ fob0
    replace fob1 := koc _ _ fob1
    replace fobL := koc _ _ fobL
    replace fmA := koc _ _ fmA
    refine ⟨mA, ocL, [.non, .ref oa0, .ref oa1, .ref oa2, .ref oa3, .ref oa4, .ref oa5, .ref oa6, .ref ob0, .ref ob1], [.ref oc0, .ref oc1, .ref oc2, .str "abc", .ref oc3], rfl, rfl, fmA, focL, len_le (n := 15) (by decide), fun mB hmB => ?_⟩
    have kmB := same_new (o := .lst ([.non, .ref oa0, .ref oa1, .ref oa2, .ref oa3, .ref oa4, .ref oa5, .ref oa6, .ref ob0, .ref ob1] ++ [.ref oc0, .ref oc1, .ref oc2, .str "abc", .ref oc3])) hmB
    have fmB : (upd H4 mB (.lst ([.non, .ref oa0, .ref oa1, .ref oa2, .ref oa3, .ref oa4, .ref oa5, .ref oa6, .ref ob0, .ref ob1] ++ [.ref oc0, .ref oc1, .ref oc2, .str "abc", .ref oc3]))) mB = some (.lst [.non, .ref oa0, .ref oa1, .ref oa2, .ref oa3, .ref oa4, .ref oa5, .ref oa6, .ref ob0, .ref ob1, .ref oc0, .ref oc1, .ref oc2, .str "abc", .ref oc3]) := upd_same
    generalize upd H4 mB (.lst ([.non, .ref oa0, .ref oa1, .ref oa2, .ref oa3, .ref oa4, .ref oa5, .ref oa6, .ref ob0, .ref ob1] ++ [.ref oc0, .ref oc1, .ref oc2, .str "abc", .ref oc3])) = H5 at kmB fmB ⊢
    replace hd := kmB _ _ hd
    replace foa0 := kmB _ _ foa0
    replace foa1 := kmB _ _ foa1
    replace foa2 := kmB _ _ foa2
    replace foa3 := kmB _ _ foa3
    replace foa4 := kmB _ _ foa4
    replace foa5 := kmB _ _ foa5
    replace foa6 := kmB _ _ foa6
    replace foaL := kmB _ _ foaL
    replace fob0 := kmB _ _ fob0
    replace fob1 := kmB _ _ fob1
    replace fobL := kmB _ _ fobL
    replace foc0 := kmB _ _ foc0
    replace foc1 := kmB _ _ foc1
    replace foc2 := kmB _ _ foc2
    replace foc3 := kmB _ _ foc3
    replace focL := kmB _ _ focL
    walk_at "nm"
    walk_at "rd"
    refine ⟨len_le (n := 3) (by decide), fun od0 hod0 => ?_⟩
    walk_at "rd"
    refine ⟨len_le (n := 3) (by decide), fun od1 hod1 => ?_⟩
    walk_at "rd"
    refine ⟨len_le (n := 3) (by decide), fun odL hodL => ?_⟩
    have kod0 := same_new (o := .tup [.non, .int 0, .int 1]) hod0
    have kod1 := same_new (o := .tup [.ref pd, .int 0, .int 1]) hod1
    have kodL := same_new (o := .lst [.ref od0, .ref pd, .ref od1]) hodL
    have fod0 := kodL _ _ (kod1 _ _ (upd_same (H := H5) (a := od0) (o := .tup [.non, .int 0, .int 1])))
    have fod1 := kodL _ _ (upd_same (H := upd (H5) od0 (.tup [.non, .int 0, .int 1])) (a := od1) (o := .tup [.ref pd, .int 0, .int 1]))
    have fodL := upd_same (H := upd (upd (H5) od0 (.tup [.non, .int 0, .int 1])) od1 (.tup [.ref pd, .int 0, .int 1])) (a := odL) (o := .lst [.ref od0, .ref pd, .ref od1])
    have kod := (kod0.trans (kod1.trans kodL))
    generalize upd (upd (upd (H5) od0 (.tup [.non, .int 0, .int 1])) od1 (.tup [.ref pd, .int 0, .int 1])) odL (.lst [.ref od0, .ref pd, .ref od1]) = H6 at fod0 fod1 fodL kod ⊢
    clear kod0 kod1 kodL
    replace hd := kod _ _ hd
    replace foa0 := kod _ _ foa0
    replace foa1 := kod _ _ foa1
    replace foa2 := kod _ _ foa2
    replace foa3 := kod _ _ foa3
    replace foa4 := kod _ _ foa4
    replace foa5 := kod _ _ foa5
    replace foa6 := kod _ _ foa6
    replace foaL := kod _ _ foaL
    replace fob0 := kod _ _ fob0
    replace fob1 := kod _ _ fob1
    replace fobL := kod _ _ fobL
    replace foc0 := kod _ _ foc0
    replace foc1 := kod _ _ foc1
    replace foc2 := kod _ _ foc2
    replace foc3 := kod _ _ foc3
    replace focL := kod _ _ focL
    replace fmB := kod _ _ fmB
    refine ⟨mB, odL, [.non, .ref oa0, .ref oa1, .ref oa2, .ref oa3, .ref oa4, .ref oa5, .ref oa6, .ref ob0, .ref ob1, .ref oc0, .ref oc1, .ref oc2, .str "abc", .ref oc3], [.ref od0, .ref pd, .ref od1], rfl, rfl, fmB, fodL, len_le (n := 18) (by decide), fun mC hmC => ?_⟩
    have kmC := same_new (o := .lst ([.non, .ref oa0, .ref oa1, .ref oa2, .ref oa3, .ref oa4, .ref oa5, .ref oa6, .ref ob0, .ref ob1, .ref oc0, .ref oc1, .ref oc2, .str "abc", .ref oc3] ++ [.ref od0, .ref pd, .ref od1])) hmC
    have fmC : (upd H6 mC (.lst ([.non, .ref oa0, .ref oa1, .ref oa2, .ref oa3, .ref oa4, .ref oa5, .ref oa6, .ref ob0, .ref ob1, .ref oc0, .ref oc1, .ref oc2, .str "abc", .ref oc3] ++ [.ref od0, .ref pd, .ref od1]))) mC = some (.lst [.non, .ref oa0, .ref oa1, .ref oa2, .ref oa3, .ref oa4, .ref oa5, .ref oa6, .ref ob0, .ref ob1, .ref oc0, .ref oc1, .ref oc2, .str "abc", .ref oc3, .ref od0, .ref pd, .ref od1]) := upd_same
    generalize upd H6 mC (.lst ([.non, .ref oa0, .ref oa1, .ref oa2, .ref oa3, .ref oa4, .ref oa5, .ref oa6, .ref ob0, .ref ob1, .ref oc0, .ref oc1, .ref oc2, .str "abc", .ref oc3] ++ [.ref od0, .ref pd, .ref od1])) = H7 at kmC fmC ⊢
    replace hd := kmC _ _ hd
    replace foa0 := kmC _ _ foa0
    replace foa1 := kmC _ _ foa1
    replace foa2 := kmC _ _ foa2
    replace foa3 := kmC _ _ foa3
    replace foa4 := kmC _ _ foa4
    replace foa5 := kmC _ _ foa5
    replace foa6 := kmC _ _ foa6
    replace foaL := kmC _ _ foaL
    replace fob0 := kmC _ _ fob0
    replace fob1 := kmC _ _ fob1
    replace fobL := kmC _ _ fobL
    replace foc0 := kmC _ _ foc0
    replace foc1 := kmC _ _ foc1
    replace foc2 := kmC _ _ foc2
    replace foc3 := kmC _ _ foc3
    replace focL := kmC _ _ focL
    replace fod0 := kmC _ _ fod0
    replace fod1 := kmC _ _ fod1
    replace fodL := kmC _ _ fodL
    have k07 := koa.trans (kob.trans (kmA.trans (koc.trans (kmB.trans (kod.trans kmC)))))
    have tb7 := tb0.ext k07
    have bads : ∀ z ∈ ([.non, .ref oa0, .ref oa1, .ref oa2, .ref oa3, .ref oa4, .ref oa5, .ref oa6, .ref ob0, .ref ob1, .ref oc0, .ref oc1, .ref oc2, .str "abc", .ref oc3, .ref od0, .ref pd, .ref od1] : List V), PlaceV H7 z false := by
      intro z hz
      simp only [List.mem_cons, List.not_mem_nil, or_false] at hz
      rcases hz with rfl | rfl | rfl | rfl | rfl | rfl | rfl | rfl | rfl | rfl | rfl | rfl | rfl | rfl | rfl | rfl | rfl | rfl
      · exact .inl ⟨rfl, .inl rfl⟩
      · exact bad_pln foa0 (by decide) (by decide)
      · exact bad_pl foa1 (by decide +kernel)
      · exact bad_pl foa2 (by decide +kernel)
      · exact bad_pl foa3 (by decide +kernel)
      · exact bad_pl foa4 (by decide +kernel)
      · exact bad_pi foa5 (.inr ⟨.inr (.inr (.inl ⟨_, rfl⟩)), rfl⟩) (.inl ⟨_, rfl, rfl⟩) (.inl ⟨_, rfl, rfl⟩) rfl
      · exact bad_pi foa6 (.inl ⟨_, rfl, rfl⟩) (.inl ⟨_, rfl, rfl⟩) (.inr ⟨.inr (.inr (.inl ⟨_, rfl⟩)), rfl⟩) rfl
      · exact .inl ⟨rfl, .inr (.inr (.inr (.inr ⟨_, rfl, .inl ⟨_, fob0⟩⟩)))⟩
      · exact bad_pln fob1 (by decide) (by decide)
      · exact bad_pl foc0 (by decide +kernel)
      · exact bad_pl foc1 (by decide +kernel)
      · exact bad_pl foc2 (by decide +kernel)
      · exact .inl ⟨rfl, .inr (.inr (.inl ⟨_, rfl⟩))⟩
      · exact .inl ⟨rfl, .inr (.inr (.inr (.inr ⟨_, rfl, .inr ⟨_, foc3⟩⟩)))⟩
      · exact bad_pi fod0 (.inr ⟨.inl rfl, rfl⟩) (.inl ⟨_, rfl, rfl⟩) (.inl ⟨_, rfl, rfl⟩) rfl
      · exact bad_pln hd (by show 1 ≠ 3; decide) (by show 1 ≤ 100; decide)
      · exact bad_pi fod1 (.inr ⟨.inr (.inr (.inr ⟨_, rfl, .inr (.inl ⟨_, hd⟩)⟩)), rfl⟩) (.inl ⟨_, rfl, rfl⟩) (.inl ⟨_, rfl, rfl⟩) rfl
    have q7 : ∀ H', LamX.ExtN H7 H' → LamX.Tabs (tbs K) H' → Q (.bl true) H' := fun H' x t => q H' (LamX.ExtN.trans (.of k07) x) t
    clear q tb0 k07 koa kob kmA koc kmB kod kmC
    generalize ([.non, .ref oa0, .ref oa1, .ref oa2, .ref oa3, .ref oa4, .ref oa5, .ref oa6, .ref ob0, .ref ob1, .ref oc0, .ref oc1, .ref oc2, .str "abc", .ref oc3, .ref od0, .ref pd, .ref od1] : List V) = items at fmC bads ⊢
    refine ⟨mC, rfl, ⟨_, SqL.of fmC⟩, ?_⟩
    refine for_list (K := K) (a := mC) (xs := items) (fun i σ H' => (∃ y1 y2, σ = [some (.ref pd), y1, y2]) ∧ LamX.ExtN H7 H' ∧ LamX.Tabs (tbs K) H') ⟨⟨_, _, rfl⟩, .refl _, tb7⟩ (fun i σ H' _ h => SqL.of (h.2.1 _ _ fmC (fun _ z => by cases z))) ?_ ?_
    · rintro i z σ H8 hz ⟨⟨y1, y2, rfl⟩, x8, tb8⟩
      have bo := bads z (List.mem_of_getElem? hz)
      walk_at "nm"
      walk_at "rd"
      refine ⟨tb8, fun f0 H1_0 x1_0 t1_0 n1_0 i1_0 => ?_⟩
      walk_at "rd"
      refine ⟨t1_0, fun f1 H1_1 x1_1 t1_1 n1_1 i1_1 => ?_⟩
      walk_at "rd"
      refine ⟨len_le (n := 2) (by decide), fun l1_0 hl1_0 => ?_⟩
      have kl1_0 := same_new (o := .lst [.ref f0, .ref f1]) hl1_0
      have el1_0 := upd_same (H := H1_1) (a := l1_0) (o := .lst [.ref f0, .ref f1])
      have ttl1_0 := t1_1.ext kl1_0
      generalize upd H1_1 l1_0 (.lst [.ref f0, .ref f1]) = Hl1_0 at kl1_0 el1_0 ttl1_0 ⊢
      have v0 := i1_0.ext (x1_1.trans (LamX.ExtN.of kl1_0))
      have v1 := i1_1.ext (LamX.ExtN.of kl1_0)
      have xf1 := LamX.ExtN.trans x8 (x1_0.trans (x1_1.trans (LamX.ExtN.of kl1_0)))
      have tf1 := ttl1_0
      have ef1 := el1_0
      walk_at "nm"
      walk_at "rd"
      refine ⟨l1_0, [f0, f1], "place", rfl, by decide +kernel, ef1, by show 2 ≤ 100; decide, fun f hf H' Q' hs hq => ?_, fun Hz1 hz => ?_⟩
      · have xx := xf1.trans (.of hs)
        have j0 := v0.ext (.of hs)
        have j1 := v1.ext (.of hs)
        have rb : RB K "place" H' (raisedE K Q') := rb_raised hq
        have BB := bo.ext xx
        simp only [List.mem_cons, List.not_mem_nil, or_false] at hf
        rcases hf with rfl | rfl
        · refine .inl ⟨j0, ?_⟩
          walk_at "rd"
          exact ⟨_, _, false, false, rfl, BB, fun z => (by cases z), fun _ => rb, fun z => (by cases z), fun z => (by cases z)⟩
        · refine .inr (⟨j1, ?_⟩)
          walk_at "rd"
          exact ⟨_, _, _, false, false, rfl, BB, fun z => (by cases z), fun z => (by cases z), fun _ => rb, fun z => (by cases z), fun z => (by cases z)⟩
      have tz1 := tf1.ext hz
      have xz1 := xf1.trans (.of hz)
      walk_at "rd"
      refine iteF ?_
      walk_at "nm"
      exact ⟨⟨_, _, rfl⟩, xz1, tz1⟩
    · rintro σ H8 ⟨⟨y1, y2, rfl⟩, x8, tb8⟩
      walk_at "nm"
      walk_at "rd"
      refine ⟨len_le (n := 3) (by decide), fun t1 ht1 => ?_⟩
      walk_at "rd"
      refine ⟨len_le (n := 2) (by decide), fun t2 ht2 => ?_⟩
      have k1 := same_new (o := .tup [.int (10 ^ (30 : Int).toNat - 1), .int 0, .int 1]) ht1
      have k2 := same_new (o := .tup [.int 0, .int 0]) ht2
      have k12 := k1.trans k2
      have f1 := k2 _ _ (upd_same (H := H8) (a := t1) (o := .tup [.int (10 ^ (30 : Int).toNat - 1), .int 0, .int 1]))
      have f2 := upd_same (H := upd H8 t1 (.tup [.int (10 ^ (30 : Int).toNat - 1), .int 0, .int 1])) (a := t2) (o := .tup [.int 0, .int 0])
      generalize upd (upd H8 t1 (.tup [.int (10 ^ (30 : Int).toNat - 1), .int 0, .int 1])) t2 (.tup [.int 0, .int 0]) = H9 at k12 f1 f2 ⊢
      walk_at "rd"
      have b1 : plB (10 ^ (30 : Int).toNat - 1) 0 1 = true := by decide +kernel
      have g1 : IsPl H9 (.ref t1) (10 ^ (30 : Int).toNat - 1) 0 1 := ⟨_, rfl, f1, plB_pl b1⟩
      have g2 : IsSt H9 (.ref t2) 0 0 := ⟨_, rfl, f2, by unfold Bd; decide, by unfold Bd; decide⟩
      refine ⟨_, _, true, true, rfl, .inr ⟨_, _, rfl, f1, .inr ⟨_, _, _, rfl, .inr ⟨_, _, _, rfl, rfl, rfl, b1.symm⟩⟩⟩, fun _ => g2.site, fun z => (by cases z), fun _ z => (by cases z), fun _ _ x y d sx sy e1 e2 H10 r h10 er => ?_⟩
      obtain ⟨rfl, rfl, rfl⟩ := g1.inj e1
      obtain ⟨rfl, rfl⟩ := g2.inj e2
      rw [show (farZ (10 ^ (30 : Int).toNat - 1) 0 1 0 0).fdiv (gZ (farZ (10 ^ (30 : Int).toNat - 1) 0 1 0 0) (1 * 1)) = (10 ^ (30 : Int).toNat - 1) ^ (2 : Int).toNat from by decide +kernel, show ((1 : Int) * 1).fdiv (gZ (farZ (10 ^ (30 : Int).toNat - 1) 0 1 0 0) (1 * 1)) = 1 from by decide +kernel] at er
      walk_at "rd"
      refine ⟨_, _, rfl, rfl, powW (by decide +kernel), ?_⟩
      walk_at "rd"
      refine ⟨len_le (n := 2) (by decide), fun t3 ht3 => ?_⟩
      have k3 := same_new (o := .tup [.int ((10 ^ (30 : Int).toNat - 1) ^ (2 : Int).toNat), .int 1]) ht3
      refine ⟨_, _, dp_site (k3 _ _ er), dp_site upd_same, by decide +kernel, by decide +kernel, ?_⟩
      rw [eqv_site, decide_eq_true rfl, decide_eq_true rfl]
      exact q7 _ (x8.trans (.of (k12.trans (h10.trans k3)))) (tb8.ext (k12.trans (h10.trans k3)))

end

end NC
namespace NC
section
variable {P : Program} {w : World} {K : PySem.W.Frag} {mg : Str → Option Value} {base : Heap}
theorem bk_InvalidSites (T : Tops K mg) : ∀ (s : Shared) (a u : Value), K.In s.heap → BindsTo s T.fd_InvalidSites_init ⟨[a], [("at", u)]⟩ (P_InvalidSites_init.zip [a, u]) := fun s a u h => (T.F_InvalidSites_init.kbnP (ps := P_InvalidSites_init) 1 ["at"] [0, 1] fun _ _ _ _ _ _ us ws h1 h2 => match us, h1, ws, h2 with | [_], _, [_], _ => rfl).to s [a] [u] h rfl rfl
theorem bk_InvalidTriangles (T : Tops K mg) : ∀ (s : Shared) (a u : Value), K.In s.heap → BindsTo s T.fd_InvalidTriangles_init ⟨[a], [("at", u)]⟩ (P_InvalidTriangles_init.zip [a, u]) := fun s a u h => (T.F_InvalidTriangles_init.kbnP (ps := P_InvalidTriangles_init) 1 ["at"] [0, 1] fun _ _ _ _ _ _ us ws h1 h2 => match us, h1, ws, h2 with | [_], _, [_], _ => rfl).to s [a] [u] h rfl rfl
theorem bk_InvalidBound (T : Tops K mg) : ∀ (s : Shared) (a u : Value), K.In s.heap → BindsTo s T.fd_InvalidBound_init ⟨[a], [("argument", u)]⟩ (P_InvalidBound_init.zip [a, u]) := fun s a u h => (T.F_InvalidBound_init.kbnP (ps := P_InvalidBound_init) 1 ["argument"] [0, 1] fun _ _ _ _ _ _ us ws h1 h2 => match us, h1, ws, h2 with | [_], _, [_], _ => rfl).to s [a] [u] h rfl rfl
theorem bk_InvalidCall (T : Tops K mg) : ∀ (s : Shared) (a u : Value), K.In s.heap → BindsTo s T.fd_InvalidCall_init ⟨[a], [("call", u)]⟩ (P_InvalidCall_init.zip [a, u]) := fun s a u h => (T.F_InvalidCall_init.kbnP (ps := P_InvalidCall_init) 1 ["call"] [0, 1] fun _ _ _ _ _ _ us ws h1 h2 => match us, h1, ws, h2 with | [_], _, [_], _ => rfl).to s [a] [u] h rfl rfl
theorem bk_LimitExceeded (T : Tops K mg) : ∀ (s : Shared) (a u : Value), K.In s.heap → BindsTo s T.fd_LimitExceeded_init ⟨[a], [("limit", u)]⟩ (P_LimitExceeded_init.zip [a, u]) := fun s a u h => (T.F_LimitExceeded_init.kbnP (ps := P_LimitExceeded_init) 1 ["limit"] [0, 1] fun _ _ _ _ _ _ us ws h1 h2 => match us, h1, ws, h2 with | [_], _, [_], _ => rfl).to s [a] [u] h rfl rfl

/-- a kept error, with its field -/
def ErF (H : Hp) (v : V) (C : Addr) (f : Str) (u : V) : Prop := ∃ a dd, v = V.ref a ∧ H a = some (exo a C (some dd)) ∧ H dd = some (exd dd [(f, u)])
def ErV (H : Hp) (v : V) (C : Addr) : Prop := ∃ (a : Addr) (d : Option Addr), v = V.ref a ∧ H a = some (exo a C d) ∧ ∀ dd, d = some dd → ∃ fs, H dd = some (exd dd fs)
theorem ErF.ext {H H' : Hp} {v u : V} {C : Addr} {f : Str} (h : ErF H v C f u) (k : Same H H') : ErF H' v C f u := by
  obtain ⟨a, dd, h1, h2, h3⟩ := h
  exact ⟨a, dd, h1, k _ _ h2, k _ _ h3⟩
theorem ErF.er {H : Hp} {v u : V} {C : Addr} {f : Str} (h : ErF H v C f u) : ErV H v C := by
  obtain ⟨a, dd, h1, h2, h3⟩ := h
  exact ⟨a, _, h1, h2, fun e z => by cases z; exact ⟨_, h3⟩⟩
theorem ErV.ext {H H' : Hp} {v : V} {C : Addr} (h : ErV H v C) (k : Same H H') : ErV H' v C := by
  obtain ⟨a, d, h1, h2, h3⟩ := h
  exact ⟨a, d, h1, k _ _ h2, fun e z => let ⟨fs, q⟩ := h3 e z; ⟨fs, k _ _ q⟩⟩
theorem mkS {C : Addr} {f : Str} {v : V} {H : Hp} {Q : VK} (h : ∀ H' a, Same H H' → ErF H' (.ref a) C f v → Q (.ref a) H') : NCKw.MkV C (NCLam.spInit C f) [v] H Q := fun a ha => ⟨a, v, rfl, upd_same, fun dx hdx hne => ⟨rfl, h _ a (fun b o hb => by
  have n1 : b ≠ a := fun e => by rw [e, ha] at hb; cases hb
  have n2 : b ≠ dx := fun e => by rw [← e, upd_ne n1, hb] at hdx; cases hdx
  rw [upd_ne n1, upd_ne n2, upd_ne n1, hb]) ⟨a, dx, rfl, upd_same, by rw [upd_ne hne, upd_same]⟩⟩⟩
theorem mkN {H : Hp} {Q : VK} (h : ∀ H' a, Same H H' → ErV H' (.ref a) (He.ga K "NoCircle") → Q (.ref a) H') : NCKw.MkV (He.ga K "NoCircle") (sp_NoCircle_init K) [] H Q := fun a ha => ⟨a, rfl, upd_same, rfl, h _ a (same_new ha) ⟨a, none, rfl, upd_same, fun _ z => by cases z⟩⟩
/-- the i-th error among the six classes -/
def EachE (K : PySem.W.Frag) (H : Hp) (i : Nat) (z : V) : Prop := ∃ (a C : Addr) (d : Option Addr), z = V.ref a ∧ H a = some (exo a C d) ∧ (∀ dd, d = some dd → ∃ fs, H dd = some (exd dd fs)) ∧ ExcC K C ∧ PySem.W.kitOne K (.ref C) (.ref (He.ga K "InvalidSites")) = some (decide (i = 0)) ∧ PySem.W.kitOne K (.ref C) (.ref (He.ga K "InvalidTriangles")) = some (decide (i = 1)) ∧ PySem.W.kitOne K (.ref C) (.ref (He.ga K "InvalidBound")) = some (decide (i = 2)) ∧ PySem.W.kitOne K (.ref C) (.ref (He.ga K "InvalidCall")) = some (decide (i = 3)) ∧ PySem.W.kitOne K (.ref C) (.ref (He.ga K "NoCircle")) = some (decide (i = 4)) ∧ PySem.W.kitOne K (.ref C) (.ref (He.ga K "LimitExceeded")) = some (decide (i = 5)) ∧ PySem.W.kitOne K (.ref C) (.ref (He.ga K "CellError")) = some true ∧ PySem.W.kitOne K (.ref C) (.type "ArithmeticError") = some true
theorem EachE.ext {H H' : Hp} {i : Nat} {z : V} (h : EachE K H i z) (k : Same H H') : EachE K H' i z := by
  obtain ⟨a, C, d, h1, h2, h3, h4⟩ := h
  exact ⟨a, C, d, h1, k _ _ h2, fun e z => let ⟨fs, q⟩ := h3 e z; ⟨fs, k _ _ q⟩, h4⟩
theorem each_of {H : Hp} {i : Nat} {z : V} {C : Addr} (h : ErV H z C) (EC : ExcC K C) (c0 : PySem.W.kitOne K (.ref C) (.ref (He.ga K "InvalidSites")) = some (decide (i = 0))) (c1 : PySem.W.kitOne K (.ref C) (.ref (He.ga K "InvalidTriangles")) = some (decide (i = 1))) (c2 : PySem.W.kitOne K (.ref C) (.ref (He.ga K "InvalidBound")) = some (decide (i = 2))) (c3 : PySem.W.kitOne K (.ref C) (.ref (He.ga K "InvalidCall")) = some (decide (i = 3))) (c4 : PySem.W.kitOne K (.ref C) (.ref (He.ga K "NoCircle")) = some (decide (i = 4))) (c5 : PySem.W.kitOne K (.ref C) (.ref (He.ga K "LimitExceeded")) = some (decide (i = 5))) (cc : PySem.W.kitOne K (.ref C) (.ref (He.ga K "CellError")) = some true) (ca : PySem.W.kitOne K (.ref C) (.type "ArithmeticError") = some true) : EachE K H i z := by
  obtain ⟨a, d, h1, h2, h3⟩ := h
  exact ⟨a, C, d, h1, h2, h3, EC, c0, c1, c2, c3, c4, c5, cc, ca⟩
theorem isX {a C : Addr} {d : Option Addr} {c : V} {cv : Value} {b : Bool} {H : Hp} {Q : VK} (ha : H a = some (exo a C d)) (hd : ∀ dd, d = some dd → ∃ fs, H dd = some (exd dd fs)) (EC : ExcC K C) (hc : ∀ u, RelV c u → u = cv) (k : PySem.W.kitOne K (.ref C) cv = some b) (q : Q (.bl b) H) : NCKw.rIsX K [.ref a, c] H Q := ⟨a, C, d, c, cv, b, rfl, ha, hd, EC, hc, k, q⟩
def xvP (K : PySem.W.Frag) (f : Str) (Q : VK) (x : V) (H1 : Hp) : Prop := ∃ (a C dd : Addr) (fs : List (Str × V)) (v : V), x = .ref a ∧ H1 a = some (exo a C (some dd)) ∧ H1 dd = some (exd dd fs) ∧ ExcC K C ∧ PySem.W.findIn K (.ref C) f = some none ∧ fs.lookup f = some v ∧ Q v H1
theorem g_xv {f : Str} {te : TE} {σ : L2.St} {H : Hp} {Q : VK} (h : te σ H (xvP K f Q)) : NCKw.tXv K f te σ H Q := h
theorem eqvL1 (i : Int) : PyData.eqv (.list [.int i]) (.list [.int i]) = true := by simp [PyData.eqv, PyData.eqvAll]
theorem eqvL5 (i : Int) : PyData.eqv (.list [.int i, .int i, .int i, .int i, .int i]) (.list [.int i, .int i, .int i, .int i, .int i]) = true := by simp [PyData.eqv, PyData.eqvAll]
theorem dpL5 {H : Hp} {p : Addr} {i : Int} (h : H p = some (.lst [.int i, .int i, .int i, .int i, .int i])) : Dp K H (.ref p) (.list [.int i, .int i, .int i, .int i, .int i]) := .lst (SqL.of h) (.cons (.int _) (.cons (.int _) (.cons (.int _) (.cons (.int _) (.cons (.int _) .nil)))))
def sp_law_errors_right : Sp := fun vs H Q _ => ∃ x : Int, vs = [.int x] ∧ ∀ H', Same H H' → Q (.bl true) H'
theorem ok_law_errors_right (T : Tops K mg) : FnOk P w K mg base CX0 5 (He.ga K "_law_errors_right") T.fd_law_errors_right P_law_errors_right sp_law_errors_right := by
  refine T.F_law_errors_right.ok sc_law_errors_right (fun vs H Q E h => ?_) (fun cdv A outer s H vs Q E hr h => ?_)
  · obtain ⟨x, rfl, q⟩ := h
    rfl
  · obtain ⟨x, rfl, q⟩ := h
    refine ⟨_, PSs.nox ((pss_cons (ps_set (i := 1) sc_law_errors_right.nd rfl (.inl rfl) (pe_lst (pa_cons (NCKw.pe_mkVK T.X_InvalidSites T.i_InvalidSites T.t_InvalidSites (ok_InvalidSites_init T) (hr.mono (by decide)) (bk_InvalidSites T) (by rfl) T.g_InvalidSites (pk_cons (pv 0) pk_nil)) (pa_cons (NCKw.pe_mkVK T.X_InvalidTriangles T.i_InvalidTriangles T.t_InvalidTriangles (ok_InvalidTriangles_init T) (hr.mono (by decide)) (bk_InvalidTriangles T) (by rfl) T.g_InvalidTriangles (pk_cons (pv 0) pk_nil)) (pa_cons (NCKw.pe_mkVK T.X_InvalidBound T.i_InvalidBound T.t_InvalidBound (ok_InvalidBound_init T) (hr.mono (by decide)) (bk_InvalidBound T) (by rfl) T.g_InvalidBound (pk_cons (pv 0) pk_nil)) pa_nil)))))
       (pss_cons (ps_set (i := 1) sc_law_errors_right.nd rfl (.inl rfl) (pe_op op_cat (pv 1) (pe_lst (pa_cons (NCKw.pe_mkVK T.X_InvalidCall T.i_InvalidCall T.t_InvalidCall (ok_InvalidCall_init T) (hr.mono (by decide)) (bk_InvalidCall T) (by rfl) T.g_InvalidCall (pk_cons (pv 0) pk_nil)) (pa_cons (NCKw.pe_mkV0 T.X_NoCircle T.i_NoCircle T.t_NoCircle (ok_NoCircle_init T) (hr.mono (by decide)) (b_NoCircle_init T) (by rfl) T.g_NoCircle) pa_nil)))))
       (pss_cons (ps_for PassesOwn.never rfl (pi_enum (by rfl) T.m_enumerate (pa_cons (pe_op op_cat (pv 1) (pe_lst (pa_cons (NCKw.pe_mkVK T.X_LimitExceeded T.i_LimitExceeded T.t_LimitExceeded (ok_LimitExceeded_init T) (hr.mono (by decide)) (bk_LimitExceeded T) (by rfl) T.g_LimitExceeded (pk_cons (pv 0) pk_nil)) pa_nil))) pa_nil)) (pg_tup rfl (pgs_cons (pg_name (i := 2) sc_law_errors_right.nd rfl (.inl rfl)) (pgs_cons (pg_name (i := 3) sc_law_errors_right.nd rfl (.inl rfl)) pgs_nil)))
       (pss_cons (ps_set (i := 4) sc_law_errors_right.nd rfl (.inl rfl) (pe_lst (pa_cons (pe_callB NCKw.call_isX (by rfl) T.m_isinstance (by decide +kernel) (pa_cons (pv 3) (pa_cons (pe_glob (v := .ref (He.ga K "InvalidSites")) rfl T.g_InvalidSites rfl) pa_nil))) (pa_cons (pe_callB NCKw.call_isX (by rfl) T.m_isinstance (by decide +kernel) (pa_cons (pv 3) (pa_cons (pe_glob (v := .ref (He.ga K "InvalidTriangles")) rfl T.g_InvalidTriangles rfl) pa_nil))) (pa_cons (pe_callB NCKw.call_isX (by rfl) T.m_isinstance (by decide +kernel) (pa_cons (pv 3) (pa_cons (pe_glob (v := .ref (He.ga K "InvalidBound")) rfl T.g_InvalidBound rfl) pa_nil))) pa_nil)))))
       (pss_cons (ps_set (i := 4) sc_law_errors_right.nd rfl (.inl rfl) (pe_op op_cat (pv 4) (pe_lst (pa_cons (pe_callB NCKw.call_isX (by rfl) T.m_isinstance (by decide +kernel) (pa_cons (pv 3) (pa_cons (pe_glob (v := .ref (He.ga K "InvalidCall")) rfl T.g_InvalidCall rfl) pa_nil))) (pa_cons (pe_callB NCKw.call_isX (by rfl) T.m_isinstance (by decide +kernel) (pa_cons (pv 3) (pa_cons (pe_glob (v := .ref (He.ga K "NoCircle")) rfl T.g_NoCircle rfl) pa_nil))) (pa_cons (pe_callB NCKw.call_isX (by rfl) T.m_isinstance (by decide +kernel) (pa_cons (pv 3) (pa_cons (pe_glob (v := .ref (He.ga K "LimitExceeded")) rfl T.g_LimitExceeded rfl) pa_nil))) pa_nil))))))
       (pss_cons (ps_if (PW.pt (pw_or (pt_cmpR (op_neDK K hr.units) (pe_lc (own := [("_law_j", 5), ("_law_mark", 6)]) (g := gTup K 2 (gCons (gName 5) (gCons (gName 6) gNil))) rfl sc_law_errors_right.nd (pi_enum (by rfl) T.m_enumerate (pa_cons (pv 4) pa_nil)) (blkOk_by (own := [("_law_j", 5), ("_law_mark", 6)]) (N := N_law_errors_right) (sc := defScope (top 49)) (by decide +kernel)) (fun _ _ _ _ _ => (by exact (pg_tup rfl (pgs_cons (pg_name (i := 5) sc_law_errors_right.nd rfl (.inl rfl)) (pgs_cons (pg_name (i := 6) sc_law_errors_right.nd rfl (.inl rfl)) pgs_nil))))) (fun _ _ _ _ _ => (pts_one (pt_val (pv 6)))) (fun _ _ _ _ _ => (pv 5))) (pe_lst (pa_cons (pv 2) pa_nil)) (nomark _)) (pw_or1 (pt_not (pt_val (pe_callB NCKw.call_isX (by rfl) T.m_isinstance (by decide +kernel) (pa_cons (pv 3) (pa_cons (pe_glob (v := .ref (He.ga K "CellError")) rfl T.g_CellError rfl) pa_nil))))))))
       (pss_one (ps_ret pe_bl))
       pss_nil)
       (pss_one (ps_if (pt_not (pt_val (pe_callB NCKw.call_isX (by rfl) T.m_isinstance (by decide +kernel) (pa_cons (pv 3) (pa_cons (pe_bltn (v := .ty "ArithmeticError") rfl T.m_ArithmeticError (by decide +kernel) rfl) pa_nil)))))
       (pss_one (ps_ret pe_bl))
       pss_nil))))))
       (pss_one (ps_ret (pe_cmpR (op_eqDK K hr.units) (pe_lst (pa_cons (NCKw.pe_xv (pe_ix (ix_listK K) (pv 1) pe_int (fun _ _ => rfl))) (pa_cons (NCKw.pe_xv (pe_ix (ix_listK K) (pv 1) pe_int (fun _ _ => rfl))) (pa_cons (NCKw.pe_xv (pe_ix (ix_listK K) (pv 1) pe_int (fun _ _ => rfl))) (pa_cons (NCKw.pe_xv (pe_ix (ix_listK K) (pv 1) pe_int (fun _ _ => rfl))) (pa_cons (NCKw.pe_xv (NCKw.pe_mkV T.X_LimitExceeded T.i_LimitExceeded T.t_LimitExceeded (ok_LimitExceeded_init T) (hr.mono (by decide)) (b_LimitExceeded_init T) (by rfl) T.g_LimitExceeded (pa_cons (pv 0) pa_nil))) pa_nil)))))) (pe_op op_rep (pe_lst (pa_cons (pv 0) pa_nil)) pe_int) (nomark _)))))))), ?_⟩
    rw [st_law_errors_right]
    walk_at "rd"
    refine ⟨_, rfl, mkS fun H1 a1 k1 e1 => ?_⟩
    walk_at "rd"
    refine ⟨_, rfl, mkS fun H2 a2 k2 e2 => ?_⟩
    walk_at "rd"
    refine ⟨_, rfl, mkS fun H3 a3 k3 e3 => ?_⟩
    walk_at "rd"
    refine ⟨len_le (n := 3) (by decide), fun oaL hoaL => ?_⟩
    have koa := same_new (o := .lst [.ref a1, .ref a2, .ref a3]) hoaL
    have foaL := upd_same (H := H3) (a := oaL) (o := .lst [.ref a1, .ref a2, .ref a3])
    replace e1 := e1.ext ((k2.trans k3).trans koa)
    replace e2 := e2.ext (k3.trans koa)
    replace e3 := e3.ext koa
    have k04 := (k1.trans (k2.trans k3)).trans koa
    generalize upd H3 oaL (.lst [.ref a1, .ref a2, .ref a3]) = H4 at foaL e1 e2 e3 k04 ⊢
    clear k1 k2 k3 koa
    walk_at "nm"
    walk_at "rd"
    refine ⟨_, rfl, mkS fun H5 a4 k5 e4 => ?_⟩
    walk_at "rd"
    refine mkN fun H6 a5 k6 e5 => ?_
    walk_at "rd"
    refine ⟨len_le (n := 2) (by decide), fun obL hobL => ?_⟩
    have kob := same_new (o := .lst [.ref a4, .ref a5]) hobL
    have fobL := upd_same (H := H6) (a := obL) (o := .lst [.ref a4, .ref a5])
    have k47 := (k5.trans k6).trans kob
    replace e1 := e1.ext k47
    replace e2 := e2.ext k47
    replace e3 := e3.ext k47
    replace e4 := e4.ext (k6.trans kob)
    replace e5 := e5.ext kob
    replace foaL := k47 _ _ foaL
    have k07 := k04.trans k47
    generalize upd H6 obL (.lst [.ref a4, .ref a5]) = H7 at foaL fobL e1 e2 e3 e4 e5 k07 ⊢
    clear k04 k5 k6 kob k47
    refine ⟨oaL, obL, [.ref a1, .ref a2, .ref a3], [.ref a4, .ref a5], rfl, rfl, foaL, fobL, len_le (n := 5) (by decide), fun mA hmA => ?_⟩
    have kmA := same_new (o := .lst ([.ref a1, .ref a2, .ref a3] ++ [.ref a4, .ref a5])) hmA
    have fmA : (upd H7 mA (.lst ([.ref a1, .ref a2, .ref a3] ++ [.ref a4, .ref a5]))) mA = some (.lst [.ref a1, .ref a2, .ref a3, .ref a4, .ref a5]) := upd_same
    generalize upd H7 mA (.lst ([.ref a1, .ref a2, .ref a3] ++ [.ref a4, .ref a5])) = H8 at kmA fmA ⊢
    replace e1 := e1.ext kmA
    replace e2 := e2.ext kmA
    replace e3 := e3.ext kmA
    replace e4 := e4.ext kmA
    replace e5 := e5.ext kmA
    have k08 := k07.trans kmA
    clear k07 kmA
    walk_at "nm"
    walk_at "rd"
    unfold iEnum
    walk_at "rd"
    refine ⟨_, rfl, mkS fun H9 a6 k9 e6 => ?_⟩
    walk_at "rd"
    refine ⟨len_le (n := 1) (by decide), fun ocL hocL => ?_⟩
    have koc := same_new (o := .lst [.ref a6]) hocL
    have focL := upd_same (H := H9) (a := ocL) (o := .lst [.ref a6])
    have k8A := k9.trans koc
    replace e1 := e1.ext k8A
    replace e2 := e2.ext k8A
    replace e3 := e3.ext k8A
    replace e4 := e4.ext k8A
    replace e5 := e5.ext k8A
    replace e6 := e6.ext koc
    replace fmA := k8A _ _ fmA
    have k0A := k08.trans k8A
    generalize upd H9 ocL (.lst [.ref a6]) = HA at fmA focL e1 e2 e3 e4 e5 e6 k0A ⊢
    clear k08 k9 koc k8A
    refine ⟨mA, ocL, [.ref a1, .ref a2, .ref a3, .ref a4, .ref a5], [.ref a6], rfl, rfl, fmA, focL, len_le (n := 6) (by decide), fun mB hmB => ?_⟩
    have kmB := same_new (o := .lst ([.ref a1, .ref a2, .ref a3, .ref a4, .ref a5] ++ [.ref a6])) hmB
    have fmB : (upd HA mB (.lst ([.ref a1, .ref a2, .ref a3, .ref a4, .ref a5] ++ [.ref a6]))) mB = some (.lst [.ref a1, .ref a2, .ref a3, .ref a4, .ref a5, .ref a6]) := upd_same
    generalize upd HA mB (.lst ([.ref a1, .ref a2, .ref a3, .ref a4, .ref a5] ++ [.ref a6])) = HB at kmB fmB ⊢
    replace e1 := e1.ext kmB
    replace e2 := e2.ext kmB
    replace e3 := e3.ext kmB
    replace e4 := e4.ext kmB
    replace e5 := e5.ext kmB
    replace e6 := e6.ext kmB
    replace fmA := kmB _ _ fmA
    have k0B := k0A.trans kmB
    clear k0A kmB
    have each : ∀ i z, ([.ref a1, .ref a2, .ref a3, .ref a4, .ref a5, .ref a6] : List V)[i]? = some z → EachE K HB i z := by
      intro i z hz
      match i, hz with
      | 0, hz => cases hz; exact each_of e1.er T.C_InvalidSites T.kt_InvalidSites_InvalidSites T.kt_InvalidSites_InvalidTriangles T.kt_InvalidSites_InvalidBound T.kt_InvalidSites_InvalidCall T.kt_InvalidSites_NoCircle T.kt_InvalidSites_LimitExceeded T.k_InvalidSites T.kt_InvalidSites_ArithmeticError
      | 1, hz => cases hz; exact each_of e2.er T.C_InvalidTriangles T.kt_InvalidTriangles_InvalidSites T.kt_InvalidTriangles_InvalidTriangles T.kt_InvalidTriangles_InvalidBound T.kt_InvalidTriangles_InvalidCall T.kt_InvalidTriangles_NoCircle T.kt_InvalidTriangles_LimitExceeded T.k_InvalidTriangles T.kt_InvalidTriangles_ArithmeticError
      | 2, hz => cases hz; exact each_of e3.er T.C_InvalidBound T.kt_InvalidBound_InvalidSites T.kt_InvalidBound_InvalidTriangles T.kt_InvalidBound_InvalidBound T.kt_InvalidBound_InvalidCall T.kt_InvalidBound_NoCircle T.kt_InvalidBound_LimitExceeded T.k_InvalidBound T.kt_InvalidBound_ArithmeticError
      | 3, hz => cases hz; exact each_of e4.er T.C_InvalidCall T.kt_InvalidCall_InvalidSites T.kt_InvalidCall_InvalidTriangles T.kt_InvalidCall_InvalidBound T.kt_InvalidCall_InvalidCall T.kt_InvalidCall_NoCircle T.kt_InvalidCall_LimitExceeded T.k_InvalidCall T.kt_InvalidCall_ArithmeticError
      | 4, hz => cases hz; exact each_of e5 T.C_NoCircle T.kt_NoCircle_InvalidSites T.kt_NoCircle_InvalidTriangles T.kt_NoCircle_InvalidBound T.kt_NoCircle_InvalidCall T.kt_NoCircle_NoCircle T.kt_NoCircle_LimitExceeded T.k_NoCircle T.kt_NoCircle_ArithmeticError
      | 5, hz => cases hz; exact each_of e6.er T.C_LimitExceeded T.kt_LimitExceeded_InvalidSites T.kt_LimitExceeded_InvalidTriangles T.kt_LimitExceeded_InvalidBound T.kt_LimitExceeded_InvalidCall T.kt_LimitExceeded_NoCircle T.kt_LimitExceeded_LimitExceeded T.k_LimitExceeded T.kt_LimitExceeded_ArithmeticError
      | i + 6, hz => cases hz
    refine ⟨mB, _, rfl, SqL.of fmB, ?_⟩
    refine for_it (walk_enum (K := K) (a := mB) (xs := [.ref a1, .ref a2, .ref a3, .ref a4, .ref a5, .ref a6])) (fun i σ H' => (∃ y2 y3 y4 y5 y6, σ = [some (.int x), some (.ref mA), y2, y3, y4, y5, y6]) ∧ Same HB H') ⟨⟨_, _, _, _, _, rfl⟩, .refl _⟩ (fun i σ H' _ h => SqL.of (h.2 _ _ fmB)) ?_ ?_
    · rintro i z σ HC HD hi ⟨⟨y2, y3, y4, y5, y6, rfl⟩, xC⟩ ⟨tt, n, z2, rfl, htt, rfl, hn, hz⟩
      cases hn
      have kt := same_new (o := .tup [.int (i : Nat), z2]) htt
      have ft := upd_same (H := HC) (a := tt) (o := .tup [.int (i : Nat), z2])
      have xD := xC.trans kt
      generalize upd HC tt (.tup [.int (i : Nat), z2]) = HD at ft xD ⊢
      clear kt xC htt
      obtain ⟨a, C, d, rfl, ha, hd, EC, c0, c1, c2, c3, c4, c5, cc, ca⟩ := (each i z2 hz).ext xD
      walk_at "rd"
      refine isX ha hd EC (fun _ r => r) c0 ?_
      walk_at "rd"
      refine isX ha hd EC (fun _ r => r) c1 ?_
      walk_at "rd"
      refine isX ha hd EC (fun _ r => r) c2 ?_
      refine ⟨len_le (n := 3) (by decide), fun l1 hl1 => ?_⟩
      have kl1 := same_new (o := .lst [.bl (decide (i = 0)), .bl (decide (i = 1)), .bl (decide (i = 2))]) hl1
      have fl1 := upd_same (H := HD) (a := l1) (o := .lst [.bl (decide (i = 0)), .bl (decide (i = 1)), .bl (decide (i = 2))])
      replace xD := xD.trans kl1
      replace ha := kl1 _ _ ha
      replace hd : ∀ dd, d = some dd → ∃ fs, (upd HD l1 (.lst [.bl (decide (i = 0)), .bl (decide (i = 1)), .bl (decide (i = 2))])) dd = some (exd dd fs) := fun dd z => let ⟨fs, q⟩ := hd dd z; ⟨fs, kl1 _ _ q⟩
      generalize upd HD l1 (.lst [.bl (decide (i = 0)), .bl (decide (i = 1)), .bl (decide (i = 2))]) = HE at xD ha hd fl1 ⊢
      clear kl1
      walk_at "nm"
      walk_at "rd"
      refine isX ha hd EC (fun _ r => r) c3 ?_
      walk_at "rd"
      refine isX ha hd EC (fun _ r => r) c4 ?_
      walk_at "rd"
      refine isX ha hd EC (fun _ r => r) c5 ?_
      refine ⟨len_le (n := 3) (by decide), fun l2 hl2 => ?_⟩
      have kl2 := same_new (o := .lst [.bl (decide (i = 3)), .bl (decide (i = 4)), .bl (decide (i = 5))]) hl2
      have fl2 := upd_same (H := HE) (a := l2) (o := .lst [.bl (decide (i = 3)), .bl (decide (i = 4)), .bl (decide (i = 5))])
      replace xD := xD.trans kl2
      replace ha := kl2 _ _ ha
      replace fl1 := kl2 _ _ fl1
      replace hd : ∀ dd, d = some dd → ∃ fs, (upd HE l2 (.lst [.bl (decide (i = 3)), .bl (decide (i = 4)), .bl (decide (i = 5))])) dd = some (exd dd fs) := fun dd z => let ⟨fs, q⟩ := hd dd z; ⟨fs, kl2 _ _ q⟩
      generalize upd HE l2 (.lst [.bl (decide (i = 3)), .bl (decide (i = 4)), .bl (decide (i = 5))]) = HF at xD ha hd fl1 fl2 ⊢
      clear kl2
      refine ⟨l1, l2, [.bl (decide (i = 0)), .bl (decide (i = 1)), .bl (decide (i = 2))], [.bl (decide (i = 3)), .bl (decide (i = 4)), .bl (decide (i = 5))], rfl, rfl, fl1, fl2, len_le (n := 6) (by decide), fun l3 hl3 => ?_⟩
      have kl3 := same_new (o := .lst ([.bl (decide (i = 0)), .bl (decide (i = 1)), .bl (decide (i = 2))] ++ [.bl (decide (i = 3)), .bl (decide (i = 4)), .bl (decide (i = 5))])) hl3
      have fl3 : (upd HF l3 (.lst ([.bl (decide (i = 0)), .bl (decide (i = 1)), .bl (decide (i = 2))] ++ [.bl (decide (i = 3)), .bl (decide (i = 4)), .bl (decide (i = 5))]))) l3 = some (.lst [.bl (decide (i = 0)), .bl (decide (i = 1)), .bl (decide (i = 2)), .bl (decide (i = 3)), .bl (decide (i = 4)), .bl (decide (i = 5))]) := upd_same
      generalize upd HF l3 (.lst ([.bl (decide (i = 0)), .bl (decide (i = 1)), .bl (decide (i = 2))] ++ [.bl (decide (i = 3)), .bl (decide (i = 4)), .bl (decide (i = 5))])) = HG at kl3 fl3 ⊢
      replace xD := xD.trans kl3
      replace ha := kl3 _ _ ha
      replace hd : ∀ dd, d = some dd → ∃ fs, HG dd = some (exd dd fs) := fun dd z => let ⟨fs, q⟩ := hd dd z; ⟨fs, kl3 _ _ q⟩
      clear kl3
      walk_at "nm"
      walk_at "rd"
      refine ⟨l3, _, rfl, SqL.of fl3, fun D hD => ?_⟩
      refine lc_it (walk_enum (K := K) (a := l3) (xs := [.bl (decide (i = 0)), .bl (decide (i = 1)), .bl (decide (i = 2)), .bl (decide (i = 3)), .bl (decide (i = 4)), .bl (decide (i = 5))])) (fun j H' => Same HG H' ∧ H' D = some (.lst (if i < j then [.int (i : Nat)] else []))) ⟨same_new hD, upd_same⟩ (fun j H' _ h => SqL.of (h.1 _ _ fl3)) ?_ ?_
      · rintro j z HH HI hj ⟨hs, hl⟩ ⟨t2, n, m, rfl, ht2, rfl, hn, hm⟩
        cases hn
        have em : m = .bl (decide (i = j)) := by
          match j, hm with
          | 0, hm => cases hm; rfl
          | 1, hm => cases hm; rfl
          | 2, hm => cases hm; rfl
          | 3, hm => cases hm; rfl
          | 4, hm => cases hm; rfl
          | 5, hm => cases hm; rfl
          | j + 6, hm => cases hm
        subst em
        have kt := same_new (o := .tup [.int (j : Nat), .bl (decide (i = j))]) ht2
        have ft2 := upd_same (H := HH) (a := t2) (o := .tup [.int (j : Nat), .bl (decide (i = j))])
        have hs2 := hs.trans kt
        have hl2 := kt _ _ hl
        generalize upd HH t2 (.tup [.int (j : Nat), .bl (decide (i = j))]) = HI at ft2 hs2 hl2 ⊢
        clear kt ht2 hs hl
        walk_at "rd"
        refine ⟨rfl, ?_⟩
        walk_at "rd"
        by_cases e : i = j
        · subst e
          rw [decide_eq_true rfl]
          refine iteT ?_
          walk_at "rd"
          rw [if_neg (Nat.lt_irrefl i)] at hl2
          refine ⟨_, hl2, len_lt (by decide), fun b o hb => ?_, ?_⟩
          · rw [upd_ne (ne_of_none hb hD)]
            exact hs2 _ _ hb
          · rw [upd_same, if_pos (Nat.lt_succ_self i)]
            rfl
        · rw [decide_eq_false e]
          refine iteF ?_
          refine ⟨hs2, ?_⟩
          rw [hl2]
          by_cases e2 : i < j
          · rw [if_pos e2, if_pos (by omega)]
          · rw [if_neg e2, if_neg (by omega)]
      · rintro HH ⟨hs, hl⟩
        have hi6 : i < 6 := hi
        rw [show (if i < ([.bl (decide (i = 0)), .bl (decide (i = 1)), .bl (decide (i = 2)), .bl (decide (i = 3)), .bl (decide (i = 4)), .bl (decide (i = 5))] : List V).length then [V.int (i : Nat)] else []) = [V.int (i : Nat)] from if_pos hi6] at hl
        walk_at "rd"
        refine ⟨len_le (n := 1) (by decide), fun l4 hl4 => ?_⟩
        have k4 := same_new (o := .lst [.int (i : Nat)]) hl4
        have f4 := upd_same (H := HH) (a := l4) (o := .lst [.int (i : Nat)])
        have xH := xD.trans (hs.trans k4)
        replace hl := k4 _ _ hl
        replace ha := (hs.trans k4) _ _ ha
        replace hd : ∀ dd, d = some dd → ∃ fs, (upd HH l4 (.lst [.int (i : Nat)])) dd = some (exd dd fs) := fun dd z => let ⟨fs, q⟩ := hd dd z; ⟨fs, (hs.trans k4) _ _ q⟩
        generalize upd HH l4 (.lst [.int (i : Nat)]) = HI at f4 xH hl ha hd ⊢
        refine ⟨.list [.int (i : Nat)], .list [.int (i : Nat)], .lst (SqL.of hl) (.cons (.int _) .nil), .lst (SqL.of f4) (.cons (.int _) .nil), rfl, rfl, ?_⟩
        rw [eqvL1]
        refine ⟨false, rfl, ?_⟩
        refine iteF ?_
        walk_at "rd"
        refine isX ha hd EC (fun _ r => r) cc ?_
        walk_at "rd"
        refine iteF ?_
        walk_at "rd"
        refine isX ha hd EC (fun _ r => r) ca ?_
        walk_at "rd"
        refine iteF ?_
        walk_at "nm"
        exact ⟨⟨_, _, _, _, _, rfl⟩, xH⟩
    · rintro σ HC ⟨⟨y2, y3, y4, y5, y6, rfl⟩, xC⟩
      replace fmA := xC _ _ fmA
      obtain ⟨b1, d1, z1, h1, g1⟩ := e1.ext xC
      obtain ⟨b2, d2, z2, h2, g2⟩ := e2.ext xC
      obtain ⟨b3, d3, z3, h3, g3⟩ := e3.ext xC
      obtain ⟨b4, d4, z4, h4, g4⟩ := e4.ext xC
      walk_at "rd"
      refine g_xv ?_
      walk_at "rd"
      refine ⟨b1, _, d1, _, _, z1, h1, g1, T.C_InvalidSites, T.n_InvalidSites_at, rfl, ?_⟩
      walk_at "rd"
      refine g_xv ?_
      walk_at "rd"
      refine ⟨b2, _, d2, _, _, z2, h2, g2, T.C_InvalidTriangles, T.n_InvalidTriangles_at, rfl, ?_⟩
      walk_at "rd"
      refine g_xv ?_
      walk_at "rd"
      refine ⟨b3, _, d3, _, _, z3, h3, g3, T.C_InvalidBound, T.n_InvalidBound_argument, rfl, ?_⟩
      walk_at "rd"
      refine g_xv ?_
      walk_at "rd"
      refine ⟨b4, _, d4, _, _, z4, h4, g4, T.C_InvalidCall, T.n_InvalidCall_call, rfl, ?_⟩
      walk_at "rd"
      refine g_xv ?_
      walk_at "rd"
      refine ⟨by show 1 ≤ 1000; decide, mkS fun HD a7 k7 e7 => ?_⟩
      obtain ⟨b7, d7, z7, h7, g7⟩ := e7
      refine ⟨b7, _, d7, _, _, z7, h7, g7, T.C_LimitExceeded, T.n_LimitExceeded_limit, rfl, ?_⟩
      walk_at "rd"
      refine ⟨len_le (n := 5) (by decide), fun l5 hl5 => ?_⟩
      walk_at "rd"
      refine ⟨len_le (n := 1) (by decide), fun l6 hl6 => ?_⟩
      have k5 := same_new (o := .lst [.int x, .int x, .int x, .int x, .int x]) hl5
      have k6 := same_new (o := .lst [.int x]) hl6
      have f5 := k6 _ _ (upd_same (H := HD) (a := l5) (o := .lst [.int x, .int x, .int x, .int x, .int x]))
      have f6 := upd_same (H := upd HD l5 (.lst [.int x, .int x, .int x, .int x, .int x])) (a := l6) (o := .lst [.int x])
      have xE := ((k0B.trans xC).trans k7).trans (k5.trans k6)
      generalize upd (upd HD l5 (.lst [.int x, .int x, .int x, .int x, .int x])) l6 (.lst [.int x]) = HE at f5 f6 xE ⊢
      walk_at "rd"
      refine ⟨l6, 5, [.int x], rfl, rfl, f6, by decide, by decide, len_le (n := 5) (by decide), fun l7 hl7 => ?_⟩
      have k7 := same_new (o := .lst [.int x, .int x, .int x, .int x, .int x]) hl7
      refine ⟨.list [.int x, .int x, .int x, .int x, .int x], .list [.int x, .int x, .int x, .int x, .int x], dpL5 (k7 _ _ f5), dpL5 upd_same, rfl, rfl, ?_⟩
      rw [eqvL5]
      exact q _ (xE.trans k7)

end

end NC
namespace NC
section
variable {P : Program} {w : World} {K : PySem.W.Frag} {mg : Str → Option Value} {base : Heap}

def sp_law (K : PySem.W.Frag) : Sp := fun vs H Q _ => ∃ (a : Addr) (ns : List Int), vs = [.ref a] ∧ SqL K H a (ns.map V.int) ∧ ns.length ≤ 63 ∧ (∀ z ∈ ns, Builtin.Int.intBits z ≤ 1048576) ∧ LamX.Tabs (tbs K) H ∧ ∀ H', Q (.bl true) H'
theorem bA_law (T : Tops K mg) (s : Shared) (v : Value) : BindsTo s T.fd_law ⟨[v], []⟩ [("_law_script", v)] := FunD.bindsA (ps := P_law) T.F_law (fun _ _ _ _ _ _ us hl => match us, hl with | [_], _ => rfl) s [v] rfl
theorem same_new2 {H : Hp} {s : Addr} {o1 o2 : HO} (h : H s = none) : Same H (upd (upd H s o1) s o2) := fun b o hb => by
  rw [upd_ne (ne_of_none hb h), upd_ne (ne_of_none hb h)]
  exact hb
theorem ok_law (T : Tops K mg) (tb_law_sites_right : LamX.TabB base mg (He.cT K ("_law_sites_right", none)).1 (He.cT K ("_law_sites_right", none)).2) (tb_law_places_right : LamX.TabB base mg (He.cT K ("_law_places_right", none)).1 (He.cT K ("_law_places_right", none)).2) : FnOk P w K mg base CX0 19 (He.ga K "law") T.fd_law P_law (sp_law K) := by
  refine T.F_law.ok sc_law (fun vs H Q E h => ?_) (fun cdv A outer s H vs Q E hr h => ?_)
  · obtain ⟨a, ns, rfl, hS, hlen, hbits, tb0, q⟩ := h
    rfl
  · obtain ⟨a, ns, rfl, hS, hlen, hbits, tb0, q⟩ := h
    refine ⟨_, PSs.nox ((pss_cons (ps_set (i := 1) sc_law.nd rfl (.inl rfl) (pe_tup (pa_cons pe_int pa_nil)))
       (pss_cons (ps_for PassesOwn.never rfl (pi_range1 (by rfl) T.m_range (pa_cons pe_int pa_nil)) (pg_name (i := 2) sc_law.nd rfl (.inl rfl))
       (pss_one (ps_set (i := 1) sc_law.nd rfl (.inl rfl) (pe_tup (pa_cons (pv 1) pa_nil)))))
       (pss_cons (ps_for PassesOwn.never rfl (pi_listK K (pe_op op_cat (pe_lst (pa_cons (pe_call (ok_law_cell_at T) (hr.mono (by decide)) (by rfl) T.g_law_cell_at T.F_law_cell_at.kp (b_law_cell_at T) .nil pass0 (pa_cons (pv 0) (pa_cons pe_int pa_nil))) pa_nil)) (pe_slice (sl_listK K) (pv 0) (po_some pe_int) (po_some pe_int)))) (pg_name (i := 3) sc_law.nd rfl (.inl rfl))
       (pss_one (ps_if (pt_not (pt_val (pe_call (ok_law_errors_right T) (hr.mono (by decide)) (by rfl) T.g_law_errors_right T.F_law_errors_right.kp (b_law_errors_right T) .nil pass0 (pa_cons (pe_call (ok_law_next T) (hr.mono (by decide)) (by rfl) T.g_law_next T.F_law_next.kp (b_law_next T) .nil pass0 (pa_cons (pe_call (ok_law_source_of T) (hr.mono (by decide)) (by rfl) T.g_law_source_of T.F_law_source_of.kp (b_law_source_of T) .nil pass0 (pa_cons (pv 3) pa_nil)) (pa_cons pe_int pa_nil))) pa_nil))))
       (pss_one (ps_ret pe_bl))
       pss_nil)))
       (pss_cons (ps_set (i := 4) sc_law.nd rfl (.inl rfl) (pe_lst (pa_cons pe_bl (pa_cons pe_bl (pa_cons pe_non (pa_cons pe_str (pa_cons (pe_lst pa_nil) (pa_cons (pe_lst (pa_cons pe_int pa_nil)) (pa_cons (pe_tup (pa_cons pe_int pa_nil)) (pa_cons pe_dnewT pa_nil))))))))))
       (pss_cons (ps_if (pt_cmpR (op_neDK K hr.units) (pe_lc (own := [("_law_one_here", 5)]) (g := gName 5) (tt := tYes) rfl sc_law.nd (pi_listK K (pe_op op_cat (pe_lst (pa_cons pe_int (pa_cons (pe_un un_neg pe_int) (pa_cons (pe_op op_powA pe_int pe_int) pa_nil)))) (pv 4))) (blkOk_by (own := [("_law_one_here", 5)]) (N := N_law) (sc := defScope (top 50)) (by decide +kernel)) (fun _ _ _ _ _ => (pg_name (i := 5) sc_law.nd rfl (.inl rfl))) (fun _ _ _ _ _ => pts_nil) (fun _ _ _ _ _ => (pe_call (ok_is_integer T) (hr.mono (by decide)) (by rfl) T.g_is_integer T.F_is_integer.kp (b_is_integer T) .nil pass0 (pa_cons (pv 5) pa_nil)))) (pe_op op_cat (pe_op op_rep (pe_lst (pa_cons pe_bl pa_nil)) pe_int) (pe_op op_rep (pe_lst (pa_cons pe_bl pa_nil)) pe_int)) (nomark _))
       (pss_one (ps_ret pe_bl))
       pss_nil)
       (pss_cons (ps_if (pt_not (pt_val (pe_callN0 (ok_is_integer T) (hr.mono (by decide)) (by rfl) T.g_is_integer T.F_is_integer.kp (kb_is_integer_value T) pass0 (pk_cons pe_int pk_nil))))
       (pss_one (ps_ret pe_bl))
       pss_nil)
       (pss_one (ps_ret (pe_and (pe_call (ok_law_sites_right T tb_law_sites_right) (hr.mono (by decide)) (by rfl) T.g_law_sites_right T.F_law_sites_right.kp (b_law_sites_right T) .nil pass0 (pa_cons (pv 1) pa_nil)) (pe_one (pe_call (ok_law_places_right T tb_law_places_right) (hr.mono (by decide)) (by rfl) T.g_law_places_right T.F_law_places_right.kp (b_law_places_right T) .nil pass0 (pa_cons (pv 1) pa_nil))))))))))))), ?_⟩
    rw [st_law]
    walk_at "rd"
    refine ⟨len_le (n := 1) (by decide), fun p0 hp0 => ?_⟩
    walk_at "nm"
    walk_at "rd"
    refine ⟨1990, rfl, by decide, by decide, ?_⟩
    refine for_range (lo := 0) (n := 1990) (fun i σ H' => (∃ p v y, σ = [some (.ref a), some (.ref p), y, none, none, none] ∧ H' p = some (.tup [v])) ∧ Same H H') ⟨⟨p0, _, none, rfl, upd_same⟩, same_new hp0⟩ ?_ ?_
    · rintro i σ H' hi ⟨⟨p, v, y, rfl, e⟩, hs⟩
      walk_at "rd"
      refine ⟨len_le (n := 1) (by decide), fun p1 hp1 => ?_⟩
      exact ⟨⟨p1, _, _, rfl, upd_same⟩, hs.trans (same_new hp1)⟩
    rintro σ H1 ⟨⟨pd, v, y2, rfl, hd⟩, h1⟩
    walk_at "rd"
    refine ⟨a, ns, 0, rfl, h1.seq hS, fun H2 h2 => ?_⟩
    walk_at "rd"
    refine ⟨len_le (n := 1) (by decide), fun p1 hp1 => ?_⟩
    walk_at "rd"
    refine ⟨a, _, rfl, ((h1.trans h2).trans (same_new hp1)).seq hS, fun p2 hp2 => ?_⟩
    refine ⟨p1, p2, _, _, rfl, rfl, same_new hp2 _ _ upd_same, upd_same, len_le (by
      have := cutV_length (ns.map V.int) (some 1) (some 3)
      rw [List.length_map] at this
      show 1 + _ ≤ _
      omega), fun p3 hp3 => ?_⟩
    generalize hit : [V.int (ns.getD 0 0)] ++ cutV (ns.map V.int) (some 1) (some 3) = items
    have hints : ∀ z ∈ items, ∃ n : Int, z = .int n := fun z hz => by
      rw [← hit] at hz
      rcases List.mem_append.mp hz with h | h
      · exact ⟨_, List.mem_singleton.mp h⟩
      · exact all_ints (cut_mem h)
    have h3 := ((h2.trans (same_new (o := .lst [.int (ns.getD 0 0)]) hp1)).trans (same_new (o := .lst (cutV (ns.map V.int) (some 1) (some 3))) hp2)).trans (same_new (o := .lst items) hp3)
    have e3 : (upd (upd (upd H2 p1 (.lst [.int (ns.getD 0 0)])) p2 (.lst (cutV (ns.map V.int) (some 1) (some 3)))) p3 (.lst items)) p3 = some (.lst items) := upd_same
    generalize upd (upd (upd H2 p1 (.lst [.int (ns.getD 0 0)])) p2 (.lst (cutV (ns.map V.int) (some 1) (some 3)))) p3 (.lst items) = H3 at h3 e3 ⊢
    have tb3 := tb0.ext (h1.trans h3)
    replace hd := h3 _ _ hd
    refine ⟨p3, rfl, ⟨_, SqL.of e3⟩, ?_⟩
    refine for_list (K := K) (a := p3) (xs := items) (fun i σ H' => (∃ y2 y3, σ = [some (.ref a), some (.ref pd), y2, y3, none, none]) ∧ Same H3 H') ⟨⟨_, _, rfl⟩, .refl _⟩ (fun i σ H' _ h => SqL.of (h.2 _ _ e3)) ?_ ?_
    · rintro i z σ H4 hz ⟨⟨y2, y3, rfl⟩, h4⟩
      obtain ⟨n, rfl⟩ := hints z (List.mem_of_getElem? hz)
      walk_at "rd"
      refine ⟨n, rfl, fun s xs hs hx => ?_⟩
      walk_at "rd"
      refine ⟨s, 1000, xs, rfl, upd_same, hx, by decide, by decide, fun r ys hr0 hr1 hy => ?_⟩
      have h5 := h4.trans (same_new2 (o1 := .lst xs) (o2 := .lst ys) hs)
      generalize upd (upd H4 s (.lst xs)) s (.lst ys) = H5 at h5 ⊢
      walk_at "rd"
      refine ⟨r, rfl, fun H6 h6 => ?_⟩
      walk_at "rd"
      refine iteF ?_
      walk_at "nm"
      exact ⟨⟨_, _, rfl⟩, h5.trans h6⟩
    rintro σ H5 ⟨⟨y2, y3, rfl⟩, h5⟩
    replace hd := h5 _ _ hd
    have tb5 := tb3.ext h5
    walk_at "rd"
    refine ⟨len_le (n := 0) (by decide), fun na0 hna0 => ?_⟩
    walk_at "rd"
    refine ⟨len_le (n := 1) (by decide), fun na1 hna1 => ?_⟩
    walk_at "rd"
    refine ⟨len_le (n := 1) (by decide), fun na2 hna2 => ?_⟩
    walk_at "rd"
    refine fun na3 hna3 => ?_
    walk_at "rd"
    refine ⟨len_le (n := 8) (by decide), fun naL hnaL => ?_⟩
    have kna0 := same_new (o := .lst []) hna0
    have kna1 := same_new (o := .lst [.int 1]) hna1
    have kna2 := same_new (o := .tup [.int 1]) hna2
    have kna3 := same_new (o := .dT []) hna3
    have knaL := same_new (o := .lst [.bl true, .bl false, .non, .str "1", .ref na0, .ref na1, .ref na2, .ref na3]) hnaL
    have fna0 := knaL _ _ (kna3 _ _ (kna2 _ _ (kna1 _ _ (upd_same (H := H5) (a := na0) (o := .lst [])))))
    have fna1 := knaL _ _ (kna3 _ _ (kna2 _ _ (upd_same (H := upd (H5) na0 (.lst [])) (a := na1) (o := .lst [.int 1]))))
    have fna2 := knaL _ _ (kna3 _ _ (upd_same (H := upd (upd (H5) na0 (.lst [])) na1 (.lst [.int 1])) (a := na2) (o := .tup [.int 1])))
    have fna3 := knaL _ _ (upd_same (H := upd (upd (upd (H5) na0 (.lst [])) na1 (.lst [.int 1])) na2 (.tup [.int 1])) (a := na3) (o := .dT []))
    have fnaL := upd_same (H := upd (upd (upd (upd (H5) na0 (.lst [])) na1 (.lst [.int 1])) na2 (.tup [.int 1])) na3 (.dT [])) (a := naL) (o := .lst [.bl true, .bl false, .non, .str "1", .ref na0, .ref na1, .ref na2, .ref na3])
    have kna := (kna0.trans (kna1.trans (kna2.trans (kna3.trans knaL))))
    generalize upd (upd (upd (upd (upd (H5) na0 (.lst [])) na1 (.lst [.int 1])) na2 (.tup [.int 1])) na3 (.dT [])) naL (.lst [.bl true, .bl false, .non, .str "1", .ref na0, .ref na1, .ref na2, .ref na3]) = H6 at fna0 fna1 fna2 fna3 fnaL kna ⊢
    clear kna0 kna1 kna2 kna3 knaL
    walk_at "nm"
    walk_at "rd"
    refine ⟨len_le (n := 3) (by decide), fun nbL hnbL => ?_⟩
    have knbL := same_new (o := .lst [.int 0, .int (-1), .int (10 ^ (30 : Int).toNat)]) hnbL
    have fnbL := upd_same (H := H6) (a := nbL) (o := .lst [.int 0, .int (-1), .int (10 ^ (30 : Int).toNat)])
    have knb := knbL
    generalize upd (H6) nbL (.lst [.int 0, .int (-1), .int (10 ^ (30 : Int).toNat)]) = H7 at fnbL knb ⊢
    clear knbL
    replace fna0 := knb _ _ fna0
    replace fna1 := knb _ _ fna1
    replace fna2 := knb _ _ fna2
    replace fna3 := knb _ _ fna3
    replace fnaL := knb _ _ fnaL
    walk_at "rd"
    refine ⟨nbL, naL, [.int 0, .int (-1), .int (10 ^ (30 : Int).toNat)], [.bl true, .bl false, .non, .str "1", .ref na0, .ref na1, .ref na2, .ref na3], rfl, rfl, fnbL, fnaL, len_le (n := 11) (by decide), fun mA hmA => ?_⟩
    have kmA := same_new (o := .lst ([.int 0, .int (-1), .int (10 ^ (30 : Int).toNat)] ++ [.bl true, .bl false, .non, .str "1", .ref na0, .ref na1, .ref na2, .ref na3])) hmA
    have fmA : (upd H7 mA (.lst ([.int 0, .int (-1), .int (10 ^ (30 : Int).toNat)] ++ [.bl true, .bl false, .non, .str "1", .ref na0, .ref na1, .ref na2, .ref na3]))) mA = some (.lst [.int 0, .int (-1), .int (10 ^ (30 : Int).toNat), .bl true, .bl false, .non, .str "1", .ref na0, .ref na1, .ref na2, .ref na3]) := upd_same
    generalize upd H7 mA (.lst ([.int 0, .int (-1), .int (10 ^ (30 : Int).toNat)] ++ [.bl true, .bl false, .non, .str "1", .ref na0, .ref na1, .ref na2, .ref na3])) = H8 at kmA fmA ⊢
    replace fna0 := kmA _ _ fna0
    replace fna1 := kmA _ _ fna1
    replace fna2 := kmA _ _ fna2
    replace fna3 := kmA _ _ fna3
    replace fnaL := kmA _ _ fnaL
    have h8 := (kna.trans knb).trans kmA
    replace hd := h8 _ _ hd
    have tb8 := tb5.ext h8
    clear kna knb kmA h8
    have each : ∀ (i : Nat) z, ([.int 0, .int (-1), .int (10 ^ (30 : Int).toNat), .bl true, .bl false, .non, .str "1", .ref na0, .ref na1, .ref na2, .ref na3] : List V)[i]? = some z → ∃ b, IntV H8 z b ∧ ([true, true, true, false, false, false, false, false, false, false, false] : List Bool)[i]? = some b ∧ i < 11 := by
      intro i z hz
      match i, hz with
      | 0, hz => cases hz; exact ⟨_, .inl ⟨_, rfl, rfl⟩, rfl, by decide⟩
      | 1, hz => cases hz; exact ⟨_, .inl ⟨_, rfl, rfl⟩, rfl, by decide⟩
      | 2, hz => cases hz; exact ⟨_, .inl ⟨_, rfl, rfl⟩, rfl, by decide⟩
      | 3, hz => cases hz; exact ⟨_, .inr ⟨.inr (.inr (.inl ⟨_, rfl⟩)), rfl⟩, rfl, by decide⟩
      | 4, hz => cases hz; exact ⟨_, .inr ⟨.inr (.inr (.inl ⟨_, rfl⟩)), rfl⟩, rfl, by decide⟩
      | 5, hz => cases hz; exact ⟨_, .inr ⟨.inl rfl, rfl⟩, rfl, by decide⟩
      | 6, hz => cases hz; exact ⟨_, .inr ⟨.inr (.inl ⟨_, rfl⟩), rfl⟩, rfl, by decide⟩
      | 7, hz => cases hz; exact ⟨_, .inr ⟨.inr (.inr (.inr ⟨_, rfl, .inl ⟨_, fna0⟩⟩)), rfl⟩, rfl, by decide⟩
      | 8, hz => cases hz; exact ⟨_, .inr ⟨.inr (.inr (.inr ⟨_, rfl, .inl ⟨_, fna1⟩⟩)), rfl⟩, rfl, by decide⟩
      | 9, hz => cases hz; exact ⟨_, .inr ⟨.inr (.inr (.inr ⟨_, rfl, .inr (.inl ⟨_, fna2⟩)⟩)), rfl⟩, rfl, by decide⟩
      | 10, hz => cases hz; exact ⟨_, .inr ⟨.inr (.inr (.inr ⟨_, rfl, .inr (.inr ⟨_, fna3⟩)⟩)), rfl⟩, rfl, by decide⟩
      | i + 11, hz => cases hz
    refine ⟨mA, rfl, ⟨_, SqL.of fmA⟩, fun D hD => ?_⟩
    refine lc_list (K := K) (a := mA) (xs := [.int 0, .int (-1), .int (10 ^ (30 : Int).toNat), .bl true, .bl false, .non, .str "1", .ref na0, .ref na1, .ref na2, .ref na3]) (fun i H' => Same H8 H' ∧ H' D = some (.lst ((([true, true, true, false, false, false, false, false, false, false, false] : List Bool).take i).map V.bl))) ⟨same_new hD, upd_same⟩ (fun i H' _ h => SqL.of (h.1 _ _ fmA)) ?_ ?_
    · rintro i z H' hz ⟨hs, hl⟩
      obtain ⟨b, hb, hn, hi⟩ := each i z hz
      walk_at "rd"
      refine ⟨rfl, ?_⟩
      walk_at "rd"
      refine iteT ?_
      walk_at "rd"
      refine ⟨_, rfl, ?_⟩
      have fin : ∃ acc, H' D = some (.lst acc) ∧ acc.length < sizeLine ∧ (Same H8 (upd H' D (.lst (acc ++ [.bl b]))) ∧ (upd H' D (.lst (acc ++ [.bl b]))) D = some (.lst ((([true, true, true, false, false, false, false, false, false, false, false] : List Bool).take (i + 1)).map V.bl))) := by
        refine ⟨_, hl, len_lt (by rw [List.length_map, List.length_take]; omega), ?_, ?_⟩
        · intro b o hb
          rw [upd_ne (ne_of_none hb hD)]
          exact hs _ _ hb
        · rw [upd_same, List.take_add_one, hn, List.map_append]
          rfl
      rcases hb.ext (.of hs) with ⟨j, rfl, rfl⟩ | ⟨ni, rfl⟩
      · exact .inl ⟨j, rfl, fin⟩
      · exact .inr ⟨ni, fin⟩
    · rintro H9 ⟨hs, hl⟩
      have hl2 : H9 D = some (.lst [.bl true, .bl true, .bl true, .bl false, .bl false, .bl false, .bl false, .bl false, .bl false, .bl false, .bl false]) := hl
      clear hl
      replace hd := hs _ _ hd
      have tb9 := tb8.ext hs
      walk_at "rd"
      refine ⟨len_le (n := 1) (by decide), fun q1 hq1 => ?_⟩
      walk_at "rd"
      refine ⟨q1, 3, [.bl true], rfl, rfl, upd_same, by decide, by decide, len_le (n := 3) (by decide), fun q2 hq2 => ?_⟩
      walk_at "rd"
      refine ⟨len_le (n := 1) (by decide), fun q3 hq3 => ?_⟩
      walk_at "rd"
      refine ⟨q3, 8, [.bl false], rfl, rfl, upd_same, by decide, by decide, len_le (n := 8) (by decide), fun q4 hq4 => ?_⟩
      have k1 := same_new (o := .lst [.bl true]) hq1
      have k2 := same_new (o := .lst (List.replicate (3 : Int).toNat [V.bl true]).flatten) hq2
      have k3 := same_new (o := .lst [.bl false]) hq3
      have k4 := same_new (o := .lst (List.replicate (8 : Int).toNat [V.bl false]).flatten) hq4
      have f2 := (k3.trans k4) _ _ (upd_same (H := upd H9 q1 (.lst [.bl true])) (a := q2) (o := .lst (List.replicate (3 : Int).toNat [V.bl true]).flatten))
      have f4 := upd_same (H := upd (upd (upd H9 q1 (.lst [.bl true])) q2 (.lst (List.replicate (3 : Int).toNat [V.bl true]).flatten)) q3 (.lst [.bl false])) (a := q4) (o := .lst (List.replicate (8 : Int).toNat [V.bl false]).flatten)
      have k14 := k1.trans (k2.trans (k3.trans k4))
      generalize upd (upd (upd (upd H9 q1 (.lst [.bl true])) q2 (.lst (List.replicate (3 : Int).toNat [V.bl true]).flatten)) q3 (.lst [.bl false])) q4 (.lst (List.replicate (8 : Int).toNat [V.bl false]).flatten) = HA at f2 f4 k14 ⊢
      refine ⟨q2, q4, [.bl true, .bl true, .bl true], [.bl false, .bl false, .bl false, .bl false, .bl false, .bl false, .bl false, .bl false], rfl, rfl, f2, f4, len_le (n := 11) (by decide), fun q5 hq5 => ?_⟩
      have k5 := same_new (o := .lst [.bl true, .bl true, .bl true, .bl false, .bl false, .bl false, .bl false, .bl false, .bl false, .bl false, .bl false]) hq5
      have kA := k14.trans k5
      refine ⟨.list [.bool true, .bool true, .bool true, .bool false, .bool false, .bool false, .bool false, .bool false, .bool false, .bool false, .bool false], .list [.bool true, .bool true, .bool true, .bool false, .bool false, .bool false, .bool false, .bool false, .bool false, .bool false, .bool false], .lst (SqL.of (kA _ _ hl2)) (.cons (.bl _) (.cons (.bl _) (.cons (.bl _) (.cons (.bl _) (.cons (.bl _) (.cons (.bl _) (.cons (.bl _) (.cons (.bl _) (.cons (.bl _) (.cons (.bl _) (.cons (.bl _) (.nil)))))))))))), .lst (SqL.of upd_same) (.cons (.bl _) (.cons (.bl _) (.cons (.bl _) (.cons (.bl _) (.cons (.bl _) (.cons (.bl _) (.cons (.bl _) (.cons (.bl _) (.cons (.bl _) (.cons (.bl _) (.cons (.bl _) (.nil)))))))))))), by decide +kernel, by decide +kernel, ?_⟩
      rw [show PyData.eqv (.list [.bool true, .bool true, .bool true, .bool false, .bool false, .bool false, .bool false, .bool false, .bool false, .bool false, .bool false]) (.list [.bool true, .bool true, .bool true, .bool false, .bool false, .bool false, .bool false, .bool false, .bool false, .bool false, .bool false]) = true from by decide +kernel]
      refine ⟨false, rfl, ?_⟩
      refine iteF ?_
      walk_at "rd"
      refine ⟨rfl, rfl, _, rfl, .inl ⟨3, rfl, ?_⟩⟩
      walk_at "rd"
      refine iteF ?_
      walk_at "nm"
      walk_at "rd"
      replace hd := kA _ _ hd
      refine ⟨pd, v, rfl, hd, tb9.ext kA, fun HB xB tB => ?_⟩
      walk_at "rd"
      refine iteT ?_
      walk_at "rd"
      exact ⟨pd, v, rfl, xB _ _ hd (fun _ z => by cases z), tB, fun HC xC tC => q _⟩

end

end NC
open PySem PySem.W PySem.Calls PyProof.Rows
theorem PySem.Challenge.cw_nearcells_k04_what_signs_refuse_holds : PySem.Challenge.rw_nearcells_k04_what_signs_refuse.Holds := by
  w_on; o_law
  refine HandSHeadRun.head_any (r := OpenLaw.row PySem.Challenge.rw_nearcells_k04_what_signs_refuse) (q := view (OpenLaw.row PySem.Challenge.rw_nearcells_k04_what_signs_refuse).prog [50]) (H := NC.hk) (ob := NC.ob) (M := 4000) (loose := NC.loose) (d := HandSHeadRun.topDef (OpenLaw.row PySem.Challenge.rw_nearcells_k04_what_signs_refuse).prog 50) (kwd := []) NC.ob_eq
    (by kernel_rfl) (fun s => by kernel_rfl) NC.run (by kernel_rfl) (by kernel_rfl) (by kernel_rfl) (by rfl) (by first | assumption | decide +kernel) (by decide +kernel) ⟨rfl, rfl, rfl, rfl, rfl, by decide +kernel⟩ ?hw ?hc
  case hw => w_witness2
  case hc =>
    refine LamX.walk_ofTsE (l := PySem.Challenge.rw_nearcells_k04_what_signs_refuse) (n := 63) (k := 19) (x := "_law_script") (CX := fun _ => L2.CX0) rfl (by decide) (by kernel_rfl) ⟨rfl, by decide, by decide⟩ ?F (fun _ _ _ _ _ z => z)
    intro w mg fa h Y G hmg0
    obtain ⟨K, KX, c⟩ := Y
    have hmg : mg ("law" : PySem.Str) = some (.ref fa) := by
      have e : (HandSHeadRun.topDef (OpenLaw.row PySem.Challenge.rw_nearcells_k04_what_signs_refuse).prog 50).name = ("law" : PySem.Str) := by kernel_rfl
      rw [← e]
      exact hmg0
    obtain ⟨T⟩ := NC.tops KX G c.t.d c.more
    have e := hmg.symm.trans T.g_law
    cases e
    have key : ∀ p ∈ [He.cT K ("_law_sites_right", none), He.cT K ("_law_places_right", none)], ∃ q ∈ [(("_law_sites_right", none) : He.Defn), (("_law_places_right", none) : He.Defn)], p = He.cT K q := fun p hp => by
      have hp2 : p ∈ List.map (He.cT K) [(("_law_sites_right", none) : He.Defn), (("_law_places_right", none) : He.Defn)] := hp
      obtain ⟨q, hq, e⟩ := List.mem_map.mp hp2
      exact ⟨q, hq, e.symm⟩
    refine ⟨K, KX, T.fd_law, [He.cT K ("_law_sites_right", none), He.cT K ("_law_places_right", none)], NC.sp_law K, fun p hp => ?_, fun p hp => ?_, fun p hp => ?_, NC.bA_law T, fun H a ns hl hb hH hS => ⟨a, ns, rfl, hS, hl, hb, NC.tabs0 hH, fun _ => rfl⟩, fun base _ _ htb => NC.ok_law T (htb _ (by simp)) (htb _ (by simp))⟩
    · obtain ⟨q, hq, e⟩ := key p hp
      rw [e]
      exact c.empty q hq
    · obtain ⟨q, hq, e⟩ := key p hp
      rw [e]
      exact c.out q hq
    · obtain ⟨q, hq, e⟩ := key p hp
      rw [e]
      exact PySem.W.codeHd_of_K KX (c.hd q hq)
