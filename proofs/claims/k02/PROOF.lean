import PyProof.Rows.All
import Wide.All
import OpenK.AllK
import Wide.FinOn
import PyProof.EqAt
import PyProof.EqKinds
import PyProof.TupleCall
import KE.KStateDown
import Lean
import HandS.ForMost
import HandS.ForExc
import HandS.More
import HandS.Sort
import HandS.SortOrd
import HandS.SortRule
import HandS.SortInts
import HandS.Conv
import HandS.Deep
import HandS.Style
import HandS.Flow
import HandS.Wide
import HandS.Defaults
import HandS.IsInst
import HandS.EndBits
import HandS.TupLe
import HandS.TupAny
import HandS.Codes
import HandS.CallLocal
import HandS.NoneIn
import HandS.Head0
import HandS.Head1
import HandS.Head2
import HandS.HeadEnd
import HandS.HeadHook1
import HandS.HeadHook2
import HandS.HeadHook3
import HandS.HeadHook4
import KE.KExcInit
import HandS.ExcInit
import HandS.ExcField
import HandS.ExcIs
import HandS.TryMany
import HandS.TryOnly
import HandS.Lambda
import HandS.HeadWalk
import PySem.Challenge.RW_nearcells_k02_circles_of_sites
set_option Elab.async false
set_option linter.all false
set_option maxRecDepth 100000
set_option maxHeartbeats 4000000
/-! NCBase: what all laws here use: calls by keywords alone, the end with the script's bits, heaps, readings as rules. -/
namespace L2
open PySem PySem.Spec PyProof.Rows
/-! ### keywords alone -/
def permL {α : Type} (ix : List Nat) (xs : List α) : List α := ix.filterMap fun i => xs[i]?
theorem permL_vals {zs : List V} {ws : List Value} (r : Vals zs ws) : ∀ ix : List Nat, Vals (permL ix zs) (permL ix ws)
  | [] => .nil
  | i :: is => by
    have ih := permL_vals r is
    unfold permL at ih ⊢
    rw [List.filterMap_cons, List.filterMap_cons]
    cases e : zs[i]? with
    | none =>
      rw [r.none_of e]
      exact ih
    | some z =>
      obtain ⟨u, e2, r2⟩ := r.get e
      rw [e2]
      exact .cons r2 ih
theorem FunD.kbnP {K : PySem.W.Frag} {x qual : Str} {params : Arguments} {body : List Stmt} {scope : Scope} {kws : List (Str × V)} {f : Addr} {fd : FuncData} {ps : List Str} (F : FunD K x qual params body scope [] kws f fd) (n : Nat) (ks : List Str) (ix : List Nat)
    (h : ∀ (kV doc pm : Value) (an : Option Addr) (cdv ct : Value) (us ws : List Value), us.length = n → ws.length = ks.length → bindArgs (PySem.W.fnOf x qual params body scope .none kV doc pm an cdv ct) ⟨us, ks.zip ws⟩ = pure (ps.zip (permL ix (us ++ ws)))) :
    KBn K fd ps n ks (fun us ws => permL ix (us ++ ws)) (fun vs zs => permL ix (vs ++ zs)) := by
  obtain ⟨oc, od, dV, kV, doc, pm, an, cdv, ct, osl, rfl, lk, hcd, hD, hK⟩ := F.ex
  rcases hD with ⟨_, rfl⟩ | ⟨e, _⟩
  · exact ⟨fun s us ws _ l1 l2 => .of_eq (h kV doc pm an cdv ct us ws l1 l2), fun r1 r2 => permL_vals (r1.append r2) ix⟩
  · exact absurd rfl e
section
variable {X : Cx} {CX : CXT} {k : Nat} {f : Addr} {fd : FuncData} {ps ks : List Str} {sp : Sp} {E : XK} {x : Str} {p pos : Pos} {kws : List Keyword} {tk : TA} {g : List Value → List Value → List Value} {gV : List V → List V → List V}
/-- f(k = v, ..) -/
theorem pe_callN0 (F : FnOk X.prog X.w X.K X.mg X.base CX k f fd ps sp) (hr : Room k X.A) (hg : Gl X x) (hm : X.mg x = some (.ref f)) (hk : PySem.W.keepIn X.K (.ref f) = true) (hb : KBn X.K fd ps 0 ks g gV) (hx : Passes CX X E) (hkw : PK X kws tk)
    (hall : (backToKw pos (keywordEach kws X.env)).all (·.1.isSome) = true := by rfl) (hks : (backToKw pos (keywordEach kws X.env)).filterMap (·.1) = ks := by rfl) (hdb : (x == ("__debug__" : Str)) = false := by decide)
    (hpl : ((backTo pos (starEach [] X.env)).any (·.1) || (backToKw pos (keywordEach kws X.env)).any (·.1.isNone)) = false := by rfl) :
    PE X (.Call (.Name x p) [] kws pos) (tCallN 0 ks.length sp gV E tNil tk) := by
  refine ⟨fun pins s σ H Q I h => ?_⟩
  refine wpAny_Call_Name_kw (ld_glob I hg hm ?_ hdb)
  refine PySem.W.callWith_KW0 (h₀ := X.base) I.ok.mod.kin hk hall ?_ hpl
  refine thn (hkw.run pos pins s σ H _ I h) fun ws s2 ⟨zs, H2, I2, rz, l1, l2, q2⟩ => ⟨I2.kIn, ?_⟩
  rw [hks]
  exact run_fnN (us := []) (vs := []) F hr hb hx I2 .nil rz rfl l2 q2
end
/-! ### the end, with the script's bits -/
theorem walk_ofBE {l : PySem.W.OpenLaw} {n k : Nat} {q : Program} {loose : List Str} {XP : (Str → Option Value) → Heap → Prop} {YP : World → Heap → Prop} {d : DefRec} {CX : CXT} {x : Str}
    (hn : l.most = some n) (hn2 : n ≤ sizeLine) (hdf : d.params.defaults = []) (hr : Room k callerA)
    (F : ∀ (w : World) (mg : Str → Option Value) (fa : Addr) (h : Heap), YP w h → h.Ns mainGlobals mg → mg d.name = some (.ref fa) →
      ∃ (K : PySem.W.Frag) (fd : FuncData) (sp : Sp), K.In h ∧ (∀ (s : Shared) (u : Value), BindsTo s fd ⟨[u], []⟩ [(x, u)]) ∧
        (∀ (H : Hp) (a : Addr) (ns : List Int), ns.length ≤ n → (∀ z ∈ ns, Builtin.Int.intBits z ≤ 1048576) → Only H → SqL K H a (ns.map V.int) → sp [.ref a] H (fun v _ => v = .bl true) fun _ _ _ => False) ∧
        ∀ base : Heap, K.In base → base.Ns mainGlobals mg → FnOk l.prog w K mg base CX k fa fd [x] sp)
    (hCX : ∀ (H : Hp) (s : Shared) (e : Value) (s' : Shared), CX [] H s (fun _ _ _ => False) e s' → False) :
    PySem.W.WalkO q loose XP YP l.row.toRowW d [] (fun f vs => PySem.call f vs) := by
  refine Att.attach_callB hn hdf fun w s₀ s₁ mg mb fa o pm cd doc a vs ns G Y ho hd hcd hmg hobj hints hlen hbits hg => ?_
  obtain ⟨K, fd, sp, KX, hb, hsp, hF⟩ := F w mg fa _ Y G.T.g hmg
  exact law_call KX G.T.g G.T.b G.T.builtins G.T.nolimit hg hobj hints (Nat.le_trans hlen hn2) hr hF hb (fun H hO hS => hsp H a ns hlen hbits hO hS) fun H e s' => hCX H s₁ e s'
/-! ### readings as rules -/
section
variable {σ : St} {H : Hp} {Q : VK} {D : Ends} {K : PySem.W.Frag} {v x y : V}
theorem g_var {i : Nat} (h : σ[i]? = some (some v)) (q : Q v H) : tVar i σ H Q := ⟨v, h, q⟩
theorem g_c (q : Q v H) : tC v σ H Q := q
theorem g_op {r : R2} {ta tb : TE} (q : ta σ H fun x H1 => tb σ H1 fun y H2 => r x y H2 Q) : tOp r ta tb σ H Q := q
theorem g_un {r : V → Hp → VK → Prop} {ta : TE} (q : ta σ H fun x H1 => r x H1 Q) : tUn r ta σ H Q := q
theorem g_I0 {g : Int → Int → V} {i j : Int} (q : Q (g i j) H) : rI0 g (.int i) (.int j) H Q := ⟨i, j, rfl, rfl, q⟩
theorem g_mul {g : Int → Int → V} {i j : Int} (hc : CMul i j) (q : Q (g i j) H) : rI CMul g (.int i) (.int j) H Q := ⟨i, j, rfl, rfl, hc, q⟩
theorem g_I {C : Int → Int → Prop} {g : Int → Int → V} {i j : Int} (hc : C i j) (q : Q (g i j) H) : rI C g (.int i) (.int j) H Q := ⟨i, j, rfl, rfl, hc, q⟩
theorem g_U {g : Int → V} {i : Int} (q : Q (g i) H) : rU g (.int i) H Q := ⟨i, rfl, q⟩
theorem g_eqI {i j : Int} (q : Q (.bl (decide (i = j))) H) : rEq (.int i) (.int j) H Q := ⟨rfl, by rw [dec_int, Bool.beq_eq_decide_eq]; exact q⟩
theorem g_neI {i j : Int} (q : Q (.bl (!decide (i = j))) H) : rNe (.int i) (.int j) H Q := ⟨rfl, by rw [dec_int, Bool.beq_eq_decide_eq]; exact q⟩
theorem g_eqB {i j : Bool} (q : Q (.bl (i == j)) H) : rEq (.bl i) (.bl j) H Q := ⟨rfl, by rw [dec_bl]; exact q⟩
theorem g_neB {i j : Bool} (q : Q (.bl (!(i == j))) H) : rNe (.bl i) (.bl j) H Q := ⟨rfl, by rw [dec_bl]; exact q⟩
theorem g_cons {ta : TE} {tr : TA} {q : List V → Hp → Prop} (h : ta σ H fun x H1 => tr σ H1 fun xs H2 => q (x :: xs) H2) : tCons ta tr σ H q := h
theorem g_nil {q : List V → Hp → Prop} (h : q [] H) : tNil σ H q := h
theorem g_tup {t : TA} (h : t σ H fun xs H1 => xs.length ≤ sizeLine ∧ ∀ p, H1 p = none → Q (.ref p) (upd H1 p (.tup xs))) : tTup t σ H Q := h
theorem g_lst {t : TA} (h : t σ H fun xs H1 => xs.length ≤ sizeLine ∧ ∀ p, H1 p = none → Q (.ref p) (upd H1 p (.lst xs))) : tLst t σ H Q := h
theorem g_ixT {p : Addr} {xs : List V} {i : Int} (h : H p = some (.tup xs)) (ha : atI xs i = some v) (q : Q v H) : rIxT K (.ref p) (.int i) H Q := ⟨p, xs, i, v, rfl, rfl, SqT.of h, ha, q⟩
theorem g_ixL {p : Addr} {xs : List V} {i : Int} (h : H p = some (.lst xs)) (ha : atI xs i = some v) (q : Q v H) : rIxL K (.ref p) (.int i) H Q := ⟨p, xs, i, v, rfl, rfl, SqL.of h, ha, q⟩
theorem g_cb {r : List V → Hp → VK → Prop} {t : TA} (q : t σ H fun vs H1 => r vs H1 Q) : tCB r t σ H Q := q
theorem g_call {sp : Sp} {dvs : List V} {E : XK} {t : TA} (q : t σ H fun vs H1 => sp (vs ++ dvs) H1 Q E) : tCall sp dvs E t σ H Q := q
theorem g_test {t : TE} {q : Bool → Hp → Prop} (h : t σ H fun x H' => ∃ k, x = .bl k ∧ q k H') : tTest t σ H q := h
theorem g_tb {t : TE} {q : Bool → Hp → Prop} (h : t σ H fun x H' => ∃ k, x = .bl k ∧ q k H') : tB t σ H q := h
theorem g_bl {b : Bool} {q : Bool → Prop} (h : q b) : ∃ k, V.bl b = .bl k ∧ q k := ⟨b, rfl, h⟩
theorem g_yes {q : Bool → Hp → Prop} (h : q true H) : tYes σ H q := h
theorem g_and {t u : TT} {q : Bool → Hp → Prop} (h : t σ H fun c H1 => if c = true then u σ H1 q else q false H1) : tAnd t u σ H q := h
theorem g_or {t u : TT} {q : Bool → Hp → Prop} (h : t σ H fun c H1 => if c = true then q true H1 else u σ H1 q) : tOr t u σ H q := h
theorem g_not {t : TT} {q : Bool → Hp → Prop} (h : t σ H fun c H1 => q (!c) H1) : tNot t σ H q := h
theorem g_if {t : TT} {ta tb : TE} (h : t σ H fun c H1 => if c = true then ta σ H1 Q else tb σ H1 Q) : tIf t ta tb σ H Q := h
theorem g_ifS {c : TT} {t u : TS} (h : c σ H fun b H1 => if b = true then t D σ H1 else u D σ H1) : tIfS c t u D σ H := h
theorem g_seq {t u : TS} (h : t { D with nx := u D } σ H) : tSeq t u D σ H := h
theorem g_next (h : D.nx σ H) : tNext D σ H := h
theorem g_ret {te : TE} (h : te σ H D.rt) : tRet te D σ H := h
theorem g_asg {te : TE} {g : TG} (h : te σ H fun x H1 => g x σ H1 D.nx) : tAsg te g D σ H := h
theorem g_name {i : Nat} {q : St → Hp → Prop} (h : q (σ.set i (some v)) H) : gName i v σ H q := h
theorem g_drop {te : TE} (h : te σ H fun _ H1 => D.nx σ H1) : tDrop te D σ H := h
theorem g_par {i j : Nat} {ta : TA} (h : ta σ H fun vs H1 => ∃ v w, vs = [v, w] ∧ D.nx ((σ.set i (some v)).set j (some w)) H1) : tPar i j ta D σ H := h
theorem g_par3 {i j l : Nat} {ta : TA} (h : ta σ H fun vs H1 => ∃ u v w, vs = [u, v, w] ∧ D.nx (((σ.set i (some u)).set j (some v)).set l (some w)) H1) : tPar3 i j l ta D σ H := h
theorem g_chain {r r' : R2} {ta tb tc : TE} (h : ta σ H fun x H1 => tb σ H1 fun y H2 => r x y H2 fun z H3 => ∃ k, z = .bl k ∧ (if k = true then tc σ H3 fun w' H4 => r' y w' H4 Q else Q (.bl false) H3)) : tChain r r' ta tb tc σ H Q := h
theorem g_andV {ta tb : TE} (h : ta σ H fun x H1 => ∃ c, x = .bl c ∧ if c = true then tb σ H1 Q else Q (.bl false) H1) : tAndV ta tb σ H Q := h
theorem g_orV {ta tb : TE} (h : ta σ H fun x H1 => ∃ c, x = .bl c ∧ if c = true then Q (.bl true) H1 else tb σ H1 Q) : tOrV ta tb σ H Q := h
theorem g_notV {ta : TE} (h : ta σ H fun x H1 => ∃ c, x = .bl c ∧ Q (.bl (!c)) H1) : tNotV ta σ H Q := h
theorem g_sub {to ti : TE} {t : TSet} {q : St → Hp → Prop} (h : to σ H fun o H1 => ti σ H1 fun i H2 => t o i v H2 fun H3 => q σ H3) : gSub to ti t v σ H q := h
theorem g_setL {p : Addr} {xs : List V} {k : Int} {j : Nat} {q : Hp → Prop} (h : H p = some (.lst xs)) (hj : ixN xs.length k = some j) (hq : q (upd H p (.lst (xs.set j v)))) : rSetL (.ref p) (.int k) v H q := ⟨p, xs, k, j, rfl, rfl, h, hj, hq⟩
theorem g_tupG {n : Nat} {t : TGs} {a : Addr} {xs : List V} {q : St → Hp → Prop} (h : H a = some (.tup xs)) (hn : xs.length = n) (hq : t xs σ H q) : gTup K n t (.ref a) σ H q := ⟨a, xs, rfl, SqT.of h, hn, hq⟩
theorem g_unl {n : Nat} {t : TGs} {a : Addr} {xs : List V} {q : St → Hp → Prop} (h : H a = some (.lst xs)) (hn : xs.length = n) (hq : t xs σ H q) : gUnl K n t (.ref a) σ H q := ⟨a, xs, rfl, SqL.of h, hn, hq⟩
theorem g_consG {t : TG} {u : TGs} {r : List V} {q : St → Hp → Prop} (h : t v σ H fun σ' H' => u r σ' H' q) : gCons t u (v :: r) σ H q := ⟨v, r, rfl, h⟩
theorem g_nilG {q : St → Hp → Prop} (h : q σ H) : gNil [] σ H q := ⟨rfl, h⟩
theorem g_callN {n m : Nat} {sp : Sp} {gV : List V → List V → List V} {E : XK} {t tk : TA} (h : t σ H fun vs H1 => tk σ H1 fun zs H2 => vs.length = n ∧ zs.length = m ∧ sp (gV vs zs) H2 Q E) : tCallN n m sp gV E t tk σ H Q := h
theorem g_sl {r : V → Option Int → Option Int → Hp → VK → Prop} {te : TE} {tl th : TO} (h : te σ H fun x H1 => tl σ H1 fun l H2 => th σ H2 fun u H3 => r x l u H3 Q) : tSl r te tl th σ H Q := h
end
/-! ### built-ins by names of their own -/
def rInt : List V → Hp → VK → Prop := fun xs H Q => (∃ i, xs = [.int i] ∧ Q (.int i) H) ∨ ∃ k, xs = [.bl k] ∧ Q (.int (if k then 1 else 0)) H
def rLenN (K : PySem.W.Frag) : List V → Hp → VK → Prop := fun xs H Q => ∃ p ys, xs = [.ref p] ∧ (SqL K H p ys ∨ SqT K H p ys) ∧ Q (.int ys.length) H
def rAbs : List V → Hp → VK → Prop := fun xs H Q => ∃ i, xs = [.int i] ∧ Q (.int (if i < 0 then -i else i)) H
def rMin2 : List V → Hp → VK → Prop := fun xs H Q => ∃ i j, xs = [.int i, .int j] ∧ Q (.int (if j < i then j else i)) H
def rMax2 : List V → Hp → VK → Prop := fun xs H Q => ∃ i j, xs = [.int i, .int j] ∧ Q (.int (if j > i then j else i)) H
def zsg (k : Bool) : Int := if k then 1 else 0
theorem zsg_lo (k : Bool) : 0 ≤ zsg k := by cases k <;> decide
theorem zsg_hi (k : Bool) : zsg k ≤ 1 := by cases k <;> decide
section
variable {X : Cx}
theorem call_intN : CallR X (.type "int") rInt := call_int1
theorem call_lenN : CallR X (.builtin "len") (rLenN X.K) := call_len_seq
theorem call_absN : CallR X (.builtin "abs") rAbs := call_abs
theorem call_min2N (hc : X.calm = true) : CallR X (.builtin "min") rMin2 := call_min2 hc
theorem call_max2N (hc : X.calm = true) : CallR X (.builtin "max") rMax2 := call_max2 hc
end
section
variable {σ : St} {H : Hp} {Q : VK} {D : Ends} {K : PySem.W.Frag}
theorem g_intI {i : Int} (q : Q (.int i) H) : rInt [.int i] H Q := .inl ⟨i, rfl, q⟩
theorem g_intB {k : Bool} (q : Q (.int (zsg k)) H) : rInt [.bl k] H Q := .inr ⟨k, rfl, q⟩
theorem g_lenL {p : Addr} {xs : List V} (h : H p = some (.lst xs)) (q : Q (.int xs.length) H) : rLenN K [.ref p] H Q := ⟨p, xs, rfl, .inl (SqL.of h), q⟩
theorem g_lenT {p : Addr} {xs : List V} (h : H p = some (.tup xs)) (q : Q (.int xs.length) H) : rLenN K [.ref p] H Q := ⟨p, xs, rfl, .inr (SqT.of h), q⟩
theorem g_abs {i : Int} (q : Q (.int (if i < 0 then -i else i)) H) : rAbs [.int i] H Q := ⟨i, rfl, q⟩
theorem g_min2 {i j : Int} (q : Q (.int (if j < i then j else i)) H) : rMin2 [.int i, .int j] H Q := ⟨i, j, rfl, q⟩
theorem g_max2 {i j : Int} (q : Q (.int (if j > i then j else i)) H) : rMax2 [.int i, .int j] H Q := ⟨i, j, rfl, q⟩
theorem g_mod {g : Int → Int → V} {i j : Int} (hc : 0 < j) (q : Q (g i j) H) : rI (fun _ j => 0 < j) g (.int i) (.int j) H Q := ⟨i, j, rfl, rfl, hc, q⟩
theorem g_div {g : Int → Int → V} {i j : Int} (h1 : 0 < j) (h2 : j < 1073741824) (q : Q (g i j) H) : rI CDiv g (.int i) (.int j) H Q := ⟨i, j, rfl, rfl, ⟨h1, h2⟩, q⟩
theorem g_pow {g : Int → Int → V} {i j : Int} (hc : CPow i j) (q : Q (g i j) H) : rI CPow g (.int i) (.int j) H Q := ⟨i, j, rfl, rfl, hc, q⟩
theorem g_isi {x : V} {T : String} {t : String} {b : Bool} (ty : TyX K H x (.type t)) (h : kitB t T = some b) (q : Q (.bl b) H) : rIsi K [x, .ty T] H Q := ⟨x, .ty T, .type t, .type T, b, rfl, .ty T, ty, kit_ty h, q⟩
theorem g_po {te : TE} {q : Option Int → Hp → Prop} (h : te σ H fun x H1 => ∃ i, x = .int i ∧ q (some i) H1) : tPart te σ H q := h
theorem g_pon {q : Option Int → Hp → Prop} (h : q none H) : tNoPart σ H q := h
theorem g_int1 {i : Int} {q : Int → Prop} (h : q i) : ∃ k, V.int i = .int k ∧ q k := ⟨i, rfl, h⟩
end
/-! ### rules with the written part told -/
section
variable {X : Cx}
theorem ix_tupK (K : PySem.W.Frag) (h : X.K = K := by rfl) : IxR X (rIxT K) := by subst h; exact ix_tup
theorem ix_listK (K : PySem.W.Frag) (h : X.K = K := by rfl) : IxR X (rIxL K) := by subst h; exact ix_list
theorem sl_listK (K : PySem.W.Frag) (h : X.K = K := by rfl) : SlR X (rSlL K) := by subst h; exact sl_list
theorem call_lenK (K : PySem.W.Frag) (h : X.K = K := by rfl) : CallR X (.builtin "len") (rLenN K) := by subst h; exact call_lenN
theorem call_isiK0 (K : PySem.W.Frag) (h : X.K = K := by rfl) : CallR X (.builtin "isinstance") (rIsi K) := by subst h; exact call_isi
theorem op_eqDK (K : PySem.W.Frag) (hu : X.A.units + 64 < cLine) (h : X.K = K := by rfl) : OpR X (compareOp .Eq) (rEqD K) := by subst h; exact op_eqD hu
theorem op_neDK (K : PySem.W.Frag) (hu : X.A.units + 64 < cLine) (h : X.K = K := by rfl) : OpR X (compareOp .NotEq) (rNeD K) := by subst h; exact op_neD hu
theorem op_inK (K : PySem.W.Frag) (h : X.K = K := by rfl) : OpR X (compareOp .In) (rIn K false) := by subst h; exact op_in_seq
theorem op_notInK (K : PySem.W.Frag) (h : X.K = K := by rfl) : OpR X (compareOp .NotIn) (rIn K true) := by subst h; exact op_notIn_seq
theorem cr_allK (K : PySem.W.Frag) (hc : X.calm = true) (h : X.K = K := by rfl) : CallR X (.builtin "all") (rAll K) := by subst h; exact cr_all hc
theorem cr_anyK (K : PySem.W.Frag) (hc : X.calm = true) (h : X.K = K := by rfl) : CallR X (.builtin "any") (rAny K) := by subst h; exact cr_any hc
theorem cr_sumK (K : PySem.W.Frag) (hc : X.calm = true) (h : X.K = K := by rfl) : CallR X (.builtin "sum") (rSum K) := by subst h; exact cr_sum hc
theorem pi_listK {tg l : Expr} {tl : TE} (K : PySem.W.Frag) (hl : PE X l tl) (h : X.K = K := by rfl) : PI X tg l (iList K tl) := by subst h; exact pi_list hl
theorem pi_tupK {tg l : Expr} {tl : TE} (K : PySem.W.Frag) (hl : PE X l tl) (h : X.K = K := by rfl) : PI X tg l (iTup K tl) := by subst h; exact pi_tup hl
end
/-! ### loops -/
abbrev LoopP (g : TG) (tb : TS) (D : Ends) (σ : St) (J : It) (H1 : Hp) : Prop := ∃ W : Nat → Nat → St → Hp → Prop, (∃ m, W 0 m σ H1) ∧ ∀ i m σ H, W i m σ H →
  (J.stop i H ∧ D.nx σ H) ∨ (J.go i H ∧ ∃ N : St → Hp → Prop, (∀ σ' H', N σ' H' → ∃ m', m' < m ∧ W (i + 1) m' σ' H') ∧ ∀ x H', J.yld i H x H' → g x σ H' fun σ2 H2 => tb { D with nx := N, ct := N, bk := D.nx } σ2 H2)
abbrev LcP (g : TG) (tt : TT) (te : TE) (vs : List Nat) (σ : St) (Q : VK) (J : It) (H1 : Hp) : Prop := ∀ D, H1 D = none → ∃ W : Nat → Nat → Hp → Prop, (∃ m, W 0 m (upd H1 D (.lst []))) ∧ ∀ i m H, W i m H →
  (J.stop i H ∧ Q (.ref D) H) ∨ (J.go i H ∧ ∃ Nx : Hp → Prop, (∀ H', Nx H' → ∃ m', m' < m ∧ W (i + 1) m' H') ∧ ∀ x H', J.yld i H x H' → g x (wipe σ vs) H' fun σ2 H2 => wipe σ2 vs = wipe σ vs ∧ tt σ2 H2 fun b H3 =>
    if b = true then te σ2 H3 fun y H4 => ∃ acc, H4 D = some (.lst acc) ∧ acc.length < sizeLine ∧ Nx (upd H4 D (.lst (acc ++ [y]))) else Nx H3)
section
variable {σ : St} {H : Hp} {Q : VK} {D : Ends} {K : PySem.W.Frag}
theorem g_for {wi : TI} {g : TG} {tb : TS} (h : wi σ H (LoopP g tb D σ)) : tFor wi g tb D σ H := h
theorem g_lc {wi : TI} {g : TG} {tt : TT} {te : TE} {vs : List Nat} (h : wi σ H (LcP g tt te vs σ Q)) : tLc wi g tt te vs σ H Q := h
theorem g_rng1 {ta : TA} {R : It → Hp → Prop} (h : ta σ H fun vs H1 => ∃ j : Int, vs = [.int j] ∧ -(2 ^ 62) ≤ j ∧ j < 2 ^ 62 ∧ R (Itr 0 j.toNat) H1) : iRng1 ta σ H R := h
theorem g_rng2 {ta : TA} {R : It → Hp → Prop} (h : ta σ H fun vs H1 => ∃ i j : Int, vs = [.int i, .int j] ∧ (-(2 ^ 62) ≤ i ∧ i < 2 ^ 62 ∧ -(2 ^ 62) ≤ j ∧ j < 2 ^ 62) ∧ R (Itr i (j - i).toNat) H1) : iRng2 ta σ H R := h
theorem g_ilist {tl : TE} {R : It → Hp → Prop} (h : tl σ H fun x H1 => ∃ a, x = .ref a ∧ (∃ xs, SqL K H1 a xs) ∧ R (Itl K a) H1) : iList K tl σ H R := h
theorem g_itup {tl : TE} {R : It → Hp → Prop} (h : tl σ H fun x H1 => ∃ a, x = .ref a ∧ (∃ xs, SqT K H1 a xs) ∧ R (Itt K a) H1) : iTup K tl σ H R := h
theorem g_ikeys {td : TE} {R : It → Hp → Prop} (h : td σ H fun x H1 => ∃ d o, x = .ref d ∧ ((∃ kvs, H1 d = some (.frz o (.dK kvs)) ∧ R (Itk d o kvs) H1) ∨ ∃ kvs, H1 d = some (.frz o (.dT kvs)) ∧ R (Itkt d o kvs) H1)) : iKeys td σ H R := h
end
/-- over the keys of a locked dict of tuples -/
theorem lc_keysT {d : Addr} {o : Obj} {kvs : List (List Key × V)} {g : TG} {tt : TT} {te : TE} {vs : List Nat} {σ : St} {H1 : Hp} {D : Addr} {Qd : Hp → Prop} (Pv : Nat → Hp → Prop) (h0 : Pv 0 (upd H1 D (.lst []))) (hl : ∀ i H, i ≤ kvs.length → Pv i H → H d = some (.frz o (.dT kvs)))
    (hs : ∀ i k v q H, kvs[i]? = some (k, v) → H q = some (.tup (k.map kV)) → Pv i H → g (.ref q) (wipe σ vs) H fun σ2 H2 => wipe σ2 vs = wipe σ vs ∧ tt σ2 H2 fun b H3 =>
      if b = true then te σ2 H3 fun y H4 => ∃ acc, H4 D = some (.lst acc) ∧ acc.length < sizeLine ∧ Pv (i + 1) (upd H4 D (.lst (acc ++ [y]))) else Pv (i + 1) H3) (hd : ∀ H, Pv kvs.length H → Qd H) :
    ∃ W : Nat → Nat → Hp → Prop, (∃ m, W 0 m (upd H1 D (.lst []))) ∧ ∀ i m H, W i m H →
      ((Itkt d o kvs).stop i H ∧ Qd H) ∨ ((Itkt d o kvs).go i H ∧ ∃ Nx : Hp → Prop, (∀ H', Nx H' → ∃ m', m' < m ∧ W (i + 1) m' H') ∧ ∀ x H', (Itkt d o kvs).yld i H x H' → g x (wipe σ vs) H' fun σ2 H2 => wipe σ2 vs = wipe σ vs ∧ tt σ2 H2 fun b H3 =>
        if b = true then te σ2 H3 fun y H4 => ∃ acc, H4 D = some (.lst acc) ∧ acc.length < sizeLine ∧ Nx (upd H4 D (.lst (acc ++ [y]))) else Nx H3) := by
  refine ⟨fun i m H => m + i = kvs.length ∧ Pv i H, ⟨kvs.length, rfl, h0⟩, fun i m H hW => ?_⟩
  obtain ⟨em, p⟩ := hW
  have hd2 := hl i H (by omega) p
  by_cases hi : i < kvs.length
  · refine .inr ⟨⟨hd2, hi⟩, Pv (i + 1), fun H' p' => ⟨m - 1, by omega, by omega, p'⟩, fun x H' hy => ?_⟩
    obtain ⟨rfl, k, v, q, e1, rfl, e2⟩ := hy
    exact hs i k v q _ e1 e2 p
  · have e : i = kvs.length := by omega
    subst e
    exact .inl ⟨⟨hd2, Nat.le_refl _⟩, hd H p⟩
theorem mulL {i j : Int} (h1 : -1000000000000000000 ≤ i) (h2 : i ≤ 1000000000000000000) : CMul i j := .inl ⟨by omega, by omega⟩
theorem mulR {i j : Int} (h1 : -1000000000000000000 ≤ j) (h2 : j ≤ 1000000000000000000) : CMul i j := .inr ⟨by omega, by omega⟩
theorem len_le {n : Nat} (h : n ≤ 1000000) : n ≤ sizeLine := Nat.le_trans h (by decide)
theorem len_lt {n : Nat} (h : n < 1000000) : n < sizeLine := Nat.lt_of_lt_of_le h (by decide)
theorem pow_ok {i : Int} {j : Int} (h1 : 0 ≤ i) (h2 : i < 9223372036854775808) (h3 : 0 ≤ j) (h4 : j ≤ 1000000) : CPow i j := ⟨h3, h4, by omega⟩
/-! ### great numbers -/
def CMulA (i j : Int) : Prop := CMul i j ∨ CMulW i j
theorem CMulA.ok {i j : Int} (h : CMulA i j) : IntMulOk i j := h.elim CMul.ok CMulW.ok
def CDivA (_ j : Int) : Prop := j ≠ 0 ∧ j.natAbs.log2 < 9000
def CPowA (i j : Int) : Prop := 0 ≤ j ∧ (Builtin.Int.intBits i : Int) * j ≤ 2 ^ 27
def rMax3 : List V → Hp → VK → Prop := fun xs H Q => ∃ i j k, xs = [.int i, .int j, .int k] ∧ Q (.int (if j > i then (if k > j then k else j) else (if k > i then k else i))) H
section
variable {X : Cx}
theorem op_mulA : OpR X (binaryOp .Mult) (rI CMulA fun i j => .int (i * j)) := opI fun _ _ _ _ _ _ _ hc q => mul_int q hc.ok
theorem op_fdivA : OpR X (binaryOp .FloorDiv) (rI CDivA fun i j => .int (i.fdiv j)) := opI fun _ _ _ _ _ _ _ hc q => floordiv_int hc.1 q (.inl (PyProof.noPylong_of_log2 hc.2))
theorem op_powA : OpR X (binaryOp .Pow) (rI CPowA fun i j => .int (i ^ j.toNat)) := opI fun _ _ _ _ _ _ _ hc q => pow_int hc.1 hc.2 q
theorem call_max3N (hc : X.calm = true) : CallR X (.builtin "max") rMax3 := by
  intro pins s σ H xs us Q I r h
  obtain ⟨i, j, k, rfl, q⟩ := h
  obtain ⟨u1, u2, u3, rfl, ⟨t1, rfl⟩, ⟨t2, rfl⟩, ⟨t3, rfl⟩⟩ : ∃ u1 u2 u3, us = [u1, u2, u3] ∧ RelV (.int i) u1 ∧ RelV (.int j) u2 ∧ RelV (.int k) u3 := by
    cases r with
    | cons a r =>
      cases r with
      | cons b r =>
        cases r with
        | cons c r =>
          cases r
          exact ⟨_, _, _, rfl, a, b, c⟩
  refine max_three_ints (I.ok.hd hc) fun h' tk hk => ?_
  refine ⟨_, H, I.kept hk, ?_, q⟩
  by_cases h1 : j > i <;> by_cases h2 : k > j <;> by_cases h3 : k > i <;> simp only [h1, h2, h3, if_true, if_false] <;> exact ⟨_, rfl⟩
end
section
variable {H : Hp} {Q : VK}
theorem g_mulA {g : Int → Int → V} {i j : Int} (hc : CMulA i j) (q : Q (g i j) H) : rI CMulA g (.int i) (.int j) H Q := ⟨i, j, rfl, rfl, hc, q⟩
theorem g_divA {g : Int → Int → V} {i j : Int} (hc : CDivA i j) (q : Q (g i j) H) : rI CDivA g (.int i) (.int j) H Q := ⟨i, j, rfl, rfl, hc, q⟩
theorem g_powA {g : Int → Int → V} {i j : Int} (hc : CPowA i j) (q : Q (g i j) H) : rI CPowA g (.int i) (.int j) H Q := ⟨i, j, rfl, rfl, hc, q⟩
theorem g_max3 {i j k : Int} (q : Q (.int (if j > i then (if k > j then k else j) else (if k > i then k else i))) H) : rMax3 [.int i, .int j, .int k] H Q := ⟨i, j, k, rfl, q⟩
end
theorem mulW {i j : Int} (h1 : i.natAbs < 2 ^ 400) (h2 : j.natAbs < 2 ^ 400) : CMulA i j := .inr (wide_mul h1 h2 (by decide) (by decide) (by decide))
theorem divW {i j : Int} (h0 : j ≠ 0) (h : j.natAbs < 2 ^ 4000) : CDivA i j := ⟨h0, Nat.lt_of_lt_of_le (PySem.Flt.log2_lt_of (by decide) h) (by decide)⟩
theorem divB {i j : Int} (h0 : 0 < j) (h : j < 1267650600228229401496703205376) : CDivA i j := by
  refine divW (by omega) (Nat.lt_of_lt_of_le (m := 2 ^ 100) ?_ (Nat.pow_le_pow_right (by decide) (by decide)))
  have e : (2 : Nat) ^ 100 = 1267650600228229401496703205376 := by decide
  rw [e]
  omega
theorem powW {i : Int} (h : i.natAbs < 2 ^ 400) : CPowA i 2 := by
  refine ⟨by decide, ?_⟩
  have b : Builtin.Int.intBits i ≤ i.natAbs.log2 + 1 := by
    unfold Builtin.Int.intBits
    split <;> omega
  have c : i.natAbs.log2 < 400 := PySem.Flt.log2_lt_of (by decide) h
  have e : (2 : Int) ^ 27 = 134217728 := by decide
  rw [e]
  omega
theorem powS {i j : Int} (h0 : 0 ≤ j) (h1 : j ≤ 1000) (h : i.natAbs < 2 ^ 64) : CPowA i j := by
  refine ⟨h0, ?_⟩
  have b : Builtin.Int.intBits i ≤ i.natAbs.log2 + 1 := by
    unfold Builtin.Int.intBits
    split <;> omega
  have c : i.natAbs.log2 < 64 := PySem.Flt.log2_lt_of (by decide) h
  have e : (2 : Int) ^ 27 = 134217728 := by decide
  rw [e]
  have h2 : (Builtin.Int.intBits i : Int) * j ≤ 64 * 1000 := Int.mul_le_mul (by omega) h1 h0 (by decide)
  omega
/-! ### heaps: the tuples stay -/
def TK (H H' : Hp) : Prop := ∀ p xs, H p = some (.tup xs) → H' p = some (.tup xs)
theorem TK.refl (H : Hp) : TK H H := fun _ _ h => h
theorem TK.trans {H H1 H2 : Hp} (a : TK H H1) (b : TK H1 H2) : TK H H2 := fun p xs h => b p xs (a p xs h)
theorem TK.new {H : Hp} {p : Addr} {o : HO} (n : H p = none) : TK H (upd H p o) := fun q xs h => by
  rw [upd_ne (ne_of_none h n)]
  exact h
theorem TK.lst {H : Hp} {p : Addr} {l : List V} {o : HO} (n : H p = some (.lst l)) : TK H (upd H p o) := fun q xs h => by
  rw [upd_ne (ne_of h n (fun z => by cases z))]
  exact h
theorem TK.same {H H' : Hp} (s : Same H H') : TK H H' := fun p xs h => s p _ h
theorem same_new {H : Hp} {p : Addr} {o : HO} (h : H p = none) : Same H (upd H p o) := fun b x e => by
  rw [upd_ne (ne_of_none e h)]
  exact e
/-- v is the site (x, y) -/
def IsS (H : Hp) (v : V) (x y : Int) : Prop := ∃ p, v = .ref p ∧ H p = some (.tup [.int x, .int y])
theorem IsS.mono {H H' : Hp} {v : V} {x y : Int} (k : TK H H') (h : IsS H v x y) : IsS H' v x y := by
  obtain ⟨p, e, h⟩ := h
  exact ⟨p, e, k p _ h⟩
theorem all_ints {ns : List Int} {z : V} (h : z ∈ ns.map V.int) : ∃ n : Int, z = .int n := by
  obtain ⟨n, _, e⟩ := List.mem_map.mp h
  exact ⟨n, e.symm⟩
theorem cut_mem {xs : List V} {lo hi : Option Int} {z : V} (h : z ∈ cutV xs lo hi) : z ∈ xs := List.mem_of_mem_drop (List.mem_of_mem_take h)
theorem IsS.mk {H : Hp} {p : Addr} {x y : Int} : IsS (upd H p (.tup [.int x, .int y])) (.ref p) x y := ⟨p, rfl, upd_same⟩
end L2
/-! NCExc: own exception classes over ArithmeticError with an __init__ of their own. -/
namespace L2
open PySem PySem.Spec PyProof.Rows
abbrev aeT : List Value := [.type "ArithmeticError", .type "Exception", .type "BaseException", .type "object"]
/-- what the written part says of an own error class -/
structure OexA (K : PySem.W.Frag) (C : Addr) : Prop where
  ini : PySem.W.excInitIn K C aeT "ArithmeticError.__new__" = true
  ov : PySem.W.excOver K C aeT = true
  hd : PySem.W.hasDictIn K C = true
  sa : PySem.W.findIn K (.ref C) "__setattr__" = some (some (.builtin "object.__setattr__"))
  exC : PySem.W.subIn K (.ref C) (.type "BaseException") = some true
  tyC : PySem.W.typeIn K (.ref C) = some (.type "type")
  kC : PySem.W.keepIn K (.ref C) = true
def oexAB (K : PySem.W.Frag) (C : Addr) : Bool := PySem.W.excInitIn K C aeT "ArithmeticError.__new__" && (PySem.W.excOver K C aeT && (PySem.W.hasDictIn K C && (decide (PySem.W.findIn K (.ref C) "__setattr__" = some (some (.builtin "object.__setattr__"))) &&
  (decide (PySem.W.subIn K (.ref C) (.type "BaseException") = some true) && (decide (PySem.W.typeIn K (.ref C) = some (.type "type")) && PySem.W.keepIn K (.ref C))))))
theorem oexAB_ok {K : PySem.W.Frag} {C : Addr} (h : oexAB K C = true) : OexA K C := by
  obtain ⟨h1, h⟩ := Bool.and_eq_true_iff.mp h
  obtain ⟨h2, h⟩ := Bool.and_eq_true_iff.mp h
  obtain ⟨h3, h⟩ := Bool.and_eq_true_iff.mp h
  obtain ⟨h4, h⟩ := Bool.and_eq_true_iff.mp h
  obtain ⟨h5, h⟩ := Bool.and_eq_true_iff.mp h
  obtain ⟨h6, h7⟩ := Bool.and_eq_true_iff.mp h
  exact ⟨h1, h2, h3, of_decide_eq_true h4, of_decide_eq_true h5, of_decide_eq_true h6, h7⟩
section
variable {prog : Program} {w : World} {A : Around} {R : Result → Shared → Prop} {hp : Heap} {g : Array GenState} {d : Drawn} {t : Nat} {os : OsState}
open Builtin Builtin.ObjectAttr in
/-- self.name = v on an exception that has no dict yet -/
theorem exc_osaA {K : PySem.W.Frag} {name : Str} {tk : Tok} {v : Value} {x C : Addr} {fv : Array Value} (T : OexA K C)
    (X : K.In hp) (hx : hp.get? x = some { cls := .ref C, data := .fields fv }) (ha : PySem.W.findIn K (.ref C) name = some none)
    (hq : ∀ h' tk' dx, (∀ b o, b ≠ x → hp.get? b = some o → h'.get? b = some o) → hp.objs.size ≤ dx → dx ≠ x → h'.get? x = some { cls := .ref C, dict := some dx, data := .fields fv } →
      h'.Ns1 dx (fun y => if y = name then some v else none) → R (.ok (.ret .none)) ⟨h', g, d, tk', os⟩) :
    codeAny (model prog w) A (.call (.builtin "object.__setattr__") ⟨[.ref x, .str name tk, v], []⟩) R ⟨hp, g, d, t, os⟩ := by
  have I : PySem.W.InstAt hp x { cls := .ref C, data := .fields fv } C none := ⟨hx, rfl, rfl, trivial⟩
  have hxs : x ≠ hp.objs.size := Nat.ne_of_lt (Heap.lt_size hx)
  refine PySem.W.osa_openX (od := none) (r := none) F.store_ArithmeticError X I T.ov (by unfold PySem.W.takerIn; rw [ha] <;> rfl) fun b => ?_
  obtain ⟨cd, hcd, hh⟩ := PySem.W.any_some T.hd
  have hcls : PySem.W.Looks (model prog w) hp (classData C) cd := PySem.W.looks_clsIn X hcd
  show wpAny _ _ (storeInOwnDict (.ref x) (.ref C) (.str name tk) name v b) _ _ _
  obtain ⟨nm, bs, mro, ns, qn, hd, sn, sb, ab, col, del⟩ := cd
  dsimp only at hh
  subst hh
  unfold storeInOwnDict ownDictForStores
  repeat (first | with_reducible refine PySem.HandSPX.store_in_new ?_ ?_ | with_reducible refine wpAny_loadPart_at hx ?_ | with_reducible refine hcls.at ?_ | wp_step)
  · exact ⟨_, #[], _, (Heap.get?_update_ne _ _ _ _ hxs.symm).trans (Heap.get?_push_at rfl rfl), rfl, fun e he => absurd he (by simp), fun _ => rfl⟩
  · intro h' tk' hn' hs
    have hx₁ : (hp.push { cls := .type "dict", data := .dict #[] }).get? x = some { cls := .ref C, data := .fields fv } := Heap.get?_push_of_some _ hx
    refine hq h' tk' hp.objs.size (fun b o hb ho => ?_) (Nat.le_refl _) hxs.symm ?_ hn'
    · exact (hs.2 b (Nat.ne_of_lt (Heap.lt_size ho))).trans ((Heap.get?_update_ne _ _ _ _ hb).trans (Heap.get?_push_of_some _ ho))
    · exact (hs.2 x hxs).trans (Heap.get?_update_self _ hx₁ rfl)
end
section
variable {X : Cx} {pins : List (Addr × Obj)} {σ : St} {H : Hp} {s : Shared} {a C dx : Addr} {f : Str} {y : V} {u : Value} {Q : Unit → Shared → Prop} {E : Value → Shared → Prop} {A : Around}
/-- self.f = y, the only one -/
theorem ost_newA (T : OexA X.K C) (I : Inv X pins σ H s) (e : H a = some (exo a C none)) (hno : PySem.W.findIn X.K (.ref C) f = some none) (ry : RelV y u)
    (h : ∀ dx s', H dx = none → dx ≠ a → Inv X pins σ (upd (upd H dx (exd dx [(f, y)])) a (exo a C (some dx))) s' → Q () s') : wpAny (model X.prog X.w) A (setAttr (.ref a) f u) Q E s := by
  obtain ⟨t1, ho⟩ := exo_at I.hok e
  obtain ⟨hp, g, d, t, os⟩ := s
  refine PySem.W.set_plain I.kIn (ox := { cls := .ref C, dict := none, data := .fields #[.ref t1, .none, .none, .none, .bool false, .none] }) (od := none) ⟨ho, rfl, rfl, trivial⟩ T.sa ?_
  refine exc_osaA T I.kIn ho hno (fun h' tk' dx k dn dne hx hn => ?_)
  have hnd : H dx = none := I.hok.fresh dn
  have nd : ∀ {b : Addr} {o : Obj}, hp.get? b = some o → b ≠ dx := fun {b o} q => Nat.ne_of_lt (Nat.lt_of_lt_of_le (Heap.lt_size q) dn)
  have na : ∀ {b : Addr}, H b = none → b ≠ a := fun {b} n z => by
    rw [z, e] at n
    cases n
  have Un1 : Un X.fs [] H (upd (upd H dx (exd dx [(f, y)])) a (exo a C (some dx))) hp h' := {
    keep := fun b o q n _ _ => k b o (na n) q
    slot := fun b o q n _ _ => ⟨o.slots, k b o (na n) q⟩
    free := fun b o q n _ => by rw [upd_ne (na n), upd_ne (nd q)]; exact n
    there := fun b o q _ => by
      by_cases hb : b = a
      · exact ⟨_, by rw [hb]; exact hx⟩
      · exact ⟨o, k b o hb q⟩
    tups := fun b xs q => by rw [upd_ne (at_ne e q exo_tup), upd_ne (ne_of_none q hnd)]; exact q
    frzs := fun b o v q => by rw [upd_ne (at_ne e q exo_frz), upd_ne (ne_of_none q hnd)]; exact q
    tbls := fun b ps q => ⟨#[], by rw [upd_ne (at_ne e q exo_tbl), upd_ne (ne_of_none q hnd), q]; simp⟩ }
  refine h dx _ hnd dne (I.un (t' := tk') Un1 fun b o q => ?_)
  by_cases hb : b = a
  · subst hb
    rw [upd_same] at q
    cases q
    exact exo_ok hx
  · rw [upd_ne hb] at q
    by_cases hd : b = dx
    · subst hd
      rw [upd_same] at q
      cases q
      exact exd_ok hn (relO_put (fs := []) ry fun g => True.intro)
    · rw [upd_ne hd] at q
      exact (I.hok b o q).stay (fun c v hc z => k c v (by
          rcases hc with hc | hc
          · rw [hc]
            exact hb
          · exact at_ne e hc exo_own) z)
        (fun c hc => by rw [upd_ne (at_ne e hc exo_own), upd_ne (ne_of_none hc hnd)]; exact hc) (fun c xs hc => by rw [upd_ne (at_ne e hc exo_tup), upd_ne (ne_of_none hc hnd)]; exact hc)
/-- ArithmeticError.__init__(self, ..): nothing of it is told -/
theorem oinit_okA {us : List Value} {Q : Value → Shared → Prop} (T : OexA X.K C) (I : Inv X pins σ H s) (e : H a = some (exo a C none)) (hl : us.length ≤ sizeLine) (h : ∀ s', Inv X pins σ H s' → Q .none s') :
    wpAny (model X.prog X.w) A (call (.builtin "ArithmeticError.__init__") (.ref a :: us)) Q E s := by
  obtain ⟨nm, N, q, bs, bm, hdct, sn, sub, ab, col, dd, k0, k1, k2, k3, k5, hC, hbm⟩ := PySem.W.excInit_of I.kIn T.ini
  obtain ⟨t1, ho⟩ := exo_at I.hok e
  obtain ⟨hp, g, d, t, os⟩ := s
  refine wpAny_call (PySem.HandSPX.init_base F.excBase_ArithmeticError hbm hC ho hl fun h' t2 k hx => ?_)
  have J := I.write (t' := t) (x := a) (e := a) (o := exo a C none) (by rw [e]; exact True.intro) (.inl rfl) k ⟨_, hx⟩ (exo_ok hx)
  have eu : upd H a (exo a C none) = H := by
    funext b
    by_cases hb : b = a
    · rw [hb, upd_same, e]
    · rw [upd_ne hb]
  rw [eu] at J
  exact h _ J
end
/-! ### readings and rules -/
/-- what a class over ArithmeticError says when its __init__ is read -/
structure BaseA (K : PySem.W.Frag) (C : Addr) : Prop where
  kp : PySem.W.keepIn K (.ref C) = true
  sp : PySem.W.specialIn K (.ref C) "__getattribute__" = some (some (.builtin "type.__getattribute__"))
  rd : PySem.W.readsIn K C (.type "type") = true
  fi : PySem.W.findCls K (.ref C) (.type "type") "__init__" = some (.val (.builtin "ArithmeticError.__init__"))
def baseAB (K : PySem.W.Frag) (C : Addr) : Bool := PySem.W.keepIn K (.ref C) && (decide (PySem.W.specialIn K (.ref C) "__getattribute__" = some (some (.builtin "type.__getattribute__"))) && (PySem.W.readsIn K C (.type "type") &&
  (match PySem.W.findCls K (.ref C) (.type "type") "__init__" with
    | some (.val (.builtin n)) => n == "ArithmeticError.__init__"
    | _ => false)))
theorem baseAB_ok {K : PySem.W.Frag} {C : Addr} (h : baseAB K C = true) : BaseA K C := by
  obtain ⟨h1, h⟩ := Bool.and_eq_true_iff.mp h
  obtain ⟨h2, h⟩ := Bool.and_eq_true_iff.mp h
  obtain ⟨h3, h4⟩ := Bool.and_eq_true_iff.mp h
  refine ⟨h1, of_decide_eq_true h2, h3, ?_⟩
  split at h4
  · rename_i n e
    rw [e, beq_iff_eq.mp h4]
  · cases h4
/-- Base.__init__(self, ..) -/
def tCeI (K : PySem.W.Frag) (ta : TA) : TE := fun σ H Q => ta σ H fun vs H1 => ∃ (a C : Addr) (ws : List V), vs = .ref a :: ws ∧ ws.length ≤ 1000 ∧ OexA K C ∧ H1 a = some (exo a C none) ∧ Q .non H1
/-- self.f = e -/
def tOsA (K : PySem.W.Frag) (f : Str) (to te : TE) : TS := fun D σ H => te σ H fun y H1 => to σ H1 fun x H2 => ∃ a C : Addr, x = .ref a ∧ OexA K C ∧ PySem.W.findIn K (.ref C) f = some none ∧
  H2 a = some (exo a C none) ∧ ∀ dx, H2 dx = none → dx ≠ a → D.nx σ (upd (upd H2 dx (exd dx [(f, y)])) a (exo a C (some dx)))
/-- C(e, ..), C's own __init__ keeping sp -/
def tMkA (C : Addr) (sp : Sp) (ta : TA) : St → Hp → XK → Prop := fun σ H Q => ta σ H fun vs H1 => vs.length ≤ 1000 ∧ ∀ a, H1 a = none → sp (.ref a :: vs) (upd H1 a (exo a C none))
  (fun v H2 => v = .non ∧ ((H2 a = some (exo a C none) ∧ Q (.ref C) none (del H2 a)) ∨ ∃ (d : Addr) (fs : List (Str × V)), H2 a = some (exo a C (some d)) ∧ H2 d = some (exd d fs) ∧ H1 d = none ∧ Q (.ref C) (some d) (upd (del H2 a) d (.xd fs)))) (fun _ _ _ => False)
section
variable {X : Cx} {o e : Expr} {es : List Expr} {to te : TE} {ta : TA} {f : Str} {p p' p1 p2 pos : Pos}
theorem pe_ceinit {pl : Sem Bool} {x : Str} {B : Addr} (T0 : BaseA X.K B) (hg : Gl X x) (hm : X.mg x = some (.ref B)) (ha : PA X (e :: es) ta)
    (hc : eval (.Call (.Attribute (.Name x p1) "__init__" p2) (e :: es) [] pos) X.env = (do
      let ov ← eval (.Name x p1) X.env
      standAt p2.atName
      let (f, first) ← holding [ov] (getMethod ov "__init__" pl)
      callWith pos f first (backTo pos (starEach (e :: es) X.env)) (backToKw pos (keywordEach [] X.env))) := by rfl)
    (he : starEach (e :: es) X.env = (false, eval e X.env) :: starEach es X.env := by rfl) (hpl : (backTo pos (starEach es X.env)).any (·.1) = false := by rfl) (hdb : (x == ("__debug__" : Str)) = false := by decide) :
    PE X (.Call (.Attribute (.Name x p1) "__init__" p2) (e :: es) [] pos) (tCeI X.K ta) := by
  refine ⟨fun pins s σ H Q I h => ?_⟩
  refine PySem.W.methodCall_KW (ld_glob I hg hm ?_ hdb) hc
  refine PySem.W.method_cls I.kIn T0.sp ?_
  refine PySem.W.cls_value I.kIn T0.rd T0.fi (by decide +kernel) ?_
  show wpAny _ _ (callWith pos (Value.builtin "ArithmeticError.__init__") [] (backTo pos (starEach (e :: es) X.env)) []) _ _ _
  refine PyProof.Rows.callWith_method1 (thn (ha.run pos pins _ σ H _ (I.tok _) h) fun us s1 ⟨vs, H1, I1, r1, a, C, ws, ev, hl, T, ea, q⟩ => ?_) he hpl
  subst ev
  cases r1 with
  | @cons _ u0 _ ur ra rw' =>
    obtain rfl : u0 = Value.ref a := ra
    have hlen : ur.length ≤ sizeLine := by
      rw [← Paired.length rw', sizeLine_eq]
      omega
    exact oinit_okA T I1 ea hlen fun s' J => ⟨.non, H1, J, rfl, q⟩
theorem ps_osA (ho : PE X o to) (he : PE X e te) (hs : swapsWith e (some (.Attribute o f p')) pos.line X.env = pure false := by rfl) : PS X (.Assign [.Attribute o f p'] e pos) (tOsA X.K f to te) := by
  refine ⟨fun pins s σ H D I h => ?_⟩
  refine plainObj_wpAny_Assign_Attribute (thn (he.run pins s σ H _ I h) fun v s1 ⟨y, H1, I1, r1, q1⟩ => thn (ho.run pins s1 σ H1 _ I1 q1) fun u s2 ⟨x, H2, I2, r2, a, C, ex, T, hno, ea, q⟩ => ?_) hs
  subst ex
  obtain rfl : u = Value.ref a := r2
  exact ost_newA T I2 ea hno r1 fun dx s' n ne J => ⟨σ, _, J, q dx n ne⟩
/-- the end of C(): the exception, without a dict, is let go -/
theorem mk_endN {pins : List (Addr × Obj)} {σ : St} {H1 H2 : Hp} {Q : XK} {hp hp2 h2 : Heap} {g1 g2 : Array GenState} {d1 d2 : Drawn} {t1 t2 : Nat} {os1 os2 : OsState} {a C : Addr} (T : Raises X (.ref C)) (I1 : Inv X pins σ H1 ⟨hp, g1, d1, t1, os1⟩)
    (ha : hp.objs.size ≤ a) (k : ∀ b o, hp.get? b = some o → hp2.get? b = some o) (un : Un (frs X.stack) [] (upd H1 a (exo a C none)) H2 hp2 h2) (hok : HOk X.prog X.w H2 h2) (ho : os2 = os1) (hb : AllBare g2)
    (ea : H2 a = some (exo a C none)) (q : Q (.ref C) none (del H2 a)) : MkP X pins σ Q (.ref a) ⟨h2, g2, d2, t2, os2⟩ := by
  obtain ⟨t0, hoe⟩ := exo_at hok ea
  have hn : H1 a = none := I1.hok.fresh ha
  obtain ⟨G, g1', g2'⟩ := restrict h2 fun b => decide (b ≠ a)
  have gk : ∀ b, b ≠ a → G.get? b = h2.get? b := fun b hb => g1' b (decide_eq_true hb)
  have ge : G.get? a = none := g2' a (by simp)
  have nha : ∀ {b : Addr} {o : Obj}, hp.get? b = some o → b ≠ a := fun {b o} z => Nat.ne_of_lt (Nat.lt_of_lt_of_le (Heap.lt_size z) ha)
  have up : ∀ {b : Addr}, b ≠ a → H1 b = none → upd H1 a (exo a C none) b = none := fun {b} hb n => by rw [upd_ne hb]; exact n
  have U : Un (frs X.stack) [] H1 (del H2 a) hp G := {
    keep := fun b o z n hf hx => by
      rw [gk b (nha z)]
      exact un.keep b o (k b o z) (up (nha z) n) hf hx
    slot := fun b o z n hf hx => by
      rw [gk b (nha z)]
      exact un.slot b o (k b o z) (up (nha z) n) hf hx
    free := fun b o z n hx => by
      rw [del_ne (nha z)]
      exact un.free b o (k b o z) (up (nha z) n) hx
    there := fun b o z hx => by
      rw [gk b (nha z)]
      exact un.there b o (k b o z) hx
    tups := fun b xs z => by
      rw [del_ne (ne_of_none z hn)]
      exact un.tups b xs (by rw [upd_ne (ne_of_none z hn)]; exact z)
    frzs := fun b o v z => by
      rw [del_ne (ne_of_none z hn)]
      exact un.frzs b o v (by rw [upd_ne (ne_of_none z hn)]; exact z)
    tbls := fun b ps z => by
      rw [del_ne (ne_of_none z hn)]
      exact un.tbls b ps (by rw [upd_ne (ne_of_none z hn)]; exact z) }
  have hok3 : HOk X.prog X.w (del H2 a) G := fun b o z => by
    have hba : b ≠ a := fun e => by
      rw [e, del_same] at z
      cases z
    rw [del_ne hba] at z
    have noa : ∀ {c : Addr}, H2 c = some (.own b) → c ≠ a := fun {c} hc => at_ne ea hc exo_own
    exact (hok b o z).stay (fun c v hc y => by
        have hca : c ≠ a := by
          rcases hc with hc | hc
          · rw [hc]
            exact hba
          · exact noa hc
        rw [gk c hca]
        exact y)
      (fun c hc => by rw [del_ne (noa hc)]; exact hc) (fun c xs hc => by rw [del_ne (at_ne ea hc exo_tup)]; exact hc)
  have J : Inv X pins σ (del H2 a) ⟨G, g2, d2, t2, os2⟩ := I1.call' (ch := []) ho U hok3 hb (fun b z => absurd z (by simp))
  refine ⟨a, _, _, ⟨G, g2, d2, t2, os2⟩, _, .ref C, none, rfl, J, fun b o z => ?_, ge, hoe, ⟨rfl, rfl⟩, rfl, rfl, del_same, rfl, hb, T, q⟩
  by_cases hba : b = a
  · rw [hba, ge] at z
    cases z
  · exact (gk b hba).symm.trans z
theorem pmk_core {CX : CXT} {C fI : Addr} {k : Nat} {fd : FuncData} {ps : List Str} {sp : Sp} {pins : List (Addr × Obj)} {σ : St} {H1 : Hp} {Q : XK} {s1 : Shared} {vs : List V} {us : List Value} (T : OexA X.K C) (iC : PySem.W.findIn X.K (.ref C) "__init__" = some (some (.ref fI))) (tI : PySem.W.typeIn X.K (.ref fI) = some (.type "function"))
    (F1 : FnOk X.prog X.w X.K X.mg X.base CX k fI fd ps sp) (hr : Room (k + 1) X.A) (hb : Binds X.K fd ps []) (hx : Passes CX X (fun _ _ _ => False)) (I1 : Inv X pins σ H1 s1) (r1 : Vals vs us) (hz : vs.length ≤ 1000)
    (q1 : ∀ a, H1 a = none → sp (.ref a :: vs) (upd H1 a (exo a C none))
      (fun v H2 => v = .non ∧ ((H2 a = some (exo a C none) ∧ Q (.ref C) none (del H2 a)) ∨ ∃ (d : Addr) (fs : List (Str × V)), H2 a = some (exo a C (some d)) ∧ H2 d = some (exd d fs) ∧ H1 d = none ∧ Q (.ref C) (some d) (upd (del H2 a) d (.xd fs)))) (fun _ _ _ => False)) :
    wpAny (model X.prog X.w) X.A (call (.ref C) us) (MkP X pins σ Q) X.xe s1 := by
  obtain ⟨nm, N, q, bs, bm, hdct, sn, sub, ab, col, dd, k0, k1, k2, k3, k5, hC, hbm⟩ := PySem.W.excInit_of I1.kIn T.ini
  obtain ⟨hp, g, dr, tk, os⟩ := s1
  have hsz : hp.objs.size ≤ hp.objs.size + 1 := Nat.le_succ _
  have hn : H1 (hp.objs.size + 1) = none := I1.hok.fresh hsz
  have hq := q1 (hp.objs.size + 1) hn
  have kk : ∀ b o, hp.get? b = some o → ((hp.push (PySem.W.kdv_tup us)).push (PySem.HandSPX.excO C hp.objs.size)).get? b = some o := fun b o e => Heap.get?_push_of_some _ (Heap.get?_push_of_some _ e)
  have hget : ((hp.push (PySem.W.kdv_tup us)).push (PySem.HandSPX.excO C hp.objs.size)).get? (hp.objs.size + 1) = some (PySem.HandSPX.excO C hp.objs.size) := by heap_get
  have I2 : Inv X pins σ (upd H1 (hp.objs.size + 1) (exo (hp.objs.size + 1) C none)) ⟨(hp.push (PySem.W.kdv_tup us)).push (PySem.HandSPX.excO C hp.objs.size), g, dr, tk, os⟩ :=
    I1.laid (t' := tk) (a := hp.objs.size + 1) (o := exo (hp.objs.size + 1) C none) (h' := (hp.push (PySem.W.kdv_tup us)).push (PySem.HandSPX.excO C hp.objs.size)) kk hsz (exo_ok hget)
  have r2 : Vals (V.ref (hp.objs.size + 1) :: vs) (Value.ref (hp.objs.size + 1) :: us) := .cons rfl r1
  have r3 : Vals (V.ref (hp.objs.size + 1) :: vs) (Value.ref (hp.objs.size + 1) :: us ++ []) := by rw [List.append_nil]; exact r2
  have hl : (Value.ref (hp.objs.size + 1) :: us ++ []).length = ps.length := by
    have e := r3.length
    rw [F1.len _ _ _ _ hq] at e
    exact e.symm
  have hus : us.length ≤ sizeLine := by
    rw [← Paired.length r1, sizeLine_eq]
    omega
  refine wpAny_call (PySem.HandSPX.call_own F.excBase_ArithmeticError hbm hC (PySem.W.looks_findIn I1.kIn iC) (fun self => PySem.W.bind_fn I1.kIn self tI) hus
    (codeAny_mono (F1.run _ X.stack _ _ ⟨Value.ref (hp.objs.size + 1) :: us, []⟩ (Value.ref (hp.objs.size + 1) :: us ++ []) _ _ (fun _ _ _ => False) (hr.make C us []) (I2.env0.make C us []) (hb _ (Value.ref (hp.objs.size + 1) :: us) I2.kIn hl) r3 hq) fun r s' hq' => ?_))
  cases r with
  | error er => exact hx pins σ _ _ er s' I2 hq'
  | ok fl =>
    cases fl with
    | ret u =>
      obtain ⟨v, H2, os2, bare2, un2, hok2, rv, ev, hh⟩ := hq'
      subst ev
      obtain ⟨h2, g2, d2, t2, os'⟩ := s'
      rcases hh with ⟨ea, q2⟩ | ⟨d, fs, ea, ed, hd1, q2⟩
      · exact ⟨rv, mk_endN (raises_own T.exC T.tyC) I1 hsz kk un2 hok2 os2 bare2 ea q2⟩
      · exact ⟨rv, mk_end (raises_own T.exC T.tyC) I1 hsz kk un2 hok2 os2 bare2 ea ed hd1 q2⟩
    | next => exact False.elim hq'
    | brk => exact False.elim hq'
    | cont => exact False.elim hq'
/-- C(e, ..) -/
theorem pmk_oexA {CX : CXT} {x : Str} {C fI : Addr} {k : Nat} {fd : FuncData} {ps : List Str} {sp : Sp} (T : OexA X.K C) (iC : PySem.W.findIn X.K (.ref C) "__init__" = some (some (.ref fI))) (tI : PySem.W.typeIn X.K (.ref fI) = some (.type "function"))
    (F1 : FnOk X.prog X.w X.K X.mg X.base CX k fI fd ps sp) (hr : Room (k + 1) X.A) (hb : Binds X.K fd ps []) (hx : Passes CX X (fun _ _ _ => False)) (hg : Gl X x) (hm : X.mg x = some (.ref C)) (ha : PA X (e :: es) ta)
    (hdb : (x == ("__debug__" : Str)) = false := by decide) (he : starEach (e :: es) X.env = (false, eval e X.env) :: starEach es X.env := by rfl) (hpl : (backTo pos (starEach es X.env)).any (·.1) = false := by rfl) :
    PMk X (.Call (.Name x p) (e :: es) [] pos) (tMkA C sp ta) := by
  intro pins s σ H Q I h
  refine wpAny_Call_Name_kw (ld_glob I hg hm ?_ hdb)
  refine PySem.W.callWith_K (h₀ := X.base) I.ok.mod.kin T.kC (thn (ha.run pos pins s σ H _ I h) fun us s1 ⟨vs, H1, I1, r1, hz, q1⟩ => ⟨I1.kIn, ?_⟩) he hpl
  exact pmk_core T iC tI F1 hr hb hx I1 r1 hz q1
end
end L2
namespace L2
open PySem PySem.Spec PyProof.Rows
/-! ### several clauses, each with or without a name -/
/-- the ends of a suite whose name (slot i) is gone behind it -/
def endsGone (D : Ends) : Option Nat → Ends
  | none => D
  | some i => { nx := fun σ' H' => D.nx (σ'.set i none) H', rt := D.rt, bk := fun σ' H' => D.bk (σ'.set i none) H', ct := fun σ' H' => D.ct (σ'.set i none) H' }
def slotPut (σ : St) (a : Addr) : Option Nat → St
  | none => σ
  | some i => σ.set i (some (.ref a))
abbrev Cls1 : Type := Value × Option Nat × (Addr → Value → Option Addr → TS)
def wAny (K : PySem.W.Frag) (Wout : WX) (D : Ends) : List Cls1 → WX
  | [] => Wout
  | (c, i, ts) :: r => fun cls d σ H => ∃ b, PySem.W.exmOne K cls c = some b ∧ (b = true → ∀ a, H a = none → ts a cls d (endsGone D i) (slotPut σ a i) H) ∧ (b = false → wAny K Wout D r cls d σ H)
inductive HdsA (X : Cx) : List ExceptHandler → List Cls1 → Prop
  | nil : HdsA X [] []
  | plain {x : Str} {c : Value} {ts : Addr → Value → Option Addr → TS} {b₀ : Stmt} {suite : List Stmt} {np pos' : Pos} {hds : List ExceptHandler} {l : List Cls1} (hc : Names X x c)
      (hsu : ∀ (a : Addr) (oe : Obj) (cls : Value) (d : Option Addr) (pn : List (Addr × Obj)), Zc cls d oe → (∃ vs, oe.data = .fields vs) → PSs (X.suite a ((a, oe) :: pn)) (b₀ :: suite) (ts a cls d)) (r : HdsA X hds l) :
      HdsA X (.ExceptHandler (some (.Name x np)) none (b₀ :: suite) pos' :: hds) ((c, none, ts) :: l)
  | named {x n : Str} {c : Value} {i : Nat} {ts : Addr → Value → Option Addr → TS} {b₀ : Stmt} {suite : List Stmt} {np pos' : Pos} {hds : List ExceptHandler} {l : List Cls1} (hN : X.N.Nodup) (hi : X.N[i]? = some n) (hln : X.env.kindOf n = some .local) (hc : Names X x c)
      (hsu : ∀ (a : Addr) (oe : Obj) (cls : Value) (d : Option Addr) (pn : List (Addr × Obj)), Zc cls d oe → (∃ vs, oe.data = .fields vs) → PSs (X.suite a ((a, oe) :: pn)) (b₀ :: suite) (ts a cls d)) (r : HdsA X hds l) :
      HdsA X (.ExceptHandler (some (.Name x np)) (some n) (b₀ :: suite) pos' :: hds) ((c, some i, ts) :: l)
section
variable {X : Cx} {body : List Stmt} {h₀ : ExceptHandler} {hds : List ExceptHandler} {l : List Cls1} {pos : Pos} {tb : WX → TS} {Wout : WX}
theorem ps_try_any (hs : X.stack = X.env :: X.outer) (hf : X.env.frame = some X.env.locals) (tk : Takes X Wout)
    (hb : ∀ (W : WX) (pn : List (Addr × Obj)) (xe : Value → Shared → Prop), Takes (X.tr pn xe) W → PassesOwn (model X.prog X.w) X.A X.env xe → PSs (X.tr pn xe) body (tb W))
    (hh : HdsA X (h₀ :: hds) l) : PS X (.Try body (h₀ :: hds) [] [] pos) (fun D σ H => tb (wAny X.K Wout D l) D σ H) := by
  refine ⟨fun pins s σ H D I h => ?_⟩
  have ok := I.ok
  have hfr : X.A.frames = some (X.env :: X.outer) := by rw [ok.frames, hs]
  refine wpAny_Try_except ?_
  refine wpAny_mono ((hb (wAny X.K Wout D l) (X.pn ++ pins) (fun e s₁ => wpAny (model X.prog X.w) X.A (noteFrame e X.env) (fun _ s₂ => wpAny (model X.prog X.w) X.A (setFlight e none) (fun _ s₃ =>
    wpAny (model X.prog X.w) X.A (handleBy e X.env (h₀ :: hds)) (SP X pins D) X.xe s₃) X.xe s₂) X.xe s₁) (fun u s' xx => ?_) PassesOwn.looking).run [] s σ H D (I.toTry _) h) (fun f s1 hsp => ?_) (fun e s1 he => he)
  · -- the catch
    obtain ⟨a, B, sI, pins', σ', H', cls, d, rfl, J', nb, up, sky, na, os, ag, w⟩ := xx
    have J : Inv X pins σ' H' sI := J'.ofTry ok
    have sky' : Sky B (X.env :: X.outer) a (Zc cls d) X.env.locals s'.heap := by rw [← hs]; exact sky
    show wpAny (model X.prog X.w) X.A (noteFrame (.ref a) X.env) _ _ _
    refine Sky.land Zc.steady hfr hf sky' fun h3 fl3 up3 => ?_
    have J3 : Inv X pins σ' H' { s' with heap := h3 } := J.landed nb fl3.1 (up.trans up3) os ag
    obtain ⟨oe3, vs3, he3, hz3, hd3⟩ := fl3.there
    have notFr : ∀ {h : Heap} {o : Obj} {vs : Array Value}, h.FunFrames B (X.env :: X.outer) → h.get? a = some o → o.data = .fields vs → a ∉ frs (X.env :: X.outer) := fun {h o vs} ff e dd hm => by
      obtain ⟨_, o', e', hnf⟩ := ff.mem hm
      rw [e] at e'; cases e'
      exact hnf _ dd
    have nfr := notFr fl3.2.2.1 he3 hd3
    have nL : a ≠ X.env.locals := fun z => nfr (List.mem_filterMap.mpr ⟨X.env, List.mem_cons_self, by rw [hf, z]⟩)
    have nF : a ∉ X.fs := fun hm => by
      obtain ⟨e, he, q⟩ := List.mem_filterMap.mp hm
      exact nfr (List.mem_filterMap.mpr ⟨e, List.mem_cons_of_mem _ he, q⟩)
    have S3 := J3.suite he3 hd3 na nL nF
    have LT : PySem.W.Looks (model X.prog X.w) h3 (typeOf (.ref a)) cls := fun A Q E s k q => wpAny_typeOf_ref (k _ _ he3) (by rw [hz3.1]; exact q)
    have test : ∀ {x : Str} {c : Value} {np : Pos} {Q : Value → Shared → Prop} {E : Value → Shared → Prop}, Names X x c → Q c { s' with heap := h3 } → wpAny (model X.prog X.w) (X.A.mark (some (.ref a))) (eval (.Name x np) X.env) Q E { s' with heap := h3 } := fun {x c np Q E} hc q => by
      obtain ⟨hg, hdbg, hm | ⟨hm, hv, hnn⟩⟩ := hc
      · exact ld_glob (X := X.suite a ((a, oe3) :: (X.pn ++ pins))) S3 hg hm q hdbg
      · exact ld_blt (X := X.suite a ((a, oe3) :: (X.pn ++ pins))) S3 hg hm hv q hnn hdbg
    have go : ∀ {hds' : List ExceptHandler} {l' : List Cls1}, HdsA X hds' l' → wAny X.K Wout D l' cls d σ' H' →
        wpAny (model X.prog X.w) X.A (handleBy (.ref a) X.env hds') (SP X pins D) X.xe { s' with heap := h3 } := by
      intro hds' l' hk
      induction hk with
      | nil =>
        intro w
        refine wpAny_handleBy_nil ?_
        obtain ⟨k1, k2, k3, oe, vs, T, oT, ts', he, hz, hd, h1, hr⟩ := id fl3
        unfold PySem.passOn
        refine wpAny_bind (wpAny_field he hd h1 ?_)
        rw [if_neg (show ¬ ((Value.ref T == Value.none) = true) from by simp)]
        have fin : wpAny (model X.prog X.w) X.A (setFlight (.ref a) X.env.frame) (fun _ s4 => wpAny (model X.prog X.w) X.A (throw (.ref a) : Sem Flow) (SP X pins D) X.xe s4) X.xe { s' with heap := h3 } := by
          rw [hf]
          refine HandSPX.setFlight_upZ fl3 fun h4 hh4 up4 => wpAny_throw (tk _ _ ?_)
          exact ⟨a, B, sI, pins, σ', H', cls, d, rfl, J, nb, (up.trans up3).trans up4, .inr (.inr (by rw [hs]; exact hh4)), na, os, ag, w⟩
        first
          | exact wpAny_bind (wpAny_pure (wpAny_bind fin))
          | exact wpAny_bind fin
      | @plain x c ts b₀ suite np pos' hds2 l2 hc hsu r ih =>
        intro w
        obtain ⟨b, hb1, hyes, hno⟩ := w
        refine wpAny_handleBy_cons (codeAny_handlers_test ?_) (by intro q; cases q)
        refine test hc ((PySem.W.exm_one (M := model X.prog X.w) (J3.kIn) LT hb1).here ?_)
        cases b with
        | true =>
          refine codeAny_handlers_suite ?_
          refine HandSPX.lands_againZ fl3 fun h4 fl4 up4 => ?_
          have J4 : Inv X pins σ' H' { s' with heap := h4 } := J.landed nb fl4.1 ((up.trans up3).trans up4) os ag
          obtain ⟨oe4, vs4, he4, hz4, hd4⟩ := fl4.there
          have S4 := J4.suite he4 hd4 na nL nF
          refine wpAny_mono ((hsu a oe4 cls d (X.pn ++ pins) hz4 ⟨_, hd4⟩).run [] _ _ H' _ S4 (hyes rfl a na)) (fun f s6 hsp => ?_) (fun _ _ z => False.elim z)
          cases f with
          | next =>
            obtain ⟨σ6, H6, S6, q6⟩ := hsp
            exact ⟨_, _, S6.unsuite ok, q6⟩
          | brk =>
            obtain ⟨σ6, H6, S6, q6⟩ := hsp
            exact ⟨_, _, S6.unsuite ok, q6⟩
          | cont =>
            obtain ⟨σ6, H6, S6, q6⟩ := hsp
            exact ⟨_, _, S6.unsuite ok, q6⟩
          | ret u =>
            obtain ⟨v6, σ6, H6, S6, r6, q6⟩ := hsp
            exact ⟨_, _, _, S6.unsuite ok, r6, q6⟩
        | false =>
          show wpAny _ X.A (handleBy (.ref a) X.env hds2) _ _ _
          exact ih (hno rfl)
      | @named x n c i ts b₀ suite np pos' hds2 l2 hN hi hln hc hsu r ih =>
        intro w
        obtain ⟨b, hb1, hyes, hno⟩ := w
        refine wpAny_handleBy_cons (codeAny_handlers_test ?_) (by intro q; cases q)
        refine test hc ((PySem.W.exm_one (M := model X.prog X.w) (J3.kIn) LT hb1).here ?_)
        have hloc : Loc X.env.scope n := .inl hln
        cases b with
        | true =>
          refine codeAny_handlers_suite_as ?_
          refine HandSPX.lands_againZ fl3 fun h4 fl4 up4 => ?_
          have J4 : Inv X pins σ' H' { s' with heap := h4 } := J.landed nb fl4.1 ((up.trans up3).trans up4) os ag
          obtain ⟨oe4, vs4, he4, hz4, hd4⟩ := fl4.there
          have S4 := J4.suite he4 hd4 na nL nF
          refine store_ok (X := X.suite a ((a, oe4) :: (X.pn ++ pins))) (v := .ref a) S4 hN hi hloc rfl (fun s5 S5 => ?_) (.inr hln)
          refine wpAny_mono ((hsu a oe4 cls d (X.pn ++ pins) hz4 ⟨_, hd4⟩).run [] s5 _ H' _ S5 (hyes rfl a na)) (fun f s6 hsp => ?_) (fun _ _ z => False.elim z)
          have end_ : ∀ {σ6 : St} {H6 : Hp} {Q : Shared → Prop}, Inv (X.suite a ((a, oe4) :: (X.pn ++ pins))) [] σ6 H6 s6 → (∀ s7, Inv X pins (σ6.set i none) H6 s7 → Q s7) →
              wpAny (model X.prog X.w) X.A (do bindName X.env n .none; unbindBehindTheSuite X.env n pos') (fun _ s7 => Q s7) X.xe s6 := fun {σ6 H6 Q} S6 hq => gone_ok (S6.unsuite ok) hN hi hln hq
          cases f with
          | next =>
            obtain ⟨σ6, H6, S6, q6⟩ := hsp
            exact end_ S6 fun s7 J7 => ⟨_, _, J7, q6⟩
          | brk =>
            obtain ⟨σ6, H6, S6, q6⟩ := hsp
            exact end_ S6 fun s7 J7 => ⟨_, _, J7, q6⟩
          | cont =>
            obtain ⟨σ6, H6, S6, q6⟩ := hsp
            exact end_ S6 fun s7 J7 => ⟨_, _, J7, q6⟩
          | ret u =>
            obtain ⟨v6, σ6, H6, S6, r6, q6⟩ := hsp
            exact end_ S6 fun s7 J7 => ⟨_, _, _, J7, r6, q6⟩
        | false =>
          show wpAny _ X.A (handleBy (.ref a) X.env hds2) _ _ _
          exact ih (hno rfl)
    exact go hh w
  · cases f with
    | next =>
      obtain ⟨σ', H', J', q⟩ := hsp
      exact wpAny_execs_nil ⟨σ', H', J'.ofTry ok, q⟩
    | brk =>
      obtain ⟨σ', H', J', q⟩ := hsp
      exact ⟨σ', H', J'.ofTry ok, q⟩
    | cont =>
      obtain ⟨σ', H', J', q⟩ := hsp
      exact ⟨σ', H', J'.ofTry ok, q⟩
    | ret u =>
      obtain ⟨v, σ', H', J', r, q⟩ := hsp
      exact ⟨v, σ', H', J'.ofTry ok, r, q⟩
end
section
variable {X : Cx} {p pos : Pos}
/-- C() -/
theorem pmk_oexA0 {CX : CXT} {x : Str} {C fI : Addr} {k : Nat} {fd : FuncData} {ps : List Str} {sp : Sp} (T : OexA X.K C) (iC : PySem.W.findIn X.K (.ref C) "__init__" = some (some (.ref fI))) (tI : PySem.W.typeIn X.K (.ref fI) = some (.type "function"))
    (F1 : FnOk X.prog X.w X.K X.mg X.base CX k fI fd ps sp) (hr : Room (k + 1) X.A) (hb : Binds X.K fd ps []) (hx : Passes CX X (fun _ _ _ => False)) (hg : Gl X x) (hm : X.mg x = some (.ref C))
    (hdb : (x == ("__debug__" : Str)) = false := by decide) : PMk X (.Call (.Name x p) [] [] pos) (tMkA C sp tNil) := by
  intro pins s σ H Q I h
  obtain ⟨hz, q1⟩ := h
  refine wpAny_Call_Name_kw (ld_glob I hg hm ?_ hdb)
  exact PySem.W.callWith_K0 I.kIn T.kC (pmk_core (us := []) T iC tI F1 hr hb hx I .nil hz q1)
end
end L2
namespace L2
open PySem PySem.Spec PyProof.Rows
/-! ### isinstance of a caught error, told by the head -/
def excCB (K : PySem.W.Frag) (D : Addr) : Bool := decide (PySem.W.findIn K (.ref D) "__getattribute__" = some (some (.builtin "BaseException.__getattribute__"))) && (decide (PySem.W.findIn K (.ref D) "__getattr__" = some none) && (decide (PySem.W.subIn K (.ref D) (.type "BaseException") = some true) && (PySem.W.hasDictIn K D &&
  (decide (PySem.W.findIn K (.ref D) "__class__" = some (some (.builtin "object.__class__"))) && (decide (PySem.W.specialIn K (.builtin "object.__class__") "__get__" = some (some (.builtin "getset_descriptor.__get__"))) && (decide (PySem.W.takesIn K (.builtin "object.__class__") = some true) && decide (PySem.W.mroIn K D (.type "object") = some true)))))))
theorem excCB_ok {K : PySem.W.Frag} {D : Addr} (h : excCB K D = true) : ExcC K D := by
  obtain ⟨h1, h⟩ := Bool.and_eq_true_iff.mp h
  obtain ⟨h2, h⟩ := Bool.and_eq_true_iff.mp h
  obtain ⟨h3, h⟩ := Bool.and_eq_true_iff.mp h
  obtain ⟨h4, h⟩ := Bool.and_eq_true_iff.mp h
  obtain ⟨h5, h⟩ := Bool.and_eq_true_iff.mp h
  obtain ⟨h6, h⟩ := Bool.and_eq_true_iff.mp h
  obtain ⟨h7, h8⟩ := Bool.and_eq_true_iff.mp h
  exact ⟨of_decide_eq_true h1, of_decide_eq_true h2, of_decide_eq_true h3, h4, of_decide_eq_true h5, of_decide_eq_true h6, of_decide_eq_true h7, of_decide_eq_true h8⟩
def kitEB (K : PySem.W.Frag) (C D : Addr) (b : Bool) : Bool := decide (PySem.W.kitOne K (.ref C) (.ref D) = some b)
theorem kitEB_ok {K : PySem.W.Frag} {C D : Addr} {b : Bool} (h : kitEB K C D b = true) : PySem.W.kitOne K (.ref C) (.ref D) = some b := of_decide_eq_true h
end L2
/-! ### a Hook whose part of the heap has the interpreter's statics too -/
namespace NCHook
open PySem He
abbrev fr (g : Addr → Option Obj) (n : Nat) : PySem.W.Frag := frT g (asD g n ++ [cStatics])
section
variable {fa : List Fa} {fn : List DefD} {ts : List Tab} {tf : List Defn} {ex : PySem.W.Frag → Bool} {w : World} {h : Heap} {n : Nat}
def ob (n : Nat) (fa : List Fa) (fn : List DefD) (ts : List Tab) (tf : List Defn) (ex : PySem.W.Frag → Bool) (g : Addr → Option Obj) : AlX :=
  (obsT fa fn ts (fr g n), ex (fr g n) && tabsB g tf (fr g n))
theorem tab {K : PySem.W.Frag} (t : tabsB h.get? tf K = true) : ∀ p ∈ tf, PySem.W.codeHdIn K (cT K p).1 (cT K p).2 = true ∧ ∃ o, h.get? (cT K p).2 = some o ∧ emptyTab o = true := by
  intro p hp
  have b := Bool.and_eq_true_iff.mp (List.all_eq_true.mp t p hp)
  refine ⟨b.1, ?_⟩
  have b2 := b.2
  split at b2
  · exact ⟨_, by assumption, b2⟩
  · cases b2
theorem says (e : ob n fa fn ts tf ex h.get? = valX fn ts w) : SaysX fa fn ts tf ex w h (fr h.get? n) := by
  have c1 : (ob n fa fn ts tf ex h.get?).1 = (valX fn ts w).1 := by rw [e]
  have c2 : (ob n fa fn ts tf ex h.get?).2 = true := by rw [e] <;> rfl
  have c3 := Bool.and_eq_true_iff.mp (show (ex (fr h.get? n) && tabsB h.get? tf (fr h.get? n)) = true from c2)
  refine ⟨c1, c3.1, fun p hp => (tab c3.2 p hp).1, fun p hp => ?_, fun p hp => ?_⟩
  · obtain ⟨o, q, z⟩ := (tab c3.2 p hp).2
    exact frT_none q z
  · obtain ⟨o, q, z⟩ := (tab c3.2 p hp).2
    rw [q, emptyTab_eq z]
end
def hook (n : Nat) (fa : List Fa) (fn : List DefD) (ts : List Tab) (tf : List Defn) (ex : PySem.W.Frag → Bool) : PySem.W.Hook :=
  { α := AlX, obs := fun s => ob n fa fn ts tf ex s.heap.get?, val := fun w => valX fn ts w, says := fun w h => ∃ K : PySem.W.Frag, K.In h ∧ SaysX fa fn ts tf ex w h K,
    of := fun _ _ e => ⟨_, frT_in, says e⟩,
    keeps := fun _ _ _ y k => by
      obtain ⟨K, hK, c⟩ := y
      exact ⟨K, PySem.W.Frag.In.keeps hK k, c.t, c.more, c.hd, c.out, fun p hp => k _ _ (c.empty p hp)⟩ }
theorem ob_eq {n : Nat} {fa : List Fa} {fn : List DefD} {ts : List Tab} {tf : List Defn} {ex : PySem.W.Frag → Bool} {g : Addr → Option Obj} {s : Shared} (q : ∀ a, g a = s.heap.get? a) : ob n fa fn ts tf ex g = (hook n fa fn ts tf ex).obs s := by
  rw [show g = s.heap.get? from funext q] <;> rfl
end NCHook
namespace L2
open PySem PySem.Spec PyProof.Rows
/-! ### readings as rules -/
section
variable {σ : St} {H : Hp} {Q : VK} {D : Ends} {K : PySem.W.Frag}
theorem g_ceI {ta : TA} (h : ta σ H fun vs H1 => ∃ (a C : Addr) (ws : List V), vs = .ref a :: ws ∧ ws.length ≤ 1000 ∧ OexA K C ∧ H1 a = some (exo a C none) ∧ Q .non H1) : tCeI K ta σ H Q := h
theorem g_osA {f : Str} {to te : TE} (h : te σ H fun y H1 => to σ H1 fun x H2 => ∃ a C : Addr, x = .ref a ∧ OexA K C ∧ PySem.W.findIn K (.ref C) f = some none ∧
  H2 a = some (exo a C none) ∧ ∀ dx, H2 dx = none → dx ≠ a → D.nx σ (upd (upd H2 dx (exd dx [(f, y)])) a (exo a C (some dx)))) : tOsA K f to te D σ H := h
theorem g_mkA {C : Addr} {sp : Sp} {ta : TA} {Q : XK} (h : ta σ H fun vs H1 => vs.length ≤ 1000 ∧ ∀ a, H1 a = none → sp (.ref a :: vs) (upd H1 a (exo a C none))
  (fun v H2 => v = .non ∧ ((H2 a = some (exo a C none) ∧ Q (.ref C) none (del H2 a)) ∨ ∃ (d : Addr) (fs : List (Str × V)), H2 a = some (exo a C (some d)) ∧ H2 d = some (exd d fs) ∧ H1 d = none ∧ Q (.ref C) (some d) (upd (del H2 a) d (.xd fs)))) (fun _ _ _ => False)) : tMkA C sp ta σ H Q := h
end
/-- a def that makes lambdas: its code object is told -/
theorem FunD.okC {P : Program} {w : World} {K : PySem.W.Frag} {mg : Str → Option Value} {base : Heap} {x qual : Str} {params : Arguments} {body : List Stmt} {scope : Scope} {dvs : List V} {kws : List (Str × V)} {f : Addr} {fd : FuncData} {CX : CXT} {N ps : List Str} {k : Nat} {sp : Sp} {p : He.Defn}
    (F : FunD K x qual params body scope dvs kws f fd) (hf : f = He.fAd K p) (S : FnScope N ps scope) (len : ∀ vs H Q E, sp vs H Q E → vs.length = ps.length)
    (hbody : ∀ (A : Around) (outer : List Env) (s : Shared) (H : Hp) (vs : List V) (Q : VK) (E : XK), Room k (A.deeper (envOfC qual scope s.heap.objs.size f (.ref (He.codeOf K p)))) → sp vs H Q E →
      ∃ t, PSs (cxOf CX P w K mg base N qual scope f (.ref (He.codeOf K p)) A outer s H E) body t ∧ t { nx := fun _ H' => Q .non H', rt := Q } (start N vs) H) : FnOk P w K mg base CX (k + 1) f fd ps sp := by
  obtain ⟨oc, od, dV, kV, doc, pm, an, cdv, ct, osl, rfl, lk, hcd, _, _⟩ := F.ex
  obtain ⟨c, rfl⟩ := He.codeIn_ref hcd
  have e : He.codeOf K p = c := He.codeOf_eq (hf ▸ lk) rfl
  rw [e] at hbody
  exact fn_of lk hcd S len hbody
end L2
open PySem PySem.Spec PyProof.Rows L2
local macro_rules | `(tactic| walk_at "mul") => `(tactic| first | exact mulL (by omega) (by omega) | exact mulR (by omega) (by omega) | exact mulL (by decide) (by decide) | exact mulR (by decide) (by decide))
local macro_rules | `(tactic| walk_at "r1") => `(tactic| first
  | with_reducible refine g_seq ?_ | with_reducible refine g_next ?_ | with_reducible refine g_ret ?_ | with_reducible refine g_asg ?_ | with_reducible refine g_name ?_ | with_reducible refine g_drop ?_ | with_reducible refine g_ifS ?_ | with_reducible refine g_par ?_ | with_reducible refine g_par3 ?_
  | ((with_reducible refine g_var (v := ?v) ?h ?_); (case h => exact rfl))
  | with_reducible refine g_c ?_ | with_reducible refine g_op ?_ | with_reducible refine g_un ?_ | with_reducible refine g_I0 ?_ | with_reducible refine g_U ?_
  | with_reducible refine g_eqI ?_ | with_reducible refine g_neI ?_ | with_reducible refine g_eqB ?_ | with_reducible refine g_neB ?_
  | with_reducible refine g_cons ?_ | with_reducible refine g_nil ?_ | with_reducible refine g_tup ?_ | with_reducible refine g_lst ?_ | with_reducible refine g_cb ?_ | with_reducible refine g_call ?_ | with_reducible refine g_callN ?_
  | with_reducible refine g_yes ?_ | with_reducible refine g_test ?_ | with_reducible refine g_tb ?_ | with_reducible refine g_bl ?_ | with_reducible refine g_and ?_ | with_reducible refine g_or ?_ | with_reducible refine g_not ?_ | with_reducible refine g_if ?_
  | with_reducible refine g_chain ?_ | with_reducible refine g_andV ?_ | with_reducible refine g_orV ?_ | with_reducible refine g_notV ?_ | with_reducible refine g_sub ?_ | with_reducible refine g_sl ?_ | with_reducible refine g_consG ?_ | with_reducible refine g_nilG ?_
  | with_reducible refine g_for ?_ | with_reducible refine g_lc ?_ | with_reducible refine g_rng1 ?_ | with_reducible refine g_rng2 ?_ | with_reducible refine g_ilist ?_ | with_reducible refine g_itup ?_ | with_reducible refine g_ikeys ?_ | with_reducible refine g_intI ?_ | with_reducible refine g_intB ?_ | with_reducible refine g_abs ?_ | with_reducible refine g_min2 ?_ | with_reducible refine g_max2 ?_ | with_reducible refine g_po ?_ | with_reducible refine g_pon ?_ | with_reducible refine g_int1 ?_
  | ((with_reducible refine g_lenL (xs := ?xs) ?h ?_); (case h => assumption))
  | ((with_reducible refine g_lenT (xs := ?xs) ?h ?_); (case h => assumption))
  | ((with_reducible refine g_mod ?h ?_); (case h => first | decide | omega))
  | ((with_reducible refine g_div ?h ?h2 ?_); (case h => first | decide | omega); (case h2 => first | decide | omega))
  | ((with_reducible refine g_pow ?h ?_); (case h => first | exact ⟨by decide, by decide, by decide⟩ | exact pow_ok (by omega) (by omega) (by omega) (by omega)))
  | ((with_reducible refine g_tupG (xs := ?xs) ?h ?n ?_); (case h => assumption); (case n => exact rfl))
  | ((with_reducible refine g_unl (xs := ?xs) ?h ?n ?_); (case h => assumption); (case n => exact rfl))
  | ((with_reducible refine g_mul ?h ?_); (case h => walk_at "mul"))
  | ((with_reducible refine g_mulA ?h ?_); (case h => first | exact mulW (by assumption) (by assumption) | exact .inl (by walk_at "mul")))
  | ((with_reducible refine g_divA ?h ?_); (case h => first | exact divW (by assumption) (by assumption) | exact divB (by omega) (by omega) | exact ⟨by decide, by decide⟩))
  | ((with_reducible refine g_powA ?h ?_); (case h => first | exact powW (by assumption) | exact powS (by decide) (by decide) (by decide)))
  | with_reducible refine g_max3 ?_ | with_reducible refine g_ceI ?_ | with_reducible refine g_osA ?_ | with_reducible refine g_mkA ?_
  | ((with_reducible refine g_ixT (v := ?v) (xs := ?xs) ?h ?a ?_); (case h => assumption); (case a => exact rfl))
  | ((with_reducible refine g_ixL (v := ?v) (xs := ?xs) ?h ?a ?_); (case h => assumption); (case a => exact rfl)))
local macro_rules | `(tactic| walk_at "rd") => `(tactic| repeat walk_at "r1")
local macro_rules | `(tactic| walk_at "nm") => `(tactic| try dsimp only [List.set_cons_zero, List.set_cons_succ])
namespace NC
abbrev P0 : Program := PySem.Challenge.pw_nearcells_k02_circles_of_sites
abbrev top (i : Nat) : Stmt := P0.main.body.getD i (.Pass ⟨0, 0, 0, 0⟩)
def mkD (g nm : Str) (i : Nat) : He.DefD := ⟨(g, none), nm, nm, defArgs (top i), defBody (top i), defScope (top i), [], []⟩
abbrev FnP (K : PySem.W.Frag) (x : Str) (st : Stmt) (f : Addr) (fd : FuncData) : Prop := FunD K x x (defArgs st) (defBody st) (defScope st) [] [] f fd
def initOf : Stmt → Stmt
  | .ClassDef (body := b) .. => b.headD (.Pass ⟨0, 0, 0, 0⟩)
  | s => s
abbrev ini (i : Nat) : Stmt := initOf (top i)
def mkI (C q : Str) (i : Nat) : He.DefD := ⟨(C, some "__init__"), "__init__", q, defArgs (ini i), defBody (ini i), defScope (ini i), [], []⟩
def fns : List He.DefD := [mkD "is_integer" "is_integer" 5,
  mkD "is_between" "is_between" 6,
  mkD "common" "common" 7,
  mkD "reduced" "reduced" 8,
  mkD "sign" "sign" 9,
  mkD "is_site" "is_site" 12,
  mkD "check_site" "check_site" 13,
  mkD "place_of" "place_of" 14,
  mkD "turn" "turn" 16,
  mkD "power" "power" 17,
  mkD "inside" "inside" 18,
  mkD "centre_of" "centre_of" 19,
  mkD "square_of" "square_of" 20,
  mkD "check_circle" "check_circle" 21,
  mkD "circle" "circle" 22,
  mkD "in_circle" "in_circle" 23,
  mkD "_law_source_of" "_law_source_of" 25,
  mkD "_law_next" "_law_next" 26,
  mkD "_law_one" "_law_one" 27,
  mkD "_law_cell_at" "_law_cell_at" 28,
  mkD "_law_sites" "_law_sites" 29,
  mkD "_law_square" "_law_square" 30,
  mkD "_law_turn" "_law_turn" 31,
  mkD "_law_common" "_law_common" 32,
  mkD "_law_place" "_law_place" 33,
  mkD "_law_centre" "_law_centre" 34,
  mkD "_law_no_circle" "_law_no_circle" 35,
  mkD "_law_right" "_law_right" 36,
  mkD "law" "law" 37,
  mkI "NoCircle" "NoCircle.__init__" 3]
def fas : List He.Fa := [.glo "is_integer", .glo "is_between", .glo "common", .glo "reduced", .glo "sign", .glo "is_site", .glo "check_site", .glo "place_of", .glo "turn", .glo "power", .glo "inside", .glo "centre_of", .glo "square_of", .glo "check_circle", .glo "circle", .glo "in_circle", .glo "_law_source_of", .glo "_law_next", .glo "_law_one", .glo "_law_cell_at", .glo "_law_sites", .glo "_law_square", .glo "_law_turn", .glo "_law_common", .glo "_law_place", .glo "_law_centre", .glo "_law_no_circle", .glo "_law_right", .glo "law", .int "MOST_COORDINATE" 1000000, .free "isinstance", .free "int", .free "bool", .free "tuple", .free "len", .free "all", .free "range", .free "abs", .glo "CellError", .glo "NoCircle", .meth "NoCircle" "__init__", .exm "NoCircle" "NoCircle" true]
structure Tops (K : PySem.W.Frag) (mg : Str → Option Value) where
  fd_is_integer : FuncData
  F_is_integer : FnP K "is_integer" (top 5) (He.ga K "is_integer") fd_is_integer
  g_is_integer : mg "is_integer" = some (.ref (He.ga K "is_integer"))
  fd_is_between : FuncData
  F_is_between : FnP K "is_between" (top 6) (He.ga K "is_between") fd_is_between
  g_is_between : mg "is_between" = some (.ref (He.ga K "is_between"))
  fd_common : FuncData
  F_common : FnP K "common" (top 7) (He.ga K "common") fd_common
  g_common : mg "common" = some (.ref (He.ga K "common"))
  fd_reduced : FuncData
  F_reduced : FnP K "reduced" (top 8) (He.ga K "reduced") fd_reduced
  g_reduced : mg "reduced" = some (.ref (He.ga K "reduced"))
  fd_sign : FuncData
  F_sign : FnP K "sign" (top 9) (He.ga K "sign") fd_sign
  g_sign : mg "sign" = some (.ref (He.ga K "sign"))
  fd_is_site : FuncData
  F_is_site : FnP K "is_site" (top 12) (He.ga K "is_site") fd_is_site
  g_is_site : mg "is_site" = some (.ref (He.ga K "is_site"))
  fd_check_site : FuncData
  F_check_site : FnP K "check_site" (top 13) (He.ga K "check_site") fd_check_site
  g_check_site : mg "check_site" = some (.ref (He.ga K "check_site"))
  fd_place_of : FuncData
  F_place_of : FnP K "place_of" (top 14) (He.ga K "place_of") fd_place_of
  g_place_of : mg "place_of" = some (.ref (He.ga K "place_of"))
  fd_turn : FuncData
  F_turn : FnP K "turn" (top 16) (He.ga K "turn") fd_turn
  g_turn : mg "turn" = some (.ref (He.ga K "turn"))
  fd_power : FuncData
  F_power : FnP K "power" (top 17) (He.ga K "power") fd_power
  g_power : mg "power" = some (.ref (He.ga K "power"))
  fd_inside : FuncData
  F_inside : FnP K "inside" (top 18) (He.ga K "inside") fd_inside
  g_inside : mg "inside" = some (.ref (He.ga K "inside"))
  fd_centre_of : FuncData
  F_centre_of : FnP K "centre_of" (top 19) (He.ga K "centre_of") fd_centre_of
  g_centre_of : mg "centre_of" = some (.ref (He.ga K "centre_of"))
  fd_square_of : FuncData
  F_square_of : FnP K "square_of" (top 20) (He.ga K "square_of") fd_square_of
  g_square_of : mg "square_of" = some (.ref (He.ga K "square_of"))
  fd_check_circle : FuncData
  F_check_circle : FnP K "check_circle" (top 21) (He.ga K "check_circle") fd_check_circle
  g_check_circle : mg "check_circle" = some (.ref (He.ga K "check_circle"))
  fd_circle : FuncData
  F_circle : FnP K "circle" (top 22) (He.ga K "circle") fd_circle
  g_circle : mg "circle" = some (.ref (He.ga K "circle"))
  fd_in_circle : FuncData
  F_in_circle : FnP K "in_circle" (top 23) (He.ga K "in_circle") fd_in_circle
  g_in_circle : mg "in_circle" = some (.ref (He.ga K "in_circle"))
  fd_law_source_of : FuncData
  F_law_source_of : FnP K "_law_source_of" (top 25) (He.ga K "_law_source_of") fd_law_source_of
  g_law_source_of : mg "_law_source_of" = some (.ref (He.ga K "_law_source_of"))
  fd_law_next : FuncData
  F_law_next : FnP K "_law_next" (top 26) (He.ga K "_law_next") fd_law_next
  g_law_next : mg "_law_next" = some (.ref (He.ga K "_law_next"))
  fd_law_one : FuncData
  F_law_one : FnP K "_law_one" (top 27) (He.ga K "_law_one") fd_law_one
  g_law_one : mg "_law_one" = some (.ref (He.ga K "_law_one"))
  fd_law_cell_at : FuncData
  F_law_cell_at : FnP K "_law_cell_at" (top 28) (He.ga K "_law_cell_at") fd_law_cell_at
  g_law_cell_at : mg "_law_cell_at" = some (.ref (He.ga K "_law_cell_at"))
  fd_law_sites : FuncData
  F_law_sites : FnP K "_law_sites" (top 29) (He.ga K "_law_sites") fd_law_sites
  g_law_sites : mg "_law_sites" = some (.ref (He.ga K "_law_sites"))
  fd_law_square : FuncData
  F_law_square : FnP K "_law_square" (top 30) (He.ga K "_law_square") fd_law_square
  g_law_square : mg "_law_square" = some (.ref (He.ga K "_law_square"))
  fd_law_turn : FuncData
  F_law_turn : FnP K "_law_turn" (top 31) (He.ga K "_law_turn") fd_law_turn
  g_law_turn : mg "_law_turn" = some (.ref (He.ga K "_law_turn"))
  fd_law_common : FuncData
  F_law_common : FnP K "_law_common" (top 32) (He.ga K "_law_common") fd_law_common
  g_law_common : mg "_law_common" = some (.ref (He.ga K "_law_common"))
  fd_law_place : FuncData
  F_law_place : FnP K "_law_place" (top 33) (He.ga K "_law_place") fd_law_place
  g_law_place : mg "_law_place" = some (.ref (He.ga K "_law_place"))
  fd_law_centre : FuncData
  F_law_centre : FnP K "_law_centre" (top 34) (He.ga K "_law_centre") fd_law_centre
  g_law_centre : mg "_law_centre" = some (.ref (He.ga K "_law_centre"))
  fd_law_no_circle : FuncData
  F_law_no_circle : FnP K "_law_no_circle" (top 35) (He.ga K "_law_no_circle") fd_law_no_circle
  g_law_no_circle : mg "_law_no_circle" = some (.ref (He.ga K "_law_no_circle"))
  fd_law_right : FuncData
  F_law_right : FnP K "_law_right" (top 36) (He.ga K "_law_right") fd_law_right
  g_law_right : mg "_law_right" = some (.ref (He.ga K "_law_right"))
  fd_law : FuncData
  F_law : FnP K "law" (top 37) (He.ga K "law") fd_law
  g_law : mg "law" = some (.ref (He.ga K "law"))
  t_MOST_COORDINATE : Tok
  c_MOST_COORDINATE : mg "MOST_COORDINATE" = some (.int 1000000 t_MOST_COORDINATE)
  m_isinstance : mg "isinstance" = none
  m_int : mg "int" = none
  m_bool : mg "bool" = none
  m_tuple : mg "tuple" = none
  m_len : mg "len" = none
  m_all : mg "all" = none
  m_range : mg "range" = none
  m_abs : mg "abs" = none
  g_CellError : mg "CellError" = some (.ref (He.ga K "CellError"))
  B_CellError : BaseA K (He.ga K "CellError")
  fd_NoCircle_init : FuncData
  F_NoCircle_init : FunD K "__init__" "NoCircle.__init__" (defArgs (ini 3)) (defBody (ini 3)) (defScope (ini 3)) [] [] (He.ma K (He.ga K "NoCircle") "__init__") fd_NoCircle_init
  g_NoCircle : mg "NoCircle" = some (.ref (He.ga K "NoCircle"))
  i_NoCircle : PySem.W.findIn K (.ref (He.ga K "NoCircle")) "__init__" = some (some (.ref (He.ma K (He.ga K "NoCircle") "__init__")))
  t_NoCircle : PySem.W.typeIn K (.ref (He.ma K (He.ga K "NoCircle") "__init__")) = some (.type "function")
  X_NoCircle : OexA K (He.ga K "NoCircle")
  C_NoCircle : ExcC K (He.ga K "NoCircle")
  k_NoCircle : PySem.W.kitOne K (.ref (He.ga K "NoCircle")) (.ref (He.ga K "CellError")) = some true
  e_NoCircle_NoCircle : PySem.W.exmOne K (.ref (He.ga K "NoCircle")) (.ref (He.ga K "NoCircle")) = some true
abbrev exF : PySem.W.Frag → Bool := fun K => baseAB K (He.ga K "CellError") && (oexAB K (He.ga K "NoCircle") && (excCB K (He.ga K "NoCircle") && (kitEB K (He.ga K "NoCircle") (He.ga K "CellError") true)))
theorem tops {K : PySem.W.Frag} {h : Heap} {mg : Str → Option Value} (X : K.In h) (G : h.Ns mainGlobals mg) (c : He.SaysD fas fns K) (m : exF K = true) : Nonempty (Tops K mg) := by
  obtain ⟨fd0, F0⟩ := c.def_ 0 rfl
  obtain ⟨fd1, F1⟩ := c.def_ 1 rfl
  obtain ⟨fd2, F2⟩ := c.def_ 2 rfl
  obtain ⟨fd3, F3⟩ := c.def_ 3 rfl
  obtain ⟨fd4, F4⟩ := c.def_ 4 rfl
  obtain ⟨fd5, F5⟩ := c.def_ 5 rfl
  obtain ⟨fd6, F6⟩ := c.def_ 6 rfl
  obtain ⟨fd7, F7⟩ := c.def_ 7 rfl
  obtain ⟨fd8, F8⟩ := c.def_ 8 rfl
  obtain ⟨fd9, F9⟩ := c.def_ 9 rfl
  obtain ⟨fd10, F10⟩ := c.def_ 10 rfl
  obtain ⟨fd11, F11⟩ := c.def_ 11 rfl
  obtain ⟨fd12, F12⟩ := c.def_ 12 rfl
  obtain ⟨fd13, F13⟩ := c.def_ 13 rfl
  obtain ⟨fd14, F14⟩ := c.def_ 14 rfl
  obtain ⟨fd15, F15⟩ := c.def_ 15 rfl
  obtain ⟨fd16, F16⟩ := c.def_ 16 rfl
  obtain ⟨fd17, F17⟩ := c.def_ 17 rfl
  obtain ⟨fd18, F18⟩ := c.def_ 18 rfl
  obtain ⟨fd19, F19⟩ := c.def_ 19 rfl
  obtain ⟨fd20, F20⟩ := c.def_ 20 rfl
  obtain ⟨fd21, F21⟩ := c.def_ 21 rfl
  obtain ⟨fd22, F22⟩ := c.def_ 22 rfl
  obtain ⟨fd23, F23⟩ := c.def_ 23 rfl
  obtain ⟨fd24, F24⟩ := c.def_ 24 rfl
  obtain ⟨fd25, F25⟩ := c.def_ 25 rfl
  obtain ⟨fd26, F26⟩ := c.def_ 26 rfl
  obtain ⟨fd27, F27⟩ := c.def_ 27 rfl
  obtain ⟨fd28, F28⟩ := c.def_ 28 rfl
  obtain ⟨t0, c0⟩ := He.int_ok X G (c.fact 29 rfl)
  obtain ⟨mB, m⟩ := Bool.and_eq_true_iff.mp m
  obtain ⟨mX0, m⟩ := Bool.and_eq_true_iff.mp m
  obtain ⟨mC0, m⟩ := Bool.and_eq_true_iff.mp m
  have mK0 := m
  obtain ⟨fdI0, FI0⟩ := c.def_ 29 rfl
  obtain ⟨ia0, ib0⟩ := Bool.and_eq_true_iff.mp (show ((He.Fa.meth "NoCircle" "__init__").ok K = true) from c.fact 40 rfl)
  exact ⟨{ fd_is_integer := fd0, F_is_integer := F0, g_is_integer := He.glo_ok X G (c.fact 0 rfl), fd_is_between := fd1, F_is_between := F1, g_is_between := He.glo_ok X G (c.fact 1 rfl), fd_common := fd2, F_common := F2, g_common := He.glo_ok X G (c.fact 2 rfl), fd_reduced := fd3, F_reduced := F3, g_reduced := He.glo_ok X G (c.fact 3 rfl), fd_sign := fd4, F_sign := F4, g_sign := He.glo_ok X G (c.fact 4 rfl), fd_is_site := fd5, F_is_site := F5, g_is_site := He.glo_ok X G (c.fact 5 rfl), fd_check_site := fd6, F_check_site := F6, g_check_site := He.glo_ok X G (c.fact 6 rfl), fd_place_of := fd7, F_place_of := F7, g_place_of := He.glo_ok X G (c.fact 7 rfl), fd_turn := fd8, F_turn := F8, g_turn := He.glo_ok X G (c.fact 8 rfl), fd_power := fd9, F_power := F9, g_power := He.glo_ok X G (c.fact 9 rfl), fd_inside := fd10, F_inside := F10, g_inside := He.glo_ok X G (c.fact 10 rfl), fd_centre_of := fd11, F_centre_of := F11, g_centre_of := He.glo_ok X G (c.fact 11 rfl), fd_square_of := fd12, F_square_of := F12, g_square_of := He.glo_ok X G (c.fact 12 rfl), fd_check_circle := fd13, F_check_circle := F13, g_check_circle := He.glo_ok X G (c.fact 13 rfl), fd_circle := fd14, F_circle := F14, g_circle := He.glo_ok X G (c.fact 14 rfl), fd_in_circle := fd15, F_in_circle := F15, g_in_circle := He.glo_ok X G (c.fact 15 rfl), fd_law_source_of := fd16, F_law_source_of := F16, g_law_source_of := He.glo_ok X G (c.fact 16 rfl), fd_law_next := fd17, F_law_next := F17, g_law_next := He.glo_ok X G (c.fact 17 rfl), fd_law_one := fd18, F_law_one := F18, g_law_one := He.glo_ok X G (c.fact 18 rfl), fd_law_cell_at := fd19, F_law_cell_at := F19, g_law_cell_at := He.glo_ok X G (c.fact 19 rfl), fd_law_sites := fd20, F_law_sites := F20, g_law_sites := He.glo_ok X G (c.fact 20 rfl), fd_law_square := fd21, F_law_square := F21, g_law_square := He.glo_ok X G (c.fact 21 rfl), fd_law_turn := fd22, F_law_turn := F22, g_law_turn := He.glo_ok X G (c.fact 22 rfl), fd_law_common := fd23, F_law_common := F23, g_law_common := He.glo_ok X G (c.fact 23 rfl), fd_law_place := fd24, F_law_place := F24, g_law_place := He.glo_ok X G (c.fact 24 rfl), fd_law_centre := fd25, F_law_centre := F25, g_law_centre := He.glo_ok X G (c.fact 25 rfl), fd_law_no_circle := fd26, F_law_no_circle := F26, g_law_no_circle := He.glo_ok X G (c.fact 26 rfl), fd_law_right := fd27, F_law_right := F27, g_law_right := He.glo_ok X G (c.fact 27 rfl), fd_law := fd28, F_law := F28, g_law := He.glo_ok X G (c.fact 28 rfl), t_MOST_COORDINATE := t0, c_MOST_COORDINATE := c0, m_isinstance := He.free_ok X G (c.fact 30 rfl), m_int := He.free_ok X G (c.fact 31 rfl), m_bool := He.free_ok X G (c.fact 32 rfl), m_tuple := He.free_ok X G (c.fact 33 rfl), m_len := He.free_ok X G (c.fact 34 rfl), m_all := He.free_ok X G (c.fact 35 rfl), m_range := He.free_ok X G (c.fact 36 rfl), m_abs := He.free_ok X G (c.fact 37 rfl), g_CellError := He.glo_ok X G (c.fact 38 rfl), B_CellError := baseAB_ok mB, fd_NoCircle_init := fdI0, F_NoCircle_init := FI0, g_NoCircle := He.glo_ok X G (c.fact 39 rfl), i_NoCircle := He.eqO_ok ia0, t_NoCircle := beq_iff_eq.mp (Bool.and_eq_true_iff.mp ib0).1, X_NoCircle := oexAB_ok mX0, C_NoCircle := excCB_ok mC0, k_NoCircle := kitEB_ok mK0, e_NoCircle_NoCircle := He.exm_ok (c.fact 41 rfl) }⟩
abbrev R0 : PySem.W.OpenRow := PySem.W.OpenLaw.row PySem.Challenge.rw_nearcells_k02_circles_of_sites
abbrev hk : PySem.W.Hook := NCHook.hook 4 fas fns [] [("_law_right", none)] exF
def ob (s : PySem.W.SharedT) : He.AlX := NCHook.ob 4 fas fns [] [("_law_right", none)] exF (HandSHeadRun.getT s)
theorem ob_eq (s : PySem.W.SharedT) : ob s = hk.obs s.abs := NCHook.ob_eq (HandSHeadRun.getT_eq s)
def loose0 : List PySem.Str := ["CellError", "InvalidBound", "NoCircle", "is_integer", "is_between", "common", "reduced", "sign", "MOST_COORDINATE", "is_site", "check_site", "place_of", "turn", "power", "inside", "centre_of", "square_of", "check_circle", "circle", "in_circle", "_law_source_of", "_law_next", "_law_one", "_law_cell_at", "_law_sites", "_law_square", "_law_turn", "_law_common", "_law_place", "_law_centre"]
def loose1 : List PySem.Str := ["_law_no_circle", "_law_right"]
abbrev loose : List PySem.Str := loose0 ++ loose1
theorem run (w : World) : HandSHeadRun.RunEq R0 (PySem.W.view R0.prog [37]) hk ob 4000 loose w := by
  intro os
  kernel_rfl
abbrev N_is_integer : List Str := ["value"]
abbrev P_is_integer : List Str := ["value"]
theorem sc_is_integer : FnScope N_is_integer P_is_integer (defScope (top 5)) := ⟨rfl, rfl, rfl, by decide +kernel, rfl, by decide +kernel, by decide +kernel⟩
theorem st_is_integer (x0 : V) : L2.start N_is_integer [x0] = [some x0] := rfl
theorem b_is_integer {K : PySem.W.Frag} {mg : Str → Option Value} (T : Tops K mg) : Binds K T.fd_is_integer P_is_integer [] := T.F_is_integer.bindsN fun _ _ _ _ _ _ us hl => match us, hl with | [_], _ => rfl
abbrev N_is_between : List Str := ["value", "low", "high"]
abbrev P_is_between : List Str := ["value", "low", "high"]
theorem sc_is_between : FnScope N_is_between P_is_between (defScope (top 6)) := ⟨rfl, rfl, rfl, by decide +kernel, rfl, by decide +kernel, by decide +kernel⟩
theorem st_is_between (x0 : V) (x1 : V) (x2 : V) : L2.start N_is_between [x0, x1, x2] = [some x0, some x1, some x2] := rfl
theorem b_is_between {K : PySem.W.Frag} {mg : Str → Option Value} (T : Tops K mg) : Binds K T.fd_is_between P_is_between [] := T.F_is_between.bindsN fun _ _ _ _ _ _ us hl => match us, hl with | [_, _, _], _ => rfl
abbrev N_common : List Str := ["a", "b"]
abbrev P_common : List Str := ["a", "b"]
theorem sc_common : FnScope N_common P_common (defScope (top 7)) := ⟨rfl, rfl, rfl, by decide +kernel, rfl, by decide +kernel, by decide +kernel⟩
theorem st_common (x0 : V) (x1 : V) : L2.start N_common [x0, x1] = [some x0, some x1] := rfl
theorem b_common {K : PySem.W.Frag} {mg : Str → Option Value} (T : Tops K mg) : Binds K T.fd_common P_common [] := T.F_common.bindsN fun _ _ _ _ _ _ us hl => match us, hl with | [_, _], _ => rfl
abbrev N_reduced : List Str := ["above", "below", "great"]
abbrev P_reduced : List Str := ["above", "below"]
theorem sc_reduced : FnScope N_reduced P_reduced (defScope (top 8)) := ⟨rfl, rfl, rfl, by decide +kernel, rfl, by decide +kernel, by decide +kernel⟩
theorem st_reduced (x0 : V) (x1 : V) : L2.start N_reduced [x0, x1] = [some x0, some x1, none] := rfl
theorem b_reduced {K : PySem.W.Frag} {mg : Str → Option Value} (T : Tops K mg) : Binds K T.fd_reduced P_reduced [] := T.F_reduced.bindsN fun _ _ _ _ _ _ us hl => match us, hl with | [_, _], _ => rfl
abbrev N_sign : List Str := ["value"]
abbrev P_sign : List Str := ["value"]
theorem sc_sign : FnScope N_sign P_sign (defScope (top 9)) := ⟨rfl, rfl, rfl, by decide +kernel, rfl, by decide +kernel, by decide +kernel⟩
theorem st_sign (x0 : V) : L2.start N_sign [x0] = [some x0] := rfl
theorem b_sign {K : PySem.W.Frag} {mg : Str → Option Value} (T : Tops K mg) : Binds K T.fd_sign P_sign [] := T.F_sign.bindsN fun _ _ _ _ _ _ us hl => match us, hl with | [_], _ => rfl
abbrev N_is_site : List Str := ["value", "one"]
abbrev P_is_site : List Str := ["value"]
theorem sc_is_site : FnScope N_is_site P_is_site (defScope (top 12)) := ⟨rfl, rfl, rfl, by decide +kernel, rfl, by decide +kernel, by decide +kernel⟩
theorem st_is_site (x0 : V) : L2.start N_is_site [x0] = [some x0, none] := rfl
theorem b_is_site {K : PySem.W.Frag} {mg : Str → Option Value} (T : Tops K mg) : Binds K T.fd_is_site P_is_site [] := T.F_is_site.bindsN fun _ _ _ _ _ _ us hl => match us, hl with | [_], _ => rfl
abbrev N_check_site : List Str := ["argument", "value"]
abbrev P_check_site : List Str := ["argument", "value"]
theorem sc_check_site : FnScope N_check_site P_check_site (defScope (top 13)) := ⟨rfl, rfl, rfl, by decide +kernel, rfl, by decide +kernel, by decide +kernel⟩
theorem st_check_site (x0 : V) (x1 : V) : L2.start N_check_site [x0, x1] = [some x0, some x1] := rfl
theorem b_check_site {K : PySem.W.Frag} {mg : Str → Option Value} (T : Tops K mg) : Binds K T.fd_check_site P_check_site [] := T.F_check_site.bindsN fun _ _ _ _ _ _ us hl => match us, hl with | [_, _], _ => rfl
abbrev N_place_of : List Str := ["x", "y", "d", "great"]
abbrev P_place_of : List Str := ["x", "y", "d"]
theorem sc_place_of : FnScope N_place_of P_place_of (defScope (top 14)) := ⟨rfl, rfl, rfl, by decide +kernel, rfl, by decide +kernel, by decide +kernel⟩
theorem st_place_of (x0 : V) (x1 : V) (x2 : V) : L2.start N_place_of [x0, x1, x2] = [some x0, some x1, some x2, none] := rfl
theorem b_place_of {K : PySem.W.Frag} {mg : Str → Option Value} (T : Tops K mg) : Binds K T.fd_place_of P_place_of [] := T.F_place_of.bindsN fun _ _ _ _ _ _ us hl => match us, hl with | [_, _, _], _ => rfl
abbrev N_turn : List Str := ["a", "b", "c"]
abbrev P_turn : List Str := ["a", "b", "c"]
theorem sc_turn : FnScope N_turn P_turn (defScope (top 16)) := ⟨rfl, rfl, rfl, by decide +kernel, rfl, by decide +kernel, by decide +kernel⟩
theorem st_turn (x0 : V) (x1 : V) (x2 : V) : L2.start N_turn [x0, x1, x2] = [some x0, some x1, some x2] := rfl
theorem b_turn {K : PySem.W.Frag} {mg : Str → Option Value} (T : Tops K mg) : Binds K T.fd_turn P_turn [] := T.F_turn.bindsN fun _ _ _ _ _ _ us hl => match us, hl with | [_, _, _], _ => rfl
abbrev N_power : List Str := ["a", "b", "c", "d", "rows", "ax", "ay", "bx", "by", "cx", "cy", "lifts", "one", "x", "y"]
abbrev P_power : List Str := ["a", "b", "c", "d"]
theorem sc_power : FnScope N_power P_power (defScope (top 17)) := ⟨rfl, rfl, rfl, by decide +kernel, rfl, by decide +kernel, by decide +kernel⟩
theorem st_power (x0 : V) (x1 : V) (x2 : V) (x3 : V) : L2.start N_power [x0, x1, x2, x3] = [some x0, some x1, some x2, some x3, none, none, none, none, none, none, none, none, none, none, none] := rfl
theorem b_power {K : PySem.W.Frag} {mg : Str → Option Value} (T : Tops K mg) : Binds K T.fd_power P_power [] := T.F_power.bindsN fun _ _ _ _ _ _ us hl => match us, hl with | [_, _, _, _], _ => rfl
abbrev N_inside : List Str := ["a", "b", "c", "d"]
abbrev P_inside : List Str := ["a", "b", "c", "d"]
theorem sc_inside : FnScope N_inside P_inside (defScope (top 18)) := ⟨rfl, rfl, rfl, by decide +kernel, rfl, by decide +kernel, by decide +kernel⟩
theorem st_inside (x0 : V) (x1 : V) (x2 : V) (x3 : V) : L2.start N_inside [x0, x1, x2, x3] = [some x0, some x1, some x2, some x3] := rfl
theorem b_inside {K : PySem.W.Frag} {mg : Str → Option Value} (T : Tops K mg) : Binds K T.fd_inside P_inside [] := T.F_inside.bindsN fun _ _ _ _ _ _ us hl => match us, hl with | [_, _, _, _], _ => rfl
abbrev N_centre_of : List Str := ["a", "b", "c", "area", "bx", "by", "cx", "cy", "first", "second", "x", "y"]
abbrev P_centre_of : List Str := ["a", "b", "c"]
theorem sc_centre_of : FnScope N_centre_of P_centre_of (defScope (top 19)) := ⟨rfl, rfl, rfl, by decide +kernel, rfl, by decide +kernel, by decide +kernel⟩
theorem st_centre_of (x0 : V) (x1 : V) (x2 : V) : L2.start N_centre_of [x0, x1, x2] = [some x0, some x1, some x2, none, none, none, none, none, none, none, none, none] := rfl
theorem b_centre_of {K : PySem.W.Frag} {mg : Str → Option Value} (T : Tops K mg) : Binds K T.fd_centre_of P_centre_of [] := T.F_centre_of.bindsN fun _ _ _ _ _ _ us hl => match us, hl with | [_, _, _], _ => rfl
abbrev N_square_of : List Str := ["place", "site", "x", "y", "d", "u", "v"]
abbrev P_square_of : List Str := ["place", "site"]
theorem sc_square_of : FnScope N_square_of P_square_of (defScope (top 20)) := ⟨rfl, rfl, rfl, by decide +kernel, rfl, by decide +kernel, by decide +kernel⟩
theorem st_square_of (x0 : V) (x1 : V) : L2.start N_square_of [x0, x1] = [some x0, some x1, none, none, none, none, none] := rfl
theorem b_square_of {K : PySem.W.Frag} {mg : Str → Option Value} (T : Tops K mg) : Binds K T.fd_square_of P_square_of [] := T.F_square_of.bindsN fun _ _ _ _ _ _ us hl => match us, hl with | [_, _], _ => rfl
abbrev N_check_circle : List Str := ["a", "b", "c"]
abbrev P_check_circle : List Str := ["a", "b", "c"]
theorem sc_check_circle : FnScope N_check_circle P_check_circle (defScope (top 21)) := ⟨rfl, rfl, rfl, by decide +kernel, rfl, by decide +kernel, by decide +kernel⟩
theorem st_check_circle (x0 : V) (x1 : V) (x2 : V) : L2.start N_check_circle [x0, x1, x2] = [some x0, some x1, some x2] := rfl
theorem b_check_circle {K : PySem.W.Frag} {mg : Str → Option Value} (T : Tops K mg) : Binds K T.fd_check_circle P_check_circle [] := T.F_check_circle.bindsN fun _ _ _ _ _ _ us hl => match us, hl with | [_, _, _], _ => rfl
abbrev N_circle : List Str := ["a", "b", "c", "centre"]
abbrev P_circle : List Str := ["a", "b", "c"]
theorem sc_circle : FnScope N_circle P_circle (defScope (top 22)) := ⟨rfl, rfl, rfl, by decide +kernel, rfl, by decide +kernel, by decide +kernel⟩
theorem st_circle (x0 : V) (x1 : V) (x2 : V) : L2.start N_circle [x0, x1, x2] = [some x0, some x1, some x2, none] := rfl
theorem b_circle {K : PySem.W.Frag} {mg : Str → Option Value} (T : Tops K mg) : Binds K T.fd_circle P_circle [] := T.F_circle.bindsN fun _ _ _ _ _ _ us hl => match us, hl with | [_, _, _], _ => rfl
abbrev N_in_circle : List Str := ["a", "b", "c", "d"]
abbrev P_in_circle : List Str := ["a", "b", "c", "d"]
theorem sc_in_circle : FnScope N_in_circle P_in_circle (defScope (top 23)) := ⟨rfl, rfl, rfl, by decide +kernel, rfl, by decide +kernel, by decide +kernel⟩
theorem st_in_circle (x0 : V) (x1 : V) (x2 : V) (x3 : V) : L2.start N_in_circle [x0, x1, x2, x3] = [some x0, some x1, some x2, some x3] := rfl
theorem b_in_circle {K : PySem.W.Frag} {mg : Str → Option Value} (T : Tops K mg) : Binds K T.fd_in_circle P_in_circle [] := T.F_in_circle.bindsN fun _ _ _ _ _ _ us hl => match us, hl with | [_, _, _, _], _ => rfl
abbrev N_law_source_of : List Str := ["_law_number_here"]
abbrev P_law_source_of : List Str := ["_law_number_here"]
theorem sc_law_source_of : FnScope N_law_source_of P_law_source_of (defScope (top 25)) := ⟨rfl, rfl, rfl, by decide +kernel, rfl, by decide +kernel, by decide +kernel⟩
theorem st_law_source_of (x0 : V) : L2.start N_law_source_of [x0] = [some x0] := rfl
theorem b_law_source_of {K : PySem.W.Frag} {mg : Str → Option Value} (T : Tops K mg) : Binds K T.fd_law_source_of P_law_source_of [] := T.F_law_source_of.bindsN fun _ _ _ _ _ _ us hl => match us, hl with | [_], _ => rfl
abbrev N_law_next : List Str := ["_law_source", "_law_many", "_law_found", "_law_prime", "_law_number"]
abbrev P_law_next : List Str := ["_law_source", "_law_many"]
theorem sc_law_next : FnScope N_law_next P_law_next (defScope (top 26)) := ⟨rfl, rfl, rfl, by decide +kernel, rfl, by decide +kernel, by decide +kernel⟩
theorem st_law_next (x0 : V) (x1 : V) : L2.start N_law_next [x0, x1] = [some x0, some x1, none, none, none] := rfl
theorem b_law_next {K : PySem.W.Frag} {mg : Str → Option Value} (T : Tops K mg) : Binds K T.fd_law_next P_law_next [] := T.F_law_next.bindsN fun _ _ _ _ _ _ us hl => match us, hl with | [_, _], _ => rfl
abbrev N_law_one : List Str := ["_law_source", "_law_some"]
abbrev P_law_one : List Str := ["_law_source", "_law_some"]
theorem sc_law_one : FnScope N_law_one P_law_one (defScope (top 27)) := ⟨rfl, rfl, rfl, by decide +kernel, rfl, by decide +kernel, by decide +kernel⟩
theorem st_law_one (x0 : V) (x1 : V) : L2.start N_law_one [x0, x1] = [some x0, some x1] := rfl
theorem b_law_one {K : PySem.W.Frag} {mg : Str → Option Value} (T : Tops K mg) : Binds K T.fd_law_one P_law_one [] := T.F_law_one.bindsN fun _ _ _ _ _ _ us hl => match us, hl with | [_, _], _ => rfl
abbrev N_law_cell_at : List Str := ["_law_script", "_law_index"]
abbrev P_law_cell_at : List Str := ["_law_script", "_law_index"]
theorem sc_law_cell_at : FnScope N_law_cell_at P_law_cell_at (defScope (top 28)) := ⟨rfl, rfl, rfl, by decide +kernel, rfl, by decide +kernel, by decide +kernel⟩
theorem st_law_cell_at (x0 : V) (x1 : V) : L2.start N_law_cell_at [x0, x1] = [some x0, some x1] := rfl
theorem b_law_cell_at {K : PySem.W.Frag} {mg : Str → Option Value} (T : Tops K mg) : Binds K T.fd_law_cell_at P_law_cell_at [] := T.F_law_cell_at.bindsN fun _ _ _ _ _ _ us hl => match us, hl with | [_, _], _ => rfl
abbrev N_law_sites : List Str := ["_law_source", "_law_most", "_law_round_one", "_law_way", "_law_found", "_law_u", "_law_v", "_law_k", "_law_site", "_law_x", "_law_y"]
abbrev P_law_sites : List Str := ["_law_source", "_law_most"]
theorem sc_law_sites : FnScope N_law_sites P_law_sites (defScope (top 29)) := ⟨rfl, rfl, rfl, by decide +kernel, rfl, by decide +kernel, by decide +kernel⟩
theorem st_law_sites (x0 : V) (x1 : V) : L2.start N_law_sites [x0, x1] = [some x0, some x1, none, none, none, none, none, none, none, none, none] := rfl
theorem b_law_sites {K : PySem.W.Frag} {mg : Str → Option Value} (T : Tops K mg) : Binds K T.fd_law_sites P_law_sites [] := T.F_law_sites.bindsN fun _ _ _ _ _ _ us hl => match us, hl with | [_, _], _ => rfl
abbrev N_law_square : List Str := ["_law_place_here", "_law_site"]
abbrev P_law_square : List Str := ["_law_place_here", "_law_site"]
theorem sc_law_square : FnScope N_law_square P_law_square (defScope (top 30)) := ⟨rfl, rfl, rfl, by decide +kernel, rfl, by decide +kernel, by decide +kernel⟩
theorem st_law_square (x0 : V) (x1 : V) : L2.start N_law_square [x0, x1] = [some x0, some x1] := rfl
theorem b_law_square {K : PySem.W.Frag} {mg : Str → Option Value} (T : Tops K mg) : Binds K T.fd_law_square P_law_square [] := T.F_law_square.bindsN fun _ _ _ _ _ _ us hl => match us, hl with | [_, _], _ => rfl
abbrev N_law_turn : List Str := ["_law_aa", "_law_bb", "_law_cc"]
abbrev P_law_turn : List Str := ["_law_aa", "_law_bb", "_law_cc"]
theorem sc_law_turn : FnScope N_law_turn P_law_turn (defScope (top 31)) := ⟨rfl, rfl, rfl, by decide +kernel, rfl, by decide +kernel, by decide +kernel⟩
theorem st_law_turn (x0 : V) (x1 : V) (x2 : V) : L2.start N_law_turn [x0, x1, x2] = [some x0, some x1, some x2] := rfl
theorem b_law_turn {K : PySem.W.Frag} {mg : Str → Option Value} (T : Tops K mg) : Binds K T.fd_law_turn P_law_turn [] := T.F_law_turn.bindsN fun _ _ _ _ _ _ us hl => match us, hl with | [_, _, _], _ => rfl
abbrev N_law_common : List Str := ["_law_aa", "_law_bb"]
abbrev P_law_common : List Str := ["_law_aa", "_law_bb"]
theorem sc_law_common : FnScope N_law_common P_law_common (defScope (top 32)) := ⟨rfl, rfl, rfl, by decide +kernel, rfl, by decide +kernel, by decide +kernel⟩
theorem st_law_common (x0 : V) (x1 : V) : L2.start N_law_common [x0, x1] = [some x0, some x1] := rfl
theorem b_law_common {K : PySem.W.Frag} {mg : Str → Option Value} (T : Tops K mg) : Binds K T.fd_law_common P_law_common [] := T.F_law_common.bindsN fun _ _ _ _ _ _ us hl => match us, hl with | [_, _], _ => rfl
abbrev N_law_place : List Str := ["_law_x", "_law_y", "_law_dd", "_law_great"]
abbrev P_law_place : List Str := ["_law_x", "_law_y", "_law_dd"]
theorem sc_law_place : FnScope N_law_place P_law_place (defScope (top 33)) := ⟨rfl, rfl, rfl, by decide +kernel, rfl, by decide +kernel, by decide +kernel⟩
theorem st_law_place (x0 : V) (x1 : V) (x2 : V) : L2.start N_law_place [x0, x1, x2] = [some x0, some x1, some x2, none] := rfl
theorem b_law_place {K : PySem.W.Frag} {mg : Str → Option Value} (T : Tops K mg) : Binds K T.fd_law_place P_law_place [] := T.F_law_place.bindsN fun _ _ _ _ _ _ us hl => match us, hl with | [_, _, _], _ => rfl
abbrev N_law_centre : List Str := ["_law_aa", "_law_bb", "_law_cc", "_law_u", "_law_v", "_law_w", "_law_z", "_law_first", "_law_second"]
abbrev P_law_centre : List Str := ["_law_aa", "_law_bb", "_law_cc"]
theorem sc_law_centre : FnScope N_law_centre P_law_centre (defScope (top 34)) := ⟨rfl, rfl, rfl, by decide +kernel, rfl, by decide +kernel, by decide +kernel⟩
theorem st_law_centre (x0 : V) (x1 : V) (x2 : V) : L2.start N_law_centre [x0, x1, x2] = [some x0, some x1, some x2, none, none, none, none, none, none] := rfl
theorem b_law_centre {K : PySem.W.Frag} {mg : Str → Option Value} (T : Tops K mg) : Binds K T.fd_law_centre P_law_centre [] := T.F_law_centre.bindsN fun _ _ _ _ _ _ us hl => match us, hl with | [_, _, _], _ => rfl
abbrev N_law_no_circle : List Str := ["_law_call", "_law_found", "e"]
abbrev P_law_no_circle : List Str := ["_law_call"]
theorem sc_law_no_circle : FnScope N_law_no_circle P_law_no_circle (defScope (top 35)) := ⟨rfl, rfl, rfl, by decide +kernel, rfl, by decide +kernel, by decide +kernel⟩
theorem st_law_no_circle (x0 : V) : L2.start N_law_no_circle [x0] = [some x0, none, none] := rfl
theorem b_law_no_circle {K : PySem.W.Frag} {mg : Str → Option Value} (T : Tops K mg) : Binds K T.fd_law_no_circle P_law_no_circle [] := T.F_law_no_circle.bindsN fun _ _ _ _ _ _ us hl => match us, hl with | [_], _ => rfl
abbrev N_law_right : List Str := ["_law_aa", "_law_bb", "_law_cc", "_law_others", "_law_place_here", "_law_square_here", "_law_reach", "_law_great", "_law_dd", "_law_far", "_law_due", "_law_site"]
abbrev P_law_right : List Str := ["_law_aa", "_law_bb", "_law_cc", "_law_others"]
theorem sc_law_right : FnScope N_law_right P_law_right (defScope (top 36)) := ⟨rfl, rfl, rfl, by decide +kernel, rfl, by decide +kernel, by decide +kernel⟩
theorem st_law_right (x0 : V) (x1 : V) (x2 : V) (x3 : V) : L2.start N_law_right [x0, x1, x2, x3] = [some x0, some x1, some x2, some x3, none, none, none, none, none, none, none, none] := rfl
theorem b_law_right {K : PySem.W.Frag} {mg : Str → Option Value} (T : Tops K mg) : Binds K T.fd_law_right P_law_right [] := T.F_law_right.bindsN fun _ _ _ _ _ _ us hl => match us, hl with | [_, _, _, _], _ => rfl
abbrev N_law : List Str := ["_law_script", "_law_field", "_law_number_here", "_law_source", "_law_lap", "_law_sites_here", "_law_edge", "_law_corners", "_law_k"]
abbrev P_law : List Str := ["_law_script"]
theorem sc_law : FnScope N_law P_law (defScope (top 37)) := ⟨rfl, rfl, rfl, by decide +kernel, rfl, by decide +kernel, by decide +kernel⟩
theorem st_law (x0 : V) : L2.start N_law [x0] = [some x0, none, none, none, none, none, none, none, none] := rfl
theorem b_law {K : PySem.W.Frag} {mg : Str → Option Value} (T : Tops K mg) : Binds K T.fd_law P_law [] := T.F_law.bindsN fun _ _ _ _ _ _ us hl => match us, hl with | [_], _ => rfl
abbrev N_NoCircle_init : List Str := ["self"]
abbrev P_NoCircle_init : List Str := ["self"]
theorem sc_NoCircle_init : FnScope N_NoCircle_init P_NoCircle_init (defScope (ini 3)) := ⟨rfl, rfl, rfl, by decide +kernel, rfl, by decide +kernel, by decide +kernel⟩
theorem st_NoCircle_init (x0 : V) : L2.start N_NoCircle_init [x0] = [some x0] := rfl
theorem b_NoCircle_init {K : PySem.W.Frag} {mg : Str → Option Value} (T : Tops K mg) : Binds K T.fd_NoCircle_init P_NoCircle_init [] := T.F_NoCircle_init.bindsN fun _ _ _ _ _ _ us hl => match us, hl with | [_], _ => rfl
theorem kb_circle_c_b_a {K : PySem.W.Frag} {mg : Str → Option Value} (T : Tops K mg) : KBn K T.fd_circle P_circle 0 ["c", "b", "a"] (fun us ws => permL [2, 1, 0] (us ++ ws)) (fun us ws => permL [2, 1, 0] (us ++ ws)) := T.F_circle.kbnP 0 _ _ fun _ _ _ _ _ _ us ws h1 h2 => match us, h1, ws, h2 with | [], _, [_, _, _], _ => rfl
theorem kb_in_circle_d_c_b_a {K : PySem.W.Frag} {mg : Str → Option Value} (T : Tops K mg) : KBn K T.fd_in_circle P_in_circle 0 ["d", "c", "b", "a"] (fun us ws => permL [3, 2, 1, 0] (us ++ ws)) (fun us ws => permL [3, 2, 1, 0] (us ++ ws)) := T.F_in_circle.kbnP 0 _ _ fun _ _ _ _ _ _ us ws h1 h2 => match us, h1, ws, h2 with | [], _, [_, _, _, _], _ => rfl

end NC
namespace NC
section
variable {P : Program} {w : World} {K : PySem.W.Frag} {mg : Str → Option Value} {base : Heap}

def Bd (x : Int) : Prop := -1000000 ≤ x ∧ x ≤ 1000000
def sgn (i : Int) : Int := (if 0 < i then 1 else 0) - (if i < 0 then 1 else 0)
def turnZ (ax ay bx by_ cx cy : Int) : Int := (bx - ax) * (cy - ay) - (by_ - ay) * (cx - ax)
theorem sgn_pos {i : Int} (h : 0 < i) : sgn i = 1 := by unfold sgn; rw [if_pos h, if_neg (by omega)]; rfl
theorem sgn_neg {i : Int} (h : i < 0) : sgn i = -1 := by unfold sgn; rw [if_neg (by omega), if_pos h]; rfl
theorem sgn_zero {i : Int} (h : i = 0) : sgn i = 0 := by unfold sgn; rw [if_neg (by omega), if_neg (by omega)]; rfl
theorem sgn_negate (i : Int) : sgn (-i) = 0 - sgn i := by
  rcases (show i < 0 ∨ i = 0 ∨ 0 < i by omega) with h | h | h
  · rw [sgn_neg h, sgn_pos (by omega)]; rfl
  · rw [sgn_zero h, sgn_zero (by omega)]; rfl
  · rw [sgn_pos h, sgn_neg (by omega)]; rfl
/-- three sites a, b, c -/
structure S3 (H : Hp) (pa pb pc : Addr) (ax ay bx by_ cx cy : Int) : Prop where
  a : H pa = some (.tup [.int ax, .int ay])
  b : H pb = some (.tup [.int bx, .int by_])
  c : H pc = some (.tup [.int cx, .int cy])
  bd : (Bd ax ∧ Bd ay) ∧ (Bd bx ∧ Bd by_) ∧ (Bd cx ∧ Bd cy)
theorem S3.mono {H H' : Hp} {pa pb pc : Addr} {ax ay bx by_ cx cy : Int} (k : TK H H') (h : S3 H pa pb pc ax ay bx by_ cx cy) : S3 H' pa pb pc ax ay bx by_ cx cy := ⟨k _ _ h.a, k _ _ h.b, k _ _ h.c, h.bd⟩
def sp_is_integer : Sp := fun vs H Q _ => ∃ i : Int, vs = [.int i] ∧ Q (.bl true) H
theorem ok_is_integer (T : Tops K mg) : FnOk P w K mg base CX0 1 (He.ga K "is_integer") T.fd_is_integer P_is_integer sp_is_integer := by
  refine T.F_is_integer.ok sc_is_integer (fun vs H Q E h => ?_) (fun cdv A outer s H vs Q E hr h => ?_)
  · obtain ⟨i, rfl, q⟩ := h
    rfl
  · obtain ⟨i, rfl, q⟩ := h
    refine ⟨_, PSs.nox ((pss_one (ps_ret (pe_and (pe_callB (call_isiK0 K) (by rfl) T.m_isinstance (by decide +kernel) (pa_cons (pv 0) (pa_cons (pe_bltn (v := .ty "int") rfl T.m_int (by decide +kernel) rfl) pa_nil))) (pe_one (pe_not (pe_callB (call_isiK0 K) (by rfl) T.m_isinstance (by decide +kernel) (pa_cons (pv 0) (pa_cons (pe_bltn (v := .ty "bool") rfl T.m_bool (by decide +kernel) rfl) pa_nil))))))))), ?_⟩
    rw [st_is_integer]
    walk_at "rd"
    refine ⟨_, _, _, _, true, rfl, .ty _, .base (.int _), kit_ty (by decide +kernel), ?_⟩
    walk_at "rd"
    refine iteT ?_
    walk_at "rd"
    refine ⟨_, _, _, _, false, rfl, .ty _, .base (.int _), kit_ty (by decide +kernel), ?_⟩
    walk_at "rd"
    exact q
def sp_is_between : Sp := fun vs H Q _ => ∃ v lo hi : Int, vs = [.int v, .int lo, .int hi] ∧ Q (.bl (decide (lo ≤ v) && decide (v ≤ hi))) H
theorem ok_is_between (T : Tops K mg) : FnOk P w K mg base CX0 2 (He.ga K "is_between") T.fd_is_between P_is_between sp_is_between := by
  refine T.F_is_between.ok sc_is_between (fun vs H Q E h => ?_) (fun cdv A outer s H vs Q E hr h => ?_)
  · obtain ⟨v, lo, hi, rfl, q⟩ := h
    rfl
  · obtain ⟨v, lo, hi, rfl, q⟩ := h
    refine ⟨_, PSs.nox ((pss_one (ps_ret (pe_and (pe_call (ok_is_integer T) (hr.mono (by decide)) (by rfl) T.g_is_integer T.F_is_integer.kp (b_is_integer T) .nil pass0 (pa_cons (pv 0) pa_nil)) (pe_one (pe_chain op_le op_le (pv 1) (pv 0) (pv 2))))))), ?_⟩
    rw [st_is_between]
    walk_at "rd"
    refine ⟨v, rfl, ?_⟩
    walk_at "rd"
    refine iteT ?_
    walk_at "rd"
    refine ite2 (fun h => ?_) (fun h => ?_)
    · walk_at "rd"
      rw [h, Bool.true_and] at q
      exact q
    · have h2 : decide (lo ≤ v) = false := by simpa using h
      rw [h2, Bool.false_and] at q
      exact q
def sp_sign : Sp := fun vs H Q _ => ∃ i : Int, vs = [.int i] ∧ Q (.int (sgn i)) H
theorem ok_sign (T : Tops K mg) : FnOk P w K mg base CX0 1 (He.ga K "sign") T.fd_sign P_sign sp_sign := by
  refine T.F_sign.ok sc_sign (fun vs H Q E h => ?_) (fun cdv A outer s H vs Q E hr h => ?_)
  · obtain ⟨i, rfl, q⟩ := h
    rfl
  · obtain ⟨i, rfl, q⟩ := h
    refine ⟨_, PSs.nox ((pss_one (ps_ret (pe_op op_sub (pe_callTy call_intN (by rfl) T.m_int (by decide +kernel) (pa_cons (pe_cmpR op_gt (pv 0) pe_int (nomark _)) pa_nil)) (pe_callTy call_intN (by rfl) T.m_int (by decide +kernel) (pa_cons (pe_cmpR op_lt (pv 0) pe_int (nomark _)) pa_nil)))))), ?_⟩
    rw [st_sign]
    walk_at "rd"
    have e : zsg (decide (0 < i)) - zsg (decide (i < 0)) = sgn i := by
      unfold sgn zsg
      simp only [decide_eq_true_eq]
    show Q (.int (zsg (decide (0 < i)) - zsg (decide (i < 0)))) H
    rw [e]
    exact q
def sp_turn : Sp := fun vs H Q _ => ∃ pa pb pc ax ay bx by_ cx cy, vs = [.ref pa, .ref pb, .ref pc] ∧ S3 H pa pb pc ax ay bx by_ cx cy ∧ Q (.int (turnZ ax ay bx by_ cx cy)) H
theorem ok_turn (T : Tops K mg) : FnOk P w K mg base CX0 1 (He.ga K "turn") T.fd_turn P_turn sp_turn := by
  refine T.F_turn.ok sc_turn (fun vs H Q E h => ?_) (fun cdv A outer s H vs Q E hr h => ?_)
  · obtain ⟨pa, pb, pc, ax, ay, bx, by_, cx, cy, rfl, ⟨ha, hb, hc, hd⟩, q⟩ := h
    rfl
  · obtain ⟨pa, pb, pc, ax, ay, bx, by_, cx, cy, rfl, ⟨ha, hb, hc, hd⟩, q⟩ := h
    refine ⟨_, PSs.nox ((pss_one (ps_ret (pe_op op_sub (pe_op op_mul (pe_op op_sub (pe_ix (ix_tupK K) (pv 1) pe_int (fun _ _ => rfl)) (pe_ix (ix_tupK K) (pv 0) pe_int (fun _ _ => rfl))) (pe_op op_sub (pe_ix (ix_tupK K) (pv 2) pe_int (fun _ _ => rfl)) (pe_ix (ix_tupK K) (pv 0) pe_int (fun _ _ => rfl)))) (pe_op op_mul (pe_op op_sub (pe_ix (ix_tupK K) (pv 1) pe_int (fun _ _ => rfl)) (pe_ix (ix_tupK K) (pv 0) pe_int (fun _ _ => rfl))) (pe_op op_sub (pe_ix (ix_tupK K) (pv 2) pe_int (fun _ _ => rfl)) (pe_ix (ix_tupK K) (pv 0) pe_int (fun _ _ => rfl)))))))), ?_⟩
    rw [st_turn]
    unfold Bd at hd
    walk_at "rd"
    exact q
def sp_is_site : Sp := fun vs H Q _ => ∃ (p : Addr) (x y : Int), vs = [.ref p] ∧ H p = some (.tup [.int x, .int y]) ∧ Bd x ∧ Bd y ∧ ∀ H', Same H H' → Q (.bl true) H'
theorem ok_is_site (T : Tops K mg) : FnOk P w K mg base CX0 3 (He.ga K "is_site") T.fd_is_site P_is_site sp_is_site := by
  refine T.F_is_site.ok sc_is_site (fun vs H Q E h => ?_) (fun cdv A outer s H vs Q E hr h => ?_)
  · obtain ⟨p, x, y, rfl, hp, bx, by_, q⟩ := h
    rfl
  · obtain ⟨p, x, y, rfl, hp, bx, by_, q⟩ := h
    refine ⟨_, PSs.nox ((pss_cons (ps_if (PW.pt (pw_or (pt_not (pt_val (pe_callB (call_isiK0 K) (by rfl) T.m_isinstance (by decide +kernel) (pa_cons (pv 0) (pa_cons (pe_bltn (v := .ty "tuple") rfl T.m_tuple (by decide +kernel) rfl) pa_nil))))) (pw_or1 (pt_cmpR op_ne (pe_callB (call_lenK K) (by rfl) T.m_len PySem.boot_len (pa_cons (pv 0) pa_nil)) pe_int (nomark _)))))
       (pss_one (ps_ret pe_bl))
       pss_nil)
       (pss_one (ps_ret (pe_callB (cr_allK K rfl) (by rfl) T.m_all (by decide +kernel) (pa_cons (pe_lc (own := [("one", 1)]) (g := gName 1) (tt := tYes) rfl sc_is_site.nd (pi_tupK K (pv 0)) (blkOk_by (own := [("one", 1)]) (N := N_is_site) (sc := defScope (top 12)) (by decide +kernel)) (fun _ _ _ _ _ => (pg_name (i := 1) sc_is_site.nd rfl (.inl rfl))) (fun _ _ _ _ _ => pts_nil) (fun _ _ _ _ _ => (pe_call (ok_is_between T) (hr.mono (by decide)) (by rfl) T.g_is_between T.F_is_between.kp (b_is_between T) .nil pass0 (pa_cons (pv 1) (pa_cons (pe_op op_sub pe_int (pe_glob (v := .int 1000000) rfl T.c_MOST_COORDINATE ⟨_, rfl⟩)) (pa_cons (pe_glob (v := .int 1000000) rfl T.c_MOST_COORDINATE ⟨_, rfl⟩) pa_nil)))))) pa_nil)))))), ?_⟩
    rw [st_is_site]
    walk_at "rd"
    refine ⟨_, _, _, _, true, rfl, .ty _, .base (.tup hp), kit_ty (by decide +kernel), ?_⟩
    walk_at "rd"
    refine iteF ?_
    walk_at "rd"
    refine iteF ?_
    walk_at "rd"
    refine ⟨p, rfl, ⟨_, SqT.of hp⟩, fun D hD => ?_⟩
    refine lc_tup (K := K) (a := p) (xs := [.int x, .int y]) (fun i H' => Same H H' ∧ H' D = some (.lst (List.replicate i (.bl true)))) ⟨same_new hD, upd_same⟩ (fun i H' _ h => SqT.of (h.1 _ _ hp)) ?_ ?_
    · rintro i z H' hz ⟨hs, hl⟩
      have hzz : ∃ n : Int, z = .int n ∧ Bd n ∧ i < 2 := by
        match i, hz with
        | 0, hz => exact ⟨x, (Option.some.inj hz).symm, bx, by decide⟩
        | 1, hz => exact ⟨y, (Option.some.inj hz).symm, by_, by decide⟩
      obtain ⟨n, rfl, hn, hi⟩ := hzz
      walk_at "rd"
      refine ⟨rfl, ?_⟩
      walk_at "rd"
      refine iteT ?_
      walk_at "rd"
      refine ⟨_, _, _, rfl, ?_⟩
      have e : (decide ((0 : Int) - 1000000 ≤ n) && decide (n ≤ 1000000)) = true := by
        unfold Bd at hn
        rw [Bool.and_eq_true, decide_eq_true_eq, decide_eq_true_eq]
        omega
      refine ⟨_, hl, len_lt (by rw [List.length_replicate]; omega), ?_, ?_⟩
      · intro b o hb
        rw [upd_ne (ne_of_none hb hD)]
        exact hs _ _ hb
      · rw [upd_same, e, List.replicate_succ']
    · rintro H' ⟨hs, hl⟩
      refine ⟨D, [true, true], rfl, SqL.of hl, q H' hs⟩
def sp_check_site : Sp := fun vs H Q _ => ∃ (z : Str) (p : Addr) (x y : Int), vs = [.str z, .ref p] ∧ H p = some (.tup [.int x, .int y]) ∧ Bd x ∧ Bd y ∧ ∀ H', Same H H' → Q .non H'
theorem ok_check_site (T : Tops K mg) : FnOk P w K mg base CX0 4 (He.ga K "check_site") T.fd_check_site P_check_site sp_check_site := by
  refine T.F_check_site.ok sc_check_site (fun vs H Q E h => ?_) (fun cdv A outer s H vs Q E hr h => ?_)
  · obtain ⟨z, p, x, y, rfl, hp, bx, by_, q⟩ := h
    rfl
  · obtain ⟨z, p, x, y, rfl, hp, bx, by_, q⟩ := h
    refine ⟨_, PSs.nox ((pss_one (ps_if (pt_not (pt_val (pe_call (ok_is_site T) (hr.mono (by decide)) (by rfl) T.g_is_site T.F_is_site.kp (b_is_site T) .nil pass0 (pa_cons (pv 1) pa_nil))))
       (pss_one ps_never)
       pss_nil))), ?_⟩
    rw [st_check_site]
    walk_at "rd"
    refine ⟨p, x, y, rfl, hp, bx, by_, fun H' hs => ?_⟩
    walk_at "rd"
    refine iteF ?_
    exact q H' hs

theorem sq_nn (u : Int) : 0 ≤ u * u := by
  rcases (show 0 ≤ u ∨ u ≤ 0 by omega) with h | h
  · exact Int.mul_nonneg h h
  · exact Int.mul_nonneg_of_nonpos_of_nonpos h h
theorem sq_pos {u : Int} (h : u ≠ 0) : 0 < u * u := by
  rcases (show 0 < u ∨ u < 0 by omega) with h | h
  · exact Int.mul_pos h h
  · exact Int.mul_pos_of_neg_of_neg h h

/-- a site as data -/
theorem dp_site {H : Hp} {p : Addr} {x y : Int} (h : H p = some (.tup [.int x, .int y])) : Dp K H (.ref p) (.tuple [.int x, .int y]) := .tup (SqT.of h) (.cons (.int _) (.cons (.int _) .nil))
theorem eqv_site (x y u v : Int) : PyData.eqv (.tuple [.int x, .int y]) (.tuple [.int u, .int v]) = (decide (x = u) && decide (y = v)) := by
  simp [PyData.eqv, PyData.eqvAll, Bool.beq_eq_decide_eq]

end

end NC
namespace NC
section
variable {P : Program} {w : World} {K : PySem.W.Frag} {mg : Str → Option Value} {base : Heap}

/-- a source of draws -/
def SrcL (xs : List V) : Prop := ∃ i j k : Int, xs = [.int i, .int j, .int k] ∧ 0 ≤ i ∧ 0 ≤ j ∧ j < 2147483647 ∧ 0 ≤ k
def sp_law_source_of : Sp := fun vs H Q _ => ∃ n : Int, vs = [.int n] ∧ ∀ p xs, H p = none → SrcL xs → Q (.ref p) (upd H p (.lst xs))
def sp_law_next : Sp := fun vs H Q _ => ∃ (s : Addr) (m : Int) (xs : List V), vs = [.ref s, .int m] ∧ H s = some (.lst xs) ∧ SrcL xs ∧ 0 < m ∧ m < 1267650600228229401496703205376 ∧ ∀ r ys, 0 ≤ r → r < m → SrcL ys → Q (.int r) (upd H s (.lst ys))
def sp_law_one : Sp := fun vs H Q _ => ∃ (s l : Addr) (xs zs : List V), vs = [.ref s, .ref l] ∧ H s = some (.lst xs) ∧ SrcL xs ∧ H l = some (.lst zs) ∧ s ≠ l ∧ 0 < zs.length ∧ zs.length < 1000000 ∧ ∀ z ys, z ∈ zs → SrcL ys → Q z (upd H s (.lst ys))
theorem ok_law_source_of (T : Tops K mg) : FnOk P w K mg base CX0 1 (He.ga K "_law_source_of") T.fd_law_source_of P_law_source_of sp_law_source_of := by
  refine T.F_law_source_of.ok sc_law_source_of (fun vs H Q E h => ?_) (fun cdv A outer s H vs Q E hr h => ?_)
  · obtain ⟨n, rfl, q⟩ := h
    rfl
  · obtain ⟨n, rfl, q⟩ := h
    refine ⟨_, PSs.nox ((pss_cons (ps_set (i := 0) sc_law_source_of.nd rfl (.inl rfl) (pe_ifExp (pt_cmpR op_ge (pv 0) pe_int (nomark _)) (pv 0) (pe_op op_sub (pe_op op_sub pe_int (pe_op op_mul pe_int (pv 0))) pe_int)))
       (pss_one (ps_ret (pe_lst (pa_cons (pe_op op_mul (pv 0) (pe_callTy call_intN (by rfl) T.m_int (by decide +kernel) (pa_cons (pe_cmpR op_ge (pv 0) (pe_op op_pow pe_int pe_int) (nomark _)) pa_nil))) (pa_cons (pe_op op_mod (pe_callTy call_intN (by rfl) T.m_int (by decide +kernel) (pa_cons (pv 0) pa_nil)) pe_int) (pa_cons pe_int pa_nil)))))))), ?_⟩
    rw [st_law_source_of]
    walk_at "rd"
    have fin : ∀ n : Int, 0 ≤ n → ∀ (p : Addr) (k : Bool), H p = none → Q (.ref p) (upd H p (.lst [.int (n * zsg k), .int (n % 2147483647), .int 0])) := fun n hn p k hp => by
      refine q p _ hp ⟨_, _, _, rfl, ?_, ?_, ?_, by decide⟩
      · exact Int.mul_nonneg hn (zsg_lo k)
      · exact Int.emod_nonneg _ (by decide)
      · exact Int.emod_lt_of_pos _ (by decide)
    refine ite2 (fun h => ?_) (fun h => ?_)
    · walk_at "rd"
      refine g_mul (mulR (Int.le_trans (by decide) (zsg_lo _)) (Int.le_trans (zsg_hi _) (by decide))) ?_
      walk_at "rd"
      exact ⟨len_le (n := 3) (by decide), fun p hp => fin n (of_decide_eq_true h) p _ hp⟩
    · have hn : ¬ (0 ≤ n) := fun z => h (decide_eq_true z)
      walk_at "rd"
      refine g_mul (mulR (Int.le_trans (by decide) (zsg_lo _)) (Int.le_trans (zsg_hi _) (by decide))) ?_
      walk_at "rd"
      exact ⟨len_le (n := 3) (by decide), fun p hp => fin (0 - 3 * n - 1) (by omega) p _ hp⟩
theorem ok_law_next (T : Tops K mg) : FnOk P w K mg base CX0 1 (He.ga K "_law_next") T.fd_law_next P_law_next sp_law_next := by
  refine T.F_law_next.ok sc_law_next (fun vs H Q E h => ?_) (fun cdv A outer s H vs Q E hr h => ?_)
  · obtain ⟨s, m, xs, rfl, hs, ⟨i, j, k, rfl, hi, hj, hj2, hk⟩, hm, hm2, q⟩ := h
    rfl
  · obtain ⟨s, m, xs, rfl, hs, ⟨i, j, k, rfl, hi, hj, hj2, hk⟩, hm, hm2, q⟩ := h
    refine ⟨_, PSs.nox ((pss_cons (ps_if (pt_cmpR op_gt (pe_ix (ix_listK K) (pv 0) pe_int (fun _ _ => rfl)) pe_int (nomark _))
       (pss_cons (ps_set (i := 2) sc_law_next.nd rfl (.inl rfl) (pe_op op_mod (pe_callTy call_intN (by rfl) T.m_int (by decide +kernel) (pa_cons (pe_ix (ix_listK K) (pv 0) pe_int (fun _ _ => rfl)) pa_nil)) (pv 1)))
       (pss_cons (ps_asg (pe_op op_fdivA (pe_ix (ix_listK K) (pv 0) pe_int (fun _ _ => rfl)) (pv 1)) (pg_sub (pv 0) pe_int set_list))
       (pss_one (ps_ret (pv 2)))))
       pss_nil)
       (pss_cons (ps_asg (pe_op op_add (pe_ix (ix_listK K) (pv 0) pe_int (fun _ _ => rfl)) pe_int) (pg_sub (pv 0) pe_int set_list))
       (pss_cons (ps_set (i := 3) sc_law_next.nd rfl (.inl rfl) pe_int)
       (pss_cons (ps_set (i := 4) sc_law_next.nd rfl (.inl rfl) (pe_op op_mod (pe_callTy call_intN (by rfl) T.m_int (by decide +kernel) (pa_cons (pe_op op_add (pe_op op_add (pe_ix (ix_listK K) (pv 0) pe_int (fun _ _ => rfl)) (pe_op op_mul pe_int (pe_ix (ix_listK K) (pv 0) pe_int (fun _ _ => rfl)))) pe_int) pa_nil)) (pv 3)))
       (pss_cons (ps_set (i := 4) sc_law_next.nd rfl (.inl rfl) (pe_op op_mod (pe_callTy call_intN (by rfl) T.m_int (by decide +kernel) (pa_cons (pe_op op_mul (pv 4) pe_int) pa_nil)) (pv 3)))
       (pss_cons (ps_set (i := 4) sc_law_next.nd rfl (.inl rfl) (pe_op op_mod (pe_callTy call_intN (by rfl) T.m_int (by decide +kernel) (pa_cons (pe_op op_mul (pv 4) (pe_op op_add (pe_op op_fdivA (pv 4) pe_int) pe_int)) pa_nil)) (pv 3)))
       (pss_cons (ps_set (i := 4) sc_law_next.nd rfl (.inl rfl) (pe_op op_mod (pe_callTy call_intN (by rfl) T.m_int (by decide +kernel) (pa_cons (pe_op op_mul (pv 4) (pe_op op_add (pe_op op_fdivA (pv 4) pe_int) pe_int)) pa_nil)) pe_int))
       (pss_one (ps_ret (pe_op op_mod (pe_callTy call_intN (by rfl) T.m_int (by decide +kernel) (pa_cons (pe_op op_fdivA (pv 4) pe_int) pa_nil)) (pv 1)))))))))))), ?_⟩
    rw [st_law_next]
    walk_at "rd"
    refine ite2 (fun h => ?_) (fun h => ?_)
    · have h0 : 0 < i := of_decide_eq_true h
      walk_at "rd"
      refine g_setL (j := 0) hs rfl ?_
      walk_at "rd"
      exact q _ _ (Int.emod_nonneg _ (by omega)) (Int.emod_lt_of_pos _ hm) ⟨_, _, _, rfl, by rw [Int.fdiv_eq_ediv_of_nonneg _ (by omega)]; exact Int.ediv_nonneg hi (by omega), hj, hj2, hk⟩
    · walk_at "rd"
      refine g_setL (j := 2) hs rfl ?_
      have hs1 : (upd H s (.lst ([.int i, .int j, .int k].set 2 (.int (k + 1))))) s = some (.lst [.int i, .int j, .int (k + 1)]) := upd_same
      walk_at "rd"
      have b1 : ∀ z : Int, 0 ≤ z % 2147483647 ∧ z % 2147483647 < 2147483647 := fun z => ⟨Int.emod_nonneg _ (by decide), Int.emod_lt_of_pos _ (by decide)⟩
      generalize e1 : (j + 104729 * (k + 1) + 7919) % 2147483647 = z1
      have hz1 := b1 (j + 104729 * (k + 1) + 7919)
      rw [e1] at hz1
      walk_at "rd"
      generalize e2 : z1 * 48271 % 2147483647 = z2
      have hz2 := b1 (z1 * 48271)
      rw [e2] at hz2
      walk_at "rd"
      generalize e3 : z2 * (z2.fdiv 1009 + 69621) % 2147483647 = z3
      have hz3 := b1 (z2 * (z2.fdiv 1009 + 69621))
      rw [e3] at hz3
      walk_at "rd"
      exact q _ _ (Int.emod_nonneg _ (by omega)) (Int.emod_lt_of_pos _ hm) ⟨_, _, _, rfl, hi, hj, hj2, by omega⟩
theorem ok_law_one (T : Tops K mg) : FnOk P w K mg base CX0 2 (He.ga K "_law_one") T.fd_law_one P_law_one sp_law_one := by
  refine T.F_law_one.ok sc_law_one (fun vs H Q E h => ?_) (fun cdv A outer s H vs Q E hr h => ?_)
  · obtain ⟨s, l, xs, zs, rfl, hs, hx, hl, ne, l0, l1, q⟩ := h
    rfl
  · obtain ⟨s, l, xs, zs, rfl, hs, hx, hl, ne, l0, l1, q⟩ := h
    refine ⟨_, PSs.nox ((pss_one (ps_ret (pe_ix (ix_listK K) (pv 1) (pe_call (ok_law_next T) (hr.mono (by decide)) (by rfl) T.g_law_next T.F_law_next.kp (b_law_next T) .nil pass0 (pa_cons (pv 0) (pa_cons (pe_callB (call_lenK K) (by rfl) T.m_len PySem.boot_len (pa_cons (pv 1) pa_nil)) pa_nil))) (fun _ _ => rfl))))), ?_⟩
    rw [st_law_one]
    walk_at "rd"
    refine ⟨s, _, xs, rfl, hs, hx, by omega, by omega, fun r ys r0 r1 hy => ?_⟩
    obtain ⟨n, rfl⟩ := Int.eq_ofNat_of_zero_le r0
    have hn : n < zs.length := by omega
    refine g_ixL (xs := zs) (v := zs[n]) (by rw [upd_ne (Ne.symm ne)]; exact hl) (atI_nat (List.getElem?_eq_getElem hn)) ?_
    exact q _ _ (List.getElem_mem hn) hy
theorem cutV_0 (xs : List V) (i : Nat) : cutV xs (some (i : Int)) (some ((i : Int) + 1)) = (xs.drop i).take 1 := by
  unfold cutV
  rw [show HT.sIx xs.length 0 (some (i : Int)) = min i xs.length from HT.sIx_nat xs.length 0 i]
  rw [show HT.sIx xs.length xs.length (some ((i : Int) + 1)) = min (i + 1) xs.length from HT.sIx_nat xs.length xs.length (i + 1)]
  by_cases h : i < xs.length
  · rw [show min i xs.length = i by omega, show min (i + 1) xs.length = i + 1 by omega, show i + 1 - i = 1 by omega]
  · rw [List.drop_eq_nil_of_le (by omega), List.drop_eq_nil_of_le (by omega), List.take_nil, List.take_nil]
def sp_law_cell_at (K : PySem.W.Frag) : Sp := fun vs H Q _ => ∃ (a : Addr) (ns : List Int) (i : Nat), vs = [.ref a, .int i] ∧ SqL K H a (ns.map V.int) ∧ ∀ H', Same H H' → Q (.int (ns.getD i 0)) H'
theorem ok_law_cell_at (T : Tops K mg) : FnOk P w K mg base CX0 1 (He.ga K "_law_cell_at") T.fd_law_cell_at P_law_cell_at (sp_law_cell_at K) := by
  refine T.F_law_cell_at.ok sc_law_cell_at (fun vs H Q E h => ?_) (fun cdv A outer s H vs Q E hr h => ?_)
  · obtain ⟨a, ns, i, rfl, hS, q⟩ := h
    rfl
  · obtain ⟨a, ns, i, rfl, hS, q⟩ := h
    refine ⟨_, PSs.nox ((pss_one (ps_ret (pe_ix (ix_listK K) (pe_op op_cat (pe_slice (sl_listK K) (pv 0) (po_some (pv 1)) (po_some (pe_op op_add (pv 1) pe_int))) (pe_lst (pa_cons pe_int pa_nil))) pe_int (fun _ _ => rfl))))), ?_⟩
    rw [st_law_cell_at]
    walk_at "rd"
    refine ⟨a, _, rfl, hS, fun p hp => ?_⟩
    walk_at "rd"
    refine ⟨by decide, fun p2 hp2 => ?_⟩
    have e1 : (upd (upd H p (.lst (cutV (ns.map V.int) (some (i : Int)) (some ((i : Int) + 1))))) p2 (.lst [.int 0])) p = some (.lst (cutV (ns.map V.int) (some (i : Int)) (some ((i : Int) + 1)))) := by
      rw [upd_ne (ne_of_none upd_same hp2), upd_same]
    refine ⟨p, p2, _, _, rfl, rfl, e1, upd_same, len_le (by
      rw [cutV_0, List.length_take]
      show _ + 1 ≤ _
      omega), fun p3 hp3 => ?_⟩
    have same : Same H (upd (upd (upd H p (.lst (cutV (ns.map V.int) (some (i : Int)) (some ((i : Int) + 1))))) p2 (.lst [.int 0])) p3 (.lst (cutV (ns.map V.int) (some (i : Int)) (some ((i : Int) + 1)) ++ [.int 0]))) := ((same_new hp).trans (same_new hp2)).trans (same_new hp3)
    walk_at "rd"
    refine g_ixL (v := .int (ns.getD i 0)) upd_same ?_ ?_
    · rw [cutV_0]
      show atI ((ns.map V.int).drop i |>.take 1 |>.append [.int 0]) ((0 : Nat) : Int) = _
      apply atI_nat
      by_cases h : i < ns.length
      · have e : ((ns.map V.int).drop i).take 1 = [.int ns[i]] := by
          rw [List.drop_eq_getElem_cons (by rw [List.length_map]; exact h)]
          simp
        rw [e, List.getD_eq_getElem?_getD, List.getElem?_eq_getElem h]
        rfl
      · rw [List.drop_eq_nil_of_le (by rw [List.length_map]; omega), List.getD_eq_getElem?_getD, List.getElem?_eq_none (l := ns) (by omega)]
        rfl
    · exact q _ same

/-- what stands beside the source stays -/
def Kp (s : Addr) (H H' : Hp) : Prop := ∀ b o, b ≠ s → H b = some o → H' b = some o
theorem Kp.refl {s : Addr} (H : Hp) : Kp s H H := fun _ _ _ h => h
theorem Kp.trans {s : Addr} {H H1 H2 : Hp} (a : Kp s H H1) (b : Kp s H1 H2) : Kp s H H2 := fun c o n h => b c o n (a c o n h)
theorem Kp.src {s : Addr} {H : Hp} {o : HO} : Kp s H (upd H s o) := fun b u n h => by rw [upd_ne n]; exact h
theorem Kp.same {s : Addr} {H H' : Hp} (a : Same H H') : Kp s H H' := fun b o _ h => a b o h
theorem Kp.new {s p : Addr} {H : Hp} {o : HO} (n : H p = none) : Kp s H (upd H p o) := Kp.same (same_new n)
/-- the source at s, what was tracked else is kept -/
structure Go (s : Addr) (H H' : Hp) : Prop where
  k : Kp s H H'
  t : TK H H'
  src : ∃ xs, H' s = some (.lst xs) ∧ SrcL xs
theorem Go.draw {s : Addr} {H H' : Hp} {ys : List V} (g : Go s H H') (hy : SrcL ys) : Go s H (upd H' s (.lst ys)) := by
  obtain ⟨xs, e, _⟩ := g.src
  exact ⟨g.k.trans .src, g.t.trans (.lst e), ys, upd_same, hy⟩
theorem Go.new {s p : Addr} {H H' : Hp} {o : HO} (g : Go s H H') (n : H' p = none) : Go s H (upd H' p o) := by
  obtain ⟨xs, e, hx⟩ := g.src
  refine ⟨g.k.trans (.new n), g.t.trans (.new n), xs, ?_, hx⟩
  rw [upd_ne (ne_of_none e n)]
  exact e
/-- a list of sites -/
def SitesL (H : Hp) (zs : List V) : Prop := 0 < zs.length ∧ zs.length < 1000 ∧ ∀ z ∈ zs, ∃ p x y, z = .ref p ∧ H p = some (.tup [.int x, .int y]) ∧ Bd x ∧ Bd y
theorem SitesL.mono {H H' : Hp} {zs : List V} (k : TK H H') (h : SitesL H zs) : SitesL H' zs := ⟨h.1, h.2.1, fun z hz => by
  obtain ⟨p, x, y, e, h, b⟩ := h.2.2 z hz
  exact ⟨p, x, y, e, k _ _ h, b⟩⟩
def sp_law_sites : Sp := fun vs H Q _ => ∃ (s : Addr) (m : Int) (xs : List V), vs = [.ref s, .int m] ∧ H s = some (.lst xs) ∧ SrcL xs ∧ 0 < m ∧ m < 100 ∧
  ∀ H' p zs, Go s H H' → H p = none → H' p = some (.lst zs) → SitesL H' zs → Q (.ref p) H'
/-- a key of the dict of sites -/
def KeyOk (k : List Key) : Prop := ∃ x y : Int, k = [.inl x, .inl y] ∧ (-999000 ≤ x ∧ x ≤ 999000) ∧ (-999000 ≤ y ∧ y ≤ 999000)
theorem put_keys {kvs : List (List Key × V)} {k : List Key} {v : V} (h : ∀ q ∈ kvs, KeyOk q.1) (hk : KeyOk k) : ∀ q ∈ putK kvs k v, KeyOk q.1 := by
  intro q hq
  unfold putK at hq
  split at hq
  · obtain ⟨q', hq', e⟩ := List.mem_map.mp hq
    split at e
    · rw [← e]
      exact h q' hq'
    · rw [← e]
      exact h q' hq'
  · rcases List.mem_append.mp hq with z | z
    · exact h q z
    · rw [List.mem_singleton.mp z]
      exact hk
theorem put_pos {kvs : List (List Key × V)} {k : List Key} {v : V} : 0 < (putK kvs k v).length := by
  unfold putK
  split
  · rename_i h
    cases kvs with
    | nil => simp at h
    | cons a r => simp
  · simp

end

end NC
namespace NC
section
variable {P : Program} {w : World} {K : PySem.W.Frag} {mg : Str → Option Value} {base : Heap}

theorem Go.mutd {s d : Addr} {H H' : Hp} {o : HO} (g : Go s H H') (n : H d = none) (ne : d ≠ s) : Go s H (upd H' d o) := by
  obtain ⟨xs, e, hx⟩ := g.src
  refine ⟨fun b u nb hb => ?_, fun p xs hp => ?_, xs, ?_, hx⟩
  · rw [upd_ne (ne_of_none hb n)]
    exact g.k b u nb hb
  · rw [upd_ne (ne_of_none hp n)]
    exact g.t p xs hp
  · rw [upd_ne (Ne.symm ne)]
    exact e
theorem draw_go {s : Addr} {H0 H : Hp} {m : Int} {Q : VK} {E : XK} (g : Go s H0 H) (h0 : 0 < m) (h1 : m < 1267650600228229401496703205376) (q : ∀ r ys, 0 ≤ r → r < m → SrcL ys → Q (.int r) (upd H s (.lst ys))) : sp_law_next [.ref s, .int m] H Q E := by
  obtain ⟨xs, e, hx⟩ := g.src
  exact ⟨s, m, xs, rfl, e, hx, h0, h1, q⟩
def Sm (x : Int) : Prop := -999000 ≤ x ∧ x ≤ 999000
/-- small sites -/
def SmL (H : Hp) (zs : List V) : Prop := ∀ z ∈ zs, ∃ p x y, z = .ref p ∧ H p = some (.tup [.int x, .int y]) ∧ Sm x ∧ Sm y
theorem SmL.mono {H H' : Hp} {zs : List V} (k : TK H H') (h : SmL H zs) : SmL H' zs := fun z hz => by
  obtain ⟨p, x, y, e, h, b⟩ := h z hz
  exact ⟨p, x, y, e, k _ _ h, b⟩
/-- a display of small sites -/
def Pts (n : Nat) (t : TA) : Prop := ∀ σ H (Q : List V → Hp → Prop), (∀ H' zs, Same H H' → zs.length = n → SmL H' zs → Q zs H') → t σ H Q
theorem Pts.nil : Pts 0 tNil := fun σ H Q q => q H [] (.refl H) rfl (fun _ h => by cases h)
theorem Pts.cons {ex ey : TE} {x y : Int} {n : Nat} {t : TA} (hx : ∀ σ H Q, Q (.int x) H → ex σ H Q) (hy : ∀ σ H Q, Q (.int y) H → ey σ H Q) (bx : Sm x) (by_ : Sm y) (h : Pts n t) : Pts (n + 1) (tCons (tTup (tCons ex (tCons ey tNil))) t) := fun σ H Q q => by
  refine hx σ H _ (hy σ H _ ⟨len_le (n := 2) (by decide), fun p hp => ?_⟩)
  refine h σ _ _ fun H' zs hs hl hz => q H' _ ((same_new hp).trans hs) (congrArg Nat.succ hl) ?_
  intro z hz'
  rcases List.mem_cons.mp hz' with e | e
  · exact ⟨p, x, y, e, hs _ _ upd_same, bx, by_⟩
  · exact hz z e
theorem cI {x : Int} : ∀ (σ : L2.St) (H : Hp) (Q : VK), Q (.int x) H → tC (.int x) σ H Q := fun _ _ _ q => q
theorem cN {x : Int} : ∀ (σ : L2.St) (H : Hp) (Q : VK), Q (.int (-x)) H → tUn (rU fun i => .int (-i)) (tC (.int x)) σ H Q := fun _ _ _ q => ⟨x, rfl, q⟩
/-- the state of the loop that draws sites -/
structure LS (H0 : Hp) (s l d : Addr) (kvs : List (List Key × V)) (H : Hp) : Prop where
  go : Go s H0 H
  rl : ∃ zs, H l = some (.lst zs) ∧ SmL H zs ∧ zs.length = 12
  dd : H d = some (.dT kvs)
  ks : ∀ q ∈ kvs, KeyOk q.1
  nl : H0 l = none ∧ l ≠ s
  nd : H0 d = none ∧ d ≠ s
theorem LS.draw {H0 H : Hp} {s l d : Addr} {kvs : List (List Key × V)} {ys : List V} (h : LS H0 s l d kvs H) (hy : SrcL ys) : LS H0 s l d kvs (upd H s (.lst ys)) := by
  obtain ⟨zs, e1, e2, e3⟩ := h.rl
  obtain ⟨xs, ex, _⟩ := h.go.src
  refine ⟨h.go.draw hy, ⟨zs, ?_, e2.mono (.lst ex), e3⟩, ?_, h.ks, h.nl, h.nd⟩
  · rw [upd_ne h.nl.2]
    exact e1
  · rw [upd_ne h.nd.2]
    exact h.dd
theorem LS.new {H0 H : Hp} {s l d p : Addr} {o : HO} {kvs : List (List Key × V)} (h : LS H0 s l d kvs H) (n : H p = none) : LS H0 s l d kvs (upd H p o) := by
  obtain ⟨zs, e1, e2, e3⟩ := h.rl
  refine ⟨h.go.new n, ⟨zs, ?_, e2.mono (.new n), e3⟩, ?_, h.ks, h.nl, h.nd⟩
  · rw [upd_ne (ne_of_none e1 n)]
    exact e1
  · rw [upd_ne (ne_of_none h.dd n)]
    exact h.dd
theorem LS.tk {H0 H : Hp} {s l d : Addr} {kvs : List (List Key × V)} {ys : List V} (h : LS H0 s l d kvs H) : TK H (upd H s (.lst ys)) := by
  obtain ⟨xs, ex, _⟩ := h.go.src
  exact .lst ex
theorem ok_law_sites (T : Tops K mg) : FnOk P w K mg base CX0 3 (He.ga K "_law_sites") T.fd_law_sites P_law_sites sp_law_sites := by
  refine T.F_law_sites.ok sc_law_sites (fun vs H Q E h => ?_) (fun cdv A outer s H vs Q E hr h => ?_)
  · obtain ⟨s, m, xs, rfl, hs, hx, h0, h1, q⟩ := h
    rfl
  · obtain ⟨s, m, xs, rfl, hs, hx, h0, h1, q⟩ := h
    refine ⟨_, PSs.nox ((pss_cons (ps_set (i := 2) sc_law_sites.nd rfl (.inl rfl) (pe_lst (pa_cons (pe_tup (pa_cons pe_int (pa_cons pe_int pa_nil))) (pa_cons (pe_tup (pa_cons pe_int (pa_cons pe_int pa_nil))) (pa_cons (pe_tup (pa_cons pe_int (pa_cons pe_int pa_nil))) (pa_cons (pe_tup (pa_cons pe_int (pa_cons pe_int pa_nil))) (pa_cons (pe_tup (pa_cons (pe_un un_neg pe_int) (pa_cons pe_int pa_nil))) (pa_cons (pe_tup (pa_cons (pe_un un_neg pe_int) (pa_cons pe_int pa_nil))) (pa_cons (pe_tup (pa_cons (pe_un un_neg pe_int) (pa_cons pe_int pa_nil))) (pa_cons (pe_tup (pa_cons (pe_un un_neg pe_int) (pa_cons (pe_un un_neg pe_int) pa_nil))) pa_nil))))))))))
       (pss_cons (ps_set (i := 2) sc_law_sites.nd rfl (.inl rfl) (pe_op op_cat (pv 2) (pe_lst (pa_cons (pe_tup (pa_cons (pe_un un_neg pe_int) (pa_cons (pe_un un_neg pe_int) pa_nil))) (pa_cons (pe_tup (pa_cons pe_int (pa_cons (pe_un un_neg pe_int) pa_nil))) (pa_cons (pe_tup (pa_cons pe_int (pa_cons (pe_un un_neg pe_int) pa_nil))) (pa_cons (pe_tup (pa_cons pe_int (pa_cons (pe_un un_neg pe_int) pa_nil))) pa_nil)))))))
       (pss_cons (ps_par (i := 3) (j := 4) (by rfl) sc_law_sites.nd rfl rfl (by decide) rfl rfl (pa_cons (pe_call (ok_law_next T) (hr.mono (by decide)) (by rfl) T.g_law_next T.F_law_next.kp (b_law_next T) .nil pass0 (pa_cons (pv 0) (pa_cons pe_int pa_nil))) (pa_cons pe_dnewT pa_nil)) (by rfl))
       (pss_cons (ps_asg (pe_tup (pa_cons (pe_op op_sub (pe_call (ok_law_next T) (hr.mono (by decide)) (by rfl) T.g_law_next T.F_law_next.kp (b_law_next T) .nil pass0 (pa_cons (pv 0) (pa_cons pe_int pa_nil))) pe_int) (pa_cons (pe_op op_sub (pe_call (ok_law_next T) (hr.mono (by decide)) (by rfl) T.g_law_next T.F_law_next.kp (b_law_next T) .nil pass0 (pa_cons (pv 0) (pa_cons pe_int pa_nil))) pe_int) pa_nil))) (pg_tup rfl (pgs_cons (pg_name (i := 5) sc_law_sites.nd rfl (.inr rfl)) (pgs_cons (pg_name (i := 6) sc_law_sites.nd rfl (.inr rfl)) pgs_nil))))
       (pss_cons (ps_for PassesOwn.never rfl (pi_range1 (by rfl) T.m_range (pa_cons (pe_op op_add pe_int (pe_call (ok_law_next T) (hr.mono (by decide)) (by rfl) T.g_law_next T.F_law_next.kp (b_law_next T) .nil pass0 (pa_cons (pv 0) (pa_cons (pv 1) pa_nil)))) pa_nil)) (pg_name (i := 7) sc_law_sites.nd rfl (.inl rfl))
       (pss_cons (ps_set (i := 8) sc_law_sites.nd rfl (.inl rfl) (pe_tup (pa_cons (pe_call (ok_law_next T) (hr.mono (by decide)) (by rfl) T.g_law_next T.F_law_next.kp (b_law_next T) .nil pass0 (pa_cons (pv 0) (pa_cons pe_int pa_nil))) (pa_cons (pe_call (ok_law_next T) (hr.mono (by decide)) (by rfl) T.g_law_next T.F_law_next.kp (b_law_next T) .nil pass0 (pa_cons (pv 0) (pa_cons pe_int pa_nil))) pa_nil))))
       (C8.pss_cut (ps_if (PW.pt (pw_and (pt_cmpR op_eq (pv 3) pe_int (nomark _)) (pw_and1 (pt_cmpR op_gt (pe_call (ok_law_next T) (hr.mono (by decide)) (by rfl) T.g_law_next T.F_law_next.kp (b_law_next T) .nil pass0 (pa_cons (pv 0) (pa_cons pe_int pa_nil))) pe_int (nomark _)))))
       (pss_one (ps_set (i := 8) sc_law_sites.nd rfl (.inl rfl) (pe_call (ok_law_one T) (hr.mono (by decide)) (by rfl) T.g_law_one T.F_law_one.kp (b_law_one T) .nil pass0 (pa_cons (pv 0) (pa_cons (pv 2) pa_nil)))))
       pss_nil)
       (C8.pss_cut (ps_if (pt_cmpR op_eq (pv 3) pe_int (nomark _))
       (pss_one (ps_set (i := 8) sc_law_sites.nd rfl (.inl rfl) (pe_tup (pa_cons (pe_op op_mul (pe_call (ok_law_next T) (hr.mono (by decide)) (by rfl) T.g_law_next T.F_law_next.kp (b_law_next T) .nil pass0 (pa_cons (pv 0) (pa_cons pe_int pa_nil))) pe_int) (pa_cons (pe_op op_mul (pe_call (ok_law_next T) (hr.mono (by decide)) (by rfl) T.g_law_next T.F_law_next.kp (b_law_next T) .nil pass0 (pa_cons (pv 0) (pa_cons pe_int pa_nil))) (pe_call (ok_law_next T) (hr.mono (by decide)) (by rfl) T.g_law_next T.F_law_next.kp (b_law_next T) .nil pass0 (pa_cons (pv 0) (pa_cons pe_int pa_nil)))) pa_nil)))))
       pss_nil)
       (C8.pss_cut (ps_if (pt_cmpR op_eq (pv 3) pe_int (nomark _))
       (pss_one (ps_set (i := 8) sc_law_sites.nd rfl (.inl rfl) (pe_tup (pa_cons (pe_op op_sub (pe_call (ok_law_next T) (hr.mono (by decide)) (by rfl) T.g_law_next T.F_law_next.kp (b_law_next T) .nil pass0 (pa_cons (pv 0) (pa_cons pe_int pa_nil))) pe_int) (pa_cons (pe_op op_sub (pe_call (ok_law_next T) (hr.mono (by decide)) (by rfl) T.g_law_next T.F_law_next.kp (b_law_next T) .nil pass0 (pa_cons (pv 0) (pa_cons pe_int pa_nil))) pe_int) pa_nil)))))
       pss_nil)
       (C8.pss_cut (ps_if (pt_cmpR op_eq (pv 3) pe_int (nomark _))
       (pss_one (ps_set (i := 8) sc_law_sites.nd rfl (.inl rfl) (pe_tup (pa_cons (pe_op op_sub (pe_call (ok_law_next T) (hr.mono (by decide)) (by rfl) T.g_law_next T.F_law_next.kp (b_law_next T) .nil pass0 (pa_cons (pv 0) (pa_cons pe_int pa_nil))) pe_int) (pa_cons (pe_op op_sub (pe_call (ok_law_next T) (hr.mono (by decide)) (by rfl) T.g_law_next T.F_law_next.kp (b_law_next T) .nil pass0 (pa_cons (pv 0) (pa_cons pe_int pa_nil))) pe_int) pa_nil)))))
       pss_nil)
       (pss_one (ps_dput (hu_of hr) (pv 4) (pv 8) pe_bl rfl))))))))
       (pss_one (ps_ret (pe_lock (pe_lc (own := [("_law_x", 9), ("_law_y", 10)]) (g := gTup K 2 (gCons (gName 9) (gCons (gName 10) gNil))) (tt := tYes) rfl sc_law_sites.nd (pi_keys (pv 4)) (blkOk_by (own := [("_law_x", 9), ("_law_y", 10)]) (N := N_law_sites) (sc := defScope (top 29)) (by decide +kernel)) (fun _ _ _ _ _ => (by exact (pg_tup rfl (pgs_cons (pg_name (i := 9) sc_law_sites.nd rfl (.inl rfl)) (pgs_cons (pg_name (i := 10) sc_law_sites.nd rfl (.inl rfl)) pgs_nil))))) (fun _ _ _ _ _ => pts_nil) (fun _ _ _ _ _ => (pe_tup (pa_cons (pe_op op_add (pv 9) (pv 5)) (pa_cons (pe_op op_add (pv 10) (pv 6)) pa_nil)))))))))))))), ?_⟩
    rw [st_law_sites]
    have g0 : Go s H H := ⟨.refl H, .refl H, xs, hs, hx⟩
    refine g_seq (g_asg (g_lst ?_))
    have p8 := Pts.cons (n := 7) (cI (x := 5)) (cI (x := 0)) (by unfold Sm; decide) (by unfold Sm; decide) (Pts.cons (n := 6) (cI (x := 4)) (cI (x := 3)) (by unfold Sm; decide) (by unfold Sm; decide) (Pts.cons (n := 5) (cI (x := 3)) (cI (x := 4)) (by unfold Sm; decide) (by unfold Sm; decide) (Pts.cons (n := 4) (cI (x := 0)) (cI (x := 5)) (by unfold Sm; decide) (by unfold Sm; decide)
      (Pts.cons (n := 3) (cN (x := 3)) (cI (x := 4)) (by unfold Sm; decide) (by unfold Sm; decide) (Pts.cons (n := 2) (cN (x := 4)) (cI (x := 3)) (by unfold Sm; decide) (by unfold Sm; decide) (Pts.cons (n := 1) (cN (x := 5)) (cI (x := 0)) (by unfold Sm; decide) (by unfold Sm; decide) (Pts.cons (n := 0) (cN (x := 4)) (cN (x := 3)) (by unfold Sm; decide) (by unfold Sm; decide) Pts.nil)))))))
    have p4 := Pts.cons (n := 3) (cN (x := 3)) (cN (x := 4)) (by unfold Sm; decide) (by unfold Sm; decide) (Pts.cons (n := 2) (cI (x := 0)) (cN (x := 5)) (by unfold Sm; decide) (by unfold Sm; decide) (Pts.cons (n := 1) (cI (x := 3)) (cN (x := 4)) (by unfold Sm; decide) (by unfold Sm; decide) (Pts.cons (n := 0) (cI (x := 4)) (cN (x := 3)) (by unfold Sm; decide) (by unfold Sm; decide) Pts.nil)))
    refine p8 _ _ _ fun H1 z8 s1 l8 m8 => ?_
    refine ⟨len_le (by omega), fun a1 ha1 => ?_⟩
    refine g_name (g_seq (g_asg (g_op (g_var (v := .ref a1) rfl (g_lst ?_)))))
    refine p4 _ _ _ fun H2 z4 s2 l4 m4 => ?_
    refine ⟨len_le (by omega), fun a2 ha2 => ?_⟩
    have e1 : H2 a1 = some (.lst z8) := s2 _ _ upd_same
    refine ⟨a1, a2, z8, z4, rfl, rfl, by rw [upd_ne (ne_of_none e1 ha2)]; exact e1, upd_same, len_le (by omega), fun l hl => ?_⟩
    have sl : Same H (upd (upd H2 a2 (.lst z4)) l (.lst (z8 ++ z4))) := (((s1.trans (same_new ha1)).trans s2).trans (same_new ha2)).trans (same_new hl)
    have ms : SmL (upd (upd H2 a2 (.lst z4)) l (.lst (z8 ++ z4))) (z8 ++ z4) := by
      intro z hz
      rcases List.mem_append.mp hz with q | q
      · exact ((((m8.mono (.new ha1)).mono (.same s2)).mono (.new ha2)).mono (.new hl)) z q
      · exact ((m4.mono (.new ha2)).mono (.new hl)) z q
    generalize hH3 : upd (upd H2 a2 (.lst z4)) l (.lst (z8 ++ z4)) = H3 at sl ms ⊢
    have el : H3 l = some (.lst (z8 ++ z4)) := by rw [← hH3]; exact upd_same
    have nl : H l = none := ((((s1.trans (same_new ha1)).trans s2).trans (same_new ha2))).free hl
    have g3 : Go s H H3 := ⟨.same sl, .same sl, xs, sl _ _ hs, hx⟩
    walk_at "rd"
    refine draw_go g3 (by decide) (by decide) fun way y1 w0 w1 hy1 => ?_
    have g4 := g3.draw hy1
    walk_at "rd"
    intro d hd
    refine ⟨_, _, rfl, ?_⟩
    have nd : H d = none := by
      cases e : H d with
      | none => rfl
      | some o =>
        by_cases q : d = s
        · rw [q, upd_same] at hd
          cases hd
        · rw [g4.k d o q e] at hd
          cases hd
    have nls : l ≠ s := fun e => by
      rw [e, hs] at nl
      cases nl
    have nds : d ≠ s := fun e => by
      rw [e, upd_same] at hd
      cases hd
    have L1 : LS H s l d [] (upd (upd H3 s (.lst y1)) d (.dT [])) := by
      refine ⟨g4.new hd, ⟨z8 ++ z4, ?_, (ms.mono (.lst (sl _ _ hs))).mono (.new hd), by rw [List.length_append]; omega⟩, upd_same, (fun q h => by cases h), ⟨nl, nls⟩, ⟨nd, nds⟩⟩
      rw [upd_ne (ne_of_none (show (upd H3 s (.lst y1)) l = some (.lst (z8 ++ z4)) by rw [upd_ne nls]; exact el) hd), upd_ne nls]
      exact el
    generalize upd (upd H3 s (.lst y1)) d (.dT []) = H4 at L1 ⊢
    walk_at "rd"
    refine draw_go L1.go (by decide) (by decide) fun u y2 u0 u1 hy2 => ?_
    have L2' := L1.draw hy2
    walk_at "rd"
    refine draw_go L2'.go (by decide) (by decide) fun v y3 v0 v1 hy3 => ?_
    have L3 := L2'.draw hy3
    walk_at "rd"
    refine ⟨len_le (n := 2) (by decide), fun t ht => ?_⟩
    refine g_tupG upd_same rfl ?_
    have L4 := L3.new (o := .tup [.int (u - 1000), .int (v - 1000)]) ht
    walk_at "rd"
    refine draw_go L4.go h0 (by omega) fun r y4 r0 r1 hy4 => ?_
    have L5 := L4.draw hy4
    walk_at "rd"
    refine ⟨1 + r, rfl, by omega, by omega, ?_⟩
    refine for_range (lo := 0) (n := (1 + r).toNat) (fun i σ H' => ∃ kvs y7 y8, σ = [some (.ref s), some (.int m), some (.ref l), some (.int way), some (.ref d), some (.int (u - 1000)), some (.int (v - 1000)), y7, y8, none, none] ∧ LS H s l d kvs H' ∧ kvs.length ≤ i ∧ (0 < i → 0 < kvs.length))
      ⟨[], none, none, rfl, L5, Nat.le_refl _, fun z => absurd z (by decide)⟩ ?_ ?_
    · rintro i σ H' hi ⟨kvs, y7, y8, rfl, S, kl, kn⟩
      walk_at "rd"
      refine draw_go S.go (by decide) (by decide) fun x yx x0 x1 hyx => ?_
      have S1 := S.draw hyx
      walk_at "rd"
      refine draw_go S1.go (by decide) (by decide) fun y yy y0 y1 hyy => ?_
      have S2 := S1.draw hyy
      walk_at "rd"
      refine ⟨len_le (n := 2) (by decide), fun t ht => ?_⟩
      have S3' := S2.new (o := .tup [.int x, .int y]) ht
      generalize hH6 : upd (upd (upd H' s (.lst yx)) s (.lst yy)) t (.tup [.int x, .int y]) = H6 at S3' ⊢
      have et : H6 t = some (.tup [.int x, .int y]) := by rw [← hH6]; exact upd_same
      walk_at "rd"
      -- what holds between the ifs
      let Mid : L2.St → Hp → Prop := fun σ H' => ∃ (t : Addr) (x y : Int), σ = [some (V.ref s), some (.int m), some (.ref l), some (.int way), some (.ref d), some (.int (u - 1000)), some (.int (v - 1000)), some (.int (0 + i)), some (.ref t), none, none] ∧ LS H s l d kvs H' ∧ H' t = some (.tup [.int x, .int y]) ∧ Sm x ∧ Sm y
      have M0 : Mid [some (V.ref s), some (.int m), some (.ref l), some (.int way), some (.ref d), some (.int (u - 1000)), some (.int (v - 1000)), some (.int (0 + i)), some (.ref t), none, none] H6 := ⟨t, x, y, rfl, S3', et, by unfold Sm; omega, by unfold Sm; omega⟩
      -- if way == 1 and next(4) > 0
      refine ⟨Mid, ?_, ?_⟩
      · walk_at "rd"
        refine ite2 (fun h => ?_) (fun h => ?_)
        · walk_at "rd"
          refine draw_go S3'.go (by decide) (by decide) fun z yz z0 z1 hyz => ?_
          have S4 := S3'.draw hyz
          have et4 : (upd H6 s (.lst yz)) t = some (.tup [.int x, .int y]) := S3'.tk _ _ et
          walk_at "rd"
          refine ite2 (fun h => ?_) (fun h => ?_)
          · walk_at "rd"
            obtain ⟨xs5, ex5, hx5⟩ := S4.go.src
            obtain ⟨zs5, ez5, mz5, lz5⟩ := S4.rl
            refine ⟨s, l, xs5, zs5, rfl, ex5, hx5, ez5, Ne.symm nls, by omega, by omega, fun w yw hw hyw => ?_⟩
            obtain ⟨t2, x2, y2, rfl, h2, b1, b2⟩ := mz5 w hw
            exact ⟨t2, x2, y2, rfl, S4.draw hyw, S4.tk _ _ h2, b1, b2⟩
          · exact ⟨t, x, y, rfl, S4, et4, by unfold Sm; omega, by unfold Sm; omega⟩
        · walk_at "rd"
          refine iteF ?_
          exact M0
      rintro σ1 H7 ⟨t, x, y, rfl, S4, et, bx, by_⟩
      refine ⟨Mid, ?_, ?_⟩
      · walk_at "rd"
        refine ite2 (fun h => ?_) (fun h => ?_)
        · walk_at "rd"
          refine draw_go S4.go (by decide) (by decide) fun z1 yz1 z10 z11 hyz1 => ?_
          have S5 := S4.draw hyz1
          walk_at "rd"
          refine draw_go S5.go (by decide) (by decide) fun z2 yz2 z20 z21 hyz2 => ?_
          have S6 := S5.draw hyz2
          walk_at "rd"
          refine draw_go S6.go (by decide) (by decide) fun z3 yz3 z30 z31 hyz3 => ?_
          have S7 := S6.draw hyz3
          walk_at "rd"
          refine ⟨len_le (n := 2) (by decide), fun t2 ht2 => ?_⟩
          have b2 : 0 ≤ z2 * z3 := Int.mul_nonneg z20 z30
          have b3 : z2 * z3 ≤ 8 := by
            rcases (show z3 = 0 ∨ z3 = 1 by omega) with e | e
            · rw [e]; omega
            · rw [e]; omega
          exact ⟨t2, z1 * 3, z2 * z3, rfl, S7.new ht2, upd_same, by unfold Sm; omega, by unfold Sm; omega⟩
        · exact ⟨t, x, y, rfl, S4, et, bx, by_⟩
      rintro σ1 H7 ⟨t, x, y, rfl, S4, et, bx, by_⟩
      refine ⟨Mid, ?_, ?_⟩
      · walk_at "rd"
        refine ite2 (fun h => ?_) (fun h => ?_)
        · walk_at "rd"
          refine draw_go S4.go (by decide) (by decide) fun z1 yz1 z10 z11 hyz1 => ?_
          have S5 := S4.draw hyz1
          walk_at "rd"
          refine draw_go S5.go (by decide) (by decide) fun z2 yz2 z20 z21 hyz2 => ?_
          have S6 := S5.draw hyz2
          walk_at "rd"
          refine ⟨len_le (n := 2) (by decide), fun t2 ht2 => ?_⟩
          exact ⟨t2, z1 - 20, z2 - 20, rfl, S6.new ht2, upd_same, by unfold Sm; omega, by unfold Sm; omega⟩
        · exact ⟨t, x, y, rfl, S4, et, bx, by_⟩
      rintro σ1 H7 ⟨t, x, y, rfl, S4, et, bx, by_⟩
      refine ⟨Mid, ?_, ?_⟩
      · walk_at "rd"
        refine ite2 (fun h => ?_) (fun h => ?_)
        · walk_at "rd"
          refine draw_go S4.go (by decide) (by decide) fun z1 yz1 z10 z11 hyz1 => ?_
          have S5 := S4.draw hyz1
          walk_at "rd"
          refine draw_go S5.go (by decide) (by decide) fun z2 yz2 z20 z21 hyz2 => ?_
          have S6 := S5.draw hyz2
          walk_at "rd"
          refine ⟨len_le (n := 2) (by decide), fun t2 ht2 => ?_⟩
          exact ⟨t2, z1 - 999000, z2 - 999000, rfl, S6.new ht2, upd_same, by unfold Sm; omega, by unfold Sm; omega⟩
        · exact ⟨t, x, y, rfl, S4, et, bx, by_⟩
      rintro σ1 H7 ⟨t, x, y, rfl, S4, et, bx, by_⟩
      -- found[site] = True
      have hlen : kvs.length < 1000 := by omega
      refine ⟨_, rfl, _, rfl, d, _, rfl, DPut.t (k := [.inl x, .inl y]) S4.dd et (len_lt (by omega)), ?_⟩
      obtain ⟨zs7, ez7, mz7, lz7⟩ := S4.rl
      refine ⟨putK kvs [.inl x, .inl y] (.bl true), _, _, rfl, ⟨S4.go.mutd nd nds, ⟨zs7, ?_, mz7.mono ?_, lz7⟩, upd_same, put_keys S4.ks ⟨x, y, rfl, bx, by_⟩, S4.nl, S4.nd⟩, ?_, fun _ => put_pos⟩
      · rw [upd_ne (ne_of ez7 S4.dd (fun z => by cases z))]
        exact ez7
      · intro p xs hp
        rw [upd_ne (ne_of hp S4.dd (fun z => by cases z))]
        exact hp
      · exact Nat.le_trans (length_putK _ _ _) (by omega)
    · rintro σ H' ⟨kvs, y7, y8, rfl, S, kl, kn⟩
      have kn2 : 0 < kvs.length := kn (by omega)
      walk_at "rd"
      -- the list of the keys, moved
      refine ⟨d, _, S.dd, trivial, fun od => ?_⟩
      walk_at "rd"
      refine ⟨d, od, rfl, .inr ⟨kvs, upd_same, fun D hD => ?_⟩⟩
      have lk : TK H' (upd H' d (.frz od (.dT kvs))) := fun p xs hp => by
        rw [upd_ne (ne_of hp S.dd (fun z => by cases z))]
        exact hp
      have nDd : D ≠ d := fun e => by
        rw [e, upd_same] at hD
        cases hD
      have nD' : H' D = none := by rw [← hD, upd_ne nDd]
      have nDs : D ≠ s := fun e => by
        obtain ⟨xs5, ex5, _⟩ := S.go.src
        rw [e, ex5] at nD'
        cases nD'
      have nD : H D = none := by
        cases e : H D with
        | none => rfl
        | some o =>
          rw [S.go.k D o nDs e] at nD'
          cases nD'
      refine lc_keysT (fun i H5 => H5 d = some (.frz od (.dT kvs)) ∧ Go s H H5 ∧ ∃ zs, H5 D = some (.lst zs) ∧ zs.length = i ∧ ∀ z ∈ zs, ∃ p x y, z = .ref p ∧ H5 p = some (.tup [.int x, .int y]) ∧ Bd x ∧ Bd y)
        ⟨?_, ?_, [], upd_same, rfl, fun z hz => by cases hz⟩ (fun i H5 _ h => h.1) ?_ ?_
      · rw [upd_ne (Ne.symm nDd), upd_same]
      · exact (S.go.mutd nd nds).mutd nD nDs
      · rintro i k v0 q5 H5 hk hq ⟨h5d, g5, zs, e5, l5, m5⟩
        obtain ⟨x, y, rfl, bx, by_⟩ := S.ks _ (List.mem_of_getElem? hk)
        have hi5 : i < kvs.length := (List.getElem?_eq_some_iff.mp hk).1
        have hq' : H5 q5 = some (.tup [.int x, .int y]) := hq
        refine g_tupG hq' rfl ?_
        walk_at "rd"
        refine ⟨rfl, ?_⟩
        walk_at "rd"
        refine iteT ?_
        walk_at "rd"
        refine ⟨len_le (n := 2) (by decide), fun t5 ht5 => ?_⟩
        have nt : D ≠ t5 := ne_of_none e5 ht5
        refine ⟨zs, by rw [upd_ne nt]; exact e5, len_lt (by omega), ?_, (g5.new ht5).mutd nD nDs, zs ++ [.ref t5], upd_same, by simp [l5], ?_⟩
        · rw [upd_ne (Ne.symm nDd), upd_ne (ne_of_none h5d ht5)]
          exact h5d
        · intro z hz
          rcases List.mem_append.mp hz with hz | hz
          · obtain ⟨p, x1, y1, e1, e2, e3⟩ := m5 z hz
            refine ⟨p, x1, y1, e1, ?_, e3⟩
            rw [upd_ne (ne_of e2 e5 (fun z => by cases z)), upd_ne (ne_of_none e2 ht5)]
            exact e2
          · rw [List.mem_singleton.mp hz]
            refine ⟨t5, x + (u - 1000), y + (v - 1000), rfl, ?_, ?_, ?_⟩
            · rw [upd_ne (Ne.symm nt), upd_same]
            · unfold Bd; omega
            · unfold Bd; omega
      · rintro H5 ⟨h5d, g5, zs, e5, l5, m5⟩
        refine ⟨h5d, ?_⟩
        refine q _ D zs (g5.mutd nd nds) nD (by rw [upd_ne nDd]; exact e5) ⟨by omega, by omega, fun z hz => ?_⟩
        obtain ⟨p, x1, y1, e1, e2, e3⟩ := m5 z hz
        refine ⟨p, x1, y1, e1, ?_, e3⟩
        rw [upd_ne (ne_of e2 h5d (fun z => by cases z))]
        exact e2

end

end NC
namespace NC
section
variable {P : Program} {w : World} {K : PySem.W.Frag} {mg : Str → Option Value} {base : Heap}

/-- the power of d and the circle through a, b, c -/
def powZ (ax ay bx by_ cx cy dx dy : Int) : Int := ((ax - dx) * (ax - dx) + (ay - dy) * (ay - dy)) * ((bx - dx) * (cy - dy) - (cx - dx) * (by_ - dy)) - ((bx - dx) * (bx - dx) + (by_ - dy) * (by_ - dy)) * ((ax - dx) * (cy - dy) - (cx - dx) * (ay - dy)) + ((cx - dx) * (cx - dx) + (cy - dy) * (cy - dy)) * ((ax - dx) * (by_ - dy) - (bx - dx) * (ay - dy))
/-- four sites -/
structure S4 (H : Hp) (pa pb pc pd : Addr) (ax ay bx by_ cx cy dx dy : Int) : Prop where
  s : S3 H pa pb pc ax ay bx by_ cx cy
  d : H pd = some (.tup [.int dx, .int dy])
  bd : Bd dx ∧ Bd dy
theorem S4.mono {H H' : Hp} {pa pb pc pd : Addr} {ax ay bx by_ cx cy dx dy : Int} (k : TK H H') (h : S4 H pa pb pc pd ax ay bx by_ cx cy dx dy) : S4 H' pa pb pc pd ax ay bx by_ cx cy dx dy := ⟨h.s.mono k, k _ _ h.d, h.bd⟩
def sp_power : Sp := fun vs H Q _ => ∃ pa pb pc pd ax ay bx by_ cx cy dx dy, vs = [.ref pa, .ref pb, .ref pc, .ref pd] ∧ S4 H pa pb pc pd ax ay bx by_ cx cy dx dy ∧ ∀ H', Same H H' → Q (.int (powZ ax ay bx by_ cx cy dx dy)) H'
theorem sqb {x : Int} (h : -2000000 ≤ x ∧ x ≤ 2000000) : 0 ≤ x * x ∧ x * x ≤ 4000000000000 := by
  have h1 : 0 ≤ (2000000 - x) * (2000000 + x) := Int.mul_nonneg (by omega) (by omega)
  have h2 : (2000000 - x) * (2000000 + x) = 4000000000000 - x * x := by grind
  rcases (show 0 ≤ x ∨ x ≤ 0 by omega) with h | h
  · exact ⟨Int.mul_nonneg h h, by omega⟩
  · exact ⟨Int.mul_nonneg_of_nonpos_of_nonpos h h, by omega⟩
theorem ok_power (T : Tops K mg) : FnOk P w K mg base CX0 1 (He.ga K "power") T.fd_power P_power sp_power := by
  refine T.F_power.ok sc_power (fun vs H Q E h => ?_) (fun cdv A outer s H vs Q E hr h => ?_)
  · obtain ⟨pa, pb, pc, pd, ax, ay, bx, by_, cx, cy, dx, dy, rfl, S, q⟩ := h
    rfl
  · obtain ⟨pa, pb, pc, pd, ax, ay, bx, by_, cx, cy, dx, dy, rfl, S, q⟩ := h
    refine ⟨_, PSs.nox ((pss_cons (ps_setLc (i := 4) (own := [("one", 12)]) (g := gName 12) (tt := tYes) rfl sc_power.nd rfl rfl (sw_true rfl rfl rfl (by decide +kernel)) (pi_tupK K (pe_tup (pa_cons (pv 0) (pa_cons (pv 1) (pa_cons (pv 2) pa_nil))))) (blkOk_by (own := [("one", 12)]) (N := N_power) (sc := defScope (top 17)) (by decide +kernel)) (fun _ _ _ _ _ => (pg_name (i := 12) sc_power.nd rfl (.inl rfl))) (fun _ _ _ _ _ => pts_nil) (fun _ _ _ _ _ => (pe_tup (pa_cons (pe_op op_sub (pe_ix (ix_tupK K) (pv 12) pe_int (fun _ _ => rfl)) (pe_ix (ix_tupK K) (pv 3) pe_int (fun _ _ => rfl))) (pa_cons (pe_op op_sub (pe_ix (ix_tupK K) (pv 12) pe_int (fun _ _ => rfl)) (pe_ix (ix_tupK K) (pv 3) pe_int (fun _ _ => rfl))) pa_nil)))))
       (pss_cons (ps_asg (pv 4) (pg_unl rfl (pgs_cons (pg_tup rfl (pgs_cons (pg_name (i := 5) sc_power.nd rfl (.inl rfl)) (pgs_cons (pg_name (i := 6) sc_power.nd rfl (.inl rfl)) pgs_nil))) (pgs_cons (pg_tup rfl (pgs_cons (pg_name (i := 7) sc_power.nd rfl (.inl rfl)) (pgs_cons (pg_name (i := 8) sc_power.nd rfl (.inl rfl)) pgs_nil))) (pgs_cons (pg_tup rfl (pgs_cons (pg_name (i := 9) sc_power.nd rfl (.inl rfl)) (pgs_cons (pg_name (i := 10) sc_power.nd rfl (.inl rfl)) pgs_nil))) pgs_nil)))))
       (pss_cons (ps_setLc (i := 11) (own := [("x", 13), ("y", 14)]) (g := gTup K 2 (gCons (gName 13) (gCons (gName 14) gNil))) (tt := tYes) rfl sc_power.nd rfl rfl (sw_true rfl rfl rfl (by decide +kernel)) (pi_listK K (pv 4)) (blkOk_by (own := [("x", 13), ("y", 14)]) (N := N_power) (sc := defScope (top 17)) (by decide +kernel)) (fun _ _ _ _ _ => (by exact (pg_tup rfl (pgs_cons (pg_name (i := 13) sc_power.nd rfl (.inl rfl)) (pgs_cons (pg_name (i := 14) sc_power.nd rfl (.inl rfl)) pgs_nil))))) (fun _ _ _ _ _ => pts_nil) (fun _ _ _ _ _ => (pe_op op_add (pe_op op_mul (pv 13) (pv 13)) (pe_op op_mul (pv 14) (pv 14)))))
       (pss_one (ps_ret (pe_op op_add (pe_op op_sub (pe_op op_mul (pe_ix (ix_listK K) (pv 11) pe_int (fun _ _ => rfl)) (pe_op op_sub (pe_op op_mul (pv 7) (pv 10)) (pe_op op_mul (pv 9) (pv 8)))) (pe_op op_mul (pe_ix (ix_listK K) (pv 11) pe_int (fun _ _ => rfl)) (pe_op op_sub (pe_op op_mul (pv 5) (pv 10)) (pe_op op_mul (pv 9) (pv 6))))) (pe_op op_mul (pe_ix (ix_listK K) (pv 11) pe_int (fun _ _ => rfl)) (pe_op op_sub (pe_op op_mul (pv 5) (pv 8)) (pe_op op_mul (pv 7) (pv 6))))))))))), ?_⟩
    rw [st_power]
    obtain ⟨⟨ha, hb, hc, hd⟩, hdd, hb4⟩ := id S
    unfold Bd at hd hb4
    refine g_seq (g_asg (g_lc (g_itup ?_)))
    walk_at "rd"
    refine ⟨len_le (n := 3) (by decide), fun t0 ht0 => ?_⟩
    have s0 : Same H (upd H t0 (.tup [.ref pa, .ref pb, .ref pc])) := same_new ht0
    generalize hH0 : upd H t0 (.tup [.ref pa, .ref pb, .ref pc]) = H0 at s0 ⊢
    have e0 : H0 t0 = some (.tup [.ref pa, .ref pb, .ref pc]) := by rw [← hH0]; exact upd_same
    refine ⟨t0, rfl, ⟨_, SqT.of e0⟩, fun D hD => ?_⟩
    refine lc_tup (K := K) (a := t0) (xs := [.ref pa, .ref pb, .ref pc]) (fun i H' => Same H0 H' ∧ ∃ qs : List Addr, H' D = some (.lst (qs.map V.ref)) ∧ qs.length = i ∧ ∀ (j : Nat) (q : Addr) (z : Int × Int), qs[j]? = some q → ([(ax, ay), (bx, by_), (cx, cy)] : List (Int × Int))[j]? = some z → H' q = some (.tup [.int (z.1 - dx), .int (z.2 - dy)]))
      ⟨same_new hD, [], upd_same, rfl, fun j q z h => by cases h⟩ (fun i H' _ h => SqT.of (h.1 _ _ e0)) ?_ ?_
    · rintro i z H' hz ⟨hs, qs, e1, e2, e3⟩
      have hzz : ∃ (pz : Addr) (zx zy : Int), z = .ref pz ∧ H' pz = some (.tup [.int zx, .int zy]) ∧ ([(ax, ay), (bx, by_), (cx, cy)] : List (Int × Int))[i]? = some (zx, zy) ∧ i < 3 := by
        match i, hz with
        | 0, hz => exact ⟨pa, ax, ay, (Option.some.inj hz).symm, hs _ _ (s0 _ _ ha), rfl, by decide⟩
        | 1, hz => exact ⟨pb, bx, by_, (Option.some.inj hz).symm, hs _ _ (s0 _ _ hb), rfl, by decide⟩
        | 2, hz => exact ⟨pc, cx, cy, (Option.some.inj hz).symm, hs _ _ (s0 _ _ hc), rfl, by decide⟩
      obtain ⟨pz, zx, zy, rfl, hpz, hix, hi⟩ := hzz
      have hd' : H' pd = some (.tup [.int dx, .int dy]) := hs _ _ (s0 _ _ hdd)
      walk_at "rd"
      refine ⟨rfl, ?_⟩
      walk_at "rd"
      refine iteT ?_
      walk_at "rd"
      refine ⟨len_le (n := 2) (by decide), fun q hq => ?_⟩
      have nq : D ≠ q := ne_of_none e1 hq
      have hs2 : Same H0 (upd (upd H' q (.tup [.int (zx - dx), .int (zy - dy)])) D (.lst ((qs ++ [q]).map V.ref))) := fun b o hb => by
        rw [upd_ne (ne_of_none hb hD), upd_ne (ne_of_none (hs _ _ hb) hq)]
        exact hs _ _ hb
      refine ⟨qs.map V.ref, by rw [upd_ne nq]; exact e1, len_lt (by rw [List.length_map]; omega), ?_⟩
      have em : qs.map V.ref ++ [V.ref q] = (qs ++ [q]).map V.ref := by simp
      rw [em]
      refine ⟨hs2, qs ++ [q], upd_same, by simp [e2], fun j r z hj hz => ?_⟩
      by_cases hji : j < qs.length
      · rw [List.getElem?_append_left hji] at hj
        have := e3 j r z hj hz
        rw [upd_ne (ne_of this e1 (fun z => by cases z)), upd_ne (ne_of_none this hq)]
        exact this
      · rw [List.getElem?_append_right (by omega)] at hj
        have hj0 : j - qs.length = 0 := by
          cases hjj : j - qs.length with
          | zero => rfl
          | succ n => rw [hjj] at hj; simp at hj
        rw [hj0] at hj
        have er : q = r := Option.some.inj hj
        have ej : j = i := by omega
        rw [ej, hix] at hz
        have ez : (zx, zy) = z := Option.some.inj hz
        rw [← er, ← ez, upd_ne (Ne.symm nq), upd_same]
    · rintro H1 ⟨hs, qs, e1, e2, e3⟩
      obtain ⟨q1, q2, q3, rfl⟩ : ∃ q1 q2 q3, qs = [q1, q2, q3] := by
        match qs, e2 with
        | [q1, q2, q3], _ => exact ⟨q1, q2, q3, rfl⟩
      have f1 : H1 q1 = some (.tup [.int (ax - dx), .int (ay - dy)]) := e3 0 q1 (ax, ay) rfl rfl
      have f2 : H1 q2 = some (.tup [.int (bx - dx), .int (by_ - dy)]) := e3 1 q2 (bx, by_) rfl rfl
      have f3 : H1 q3 = some (.tup [.int (cx - dx), .int (cy - dy)]) := e3 2 q3 (cx, cy) rfl rfl
      have e1' : H1 D = some (.lst [.ref q1, .ref q2, .ref q3]) := e1
      have c1 : -2000000 ≤ ax - dx ∧ ax - dx ≤ 2000000 := by omega
      have c2 : -2000000 ≤ ay - dy ∧ ay - dy ≤ 2000000 := by omega
      have c3 : -2000000 ≤ bx - dx ∧ bx - dx ≤ 2000000 := by omega
      have c4 : -2000000 ≤ by_ - dy ∧ by_ - dy ≤ 2000000 := by omega
      have c5 : -2000000 ≤ cx - dx ∧ cx - dx ≤ 2000000 := by omega
      have c6 : -2000000 ≤ cy - dy ∧ cy - dy ≤ 2000000 := by omega
      unfold powZ at q
      clear e3 hd hb4 S ha hb hc hdd
      generalize ax - dx = x1 at *
      generalize ay - dy = y1 at *
      generalize bx - dx = x2 at *
      generalize by_ - dy = y2 at *
      generalize cx - dx = x3 at *
      generalize cy - dy = y3 at *
      walk_at "rd"
      walk_at "nm"
      refine ⟨D, rfl, ⟨_, SqL.of e1'⟩, fun D2 hD2 => ?_⟩
      refine lc_list (K := K) (a := D) (xs := [.ref q1, .ref q2, .ref q3]) (fun i H' => Same H1 H' ∧ H' D2 = some (.lst ((([x1 * x1 + y1 * y1, x2 * x2 + y2 * y2, x3 * x3 + y3 * y3] : List Int).take i).map V.int)))
        ⟨same_new hD2, upd_same⟩ (fun i H' _ h => SqL.of (h.1 _ _ e1')) ?_ ?_
      · rintro i z H' hz ⟨hs2, el⟩
        obtain ⟨r, x, y, rfl, hr2, bx1, by1, hi, hl⟩ : ∃ (r : Addr) (x y : Int), z = .ref r ∧ H' r = some (.tup [.int x, .int y]) ∧ (-2000000 ≤ x ∧ x ≤ 2000000) ∧ (-2000000 ≤ y ∧ y ≤ 2000000) ∧ i < 3 ∧ ([x1 * x1 + y1 * y1, x2 * x2 + y2 * y2, x3 * x3 + y3 * y3] : List Int)[i]? = some (x * x + y * y) := by
          match i, hz with
          | 0, hz => exact ⟨q1, _, _, (Option.some.inj hz).symm, hs2 _ _ f1, by omega, by omega, by decide, rfl⟩
          | 1, hz => exact ⟨q2, _, _, (Option.some.inj hz).symm, hs2 _ _ f2, by omega, by omega, by decide, rfl⟩
          | 2, hz => exact ⟨q3, _, _, (Option.some.inj hz).symm, hs2 _ _ f3, by omega, by omega, by decide, rfl⟩
        walk_at "rd"
        refine ⟨rfl, ?_⟩
        walk_at "rd"
        refine iteT ?_
        walk_at "rd"
        refine ⟨_, el, len_lt (by rw [List.length_map, List.length_take]; omega), ?_, ?_⟩
        · intro b o hb
          rw [upd_ne (ne_of_none hb hD2)]
          exact hs2 _ _ hb
        · rw [upd_same, List.take_add_one, hl, List.map_append]
          rfl
      · rintro H2 ⟨hs2, el⟩
        have el' : H2 D2 = some (.lst [.int (x1 * x1 + y1 * y1), .int (x2 * x2 + y2 * y2), .int (x3 * x3 + y3 * y3)]) := el
        have k1 := sqb c1
        have k2 := sqb c2
        have k3 := sqb c3
        have k4 := sqb c4
        have k5 := sqb c5
        have k6 := sqb c6
        walk_at "rd"
        exact q H2 (((s0.trans hs)).trans hs2)

theorem pw_l (x : Int) : (-1 ≤ sgn x ∧ sgn x ≤ 1) := by
  rcases (show x < 0 ∨ x = 0 ∨ 0 < x by omega) with h | h | h
  · rw [sgn_neg h]; omega
  · rw [sgn_zero h]; omega
  · rw [sgn_pos h]; omega
def sp_inside : Sp := fun vs H Q _ => ∃ pa pb pc pd ax ay bx by_ cx cy dx dy, vs = [.ref pa, .ref pb, .ref pc, .ref pd] ∧ S4 H pa pb pc pd ax ay bx by_ cx cy dx dy ∧ ∀ H', Same H H' → Q (.int (sgn (powZ ax ay bx by_ cx cy dx dy) * sgn (turnZ ax ay bx by_ cx cy))) H'
theorem ok_inside (T : Tops K mg) : FnOk P w K mg base CX0 2 (He.ga K "inside") T.fd_inside P_inside sp_inside := by
  refine T.F_inside.ok sc_inside (fun vs H Q E h => ?_) (fun cdv A outer s H vs Q E hr h => ?_)
  · obtain ⟨pa, pb, pc, pd, ax, ay, bx, by_, cx, cy, dx, dy, rfl, S, q⟩ := h
    rfl
  · obtain ⟨pa, pb, pc, pd, ax, ay, bx, by_, cx, cy, dx, dy, rfl, S, q⟩ := h
    refine ⟨_, PSs.nox ((pss_one (ps_ret (pe_op op_mul (pe_call (ok_sign T) (hr.mono (by decide)) (by rfl) T.g_sign T.F_sign.kp (b_sign T) .nil pass0 (pa_cons (pe_call (ok_power T) (hr.mono (by decide)) (by rfl) T.g_power T.F_power.kp (b_power T) .nil pass0 (pa_cons (pv 0) (pa_cons (pv 1) (pa_cons (pv 2) (pa_cons (pv 3) pa_nil))))) pa_nil)) (pe_call (ok_sign T) (hr.mono (by decide)) (by rfl) T.g_sign T.F_sign.kp (b_sign T) .nil pass0 (pa_cons (pe_call (ok_turn T) (hr.mono (by decide)) (by rfl) T.g_turn T.F_turn.kp (b_turn T) .nil pass0 (pa_cons (pv 0) (pa_cons (pv 1) (pa_cons (pv 2) pa_nil)))) pa_nil)))))), ?_⟩
    rw [st_inside]
    walk_at "rd"
    refine ⟨pa, pb, pc, pd, ax, ay, bx, by_, cx, cy, dx, dy, rfl, S, fun H1 h1 => ?_⟩
    walk_at "rd"
    refine ⟨_, rfl, ?_⟩
    walk_at "rd"
    refine ⟨pa, pb, pc, ax, ay, bx, by_, cx, cy, rfl, S.s.mono (.same h1), ?_⟩
    walk_at "rd"
    refine ⟨_, rfl, ?_⟩
    have b1 := pw_l (powZ ax ay bx by_ cx cy dx dy)
    walk_at "rd"
    exact q H1 h1

def sp_check_circle : Sp := fun vs H Q _ => ∃ pa pb pc ax ay bx by_ cx cy, vs = [.ref pa, .ref pb, .ref pc] ∧ S3 H pa pb pc ax ay bx by_ cx cy ∧ ∀ H', Same H H' → Q .non H'
theorem ok_check_circle (T : Tops K mg) : FnOk P w K mg base CX0 5 (He.ga K "check_circle") T.fd_check_circle P_check_circle sp_check_circle := by
  refine T.F_check_circle.ok sc_check_circle (fun vs H Q E h => ?_) (fun cdv A outer s H vs Q E hr h => ?_)
  · obtain ⟨pa, pb, pc, ax, ay, bx, by_, cx, cy, rfl, S, q⟩ := h
    rfl
  · obtain ⟨pa, pb, pc, ax, ay, bx, by_, cx, cy, rfl, S, q⟩ := h
    refine ⟨_, PSs.nox ((pss_cons (ps_expr (pe_call (ok_check_site T) (hr.mono (by decide)) (by rfl) T.g_check_site T.F_check_site.kp (b_check_site T) .nil pass0 (pa_cons pe_str (pa_cons (pv 0) pa_nil))))
       (pss_cons (ps_expr (pe_call (ok_check_site T) (hr.mono (by decide)) (by rfl) T.g_check_site T.F_check_site.kp (b_check_site T) .nil pass0 (pa_cons pe_str (pa_cons (pv 1) pa_nil))))
       (pss_one (ps_expr (pe_call (ok_check_site T) (hr.mono (by decide)) (by rfl) T.g_check_site T.F_check_site.kp (b_check_site T) .nil pass0 (pa_cons pe_str (pa_cons (pv 2) pa_nil)))))))), ?_⟩
    rw [st_check_circle]
    obtain ⟨ha, hb, hc, ⟨ba1, ba2⟩, ⟨bb1, bb2⟩, ⟨bc1, bc2⟩⟩ := id S
    walk_at "rd"
    refine ⟨_, pa, ax, ay, rfl, ha, ba1, ba2, fun H1 h1 => ?_⟩
    walk_at "rd"
    refine ⟨_, pb, bx, by_, rfl, h1 _ _ hb, bb1, bb2, fun H2 h2 => ?_⟩
    have h12 := h1.trans h2
    walk_at "rd"
    refine ⟨_, pc, cx, cy, rfl, h12 _ _ hc, bc1, bc2, fun H3 h3 => ?_⟩
    exact q H3 (h12.trans h3)

def sp_in_circle : Sp := fun vs H Q _ => ∃ pa pb pc pd ax ay bx by_ cx cy dx dy, vs = [.ref pa, .ref pb, .ref pc, .ref pd] ∧ S4 H pa pb pc pd ax ay bx by_ cx cy dx dy ∧ turnZ ax ay bx by_ cx cy ≠ 0 ∧ ∀ H', Same H H' → Q (.int (sgn (powZ ax ay bx by_ cx cy dx dy) * sgn (turnZ ax ay bx by_ cx cy))) H'
theorem ok_in_circle (T : Tops K mg) : FnOk P w K mg base CX0 6 (He.ga K "in_circle") T.fd_in_circle P_in_circle sp_in_circle := by
  refine T.F_in_circle.ok sc_in_circle (fun vs H Q E h => ?_) (fun cdv A outer s H vs Q E hr h => ?_)
  · obtain ⟨pa, pb, pc, pd, ax, ay, bx, by_, cx, cy, dx, dy, rfl, S, ht, q⟩ := h
    rfl
  · obtain ⟨pa, pb, pc, pd, ax, ay, bx, by_, cx, cy, dx, dy, rfl, S, ht, q⟩ := h
    refine ⟨_, PSs.nox ((pss_cons (ps_expr (pe_call (ok_check_circle T) (hr.mono (by decide)) (by rfl) T.g_check_circle T.F_check_circle.kp (b_check_circle T) .nil pass0 (pa_cons (pv 0) (pa_cons (pv 1) (pa_cons (pv 2) pa_nil)))))
       (pss_cons (ps_expr (pe_call (ok_check_site T) (hr.mono (by decide)) (by rfl) T.g_check_site T.F_check_site.kp (b_check_site T) .nil pass0 (pa_cons pe_str (pa_cons (pv 3) pa_nil))))
       (pss_cons (ps_if (pt_cmpR op_eq (pe_call (ok_turn T) (hr.mono (by decide)) (by rfl) T.g_turn T.F_turn.kp (b_turn T) .nil pass0 (pa_cons (pv 0) (pa_cons (pv 1) (pa_cons (pv 2) pa_nil)))) pe_int (nomark _))
       (pss_one ps_never)
       pss_nil)
       (pss_one (ps_ret (pe_call (ok_inside T) (hr.mono (by decide)) (by rfl) T.g_inside T.F_inside.kp (b_inside T) .nil pass0 (pa_cons (pv 0) (pa_cons (pv 1) (pa_cons (pv 2) (pa_cons (pv 3) pa_nil))))))))))), ?_⟩
    rw [st_in_circle]
    walk_at "rd"
    refine ⟨pa, pb, pc, ax, ay, bx, by_, cx, cy, rfl, S.s, fun H1 h1 => ?_⟩
    walk_at "rd"
    refine ⟨_, pd, dx, dy, rfl, h1 _ _ S.d, S.bd.1, S.bd.2, fun H2 h2 => ?_⟩
    have h12 := h1.trans h2
    walk_at "rd"
    refine ⟨pa, pb, pc, ax, ay, bx, by_, cx, cy, rfl, S.s.mono (.same h12), ?_⟩
    walk_at "rd"
    rw [decide_eq_false ht]
    refine iteF ?_
    walk_at "rd"
    refine ⟨pa, pb, pc, pd, ax, ay, bx, by_, cx, cy, dx, dy, rfl, S.mono (.same h12), fun H3 h3 => ?_⟩
    exact q H3 (h12.trans h3)

end

end NC
namespace NC
section
variable {P : Program} {w : World} {K : PySem.W.Frag} {mg : Str → Option Value} {base : Heap}
/-- the greatest common divisor as an int -/
def gZ (a b : Int) : Int := (Int.gcd a b : Int)
def plG (x y d : Int) : Int := gZ (gZ x y) d * (if 0 < d then 1 else -1)
theorem gZ_nn (a b : Int) : 0 ≤ gZ a b := Int.natCast_nonneg _
theorem gZ_pos {a b : Int} (h : b ≠ 0) : 0 < gZ a b := by
  unfold gZ
  have : 0 < Int.gcd a b := Int.gcd_pos_of_ne_zero_right a h
  omega
/-- a place: its three numbers in lowest terms -/
theorem place_low {x y d : Int} (hd : d ≠ 0) : ∃ x' y' d' : Int, x = plG x y d * x' ∧ y = plG x y d * y' ∧ d = plG x y d * d' ∧ 0 < d' ∧ gZ (gZ x' y') d' = 1 ∧ plG x y d ≠ 0 ∧
    x.fdiv (plG x y d) = x' ∧ y.fdiv (plG x y d) = y' ∧ d.fdiv (plG x y d) = d' ∧ x'.natAbs ≤ x.natAbs ∧ y'.natAbs ≤ y.natAbs ∧ d'.natAbs ≤ d.natAbs := by
  have g0 : 0 < gZ (gZ x y) d := gZ_pos hd
  have hs : (if 0 < d then (1 : Int) else -1) * (if 0 < d then (1 : Int) else -1) = 1 := by split <;> rfl
  have gne : plG x y d ≠ 0 := by
    unfold plG
    split <;> omega
  have dx : gZ (gZ x y) d ∣ x := Int.dvd_trans (Int.gcd_dvd_left (gZ x y) d) (Int.gcd_dvd_left x y)
  have dy : gZ (gZ x y) d ∣ y := Int.dvd_trans (Int.gcd_dvd_left (gZ x y) d) (Int.gcd_dvd_right x y)
  have dd : gZ (gZ x y) d ∣ d := Int.gcd_dvd_right (gZ x y) d
  have dv : ∀ z, gZ (gZ x y) d ∣ z → ∃ z', z = plG x y d * z' := fun z ⟨w, e⟩ => by
    refine ⟨(if 0 < d then (1 : Int) else -1) * w, ?_⟩
    unfold plG
    rw [e]
    have : gZ (gZ x y) d * (if 0 < d then (1 : Int) else -1) * ((if 0 < d then (1 : Int) else -1) * w) = gZ (gZ x y) d * ((if 0 < d then (1 : Int) else -1) * (if 0 < d then (1 : Int) else -1)) * w := by
      generalize (if 0 < d then (1 : Int) else -1) = t
      grind
    rw [this, hs]
    grind
  obtain ⟨x', ex⟩ := dv x dx
  obtain ⟨y', ey⟩ := dv y dy
  obtain ⟨d', ed⟩ := dv d dd
  have nb : (plG x y d).natAbs = (gZ (gZ x y) d).natAbs := by
    unfold plG
    rw [Int.natAbs_mul]
    split <;> simp
  have hd' : 0 < d' := by
    have e2 : gZ (gZ x y) d * (if 0 < d then (1 : Int) else -1) * d' = d := by
      have := ed.symm
      unfold plG at this
      exact this
    by_cases h : 0 < d
    · rw [if_pos h] at e2
      refine Int.not_le.mp fun z => ?_
      have : gZ (gZ x y) d * 1 * d' ≤ 0 := Int.mul_nonpos_of_nonneg_of_nonpos (by omega) z
      omega
    · rw [if_neg h] at e2
      refine Int.not_le.mp fun z => ?_
      have : 0 ≤ gZ (gZ x y) d * -1 * d' := Int.mul_nonneg_of_nonpos_of_nonpos (by omega) z
      omega
  have low : gZ (gZ x' y') d' = 1 := by
    have e1 : Int.gcd x y = (plG x y d).natAbs * Int.gcd x' y' := by
      have h := Int.gcd_mul_left (plG x y d) x' y'
      rw [← ex, ← ey] at h
      exact h
    have e2 : Int.gcd (gZ x y) d = (plG x y d).natAbs * Int.gcd (gZ x' y') d' := by
      have e3 : gZ x y = ((plG x y d).natAbs : Int) * gZ x' y' := by
        unfold gZ
        rw [e1]
        exact Int.natCast_mul _ _
      have e4 : Int.gcd (((plG x y d).natAbs : Int) * gZ x' y') d = Int.gcd (plG x y d * gZ x' y') d := by
        rw [Int.gcd_eq_natAbs_gcd_natAbs, Int.gcd_eq_natAbs_gcd_natAbs, Int.natAbs_mul, Int.natAbs_mul, Int.natAbs_natCast]
      rw [e3, e4]
      have h := Int.gcd_mul_left (plG x y d) (gZ x' y') d'
      rw [← ed] at h
      exact h
    have e5 : (gZ (gZ x y) d).natAbs = Int.gcd (gZ x y) d := by
      show ((Int.gcd (gZ x y) d : Int)).natAbs = _
      simp
    rw [nb, e5] at e2
    have p : 0 < Int.gcd (gZ x y) d := by
      have := g0
      unfold gZ at this
      unfold gZ
      omega
    have e6 : Int.gcd (gZ x' y') d' = 1 := by
      have : Int.gcd (gZ x y) d * 1 = Int.gcd (gZ x y) d * Int.gcd (gZ x' y') d' := by omega
      exact (Nat.eq_of_mul_eq_mul_left p this).symm
    show ((Int.gcd (gZ x' y') d' : Nat) : Int) = 1
    rw [e6]
    rfl
  have fd : ∀ z z', z = plG x y d * z' → z.fdiv (plG x y d) = z' := fun z z' e => by
    rw [e]
    exact Int.mul_fdiv_cancel_left _ gne
  have le : ∀ z z', z = plG x y d * z' → z'.natAbs ≤ z.natAbs := fun z z' e => by
    rw [e, Int.natAbs_mul]
    exact Nat.le_mul_of_pos_left _ (by omega)
  exact ⟨x', y', d', ex, ey, ed, hd', low, gne, fd _ _ ex, fd _ _ ey, fd _ _ ed, le _ _ ex, le _ _ ey, le _ _ ed⟩
theorem gcd_step {x y : Int} (hx : 0 ≤ x) (hy : 0 < y) : gZ y (x % y) = gZ x y := by
  obtain ⟨m, rfl⟩ := Int.eq_ofNat_of_zero_le hx
  obtain ⟨n, rfl⟩ := Int.eq_ofNat_of_zero_le (Int.le_of_lt hy)
  unfold gZ
  rw [← Int.natCast_emod, Int.gcd_natCast_natCast, Int.gcd_natCast_natCast, Nat.gcd_comm n (m % n), ← Nat.gcd_rec n m, Nat.gcd_comm n m]
theorem gZ_abs (a b : Int) : gZ (if a < 0 then -a else a) (if b < 0 then -b else b) = gZ a b := by
  have h : ∀ z : Int, (if z < 0 then -z else z).natAbs = z.natAbs := fun z => by split <;> omega
  unfold gZ
  rw [Int.gcd_eq_natAbs_gcd_natAbs, Int.gcd_eq_natAbs_gcd_natAbs, h, h]
theorem gZ_zero {a : Int} (h : 0 ≤ a) : gZ a 0 = a := by
  unfold gZ
  rw [Int.gcd_zero_right]
  omega
def sp_common : Sp := fun vs H Q _ => ∃ a b : Int, vs = [.int a, .int b] ∧ Q (.int (gZ a b)) H
theorem ok_common (T : Tops K mg) : FnOk P w K mg base CX0 1 (He.ga K "common") T.fd_common P_common sp_common := by
  refine T.F_common.ok sc_common (fun vs H Q E h => ?_) (fun cdv A outer s H vs Q E hr h => ?_)
  · obtain ⟨a, b, rfl, q⟩ := h
    rfl
  · obtain ⟨a, b, rfl, q⟩ := h
    refine ⟨_, PSs.nox ((pss_cons (ps_par (i := 0) (j := 1) (by rfl) sc_common.nd rfl rfl (by decide) rfl rfl (pa_cons (pe_callB call_absN (by rfl) T.m_abs (by decide +kernel) (pa_cons (pv 0) pa_nil)) (pa_cons (pe_callB call_absN (by rfl) T.m_abs (by decide +kernel) (pa_cons (pv 1) pa_nil)) pa_nil)) (by rfl))
       (pss_cons (ps_while PassesOwn.never (pt_cmpR op_gt (pv 1) pe_int (nomark _))
       (pss_one (ps_par (i := 0) (j := 1) (by rfl) sc_common.nd rfl rfl (by decide) rfl rfl (pa_cons (pv 1) (pa_cons (pe_op op_mod (pv 0) (pv 1)) pa_nil)) (by rfl))))
       (pss_one (ps_ret (pv 0)))))), ?_⟩
    rw [st_common]
    walk_at "rd"
    refine ⟨_, _, rfl, ?_⟩
    walk_at "rd"
    walk_at "nm"
    refine while_by (fun σ H' => H' = H ∧ ∃ x y : Int, σ = [some (.int x), some (.int y)] ∧ 0 ≤ x ∧ 0 ≤ y ∧ gZ x y = gZ a b) (fun σ _ => match σ with
      | [_, some (.int y)] => y.toNat
      | _ => 0) ⟨rfl, _, _, rfl, by split <;> omega, by split <;> omega, gZ_abs a b⟩ ?_ ?_
    · rintro σ H' ⟨rfl, x, y, rfl, hx, hy, e⟩
      walk_at "rd"
      refine ite2 (fun h => ?_) (fun h => ?_)
      · have hy0 : 0 < y := of_decide_eq_true h
        walk_at "rd"
        refine ⟨_, _, rfl, ?_⟩
        walk_at "nm"
        refine ⟨⟨rfl, y, x % y, rfl, hy, Int.emod_nonneg _ (by omega), ?_⟩, ?_⟩
        · rw [gcd_step hx hy0, e]
        · have h1 := Int.emod_lt_of_pos x hy0
          have h2 := Int.emod_nonneg x (show y ≠ 0 by omega)
          show (x % y).toNat < y.toNat
          omega
      · have hy0 : y = 0 := by
          have : ¬ (0 < y) := fun z => h (decide_eq_true z)
          omega
        subst hy0
        walk_at "rd"
        rw [gZ_zero hx] at e
        rw [e]
        exact q
    · intro σ H' Q1 Q2 hq h
      obtain ⟨v, hv, i, j, e1, e2, k, e3, h⟩ := h
      exact ⟨v, hv, i, j, e1, e2, k, e3, hq _ _ h⟩

theorem gZ_le {a b : Int} (h : 0 < b) : gZ a b ≤ b := by
  unfold gZ
  exact Int.gcd_le_right a h
theorem pow_mono {n : Nat} {a b : Nat} (h : n < 2 ^ a) (l : a ≤ b) : n < 2 ^ b := Nat.lt_of_lt_of_le h (Nat.pow_le_pow_right (by decide) l)
/-- a place in lowest terms -/
structure Pl (x y d : Int) : Prop where
  d1 : 1 ≤ d
  bx : x.natAbs < 1000000000000000000000000000000
  by_ : y.natAbs < 1000000000000000000000000000000
  bd : d < 1000000000000000000000000000000
  low : gZ (gZ x y) d = 1
def sp_reduced : Sp := fun vs H Q _ => ∃ a b : Int, vs = [.int a, .int b] ∧ 0 < b ∧ b.natAbs < 2 ^ 4000 ∧ ∀ p, H p = none → Q (.ref p) (upd H p (.tup [.int (a.fdiv (gZ a b)), .int (b.fdiv (gZ a b))]))
def sp_is_place : Sp := fun vs H Q _ => ∃ (p : Addr) (x y d : Int), vs = [.ref p] ∧ H p = some (.tup [.int x, .int y, .int d]) ∧ Pl x y d ∧ ∀ H', Same H H' → Q (.bl true) H'
def sp_check_place : Sp := fun vs H Q _ => ∃ (z : Str) (p : Addr) (x y d : Int), vs = [.str z, .ref p] ∧ H p = some (.tup [.int x, .int y, .int d]) ∧ Pl x y d ∧ ∀ H', Same H H' → Q .non H'
def sp_place_of : Sp := fun vs H Q _ => ∃ x y d : Int, vs = [.int x, .int y, .int d] ∧ d ≠ 0 ∧ d.natAbs < 2 ^ 4000 ∧ ∀ p, H p = none → Q (.ref p) (upd H p (.tup [.int (x.fdiv (plG x y d)), .int (y.fdiv (plG x y d)), .int (d.fdiv (plG x y d))]))
theorem gZ_abs_le {a b : Int} (h : b ≠ 0) : (gZ a b).natAbs ≤ b.natAbs := by
  unfold gZ
  rw [Int.natAbs_natCast]
  exact Int.gcd_le_natAbs_right a h
theorem ok_reduced (T : Tops K mg) : FnOk P w K mg base CX0 2 (He.ga K "reduced") T.fd_reduced P_reduced sp_reduced := by
  refine T.F_reduced.ok sc_reduced (fun vs H Q E h => ?_) (fun cdv A outer s H vs Q E hr h => ?_)
  · obtain ⟨a, b, rfl, hb, hb2, q⟩ := h
    rfl
  · obtain ⟨a, b, rfl, hb, hb2, q⟩ := h
    refine ⟨_, PSs.nox ((pss_cons (ps_set (i := 2) sc_reduced.nd rfl (.inl rfl) (pe_call (ok_common T) (hr.mono (by decide)) (by rfl) T.g_common T.F_common.kp (b_common T) .nil pass0 (pa_cons (pv 0) (pa_cons (pv 1) pa_nil))))
       (pss_cons (ps_set (i := 2) sc_reduced.nd rfl (.inl rfl) (pe_ifExp (pt_cmpR op_gt (pv 1) pe_int (nomark _)) (pv 2) (pe_op op_sub pe_int (pv 2))))
       (pss_one (ps_ret (pe_tup (pa_cons (pe_op op_fdivA (pv 0) (pv 2)) (pa_cons (pe_op op_fdivA (pv 1) (pv 2)) pa_nil)))))))), ?_⟩
    rw [st_reduced]
    walk_at "rd"
    refine ⟨_, _, rfl, ?_⟩
    have g0 : 0 < gZ a b := gZ_pos (by omega)
    have g1 : (gZ a b).natAbs < 2 ^ 4000 := Nat.lt_of_le_of_lt (gZ_abs_le (by omega)) hb2
    have g2 : gZ a b ≠ 0 := by omega
    walk_at "rd"
    rw [decide_eq_true hb]
    refine iteT ?_
    walk_at "rd"
    exact ⟨len_le (n := 2) (by decide), fun p hp => q p hp⟩
theorem ok_place_of (T : Tops K mg) : FnOk P w K mg base CX0 2 (He.ga K "place_of") T.fd_place_of P_place_of sp_place_of := by
  refine T.F_place_of.ok sc_place_of (fun vs H Q E h => ?_) (fun cdv A outer s H vs Q E hr h => ?_)
  · obtain ⟨x, y, d, rfl, hd, hd2, q⟩ := h
    rfl
  · obtain ⟨x, y, d, rfl, hd, hd2, q⟩ := h
    refine ⟨_, PSs.nox ((pss_cons (ps_set (i := 3) sc_place_of.nd rfl (.inl rfl) (pe_call (ok_common T) (hr.mono (by decide)) (by rfl) T.g_common T.F_common.kp (b_common T) .nil pass0 (pa_cons (pe_call (ok_common T) (hr.mono (by decide)) (by rfl) T.g_common T.F_common.kp (b_common T) .nil pass0 (pa_cons (pv 0) (pa_cons (pv 1) pa_nil))) (pa_cons (pv 2) pa_nil))))
       (C8.pss_cut (ps_set (i := 3) sc_place_of.nd rfl (.inl rfl) (pe_ifExp (pt_cmpR op_gt (pv 2) pe_int (nomark _)) (pv 3) (pe_op op_sub pe_int (pv 3))))
       (pss_one (ps_ret (pe_tup (pa_cons (pe_op op_fdivA (pv 0) (pv 3)) (pa_cons (pe_op op_fdivA (pv 1) (pv 3)) (pa_cons (pe_op op_fdivA (pv 2) (pv 3)) pa_nil))))))))), ?_⟩
    rw [st_place_of]
    walk_at "rd"
    refine ⟨_, _, rfl, ?_⟩
    walk_at "rd"
    refine ⟨_, _, rfl, ?_⟩
    have g0 : 0 < gZ (gZ x y) d := gZ_pos hd
    have g1 : (gZ (gZ x y) d).natAbs < 2 ^ 4000 := Nat.lt_of_le_of_lt (gZ_abs_le hd) hd2
    refine ⟨fun σ' H' => H' = H ∧ σ' = [some (.int x), some (.int y), some (.int d), some (.int (plG x y d))], ?_, ?_⟩
    · walk_at "rd"
      refine ite2 (fun h => ?_) (fun h => ?_)
      · walk_at "rd"
        refine ⟨rfl, ?_⟩
        unfold plG
        rw [if_pos (of_decide_eq_true h), Int.mul_one]
        rfl
      · walk_at "rd"
        refine ⟨rfl, ?_⟩
        unfold plG
        rw [if_neg (fun z => h (decide_eq_true z)), show gZ (gZ x y) d * -1 = 0 - gZ (gZ x y) d by omega]
        rfl
    rintro σ1 H1 ⟨rfl, rfl⟩
    have p0 : plG x y d ≠ 0 := by
      unfold plG
      split <;> omega
    have p1 : (plG x y d).natAbs < 2 ^ 4000 := by
      have e : (plG x y d).natAbs = (gZ (gZ x y) d).natAbs := by
        unfold plG
        split <;> omega
      rw [e]
      exact g1
    walk_at "rd"
    exact ⟨len_le (n := 3) (by decide), fun p hp => q p hp⟩

end

end NC
namespace NC
section
variable {P : Program} {w : World} {K : PySem.W.Frag} {mg : Str → Option Value} {base : Heap}

/-- the centre of the circle, ahead of lowest terms -/
def cnD (ax ay bx by_ cx cy : Int) : Int := 2 * turnZ ax ay bx by_ cx cy
def cnX (ax ay bx by_ cx cy : Int) : Int := ax * cnD ax ay bx by_ cx cy + (((bx - ax) * (bx - ax) + (by_ - ay) * (by_ - ay)) * (cy - ay) - ((cx - ax) * (cx - ax) + (cy - ay) * (cy - ay)) * (by_ - ay))
def cnY (ax ay bx by_ cx cy : Int) : Int := ay * cnD ax ay bx by_ cx cy + (((cx - ax) * (cx - ax) + (cy - ay) * (cy - ay)) * (bx - ax) - ((bx - ax) * (bx - ax) + (by_ - ay) * (by_ - ay)) * (cx - ax))
theorem nb_mul {i j : Int} {a b : Nat} (h1 : i.natAbs ≤ a) (h2 : j.natAbs ≤ b) : (i * j).natAbs ≤ a * b := by
  rw [Int.natAbs_mul]
  exact Nat.mul_le_mul h1 h2
theorem turn_nb {ax ay bx by_ cx cy : Int} (h : (Bd ax ∧ Bd ay) ∧ (Bd bx ∧ Bd by_) ∧ (Bd cx ∧ Bd cy)) : (turnZ ax ay bx by_ cx cy).natAbs ≤ 8000000000000 := by
  unfold Bd at h
  have h1 := nb_mul (i := bx - ax) (j := cy - ay) (a := 2000000) (b := 2000000) (by omega) (by omega)
  have h2 := nb_mul (i := by_ - ay) (j := cx - ax) (a := 2000000) (b := 2000000) (by omega) (by omega)
  unfold turnZ
  omega
theorem cn_nb {ax ay bx by_ cx cy : Int} (h : (Bd ax ∧ Bd ay) ∧ (Bd bx ∧ Bd by_) ∧ (Bd cx ∧ Bd cy)) : (cnX ax ay bx by_ cx cy).natAbs ≤ 100000000000000000000 ∧ (cnY ax ay bx by_ cx cy).natAbs ≤ 100000000000000000000 ∧ (cnD ax ay bx by_ cx cy).natAbs ≤ 16000000000000 := by
  have ht := turn_nb h
  have hD : (cnD ax ay bx by_ cx cy).natAbs ≤ 16000000000000 := by
    unfold cnD
    omega
  unfold Bd at h
  have s1 := nb_mul (i := bx - ax) (j := bx - ax) (a := 2000000) (b := 2000000) (by omega) (by omega)
  have s2 := nb_mul (i := by_ - ay) (j := by_ - ay) (a := 2000000) (b := 2000000) (by omega) (by omega)
  have s3 := nb_mul (i := cx - ax) (j := cx - ax) (a := 2000000) (b := 2000000) (by omega) (by omega)
  have s4 := nb_mul (i := cy - ay) (j := cy - ay) (a := 2000000) (b := 2000000) (by omega) (by omega)
  have f1 : ((bx - ax) * (bx - ax) + (by_ - ay) * (by_ - ay)).natAbs ≤ 8000000000000 := by omega
  have f2 : ((cx - ax) * (cx - ax) + (cy - ay) * (cy - ay)).natAbs ≤ 8000000000000 := by omega
  have m1 := nb_mul (j := cy - ay) (b := 2000000) f1 (by omega)
  have m2 := nb_mul (j := by_ - ay) (b := 2000000) f2 (by omega)
  have m3 := nb_mul (j := bx - ax) (b := 2000000) f2 (by omega)
  have m4 := nb_mul (j := cx - ax) (b := 2000000) f1 (by omega)
  have m5 := nb_mul (i := ax) (a := 1000000) (by omega) hD
  have m6 := nb_mul (i := ay) (a := 1000000) (by omega) hD
  refine ⟨?_, ?_, hD⟩
  · unfold cnX
    omega
  · unfold cnY
    omega
/-- the number that tells which site is nearer -/
def leadZ (x y d ax ay bx by_ : Int) : Int := (d * (ax * ax + ay * ay) - 2 * (x * ax + y * ay)) - (d * (bx * bx + by_ * by_) - 2 * (x * bx + y * by_))
theorem lead_cn1 (ax ay bx by_ cx cy : Int) : leadZ (cnX ax ay bx by_ cx cy) (cnY ax ay bx by_ cx cy) (cnD ax ay bx by_ cx cy) ax ay bx by_ = 0 := by
  unfold leadZ cnX cnY cnD turnZ
  grind
theorem lead_cn2 (ax ay bx by_ cx cy : Int) : leadZ (cnX ax ay bx by_ cx cy) (cnY ax ay bx by_ cx cy) (cnD ax ay bx by_ cx cy) bx by_ cx cy = 0 := by
  unfold leadZ cnX cnY cnD turnZ
  grind
theorem lead_mul (g x y d ax ay bx by_ : Int) : leadZ (g * x) (g * y) (g * d) ax ay bx by_ = g * leadZ x y d ax ay bx by_ := by
  unfold leadZ
  grind
def cnG (ax ay bx by_ cx cy : Int) : Int := plG (cnX ax ay bx by_ cx cy) (cnY ax ay bx by_ cx cy) (cnD ax ay bx by_ cx cy)
/-- (x, y, d) is the centre in lowest terms -/
structure Cen (ax ay bx by_ cx cy x y d : Int) : Prop where
  ex : cnX ax ay bx by_ cx cy = cnG ax ay bx by_ cx cy * x
  ey : cnY ax ay bx by_ cx cy = cnG ax ay bx by_ cx cy * y
  ed : cnD ax ay bx by_ cx cy = cnG ax ay bx by_ cx cy * d
  gne : cnG ax ay bx by_ cx cy ≠ 0
  fx : x = (cnX ax ay bx by_ cx cy).fdiv (cnG ax ay bx by_ cx cy)
  fy : y = (cnY ax ay bx by_ cx cy).fdiv (cnG ax ay bx by_ cx cy)
  fd : d = (cnD ax ay bx by_ cx cy).fdiv (cnG ax ay bx by_ cx cy)
  pl : Pl x y d
def sp_centre_of : Sp := fun vs H Q _ => ∃ pa pb pc ax ay bx by_ cx cy, vs = [.ref pa, .ref pb, .ref pc] ∧ S3 H pa pb pc ax ay bx by_ cx cy ∧ turnZ ax ay bx by_ cx cy ≠ 0 ∧
  ∀ H' p x y d, Same H H' → H' p = some (.tup [.int x, .int y, .int d]) → Cen ax ay bx by_ cx cy x y d → Q (.ref p) H'
theorem Cen.lead {ax ay bx by_ cx cy x y d : Int} (h : Cen ax ay bx by_ cx cy x y d) : leadZ x y d ax ay bx by_ = 0 ∧ leadZ x y d bx by_ cx cy = 0 := by
  have h1 := lead_cn1 ax ay bx by_ cx cy
  have h2 := lead_cn2 ax ay bx by_ cx cy
  rw [h.ex, h.ey, h.ed, lead_mul] at h1 h2
  constructor
  · rcases Int.mul_eq_zero.mp h1 with z | z
    · exact absurd z h.gne
    · exact z
  · rcases Int.mul_eq_zero.mp h2 with z | z
    · exact absurd z h.gne
    · exact z
/-- squared distance of place and site, times the square of the denominator -/
def farZ (x y d sx sy : Int) : Int := (x - sx * d) * (x - sx * d) + (y - sy * d) * (y - sy * d)
def sp_square_of : Sp := fun vs H Q _ => ∃ (p s : Addr) (x y d sx sy : Int), vs = [.ref p, .ref s] ∧ H p = some (.tup [.int x, .int y, .int d]) ∧ H s = some (.tup [.int sx, .int sy]) ∧ Bd sx ∧ Bd sy ∧ Pl x y d ∧
  ∀ r, H r = none → Q (.ref r) (upd H r (.tup [.int ((farZ x y d sx sy).fdiv (gZ (farZ x y d sx sy) (d * d))), .int ((d * d).fdiv (gZ (farZ x y d sx sy) (d * d)))]))
def sp_lead : Sp := fun vs H Q _ => ∃ (p a b : Addr) (x y d ax ay bx by_ : Int), vs = [.ref p, .ref a, .ref b] ∧ H p = some (.tup [.int x, .int y, .int d]) ∧ H a = some (.tup [.int ax, .int ay]) ∧ H b = some (.tup [.int bx, .int by_]) ∧ (Bd ax ∧ Bd ay) ∧ (Bd bx ∧ Bd by_) ∧ Q (.int (leadZ x y d ax ay bx by_)) H
theorem far_nb {x y d sx sy : Int} (h : Pl x y d) (h1 : Bd sx) (h2 : Bd sy) : (x - sx * d).natAbs < 2 ^ 400 ∧ (y - sy * d).natAbs < 2 ^ 400 ∧ d.natAbs < 2 ^ 400 ∧ 0 < d * d ∧ (d * d).natAbs < 2 ^ 4000 := by
  unfold Bd at h1 h2
  have hx := h.bx
  have hy := h.by_
  have hd := h.bd
  have d1 := h.d1
  have m1 := nb_mul (i := sx) (j := d) (a := 1000000) (b := 1000000000000000000000000000000) (by omega) (by omega)
  have m2 := nb_mul (i := sy) (j := d) (a := 1000000) (b := 1000000000000000000000000000000) (by omega) (by omega)
  have m3 := nb_mul (i := d) (j := d) (a := 1000000000000000000000000000000) (b := 1000000000000000000000000000000) (by omega) (by omega)
  have e : (2 : Nat) ^ 250 = 1809251394333065553493296640760748560207343510400633813116524750123642650624 := by decide
  have l4 : (2 : Nat) ^ 250 ≤ 2 ^ 400 := Nat.pow_le_pow_right (by decide) (by decide)
  have l5 : (2 : Nat) ^ 250 ≤ 2 ^ 4000 := Nat.pow_le_pow_right (by decide) (by decide)
  generalize (2 : Nat) ^ 400 = P4 at l4 ⊢
  generalize (2 : Nat) ^ 4000 = P5 at l5 ⊢
  rw [e] at l4 l5
  refine ⟨by omega, by omega, by omega, Int.mul_pos (by omega) (by omega), by omega⟩
theorem ok_centre_of (T : Tops K mg) : FnOk P w K mg base CX0 3 (He.ga K "centre_of") T.fd_centre_of P_centre_of sp_centre_of := by
  refine T.F_centre_of.ok sc_centre_of (fun vs H Q E h => ?_) (fun cdv A outer s H vs Q E hr h => ?_)
  · obtain ⟨pa, pb, pc, ax, ay, bx, by_, cx, cy, rfl, S, ht, q⟩ := h
    rfl
  · obtain ⟨pa, pb, pc, ax, ay, bx, by_, cx, cy, rfl, S, ht, q⟩ := h
    refine ⟨_, PSs.nox ((pss_cons (ps_set (i := 3) sc_centre_of.nd rfl (.inl rfl) (pe_op op_mulA pe_int (pe_call (ok_turn T) (hr.mono (by decide)) (by rfl) T.g_turn T.F_turn.kp (b_turn T) .nil pass0 (pa_cons (pv 0) (pa_cons (pv 1) (pa_cons (pv 2) pa_nil))))))
       (pss_cons (ps_asg (pe_tup (pa_cons (pe_op op_sub (pe_ix (ix_tupK K) (pv 1) pe_int (fun _ _ => rfl)) (pe_ix (ix_tupK K) (pv 0) pe_int (fun _ _ => rfl))) (pa_cons (pe_op op_sub (pe_ix (ix_tupK K) (pv 1) pe_int (fun _ _ => rfl)) (pe_ix (ix_tupK K) (pv 0) pe_int (fun _ _ => rfl))) (pa_cons (pe_op op_sub (pe_ix (ix_tupK K) (pv 2) pe_int (fun _ _ => rfl)) (pe_ix (ix_tupK K) (pv 0) pe_int (fun _ _ => rfl))) (pa_cons (pe_op op_sub (pe_ix (ix_tupK K) (pv 2) pe_int (fun _ _ => rfl)) (pe_ix (ix_tupK K) (pv 0) pe_int (fun _ _ => rfl))) pa_nil))))) (pg_tup rfl (pgs_cons (pg_name (i := 4) sc_centre_of.nd rfl (.inl rfl)) (pgs_cons (pg_name (i := 5) sc_centre_of.nd rfl (.inl rfl)) (pgs_cons (pg_name (i := 6) sc_centre_of.nd rfl (.inl rfl)) (pgs_cons (pg_name (i := 7) sc_centre_of.nd rfl (.inl rfl)) pgs_nil))))))
       (pss_cons (ps_par (i := 8) (j := 9) (by rfl) sc_centre_of.nd rfl rfl (by decide) rfl rfl (pa_cons (pe_op op_add (pe_op op_mulA (pv 4) (pv 4)) (pe_op op_mulA (pv 5) (pv 5))) (pa_cons (pe_op op_add (pe_op op_mulA (pv 6) (pv 6)) (pe_op op_mulA (pv 7) (pv 7))) pa_nil)) (by rfl))
       (pss_cons (ps_par (i := 10) (j := 11) (by rfl) sc_centre_of.nd rfl rfl (by decide) rfl rfl (pa_cons (pe_op op_sub (pe_op op_mulA (pv 8) (pv 7)) (pe_op op_mulA (pv 9) (pv 5))) (pa_cons (pe_op op_sub (pe_op op_mulA (pv 9) (pv 4)) (pe_op op_mulA (pv 8) (pv 6))) pa_nil)) (by rfl))
       (pss_one (ps_ret (pe_call (ok_place_of T) (hr.mono (by decide)) (by rfl) T.g_place_of T.F_place_of.kp (b_place_of T) .nil pass0 (pa_cons (pe_op op_add (pe_op op_mulA (pe_ix (ix_tupK K) (pv 0) pe_int (fun _ _ => rfl)) (pv 3)) (pv 10)) (pa_cons (pe_op op_add (pe_op op_mulA (pe_ix (ix_tupK K) (pv 0) pe_int (fun _ _ => rfl)) (pv 3)) (pv 11)) (pa_cons (pv 3) pa_nil))))))))))), ?_⟩
    rw [st_centre_of]
    obtain ⟨ha, hb, hc, hd⟩ := id S
    have nb := cn_nb hd
    have tb := turn_nb hd
    have hD0 : cnD ax ay bx by_ cx cy ≠ 0 := by
      unfold cnD
      omega
    have hD1 : (cnD ax ay bx by_ cx cy).natAbs < 2 ^ 4000 := by
      refine pow_mono (a := 100) ?_ (by decide)
      have e : (2 : Nat) ^ 100 = 1267650600228229401496703205376 := by decide
      rw [e]
      omega
    obtain ⟨x', y', d', ex, ey, ed, hd', low, gne, f1, f2, f3, l1, l2, l3⟩ := place_low (x := cnX ax ay bx by_ cx cy) (y := cnY ax ay bx by_ cx cy) hD0
    unfold Bd at hd
    walk_at "rd"
    refine ⟨pa, pb, pc, ax, ay, bx, by_, cx, cy, rfl, S, ?_⟩
    have tb2 : -8000000000000 ≤ turnZ ax ay bx by_ cx cy ∧ turnZ ax ay bx by_ cx cy ≤ 8000000000000 := by omega
    generalize htz : turnZ ax ay bx by_ cx cy = tz at tb2 ⊢
    walk_at "rd"
    refine ⟨len_le (n := 4) (by decide), fun t0 ht0 => ?_⟩
    have k := same_new (o := .tup [.int (bx - ax), .int (by_ - ay), .int (cx - ax), .int (cy - ay)]) ht0
    have ha' := k _ _ ha
    have et : (upd H t0 (.tup [.int (bx - ax), .int (by_ - ay), .int (cx - ax), .int (cy - ay)])) t0 = some (.tup [.int (bx - ax), .int (by_ - ay), .int (cx - ax), .int (cy - ay)]) := upd_same
    generalize upd H t0 (.tup [.int (bx - ax), .int (by_ - ay), .int (cx - ax), .int (cy - ay)]) = H1 at k ha' et ⊢
    walk_at "rd"
    refine ⟨_, _, rfl, ?_⟩
    walk_at "rd"
    refine ⟨_, _, rfl, ?_⟩
    walk_at "rd"
    rw [← htz]
    refine ⟨cnX ax ay bx by_ cx cy, cnY ax ay bx by_ cx cy, cnD ax ay bx by_ cx cy, rfl, hD0, hD1, fun p hp => ?_⟩
    rw [f1, f2, f3]
    refine q _ p x' y' d' (k.trans (same_new hp)) upd_same ⟨ex, ey, ed, gne, f1.symm, f2.symm, f3.symm, ⟨by omega, by omega, by omega, by omega, low⟩⟩

end

end NC
namespace NC
section
variable {P : Program} {w : World} {K : PySem.W.Frag} {mg : Str → Option Value} {base : Heap}
theorem ok_square_of (T : Tops K mg) : FnOk P w K mg base CX0 3 (He.ga K "square_of") T.fd_square_of P_square_of sp_square_of := by
  refine T.F_square_of.ok sc_square_of (fun vs H Q E h => ?_) (fun cdv A outer s H vs Q E hr h => ?_)
  · obtain ⟨p, s, x, y, d, sx, sy, rfl, hp, hs, bx, by_, hl, q⟩ := h
    rfl
  · obtain ⟨p, s, x, y, d, sx, sy, rfl, hp, hs, bx, by_, hl, q⟩ := h
    refine ⟨_, PSs.nox ((pss_cons (ps_asg (pv 0) (pg_tup rfl (pgs_cons (pg_name (i := 2) sc_square_of.nd rfl (.inl rfl)) (pgs_cons (pg_name (i := 3) sc_square_of.nd rfl (.inl rfl)) (pgs_cons (pg_name (i := 4) sc_square_of.nd rfl (.inl rfl)) pgs_nil)))))
       (pss_cons (ps_par (i := 5) (j := 6) (by rfl) sc_square_of.nd rfl rfl (by decide) rfl rfl (pa_cons (pe_op op_sub (pv 2) (pe_op op_mulA (pe_ix (ix_tupK K) (pv 1) pe_int (fun _ _ => rfl)) (pv 4))) (pa_cons (pe_op op_sub (pv 3) (pe_op op_mulA (pe_ix (ix_tupK K) (pv 1) pe_int (fun _ _ => rfl)) (pv 4))) pa_nil)) (by rfl))
       (pss_one (ps_ret (pe_call (ok_reduced T) (hr.mono (by decide)) (by rfl) T.g_reduced T.F_reduced.kp (b_reduced T) .nil pass0 (pa_cons (pe_op op_add (pe_op op_mulA (pv 5) (pv 5)) (pe_op op_mulA (pv 6) (pv 6))) (pa_cons (pe_op op_mulA (pv 4) (pv 4)) pa_nil)))))))), ?_⟩
    rw [st_square_of]
    have nb := far_nb hl bx by_
    unfold Bd at bx by_
    obtain ⟨n1, n2, n3, n4, n5⟩ := nb
    walk_at "rd"
    refine ⟨_, _, rfl, ?_⟩
    walk_at "rd"
    exact ⟨_, _, rfl, n4, n5, fun r hr => q r hr⟩

def sp_circle : Sp := fun vs H Q _ => ∃ pa pb pc ax ay bx by_ cx cy, vs = [.ref pa, .ref pb, .ref pc] ∧ S3 H pa pb pc ax ay bx by_ cx cy ∧ turnZ ax ay bx by_ cx cy ≠ 0 ∧
  ∀ H' r p sq x y d, Same H H' → H' r = some (.tup [.ref p, .ref sq]) → H' p = some (.tup [.int x, .int y, .int d]) → H' sq = some (.tup [.int ((farZ x y d ax ay).fdiv (gZ (farZ x y d ax ay) (d * d))), .int ((d * d).fdiv (gZ (farZ x y d ax ay) (d * d)))]) → Cen ax ay bx by_ cx cy x y d → Q (.ref r) H'
def sp_square : Sp := fun vs H Q _ => ∃ (p s : Addr) (x y d sx sy : Int), vs = [.ref p, .ref s] ∧ H p = some (.tup [.int x, .int y, .int d]) ∧ H s = some (.tup [.int sx, .int sy]) ∧ Bd sx ∧ Bd sy ∧ Pl x y d ∧
  ∀ H' r, Same H H' → H' r = some (.tup [.int ((farZ x y d sx sy).fdiv (gZ (farZ x y d sx sy) (d * d))), .int ((d * d).fdiv (gZ (farZ x y d sx sy) (d * d)))]) → Q (.ref r) H'
def sp_nearer : Sp := fun vs H Q _ => ∃ (p a b : Addr) (x y d ax ay bx by_ : Int), vs = [.ref p, .ref a, .ref b] ∧ H p = some (.tup [.int x, .int y, .int d]) ∧ H a = some (.tup [.int ax, .int ay]) ∧ H b = some (.tup [.int bx, .int by_]) ∧ (Bd ax ∧ Bd ay) ∧ (Bd bx ∧ Bd by_) ∧ Pl x y d ∧ ∀ H', Same H H' → Q (.int (sgn (leadZ x y d ax ay bx by_))) H'
def sp_lift_side : Sp := fun vs H Q _ => ∃ pa pb pc pd ax ay bx by_ cx cy dx dy, vs = [.ref pa, .ref pb, .ref pc, .ref pd] ∧ S4 H pa pb pc pd ax ay bx by_ cx cy dx dy ∧ turnZ ax ay bx by_ cx cy ≠ 0 ∧ ∀ H', Same H H' → Q (.int (0 - sgn (powZ ax ay bx by_ cx cy dx dy) * sgn (turnZ ax ay bx by_ cx cy))) H'
theorem ok_circle (T : Tops K mg) : FnOk P w K mg base CX0 6 (He.ga K "circle") T.fd_circle P_circle sp_circle := by
  refine T.F_circle.ok sc_circle (fun vs H Q E h => ?_) (fun cdv A outer s H vs Q E hr h => ?_)
  · obtain ⟨pa, pb, pc, ax, ay, bx, by_, cx, cy, rfl, S, ht, q⟩ := h
    rfl
  · obtain ⟨pa, pb, pc, ax, ay, bx, by_, cx, cy, rfl, S, ht, q⟩ := h
    refine ⟨_, PSs.nox ((pss_cons (ps_expr (pe_call (ok_check_circle T) (hr.mono (by decide)) (by rfl) T.g_check_circle T.F_check_circle.kp (b_check_circle T) .nil pass0 (pa_cons (pv 0) (pa_cons (pv 1) (pa_cons (pv 2) pa_nil)))))
       (pss_cons (ps_if (pt_cmpR op_eq (pe_call (ok_turn T) (hr.mono (by decide)) (by rfl) T.g_turn T.F_turn.kp (b_turn T) .nil pass0 (pa_cons (pv 0) (pa_cons (pv 1) (pa_cons (pv 2) pa_nil)))) pe_int (nomark _))
       (pss_one ps_never)
       pss_nil)
       (pss_cons (ps_set (i := 3) sc_circle.nd rfl (.inl rfl) (pe_call (ok_centre_of T) (hr.mono (by decide)) (by rfl) T.g_centre_of T.F_centre_of.kp (b_centre_of T) .nil pass0 (pa_cons (pv 0) (pa_cons (pv 1) (pa_cons (pv 2) pa_nil)))))
       (pss_one (ps_ret (pe_tup (pa_cons (pv 3) (pa_cons (pe_call (ok_square_of T) (hr.mono (by decide)) (by rfl) T.g_square_of T.F_square_of.kp (b_square_of T) .nil pass0 (pa_cons (pv 3) (pa_cons (pv 0) pa_nil))) pa_nil))))))))), ?_⟩
    rw [st_circle]
    walk_at "rd"
    refine ⟨pa, pb, pc, ax, ay, bx, by_, cx, cy, rfl, S, fun H1 h1 => ?_⟩
    have S1 := S.mono (.same h1)
    walk_at "rd"
    refine ⟨pa, pb, pc, ax, ay, bx, by_, cx, cy, rfl, S1, ?_⟩
    walk_at "rd"
    rw [decide_eq_false ht]
    refine iteF ?_
    walk_at "rd"
    refine ⟨pa, pb, pc, ax, ay, bx, by_, cx, cy, rfl, S1, ht, fun H2 p x y d h2 hp hC => ?_⟩
    have S2 := S1.mono (.same h2)
    walk_at "rd"
    refine ⟨p, pa, x, y, d, ax, ay, rfl, hp, S2.a, S2.bd.1.1, S2.bd.1.2, hC.pl, fun r hr => ?_⟩
    walk_at "rd"
    refine ⟨len_le (n := 2) (by decide), fun t ht2 => ?_⟩
    have k1 := same_new hr (o := .tup [.int ((farZ x y d ax ay).fdiv (gZ (farZ x y d ax ay) (d * d))), .int ((d * d).fdiv (gZ (farZ x y d ax ay) (d * d)))])
    have k2 := same_new ht2 (o := .tup [.ref p, .ref r])
    exact q _ t p r x y d ((h1.trans h2).trans (k1.trans k2)) upd_same (k2 _ _ (k1 _ _ hp)) (k2 _ _ upd_same) hC

end

end NC
namespace NC
section
variable {P : Program} {w : World} {K : PySem.W.Frag} {mg : Str → Option Value} {base : Heap}

theorem del_new {H : Hp} {a : Addr} {o : HO} (h : H a = none) : del (upd H a o) a = H := by
  funext b
  by_cases e : b = a
  · rw [e, del_same, h]
  · rw [del_ne e, upd_ne e]
def sp_NoCircle_init (K : PySem.W.Frag) : Sp := fun vs H Q _ => ∃ a : Addr, vs = [.ref a] ∧ H a = some (exo a (He.ga K "NoCircle") none) ∧ Q .non H
theorem ok_NoCircle_init (T : Tops K mg) : FnOk P w K mg base CX0 1 (He.ma K (He.ga K "NoCircle") "__init__") T.fd_NoCircle_init P_NoCircle_init (sp_NoCircle_init K) := by
  refine T.F_NoCircle_init.ok sc_NoCircle_init (fun vs H Q E h => ?_) (fun cdv A outer s H vs Q E hr h => ?_)
  · obtain ⟨a, rfl, ha, q⟩ := h
    rfl
  · obtain ⟨a, rfl, ha, q⟩ := h
    refine ⟨_, PSs.nox ((pss_one (ps_expr (pe_ceinit T.B_CellError (by rfl) T.g_CellError (pa_cons (pv 0) (pa_cons pe_str pa_nil)))))), ?_⟩
    rw [st_NoCircle_init]
    walk_at "rd"
    exact ⟨a, He.ga K "NoCircle", [V.str "no circle"], rfl, by decide, T.X_NoCircle, ha, q⟩

def spx_circle (K : PySem.W.Frag) : Sp := fun vs H _ E => ∃ pa pb pc ax ay bx by_ cx cy, vs = [.ref pa, .ref pb, .ref pc] ∧ S3 H pa pb pc ax ay bx by_ cx cy ∧ turnZ ax ay bx by_ cx cy = 0 ∧ ∀ H', Same H H' → E (.ref (He.ga K "NoCircle")) none H'
theorem okx_circle (T : Tops K mg) : FnOk P w K mg base (L2.CX P w) 6 (He.ga K "circle") T.fd_circle P_circle (spx_circle K) := by
  refine T.F_circle.ok sc_circle (fun vs H Q E h => ?_) (fun cdv A outer s H vs Q E hr h => ?_)
  · obtain ⟨pa, pb, pc, ax, ay, bx, by_, cx, cy, rfl, S, ht, q⟩ := h
    rfl
  · obtain ⟨pa, pb, pc, ax, ay, bx, by_, cx, cy, rfl, S, ht, q⟩ := h
    refine ⟨_, (pss_cons (ps_expr (pe_call (ok_check_circle T) (hr.mono (by decide)) (by rfl) T.g_check_circle T.F_check_circle.kp (b_check_circle T) .nil pass0 (pa_cons (pv 0) (pa_cons (pv 1) (pa_cons (pv 2) pa_nil)))))
       (pss_cons (ps_if (pt_cmpR op_eq (pe_call (ok_turn T) (hr.mono (by decide)) (by rfl) T.g_turn T.F_turn.kp (b_turn T) .nil pass0 (pa_cons (pv 0) (pa_cons (pv 1) (pa_cons (pv 2) pa_nil)))) pe_int (nomark _))
       (pss_one (ps_raise rfl (takes_of rfl rfl rfl rfl) (pmk_oexA0 T.X_NoCircle T.i_NoCircle T.t_NoCircle (ok_NoCircle_init T) (hr.mono (by decide)) (b_NoCircle_init T) pass0 (by rfl) T.g_NoCircle)))
       pss_nil)
       (pss_cons (ps_set (i := 3) sc_circle.nd rfl (.inl rfl) (pe_call (ok_centre_of T) (hr.mono (by decide)) (by rfl) T.g_centre_of T.F_centre_of.kp (b_centre_of T) .nil pass0 (pa_cons (pv 0) (pa_cons (pv 1) (pa_cons (pv 2) pa_nil)))))
       (pss_one (ps_ret (pe_tup (pa_cons (pv 3) (pa_cons (pe_call (ok_square_of T) (hr.mono (by decide)) (by rfl) T.g_square_of T.F_square_of.kp (b_square_of T) .nil pass0 (pa_cons (pv 3) (pa_cons (pv 0) pa_nil))) pa_nil)))))))), ?_⟩
    rw [st_circle]
    walk_at "rd"
    refine ⟨pa, pb, pc, ax, ay, bx, by_, cx, cy, rfl, S, fun H1 h1 => ?_⟩
    have S1 := S.mono (.same h1)
    walk_at "rd"
    refine ⟨pa, pb, pc, ax, ay, bx, by_, cx, cy, rfl, S1, ?_⟩
    walk_at "rd"
    rw [decide_eq_true ht]
    refine iteT ?_
    walk_at "rd"
    refine ⟨by decide, fun a ha => ⟨a, rfl, upd_same, rfl, .inl ⟨upd_same, ?_⟩⟩⟩
    rw [del_new ha]
    exact q _ h1

def spx_in_circle (K : PySem.W.Frag) : Sp := fun vs H _ E => ∃ pa pb pc pd ax ay bx by_ cx cy dx dy, vs = [.ref pa, .ref pb, .ref pc, .ref pd] ∧ S4 H pa pb pc pd ax ay bx by_ cx cy dx dy ∧ turnZ ax ay bx by_ cx cy = 0 ∧ ∀ H', Same H H' → E (.ref (He.ga K "NoCircle")) none H'
theorem okx_in_circle (T : Tops K mg) : FnOk P w K mg base (L2.CX P w) 6 (He.ga K "in_circle") T.fd_in_circle P_in_circle (spx_in_circle K) := by
  refine T.F_in_circle.ok sc_in_circle (fun vs H Q E h => ?_) (fun cdv A outer s H vs Q E hr h => ?_)
  · obtain ⟨pa, pb, pc, pd, ax, ay, bx, by_, cx, cy, dx, dy, rfl, S, ht, q⟩ := h
    rfl
  · obtain ⟨pa, pb, pc, pd, ax, ay, bx, by_, cx, cy, dx, dy, rfl, S, ht, q⟩ := h
    refine ⟨_, (pss_cons (ps_expr (pe_call (ok_check_circle T) (hr.mono (by decide)) (by rfl) T.g_check_circle T.F_check_circle.kp (b_check_circle T) .nil pass0 (pa_cons (pv 0) (pa_cons (pv 1) (pa_cons (pv 2) pa_nil)))))
       (pss_cons (ps_expr (pe_call (ok_check_site T) (hr.mono (by decide)) (by rfl) T.g_check_site T.F_check_site.kp (b_check_site T) .nil pass0 (pa_cons pe_str (pa_cons (pv 3) pa_nil))))
       (pss_cons (ps_if (pt_cmpR op_eq (pe_call (ok_turn T) (hr.mono (by decide)) (by rfl) T.g_turn T.F_turn.kp (b_turn T) .nil pass0 (pa_cons (pv 0) (pa_cons (pv 1) (pa_cons (pv 2) pa_nil)))) pe_int (nomark _))
       (pss_one (ps_raise rfl (takes_of rfl rfl rfl rfl) (pmk_oexA0 T.X_NoCircle T.i_NoCircle T.t_NoCircle (ok_NoCircle_init T) (hr.mono (by decide)) (b_NoCircle_init T) pass0 (by rfl) T.g_NoCircle)))
       pss_nil)
       (pss_one (ps_ret (pe_call (ok_inside T) (hr.mono (by decide)) (by rfl) T.g_inside T.F_inside.kp (b_inside T) .nil pass0 (pa_cons (pv 0) (pa_cons (pv 1) (pa_cons (pv 2) (pa_cons (pv 3) pa_nil)))))))))), ?_⟩
    rw [st_in_circle]
    walk_at "rd"
    refine ⟨pa, pb, pc, ax, ay, bx, by_, cx, cy, rfl, S.s, fun H1 h1 => ?_⟩
    have S1 := S.mono (.same h1)
    walk_at "rd"
    refine ⟨_, pd, dx, dy, rfl, S1.d, S1.bd.1, S1.bd.2, fun H2 h2 => ?_⟩
    have S2 := S1.mono (.same h2)
    walk_at "rd"
    refine ⟨pa, pb, pc, ax, ay, bx, by_, cx, cy, rfl, S2.s, ?_⟩
    walk_at "rd"
    rw [decide_eq_true ht]
    refine iteT ?_
    walk_at "rd"
    refine ⟨by decide, fun a ha => ⟨a, rfl, upd_same, rfl, .inl ⟨upd_same, ?_⟩⟩⟩
    rw [del_new ha]
    exact q _ (h1.trans h2)

end

end NC
namespace NC
section
variable {P : Program} {w : World} {K : PySem.W.Frag} {mg : Str → Option Value} {base : Heap}

abbrev rQ : Str := (envOfC "_law_right" (defScope (top 36)) 0 0 .none).qual ++ "<lambda>"
def tbs (K : PySem.W.Frag) : List (Addr × Str) := [((He.cT K ("_law_right", none)).2, rQ)]
theorem tbs_mem (K : PySem.W.Frag) : ((He.cT K ("_law_right", none)).2, rQ) ∈ tbs K := List.mem_singleton.mpr rfl
theorem tbs_uniq (K : PySem.W.Frag) : ∀ p ∈ tbs K, p.1 = (He.cT K ("_law_right", none)).2 → p.2 = rQ := fun p hp _ => by rw [List.mem_singleton.mp hp]
/-- the call raises NoCircle -/
def TT_law_no_circle (K : PySem.W.Frag) : (XK → Hp → VK → Prop) → Hp → VK → Prop := fun tl H Q => tl (fun cls d H' => cls = .ref (He.ga K "NoCircle") ∧ d = none ∧ Q (.bl true) H') H (fun _ H1 => ∃ v, some (some (V.bl false)) = some (some v) ∧ Q v H1)
theorem g_no {tl : XK → Hp → VK → Prop} {H : Hp} {Q : VK} (h : tl (fun cls d H' => cls = .ref (He.ga K "NoCircle") ∧ d = none ∧ Q (.bl true) H') H (fun _ H1 => ∃ v, some (some (V.bl false)) = some (some v) ∧ Q v H1)) : TT_law_no_circle K tl H Q := h
theorem gives_law_no_circle {X : Cx} {g : Addr} {cdg : Value} {q : Str} (T : Tops X.K X.mg) : LamX.GivesTo X N_law_no_circle "_law_no_circle" (defScope (top 35)) g cdg (defBody (top 35)) "_law_call" q (TT_law_no_circle X.K) := by
  intro f c' s H Q tl act hc h
  refine ⟨_, (pss_cons (ps_set (i := 1) sc_law_no_circle.nd rfl (.inl rfl) pe_bl) (pss_cons (ps_try_any (X := (cxOf C8.CX0 X.prog X.w X.K X.mg X.base N_law_no_circle "_law_no_circle" (defScope (top 35)) g cdg X.A X.stack s H C8.E0).nox) (Wout := fun _ _ _ _ => False)
      (tb := fun W D σ H => ∃ Ech : XK, (∀ cls d σ' H', Ech cls d H' → σ'.length = 3 → W cls d σ' H') ∧ σ[0]? = some (some (V.ref f)) ∧ H c' = some (LamX.CodeO c' q) ∧ tl Ech H (fun _ H1 => D.nx σ H1))
      (l := [(.ref (He.ga X.K "NoCircle"), some 2, fun a cls d D σ H => cls = .ref (He.ga X.K "NoCircle") ∧ d = none ∧ tAsg (tCB (rIsE X.K (He.ga X.K "NoCircle") a) (tCons (tVar 2) (tCons (tC (.ref (He.ga X.K "CellError"))) tNil))) (gName 1) D σ H),
        (.ref (He.ga X.K "CellError"), none, fun _ _ _ => tAsg (tC (.bl false)) (gName 1))])
      rfl rfl LamX.takes0 (fun W pn xe tk _ => ?b) (.named (X := (cxOf C8.CX0 X.prog X.w X.K X.mg X.base N_law_no_circle "_law_no_circle" (defScope (top 35)) g cdg X.A X.stack s H C8.E0).nox) (i := 2) sc_law_no_circle.nd rfl rfl (by exact ⟨rfl, by decide, .inl T.g_NoCircle⟩) (fun a oe cls d pn hz hf => ?h1)
        (.plain (by exact ⟨rfl, by decide, .inl T.g_CellError⟩) (fun a oe cls d pn hz hf => ?h2) .nil))) (pss_one (ps_ret (pv 1))))), ?e⟩
  case b =>
    refine ⟨fun pins s' σ H' D I h' => ?_⟩
    obtain ⟨Ech, hW, h1, h2, h3⟩ := h'
    have tk2 : Takes ((cxOf C8.CX0 X.prog X.w X.K X.mg X.base N_law_no_circle "_law_no_circle" (defScope (top 35)) g cdg X.A X.stack s H C8.E0).tr pn xe) (fun c d σ H => σ.length = 3 → W c d σ H) := fun u s' ⟨a, B, sI, pins, σ, H, cls, d, e, I, x1, x2, x3, x4, x5, x6, z⟩ => tk u s' ⟨a, B, sI, pins, σ, H, cls, d, e, I, x1, x2, x3, x4, x5, x6, z I.len⟩
    exact (pss_one (ps_expr (act _ pn xe Ech _ _ tk2 hW))).run pins s' σ H' D I ⟨h1, h2, h3⟩
  case h1 =>
    refine ⟨fun pins s' σ H' D I h' => ?_⟩
    obtain ⟨rfl, rfl, h3⟩ := h'
    exact (pss_one (ps_set (i := 1) sc_law_no_circle.nd rfl (.inl rfl) (pe_callB (call_isE (X := (cxOf C8.CX0 X.prog X.w X.K X.mg X.base N_law_no_circle "_law_no_circle" (defScope (top 35)) g cdg X.A X.stack s H C8.E0).nox) (pn := pn) T.C_NoCircle hz hf) (by rfl) T.m_isinstance (by decide +kernel) (pa_cons (pv 2) (pa_cons (pe_glob (v := .ref (He.ga X.K "CellError")) (by rfl) T.g_CellError rfl) pa_nil))))).run pins s' σ H' D I h3
  case h2 => exact pss_one (ps_set (i := 1) sc_law_no_circle.nd rfl (.inl rfl) pe_bl)
  case e =>
    rw [st_law_no_circle]
    refine ⟨fun cls d H' => cls = .ref (He.ga X.K "NoCircle") ∧ d = none ∧ Q (.bl true) H', fun cls d σ' H' hE hl => ?_, rfl, hc, h⟩
    obtain ⟨rfl, rfl, hQ⟩ := hE
    refine ⟨true, T.e_NoCircle_NoCircle, fun _ a na => ⟨rfl, rfl, ?_⟩, fun z => by cases z⟩
    obtain ⟨s0, s1, s2, rfl⟩ : ∃ s0 s1 s2, σ' = [s0, s1, s2] := by
      match σ', hl with
      | [s0, s1, s2], _ => exact ⟨s0, s1, s2, rfl⟩
    refine g_asg (g_cb (g_cons (g_var (v := .ref a) rfl (g_cons (g_c (g_nil ⟨_, .ref (He.ga X.K "CellError"), true, rfl, fun u r => r, T.k_NoCircle, ?_⟩))))))
    exact ⟨_, rfl, hQ⟩

end

end NC
namespace NC
section
variable {P : Program} {w : World} {K : PySem.W.Frag} {mg : Str → Option Value} {base : Heap}

theorem pow2 (u : Int) : u ^ (2 : Int).toNat = u * u := by
  show u ^ 2 = u * u
  grind
def sp_law_square : Sp := fun vs H Q _ => ∃ (p s : Addr) (x y d sx sy : Int), vs = [.ref p, .ref s] ∧ H p = some (.tup [.int x, .int y, .int d]) ∧ H s = some (.tup [.int sx, .int sy]) ∧ Bd sx ∧ Bd sy ∧ Pl x y d ∧ Q (.int (farZ x y d sx sy)) H
theorem ok_law_square (T : Tops K mg) : FnOk P w K mg base CX0 1 (He.ga K "_law_square") T.fd_law_square P_law_square sp_law_square := by
  refine T.F_law_square.ok sc_law_square (fun vs H Q E h => ?_) (fun cdv A outer s H vs Q E hr h => ?_)
  · obtain ⟨p, s, x, y, d, sx, sy, rfl, hp, hs, bx, by_, hl, q⟩ := h
    rfl
  · obtain ⟨p, s, x, y, d, sx, sy, rfl, hp, hs, bx, by_, hl, q⟩ := h
    refine ⟨_, PSs.nox ((pss_one (ps_ret (pe_op op_add (pe_op op_powA (pe_op op_sub (pe_ix (ix_tupK K) (pv 0) pe_int (fun _ _ => rfl)) (pe_op op_mulA (pe_ix (ix_tupK K) (pv 1) pe_int (fun _ _ => rfl)) (pe_ix (ix_tupK K) (pv 0) pe_int (fun _ _ => rfl)))) pe_int) (pe_op op_powA (pe_op op_sub (pe_ix (ix_tupK K) (pv 0) pe_int (fun _ _ => rfl)) (pe_op op_mulA (pe_ix (ix_tupK K) (pv 1) pe_int (fun _ _ => rfl)) (pe_ix (ix_tupK K) (pv 0) pe_int (fun _ _ => rfl)))) pe_int))))), ?_⟩
    rw [st_law_square]
    obtain ⟨n1, n2, n3, n4, n5⟩ := far_nb hl bx by_
    unfold Bd at bx by_
    walk_at "rd"
    have e : (x - sx * d) ^ (2 : Int).toNat + (y - sy * d) ^ (2 : Int).toNat = farZ x y d sx sy := by
      rw [pow2, pow2]
      rfl
    rw [← e] at q
    exact q

def sp_law_turn : Sp := sp_turn
theorem ok_law_turn (T : Tops K mg) : FnOk P w K mg base CX0 1 (He.ga K "_law_turn") T.fd_law_turn P_law_turn sp_law_turn := by
  refine T.F_law_turn.ok sc_law_turn (fun vs H Q E h => ?_) (fun cdv A outer s H vs Q E hr h => ?_)
  · obtain ⟨pa, pb, pc, ax, ay, bx, by_, cx, cy, rfl, ⟨ha, hb, hc, hd⟩, q⟩ := h
    rfl
  · obtain ⟨pa, pb, pc, ax, ay, bx, by_, cx, cy, rfl, ⟨ha, hb, hc, hd⟩, q⟩ := h
    refine ⟨_, PSs.nox ((pss_one (ps_ret (pe_op op_sub (pe_op op_mul (pe_op op_sub (pe_ix (ix_tupK K) (pv 1) pe_int (fun _ _ => rfl)) (pe_ix (ix_tupK K) (pv 0) pe_int (fun _ _ => rfl))) (pe_op op_sub (pe_ix (ix_tupK K) (pv 2) pe_int (fun _ _ => rfl)) (pe_ix (ix_tupK K) (pv 0) pe_int (fun _ _ => rfl)))) (pe_op op_mul (pe_op op_sub (pe_ix (ix_tupK K) (pv 2) pe_int (fun _ _ => rfl)) (pe_ix (ix_tupK K) (pv 0) pe_int (fun _ _ => rfl))) (pe_op op_sub (pe_ix (ix_tupK K) (pv 1) pe_int (fun _ _ => rfl)) (pe_ix (ix_tupK K) (pv 0) pe_int (fun _ _ => rfl)))))))), ?_⟩
    rw [st_law_turn]
    unfold Bd at hd
    walk_at "rd"
    have e : (bx - ax) * (cy - ay) - (cx - ax) * (by_ - ay) = turnZ ax ay bx by_ cx cy := by
      unfold turnZ
      rw [Int.mul_comm (cx - ax)]
    rw [← e] at q
    exact q
def sp_law_common : Sp := fun vs H Q _ => ∃ a b : Int, vs = [.int a, .int b] ∧ Q (.int (gZ a b)) H
theorem ok_law_common (T : Tops K mg) : FnOk P w K mg base CX0 1 (He.ga K "_law_common") T.fd_law_common P_law_common sp_law_common := by
  refine T.F_law_common.ok sc_law_common (fun vs H Q E h => ?_) (fun cdv A outer s H vs Q E hr h => ?_)
  · obtain ⟨a, b, rfl, q⟩ := h
    rfl
  · obtain ⟨a, b, rfl, q⟩ := h
    refine ⟨_, PSs.nox ((pss_cons (ps_par (i := 0) (j := 1) (by rfl) sc_law_common.nd rfl rfl (by decide) rfl rfl (pa_cons (pe_callB call_absN (by rfl) T.m_abs (by decide +kernel) (pa_cons (pv 0) pa_nil)) (pa_cons (pe_callB call_absN (by rfl) T.m_abs (by decide +kernel) (pa_cons (pv 1) pa_nil)) pa_nil)) (by rfl))
       (pss_cons (ps_while PassesOwn.never (pt_cmpR op_gt (pv 1) pe_int (nomark _))
       (pss_one (ps_par (i := 0) (j := 1) (by rfl) sc_law_common.nd rfl rfl (by decide) rfl rfl (pa_cons (pv 1) (pa_cons (pe_op op_mod (pe_callTy call_intN (by rfl) T.m_int (by decide +kernel) (pa_cons (pv 0) pa_nil)) (pv 1)) pa_nil)) (by rfl))))
       (pss_one (ps_ret (pv 0)))))), ?_⟩
    rw [st_law_common]
    walk_at "rd"
    refine ⟨_, _, rfl, ?_⟩
    walk_at "rd"
    walk_at "nm"
    refine while_by (fun σ H' => H' = H ∧ ∃ x y : Int, σ = [some (.int x), some (.int y)] ∧ 0 ≤ x ∧ 0 ≤ y ∧ gZ x y = gZ a b) (fun σ _ => match σ with
      | [_, some (.int y)] => y.toNat
      | _ => 0) ⟨rfl, _, _, rfl, by split <;> omega, by split <;> omega, gZ_abs a b⟩ ?_ ?_
    · rintro σ H' ⟨rfl, x, y, rfl, hx, hy, e⟩
      walk_at "rd"
      refine ite2 (fun h => ?_) (fun h => ?_)
      · have hy0 : 0 < y := of_decide_eq_true h
        walk_at "rd"
        refine ⟨_, _, rfl, ?_⟩
        walk_at "nm"
        refine ⟨⟨rfl, y, x % y, rfl, hy, Int.emod_nonneg _ (by omega), ?_⟩, ?_⟩
        · rw [gcd_step hx hy0, e]
        · have h1 := Int.emod_lt_of_pos x hy0
          have h2 := Int.emod_nonneg x (show y ≠ 0 by omega)
          show (x % y).toNat < y.toNat
          omega
      · have hy0 : y = 0 := by
          have : ¬ (0 < y) := fun z => h (decide_eq_true z)
          omega
        subst hy0
        walk_at "rd"
        rw [gZ_zero hx] at e
        rw [e]
        exact q
    · intro σ H' Q1 Q2 hq h
      obtain ⟨v, hv, i, j, e1, e2, k, e3, h⟩ := h
      exact ⟨v, hv, i, j, e1, e2, k, e3, hq _ _ h⟩

def sp_law_place : Sp := sp_place_of
theorem ok_law_place (T : Tops K mg) : FnOk P w K mg base CX0 2 (He.ga K "_law_place") T.fd_law_place P_law_place sp_law_place := by
  refine T.F_law_place.ok sc_law_place (fun vs H Q E h => ?_) (fun cdv A outer s H vs Q E hr h => ?_)
  · obtain ⟨x, y, d, rfl, hd, hd2, q⟩ := h
    rfl
  · obtain ⟨x, y, d, rfl, hd, hd2, q⟩ := h
    refine ⟨_, PSs.nox ((C8.pss_cut (ps_set (i := 3) sc_law_place.nd rfl (.inl rfl) (pe_op op_mulA (pe_call (ok_law_common T) (hr.mono (by decide)) (by rfl) T.g_law_common T.F_law_common.kp (b_law_common T) .nil pass0 (pa_cons (pe_call (ok_law_common T) (hr.mono (by decide)) (by rfl) T.g_law_common T.F_law_common.kp (b_law_common T) .nil pass0 (pa_cons (pv 0) (pa_cons (pv 1) pa_nil))) (pa_cons (pv 2) pa_nil))) (pe_ifExp (pt_cmpR op_gt (pv 2) pe_int (nomark _)) pe_int (pe_un un_neg pe_int))))
       (pss_one (ps_ret (pe_tup (pa_cons (pe_op op_fdivA (pv 0) (pv 3)) (pa_cons (pe_op op_fdivA (pv 1) (pv 3)) (pa_cons (pe_op op_fdivA (pv 2) (pv 3)) pa_nil)))))))), ?_⟩
    rw [st_law_place]
    have g0 : 0 < gZ (gZ x y) d := gZ_pos hd
    have g1 : (gZ (gZ x y) d).natAbs < 2 ^ 4000 := Nat.lt_of_le_of_lt (gZ_abs_le hd) hd2
    refine ⟨fun σ' H' => H' = H ∧ σ' = [some (.int x), some (.int y), some (.int d), some (.int (plG x y d))], ?_, ?_⟩
    · walk_at "rd"
      refine ⟨_, _, rfl, ?_⟩
      walk_at "rd"
      refine ⟨_, _, rfl, ?_⟩
      walk_at "rd"
      refine ite2 (fun h => ?_) (fun h => ?_)
      · walk_at "rd"
        refine ⟨rfl, ?_⟩
        unfold plG
        rw [if_pos (of_decide_eq_true h)]
        rfl
      · walk_at "rd"
        refine ⟨rfl, ?_⟩
        unfold plG
        rw [if_neg (fun z => h (decide_eq_true z))]
        rfl
    rintro σ1 H1 ⟨rfl, rfl⟩
    have p0 : plG x y d ≠ 0 := by
      unfold plG
      split <;> omega
    have p1 : (plG x y d).natAbs < 2 ^ 4000 := by
      have e : (plG x y d).natAbs = (gZ (gZ x y) d).natAbs := by
        unfold plG
        split <;> omega
      rw [e]
      exact g1
    walk_at "rd"
    exact ⟨len_le (n := 3) (by decide), fun p hp => q p hp⟩

end

end NC
namespace NC
section
variable {P : Program} {w : World} {K : PySem.W.Frag} {mg : Str → Option Value} {base : Heap}

theorem far_lead (x y d ax ay bx by_ : Int) : farZ x y d ax ay - farZ x y d bx by_ = d * leadZ x y d ax ay bx by_ := by
  unfold farZ leadZ
  grind
theorem pow_rot (ax ay bx by_ cx cy dx dy : Int) : powZ cx cy ax ay bx by_ dx dy = powZ ax ay bx by_ cx cy dx dy := by
  unfold powZ
  grind
theorem turn_rot (ax ay bx by_ cx cy : Int) : turnZ cx cy ax ay bx by_ = turnZ ax ay bx by_ cx cy := by
  unfold turnZ
  grind
theorem pow_swap (ax ay bx by_ cx cy dx dy : Int) : powZ cx cy bx by_ ax ay dx dy = - powZ ax ay bx by_ cx cy dx dy := by
  unfold powZ
  grind
theorem turn_swap (ax ay bx by_ cx cy : Int) : turnZ cx cy bx by_ ax ay = - turnZ ax ay bx by_ cx cy := by
  unfold turnZ
  grind
theorem turn_swap2 (ax ay bx by_ cx cy : Int) : turnZ bx by_ ax ay cx cy = - turnZ ax ay bx by_ cx cy := by
  unfold turnZ
  grind
theorem sgn_nn (a b : Int) : sgn (-a) * sgn (-b) = sgn a * sgn b := by
  rw [sgn_negate, sgn_negate]
  grind
theorem lead_pow (ax ay bx by_ cx cy dx dy : Int) : leadZ (cnX ax ay bx by_ cx cy) (cnY ax ay bx by_ cx cy) (cnD ax ay bx by_ cx cy) ax ay dx dy = 2 * powZ ax ay bx by_ cx cy dx dy := by
  unfold leadZ cnX cnY cnD turnZ powZ
  grind
/-- power and distances -/
theorem Cen.pow {ax ay bx by_ cx cy x y d : Int} (h : Cen ax ay bx by_ cx cy x y d) (dx dy : Int) : turnZ ax ay bx by_ cx cy * (farZ x y d ax ay - farZ x y d dx dy) = d * d * powZ ax ay bx by_ cx cy dx dy := by
  have e := lead_pow ax ay bx by_ cx cy dx dy
  rw [h.ex, h.ey, h.ed, lead_mul] at e
  have ed : 2 * turnZ ax ay bx by_ cx cy = cnG ax ay bx by_ cx cy * d := h.ed
  rw [far_lead]
  have g0 := h.gne
  generalize cnG ax ay bx by_ cx cy = g at *
  generalize leadZ x y d ax ay dx dy = l at *
  generalize powZ ax ay bx by_ cx cy dx dy = p at *
  generalize turnZ ax ay bx by_ cx cy = t at *
  have h1 : 2 * (t * (d * l)) = 2 * (d * d * p) := by grind
  omega
def dueC (far reach : Int) : Int := if far = reach then 0 else if far < reach then 1 else -1
theorem sgn_mul_pos {a b : Int} (h : 0 < a) : sgn (a * b) = sgn b := by
  rcases (show b < 0 ∨ b = 0 ∨ 0 < b by omega) with z | z | z
  · rw [sgn_neg z, sgn_neg (Int.mul_neg_of_pos_of_neg h z)]
  · rw [z, Int.mul_zero]
  · rw [sgn_pos z, sgn_pos (Int.mul_pos h z)]
theorem sgn_mul (a b : Int) : sgn (a * b) = sgn a * sgn b := by
  rcases (show a < 0 ∨ a = 0 ∨ 0 < a by omega) with z | z | z
  · rw [show a * b = - ((-a) * b) by grind, sgn_negate, sgn_mul_pos (by omega), sgn_neg z]
    omega
  · rw [z, Int.zero_mul, sgn_zero rfl, Int.zero_mul]
  · rw [sgn_mul_pos z, sgn_pos z, Int.one_mul]
theorem due_pow {ax ay bx by_ cx cy x y d : Int} (h : Cen ax ay bx by_ cx cy x y d) (ht : turnZ ax ay bx by_ cx cy ≠ 0) (dx dy : Int) : sgn (powZ ax ay bx by_ cx cy dx dy) * sgn (turnZ ax ay bx by_ cx cy) = dueC (farZ x y d dx dy) (farZ x y d ax ay) := by
  have e := h.pow dx dy
  have dp : 0 < d * d := Int.mul_pos (by have := h.pl.d1; omega) (by have := h.pl.d1; omega)
  have e2 : sgn (powZ ax ay bx by_ cx cy dx dy) = sgn (turnZ ax ay bx by_ cx cy) * sgn (farZ x y d ax ay - farZ x y d dx dy) := by
    rw [← sgn_mul_pos (b := powZ ax ay bx by_ cx cy dx dy) dp, ← e, sgn_mul]
  have tt : sgn (turnZ ax ay bx by_ cx cy) * sgn (turnZ ax ay bx by_ cx cy) = 1 := by
    rcases (show turnZ ax ay bx by_ cx cy < 0 ∨ 0 < turnZ ax ay bx by_ cx cy by omega) with z | z
    · rw [sgn_neg z] <;> rfl
    · rw [sgn_pos z] <;> rfl
  rw [e2]
  have e3 : sgn (turnZ ax ay bx by_ cx cy) * sgn (farZ x y d ax ay - farZ x y d dx dy) * sgn (turnZ ax ay bx by_ cx cy) = sgn (farZ x y d ax ay - farZ x y d dx dy) := by
    generalize sgn (turnZ ax ay bx by_ cx cy) = t at tt
    generalize sgn (farZ x y d ax ay - farZ x y d dx dy) = u
    grind
  rw [e3]
  unfold dueC
  rcases (show farZ x y d dx dy = farZ x y d ax ay ∨ farZ x y d dx dy < farZ x y d ax ay ∨ farZ x y d ax ay < farZ x y d dx dy by omega) with z | z | z
  · rw [if_pos z, sgn_zero (by omega)]
  · rw [if_neg (by omega), if_pos z, sgn_pos (by omega)]
  · rw [if_neg (by omega), if_neg (by omega), sgn_neg (by omega)]
theorem Cen.same {ax ay bx by_ cx cy x y d : Int} (h : Cen ax ay bx by_ cx cy x y d) : farZ x y d bx by_ = farZ x y d ax ay ∧ farZ x y d cx cy = farZ x y d ax ay := by
  obtain ⟨h1, h2⟩ := h.lead
  have e1 := far_lead x y d ax ay bx by_
  have e2 := far_lead x y d bx by_ cx cy
  rw [h1, Int.mul_zero] at e1
  rw [h2, Int.mul_zero] at e2
  omega
/-- places in lowest terms are one if they are one point -/
theorem low_dvd {x y d d2 x2 y2 : Int} (hd2 : 0 < d2) (low : gZ (gZ x y) d = 1) (ex : x * d2 = x2 * d) (ey : y * d2 = y2 * d) : d ∣ d2 := by
  have e1 : gZ (d2 * x) (d2 * y) = d2 * gZ x y := by
    unfold gZ
    rw [Int.gcd_mul_left, Int.natCast_mul, Int.natAbs_of_nonneg (by omega)]
  have e2 : gZ (gZ (d2 * x) (d2 * y)) (d2 * d) = d2 := by
    rw [e1]
    show (Int.gcd (d2 * gZ x y) (d2 * d) : Int) = d2
    rw [Int.gcd_mul_left, Int.natCast_mul, Int.natAbs_of_nonneg (by omega)]
    show d2 * gZ (gZ x y) d = d2
    rw [low, Int.mul_one]
  have k1 : d ∣ d2 * x := ⟨x2, by rw [Int.mul_comm d2, ex, Int.mul_comm]⟩
  have k2 : d ∣ d2 * y := ⟨y2, by rw [Int.mul_comm d2, ey, Int.mul_comm]⟩
  have k3 : d ∣ gZ (d2 * x) (d2 * y) := Int.dvd_coe_gcd k1 k2
  have k4 : d ∣ gZ (gZ (d2 * x) (d2 * y)) (d2 * d) := Int.dvd_coe_gcd k3 ⟨d2, Int.mul_comm _ _⟩
  rw [e2] at k4
  exact k4
theorem low_uniq {x y d x2 y2 d2 : Int} (h1 : 0 < d) (h2 : 0 < d2) (l1 : gZ (gZ x y) d = 1) (l2 : gZ (gZ x2 y2) d2 = 1) (ex : x * d2 = x2 * d) (ey : y * d2 = y2 * d) : x = x2 ∧ y = y2 ∧ d = d2 := by
  have e : d = d2 := Int.le_antisymm (Int.le_of_dvd h2 (low_dvd h2 l1 ex ey)) (Int.le_of_dvd h1 (low_dvd h1 l2 ex.symm ey.symm))
  subst e
  exact ⟨Int.eq_of_mul_eq_mul_right (by omega) ex, Int.eq_of_mul_eq_mul_right (by omega) ey, rfl⟩
/-- the two leads fix the place -/
theorem lead_fix {x y d ax ay bx by_ cx cy : Int} (h1 : leadZ x y d ax ay bx by_ = 0) (h2 : leadZ x y d bx by_ cx cy = 0) : cnX ax ay bx by_ cx cy * d = x * cnD ax ay bx by_ cx cy ∧ cnY ax ay bx by_ cx cy * d = y * cnD ax ay bx by_ cx cy := by
  unfold leadZ at h1 h2
  unfold cnX cnY cnD turnZ
  constructor
  · grind
  · grind
theorem lead_neg (x y d ax ay bx by_ : Int) : leadZ x y d bx by_ ax ay = - leadZ x y d ax ay bx by_ := by
  unfold leadZ
  grind
theorem lead_tri (x y d ax ay bx by_ cx cy : Int) : leadZ x y d ax ay cx cy = leadZ x y d ax ay bx by_ + leadZ x y d bx by_ cx cy := by
  unfold leadZ
  grind
theorem Cen.of_leads {ax ay bx by_ cx cy x y d x2 y2 d2 : Int} (h : Cen ax ay bx by_ cx cy x y d) (ht : turnZ ax ay bx by_ cx cy ≠ 0) (p2 : 0 < d2) (l2 : gZ (gZ x2 y2) d2 = 1) (h1 : leadZ x2 y2 d2 ax ay bx by_ = 0) (h2 : leadZ x2 y2 d2 bx by_ cx cy = 0) : x = x2 ∧ y = y2 ∧ d = d2 := by
  obtain ⟨f1, f2⟩ := lead_fix h1 h2
  rw [h.ex, h.ed] at f1
  rw [h.ey, h.ed] at f2
  have g0 := h.gne
  refine low_uniq (by have := h.pl.d1; omega) p2 h.pl.low l2 ?_ ?_
  · refine Int.eq_of_mul_eq_mul_left g0 ?_
    rw [← Int.mul_assoc, f1]
    grind
  · refine Int.eq_of_mul_eq_mul_left g0 ?_
    rw [← Int.mul_assoc, f2]
    grind
/-- another order of the three sites -/
theorem Cen.swap {ax ay bx by_ cx cy x y d x2 y2 d2 : Int} (h : Cen ax ay bx by_ cx cy x y d) (ht : turnZ ax ay bx by_ cx cy ≠ 0) (k : Cen bx by_ ax ay cx cy x2 y2 d2) : x2 = x ∧ y2 = y ∧ d2 = d := by
  obtain ⟨k1, k2⟩ := k.lead
  have z1 := lead_neg x2 y2 d2 bx by_ ax ay
  have z2 := lead_tri x2 y2 d2 bx by_ ax ay cx cy
  obtain ⟨e1, e2, e3⟩ := h.of_leads ht (by have := k.pl.d1; omega) k.pl.low (by omega) (by omega)
  exact ⟨e1.symm, e2.symm, e3.symm⟩
theorem Cen.again {ax ay bx by_ cx cy x y d x2 y2 d2 : Int} (h : Cen ax ay bx by_ cx cy x y d) (k : Cen ax ay bx by_ cx cy x2 y2 d2) : x2 = x ∧ y2 = y ∧ d2 = d := by
  rw [h.fx, h.fy, h.fd, k.fx, k.fy, k.fd]
  exact ⟨rfl, rfl, rfl⟩

end

end NC
namespace NC
section
variable {P : Program} {w : World} {K : PySem.W.Frag} {mg : Str → Option Value} {base : Heap}

def lcX (ax ay bx by_ cx cy : Int) : Int := (bx * bx + by_ * by_ - ax * ax - ay * ay) * (2 * (cy - ay)) - (cx * cx + cy * cy - ax * ax - ay * ay) * (2 * (by_ - ay))
def lcY (ax ay bx by_ cx cy : Int) : Int := 2 * (bx - ax) * (cx * cx + cy * cy - ax * ax - ay * ay) - 2 * (cx - ax) * (bx * bx + by_ * by_ - ax * ax - ay * ay)
def lcD (ax ay bx by_ cx cy : Int) : Int := 2 * (bx - ax) * (2 * (cy - ay)) - 2 * (cx - ax) * (2 * (by_ - ay))
theorem lc_eq (ax ay bx by_ cx cy : Int) : lcX ax ay bx by_ cx cy = 2 * cnX ax ay bx by_ cx cy ∧ lcY ax ay bx by_ cx cy = 2 * cnY ax ay bx by_ cx cy ∧ lcD ax ay bx by_ cx cy = 2 * cnD ax ay bx by_ cx cy := by
  unfold lcX lcY lcD cnX cnY cnD turnZ
  refine ⟨?_, ?_, ?_⟩
  · grind
  · grind
  · grind
theorem lc_place {ax ay bx by_ cx cy x y d : Int} (h : Cen ax ay bx by_ cx cy x y d) (ht : turnZ ax ay bx by_ cx cy ≠ 0) :
    (lcX ax ay bx by_ cx cy).fdiv (plG (lcX ax ay bx by_ cx cy) (lcY ax ay bx by_ cx cy) (lcD ax ay bx by_ cx cy)) = x ∧
    (lcY ax ay bx by_ cx cy).fdiv (plG (lcX ax ay bx by_ cx cy) (lcY ax ay bx by_ cx cy) (lcD ax ay bx by_ cx cy)) = y ∧
    (lcD ax ay bx by_ cx cy).fdiv (plG (lcX ax ay bx by_ cx cy) (lcY ax ay bx by_ cx cy) (lcD ax ay bx by_ cx cy)) = d := by
  obtain ⟨e1, e2, e3⟩ := lc_eq ax ay bx by_ cx cy
  have hd : lcD ax ay bx by_ cx cy ≠ 0 := by
    rw [e3]
    unfold cnD
    omega
  obtain ⟨x', y', d', ex, ey, ed, hd', low, gne, f1, f2, f3, _, _, _⟩ := place_low (x := lcX ax ay bx by_ cx cy) (y := lcY ax ay bx by_ cx cy) hd
  rw [f1, f2, f3]
  clear f1 f2 f3
  generalize plG (lcX ax ay bx by_ cx cy) (lcY ax ay bx by_ cx cy) (lcD ax ay bx by_ cx cy) = g at ex ey ed gne
  have l1 := lead_cn1 ax ay bx by_ cx cy
  have l2 := lead_cn2 ax ay bx by_ cx cy
  have m1 := lead_mul 2 (cnX ax ay bx by_ cx cy) (cnY ax ay bx by_ cx cy) (cnD ax ay bx by_ cx cy) ax ay bx by_
  have m2 := lead_mul 2 (cnX ax ay bx by_ cx cy) (cnY ax ay bx by_ cx cy) (cnD ax ay bx by_ cx cy) bx by_ cx cy
  rw [l1, Int.mul_zero, ← e1, ← e2, ← e3, ex, ey, ed, lead_mul] at m1
  rw [l2, Int.mul_zero, ← e1, ← e2, ← e3, ex, ey, ed, lead_mul] at m2
  have z1 := (Int.mul_eq_zero.mp m1).resolve_left gne
  have z2 := (Int.mul_eq_zero.mp m2).resolve_left gne
  obtain ⟨q1, q2, q3⟩ := h.of_leads ht hd' low z1 z2
  exact ⟨q1.symm, q2.symm, q3.symm⟩
def sp_law_centre : Sp := fun vs H Q _ => ∃ pa pb pc ax ay bx by_ cx cy x y d, vs = [.ref pa, .ref pb, .ref pc] ∧ S3 H pa pb pc ax ay bx by_ cx cy ∧ turnZ ax ay bx by_ cx cy ≠ 0 ∧ Cen ax ay bx by_ cx cy x y d ∧ ∀ p, H p = none → Q (.ref p) (upd H p (.tup [.int x, .int y, .int d]))
theorem ok_law_centre (T : Tops K mg) : FnOk P w K mg base CX0 3 (He.ga K "_law_centre") T.fd_law_centre P_law_centre sp_law_centre := by
  refine T.F_law_centre.ok sc_law_centre (fun vs H Q E h => ?_) (fun cdv A outer s H vs Q E hr h => ?_)
  · obtain ⟨pa, pb, pc, ax, ay, bx, by_, cx, cy, x, y, d, rfl, ⟨ha, hb, hc, hd⟩, ht, hC, q⟩ := h
    rfl
  · obtain ⟨pa, pb, pc, ax, ay, bx, by_, cx, cy, x, y, d, rfl, ⟨ha, hb, hc, hd⟩, ht, hC, q⟩ := h
    refine ⟨_, PSs.nox ((pss_cons (ps_par (i := 3) (j := 4) (by rfl) sc_law_centre.nd rfl rfl (by decide) rfl rfl (pa_cons (pe_op op_mulA pe_int (pe_op op_sub (pe_ix (ix_tupK K) (pv 1) pe_int (fun _ _ => rfl)) (pe_ix (ix_tupK K) (pv 0) pe_int (fun _ _ => rfl)))) (pa_cons (pe_op op_mulA pe_int (pe_op op_sub (pe_ix (ix_tupK K) (pv 1) pe_int (fun _ _ => rfl)) (pe_ix (ix_tupK K) (pv 0) pe_int (fun _ _ => rfl)))) pa_nil)) (by rfl))
       (pss_cons (ps_par (i := 5) (j := 6) (by rfl) sc_law_centre.nd rfl rfl (by decide) rfl rfl (pa_cons (pe_op op_mulA pe_int (pe_op op_sub (pe_ix (ix_tupK K) (pv 2) pe_int (fun _ _ => rfl)) (pe_ix (ix_tupK K) (pv 0) pe_int (fun _ _ => rfl)))) (pa_cons (pe_op op_mulA pe_int (pe_op op_sub (pe_ix (ix_tupK K) (pv 2) pe_int (fun _ _ => rfl)) (pe_ix (ix_tupK K) (pv 0) pe_int (fun _ _ => rfl)))) pa_nil)) (by rfl))
       (pss_cons (ps_set (i := 7) sc_law_centre.nd rfl (.inl rfl) (pe_op op_sub (pe_op op_sub (pe_op op_add (pe_op op_mulA (pe_ix (ix_tupK K) (pv 1) pe_int (fun _ _ => rfl)) (pe_ix (ix_tupK K) (pv 1) pe_int (fun _ _ => rfl))) (pe_op op_mulA (pe_ix (ix_tupK K) (pv 1) pe_int (fun _ _ => rfl)) (pe_ix (ix_tupK K) (pv 1) pe_int (fun _ _ => rfl)))) (pe_op op_mulA (pe_ix (ix_tupK K) (pv 0) pe_int (fun _ _ => rfl)) (pe_ix (ix_tupK K) (pv 0) pe_int (fun _ _ => rfl)))) (pe_op op_mulA (pe_ix (ix_tupK K) (pv 0) pe_int (fun _ _ => rfl)) (pe_ix (ix_tupK K) (pv 0) pe_int (fun _ _ => rfl)))))
       (pss_cons (ps_set (i := 8) sc_law_centre.nd rfl (.inl rfl) (pe_op op_sub (pe_op op_sub (pe_op op_add (pe_op op_mulA (pe_ix (ix_tupK K) (pv 2) pe_int (fun _ _ => rfl)) (pe_ix (ix_tupK K) (pv 2) pe_int (fun _ _ => rfl))) (pe_op op_mulA (pe_ix (ix_tupK K) (pv 2) pe_int (fun _ _ => rfl)) (pe_ix (ix_tupK K) (pv 2) pe_int (fun _ _ => rfl)))) (pe_op op_mulA (pe_ix (ix_tupK K) (pv 0) pe_int (fun _ _ => rfl)) (pe_ix (ix_tupK K) (pv 0) pe_int (fun _ _ => rfl)))) (pe_op op_mulA (pe_ix (ix_tupK K) (pv 0) pe_int (fun _ _ => rfl)) (pe_ix (ix_tupK K) (pv 0) pe_int (fun _ _ => rfl)))))
       (pss_one (ps_ret (pe_call (ok_law_place T) (hr.mono (by decide)) (by rfl) T.g_law_place T.F_law_place.kp (b_law_place T) .nil pass0 (pa_cons (pe_op op_sub (pe_op op_mulA (pv 7) (pv 6)) (pe_op op_mulA (pv 8) (pv 4))) (pa_cons (pe_op op_sub (pe_op op_mulA (pv 3) (pv 8)) (pe_op op_mulA (pv 5) (pv 7))) (pa_cons (pe_op op_sub (pe_op op_mulA (pv 3) (pv 6)) (pe_op op_mulA (pv 5) (pv 4))) pa_nil))))))))))), ?_⟩
    rw [st_law_centre]
    have nb := (cn_nb hd).2.2
    unfold Bd at hd
    walk_at "rd"
    refine ⟨_, _, rfl, ?_⟩
    walk_at "rd"
    refine ⟨_, _, rfl, ?_⟩
    walk_at "rd"
    obtain ⟨e1, e2, e3⟩ := lc_eq ax ay bx by_ cx cy
    obtain ⟨f1, f2, f3⟩ := lc_place hC ht
    refine ⟨lcX ax ay bx by_ cx cy, lcY ax ay bx by_ cx cy, lcD ax ay bx by_ cx cy, rfl, ?_, ?_, fun p hp => ?_⟩
    · rw [e3]
      unfold cnD
      omega
    · refine pow_mono (a := 100) ?_ (by decide)
      have e : (2 : Nat) ^ 100 = 1267650600228229401496703205376 := by decide
      rw [e, e3]
      omega
    · rw [f1, f2, f3]
      exact q p hp

end

end NC
namespace NC
section
variable {P : Program} {w : World} {K : PySem.W.Frag} {mg : Str → Option Value} {base : Heap}

theorem tk_ext {H H' : Hp} (e : LamX.ExtN H H') : TK H H' := fun p xs h => e p _ h (fun ps z => by cases z)
theorem dp3 {H : Hp} {p : Addr} {a b c : Int} (h : H p = some (.tup [.int a, .int b, .int c])) : Dp K H (.ref p) (.tuple [.int a, .int b, .int c]) := .tup (SqT.of h) (.cons (.int _) (.cons (.int _) (.cons (.int _) .nil)))
theorem dp2 {H : Hp} {p : Addr} {a b : Int} (h : H p = some (.tup [.int a, .int b])) : Dp K H (.ref p) (.tuple [.int a, .int b]) := .tup (SqT.of h) (.cons (.int _) (.cons (.int _) .nil))
theorem dpL2 {H : Hp} {p : Addr} {a b : Int} (h : H p = some (.lst [.int a, .int b])) : Dp K H (.ref p) (.list [.int a, .int b]) := .lst (SqL.of h) (.cons (.int _) (.cons (.int _) .nil))
theorem dpC {H : Hp} {r p q : Addr} {a b c d e : Int} (h : H r = some (.tup [.ref p, .ref q])) (h1 : H p = some (.tup [.int a, .int b, .int c])) (h2 : H q = some (.tup [.int d, .int e])) : Dp K H (.ref r) (.tuple [.tuple [.int a, .int b, .int c], .tuple [.int d, .int e]]) := .tup (SqT.of h) (.cons (dp3 h1) (.cons (dp2 h2) .nil))
theorem eqv3 (a b c : Int) : PyData.eqv (.tuple [.int a, .int b, .int c]) (.tuple [.int a, .int b, .int c]) = true := by
  simp [PyData.eqv, PyData.eqvAll]
theorem eqv2 (a b : Int) : PyData.eqv (.tuple [.int a, .int b]) (.tuple [.int a, .int b]) = true := by
  simp [PyData.eqv, PyData.eqvAll]
theorem eqvL (a b : Int) : PyData.eqv (.list [.int a, .int b]) (.list [.int a, .int b]) = true := by
  simp [PyData.eqv, PyData.eqvAll]
theorem eqvC (a b c d e : Int) : PyData.eqv (.tuple [.tuple [.int a, .int b, .int c], .tuple [.int d, .int e]]) (.tuple [.tuple [.int a, .int b, .int c], .tuple [.int d, .int e]]) = true := by
  simp [PyData.eqv, PyData.eqvAll]
def sp_law_right (K : PySem.W.Frag) : Sp := fun vs H Q _ => ∃ (pa pb pc l : Addr) (ax ay bx by_ cx cy : Int) (zs : List V), vs = [.ref pa, .ref pb, .ref pc, .ref l] ∧ S3 H pa pb pc ax ay bx by_ cx cy ∧ H l = some (.lst zs) ∧ SitesL H zs ∧ LamX.Tabs (tbs K) H ∧
  ∀ H', LamX.ExtN H H' → LamX.Tabs (tbs K) H' → Q (.bl true) H'
theorem ok_law_right (T : Tops K mg) (tb : LamX.TabB base mg (He.cT K ("_law_right", none)).1 (He.cT K ("_law_right", none)).2) : FnOk P w K mg base CX0 13 (He.ga K "_law_right") T.fd_law_right P_law_right (sp_law_right K) := by
  obtain ⟨oc_law_no_circle, od_law_no_circle, dV_law_no_circle, kV_law_no_circle, doc_law_no_circle, pm_law_no_circle, an_law_no_circle, cdv_law_no_circle, ct_law_no_circle, osl_law_no_circle, efd_law_no_circle, lk_law_no_circle, hc_law_no_circle, _, _⟩ := T.F_law_no_circle.ex
  have hb_law_no_circle := b_law_no_circle T
  rw [efd_law_no_circle] at lk_law_no_circle hb_law_no_circle
  refine T.F_law_right.okC (p := ("_law_right", none)) rfl sc_law_right (fun vs H Q E h => ?_) (fun A outer s H vs Q E hr h => ?_)
  · obtain ⟨pa, pb, pc, l, ax, ay, bx, by_, cx, cy, zs, rfl, S, hl, hz, ht0, q⟩ := h
    rfl
  · obtain ⟨pa, pb, pc, l, ax, ay, bx, by_, cx, cy, zs, rfl, S, hl, hz, ht0, q⟩ := h
    refine ⟨_, PSs.nox ((pss_cons (ps_if (pt_cmpR op_eq (pe_call (ok_law_turn T) (hr.mono (by decide)) (by rfl) T.g_law_turn T.F_law_turn.kp (b_law_turn T) .nil pass0 (pa_cons (pv 0) (pa_cons (pv 1) (pa_cons (pv 2) pa_nil)))) pe_int (nomark _))
       (pss_cons (ps_if (pt_not (pt_val (LamX.pe_lamcall (T := tbs K) (TT := TT_law_no_circle K) (k := 8) (a := "_law_call") (Ng := N_law_no_circle) (by rfl) T.g_law_no_circle T.F_law_no_circle.kp lk_law_no_circle hc_law_no_circle hb_law_no_circle sc_law_no_circle rfl (.inl rfl) (gives_law_no_circle T) tb rfl (tbs_mem K) (tbs_uniq K) (hr.mono (by decide)) (LamX.lamS_by (show LamX.lamSB (defScope (top 36)) _ = true by decide +kernel)) rfl (fun _ _ _ _ _ => rfl) (fun A outer s H E f c' hr => (pe_call (okx_circle T) (hr.mono (by decide)) (by rfl) T.g_circle T.F_circle.kp (b_circle T) .nil (passes_call (takes_of rfl rfl rfl rfl) (fun _ _ _ _ h => h)) (pa_cons (pv 0) (pa_cons (pv 1) (pa_cons (pv 2) pa_nil))))))))
       (pss_one (ps_ret pe_bl))
       pss_nil)
       (pss_one (ps_ret (LamX.pe_lamcall (T := tbs K) (TT := TT_law_no_circle K) (k := 8) (a := "_law_call") (Ng := N_law_no_circle) (by rfl) T.g_law_no_circle T.F_law_no_circle.kp lk_law_no_circle hc_law_no_circle hb_law_no_circle sc_law_no_circle rfl (.inl rfl) (gives_law_no_circle T) tb rfl (tbs_mem K) (tbs_uniq K) (hr.mono (by decide)) (LamX.lamS_by (show LamX.lamSB (defScope (top 36)) _ = true by decide +kernel)) rfl (fun _ _ _ _ _ => rfl) (fun A outer s H E f c' hr => (pe_call (okx_in_circle T) (hr.mono (by decide)) (by rfl) T.g_in_circle T.F_in_circle.kp (b_in_circle T) .nil (passes_call (takes_of rfl rfl rfl rfl) (fun _ _ _ _ h => h)) (pa_cons (pv 0) (pa_cons (pv 1) (pa_cons (pv 2) (pa_cons (pe_ix (ix_listK K) (pv 3) pe_int (fun _ _ => rfl)) pa_nil))))))))))
       pss_nil)
       (pss_cons (ps_asg (pe_call (ok_circle T) (hr.mono (by decide)) (by rfl) T.g_circle T.F_circle.kp (b_circle T) .nil pass0 (pa_cons (pv 0) (pa_cons (pv 1) (pa_cons (pv 2) pa_nil)))) (pg_tup rfl (pgs_cons (pg_name (i := 4) sc_law_right.nd rfl (.inr rfl)) (pgs_cons (pg_name (i := 5) sc_law_right.nd rfl (.inl rfl)) pgs_nil))))
       (pss_cons (ps_set (i := 6) sc_law_right.nd rfl (.inl rfl) (pe_call (ok_law_square T) (hr.mono (by decide)) (by rfl) T.g_law_square T.F_law_square.kp (b_law_square T) .nil pass0 (pa_cons (pv 4) (pa_cons (pv 0) pa_nil))))
       (pss_cons (ps_if (pt_cmpR (op_neDK K hr.units) (pv 4) (pe_call (ok_law_centre T) (hr.mono (by decide)) (by rfl) T.g_law_centre T.F_law_centre.kp (b_law_centre T) .nil pass0 (pa_cons (pv 0) (pa_cons (pv 1) (pa_cons (pv 2) pa_nil)))) (nomark _))
       (pss_one (ps_ret pe_bl))
       pss_nil)
       (pss_cons (ps_if (pt_cmpR op_lt (pe_ix (ix_tupK K) (pv 4) pe_int (fun _ _ => rfl)) pe_int (nomark _))
       (pss_one (ps_ret pe_bl))
       pss_nil)
       (pss_cons (ps_if (pt_cmpR (op_neDK K hr.units) (pe_lc (own := [("_law_site", 11)]) (g := gName 11) (tt := tYes) rfl sc_law_right.nd (pi_tupK K (pe_tup (pa_cons (pv 1) (pa_cons (pv 2) pa_nil)))) (blkOk_by (own := [("_law_site", 11)]) (N := N_law_right) (sc := defScope (top 36)) (by decide +kernel)) (fun _ _ _ _ _ => (pg_name (i := 11) sc_law_right.nd rfl (.inl rfl))) (fun _ _ _ _ _ => pts_nil) (fun _ _ _ _ _ => (pe_call (ok_law_square T) (hr.mono (by decide)) (by rfl) T.g_law_square T.F_law_square.kp (b_law_square T) .nil pass0 (pa_cons (pv 4) (pa_cons (pv 11) pa_nil))))) (pe_op op_rep (pe_lst (pa_cons (pv 6) pa_nil)) pe_int) (nomark _))
       (pss_one (ps_ret pe_bl))
       pss_nil)
       (pss_cons (ps_set (i := 7) sc_law_right.nd rfl (.inl rfl) (pe_call (ok_law_common T) (hr.mono (by decide)) (by rfl) T.g_law_common T.F_law_common.kp (b_law_common T) .nil pass0 (pa_cons (pv 6) (pa_cons (pe_op op_mulA (pe_ix (ix_tupK K) (pv 4) pe_int (fun _ _ => rfl)) (pe_ix (ix_tupK K) (pv 4) pe_int (fun _ _ => rfl))) pa_nil))))
       (pss_cons (ps_if (pt_cmpR (op_neDK K hr.units) (pv 5) (pe_tup (pa_cons (pe_op op_fdivA (pv 6) (pv 7)) (pa_cons (pe_op op_fdivA (pe_op op_mulA (pe_ix (ix_tupK K) (pv 4) pe_int (fun _ _ => rfl)) (pe_ix (ix_tupK K) (pv 4) pe_int (fun _ _ => rfl))) (pv 7)) pa_nil))) (nomark _))
       (pss_one (ps_ret pe_bl))
       pss_nil)
       (pss_cons (ps_if (pt_cmpR (op_neDK K hr.units) (pe_callN0 (ok_circle T) (hr.mono (by decide)) (by rfl) T.g_circle T.F_circle.kp (kb_circle_c_b_a T) pass0 (pk_cons (pv 2) (pk_cons (pv 1) (pk_cons (pv 0) pk_nil)))) (pe_tup (pa_cons (pv 4) (pa_cons (pv 5) pa_nil))) (nomark _))
       (pss_one (ps_ret pe_bl))
       pss_nil)
       (pss_cons (ps_for PassesOwn.never rfl (pi_listK K (pv 3)) (pg_name (i := 8) sc_law_right.nd rfl (.inl rfl))
       (pss_cons (ps_set (i := 9) sc_law_right.nd rfl (.inl rfl) (pe_call (ok_law_square T) (hr.mono (by decide)) (by rfl) T.g_law_square T.F_law_square.kp (b_law_square T) .nil pass0 (pa_cons (pv 4) (pa_cons (pv 8) pa_nil))))
       (C8.pss_cut (ps_set (i := 10) sc_law_right.nd rfl (.inl rfl) (pe_ifExp (pt_cmpR op_eq (pv 9) (pv 6) (nomark _)) pe_int (pe_ifExp (pt_cmpR op_lt (pv 9) (pv 6) (nomark _)) pe_int (pe_un un_neg pe_int))))
       (pss_cons (ps_if (pt_cmpR op_ne (pe_call (ok_in_circle T) (hr.mono (by decide)) (by rfl) T.g_in_circle T.F_in_circle.kp (b_in_circle T) .nil pass0 (pa_cons (pv 0) (pa_cons (pv 1) (pa_cons (pv 2) (pa_cons (pv 8) pa_nil))))) (pv 10) (nomark _))
       (pss_one (ps_ret pe_bl))
       pss_nil)
       (pss_cons (ps_if (pt_cmpR op_ne (pe_call (ok_in_circle T) (hr.mono (by decide)) (by rfl) T.g_in_circle T.F_in_circle.kp (b_in_circle T) .nil pass0 (pa_cons (pv 2) (pa_cons (pv 1) (pa_cons (pv 0) (pa_cons (pv 8) pa_nil))))) (pv 10) (nomark _))
       (pss_one (ps_ret pe_bl))
       pss_nil)
       (pss_one (ps_if (pt_cmpR op_ne (pe_callN0 (ok_in_circle T) (hr.mono (by decide)) (by rfl) T.g_in_circle T.F_in_circle.kp (kb_in_circle_d_c_b_a T) pass0 (pk_cons (pv 8) (pk_cons (pv 0) (pk_cons (pv 2) (pk_cons (pv 1) pk_nil))))) (pv 10) (nomark _))
       (pss_one (ps_ret pe_bl))
       pss_nil)))))))
       (pss_one (ps_ret (pe_cmpR (op_eqDK K hr.units) (pe_call (ok_circle T) (hr.mono (by decide)) (by rfl) T.g_circle T.F_circle.kp (b_circle T) .nil pass0 (pa_cons (pv 1) (pa_cons (pv 0) (pa_cons (pv 2) pa_nil)))) (pe_tup (pa_cons (pv 4) (pa_cons (pv 5) pa_nil))) (nomark _))))))))))))))), ?_⟩
    rw [st_law_right]
    walk_at "rd"
    refine ⟨pa, pb, pc, ax, ay, bx, by_, cx, cy, rfl, S, ?_⟩
    walk_at "rd"
    refine ite2 (fun h => ?_) (fun h => ?_)
    · have ht := of_decide_eq_true h
      walk_at "rd"
      refine ⟨ht0, fun H1 e1 t1 => ?_⟩
      refine g_no ?_
      walk_at "rd"
      refine ⟨pa, pb, pc, ax, ay, bx, by_, cx, cy, rfl, S.mono (tk_ext e1), ht, fun H2 h2 => ⟨rfl, rfl, ?_⟩⟩
      walk_at "rd"
      refine iteF ?_
      walk_at "rd"
      refine ⟨t1.ext h2, fun H3 e3 t3 => ?_⟩
      refine g_no ?_
      have e13 : LamX.ExtN H H3 := (e1.trans (.of h2)).trans e3
      have S3' := S.mono (tk_ext e13)
      have hl3 : H3 l = some (.lst zs) := e13 _ _ hl (fun ps z => by cases z)
      have hz3 := hz.mono (tk_ext e13)
      obtain ⟨z0, zr, ez⟩ : ∃ z0 zr, zs = z0 :: zr := by
        match zs, hz.1 with
        | z0 :: zr, _ => exact ⟨z0, zr, rfl⟩
      obtain ⟨p0, x0, y0, e0, h0, b0⟩ := hz3.2.2 z0 (by rw [ez]; exact List.mem_cons_self)
      walk_at "rd"
      refine g_ixL (v := .ref p0) hl3 (by rw [ez, e0]; exact atI_nat (j := 0) rfl) ?_
      walk_at "rd"
      refine ⟨pa, pb, pc, p0, ax, ay, bx, by_, cx, cy, x0, y0, rfl, ⟨S3', h0, b0⟩, ht, fun H4 h4 => ⟨rfl, rfl, ?_⟩⟩
      exact q _ (e13.trans (.of h4)) (t3.ext h4)
    · have ht : turnZ ax ay bx by_ cx cy ≠ 0 := fun z => h (decide_eq_true z)
      walk_at "rd"
      refine ⟨pa, pb, pc, ax, ay, bx, by_, cx, cy, rfl, S, ht, fun H1 r pp sq x y d h1 er ep esq hC => ?_⟩
      obtain ⟨n1, n2, n3, n4, n5⟩ := far_nb hC.pl S.bd.1.1 S.bd.1.2
      obtain ⟨sm1, sm2⟩ := hC.same
      have S1 := S.mono (.same h1)
      walk_at "rd"
      refine ⟨pp, pa, x, y, d, ax, ay, rfl, ep, S1.a, S1.bd.1.1, S1.bd.1.2, hC.pl, ?_⟩
      walk_at "rd"
      refine ⟨pa, pb, pc, ax, ay, bx, by_, cx, cy, x, y, d, rfl, S1, ht, hC, fun p2 hp2 => ?_⟩
      refine ⟨_, _, dp3 (same_new hp2 _ _ ep), dp3 upd_same, rfl, rfl, ?_⟩
      rw [eqv3]
      have h2 := h1.trans (same_new (o := .tup [.int x, .int y, .int d]) hp2)
      have ep2 := same_new (o := .tup [.int x, .int y, .int d]) hp2 _ _ ep
      have es2 := same_new (o := .tup [.int x, .int y, .int d]) hp2 _ _ esq
      generalize upd H1 p2 (.tup [.int x, .int y, .int d]) = H2 at h2 ep2 es2 ⊢
      have S2 := S.mono (.same h2)
      walk_at "rd"
      refine iteF ?_
      walk_at "rd"
      have d1 := hC.pl.d1
      rw [decide_eq_false (by omega)]
      refine iteF ?_
      walk_at "nm"
      walk_at "rd"
      refine ⟨len_le (n := 2) (by decide), fun t2 ht2 => ?_⟩
      refine ⟨t2, rfl, ⟨_, SqT.of upd_same⟩, fun D hD => ?_⟩
      have h3 := h2.trans (same_new (o := .tup [.ref pb, .ref pc]) ht2)
      have et3 : (upd H2 t2 (.tup [.ref pb, .ref pc])) t2 = some (.tup [.ref pb, .ref pc]) := upd_same
      have ep3 := same_new (o := .tup [.ref pb, .ref pc]) ht2 _ _ ep2
      have es3 := same_new (o := .tup [.ref pb, .ref pc]) ht2 _ _ es2
      generalize upd H2 t2 (.tup [.ref pb, .ref pc]) = H3 at hD h3 et3 ep3 es3 ⊢
      have S3' := S.mono (.same h3)
      refine lc_tup (K := K) (a := t2) (xs := [.ref pb, .ref pc]) (fun i H' => Same H3 H' ∧ H' D = some (.lst (List.replicate i (.int (farZ x y d ax ay))))) ⟨same_new hD, upd_same⟩ (fun i H' _ h => SqT.of (h.1 _ _ et3)) ?_ ?_
      · rintro i z H' hz' ⟨hs, el⟩
        have SS := S3'.mono (.same hs)
        have hzz : ∃ (pz : Addr) (zx zy : Int), z = .ref pz ∧ H' pz = some (.tup [.int zx, .int zy]) ∧ Bd zx ∧ Bd zy ∧ farZ x y d zx zy = farZ x y d ax ay ∧ i < 2 := by
          match i, hz' with
          | 0, hz' => exact ⟨pb, bx, by_, (Option.some.inj hz').symm, SS.b, SS.bd.2.1.1, SS.bd.2.1.2, sm1, by decide⟩
          | 1, hz' => exact ⟨pc, cx, cy, (Option.some.inj hz').symm, SS.c, SS.bd.2.2.1, SS.bd.2.2.2, sm2, by decide⟩
        obtain ⟨pz, zx, zy, rfl, ez, bz1, bz2, fz, hi⟩ := hzz
        walk_at "rd"
        refine ⟨rfl, ?_⟩
        walk_at "rd"
        refine iteT ?_
        walk_at "rd"
        refine ⟨pp, pz, x, y, d, zx, zy, rfl, hs _ _ ep3, ez, bz1, bz2, hC.pl, ?_⟩
        refine ⟨_, el, len_lt (by rw [List.length_replicate]; omega), ?_, ?_⟩
        · intro b o hb
          rw [upd_ne (ne_of_none hb hD)]
          exact hs _ _ hb
        · rw [upd_same, fz, List.replicate_succ']
      rintro H4 ⟨hs4, el4⟩
      have h4 := h3.trans hs4
      have ep4 := hs4 _ _ ep3
      have es4 := hs4 _ _ es3
      walk_at "rd"
      refine ⟨len_le (n := 1) (by decide), fun l1 hl1 => ?_⟩
      refine ⟨l1, 2, _, rfl, rfl, upd_same, by decide, by decide, len_le (n := 2) (by decide), fun p3 hp3 => ?_⟩
      have k5 := (same_new (o := .lst [.int (farZ x y d ax ay)]) hl1).trans (same_new (o := .lst (List.replicate (2 : Int).toNat [.int (farZ x y d ax ay)]).flatten) hp3)
      have e5 : (upd (upd H4 l1 (.lst [.int (farZ x y d ax ay)])) p3 (.lst (List.replicate (2 : Int).toNat [.int (farZ x y d ax ay)]).flatten)) p3 = some (.lst [.int (farZ x y d ax ay), .int (farZ x y d ax ay)]) := upd_same
      have e4 : H4 D = some (.lst [.int (farZ x y d ax ay), .int (farZ x y d ax ay)]) := el4
      refine ⟨_, _, dpL2 (k5 _ _ e4), dpL2 e5, rfl, rfl, ?_⟩
      rw [eqvL]
      have h5 := h4.trans k5
      have ep5 := k5 _ _ ep4
      have es5 := k5 _ _ es4
      generalize upd (upd H4 l1 (.lst [.int (farZ x y d ax ay)])) p3 (.lst (List.replicate (2 : Int).toNat [.int (farZ x y d ax ay)]).flatten) = H5 at h5 ep5 es5 ⊢
      walk_at "rd"
      refine iteF ?_
      walk_at "nm"
      walk_at "rd"
      refine ⟨_, _, rfl, ?_⟩
      have g0 : 0 < gZ (farZ x y d ax ay) (d * d) := gZ_pos (by omega)
      have g1 : gZ (farZ x y d ax ay) (d * d) ≠ 0 := by omega
      have g2 : (gZ (farZ x y d ax ay) (d * d)).natAbs < 2 ^ 4000 := Nat.lt_of_le_of_lt (gZ_abs_le (by omega)) n5
      walk_at "rd"
      refine ⟨len_le (n := 2) (by decide), fun t6 ht6 => ?_⟩
      refine ⟨_, _, dp2 (same_new ht6 _ _ es5), dp2 upd_same, rfl, rfl, ?_⟩
      rw [eqv2]
      have h6 := h5.trans (same_new (o := .tup [.int ((farZ x y d ax ay).fdiv (gZ (farZ x y d ax ay) (d * d))), .int ((d * d).fdiv (gZ (farZ x y d ax ay) (d * d)))]) ht6)
      have ep6 := same_new (o := .tup [.int ((farZ x y d ax ay).fdiv (gZ (farZ x y d ax ay) (d * d))), .int ((d * d).fdiv (gZ (farZ x y d ax ay) (d * d)))]) ht6 _ _ ep5
      have es6 := same_new (o := .tup [.int ((farZ x y d ax ay).fdiv (gZ (farZ x y d ax ay) (d * d))), .int ((d * d).fdiv (gZ (farZ x y d ax ay) (d * d)))]) ht6 _ _ es5
      generalize upd H5 t6 (.tup [.int ((farZ x y d ax ay).fdiv (gZ (farZ x y d ax ay) (d * d))), .int ((d * d).fdiv (gZ (farZ x y d ax ay) (d * d)))]) = H6 at h6 ep6 es6 ⊢
      have S6 := S.mono (.same h6)
      walk_at "rd"
      refine iteF ?_
      walk_at "rd"
      refine ⟨rfl, rfl, pa, pb, pc, ax, ay, bx, by_, cx, cy, rfl, S6, ht, fun H7 r7 pp7 sq7 x7 y7 d7 h7 er7 ep7 esq7 hC7 => ?_⟩
      obtain ⟨q1, q2, q3⟩ := hC.again hC7
      rw [q1, q2, q3] at ep7 esq7
      clear hC7
      walk_at "rd"
      refine ⟨len_le (n := 2) (by decide), fun t8 ht8 => ?_⟩
      have k8 := same_new (o := .tup [.ref pp, .ref sq]) ht8
      refine ⟨_, _, dpC (k8 _ _ er7) (k8 _ _ ep7) (k8 _ _ esq7), dpC upd_same (k8 _ _ (h7 _ _ ep6)) (k8 _ _ (h7 _ _ es6)), rfl, rfl, ?_⟩
      rw [eqvC]
      have h8 := h6.trans (h7.trans k8)
      have ep8 := k8 _ _ (h7 _ _ ep6)
      have es8 := k8 _ _ (h7 _ _ es6)
      generalize upd H7 t8 (.tup [.ref pp, .ref sq]) = H8 at h8 ep8 es8 ⊢
      walk_at "rd"
      refine iteF ?_
      walk_at "nm"
      walk_at "rd"
      have hl8 : H8 l = some (.lst zs) := h8 _ _ hl
      have ht2 : turnZ cx cy bx by_ ax ay ≠ 0 := by
        rw [turn_swap]
        omega
      have ht3 : turnZ bx by_ cx cy ax ay ≠ 0 := by
        rw [turn_rot, turn_rot]
        exact ht
      refine ⟨l, rfl, ⟨_, SqL.of hl8⟩, ?_⟩
      refine for_list (K := K) (a := l) (xs := zs) (fun i σ H' => (∃ y8 y9 y10, σ = [some (.ref pa), some (.ref pb), some (.ref pc), some (.ref l), some (.ref pp), some (.ref sq), some (.int (farZ x y d ax ay)), some (.int (gZ (farZ x y d ax ay) (d * d))), y8, y9, y10, none]) ∧ Same H8 H')
        ⟨⟨none, none, none, rfl⟩, .refl _⟩ (fun i σ H' _ h => SqL.of (h.2 _ _ hl8)) ?_ ?_
      · rintro i z σ H' hz' ⟨⟨y8, y9, y10, rfl⟩, hs⟩
        have h9 := h8.trans hs
        obtain ⟨pz, zx, zy, rfl, ez, bz1, bz2⟩ := (hz.mono (.same h9)).2.2 z (List.mem_of_getElem? hz')
        have S9 := S.mono (.same h9)
        have SS : S4 H' pa pb pc pz ax ay bx by_ cx cy zx zy := ⟨S9, ez, bz1, bz2⟩
        have SS2 : S4 H' pc pb pa pz cx cy bx by_ ax ay zx zy := ⟨⟨S9.c, S9.b, S9.a, S9.bd.2.2, S9.bd.2.1, S9.bd.1⟩, ez, bz1, bz2⟩
        have SS3 : S4 H' pb pc pa pz bx by_ cx cy ax ay zx zy := ⟨⟨S9.b, S9.c, S9.a, S9.bd.2.1, S9.bd.2.2, S9.bd.1⟩, ez, bz1, bz2⟩
        have du := due_pow hC ht zx zy
        have du2 : sgn (powZ cx cy bx by_ ax ay zx zy) * sgn (turnZ cx cy bx by_ ax ay) = dueC (farZ x y d zx zy) (farZ x y d ax ay) := by
          rw [pow_swap, turn_swap, sgn_nn]
          exact du
        have du3 : sgn (powZ bx by_ cx cy ax ay zx zy) * sgn (turnZ bx by_ cx cy ax ay) = dueC (farZ x y d zx zy) (farZ x y d ax ay) := by
          rw [← pow_rot, ← turn_rot]
          exact du
        walk_at "rd"
        refine ⟨pp, pz, x, y, d, zx, zy, rfl, hs _ _ ep8, ez, bz1, bz2, hC.pl, ?_⟩
        walk_at "rd"
        refine ⟨fun σ' H2 => H2 = H' ∧ σ' = [some (.ref pa), some (.ref pb), some (.ref pc), some (.ref l), some (.ref pp), some (.ref sq), some (.int (farZ x y d ax ay)), some (.int (gZ (farZ x y d ax ay) (d * d))), some (.ref pz), some (.int (farZ x y d zx zy)), some (.int (dueC (farZ x y d zx zy) (farZ x y d ax ay))), none], ?_, ?_⟩
        · walk_at "rd"
          refine ite2 (fun h => ?_) (fun h => ?_)
          · walk_at "rd"
            refine ⟨rfl, ?_⟩
            unfold dueC
            rw [if_pos (of_decide_eq_true h)]
            rfl
          · walk_at "rd"
            refine ite2 (fun h2 => ?_) (fun h2 => ?_)
            · walk_at "rd"
              refine ⟨rfl, ?_⟩
              unfold dueC
              rw [if_neg (fun z => h (decide_eq_true z)), if_pos (of_decide_eq_true h2)]
              rfl
            · walk_at "rd"
              refine ⟨rfl, ?_⟩
              unfold dueC
              rw [if_neg (fun z => h (decide_eq_true z)), if_neg (fun z => h2 (decide_eq_true z))]
              rfl
        rintro σ5 H5 ⟨rfl, rfl⟩
        walk_at "rd"
        refine ⟨pa, pb, pc, pz, ax, ay, bx, by_, cx, cy, zx, zy, rfl, SS, ht, fun HA hA => ?_⟩
        walk_at "rd"
        rw [du, decide_eq_true rfl]
        refine iteF ?_
        walk_at "rd"
        refine ⟨pc, pb, pa, pz, cx, cy, bx, by_, ax, ay, zx, zy, rfl, SS2.mono (.same hA), ht2, fun HB hB => ?_⟩
        walk_at "rd"
        rw [du2, decide_eq_true rfl]
        refine iteF ?_
        walk_at "rd"
        refine ⟨rfl, rfl, pb, pc, pa, pz, bx, by_, cx, cy, ax, ay, zx, zy, rfl, SS3.mono (.same (hA.trans hB)), ht3, fun HC hC' => ?_⟩
        walk_at "rd"
        rw [du3, decide_eq_true rfl]
        refine iteF ?_
        exact ⟨⟨_, _, _, rfl⟩, hs.trans (hA.trans (hB.trans hC'))⟩
      · rintro σ H' ⟨⟨y8, y9, y10, rfl⟩, hs⟩
        have h9 := h8.trans hs
        have S9 := S.mono (.same h9)
        walk_at "rd"
        refine ⟨pb, pa, pc, bx, by_, ax, ay, cx, cy, rfl, ⟨S9.b, S9.a, S9.c, S9.bd.2.1, S9.bd.1, S9.bd.2.2⟩, by rw [turn_swap2]; omega, fun HA rA ppA sqA xA yA dA hA erA epA esqA hCA => ?_⟩
        obtain ⟨q1, q2, q3⟩ := hC.swap ht hCA
        rw [q1, q2, q3] at epA esqA
        rw [sm1] at esqA
        clear hCA
        walk_at "rd"
        refine ⟨len_le (n := 2) (by decide), fun t8 ht8 => ?_⟩
        have k8 := same_new (o := .tup [.ref pp, .ref sq]) ht8
        refine ⟨_, _, dpC (k8 _ _ erA) (k8 _ _ epA) (k8 _ _ esqA), dpC upd_same (k8 _ _ (hA _ _ (hs _ _ ep8))) (k8 _ _ (hA _ _ (hs _ _ es8))), rfl, rfl, ?_⟩
        rw [eqvC]
        have hf := h9.trans (hA.trans k8)
        exact q _ (.of hf) (ht0.ext hf)

end

end NC
namespace NC
section
variable {P : Program} {w : World} {K : PySem.W.Frag} {mg : Str → Option Value} {base : Heap}

theorem Go.same {s : Addr} {H H' H'' : Hp} (g : Go s H H') (h : Same H' H'') : Go s H H'' := by
  obtain ⟨xs, e, hx⟩ := g.src
  exact ⟨g.k.trans (.same h), g.t.trans (.same h), xs, h _ _ e, hx⟩
/-- one of the drawn sites -/
theorem one_go {s l : Addr} {zs : List V} {H5 H7 : Hp} {Q : VK} {E : XK} (ls : l ≠ s) (g7 : Go s H5 H7) (hl : H7 l = some (.lst zs)) (hz : SitesL H7 zs) (q : ∀ t x y H8, Go s H5 H8 → H8 l = some (.lst zs) → SitesL H8 zs → TK H7 H8 → H8 t = some (.tup [.int x, .int y]) → Bd x → Bd y → Q (.ref t) H8) : sp_law_one [.ref s, .ref l] H7 Q E := by
  obtain ⟨xs2, ex2, hx2⟩ := g7.src
  refine ⟨s, l, xs2, zs, rfl, ex2, hx2, hl, Ne.symm ls, hz.1, Nat.lt_trans hz.2.1 (by decide), fun z ys hz2 hy => ?_⟩
  obtain ⟨t, x, y, rfl, e, b1, b2⟩ := hz.2.2 z hz2
  exact q t x y _ (g7.draw hy) (by rw [upd_ne ls]; exact hl) (hz.mono (.lst ex2)) (.lst ex2) (TK.lst ex2 _ _ e) b1 b2
/-- what the law's loops keep -/
structure LI (K : PySem.W.Frag) (s p3 pf : Addr) (items fs : List V) (H : Hp) : Prop where
  src : ∃ xs, H s = some (.lst xs) ∧ SrcL xs
  e3 : H p3 = some (.lst items)
  ef : H pf = some (.lst fs)
  sl : SitesL H fs
  tb : LamX.Tabs (tbs K) H
  n3 : p3 ≠ s
  nf : pf ≠ s
theorem LI.st {s p3 pf : Addr} {items fs : List V} {H : Hp} (h : LI K s p3 pf items fs H) : Go s H H := ⟨.refl _, .refl _, h.src⟩
theorem tabs_kp {s : Addr} {H H' : Hp} {xs : List V} {T : List (Addr × Str)} (k : Kp s H H') (hs : H s = some (.lst xs)) (t : LamX.Tabs T H) : LamX.Tabs T H' := fun p hp => by
  obtain ⟨ps, h1, h2, h3⟩ := t p hp
  refine ⟨ps, k _ _ (ne_of h1 hs (fun z => by cases z)) h1, h2, fun pos cv hc => ?_⟩
  obtain ⟨c, e1, e2⟩ := h3 pos cv hc
  exact ⟨c, e1, k _ _ (ne_of e2 hs (fun z => by unfold LamX.CodeO at z; cases z)) e2⟩
theorem LI.go {s p3 pf : Addr} {items fs : List V} {H H' : Hp} (h : LI K s p3 pf items fs H) (g : Go s H H') : LI K s p3 pf items fs H' := by
  obtain ⟨xs, e, _⟩ := h.src
  exact ⟨g.src, g.k _ _ h.n3 h.e3, g.k _ _ h.nf h.ef, h.sl.mono g.t, tabs_kp g.k e h.tb, h.n3, h.nf⟩
theorem LI.ext {s p3 pf : Addr} {items fs : List V} {H H' : Hp} (h : LI K s p3 pf items fs H) (e : LamX.ExtN H H') (t : LamX.Tabs (tbs K) H') : LI K s p3 pf items fs H' := by
  obtain ⟨xs, es, hx⟩ := h.src
  exact ⟨⟨xs, e _ _ es (fun _ z => by cases z), hx⟩, e _ _ h.e3 (fun _ z => by cases z), e _ _ h.ef (fun _ z => by cases z), h.sl.mono (tk_ext e), t, h.n3, h.nf⟩
theorem tabs0 {H : Hp} (h : ∀ p ∈ [He.cT K ("_law_right", none)], H p.2 = some (.tbl #[])) : LamX.Tabs (tbs K) H := fun p hp => by
  rw [List.mem_singleton.mp hp]
  exact LamX.TabS.nil (h _ (List.mem_singleton.mpr rfl))
def sp_law (K : PySem.W.Frag) : Sp := fun vs H Q _ => ∃ (a : Addr) (ns : List Int), vs = [.ref a] ∧ SqL K H a (ns.map V.int) ∧ ns.length ≤ 63 ∧ (∀ z ∈ ns, Builtin.Int.intBits z ≤ 1048576) ∧ LamX.Tabs (tbs K) H ∧ ∀ H', Q (.bl true) H'
theorem bA_law (T : Tops K mg) (s : Shared) (v : Value) : BindsTo s T.fd_law ⟨[v], []⟩ [("_law_script", v)] := FunD.bindsA (ps := P_law) T.F_law (fun _ _ _ _ _ _ us hl => match us, hl with | [_], _ => rfl) s [v] rfl
theorem ok_law (T : Tops K mg) (tb : LamX.TabB base mg (He.cT K ("_law_right", none)).1 (He.cT K ("_law_right", none)).2) : FnOk P w K mg base CX0 14 (He.ga K "law") T.fd_law P_law (sp_law K) := by
  refine T.F_law.ok sc_law (fun vs H Q E h => ?_) (fun cdv A outer s H vs Q E hr h => ?_)
  · obtain ⟨a, ns, rfl, hS, hlen, hbits, tb0, q⟩ := h
    rfl
  · obtain ⟨a, ns, rfl, hS, hlen, hbits, tb0, q⟩ := h
    refine ⟨_, PSs.nox ((pss_cons (ps_setLc (i := 1) (own := [("_law_k", 8)]) (g := gName 8) (tt := tYes) rfl sc_law.nd rfl rfl (sw_true rfl rfl rfl (by decide +kernel)) (pi_range1 (by rfl) T.m_range (pa_cons pe_int pa_nil)) (blkOk_by (own := [("_law_k", 8)]) (N := N_law) (sc := defScope (top 37)) (by decide +kernel)) (fun _ _ _ _ _ => (pg_name (i := 8) sc_law.nd rfl (.inl rfl))) (fun _ _ _ _ _ => pts_nil) (fun _ _ _ _ _ => (pe_tup (pa_cons (pe_op op_fdiv (pv 8) pe_int) (pa_cons (pe_op op_mod (pe_callTy call_intN (by rfl) T.m_int (by decide +kernel) (pa_cons (pv 8) pa_nil)) pe_int) pa_nil)))))
       (pss_cons (ps_for PassesOwn.never rfl (pi_listK K (pe_op op_cat (pe_lst (pa_cons (pe_call (ok_law_cell_at T) (hr.mono (by decide)) (by rfl) T.g_law_cell_at T.F_law_cell_at.kp (b_law_cell_at T) .nil pass0 (pa_cons (pv 0) (pa_cons pe_int pa_nil))) pa_nil)) (pe_slice (sl_listK K) (pv 0) (po_some pe_int) (po_some pe_int)))) (pg_name (i := 2) sc_law.nd rfl (.inl rfl))
       (pss_cons (ps_set (i := 3) sc_law.nd rfl (.inl rfl) (pe_call (ok_law_source_of T) (hr.mono (by decide)) (by rfl) T.g_law_source_of T.F_law_source_of.kp (b_law_source_of T) .nil pass0 (pa_cons (pv 2) pa_nil)))
       (pss_cons (ps_for PassesOwn.never rfl (pi_range1 (by rfl) T.m_range (pa_cons pe_int pa_nil)) (pg_name (i := 4) sc_law.nd rfl (.inl rfl))
       (pss_cons (ps_if (pt_not (pt_val (pe_call (ok_law_right T tb) (hr.mono (by decide)) (by rfl) T.g_law_right T.F_law_right.kp (b_law_right T) .nil pass0 (pa_cons (pe_call (ok_law_one T) (hr.mono (by decide)) (by rfl) T.g_law_one T.F_law_one.kp (b_law_one T) .nil pass0 (pa_cons (pv 3) (pa_cons (pv 1) pa_nil))) (pa_cons (pe_call (ok_law_one T) (hr.mono (by decide)) (by rfl) T.g_law_one T.F_law_one.kp (b_law_one T) .nil pass0 (pa_cons (pv 3) (pa_cons (pv 1) pa_nil))) (pa_cons (pe_call (ok_law_one T) (hr.mono (by decide)) (by rfl) T.g_law_one T.F_law_one.kp (b_law_one T) .nil pass0 (pa_cons (pv 3) (pa_cons (pv 1) pa_nil))) (pa_cons (pv 1) pa_nil)))))))
       (pss_one (ps_ret pe_bl))
       pss_nil)
       (pss_cons (ps_set (i := 5) sc_law.nd rfl (.inl rfl) (pe_call (ok_law_sites T) (hr.mono (by decide)) (by rfl) T.g_law_sites T.F_law_sites.kp (b_law_sites T) .nil pass0 (pa_cons (pv 3) (pa_cons pe_int pa_nil))))
       (pss_one (ps_if (pt_not (pt_val (pe_call (ok_law_right T tb) (hr.mono (by decide)) (by rfl) T.g_law_right T.F_law_right.kp (b_law_right T) .nil pass0 (pa_cons (pe_call (ok_law_one T) (hr.mono (by decide)) (by rfl) T.g_law_one T.F_law_one.kp (b_law_one T) .nil pass0 (pa_cons (pv 3) (pa_cons (pv 5) pa_nil))) (pa_cons (pe_call (ok_law_one T) (hr.mono (by decide)) (by rfl) T.g_law_one T.F_law_one.kp (b_law_one T) .nil pass0 (pa_cons (pv 3) (pa_cons (pv 5) pa_nil))) (pa_cons (pe_call (ok_law_one T) (hr.mono (by decide)) (by rfl) T.g_law_one T.F_law_one.kp (b_law_one T) .nil pass0 (pa_cons (pv 3) (pa_cons (pv 5) pa_nil))) (pa_cons (pv 5) pa_nil)))))))
       (pss_one (ps_ret pe_bl))
       pss_nil)))))
       (pss_cons (ps_set (i := 6) sc_law.nd rfl (.inl rfl) (pe_op op_pow pe_int pe_int))
       (pss_cons (ps_set (i := 7) sc_law.nd rfl (.inl rfl) (pe_lst (pa_cons (pe_tup (pa_cons (pv 6) (pa_cons (pv 6) pa_nil))) (pa_cons (pe_tup (pa_cons (pe_op op_sub pe_int (pv 6)) (pa_cons (pv 6) pa_nil))) (pa_cons (pe_tup (pa_cons (pe_op op_sub pe_int (pv 6)) (pa_cons (pe_op op_sub pe_int (pv 6)) pa_nil))) (pa_cons (pe_tup (pa_cons (pv 6) (pa_cons (pe_op op_sub pe_int (pv 6)) pa_nil))) pa_nil))))))
       (pss_cons (ps_set (i := 7) sc_law.nd rfl (.inl rfl) (pe_op op_cat (pv 7) (pe_lst (pa_cons (pe_tup (pa_cons (pv 6) (pa_cons (pe_op op_sub (pv 6) pe_int) pa_nil))) (pa_cons (pe_tup (pa_cons pe_int (pa_cons pe_int pa_nil))) pa_nil)))))
       (pss_one (ps_if (pt_not (pt_val (pe_call (ok_law_right T tb) (hr.mono (by decide)) (by rfl) T.g_law_right T.F_law_right.kp (b_law_right T) .nil pass0 (pa_cons (pe_ix (ix_listK K) (pv 7) pe_int (fun _ _ => rfl)) (pa_cons (pe_ix (ix_listK K) (pv 7) pe_int (fun _ _ => rfl)) (pa_cons (pe_ix (ix_listK K) (pv 7) pe_int (fun _ _ => rfl)) (pa_cons (pv 7) pa_nil)))))))
       (pss_one (ps_ret pe_bl))
       pss_nil))))))))
       (pss_cons (ps_if (pt_cmpR (op_neDK K hr.units) (pe_call (ok_circle T) (hr.mono (by decide)) (by rfl) T.g_circle T.F_circle.kp (b_circle T) .nil pass0 (pa_cons (pe_tup (pa_cons pe_int (pa_cons pe_int pa_nil))) (pa_cons (pe_tup (pa_cons pe_int (pa_cons pe_int pa_nil))) (pa_cons (pe_tup (pa_cons pe_int (pa_cons pe_int pa_nil))) pa_nil)))) (pe_tup (pa_cons (pe_tup (pa_cons pe_int (pa_cons pe_int (pa_cons pe_int pa_nil)))) (pa_cons (pe_tup (pa_cons pe_int (pa_cons pe_int pa_nil))) pa_nil))) (nomark _))
       (pss_one (ps_ret pe_bl))
       pss_nil)
       (pss_one (ps_ret (pe_cmpR op_eq (pe_call (ok_in_circle T) (hr.mono (by decide)) (by rfl) T.g_in_circle T.F_in_circle.kp (b_in_circle T) .nil pass0 (pa_cons (pe_tup (pa_cons pe_int (pa_cons pe_int pa_nil))) (pa_cons (pe_tup (pa_cons pe_int (pa_cons pe_int pa_nil))) (pa_cons (pe_tup (pa_cons pe_int (pa_cons pe_int pa_nil))) (pa_cons (pe_tup (pa_cons pe_int (pa_cons pe_int pa_nil))) pa_nil))))) pe_int (nomark _)))))))), ?_⟩
    rw [st_law]
    walk_at "rd"
    walk_at "nm"
    refine ⟨25, rfl, by decide, by decide, fun pf hpf => ?_⟩
    refine lc_range (lo := 0) (n := 25) (fun i H' => Same H H' ∧ ∃ fs, H' pf = some (.lst fs) ∧ fs.length = i ∧ ∀ z ∈ fs, ∃ p x y, z = .ref p ∧ H' p = some (.tup [.int x, .int y]) ∧ Bd x ∧ Bd y) ⟨same_new hpf, [], upd_same, rfl, fun _ h => by cases h⟩ ?_ ?_
    · rintro i H' hi ⟨hs, fs, el, hl, hf⟩
      walk_at "rd"
      refine ⟨rfl, ?_⟩
      walk_at "rd"
      refine iteT ?_
      walk_at "rd"
      refine ⟨len_le (n := 2) (by decide), fun t ht => ?_⟩
      have el2 := same_new (o := .tup [.int ((0 + (i : Int)) / 5), .int ((0 + (i : Int)) % 5)]) ht _ _ el
      refine ⟨fs, el2, len_lt (by omega), ?_, _, upd_same, ?_, ?_⟩
      · intro b o hb
        rw [upd_ne (ne_of_none hb hpf), upd_ne (ne_of_none (hs _ _ hb) ht)]
        exact hs _ _ hb
      · rw [List.length_append, hl]
        rfl
      · intro z hz
        rcases List.mem_append.mp hz with h | h
        · obtain ⟨p, x, y, e, e2, b⟩ := hf z h
          refine ⟨p, x, y, e, ?_, b⟩
          rw [upd_ne (ne_of (same_new ht _ _ e2) el2 (fun z => by cases z))]
          exact same_new ht _ _ e2
        · rw [List.mem_singleton.mp h]
          refine ⟨t, (0 + (i : Int)) / 5, (0 + (i : Int)) % 5, rfl, ?_, ?_, ?_⟩
          · rw [upd_ne (ne_of upd_same el2 (fun z => by cases z))]
            exact upd_same
          · unfold Bd
            omega
          · unfold Bd
            omega
    rintro H1 ⟨h1, fs, ef, lf, hf⟩
    have slf : SitesL H1 fs := ⟨by omega, by omega, hf⟩
    walk_at "nm"
    walk_at "rd"
    refine ⟨a, ns, 0, rfl, h1.seq hS, fun H2 h2 => ?_⟩
    walk_at "rd"
    refine ⟨len_le (n := 1) (by decide), fun p1 hp1 => ?_⟩
    walk_at "rd"
    refine ⟨a, _, rfl, ((h1.trans h2).trans (same_new hp1)).seq hS, fun p2 hp2 => ?_⟩
    refine ⟨p1, p2, _, _, rfl, rfl, same_new hp2 _ _ upd_same, upd_same, len_le (by
      have := cutV_length (ns.map V.int) (some 1) (some 5)
      rw [List.length_map] at this
      show 1 + _ ≤ _
      omega), fun p3 hp3 => ?_⟩
    generalize hit : [V.int (ns.getD 0 0)] ++ cutV (ns.map V.int) (some 1) (some 5) = items
    have hints : ∀ z ∈ items, ∃ n : Int, z = .int n := fun z hz => by
      rw [← hit] at hz
      rcases List.mem_append.mp hz with h | h
      · exact ⟨_, List.mem_singleton.mp h⟩
      · exact all_ints (cut_mem h)
    have h3 := ((h2.trans (same_new (o := .lst [.int (ns.getD 0 0)]) hp1)).trans (same_new (o := .lst (cutV (ns.map V.int) (some 1) (some 5))) hp2)).trans (same_new (o := .lst items) hp3)
    have e3 : (upd (upd (upd H2 p1 (.lst [.int (ns.getD 0 0)])) p2 (.lst (cutV (ns.map V.int) (some 1) (some 5)))) p3 (.lst items)) p3 = some (.lst items) := upd_same
    generalize upd (upd (upd H2 p1 (.lst [.int (ns.getD 0 0)])) p2 (.lst (cutV (ns.map V.int) (some 1) (some 5)))) p3 (.lst items) = H3 at h3 e3 ⊢
    refine ⟨p3, rfl, ⟨_, SqL.of e3⟩, ?_⟩
    refine for_list (K := K) (a := p3) (xs := items) (fun i σ H' => (∃ y2 y3 y4 y5 y6 y7, σ = [some (.ref a), some (.ref pf), y2, y3, y4, y5, y6, y7, none]) ∧ H' p3 = some (.lst items) ∧ H' pf = some (.lst fs) ∧ SitesL H' fs ∧ LamX.Tabs (tbs K) H')
      ⟨⟨none, none, none, none, none, none, rfl⟩, e3, h3 _ _ ef, slf.mono (.same h3), tb0.ext (h1.trans h3)⟩ (fun i σ H' _ h => SqL.of h.2.1) ?_ ?_
    · rintro i z σ H4 hz ⟨⟨y2, y3, y4, y5, y6, y7, rfl⟩, e4, ef4, sl4, tb4⟩
      obtain ⟨n, rfl⟩ := hints z (List.mem_of_getElem? hz)
      walk_at "rd"
      refine ⟨n, rfl, fun s xs hs hx => ?_⟩
      have L5 : LI K s p3 pf items fs (upd H4 s (.lst xs)) := ⟨⟨xs, upd_same, hx⟩, same_new hs _ _ e4, same_new hs _ _ ef4, sl4.mono (.new hs), tb4.ext (same_new hs), ne_of_none e4 hs, ne_of_none ef4 hs⟩
      generalize upd H4 s (.lst xs) = H5 at L5 ⊢
      walk_at "rd"
      walk_at "nm"
      refine ⟨8, rfl, by decide, by decide, ?_⟩
      refine for_range (lo := 0) (n := 8) (fun i σ H6 => (∃ y4 y5, σ = [some (.ref a), some (.ref pf), some (.int n), some (.ref s), y4, y5, y6, y7, none]) ∧ LI K s p3 pf items fs H6) ⟨⟨y4, y5, rfl⟩, L5⟩ ?_ ?_
      · rintro k σ H6 hk ⟨⟨y4, y5, rfl⟩, L6⟩
        walk_at "rd"
        refine one_go L6.nf L6.st L6.ef L6.sl fun ta ax ay H7 g7 hl7 hz7 k7 ea ba1 ba2 => ?_
        walk_at "rd"
        refine one_go L6.nf g7 hl7 hz7 fun tb_ bx by_ H8 g8 hl8 hz8 k8 eb bb1 bb2 => ?_
        walk_at "rd"
        refine one_go L6.nf g8 hl8 hz8 fun tc cx cy H9 g9 hl9 hz9 k9 ec bc1 bc2 => ?_
        walk_at "rd"
        have L9 := L6.go g9
        refine ⟨ta, tb_, tc, pf, ax, ay, bx, by_, cx, cy, fs, rfl, ⟨k9 _ _ (k8 _ _ ea), k9 _ _ eb, ec, ⟨ba1, ba2⟩, ⟨bb1, bb2⟩, ⟨bc1, bc2⟩⟩, L9.ef, L9.sl, L9.tb, fun HA eA tA => ?_⟩
        have LA := L9.ext eA tA
        clear ea eb ec k7 k8 k9 g7 g8 g9 hl7 hl8 hl9 hz7 hz8 hz9
        walk_at "rd"
        refine iteF ?_
        walk_at "rd"
        obtain ⟨xsA, exA, hxA⟩ := LA.src
        refine ⟨s, 9, xsA, rfl, exA, hxA, by decide, by decide, fun HB l zs gB nl hl hzB => ?_⟩
        have LB := LA.go gB
        have ls : l ≠ s := fun e => by
          rw [e, exA] at nl
          cases nl
        walk_at "rd"
        refine one_go ls LB.st hl hzB fun ta ax ay H7 g7 hl7 hz7 k7 ea ba1 ba2 => ?_
        walk_at "rd"
        refine one_go ls g7 hl7 hz7 fun tb_ bx by_ H8 g8 hl8 hz8 k8 eb bb1 bb2 => ?_
        walk_at "rd"
        refine one_go ls g8 hl8 hz8 fun tc cx cy H9 g9 hl9 hz9 k9 ec bc1 bc2 => ?_
        walk_at "rd"
        have LC := LB.go g9
        refine ⟨ta, tb_, tc, l, ax, ay, bx, by_, cx, cy, zs, rfl, ⟨k9 _ _ (k8 _ _ ea), k9 _ _ eb, ec, ⟨ba1, ba2⟩, ⟨bb1, bb2⟩, ⟨bc1, bc2⟩⟩, hl9, hz9, LC.tb, fun HD eD tD => ?_⟩
        walk_at "rd"
        refine iteF ?_
        walk_at "nm"
        exact ⟨⟨_, _, rfl⟩, LC.ext eD tD⟩
      · rintro σ H6 ⟨⟨y4, y5, rfl⟩, L6⟩
        have hE : (10 : Int) ^ (6 : Int).toNat = 1000000 := by decide
        walk_at "rd"
        rw [hE]
        refine ⟨len_le (n := 2) (by decide), fun c0 hc0 => ?_⟩
        walk_at "rd"
        refine ⟨len_le (n := 2) (by decide), fun c1 hc1 => ?_⟩
        walk_at "rd"
        refine ⟨len_le (n := 2) (by decide), fun c2 hc2 => ?_⟩
        walk_at "rd"
        refine ⟨len_le (n := 2) (by decide), fun c3 hc3 => ?_⟩
        refine ⟨len_le (n := 4) (by decide), fun l1 hl1 => ?_⟩
        walk_at "rd"
        refine ⟨len_le (n := 2) (by decide), fun c4 hc4 => ?_⟩
        walk_at "rd"
        refine ⟨len_le (n := 2) (by decide), fun c5 hc5 => ?_⟩
        refine ⟨len_le (n := 2) (by decide), fun l2 hl2 => ?_⟩
        have k0 := same_new (o := .tup [.int 1000000, .int 1000000]) hc0
        have k1 := same_new (o := .tup [.int (0 - 1000000), .int 1000000]) hc1
        have k2 := same_new (o := .tup [.int (0 - 1000000), .int (0 - 1000000)]) hc2
        have k3 := same_new (o := .tup [.int 1000000, .int (0 - 1000000)]) hc3
        have k4 := same_new (o := .lst [.ref c0, .ref c1, .ref c2, .ref c3]) hl1
        have k5 := same_new (o := .tup [.int 1000000, .int (1000000 - 1)]) hc4
        have k6 := same_new (o := .tup [.int 0, .int 0]) hc5
        have k7 := same_new (o := .lst [.ref c4, .ref c5]) hl2
        refine ⟨l1, l2, _, _, rfl, rfl, k7 _ _ (k6 _ _ (k5 _ _ upd_same)), upd_same, len_le (n := 6) (by decide), fun l hl => ?_⟩
        have k8 := same_new (o := .lst ([.ref c0, .ref c1, .ref c2, .ref c3] ++ [.ref c4, .ref c5])) hl
        have k58 := (k5.trans k6).trans (k7.trans k8)
        have k28 := (k2.trans k3).trans (k4.trans k58)
        have ks := k0.trans (k1.trans k28)
        have f0 := k28 _ _ (k1 _ _ (upd_same (H := H6)))
        have f1 := k28 _ _ (upd_same (H := _) (a := c1))
        have f2 := (k3.trans (k4.trans k58)) _ _ (upd_same (a := c2))
        have f3 := (k4.trans k58) _ _ (upd_same (a := c3))
        have f4 := (k6.trans (k7.trans k8)) _ _ (upd_same (a := c4))
        have f5 := (k7.trans k8) _ _ (upd_same (a := c5))
        have fl := upd_same (H := (upd (upd (upd (upd (upd (upd (upd (upd H6 c0 (.tup [.int 1000000, .int 1000000])) c1 (.tup [.int (0 - 1000000), .int 1000000])) c2 (.tup [.int (0 - 1000000), .int (0 - 1000000)])) c3 (.tup [.int 1000000, .int (0 - 1000000)])) l1 (.lst [.ref c0, .ref c1, .ref c2, .ref c3])) c4 (.tup [.int 1000000, .int (1000000 - 1)])) c5 (.tup [.int 0, .int 0])) l2 (.lst [.ref c4, .ref c5]))) (a := l) (o := .lst ([.ref c0, .ref c1, .ref c2, .ref c3] ++ [.ref c4, .ref c5]))
        clear k1 k2 k3 k4 k5 k6 k7 k8 k58 k28
        generalize upd (upd (upd (upd (upd (upd (upd (upd (upd H6 c0 (.tup [.int 1000000, .int 1000000])) c1 (.tup [.int (0 - 1000000), .int 1000000])) c2 (.tup [.int (0 - 1000000), .int (0 - 1000000)])) c3 (.tup [.int 1000000, .int (0 - 1000000)])) l1 (.lst [.ref c0, .ref c1, .ref c2, .ref c3])) c4 (.tup [.int 1000000, .int (1000000 - 1)])) c5 (.tup [.int 0, .int 0])) l2 (.lst [.ref c4, .ref c5])) l (.lst ([.ref c0, .ref c1, .ref c2, .ref c3] ++ [.ref c4, .ref c5])) = H7 at ks f0 f1 f2 f3 f4 f5 fl ⊢
        have fl' : H7 l = some (.lst [.ref c0, .ref c1, .ref c2, .ref c3, .ref c4, .ref c5]) := fl
        clear fl
        have L7 := L6.go (L6.st.same ks)
        walk_at "rd"
        refine ⟨c0, c1, c2, l, 1000000, 1000000, 0 - 1000000, 1000000, 0 - 1000000, 0 - 1000000, _, rfl, ⟨f0, f1, f2, by unfold Bd; decide⟩, fl', ⟨by show 0 < 6; decide, by show 6 < 1000; decide, fun z hz => ?_⟩, L7.tb, fun H8 e8 t8 => ?_⟩
        · simp only [List.mem_cons, List.not_mem_nil, or_false] at hz
          rcases hz with rfl | rfl | rfl | rfl | rfl | rfl
          · exact ⟨c0, _, _, rfl, f0, by unfold Bd; decide⟩
          · exact ⟨c1, _, _, rfl, f1, by unfold Bd; decide⟩
          · exact ⟨c2, _, _, rfl, f2, by unfold Bd; decide⟩
          · exact ⟨c3, _, _, rfl, f3, by unfold Bd; decide⟩
          · exact ⟨c4, _, _, rfl, f4, by unfold Bd; decide⟩
          · exact ⟨c5, _, _, rfl, f5, by unfold Bd; decide⟩
        · have L8 := L7.ext e8 t8
          walk_at "rd"
          refine iteF ?_
          walk_at "nm"
          exact ⟨⟨_, _, _, _, _, _, rfl⟩, L8.e3, L8.ef, L8.sl, L8.tb⟩
    · rintro σ H' ⟨⟨y2, y3, y4, y5, y6, y7, rfl⟩, e4, ef4, sl4, tb4⟩
      walk_at "rd"
      refine ⟨len_le (n := 2) (by decide), fun c0 hc0 => ?_⟩
      walk_at "rd"
      refine ⟨len_le (n := 2) (by decide), fun c1 hc1 => ?_⟩
      walk_at "rd"
      refine ⟨len_le (n := 2) (by decide), fun c2 hc2 => ?_⟩
      have k1 := same_new (o := .tup [.int 4, .int 0]) hc1
      have k2 := same_new (o := .tup [.int 1, .int 3]) hc2
      have ht : turnZ 0 0 4 0 1 3 ≠ 0 := by decide
      refine ⟨c0, c1, c2, 0, 0, 4, 0, 1, 3, rfl, ⟨k2 _ _ (k1 _ _ upd_same), k2 _ _ upd_same, upd_same, by unfold Bd; decide⟩, ht, fun H5 r p5 sq x y d h5 er ep esq hC => ?_⟩
      have f1 : leadZ 2 1 1 0 0 4 0 = 0 := by decide
      have f2 : leadZ 2 1 1 4 0 1 3 = 0 := by decide
      obtain ⟨rfl, rfl, rfl⟩ := hC.of_leads ht (by decide) (by decide) f1 f2
      have esq' : H5 sq = some (.tup [.int 5, .int 1]) := esq
      walk_at "rd"
      refine ⟨len_le (n := 3) (by decide), fun u0 hu0 => ?_⟩
      walk_at "rd"
      refine ⟨len_le (n := 2) (by decide), fun u1 hu1 => ?_⟩
      refine ⟨len_le (n := 2) (by decide), fun u2 hu2 => ?_⟩
      have j0 := same_new (o := .tup [.int 2, .int 1, .int 1]) hu0
      have j1 := same_new (o := .tup [.int 5, .int 1]) hu1
      have j2 := same_new (o := .tup [.ref u0, .ref u1]) hu2
      have jj := (j0.trans j1).trans j2
      refine ⟨_, _, dpC (jj _ _ er) (jj _ _ ep) (jj _ _ esq'), dpC upd_same (j2 _ _ (j1 _ _ upd_same)) (j2 _ _ upd_same), rfl, rfl, ?_⟩
      rw [eqvC]
      generalize upd (upd (upd H5 u0 (.tup [.int 2, .int 1, .int 1])) u1 (.tup [.int 5, .int 1])) u2 (.tup [.ref u0, .ref u1]) = H7
      walk_at "rd"
      refine iteF ?_
      walk_at "rd"
      refine ⟨len_le (n := 2) (by decide), fun v0 hv0 => ?_⟩
      walk_at "rd"
      refine ⟨len_le (n := 2) (by decide), fun v1 hv1 => ?_⟩
      walk_at "rd"
      refine ⟨len_le (n := 2) (by decide), fun v2 hv2 => ?_⟩
      walk_at "rd"
      refine ⟨len_le (n := 2) (by decide), fun v3 hv3 => ?_⟩
      have m1 := same_new (o := .tup [.int 2, .int 0]) hv1
      have m2 := same_new (o := .tup [.int 0, .int 2]) hv2
      have m3 := same_new (o := .tup [.int 2, .int 2]) hv3
      refine ⟨v0, v1, v2, v3, 0, 0, 2, 0, 0, 2, 2, 2, rfl, ⟨⟨m3 _ _ (m2 _ _ (m1 _ _ upd_same)), m3 _ _ (m2 _ _ upd_same), m3 _ _ upd_same, by unfold Bd; decide⟩, upd_same, by unfold Bd; decide⟩, by decide, fun H8 h8 => ?_⟩
      walk_at "rd"
      exact q _

end

end NC
open PySem PySem.W PySem.Calls PyProof.Rows
theorem PySem.Challenge.cw_nearcells_k02_circles_of_sites_holds : PySem.Challenge.rw_nearcells_k02_circles_of_sites.Holds := by
  w_on; o_law
  refine HandSHeadRun.head_any (r := OpenLaw.row PySem.Challenge.rw_nearcells_k02_circles_of_sites) (q := view (OpenLaw.row PySem.Challenge.rw_nearcells_k02_circles_of_sites).prog [37]) (H := NC.hk) (ob := NC.ob) (M := 4000) (loose := NC.loose) (d := HandSHeadRun.topDef (OpenLaw.row PySem.Challenge.rw_nearcells_k02_circles_of_sites).prog 37) (kwd := []) NC.ob_eq
    (by kernel_rfl) (fun s => by kernel_rfl) NC.run (by kernel_rfl) (by kernel_rfl) (by kernel_rfl) (by rfl) (by first | assumption | decide +kernel) (by decide +kernel) ⟨rfl, rfl, rfl, rfl, rfl, by decide +kernel⟩ ?hw ?hc
  case hw => w_witness2
  case hc =>
    refine LamX.walk_ofTsE (l := PySem.Challenge.rw_nearcells_k02_circles_of_sites) (n := 63) (k := 14) (x := "_law_script") (CX := fun _ => L2.CX0) rfl (by decide) (by kernel_rfl) ⟨rfl, by decide, by decide⟩ ?F (fun _ _ _ _ _ z => z)
    intro w mg fa h Y G hmg0
    obtain ⟨K, KX, c⟩ := Y
    have hmg : mg ("law" : PySem.Str) = some (.ref fa) := by
      have e : (HandSHeadRun.topDef (OpenLaw.row PySem.Challenge.rw_nearcells_k02_circles_of_sites).prog 37).name = ("law" : PySem.Str) := by kernel_rfl
      rw [← e]
      exact hmg0
    obtain ⟨T⟩ := NC.tops KX G c.t.d c.more
    have e := hmg.symm.trans T.g_law
    cases e
    have key : ∀ p ∈ [He.cT K ("_law_right", none)], ∃ q ∈ [(("_law_right", none) : He.Defn)], p = He.cT K q := fun p hp => by
      have hp2 : p ∈ List.map (He.cT K) [(("_law_right", none) : He.Defn)] := hp
      obtain ⟨q, hq, e⟩ := List.mem_map.mp hp2
      exact ⟨q, hq, e.symm⟩
    refine ⟨K, KX, T.fd_law, [He.cT K ("_law_right", none)], NC.sp_law K, fun p hp => ?_, fun p hp => ?_, fun p hp => ?_, NC.bA_law T, fun H a ns hl hb hH hS => ⟨a, ns, rfl, hS, hl, hb, NC.tabs0 hH, fun _ => rfl⟩, fun base _ _ htb => NC.ok_law T (htb _ (by simp))⟩
    · obtain ⟨q, hq, e⟩ := key p hp
      rw [e]
      exact c.empty q hq
    · obtain ⟨q, hq, e⟩ := key p hp
      rw [e]
      exact c.out q hq
    · obtain ⟨q, hq, e⟩ := key p hp
      rw [e]
      exact PySem.W.codeHd_of_K KX (c.hd q hq)
