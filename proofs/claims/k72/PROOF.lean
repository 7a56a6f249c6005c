import PyProof.Rows.All
import Wide.All
import OpenK.AllK
import Wide.FinOn
import PyProof.EqAt
import PyProof.EqKinds
import PyProof.TupleCall
import KE.KStateDown
import Lean
import HandS.ForMost
import HandS.ForExc
import HandS.More
import HandS.Sort
import HandS.SortOrd
import HandS.SortRule
import HandS.SortInts
import HandS.Conv
import HandS.Deep
import HandS.Style
import HandS.Flow
import HandS.Wide
import HandS.Defaults
import HandS.IsInst
import HandS.EndBits
import HandS.TupLe
import HandS.TupAny
import HandS.Codes
import HandS.CallLocal
import HandS.NoneIn
import HandS.Head0
import HandS.Head1
import HandS.Head2
import HandS.HeadEnd
import HandS.HeadHook1
import HandS.HeadHook2
import HandS.HeadHook3
import HandS.HeadHook4
import KE.KExcInit
import HandS.ExcInit
import HandS.ExcField
import HandS.ExcIs
import HandS.TryMany
import HandS.TryOnly
import HandS.Lambda
import HandS.HeadWalk
import KE.KLam
import KE.KExcIs
import PySem.Challenge.RW_nearcells_k72_what_shapes_refuse
set_option Elab.async false
set_option linter.all false
set_option maxRecDepth 100000
set_option maxHeartbeats 4000000
/-! NCBase: what all laws here use: calls by keywords alone, the end with the script's bits, heaps, readings as rules. -/
namespace L2
open PySem PySem.Spec PyProof.Rows
/-! ### keywords alone -/
def permL {α : Type} (ix : List Nat) (xs : List α) : List α := ix.filterMap fun i => xs[i]?
theorem permL_vals {zs : List V} {ws : List Value} (r : Vals zs ws) : ∀ ix : List Nat, Vals (permL ix zs) (permL ix ws)
  | [] => .nil
  | i :: is => by
    have ih := permL_vals r is
    unfold permL at ih ⊢
    rw [List.filterMap_cons, List.filterMap_cons]
    cases e : zs[i]? with
    | none =>
      rw [r.none_of e]
      exact ih
    | some z =>
      obtain ⟨u, e2, r2⟩ := r.get e
      rw [e2]
      exact .cons r2 ih
theorem FunD.kbnP {K : PySem.W.Frag} {x qual : Str} {params : Arguments} {body : List Stmt} {scope : Scope} {kws : List (Str × V)} {f : Addr} {fd : FuncData} {ps : List Str} (F : FunD K x qual params body scope [] kws f fd) (n : Nat) (ks : List Str) (ix : List Nat)
    (h : ∀ (kV doc pm : Value) (an : Option Addr) (cdv ct : Value) (us ws : List Value), us.length = n → ws.length = ks.length → bindArgs (PySem.W.fnOf x qual params body scope .none kV doc pm an cdv ct) ⟨us, ks.zip ws⟩ = pure (ps.zip (permL ix (us ++ ws)))) :
    KBn K fd ps n ks (fun us ws => permL ix (us ++ ws)) (fun vs zs => permL ix (vs ++ zs)) := by
  obtain ⟨oc, od, dV, kV, doc, pm, an, cdv, ct, osl, rfl, lk, hcd, hD, hK⟩ := F.ex
  rcases hD with ⟨_, rfl⟩ | ⟨e, _⟩
  · exact ⟨fun s us ws _ l1 l2 => .of_eq (h kV doc pm an cdv ct us ws l1 l2), fun r1 r2 => permL_vals (r1.append r2) ix⟩
  · exact absurd rfl e
section
variable {X : Cx} {CX : CXT} {k : Nat} {f : Addr} {fd : FuncData} {ps ks : List Str} {sp : Sp} {E : XK} {x : Str} {p pos : Pos} {kws : List Keyword} {tk : TA} {g : List Value → List Value → List Value} {gV : List V → List V → List V}
/-- f(k = v, ..) -/
theorem pe_callN0 (F : FnOk X.prog X.w X.K X.mg X.base CX k f fd ps sp) (hr : Room k X.A) (hg : Gl X x) (hm : X.mg x = some (.ref f)) (hk : PySem.W.keepIn X.K (.ref f) = true) (hb : KBn X.K fd ps 0 ks g gV) (hx : Passes CX X E) (hkw : PK X kws tk)
    (hall : (backToKw pos (keywordEach kws X.env)).all (·.1.isSome) = true := by rfl) (hks : (backToKw pos (keywordEach kws X.env)).filterMap (·.1) = ks := by rfl) (hdb : (x == ("__debug__" : Str)) = false := by decide)
    (hpl : ((backTo pos (starEach [] X.env)).any (·.1) || (backToKw pos (keywordEach kws X.env)).any (·.1.isNone)) = false := by rfl) :
    PE X (.Call (.Name x p) [] kws pos) (tCallN 0 ks.length sp gV E tNil tk) := by
  refine ⟨fun pins s σ H Q I h => ?_⟩
  refine wpAny_Call_Name_kw (ld_glob I hg hm ?_ hdb)
  refine PySem.W.callWith_KW0 (h₀ := X.base) I.ok.mod.kin hk hall ?_ hpl
  refine thn (hkw.run pos pins s σ H _ I h) fun ws s2 ⟨zs, H2, I2, rz, l1, l2, q2⟩ => ⟨I2.kIn, ?_⟩
  rw [hks]
  exact run_fnN (us := []) (vs := []) F hr hb hx I2 .nil rz rfl l2 q2
end
/-! ### the end, with the script's bits -/
theorem walk_ofBE {l : PySem.W.OpenLaw} {n k : Nat} {q : Program} {loose : List Str} {XP : (Str → Option Value) → Heap → Prop} {YP : World → Heap → Prop} {d : DefRec} {CX : CXT} {x : Str}
    (hn : l.most = some n) (hn2 : n ≤ sizeLine) (hdf : d.params.defaults = []) (hr : Room k callerA)
    (F : ∀ (w : World) (mg : Str → Option Value) (fa : Addr) (h : Heap), YP w h → h.Ns mainGlobals mg → mg d.name = some (.ref fa) →
      ∃ (K : PySem.W.Frag) (fd : FuncData) (sp : Sp), K.In h ∧ (∀ (s : Shared) (u : Value), BindsTo s fd ⟨[u], []⟩ [(x, u)]) ∧
        (∀ (H : Hp) (a : Addr) (ns : List Int), ns.length ≤ n → (∀ z ∈ ns, Builtin.Int.intBits z ≤ 1048576) → Only H → SqL K H a (ns.map V.int) → sp [.ref a] H (fun v _ => v = .bl true) fun _ _ _ => False) ∧
        ∀ base : Heap, K.In base → base.Ns mainGlobals mg → FnOk l.prog w K mg base CX k fa fd [x] sp)
    (hCX : ∀ (H : Hp) (s : Shared) (e : Value) (s' : Shared), CX [] H s (fun _ _ _ => False) e s' → False) :
    PySem.W.WalkO q loose XP YP l.row.toRowW d [] (fun f vs => PySem.call f vs) := by
  refine Att.attach_callB hn hdf fun w s₀ s₁ mg mb fa o pm cd doc a vs ns G Y ho hd hcd hmg hobj hints hlen hbits hg => ?_
  obtain ⟨K, fd, sp, KX, hb, hsp, hF⟩ := F w mg fa _ Y G.T.g hmg
  exact law_call KX G.T.g G.T.b G.T.builtins G.T.nolimit hg hobj hints (Nat.le_trans hlen hn2) hr hF hb (fun H hO hS => hsp H a ns hlen hbits hO hS) fun H e s' => hCX H s₁ e s'
/-! ### readings as rules -/
section
variable {σ : St} {H : Hp} {Q : VK} {D : Ends} {K : PySem.W.Frag} {v x y : V}
theorem g_var {i : Nat} (h : σ[i]? = some (some v)) (q : Q v H) : tVar i σ H Q := ⟨v, h, q⟩
theorem g_c (q : Q v H) : tC v σ H Q := q
theorem g_op {r : R2} {ta tb : TE} (q : ta σ H fun x H1 => tb σ H1 fun y H2 => r x y H2 Q) : tOp r ta tb σ H Q := q
theorem g_un {r : V → Hp → VK → Prop} {ta : TE} (q : ta σ H fun x H1 => r x H1 Q) : tUn r ta σ H Q := q
theorem g_I0 {g : Int → Int → V} {i j : Int} (q : Q (g i j) H) : rI0 g (.int i) (.int j) H Q := ⟨i, j, rfl, rfl, q⟩
theorem g_mul {g : Int → Int → V} {i j : Int} (hc : CMul i j) (q : Q (g i j) H) : rI CMul g (.int i) (.int j) H Q := ⟨i, j, rfl, rfl, hc, q⟩
theorem g_I {C : Int → Int → Prop} {g : Int → Int → V} {i j : Int} (hc : C i j) (q : Q (g i j) H) : rI C g (.int i) (.int j) H Q := ⟨i, j, rfl, rfl, hc, q⟩
theorem g_U {g : Int → V} {i : Int} (q : Q (g i) H) : rU g (.int i) H Q := ⟨i, rfl, q⟩
theorem g_eqI {i j : Int} (q : Q (.bl (decide (i = j))) H) : rEq (.int i) (.int j) H Q := ⟨rfl, by rw [dec_int, Bool.beq_eq_decide_eq]; exact q⟩
theorem g_neI {i j : Int} (q : Q (.bl (!decide (i = j))) H) : rNe (.int i) (.int j) H Q := ⟨rfl, by rw [dec_int, Bool.beq_eq_decide_eq]; exact q⟩
theorem g_eqB {i j : Bool} (q : Q (.bl (i == j)) H) : rEq (.bl i) (.bl j) H Q := ⟨rfl, by rw [dec_bl]; exact q⟩
theorem g_neB {i j : Bool} (q : Q (.bl (!(i == j))) H) : rNe (.bl i) (.bl j) H Q := ⟨rfl, by rw [dec_bl]; exact q⟩
theorem g_cons {ta : TE} {tr : TA} {q : List V → Hp → Prop} (h : ta σ H fun x H1 => tr σ H1 fun xs H2 => q (x :: xs) H2) : tCons ta tr σ H q := h
theorem g_nil {q : List V → Hp → Prop} (h : q [] H) : tNil σ H q := h
theorem g_tup {t : TA} (h : t σ H fun xs H1 => xs.length ≤ sizeLine ∧ ∀ p, H1 p = none → Q (.ref p) (upd H1 p (.tup xs))) : tTup t σ H Q := h
theorem g_lst {t : TA} (h : t σ H fun xs H1 => xs.length ≤ sizeLine ∧ ∀ p, H1 p = none → Q (.ref p) (upd H1 p (.lst xs))) : tLst t σ H Q := h
theorem g_ixT {p : Addr} {xs : List V} {i : Int} (h : H p = some (.tup xs)) (ha : atI xs i = some v) (q : Q v H) : rIxT K (.ref p) (.int i) H Q := ⟨p, xs, i, v, rfl, rfl, SqT.of h, ha, q⟩
theorem g_ixL {p : Addr} {xs : List V} {i : Int} (h : H p = some (.lst xs)) (ha : atI xs i = some v) (q : Q v H) : rIxL K (.ref p) (.int i) H Q := ⟨p, xs, i, v, rfl, rfl, SqL.of h, ha, q⟩
theorem g_cb {r : List V → Hp → VK → Prop} {t : TA} (q : t σ H fun vs H1 => r vs H1 Q) : tCB r t σ H Q := q
theorem g_call {sp : Sp} {dvs : List V} {E : XK} {t : TA} (q : t σ H fun vs H1 => sp (vs ++ dvs) H1 Q E) : tCall sp dvs E t σ H Q := q
theorem g_test {t : TE} {q : Bool → Hp → Prop} (h : t σ H fun x H' => ∃ k, x = .bl k ∧ q k H') : tTest t σ H q := h
theorem g_tb {t : TE} {q : Bool → Hp → Prop} (h : t σ H fun x H' => ∃ k, x = .bl k ∧ q k H') : tB t σ H q := h
theorem g_bl {b : Bool} {q : Bool → Prop} (h : q b) : ∃ k, V.bl b = .bl k ∧ q k := ⟨b, rfl, h⟩
theorem g_yes {q : Bool → Hp → Prop} (h : q true H) : tYes σ H q := h
theorem g_and {t u : TT} {q : Bool → Hp → Prop} (h : t σ H fun c H1 => if c = true then u σ H1 q else q false H1) : tAnd t u σ H q := h
theorem g_or {t u : TT} {q : Bool → Hp → Prop} (h : t σ H fun c H1 => if c = true then q true H1 else u σ H1 q) : tOr t u σ H q := h
theorem g_not {t : TT} {q : Bool → Hp → Prop} (h : t σ H fun c H1 => q (!c) H1) : tNot t σ H q := h
theorem g_if {t : TT} {ta tb : TE} (h : t σ H fun c H1 => if c = true then ta σ H1 Q else tb σ H1 Q) : tIf t ta tb σ H Q := h
theorem g_ifS {c : TT} {t u : TS} (h : c σ H fun b H1 => if b = true then t D σ H1 else u D σ H1) : tIfS c t u D σ H := h
theorem g_seq {t u : TS} (h : t { D with nx := u D } σ H) : tSeq t u D σ H := h
theorem g_next (h : D.nx σ H) : tNext D σ H := h
theorem g_ret {te : TE} (h : te σ H D.rt) : tRet te D σ H := h
theorem g_asg {te : TE} {g : TG} (h : te σ H fun x H1 => g x σ H1 D.nx) : tAsg te g D σ H := h
theorem g_name {i : Nat} {q : St → Hp → Prop} (h : q (σ.set i (some v)) H) : gName i v σ H q := h
theorem g_drop {te : TE} (h : te σ H fun _ H1 => D.nx σ H1) : tDrop te D σ H := h
theorem g_par {i j : Nat} {ta : TA} (h : ta σ H fun vs H1 => ∃ v w, vs = [v, w] ∧ D.nx ((σ.set i (some v)).set j (some w)) H1) : tPar i j ta D σ H := h
theorem g_par3 {i j l : Nat} {ta : TA} (h : ta σ H fun vs H1 => ∃ u v w, vs = [u, v, w] ∧ D.nx (((σ.set i (some u)).set j (some v)).set l (some w)) H1) : tPar3 i j l ta D σ H := h
theorem g_chain {r r' : R2} {ta tb tc : TE} (h : ta σ H fun x H1 => tb σ H1 fun y H2 => r x y H2 fun z H3 => ∃ k, z = .bl k ∧ (if k = true then tc σ H3 fun w' H4 => r' y w' H4 Q else Q (.bl false) H3)) : tChain r r' ta tb tc σ H Q := h
theorem g_andV {ta tb : TE} (h : ta σ H fun x H1 => ∃ c, x = .bl c ∧ if c = true then tb σ H1 Q else Q (.bl false) H1) : tAndV ta tb σ H Q := h
theorem g_orV {ta tb : TE} (h : ta σ H fun x H1 => ∃ c, x = .bl c ∧ if c = true then Q (.bl true) H1 else tb σ H1 Q) : tOrV ta tb σ H Q := h
theorem g_notV {ta : TE} (h : ta σ H fun x H1 => ∃ c, x = .bl c ∧ Q (.bl (!c)) H1) : tNotV ta σ H Q := h
theorem g_sub {to ti : TE} {t : TSet} {q : St → Hp → Prop} (h : to σ H fun o H1 => ti σ H1 fun i H2 => t o i v H2 fun H3 => q σ H3) : gSub to ti t v σ H q := h
theorem g_setL {p : Addr} {xs : List V} {k : Int} {j : Nat} {q : Hp → Prop} (h : H p = some (.lst xs)) (hj : ixN xs.length k = some j) (hq : q (upd H p (.lst (xs.set j v)))) : rSetL (.ref p) (.int k) v H q := ⟨p, xs, k, j, rfl, rfl, h, hj, hq⟩
theorem g_tupG {n : Nat} {t : TGs} {a : Addr} {xs : List V} {q : St → Hp → Prop} (h : H a = some (.tup xs)) (hn : xs.length = n) (hq : t xs σ H q) : gTup K n t (.ref a) σ H q := ⟨a, xs, rfl, SqT.of h, hn, hq⟩
theorem g_unl {n : Nat} {t : TGs} {a : Addr} {xs : List V} {q : St → Hp → Prop} (h : H a = some (.lst xs)) (hn : xs.length = n) (hq : t xs σ H q) : gUnl K n t (.ref a) σ H q := ⟨a, xs, rfl, SqL.of h, hn, hq⟩
theorem g_consG {t : TG} {u : TGs} {r : List V} {q : St → Hp → Prop} (h : t v σ H fun σ' H' => u r σ' H' q) : gCons t u (v :: r) σ H q := ⟨v, r, rfl, h⟩
theorem g_nilG {q : St → Hp → Prop} (h : q σ H) : gNil [] σ H q := ⟨rfl, h⟩
theorem g_callN {n m : Nat} {sp : Sp} {gV : List V → List V → List V} {E : XK} {t tk : TA} (h : t σ H fun vs H1 => tk σ H1 fun zs H2 => vs.length = n ∧ zs.length = m ∧ sp (gV vs zs) H2 Q E) : tCallN n m sp gV E t tk σ H Q := h
theorem g_sl {r : V → Option Int → Option Int → Hp → VK → Prop} {te : TE} {tl th : TO} (h : te σ H fun x H1 => tl σ H1 fun l H2 => th σ H2 fun u H3 => r x l u H3 Q) : tSl r te tl th σ H Q := h
end
/-! ### built-ins by names of their own -/
def rInt : List V → Hp → VK → Prop := fun xs H Q => (∃ i, xs = [.int i] ∧ Q (.int i) H) ∨ ∃ k, xs = [.bl k] ∧ Q (.int (if k then 1 else 0)) H
def rLenN (K : PySem.W.Frag) : List V → Hp → VK → Prop := fun xs H Q => ∃ p ys, xs = [.ref p] ∧ (SqL K H p ys ∨ SqT K H p ys) ∧ Q (.int ys.length) H
def rAbs : List V → Hp → VK → Prop := fun xs H Q => ∃ i, xs = [.int i] ∧ Q (.int (if i < 0 then -i else i)) H
def rMin2 : List V → Hp → VK → Prop := fun xs H Q => ∃ i j, xs = [.int i, .int j] ∧ Q (.int (if j < i then j else i)) H
def rMax2 : List V → Hp → VK → Prop := fun xs H Q => ∃ i j, xs = [.int i, .int j] ∧ Q (.int (if j > i then j else i)) H
def zsg (k : Bool) : Int := if k then 1 else 0
theorem zsg_lo (k : Bool) : 0 ≤ zsg k := by cases k <;> decide
theorem zsg_hi (k : Bool) : zsg k ≤ 1 := by cases k <;> decide
section
variable {X : Cx}
theorem call_intN : CallR X (.type "int") rInt := call_int1
theorem call_lenN : CallR X (.builtin "len") (rLenN X.K) := call_len_seq
theorem call_absN : CallR X (.builtin "abs") rAbs := call_abs
theorem call_min2N (hc : X.calm = true) : CallR X (.builtin "min") rMin2 := call_min2 hc
theorem call_max2N (hc : X.calm = true) : CallR X (.builtin "max") rMax2 := call_max2 hc
end
section
variable {σ : St} {H : Hp} {Q : VK} {D : Ends} {K : PySem.W.Frag}
theorem g_intI {i : Int} (q : Q (.int i) H) : rInt [.int i] H Q := .inl ⟨i, rfl, q⟩
theorem g_intB {k : Bool} (q : Q (.int (zsg k)) H) : rInt [.bl k] H Q := .inr ⟨k, rfl, q⟩
theorem g_lenL {p : Addr} {xs : List V} (h : H p = some (.lst xs)) (q : Q (.int xs.length) H) : rLenN K [.ref p] H Q := ⟨p, xs, rfl, .inl (SqL.of h), q⟩
theorem g_lenT {p : Addr} {xs : List V} (h : H p = some (.tup xs)) (q : Q (.int xs.length) H) : rLenN K [.ref p] H Q := ⟨p, xs, rfl, .inr (SqT.of h), q⟩
theorem g_abs {i : Int} (q : Q (.int (if i < 0 then -i else i)) H) : rAbs [.int i] H Q := ⟨i, rfl, q⟩
theorem g_min2 {i j : Int} (q : Q (.int (if j < i then j else i)) H) : rMin2 [.int i, .int j] H Q := ⟨i, j, rfl, q⟩
theorem g_max2 {i j : Int} (q : Q (.int (if j > i then j else i)) H) : rMax2 [.int i, .int j] H Q := ⟨i, j, rfl, q⟩
theorem g_mod {g : Int → Int → V} {i j : Int} (hc : 0 < j) (q : Q (g i j) H) : rI (fun _ j => 0 < j) g (.int i) (.int j) H Q := ⟨i, j, rfl, rfl, hc, q⟩
theorem g_div {g : Int → Int → V} {i j : Int} (h1 : 0 < j) (h2 : j < 1073741824) (q : Q (g i j) H) : rI CDiv g (.int i) (.int j) H Q := ⟨i, j, rfl, rfl, ⟨h1, h2⟩, q⟩
theorem g_pow {g : Int → Int → V} {i j : Int} (hc : CPow i j) (q : Q (g i j) H) : rI CPow g (.int i) (.int j) H Q := ⟨i, j, rfl, rfl, hc, q⟩
theorem g_isi {x : V} {T : String} {t : String} {b : Bool} (ty : TyX K H x (.type t)) (h : kitB t T = some b) (q : Q (.bl b) H) : rIsi K [x, .ty T] H Q := ⟨x, .ty T, .type t, .type T, b, rfl, .ty T, ty, kit_ty h, q⟩
theorem g_po {te : TE} {q : Option Int → Hp → Prop} (h : te σ H fun x H1 => ∃ i, x = .int i ∧ q (some i) H1) : tPart te σ H q := h
theorem g_pon {q : Option Int → Hp → Prop} (h : q none H) : tNoPart σ H q := h
theorem g_int1 {i : Int} {q : Int → Prop} (h : q i) : ∃ k, V.int i = .int k ∧ q k := ⟨i, rfl, h⟩
end
/-! ### rules with the written part told -/
section
variable {X : Cx}
theorem ix_tupK (K : PySem.W.Frag) (h : X.K = K := by rfl) : IxR X (rIxT K) := by subst h; exact ix_tup
theorem ix_listK (K : PySem.W.Frag) (h : X.K = K := by rfl) : IxR X (rIxL K) := by subst h; exact ix_list
theorem sl_listK (K : PySem.W.Frag) (h : X.K = K := by rfl) : SlR X (rSlL K) := by subst h; exact sl_list
theorem call_lenK (K : PySem.W.Frag) (h : X.K = K := by rfl) : CallR X (.builtin "len") (rLenN K) := by subst h; exact call_lenN
theorem call_isiK0 (K : PySem.W.Frag) (h : X.K = K := by rfl) : CallR X (.builtin "isinstance") (rIsi K) := by subst h; exact call_isi
theorem op_eqDK (K : PySem.W.Frag) (hu : X.A.units + 64 < cLine) (h : X.K = K := by rfl) : OpR X (compareOp .Eq) (rEqD K) := by subst h; exact op_eqD hu
theorem op_neDK (K : PySem.W.Frag) (hu : X.A.units + 64 < cLine) (h : X.K = K := by rfl) : OpR X (compareOp .NotEq) (rNeD K) := by subst h; exact op_neD hu
theorem op_inK (K : PySem.W.Frag) (h : X.K = K := by rfl) : OpR X (compareOp .In) (rIn K false) := by subst h; exact op_in_seq
theorem op_notInK (K : PySem.W.Frag) (h : X.K = K := by rfl) : OpR X (compareOp .NotIn) (rIn K true) := by subst h; exact op_notIn_seq
theorem cr_allK (K : PySem.W.Frag) (hc : X.calm = true) (h : X.K = K := by rfl) : CallR X (.builtin "all") (rAll K) := by subst h; exact cr_all hc
theorem cr_anyK (K : PySem.W.Frag) (hc : X.calm = true) (h : X.K = K := by rfl) : CallR X (.builtin "any") (rAny K) := by subst h; exact cr_any hc
theorem cr_sumK (K : PySem.W.Frag) (hc : X.calm = true) (h : X.K = K := by rfl) : CallR X (.builtin "sum") (rSum K) := by subst h; exact cr_sum hc
theorem pi_listK {tg l : Expr} {tl : TE} (K : PySem.W.Frag) (hl : PE X l tl) (h : X.K = K := by rfl) : PI X tg l (iList K tl) := by subst h; exact pi_list hl
theorem pi_tupK {tg l : Expr} {tl : TE} (K : PySem.W.Frag) (hl : PE X l tl) (h : X.K = K := by rfl) : PI X tg l (iTup K tl) := by subst h; exact pi_tup hl
end
/-! ### loops -/
abbrev LoopP (g : TG) (tb : TS) (D : Ends) (σ : St) (J : It) (H1 : Hp) : Prop := ∃ W : Nat → Nat → St → Hp → Prop, (∃ m, W 0 m σ H1) ∧ ∀ i m σ H, W i m σ H →
  (J.stop i H ∧ D.nx σ H) ∨ (J.go i H ∧ ∃ N : St → Hp → Prop, (∀ σ' H', N σ' H' → ∃ m', m' < m ∧ W (i + 1) m' σ' H') ∧ ∀ x H', J.yld i H x H' → g x σ H' fun σ2 H2 => tb { D with nx := N, ct := N, bk := D.nx } σ2 H2)
abbrev LcP (g : TG) (tt : TT) (te : TE) (vs : List Nat) (σ : St) (Q : VK) (J : It) (H1 : Hp) : Prop := ∀ D, H1 D = none → ∃ W : Nat → Nat → Hp → Prop, (∃ m, W 0 m (upd H1 D (.lst []))) ∧ ∀ i m H, W i m H →
  (J.stop i H ∧ Q (.ref D) H) ∨ (J.go i H ∧ ∃ Nx : Hp → Prop, (∀ H', Nx H' → ∃ m', m' < m ∧ W (i + 1) m' H') ∧ ∀ x H', J.yld i H x H' → g x (wipe σ vs) H' fun σ2 H2 => wipe σ2 vs = wipe σ vs ∧ tt σ2 H2 fun b H3 =>
    if b = true then te σ2 H3 fun y H4 => ∃ acc, H4 D = some (.lst acc) ∧ acc.length < sizeLine ∧ Nx (upd H4 D (.lst (acc ++ [y]))) else Nx H3)
section
variable {σ : St} {H : Hp} {Q : VK} {D : Ends} {K : PySem.W.Frag}
theorem g_for {wi : TI} {g : TG} {tb : TS} (h : wi σ H (LoopP g tb D σ)) : tFor wi g tb D σ H := h
theorem g_lc {wi : TI} {g : TG} {tt : TT} {te : TE} {vs : List Nat} (h : wi σ H (LcP g tt te vs σ Q)) : tLc wi g tt te vs σ H Q := h
theorem g_rng1 {ta : TA} {R : It → Hp → Prop} (h : ta σ H fun vs H1 => ∃ j : Int, vs = [.int j] ∧ -(2 ^ 62) ≤ j ∧ j < 2 ^ 62 ∧ R (Itr 0 j.toNat) H1) : iRng1 ta σ H R := h
theorem g_rng2 {ta : TA} {R : It → Hp → Prop} (h : ta σ H fun vs H1 => ∃ i j : Int, vs = [.int i, .int j] ∧ (-(2 ^ 62) ≤ i ∧ i < 2 ^ 62 ∧ -(2 ^ 62) ≤ j ∧ j < 2 ^ 62) ∧ R (Itr i (j - i).toNat) H1) : iRng2 ta σ H R := h
theorem g_ilist {tl : TE} {R : It → Hp → Prop} (h : tl σ H fun x H1 => ∃ a, x = .ref a ∧ (∃ xs, SqL K H1 a xs) ∧ R (Itl K a) H1) : iList K tl σ H R := h
theorem g_itup {tl : TE} {R : It → Hp → Prop} (h : tl σ H fun x H1 => ∃ a, x = .ref a ∧ (∃ xs, SqT K H1 a xs) ∧ R (Itt K a) H1) : iTup K tl σ H R := h
theorem g_ikeys {td : TE} {R : It → Hp → Prop} (h : td σ H fun x H1 => ∃ d o, x = .ref d ∧ ((∃ kvs, H1 d = some (.frz o (.dK kvs)) ∧ R (Itk d o kvs) H1) ∨ ∃ kvs, H1 d = some (.frz o (.dT kvs)) ∧ R (Itkt d o kvs) H1)) : iKeys td σ H R := h
end
/-- over the keys of a locked dict of tuples -/
theorem lc_keysT {d : Addr} {o : Obj} {kvs : List (List Key × V)} {g : TG} {tt : TT} {te : TE} {vs : List Nat} {σ : St} {H1 : Hp} {D : Addr} {Qd : Hp → Prop} (Pv : Nat → Hp → Prop) (h0 : Pv 0 (upd H1 D (.lst []))) (hl : ∀ i H, i ≤ kvs.length → Pv i H → H d = some (.frz o (.dT kvs)))
    (hs : ∀ i k v q H, kvs[i]? = some (k, v) → H q = some (.tup (k.map kV)) → Pv i H → g (.ref q) (wipe σ vs) H fun σ2 H2 => wipe σ2 vs = wipe σ vs ∧ tt σ2 H2 fun b H3 =>
      if b = true then te σ2 H3 fun y H4 => ∃ acc, H4 D = some (.lst acc) ∧ acc.length < sizeLine ∧ Pv (i + 1) (upd H4 D (.lst (acc ++ [y]))) else Pv (i + 1) H3) (hd : ∀ H, Pv kvs.length H → Qd H) :
    ∃ W : Nat → Nat → Hp → Prop, (∃ m, W 0 m (upd H1 D (.lst []))) ∧ ∀ i m H, W i m H →
      ((Itkt d o kvs).stop i H ∧ Qd H) ∨ ((Itkt d o kvs).go i H ∧ ∃ Nx : Hp → Prop, (∀ H', Nx H' → ∃ m', m' < m ∧ W (i + 1) m' H') ∧ ∀ x H', (Itkt d o kvs).yld i H x H' → g x (wipe σ vs) H' fun σ2 H2 => wipe σ2 vs = wipe σ vs ∧ tt σ2 H2 fun b H3 =>
        if b = true then te σ2 H3 fun y H4 => ∃ acc, H4 D = some (.lst acc) ∧ acc.length < sizeLine ∧ Nx (upd H4 D (.lst (acc ++ [y]))) else Nx H3) := by
  refine ⟨fun i m H => m + i = kvs.length ∧ Pv i H, ⟨kvs.length, rfl, h0⟩, fun i m H hW => ?_⟩
  obtain ⟨em, p⟩ := hW
  have hd2 := hl i H (by omega) p
  by_cases hi : i < kvs.length
  · refine .inr ⟨⟨hd2, hi⟩, Pv (i + 1), fun H' p' => ⟨m - 1, by omega, by omega, p'⟩, fun x H' hy => ?_⟩
    obtain ⟨rfl, k, v, q, e1, rfl, e2⟩ := hy
    exact hs i k v q _ e1 e2 p
  · have e : i = kvs.length := by omega
    subst e
    exact .inl ⟨⟨hd2, Nat.le_refl _⟩, hd H p⟩
theorem mulL {i j : Int} (h1 : -1000000000000000000 ≤ i) (h2 : i ≤ 1000000000000000000) : CMul i j := .inl ⟨by omega, by omega⟩
theorem mulR {i j : Int} (h1 : -1000000000000000000 ≤ j) (h2 : j ≤ 1000000000000000000) : CMul i j := .inr ⟨by omega, by omega⟩
theorem len_le {n : Nat} (h : n ≤ 1000000) : n ≤ sizeLine := Nat.le_trans h (by decide)
theorem len_lt {n : Nat} (h : n < 1000000) : n < sizeLine := Nat.lt_of_lt_of_le h (by decide)
theorem pow_ok {i : Int} {j : Int} (h1 : 0 ≤ i) (h2 : i < 9223372036854775808) (h3 : 0 ≤ j) (h4 : j ≤ 1000000) : CPow i j := ⟨h3, h4, by omega⟩
/-! ### great numbers -/
def CMulA (i j : Int) : Prop := CMul i j ∨ CMulW i j
theorem CMulA.ok {i j : Int} (h : CMulA i j) : IntMulOk i j := h.elim CMul.ok CMulW.ok
def CDivA (_ j : Int) : Prop := j ≠ 0 ∧ j.natAbs.log2 < 9000
def CPowA (i j : Int) : Prop := 0 ≤ j ∧ (Builtin.Int.intBits i : Int) * j ≤ 2 ^ 27
def rMax3 : List V → Hp → VK → Prop := fun xs H Q => ∃ i j k, xs = [.int i, .int j, .int k] ∧ Q (.int (if j > i then (if k > j then k else j) else (if k > i then k else i))) H
section
variable {X : Cx}
theorem op_mulA : OpR X (binaryOp .Mult) (rI CMulA fun i j => .int (i * j)) := opI fun _ _ _ _ _ _ _ hc q => mul_int q hc.ok
theorem op_fdivA : OpR X (binaryOp .FloorDiv) (rI CDivA fun i j => .int (i.fdiv j)) := opI fun _ _ _ _ _ _ _ hc q => floordiv_int hc.1 q (.inl (PyProof.noPylong_of_log2 hc.2))
theorem op_powA : OpR X (binaryOp .Pow) (rI CPowA fun i j => .int (i ^ j.toNat)) := opI fun _ _ _ _ _ _ _ hc q => pow_int hc.1 hc.2 q
theorem call_max3N (hc : X.calm = true) : CallR X (.builtin "max") rMax3 := by
  intro pins s σ H xs us Q I r h
  obtain ⟨i, j, k, rfl, q⟩ := h
  obtain ⟨u1, u2, u3, rfl, ⟨t1, rfl⟩, ⟨t2, rfl⟩, ⟨t3, rfl⟩⟩ : ∃ u1 u2 u3, us = [u1, u2, u3] ∧ RelV (.int i) u1 ∧ RelV (.int j) u2 ∧ RelV (.int k) u3 := by
    cases r with
    | cons a r =>
      cases r with
      | cons b r =>
        cases r with
        | cons c r =>
          cases r
          exact ⟨_, _, _, rfl, a, b, c⟩
  refine max_three_ints (I.ok.hd hc) fun h' tk hk => ?_
  refine ⟨_, H, I.kept hk, ?_, q⟩
  by_cases h1 : j > i <;> by_cases h2 : k > j <;> by_cases h3 : k > i <;> simp only [h1, h2, h3, if_true, if_false] <;> exact ⟨_, rfl⟩
end
section
variable {H : Hp} {Q : VK}
theorem g_mulA {g : Int → Int → V} {i j : Int} (hc : CMulA i j) (q : Q (g i j) H) : rI CMulA g (.int i) (.int j) H Q := ⟨i, j, rfl, rfl, hc, q⟩
theorem g_divA {g : Int → Int → V} {i j : Int} (hc : CDivA i j) (q : Q (g i j) H) : rI CDivA g (.int i) (.int j) H Q := ⟨i, j, rfl, rfl, hc, q⟩
theorem g_powA {g : Int → Int → V} {i j : Int} (hc : CPowA i j) (q : Q (g i j) H) : rI CPowA g (.int i) (.int j) H Q := ⟨i, j, rfl, rfl, hc, q⟩
theorem g_max3 {i j k : Int} (q : Q (.int (if j > i then (if k > j then k else j) else (if k > i then k else i))) H) : rMax3 [.int i, .int j, .int k] H Q := ⟨i, j, k, rfl, q⟩
end
theorem mulW {i j : Int} (h1 : i.natAbs < 2 ^ 400) (h2 : j.natAbs < 2 ^ 400) : CMulA i j := .inr (wide_mul h1 h2 (by decide) (by decide) (by decide))
theorem divW {i j : Int} (h0 : j ≠ 0) (h : j.natAbs < 2 ^ 4000) : CDivA i j := ⟨h0, Nat.lt_of_lt_of_le (PySem.Flt.log2_lt_of (by decide) h) (by decide)⟩
theorem divB {i j : Int} (h0 : 0 < j) (h : j < 1267650600228229401496703205376) : CDivA i j := by
  refine divW (by omega) (Nat.lt_of_lt_of_le (m := 2 ^ 100) ?_ (Nat.pow_le_pow_right (by decide) (by decide)))
  have e : (2 : Nat) ^ 100 = 1267650600228229401496703205376 := by decide
  rw [e]
  omega
theorem powW {i : Int} (h : i.natAbs < 2 ^ 400) : CPowA i 2 := by
  refine ⟨by decide, ?_⟩
  have b : Builtin.Int.intBits i ≤ i.natAbs.log2 + 1 := by
    unfold Builtin.Int.intBits
    split <;> omega
  have c : i.natAbs.log2 < 400 := PySem.Flt.log2_lt_of (by decide) h
  have e : (2 : Int) ^ 27 = 134217728 := by decide
  rw [e]
  omega
theorem powS {i j : Int} (h0 : 0 ≤ j) (h1 : j ≤ 1000) (h : i.natAbs < 2 ^ 64) : CPowA i j := by
  refine ⟨h0, ?_⟩
  have b : Builtin.Int.intBits i ≤ i.natAbs.log2 + 1 := by
    unfold Builtin.Int.intBits
    split <;> omega
  have c : i.natAbs.log2 < 64 := PySem.Flt.log2_lt_of (by decide) h
  have e : (2 : Int) ^ 27 = 134217728 := by decide
  rw [e]
  have h2 : (Builtin.Int.intBits i : Int) * j ≤ 64 * 1000 := Int.mul_le_mul (by omega) h1 h0 (by decide)
  omega
/-! ### heaps: the tuples stay -/
def TK (H H' : Hp) : Prop := ∀ p xs, H p = some (.tup xs) → H' p = some (.tup xs)
theorem TK.refl (H : Hp) : TK H H := fun _ _ h => h
theorem TK.trans {H H1 H2 : Hp} (a : TK H H1) (b : TK H1 H2) : TK H H2 := fun p xs h => b p xs (a p xs h)
theorem TK.new {H : Hp} {p : Addr} {o : HO} (n : H p = none) : TK H (upd H p o) := fun q xs h => by
  rw [upd_ne (ne_of_none h n)]
  exact h
theorem TK.lst {H : Hp} {p : Addr} {l : List V} {o : HO} (n : H p = some (.lst l)) : TK H (upd H p o) := fun q xs h => by
  rw [upd_ne (ne_of h n (fun z => by cases z))]
  exact h
theorem TK.same {H H' : Hp} (s : Same H H') : TK H H' := fun p xs h => s p _ h
theorem same_new {H : Hp} {p : Addr} {o : HO} (h : H p = none) : Same H (upd H p o) := fun b x e => by
  rw [upd_ne (ne_of_none e h)]
  exact e
/-- v is the site (x, y) -/
def IsS (H : Hp) (v : V) (x y : Int) : Prop := ∃ p, v = .ref p ∧ H p = some (.tup [.int x, .int y])
theorem IsS.mono {H H' : Hp} {v : V} {x y : Int} (k : TK H H') (h : IsS H v x y) : IsS H' v x y := by
  obtain ⟨p, e, h⟩ := h
  exact ⟨p, e, k p _ h⟩
theorem all_ints {ns : List Int} {z : V} (h : z ∈ ns.map V.int) : ∃ n : Int, z = .int n := by
  obtain ⟨n, _, e⟩ := List.mem_map.mp h
  exact ⟨n, e.symm⟩
theorem cut_mem {xs : List V} {lo hi : Option Int} {z : V} (h : z ∈ cutV xs lo hi) : z ∈ xs := List.mem_of_mem_drop (List.mem_of_mem_take h)
theorem IsS.mk {H : Hp} {p : Addr} {x y : Int} : IsS (upd H p (.tup [.int x, .int y])) (.ref p) x y := ⟨p, rfl, upd_same⟩
end L2
/-! NCExc: own exception classes over ArithmeticError with an __init__ of their own. -/
namespace L2
open PySem PySem.Spec PyProof.Rows
abbrev aeT : List Value := [.type "ArithmeticError", .type "Exception", .type "BaseException", .type "object"]
/-- what the written part says of an own error class -/
structure OexA (K : PySem.W.Frag) (C : Addr) : Prop where
  ini : PySem.W.excInitIn K C aeT "ArithmeticError.__new__" = true
  ov : PySem.W.excOver K C aeT = true
  hd : PySem.W.hasDictIn K C = true
  sa : PySem.W.findIn K (.ref C) "__setattr__" = some (some (.builtin "object.__setattr__"))
  exC : PySem.W.subIn K (.ref C) (.type "BaseException") = some true
  tyC : PySem.W.typeIn K (.ref C) = some (.type "type")
  kC : PySem.W.keepIn K (.ref C) = true
def oexAB (K : PySem.W.Frag) (C : Addr) : Bool := PySem.W.excInitIn K C aeT "ArithmeticError.__new__" && (PySem.W.excOver K C aeT && (PySem.W.hasDictIn K C && (decide (PySem.W.findIn K (.ref C) "__setattr__" = some (some (.builtin "object.__setattr__"))) &&
  (decide (PySem.W.subIn K (.ref C) (.type "BaseException") = some true) && (decide (PySem.W.typeIn K (.ref C) = some (.type "type")) && PySem.W.keepIn K (.ref C))))))
theorem oexAB_ok {K : PySem.W.Frag} {C : Addr} (h : oexAB K C = true) : OexA K C := by
  obtain ⟨h1, h⟩ := Bool.and_eq_true_iff.mp h
  obtain ⟨h2, h⟩ := Bool.and_eq_true_iff.mp h
  obtain ⟨h3, h⟩ := Bool.and_eq_true_iff.mp h
  obtain ⟨h4, h⟩ := Bool.and_eq_true_iff.mp h
  obtain ⟨h5, h⟩ := Bool.and_eq_true_iff.mp h
  obtain ⟨h6, h7⟩ := Bool.and_eq_true_iff.mp h
  exact ⟨h1, h2, h3, of_decide_eq_true h4, of_decide_eq_true h5, of_decide_eq_true h6, h7⟩
section
variable {prog : Program} {w : World} {A : Around} {R : Result → Shared → Prop} {hp : Heap} {g : Array GenState} {d : Drawn} {t : Nat} {os : OsState}
open Builtin Builtin.ObjectAttr in
/-- self.name = v on an exception that has no dict yet -/
theorem exc_osaA {K : PySem.W.Frag} {name : Str} {tk : Tok} {v : Value} {x C : Addr} {fv : Array Value} (T : OexA K C)
    (X : K.In hp) (hx : hp.get? x = some { cls := .ref C, data := .fields fv }) (ha : PySem.W.findIn K (.ref C) name = some none)
    (hq : ∀ h' tk' dx, (∀ b o, b ≠ x → hp.get? b = some o → h'.get? b = some o) → hp.objs.size ≤ dx → dx ≠ x → h'.get? x = some { cls := .ref C, dict := some dx, data := .fields fv } →
      h'.Ns1 dx (fun y => if y = name then some v else none) → R (.ok (.ret .none)) ⟨h', g, d, tk', os⟩) :
    codeAny (model prog w) A (.call (.builtin "object.__setattr__") ⟨[.ref x, .str name tk, v], []⟩) R ⟨hp, g, d, t, os⟩ := by
  have I : PySem.W.InstAt hp x { cls := .ref C, data := .fields fv } C none := ⟨hx, rfl, rfl, trivial⟩
  have hxs : x ≠ hp.objs.size := Nat.ne_of_lt (Heap.lt_size hx)
  refine PySem.W.osa_openX (od := none) (r := none) F.store_ArithmeticError X I T.ov (by unfold PySem.W.takerIn; rw [ha] <;> rfl) fun b => ?_
  obtain ⟨cd, hcd, hh⟩ := PySem.W.any_some T.hd
  have hcls : PySem.W.Looks (model prog w) hp (classData C) cd := PySem.W.looks_clsIn X hcd
  show wpAny _ _ (storeInOwnDict (.ref x) (.ref C) (.str name tk) name v b) _ _ _
  obtain ⟨nm, bs, mro, ns, qn, hd, sn, sb, ab, col, del⟩ := cd
  dsimp only at hh
  subst hh
  unfold storeInOwnDict ownDictForStores
  repeat (first | with_reducible refine PySem.HandSPX.store_in_new ?_ ?_ | with_reducible refine wpAny_loadPart_at hx ?_ | with_reducible refine hcls.at ?_ | wp_step)
  · exact ⟨_, #[], _, (Heap.get?_update_ne _ _ _ _ hxs.symm).trans (Heap.get?_push_at rfl rfl), rfl, fun e he => absurd he (by simp), fun _ => rfl⟩
  · intro h' tk' hn' hs
    have hx₁ : (hp.push { cls := .type "dict", data := .dict #[] }).get? x = some { cls := .ref C, data := .fields fv } := Heap.get?_push_of_some _ hx
    refine hq h' tk' hp.objs.size (fun b o hb ho => ?_) (Nat.le_refl _) hxs.symm ?_ hn'
    · exact (hs.2 b (Nat.ne_of_lt (Heap.lt_size ho))).trans ((Heap.get?_update_ne _ _ _ _ hb).trans (Heap.get?_push_of_some _ ho))
    · exact (hs.2 x hxs).trans (Heap.get?_update_self _ hx₁ rfl)
end
section
variable {X : Cx} {pins : List (Addr × Obj)} {σ : St} {H : Hp} {s : Shared} {a C dx : Addr} {f : Str} {y : V} {u : Value} {Q : Unit → Shared → Prop} {E : Value → Shared → Prop} {A : Around}
/-- self.f = y, the only one -/
theorem ost_newA (T : OexA X.K C) (I : Inv X pins σ H s) (e : H a = some (exo a C none)) (hno : PySem.W.findIn X.K (.ref C) f = some none) (ry : RelV y u)
    (h : ∀ dx s', H dx = none → dx ≠ a → Inv X pins σ (upd (upd H dx (exd dx [(f, y)])) a (exo a C (some dx))) s' → Q () s') : wpAny (model X.prog X.w) A (setAttr (.ref a) f u) Q E s := by
  obtain ⟨t1, ho⟩ := exo_at I.hok e
  obtain ⟨hp, g, d, t, os⟩ := s
  refine PySem.W.set_plain I.kIn (ox := { cls := .ref C, dict := none, data := .fields #[.ref t1, .none, .none, .none, .bool false, .none] }) (od := none) ⟨ho, rfl, rfl, trivial⟩ T.sa ?_
  refine exc_osaA T I.kIn ho hno (fun h' tk' dx k dn dne hx hn => ?_)
  have hnd : H dx = none := I.hok.fresh dn
  have nd : ∀ {b : Addr} {o : Obj}, hp.get? b = some o → b ≠ dx := fun {b o} q => Nat.ne_of_lt (Nat.lt_of_lt_of_le (Heap.lt_size q) dn)
  have na : ∀ {b : Addr}, H b = none → b ≠ a := fun {b} n z => by
    rw [z, e] at n
    cases n
  have Un1 : Un X.fs [] H (upd (upd H dx (exd dx [(f, y)])) a (exo a C (some dx))) hp h' := {
    keep := fun b o q n _ _ => k b o (na n) q
    slot := fun b o q n _ _ => ⟨o.slots, k b o (na n) q⟩
    free := fun b o q n _ => by rw [upd_ne (na n), upd_ne (nd q)]; exact n
    there := fun b o q _ => by
      by_cases hb : b = a
      · exact ⟨_, by rw [hb]; exact hx⟩
      · exact ⟨o, k b o hb q⟩
    tups := fun b xs q => by rw [upd_ne (at_ne e q exo_tup), upd_ne (ne_of_none q hnd)]; exact q
    frzs := fun b o v q => by rw [upd_ne (at_ne e q exo_frz), upd_ne (ne_of_none q hnd)]; exact q
    tbls := fun b ps q => ⟨#[], by rw [upd_ne (at_ne e q exo_tbl), upd_ne (ne_of_none q hnd), q]; simp⟩ }
  refine h dx _ hnd dne (I.un (t' := tk') Un1 fun b o q => ?_)
  by_cases hb : b = a
  · subst hb
    rw [upd_same] at q
    cases q
    exact exo_ok hx
  · rw [upd_ne hb] at q
    by_cases hd : b = dx
    · subst hd
      rw [upd_same] at q
      cases q
      exact exd_ok hn (relO_put (fs := []) ry fun g => True.intro)
    · rw [upd_ne hd] at q
      exact (I.hok b o q).stay (fun c v hc z => k c v (by
          rcases hc with hc | hc
          · rw [hc]
            exact hb
          · exact at_ne e hc exo_own) z)
        (fun c hc => by rw [upd_ne (at_ne e hc exo_own), upd_ne (ne_of_none hc hnd)]; exact hc) (fun c xs hc => by rw [upd_ne (at_ne e hc exo_tup), upd_ne (ne_of_none hc hnd)]; exact hc)
/-- ArithmeticError.__init__(self, ..): nothing of it is told -/
theorem oinit_okA {us : List Value} {Q : Value → Shared → Prop} (T : OexA X.K C) (I : Inv X pins σ H s) (e : H a = some (exo a C none)) (hl : us.length ≤ sizeLine) (h : ∀ s', Inv X pins σ H s' → Q .none s') :
    wpAny (model X.prog X.w) A (call (.builtin "ArithmeticError.__init__") (.ref a :: us)) Q E s := by
  obtain ⟨nm, N, q, bs, bm, hdct, sn, sub, ab, col, dd, k0, k1, k2, k3, k5, hC, hbm⟩ := PySem.W.excInit_of I.kIn T.ini
  obtain ⟨t1, ho⟩ := exo_at I.hok e
  obtain ⟨hp, g, d, t, os⟩ := s
  refine wpAny_call (PySem.HandSPX.init_base F.excBase_ArithmeticError hbm hC ho hl fun h' t2 k hx => ?_)
  have J := I.write (t' := t) (x := a) (e := a) (o := exo a C none) (by rw [e]; exact True.intro) (.inl rfl) k ⟨_, hx⟩ (exo_ok hx)
  have eu : upd H a (exo a C none) = H := by
    funext b
    by_cases hb : b = a
    · rw [hb, upd_same, e]
    · rw [upd_ne hb]
  rw [eu] at J
  exact h _ J
end
/-! ### readings and rules -/
/-- what a class over ArithmeticError says when its __init__ is read -/
structure BaseA (K : PySem.W.Frag) (C : Addr) : Prop where
  kp : PySem.W.keepIn K (.ref C) = true
  sp : PySem.W.specialIn K (.ref C) "__getattribute__" = some (some (.builtin "type.__getattribute__"))
  rd : PySem.W.readsIn K C (.type "type") = true
  fi : PySem.W.findCls K (.ref C) (.type "type") "__init__" = some (.val (.builtin "ArithmeticError.__init__"))
def baseAB (K : PySem.W.Frag) (C : Addr) : Bool := PySem.W.keepIn K (.ref C) && (decide (PySem.W.specialIn K (.ref C) "__getattribute__" = some (some (.builtin "type.__getattribute__"))) && (PySem.W.readsIn K C (.type "type") &&
  (match PySem.W.findCls K (.ref C) (.type "type") "__init__" with
    | some (.val (.builtin n)) => n == "ArithmeticError.__init__"
    | _ => false)))
theorem baseAB_ok {K : PySem.W.Frag} {C : Addr} (h : baseAB K C = true) : BaseA K C := by
  obtain ⟨h1, h⟩ := Bool.and_eq_true_iff.mp h
  obtain ⟨h2, h⟩ := Bool.and_eq_true_iff.mp h
  obtain ⟨h3, h4⟩ := Bool.and_eq_true_iff.mp h
  refine ⟨h1, of_decide_eq_true h2, h3, ?_⟩
  split at h4
  · rename_i n e
    rw [e, beq_iff_eq.mp h4]
  · cases h4
/-- Base.__init__(self, ..) -/
def tCeI (K : PySem.W.Frag) (ta : TA) : TE := fun σ H Q => ta σ H fun vs H1 => ∃ (a C : Addr) (ws : List V), vs = .ref a :: ws ∧ ws.length ≤ 1000 ∧ OexA K C ∧ H1 a = some (exo a C none) ∧ Q .non H1
/-- self.f = e -/
def tOsA (K : PySem.W.Frag) (f : Str) (to te : TE) : TS := fun D σ H => te σ H fun y H1 => to σ H1 fun x H2 => ∃ a C : Addr, x = .ref a ∧ OexA K C ∧ PySem.W.findIn K (.ref C) f = some none ∧
  H2 a = some (exo a C none) ∧ ∀ dx, H2 dx = none → dx ≠ a → D.nx σ (upd (upd H2 dx (exd dx [(f, y)])) a (exo a C (some dx)))
/-- C(e, ..), C's own __init__ keeping sp -/
def tMkA (C : Addr) (sp : Sp) (ta : TA) : St → Hp → XK → Prop := fun σ H Q => ta σ H fun vs H1 => vs.length ≤ 1000 ∧ ∀ a, H1 a = none → sp (.ref a :: vs) (upd H1 a (exo a C none))
  (fun v H2 => v = .non ∧ ((H2 a = some (exo a C none) ∧ Q (.ref C) none (del H2 a)) ∨ ∃ (d : Addr) (fs : List (Str × V)), H2 a = some (exo a C (some d)) ∧ H2 d = some (exd d fs) ∧ H1 d = none ∧ Q (.ref C) (some d) (upd (del H2 a) d (.xd fs)))) (fun _ _ _ => False)
section
variable {X : Cx} {o e : Expr} {es : List Expr} {to te : TE} {ta : TA} {f : Str} {p p' p1 p2 pos : Pos}
theorem pe_ceinit {pl : Sem Bool} {x : Str} {B : Addr} (T0 : BaseA X.K B) (hg : Gl X x) (hm : X.mg x = some (.ref B)) (ha : PA X (e :: es) ta)
    (hc : eval (.Call (.Attribute (.Name x p1) "__init__" p2) (e :: es) [] pos) X.env = (do
      let ov ← eval (.Name x p1) X.env
      standAt p2.atName
      let (f, first) ← holding [ov] (getMethod ov "__init__" pl)
      callWith pos f first (backTo pos (starEach (e :: es) X.env)) (backToKw pos (keywordEach [] X.env))) := by rfl)
    (he : starEach (e :: es) X.env = (false, eval e X.env) :: starEach es X.env := by rfl) (hpl : (backTo pos (starEach es X.env)).any (·.1) = false := by rfl) (hdb : (x == ("__debug__" : Str)) = false := by decide) :
    PE X (.Call (.Attribute (.Name x p1) "__init__" p2) (e :: es) [] pos) (tCeI X.K ta) := by
  refine ⟨fun pins s σ H Q I h => ?_⟩
  refine PySem.W.methodCall_KW (ld_glob I hg hm ?_ hdb) hc
  refine PySem.W.method_cls I.kIn T0.sp ?_
  refine PySem.W.cls_value I.kIn T0.rd T0.fi (by decide +kernel) ?_
  show wpAny _ _ (callWith pos (Value.builtin "ArithmeticError.__init__") [] (backTo pos (starEach (e :: es) X.env)) []) _ _ _
  refine PyProof.Rows.callWith_method1 (thn (ha.run pos pins _ σ H _ (I.tok _) h) fun us s1 ⟨vs, H1, I1, r1, a, C, ws, ev, hl, T, ea, q⟩ => ?_) he hpl
  subst ev
  cases r1 with
  | @cons _ u0 _ ur ra rw' =>
    obtain rfl : u0 = Value.ref a := ra
    have hlen : ur.length ≤ sizeLine := by
      rw [← Paired.length rw', sizeLine_eq]
      omega
    exact oinit_okA T I1 ea hlen fun s' J => ⟨.non, H1, J, rfl, q⟩
theorem ps_osA (ho : PE X o to) (he : PE X e te) (hs : swapsWith e (some (.Attribute o f p')) pos.line X.env = pure false := by rfl) : PS X (.Assign [.Attribute o f p'] e pos) (tOsA X.K f to te) := by
  refine ⟨fun pins s σ H D I h => ?_⟩
  refine plainObj_wpAny_Assign_Attribute (thn (he.run pins s σ H _ I h) fun v s1 ⟨y, H1, I1, r1, q1⟩ => thn (ho.run pins s1 σ H1 _ I1 q1) fun u s2 ⟨x, H2, I2, r2, a, C, ex, T, hno, ea, q⟩ => ?_) hs
  subst ex
  obtain rfl : u = Value.ref a := r2
  exact ost_newA T I2 ea hno r1 fun dx s' n ne J => ⟨σ, _, J, q dx n ne⟩
/-- the end of C(): the exception, without a dict, is let go -/
theorem mk_endN {pins : List (Addr × Obj)} {σ : St} {H1 H2 : Hp} {Q : XK} {hp hp2 h2 : Heap} {g1 g2 : Array GenState} {d1 d2 : Drawn} {t1 t2 : Nat} {os1 os2 : OsState} {a C : Addr} (T : Raises X (.ref C)) (I1 : Inv X pins σ H1 ⟨hp, g1, d1, t1, os1⟩)
    (ha : hp.objs.size ≤ a) (k : ∀ b o, hp.get? b = some o → hp2.get? b = some o) (un : Un (frs X.stack) [] (upd H1 a (exo a C none)) H2 hp2 h2) (hok : HOk X.prog X.w H2 h2) (ho : os2 = os1) (hb : AllBare g2)
    (ea : H2 a = some (exo a C none)) (q : Q (.ref C) none (del H2 a)) : MkP X pins σ Q (.ref a) ⟨h2, g2, d2, t2, os2⟩ := by
  obtain ⟨t0, hoe⟩ := exo_at hok ea
  have hn : H1 a = none := I1.hok.fresh ha
  obtain ⟨G, g1', g2'⟩ := restrict h2 fun b => decide (b ≠ a)
  have gk : ∀ b, b ≠ a → G.get? b = h2.get? b := fun b hb => g1' b (decide_eq_true hb)
  have ge : G.get? a = none := g2' a (by simp)
  have nha : ∀ {b : Addr} {o : Obj}, hp.get? b = some o → b ≠ a := fun {b o} z => Nat.ne_of_lt (Nat.lt_of_lt_of_le (Heap.lt_size z) ha)
  have up : ∀ {b : Addr}, b ≠ a → H1 b = none → upd H1 a (exo a C none) b = none := fun {b} hb n => by rw [upd_ne hb]; exact n
  have U : Un (frs X.stack) [] H1 (del H2 a) hp G := {
    keep := fun b o z n hf hx => by
      rw [gk b (nha z)]
      exact un.keep b o (k b o z) (up (nha z) n) hf hx
    slot := fun b o z n hf hx => by
      rw [gk b (nha z)]
      exact un.slot b o (k b o z) (up (nha z) n) hf hx
    free := fun b o z n hx => by
      rw [del_ne (nha z)]
      exact un.free b o (k b o z) (up (nha z) n) hx
    there := fun b o z hx => by
      rw [gk b (nha z)]
      exact un.there b o (k b o z) hx
    tups := fun b xs z => by
      rw [del_ne (ne_of_none z hn)]
      exact un.tups b xs (by rw [upd_ne (ne_of_none z hn)]; exact z)
    frzs := fun b o v z => by
      rw [del_ne (ne_of_none z hn)]
      exact un.frzs b o v (by rw [upd_ne (ne_of_none z hn)]; exact z)
    tbls := fun b ps z => by
      rw [del_ne (ne_of_none z hn)]
      exact un.tbls b ps (by rw [upd_ne (ne_of_none z hn)]; exact z) }
  have hok3 : HOk X.prog X.w (del H2 a) G := fun b o z => by
    have hba : b ≠ a := fun e => by
      rw [e, del_same] at z
      cases z
    rw [del_ne hba] at z
    have noa : ∀ {c : Addr}, H2 c = some (.own b) → c ≠ a := fun {c} hc => at_ne ea hc exo_own
    exact (hok b o z).stay (fun c v hc y => by
        have hca : c ≠ a := by
          rcases hc with hc | hc
          · rw [hc]
            exact hba
          · exact noa hc
        rw [gk c hca]
        exact y)
      (fun c hc => by rw [del_ne (noa hc)]; exact hc) (fun c xs hc => by rw [del_ne (at_ne ea hc exo_tup)]; exact hc)
  have J : Inv X pins σ (del H2 a) ⟨G, g2, d2, t2, os2⟩ := I1.call' (ch := []) ho U hok3 hb (fun b z => absurd z (by simp))
  refine ⟨a, _, _, ⟨G, g2, d2, t2, os2⟩, _, .ref C, none, rfl, J, fun b o z => ?_, ge, hoe, ⟨rfl, rfl⟩, rfl, rfl, del_same, rfl, hb, T, q⟩
  by_cases hba : b = a
  · rw [hba, ge] at z
    cases z
  · exact (gk b hba).symm.trans z
theorem pmk_core {CX : CXT} {C fI : Addr} {k : Nat} {fd : FuncData} {ps : List Str} {sp : Sp} {pins : List (Addr × Obj)} {σ : St} {H1 : Hp} {Q : XK} {s1 : Shared} {vs : List V} {us : List Value} (T : OexA X.K C) (iC : PySem.W.findIn X.K (.ref C) "__init__" = some (some (.ref fI))) (tI : PySem.W.typeIn X.K (.ref fI) = some (.type "function"))
    (F1 : FnOk X.prog X.w X.K X.mg X.base CX k fI fd ps sp) (hr : Room (k + 1) X.A) (hb : Binds X.K fd ps []) (hx : Passes CX X (fun _ _ _ => False)) (I1 : Inv X pins σ H1 s1) (r1 : Vals vs us) (hz : vs.length ≤ 1000)
    (q1 : ∀ a, H1 a = none → sp (.ref a :: vs) (upd H1 a (exo a C none))
      (fun v H2 => v = .non ∧ ((H2 a = some (exo a C none) ∧ Q (.ref C) none (del H2 a)) ∨ ∃ (d : Addr) (fs : List (Str × V)), H2 a = some (exo a C (some d)) ∧ H2 d = some (exd d fs) ∧ H1 d = none ∧ Q (.ref C) (some d) (upd (del H2 a) d (.xd fs)))) (fun _ _ _ => False)) :
    wpAny (model X.prog X.w) X.A (call (.ref C) us) (MkP X pins σ Q) X.xe s1 := by
  obtain ⟨nm, N, q, bs, bm, hdct, sn, sub, ab, col, dd, k0, k1, k2, k3, k5, hC, hbm⟩ := PySem.W.excInit_of I1.kIn T.ini
  obtain ⟨hp, g, dr, tk, os⟩ := s1
  have hsz : hp.objs.size ≤ hp.objs.size + 1 := Nat.le_succ _
  have hn : H1 (hp.objs.size + 1) = none := I1.hok.fresh hsz
  have hq := q1 (hp.objs.size + 1) hn
  have kk : ∀ b o, hp.get? b = some o → ((hp.push (PySem.W.kdv_tup us)).push (PySem.HandSPX.excO C hp.objs.size)).get? b = some o := fun b o e => Heap.get?_push_of_some _ (Heap.get?_push_of_some _ e)
  have hget : ((hp.push (PySem.W.kdv_tup us)).push (PySem.HandSPX.excO C hp.objs.size)).get? (hp.objs.size + 1) = some (PySem.HandSPX.excO C hp.objs.size) := by heap_get
  have I2 : Inv X pins σ (upd H1 (hp.objs.size + 1) (exo (hp.objs.size + 1) C none)) ⟨(hp.push (PySem.W.kdv_tup us)).push (PySem.HandSPX.excO C hp.objs.size), g, dr, tk, os⟩ :=
    I1.laid (t' := tk) (a := hp.objs.size + 1) (o := exo (hp.objs.size + 1) C none) (h' := (hp.push (PySem.W.kdv_tup us)).push (PySem.HandSPX.excO C hp.objs.size)) kk hsz (exo_ok hget)
  have r2 : Vals (V.ref (hp.objs.size + 1) :: vs) (Value.ref (hp.objs.size + 1) :: us) := .cons rfl r1
  have r3 : Vals (V.ref (hp.objs.size + 1) :: vs) (Value.ref (hp.objs.size + 1) :: us ++ []) := by rw [List.append_nil]; exact r2
  have hl : (Value.ref (hp.objs.size + 1) :: us ++ []).length = ps.length := by
    have e := r3.length
    rw [F1.len _ _ _ _ hq] at e
    exact e.symm
  have hus : us.length ≤ sizeLine := by
    rw [← Paired.length r1, sizeLine_eq]
    omega
  refine wpAny_call (PySem.HandSPX.call_own F.excBase_ArithmeticError hbm hC (PySem.W.looks_findIn I1.kIn iC) (fun self => PySem.W.bind_fn I1.kIn self tI) hus
    (codeAny_mono (F1.run _ X.stack _ _ ⟨Value.ref (hp.objs.size + 1) :: us, []⟩ (Value.ref (hp.objs.size + 1) :: us ++ []) _ _ (fun _ _ _ => False) (hr.make C us []) (I2.env0.make C us []) (hb _ (Value.ref (hp.objs.size + 1) :: us) I2.kIn hl) r3 hq) fun r s' hq' => ?_))
  cases r with
  | error er => exact hx pins σ _ _ er s' I2 hq'
  | ok fl =>
    cases fl with
    | ret u =>
      obtain ⟨v, H2, os2, bare2, un2, hok2, rv, ev, hh⟩ := hq'
      subst ev
      obtain ⟨h2, g2, d2, t2, os'⟩ := s'
      rcases hh with ⟨ea, q2⟩ | ⟨d, fs, ea, ed, hd1, q2⟩
      · exact ⟨rv, mk_endN (raises_own T.exC T.tyC) I1 hsz kk un2 hok2 os2 bare2 ea q2⟩
      · exact ⟨rv, mk_end (raises_own T.exC T.tyC) I1 hsz kk un2 hok2 os2 bare2 ea ed hd1 q2⟩
    | next => exact False.elim hq'
    | brk => exact False.elim hq'
    | cont => exact False.elim hq'
/-- C(e, ..) -/
theorem pmk_oexA {CX : CXT} {x : Str} {C fI : Addr} {k : Nat} {fd : FuncData} {ps : List Str} {sp : Sp} (T : OexA X.K C) (iC : PySem.W.findIn X.K (.ref C) "__init__" = some (some (.ref fI))) (tI : PySem.W.typeIn X.K (.ref fI) = some (.type "function"))
    (F1 : FnOk X.prog X.w X.K X.mg X.base CX k fI fd ps sp) (hr : Room (k + 1) X.A) (hb : Binds X.K fd ps []) (hx : Passes CX X (fun _ _ _ => False)) (hg : Gl X x) (hm : X.mg x = some (.ref C)) (ha : PA X (e :: es) ta)
    (hdb : (x == ("__debug__" : Str)) = false := by decide) (he : starEach (e :: es) X.env = (false, eval e X.env) :: starEach es X.env := by rfl) (hpl : (backTo pos (starEach es X.env)).any (·.1) = false := by rfl) :
    PMk X (.Call (.Name x p) (e :: es) [] pos) (tMkA C sp ta) := by
  intro pins s σ H Q I h
  refine wpAny_Call_Name_kw (ld_glob I hg hm ?_ hdb)
  refine PySem.W.callWith_K (h₀ := X.base) I.ok.mod.kin T.kC (thn (ha.run pos pins s σ H _ I h) fun us s1 ⟨vs, H1, I1, r1, hz, q1⟩ => ⟨I1.kIn, ?_⟩) he hpl
  exact pmk_core T iC tI F1 hr hb hx I1 r1 hz q1
end
end L2
namespace L2
open PySem PySem.Spec PyProof.Rows
/-! ### several clauses, each with or without a name -/
/-- the ends of a suite whose name (slot i) is gone behind it -/
def endsGone (D : Ends) : Option Nat → Ends
  | none => D
  | some i => { nx := fun σ' H' => D.nx (σ'.set i none) H', rt := D.rt, bk := fun σ' H' => D.bk (σ'.set i none) H', ct := fun σ' H' => D.ct (σ'.set i none) H' }
def slotPut (σ : St) (a : Addr) : Option Nat → St
  | none => σ
  | some i => σ.set i (some (.ref a))
abbrev Cls1 : Type := Value × Option Nat × (Addr → Value → Option Addr → TS)
def wAny (K : PySem.W.Frag) (Wout : WX) (D : Ends) : List Cls1 → WX
  | [] => Wout
  | (c, i, ts) :: r => fun cls d σ H => ∃ b, PySem.W.exmOne K cls c = some b ∧ (b = true → ∀ a, H a = none → ts a cls d (endsGone D i) (slotPut σ a i) H) ∧ (b = false → wAny K Wout D r cls d σ H)
inductive HdsA (X : Cx) : List ExceptHandler → List Cls1 → Prop
  | nil : HdsA X [] []
  | plain {x : Str} {c : Value} {ts : Addr → Value → Option Addr → TS} {b₀ : Stmt} {suite : List Stmt} {np pos' : Pos} {hds : List ExceptHandler} {l : List Cls1} (hc : Names X x c)
      (hsu : ∀ (a : Addr) (oe : Obj) (cls : Value) (d : Option Addr) (pn : List (Addr × Obj)), Zc cls d oe → (∃ vs, oe.data = .fields vs) → PSs (X.suite a ((a, oe) :: pn)) (b₀ :: suite) (ts a cls d)) (r : HdsA X hds l) :
      HdsA X (.ExceptHandler (some (.Name x np)) none (b₀ :: suite) pos' :: hds) ((c, none, ts) :: l)
  | named {x n : Str} {c : Value} {i : Nat} {ts : Addr → Value → Option Addr → TS} {b₀ : Stmt} {suite : List Stmt} {np pos' : Pos} {hds : List ExceptHandler} {l : List Cls1} (hN : X.N.Nodup) (hi : X.N[i]? = some n) (hln : X.env.kindOf n = some .local) (hc : Names X x c)
      (hsu : ∀ (a : Addr) (oe : Obj) (cls : Value) (d : Option Addr) (pn : List (Addr × Obj)), Zc cls d oe → (∃ vs, oe.data = .fields vs) → PSs (X.suite a ((a, oe) :: pn)) (b₀ :: suite) (ts a cls d)) (r : HdsA X hds l) :
      HdsA X (.ExceptHandler (some (.Name x np)) (some n) (b₀ :: suite) pos' :: hds) ((c, some i, ts) :: l)
section
variable {X : Cx} {body : List Stmt} {h₀ : ExceptHandler} {hds : List ExceptHandler} {l : List Cls1} {pos : Pos} {tb : WX → TS} {Wout : WX}
theorem ps_try_any (hs : X.stack = X.env :: X.outer) (hf : X.env.frame = some X.env.locals) (tk : Takes X Wout)
    (hb : ∀ (W : WX) (pn : List (Addr × Obj)) (xe : Value → Shared → Prop), Takes (X.tr pn xe) W → PassesOwn (model X.prog X.w) X.A X.env xe → PSs (X.tr pn xe) body (tb W))
    (hh : HdsA X (h₀ :: hds) l) : PS X (.Try body (h₀ :: hds) [] [] pos) (fun D σ H => tb (wAny X.K Wout D l) D σ H) := by
  refine ⟨fun pins s σ H D I h => ?_⟩
  have ok := I.ok
  have hfr : X.A.frames = some (X.env :: X.outer) := by rw [ok.frames, hs]
  refine wpAny_Try_except ?_
  refine wpAny_mono ((hb (wAny X.K Wout D l) (X.pn ++ pins) (fun e s₁ => wpAny (model X.prog X.w) X.A (noteFrame e X.env) (fun _ s₂ => wpAny (model X.prog X.w) X.A (setFlight e none) (fun _ s₃ =>
    wpAny (model X.prog X.w) X.A (handleBy e X.env (h₀ :: hds)) (SP X pins D) X.xe s₃) X.xe s₂) X.xe s₁) (fun u s' xx => ?_) PassesOwn.looking).run [] s σ H D (I.toTry _) h) (fun f s1 hsp => ?_) (fun e s1 he => he)
  · -- the catch
    obtain ⟨a, B, sI, pins', σ', H', cls, d, rfl, J', nb, up, sky, na, os, ag, w⟩ := xx
    have J : Inv X pins σ' H' sI := J'.ofTry ok
    have sky' : Sky B (X.env :: X.outer) a (Zc cls d) X.env.locals s'.heap := by rw [← hs]; exact sky
    show wpAny (model X.prog X.w) X.A (noteFrame (.ref a) X.env) _ _ _
    refine Sky.land Zc.steady hfr hf sky' fun h3 fl3 up3 => ?_
    have J3 : Inv X pins σ' H' { s' with heap := h3 } := J.landed nb fl3.1 (up.trans up3) os ag
    obtain ⟨oe3, vs3, he3, hz3, hd3⟩ := fl3.there
    have notFr : ∀ {h : Heap} {o : Obj} {vs : Array Value}, h.FunFrames B (X.env :: X.outer) → h.get? a = some o → o.data = .fields vs → a ∉ frs (X.env :: X.outer) := fun {h o vs} ff e dd hm => by
      obtain ⟨_, o', e', hnf⟩ := ff.mem hm
      rw [e] at e'; cases e'
      exact hnf _ dd
    have nfr := notFr fl3.2.2.1 he3 hd3
    have nL : a ≠ X.env.locals := fun z => nfr (List.mem_filterMap.mpr ⟨X.env, List.mem_cons_self, by rw [hf, z]⟩)
    have nF : a ∉ X.fs := fun hm => by
      obtain ⟨e, he, q⟩ := List.mem_filterMap.mp hm
      exact nfr (List.mem_filterMap.mpr ⟨e, List.mem_cons_of_mem _ he, q⟩)
    have S3 := J3.suite he3 hd3 na nL nF
    have LT : PySem.W.Looks (model X.prog X.w) h3 (typeOf (.ref a)) cls := fun A Q E s k q => wpAny_typeOf_ref (k _ _ he3) (by rw [hz3.1]; exact q)
    have test : ∀ {x : Str} {c : Value} {np : Pos} {Q : Value → Shared → Prop} {E : Value → Shared → Prop}, Names X x c → Q c { s' with heap := h3 } → wpAny (model X.prog X.w) (X.A.mark (some (.ref a))) (eval (.Name x np) X.env) Q E { s' with heap := h3 } := fun {x c np Q E} hc q => by
      obtain ⟨hg, hdbg, hm | ⟨hm, hv, hnn⟩⟩ := hc
      · exact ld_glob (X := X.suite a ((a, oe3) :: (X.pn ++ pins))) S3 hg hm q hdbg
      · exact ld_blt (X := X.suite a ((a, oe3) :: (X.pn ++ pins))) S3 hg hm hv q hnn hdbg
    have go : ∀ {hds' : List ExceptHandler} {l' : List Cls1}, HdsA X hds' l' → wAny X.K Wout D l' cls d σ' H' →
        wpAny (model X.prog X.w) X.A (handleBy (.ref a) X.env hds') (SP X pins D) X.xe { s' with heap := h3 } := by
      intro hds' l' hk
      induction hk with
      | nil =>
        intro w
        refine wpAny_handleBy_nil ?_
        obtain ⟨k1, k2, k3, oe, vs, T, oT, ts', he, hz, hd, h1, hr⟩ := id fl3
        unfold PySem.passOn
        refine wpAny_bind (wpAny_field he hd h1 ?_)
        rw [if_neg (show ¬ ((Value.ref T == Value.none) = true) from by simp)]
        have fin : wpAny (model X.prog X.w) X.A (setFlight (.ref a) X.env.frame) (fun _ s4 => wpAny (model X.prog X.w) X.A (throw (.ref a) : Sem Flow) (SP X pins D) X.xe s4) X.xe { s' with heap := h3 } := by
          rw [hf]
          refine HandSPX.setFlight_upZ fl3 fun h4 hh4 up4 => wpAny_throw (tk _ _ ?_)
          exact ⟨a, B, sI, pins, σ', H', cls, d, rfl, J, nb, (up.trans up3).trans up4, .inr (.inr (by rw [hs]; exact hh4)), na, os, ag, w⟩
        first
          | exact wpAny_bind (wpAny_pure (wpAny_bind fin))
          | exact wpAny_bind fin
      | @plain x c ts b₀ suite np pos' hds2 l2 hc hsu r ih =>
        intro w
        obtain ⟨b, hb1, hyes, hno⟩ := w
        refine wpAny_handleBy_cons (codeAny_handlers_test ?_) (by intro q; cases q)
        refine test hc ((PySem.W.exm_one (M := model X.prog X.w) (J3.kIn) LT hb1).here ?_)
        cases b with
        | true =>
          refine codeAny_handlers_suite ?_
          refine HandSPX.lands_againZ fl3 fun h4 fl4 up4 => ?_
          have J4 : Inv X pins σ' H' { s' with heap := h4 } := J.landed nb fl4.1 ((up.trans up3).trans up4) os ag
          obtain ⟨oe4, vs4, he4, hz4, hd4⟩ := fl4.there
          have S4 := J4.suite he4 hd4 na nL nF
          refine wpAny_mono ((hsu a oe4 cls d (X.pn ++ pins) hz4 ⟨_, hd4⟩).run [] _ _ H' _ S4 (hyes rfl a na)) (fun f s6 hsp => ?_) (fun _ _ z => False.elim z)
          cases f with
          | next =>
            obtain ⟨σ6, H6, S6, q6⟩ := hsp
            exact ⟨_, _, S6.unsuite ok, q6⟩
          | brk =>
            obtain ⟨σ6, H6, S6, q6⟩ := hsp
            exact ⟨_, _, S6.unsuite ok, q6⟩
          | cont =>
            obtain ⟨σ6, H6, S6, q6⟩ := hsp
            exact ⟨_, _, S6.unsuite ok, q6⟩
          | ret u =>
            obtain ⟨v6, σ6, H6, S6, r6, q6⟩ := hsp
            exact ⟨_, _, _, S6.unsuite ok, r6, q6⟩
        | false =>
          show wpAny _ X.A (handleBy (.ref a) X.env hds2) _ _ _
          exact ih (hno rfl)
      | @named x n c i ts b₀ suite np pos' hds2 l2 hN hi hln hc hsu r ih =>
        intro w
        obtain ⟨b, hb1, hyes, hno⟩ := w
        refine wpAny_handleBy_cons (codeAny_handlers_test ?_) (by intro q; cases q)
        refine test hc ((PySem.W.exm_one (M := model X.prog X.w) (J3.kIn) LT hb1).here ?_)
        have hloc : Loc X.env.scope n := .inl hln
        cases b with
        | true =>
          refine codeAny_handlers_suite_as ?_
          refine HandSPX.lands_againZ fl3 fun h4 fl4 up4 => ?_
          have J4 : Inv X pins σ' H' { s' with heap := h4 } := J.landed nb fl4.1 ((up.trans up3).trans up4) os ag
          obtain ⟨oe4, vs4, he4, hz4, hd4⟩ := fl4.there
          have S4 := J4.suite he4 hd4 na nL nF
          refine store_ok (X := X.suite a ((a, oe4) :: (X.pn ++ pins))) (v := .ref a) S4 hN hi hloc rfl (fun s5 S5 => ?_) (.inr hln)
          refine wpAny_mono ((hsu a oe4 cls d (X.pn ++ pins) hz4 ⟨_, hd4⟩).run [] s5 _ H' _ S5 (hyes rfl a na)) (fun f s6 hsp => ?_) (fun _ _ z => False.elim z)
          have end_ : ∀ {σ6 : St} {H6 : Hp} {Q : Shared → Prop}, Inv (X.suite a ((a, oe4) :: (X.pn ++ pins))) [] σ6 H6 s6 → (∀ s7, Inv X pins (σ6.set i none) H6 s7 → Q s7) →
              wpAny (model X.prog X.w) X.A (do bindName X.env n .none; unbindBehindTheSuite X.env n pos') (fun _ s7 => Q s7) X.xe s6 := fun {σ6 H6 Q} S6 hq => gone_ok (S6.unsuite ok) hN hi hln hq
          cases f with
          | next =>
            obtain ⟨σ6, H6, S6, q6⟩ := hsp
            exact end_ S6 fun s7 J7 => ⟨_, _, J7, q6⟩
          | brk =>
            obtain ⟨σ6, H6, S6, q6⟩ := hsp
            exact end_ S6 fun s7 J7 => ⟨_, _, J7, q6⟩
          | cont =>
            obtain ⟨σ6, H6, S6, q6⟩ := hsp
            exact end_ S6 fun s7 J7 => ⟨_, _, J7, q6⟩
          | ret u =>
            obtain ⟨v6, σ6, H6, S6, r6, q6⟩ := hsp
            exact end_ S6 fun s7 J7 => ⟨_, _, _, J7, r6, q6⟩
        | false =>
          show wpAny _ X.A (handleBy (.ref a) X.env hds2) _ _ _
          exact ih (hno rfl)
    exact go hh w
  · cases f with
    | next =>
      obtain ⟨σ', H', J', q⟩ := hsp
      exact wpAny_execs_nil ⟨σ', H', J'.ofTry ok, q⟩
    | brk =>
      obtain ⟨σ', H', J', q⟩ := hsp
      exact ⟨σ', H', J'.ofTry ok, q⟩
    | cont =>
      obtain ⟨σ', H', J', q⟩ := hsp
      exact ⟨σ', H', J'.ofTry ok, q⟩
    | ret u =>
      obtain ⟨v, σ', H', J', r, q⟩ := hsp
      exact ⟨v, σ', H', J'.ofTry ok, r, q⟩
end
section
variable {X : Cx} {p pos : Pos}
/-- C() -/
theorem pmk_oexA0 {CX : CXT} {x : Str} {C fI : Addr} {k : Nat} {fd : FuncData} {ps : List Str} {sp : Sp} (T : OexA X.K C) (iC : PySem.W.findIn X.K (.ref C) "__init__" = some (some (.ref fI))) (tI : PySem.W.typeIn X.K (.ref fI) = some (.type "function"))
    (F1 : FnOk X.prog X.w X.K X.mg X.base CX k fI fd ps sp) (hr : Room (k + 1) X.A) (hb : Binds X.K fd ps []) (hx : Passes CX X (fun _ _ _ => False)) (hg : Gl X x) (hm : X.mg x = some (.ref C))
    (hdb : (x == ("__debug__" : Str)) = false := by decide) : PMk X (.Call (.Name x p) [] [] pos) (tMkA C sp tNil) := by
  intro pins s σ H Q I h
  obtain ⟨hz, q1⟩ := h
  refine wpAny_Call_Name_kw (ld_glob I hg hm ?_ hdb)
  exact PySem.W.callWith_K0 I.kIn T.kC (pmk_core (us := []) T iC tI F1 hr hb hx I .nil hz q1)
end
end L2
namespace L2
open PySem PySem.Spec PyProof.Rows
/-! ### isinstance of a caught error, told by the head -/
def excCB (K : PySem.W.Frag) (D : Addr) : Bool := decide (PySem.W.findIn K (.ref D) "__getattribute__" = some (some (.builtin "BaseException.__getattribute__"))) && (decide (PySem.W.findIn K (.ref D) "__getattr__" = some none) && (decide (PySem.W.subIn K (.ref D) (.type "BaseException") = some true) && (PySem.W.hasDictIn K D &&
  (decide (PySem.W.findIn K (.ref D) "__class__" = some (some (.builtin "object.__class__"))) && (decide (PySem.W.specialIn K (.builtin "object.__class__") "__get__" = some (some (.builtin "getset_descriptor.__get__"))) && (decide (PySem.W.takesIn K (.builtin "object.__class__") = some true) && decide (PySem.W.mroIn K D (.type "object") = some true)))))))
theorem excCB_ok {K : PySem.W.Frag} {D : Addr} (h : excCB K D = true) : ExcC K D := by
  obtain ⟨h1, h⟩ := Bool.and_eq_true_iff.mp h
  obtain ⟨h2, h⟩ := Bool.and_eq_true_iff.mp h
  obtain ⟨h3, h⟩ := Bool.and_eq_true_iff.mp h
  obtain ⟨h4, h⟩ := Bool.and_eq_true_iff.mp h
  obtain ⟨h5, h⟩ := Bool.and_eq_true_iff.mp h
  obtain ⟨h6, h⟩ := Bool.and_eq_true_iff.mp h
  obtain ⟨h7, h8⟩ := Bool.and_eq_true_iff.mp h
  exact ⟨of_decide_eq_true h1, of_decide_eq_true h2, of_decide_eq_true h3, h4, of_decide_eq_true h5, of_decide_eq_true h6, of_decide_eq_true h7, of_decide_eq_true h8⟩
def kitEB (K : PySem.W.Frag) (C D : Addr) (b : Bool) : Bool := decide (PySem.W.kitOne K (.ref C) (.ref D) = some b)
theorem kitEB_ok {K : PySem.W.Frag} {C D : Addr} {b : Bool} (h : kitEB K C D b = true) : PySem.W.kitOne K (.ref C) (.ref D) = some b := of_decide_eq_true h
end L2
/-! ### a Hook whose part of the heap has the interpreter's statics too -/
namespace NCHook
open PySem He
abbrev fr (g : Addr → Option Obj) (n : Nat) : PySem.W.Frag := frT g (asD g n ++ [cStatics])
section
variable {fa : List Fa} {fn : List DefD} {ts : List Tab} {tf : List Defn} {ex : PySem.W.Frag → Bool} {w : World} {h : Heap} {n : Nat}
def ob (n : Nat) (fa : List Fa) (fn : List DefD) (ts : List Tab) (tf : List Defn) (ex : PySem.W.Frag → Bool) (g : Addr → Option Obj) : AlX :=
  (obsT fa fn ts (fr g n), ex (fr g n) && tabsB g tf (fr g n))
theorem tab {K : PySem.W.Frag} (t : tabsB h.get? tf K = true) : ∀ p ∈ tf, PySem.W.codeHdIn K (cT K p).1 (cT K p).2 = true ∧ ∃ o, h.get? (cT K p).2 = some o ∧ emptyTab o = true := by
  intro p hp
  have b := Bool.and_eq_true_iff.mp (List.all_eq_true.mp t p hp)
  refine ⟨b.1, ?_⟩
  have b2 := b.2
  split at b2
  · exact ⟨_, by assumption, b2⟩
  · cases b2
theorem says (e : ob n fa fn ts tf ex h.get? = valX fn ts w) : SaysX fa fn ts tf ex w h (fr h.get? n) := by
  have c1 : (ob n fa fn ts tf ex h.get?).1 = (valX fn ts w).1 := by rw [e]
  have c2 : (ob n fa fn ts tf ex h.get?).2 = true := by rw [e] <;> rfl
  have c3 := Bool.and_eq_true_iff.mp (show (ex (fr h.get? n) && tabsB h.get? tf (fr h.get? n)) = true from c2)
  refine ⟨c1, c3.1, fun p hp => (tab c3.2 p hp).1, fun p hp => ?_, fun p hp => ?_⟩
  · obtain ⟨o, q, z⟩ := (tab c3.2 p hp).2
    exact frT_none q z
  · obtain ⟨o, q, z⟩ := (tab c3.2 p hp).2
    rw [q, emptyTab_eq z]
end
def hook (n : Nat) (fa : List Fa) (fn : List DefD) (ts : List Tab) (tf : List Defn) (ex : PySem.W.Frag → Bool) : PySem.W.Hook :=
  { α := AlX, obs := fun s => ob n fa fn ts tf ex s.heap.get?, val := fun w => valX fn ts w, says := fun w h => ∃ K : PySem.W.Frag, K.In h ∧ SaysX fa fn ts tf ex w h K,
    of := fun _ _ e => ⟨_, frT_in, says e⟩,
    keeps := fun _ _ _ y k => by
      obtain ⟨K, hK, c⟩ := y
      exact ⟨K, PySem.W.Frag.In.keeps hK k, c.t, c.more, c.hd, c.out, fun p hp => k _ _ (c.empty p hp)⟩ }
theorem ob_eq {n : Nat} {fa : List Fa} {fn : List DefD} {ts : List Tab} {tf : List Defn} {ex : PySem.W.Frag → Bool} {g : Addr → Option Obj} {s : Shared} (q : ∀ a, g a = s.heap.get? a) : ob n fa fn ts tf ex g = (hook n fa fn ts tf ex).obs s := by
  rw [show g = s.heap.get? from funext q] <;> rfl
end NCHook
namespace L2
open PySem PySem.Spec PyProof.Rows
/-! ### readings as rules -/
section
variable {σ : St} {H : Hp} {Q : VK} {D : Ends} {K : PySem.W.Frag}
theorem g_ceI {ta : TA} (h : ta σ H fun vs H1 => ∃ (a C : Addr) (ws : List V), vs = .ref a :: ws ∧ ws.length ≤ 1000 ∧ OexA K C ∧ H1 a = some (exo a C none) ∧ Q .non H1) : tCeI K ta σ H Q := h
theorem g_osA {f : Str} {to te : TE} (h : te σ H fun y H1 => to σ H1 fun x H2 => ∃ a C : Addr, x = .ref a ∧ OexA K C ∧ PySem.W.findIn K (.ref C) f = some none ∧
  H2 a = some (exo a C none) ∧ ∀ dx, H2 dx = none → dx ≠ a → D.nx σ (upd (upd H2 dx (exd dx [(f, y)])) a (exo a C (some dx)))) : tOsA K f to te D σ H := h
theorem g_mkA {C : Addr} {sp : Sp} {ta : TA} {Q : XK} (h : ta σ H fun vs H1 => vs.length ≤ 1000 ∧ ∀ a, H1 a = none → sp (.ref a :: vs) (upd H1 a (exo a C none))
  (fun v H2 => v = .non ∧ ((H2 a = some (exo a C none) ∧ Q (.ref C) none (del H2 a)) ∨ ∃ (d : Addr) (fs : List (Str × V)), H2 a = some (exo a C (some d)) ∧ H2 d = some (exd d fs) ∧ H1 d = none ∧ Q (.ref C) (some d) (upd (del H2 a) d (.xd fs)))) (fun _ _ _ => False)) : tMkA C sp ta σ H Q := h
end
/-- a def that makes lambdas: its code object is told -/
theorem FunD.okC {P : Program} {w : World} {K : PySem.W.Frag} {mg : Str → Option Value} {base : Heap} {x qual : Str} {params : Arguments} {body : List Stmt} {scope : Scope} {dvs : List V} {kws : List (Str × V)} {f : Addr} {fd : FuncData} {CX : CXT} {N ps : List Str} {k : Nat} {sp : Sp} {p : He.Defn}
    (F : FunD K x qual params body scope dvs kws f fd) (hf : f = He.fAd K p) (S : FnScope N ps scope) (len : ∀ vs H Q E, sp vs H Q E → vs.length = ps.length)
    (hbody : ∀ (A : Around) (outer : List Env) (s : Shared) (H : Hp) (vs : List V) (Q : VK) (E : XK), Room k (A.deeper (envOfC qual scope s.heap.objs.size f (.ref (He.codeOf K p)))) → sp vs H Q E →
      ∃ t, PSs (cxOf CX P w K mg base N qual scope f (.ref (He.codeOf K p)) A outer s H E) body t ∧ t { nx := fun _ H' => Q .non H', rt := Q } (start N vs) H) : FnOk P w K mg base CX (k + 1) f fd ps sp := by
  obtain ⟨oc, od, dV, kV, doc, pm, an, cdv, ct, osl, rfl, lk, hcd, _, _⟩ := F.ex
  obtain ⟨c, rfl⟩ := He.codeIn_ref hcd
  have e : He.codeOf K p = c := He.codeOf_eq (hf ▸ lk) rfl
  rw [e] at hbody
  exact fn_of lk hcd S len hbody
end L2
/-! NCLam: lambdas as values: made, kept in lists, called by defs that get them; with one default or none. -/
namespace NCLam
open PySem PySem.Spec PyProof.Rows L2 LamX
/-- the lambda's function; dV: its defaults -/
abbrev fnL (q : Str) (params : Arguments) (body : Expr) (scope : Scope) (cl : List (Str × Addr)) (dV pm : Value) (c' : Addr) (ctv : Value) : FuncData := { PySem.W.kla_fn "<lambda>" q params body scope cl pm (.ref c') ctv with defaults := dV }
abbrev objL (q : Str) (params : Arguments) (body : Expr) (scope : Scope) (cl : List (Str × Addr)) (dV pm : Value) (c' : Addr) (ctv : Value) : Obj := { cls := .type "function", data := .func (fnL q params body scope cl dV pm c' ctv) }
section
variable {M : Model} {A : Around} {E : Value → Shared → Prop} {s : Shared} {q : Str} {params : Arguments} {body : Expr} {scope : Scope} {env : Env} {c P : Addr} {ps : Array Value} {pos : Pos} {fl : Nat} {mg : Str → Option Value} {cl : List (Str × Addr)} {Q : Value → Shared → Prop} {dV : Value}
theorem tailN (hcl : closureFor scope env = pure cl) (g0 : env.globals = mainGlobals) (hg : s.heap.Ns mainGlobals mg) (hco : env.code = .ref c) (C : PySem.W.CodeHd s.heap c P) (hP : s.heap.get? P = some (PySem.W.tabObj ps)) (ht : TriplesOk ps.toList) (hn : codeAmong pos ps.toList = none) (gP : mainGlobals ≠ P) (hb : s.heap.BuiltinsAt mg P)
    (h : ∀ c' ctv h' tk, Heap.ExtBut P s.heap h' → s.heap.objs.size ≤ c' → c' < h'.objs.size → h'.CodeRec (.ref c') q → h'.get? P = some (PySem.W.tabObj (ps ++ #[rawInt pos.line, rawInt pos.col, .ref c'])) → Q (.ref h'.objs.size) { s with heap := h'.push (objL q params body scope cl dV ((mg "__name__").getD .none) c' ctv), toks := tk }) :
    wpAny M A (makeTail "<lambda>" q params (.expr body) scope env dV .none none pos fl) Q E s := by
  obtain ⟨bm, ob, b1, b2, _, b3, b4, b5, b6, b7⟩ := hb
  unfold makeTail; rw [hcl, g0]; refine wpAny_bind (wpAny_pure ?_)
  cases cl with
  | nil =>
    simp only [List.isEmpty_nil, if_true]; refine wpAny_bind (wpAny_pure (wpAny_bind (wpAny_functionCodeX hco (C.code hP ht) (C.tab hP) hn fun c' h' tk x1 x2 x3 _ x4 x5 _ => ?_)))
    have g1 := hg.extBut x1 gP
    refine wpAny_bind (wpAny_builtinsFor g1 b1 b2 (x1 _ _ b3 b4) b5 b6 b7 (wpAny_bind (wpAny_nsGet g1 (wpAny_bind (wpAny_pure (wpAny_newObj_type (h c' .none h' tk x1 x2 x3 x4 x5.2) (by size_fits)))))))
  | cons y r =>
    simp only [List.isEmpty_cons, Bool.false_eq_true, if_false]
    have up : ∀ (oT : Obj) b o, s.heap.get? b = some o → (s.heap.push oT).get? b = some o := fun oT b o e => Heap.get?_push_of_some _ e
    refine wpAny_bind (wpAny_newTextTuple (wpAny_bind (wpAny_functionCodeX hco ((C.keeps (up _)).code (up _ _ _ hP) ht) ((C.keeps (up _)).tab (up _ _ _ hP)) hn fun c' h' tk x1 x2 x3 _ x4 x5 _ => ?_)))
    have g1 := (hg.push _).extBut x1 gP
    have x1' : Heap.ExtBut P s.heap h' := fun b o z e => x1 b o z (up _ b o e)
    have x2' : s.heap.objs.size ≤ c' := Nat.le_trans (by rw [Heap.size_push]; omega) x2
    refine wpAny_bind (wpAny_builtinsFor g1 b1 b2 (x1' _ _ b3 b4) b5 b6 b7 (wpAny_bind (wpAny_nsGet g1 (wpAny_bind (wpAny_pure (wpAny_newObj_type (h c' _ h' tk x1' x2' x3 x4 x5.2) (by size_fits)))))))
theorem tailH {c' : Addr} (hcl : closureFor scope env = pure cl) (g0 : env.globals = mainGlobals) (hg : s.heap.Ns mainGlobals mg) (hco : env.code = .ref c) (C : PySem.W.CodeHd s.heap c P) (hP : s.heap.get? P = some (PySem.W.tabObj ps)) (ht : TriplesOk ps.toList) (hf : codeAmong pos ps.toList = some (.ref c')) (hb : s.heap.BuiltinsAt mg P)
    (h : ∀ (ctv : Value) (h' : Heap) (tk : Tok), (∀ b o, s.heap.get? b = some o → h'.get? b = some o) → s.heap.objs.size ≤ h'.objs.size → Q (.ref h'.objs.size) { s with heap := h'.push (objL q params body scope cl dV ((mg "__name__").getD .none) c' ctv), toks := tk }) :
    wpAny M A (makeTail "<lambda>" q params (.expr body) scope env dV .none none pos fl) Q E s := by
  obtain ⟨bm, ob, b1, b2, _, b3, b4, b5, b6, b7⟩ := hb
  unfold makeTail; rw [hcl, g0]; refine wpAny_bind (wpAny_pure ?_)
  cases cl with
  | nil =>
    simp only [List.isEmpty_nil, if_true]
    exact wpAny_bind (wpAny_pure (wpAny_bind (wpAny_functionCode_hit hco (C.code hP ht) hf (wpAny_bind (wpAny_builtinsFor hg b1 b2 b4 b5 b6 b7 (wpAny_bind (wpAny_nsGet hg (wpAny_bind (wpAny_pure (wpAny_newObj_type (h .none s.heap s.toks (fun _ _ e => e) (Nat.le_refl _)) (by size_fits)))))))))))
  | cons y r =>
    simp only [List.isEmpty_cons, Bool.false_eq_true, if_false]
    have up : ∀ (oT : Obj) b o, s.heap.get? b = some o → (s.heap.push oT).get? b = some o := fun oT b o e => Heap.get?_push_of_some _ e
    have sz : ∀ oT : Obj, s.heap.objs.size ≤ (s.heap.push oT).objs.size := fun oT => by rw [Heap.size_push]; omega
    exact wpAny_bind (wpAny_newTextTuple (wpAny_bind (wpAny_functionCode_hit hco ((C.keeps (up _)).code (up _ _ _ hP) ht) hf (wpAny_bind (wpAny_builtinsFor (hg.push _) b1 b2 (up _ _ _ b4) b5 b6 b7 (wpAny_bind (wpAny_nsGet (hg.push _) (wpAny_bind (wpAny_pure (wpAny_newObj_type (h _ _ s.toks (up _) (sz _)) (by size_fits)))))))))))
end
/-- the lambda at f -/
def LamO (f : Addr) (q : Str) (params : Arguments) (body : Expr) (scope : Scope) (cl : List (Str × Addr)) (dV : Value) (c' : Addr) : HO := .ext fun h => ∃ pm ctv, h.get? f = some (objL q params body scope cl dV pm c' ctv)
theorem lamO_tbl {f : Addr} {q : Str} {params : Arguments} {body : Expr} {scope : Scope} {cl : List (Str × Addr)} {dV : Value} {c' : Addr} (ps : Array Value) : LamO f q params body scope cl dV c' ≠ .tbl ps := fun z => by
  unfold LamO at z
  cases z
theorem tabs_new {T : List (Addr × Str)} {H : Hp} {P c' : Addr} {q : Str} {ps : Array Value} {pos : Pos} (hT : Tabs T H) (hP : H P = some (.tbl ps)) (ht : TriplesOk ps.toList) (ha : ∀ (p' : Pos) (cv : Value), codeAmong p' ps.toList = some cv → ∃ c, cv = .ref c ∧ H c = some (CodeO c q)) (hu : ∀ p ∈ T, p.1 = P → p.2 = q) (nC : H c' = none)
    (e : ExtN H (upd (upd H P (.tbl (ps ++ #[rawInt pos.line, rawInt pos.col, .ref c']))) c' (CodeO c' q))) : Tabs T (upd (upd H P (.tbl (ps ++ #[rawInt pos.line, rawInt pos.col, .ref c']))) c' (CodeO c' q)) := fun p hp => by
  have eL : (ps ++ #[rawInt pos.line, rawInt pos.col, .ref c']).toList = ps.toList ++ [rawInt pos.line, rawInt pos.col, .ref c'] := by simp
  by_cases hb : p.1 = P
  · rw [hu p hp hb, hb]
    refine ⟨_, (upd_ne (ne_of_none hP nC)).trans upd_same, by rw [eL]; exact TriplesOk_snoc _ _ _ _ ht, fun p' cv hcv => ?_⟩
    rw [eL] at hcv
    rcases among_app _ ht hcv with z | z
    · obtain ⟨c0, e1, e2⟩ := ha p' cv z
      exact ⟨c0, e1, e _ _ e2 codeO_ne⟩
    · exact ⟨c', z, upd_same⟩
  · obtain ⟨qs, a1, a2, a3⟩ := hT p hp
    refine ⟨qs, ?_, a2, fun p' cv hcv => ?_⟩
    · rw [upd_ne (ne_of_none a1 nC), upd_ne hb]; exact a1
    · obtain ⟨c0, e1, e2⟩ := a3 p' cv hcv
      exact ⟨c0, e1, e _ _ e2 codeO_ne⟩
section
variable {X : Cx} {pins : List (Addr × Obj)} {σ : L2.St} {H : Hp} {s : Shared}
/-- the lambda is made, its defaults being there -/
theorem lam_makeV {T : List (Addr × Str)} {c P : Addr} {params : Arguments} {body : Expr} {scope : Scope} {pos : Pos} {dV : Value} {E : Value → Shared → Prop} {Q : Value → Shared → Prop} (I : Inv X pins σ H s) (TB : TabB X.base X.mg c P) (hco : X.env.code = .ref c)
    (hm : (P, X.env.qual ++ "<lambda>") ∈ T) (hu : ∀ p ∈ T, p.1 = P → p.2 = X.env.qual ++ "<lambda>") (hT : Tabs T H) (hf : ∀ y ∈ scope.names, y.2 = .free → ∃ c, X.env.cells.lookup y.1 = some c)
    (h : ∀ (f c' : Addr) (H1 : Hp) (s' : Shared), Inv X pins σ H1 s' → ExtN H H1 → Tabs T H1 → H f = none → H1 f = some (LamO f (X.env.qual ++ "<lambda>") params body scope (cloFrom X.env.cells scope.names []) dV c') → H1 c' = some (CodeO c' (X.env.qual ++ "<lambda>")) → Q (.ref f) s') :
    wpAny (model X.prog X.w) X.A (makeTail "<lambda>" (X.env.qual ++ "<lambda>") params (.expr body) scope X.env dV .none none pos pos.line) Q E s := by
  obtain ⟨ps, hP, ht, ha⟩ := hT _ hm
  have bP : s.heap.BuiltinsAt X.mg P := TB.bm.keeps I.bk
  have hP' : s.heap.get? P = some { cls := .none, data := .fields ps } := I.hok P _ hP
  cases hc : codeAmong pos ps.toList with
  | none =>
    refine tailN (closure_ok hf) I.ok.glob (I.mod.glob.keeps I.bk) hco (TB.code.keeps I.bk) hP' ht hc TB.gP bP fun c' ctv h' tk x1 x2 x3 x4 x5 => ?_
    obtain ⟨c2, oc, vs, t, e2, y1, y2, y3⟩ := x4
    cases e2
    have nC : H c' = none := I.hok.fresh x2
    have sz : s.heap.objs.size ≤ h'.objs.size := Nat.le_trans x2 (Nat.le_of_lt x3)
    have I1 := inv_table (t' := tk) (more := #[rawInt pos.line, rawInt pos.col, .ref c']) (h' := h') I hP x1 x5 x2 ⟨oc, vs, t, y1, y2, y3⟩
    have hE : ExtN H (upd (upd H P (.tbl (ps ++ #[rawInt pos.line, rawInt pos.col, .ref c']))) c' (CodeO c' (X.env.qual ++ "<lambda>"))) := fun b o e n => by
      rw [upd_ne (ne_of_none e nC), upd_ne (fun z => n ps (Option.some.inj (e.symm.trans (by rw [z]; exact hP))))]
      exact e
    have tN := tabs_new (pos := pos) hT hP ht ha hu nC hE
    have I2 := I1.laid (a := h'.objs.size) (o := LamO h'.objs.size (X.env.qual ++ "<lambda>") params body scope (cloFrom X.env.cells scope.names []) dV c') (t' := tk) (h' := h'.push (objL (X.env.qual ++ "<lambda>") params body scope (cloFrom X.env.cells scope.names []) dV ((X.mg "__name__").getD .none) c' ctv))
      (fun b u e => Heap.get?_push_of_some _ e) (Nat.le_refl _) ⟨⟨_, _, Heap.get?_push_size _ rfl⟩, ⟨_, Heap.get?_push_size _ rfl⟩, fun h1 h2 ⟨pm, ct, z⟩ st => ⟨pm, ct, st _ z⟩⟩
    have nF := I1.hok.fresh (a := h'.objs.size) (Nat.le_refl _)
    have same := same_new (o := LamO h'.objs.size (X.env.qual ++ "<lambda>") params body scope (cloFrom X.env.cells scope.names []) dV c') nF
    exact h h'.objs.size c' _ _ I2 (hE.trans (.of same)) (tN.ext same) (I.hok.fresh sz) upd_same (same _ _ upd_same)
  | some cv =>
    obtain ⟨c', rfl, hco'⟩ := ha pos cv hc
    refine tailH (closure_ok hf) I.ok.glob (I.mod.glob.keeps I.bk) hco (TB.code.keeps I.bk) hP' ht hc bP fun ctv h' tk x1 x2 => ?_
    have I2 := I.laid (a := h'.objs.size) (o := LamO h'.objs.size (X.env.qual ++ "<lambda>") params body scope (cloFrom X.env.cells scope.names []) dV c') (t' := tk) (h' := h'.push (objL (X.env.qual ++ "<lambda>") params body scope (cloFrom X.env.cells scope.names []) dV ((X.mg "__name__").getD .none) c' ctv))
      (fun b u e => Heap.get?_push_of_some _ (x1 b u e)) x2 ⟨⟨_, _, Heap.get?_push_size _ rfl⟩, ⟨_, Heap.get?_push_size _ rfl⟩, fun h1 h2 ⟨pm, ct, z⟩ st => ⟨pm, ct, st _ z⟩⟩
    have nF := I.hok.fresh x2
    have same := same_new (o := LamO h'.objs.size (X.env.qual ++ "<lambda>") params body scope (cloFrom X.env.cells scope.names []) dV c') nF
    exact h h'.objs.size c' _ _ I2 (.of same) (hT.ext same) nF upd_same (same _ _ hco')
end
/-! ### the values -/
/-- f is the lambda of the maker X, made there -/
def IsLam (X : Cx) (params : Arguments) (body : Expr) (scope : Scope) (dvs : List V) (H : Hp) (f : Addr) : Prop := ∃ (c' : Addr) (dV : Value), H f = some (LamO f (X.env.qual ++ "<lambda>") params body scope (cloFrom X.env.cells scope.names []) dV c') ∧
  H c' = some (CodeO c' (X.env.qual ++ "<lambda>")) ∧ ((dvs = [] ∧ dV = .none) ∨ ∃ T, dvs ≠ [] ∧ dV = .ref T ∧ H T = some (.tup dvs))
theorem IsLam.ext {X : Cx} {params : Arguments} {body : Expr} {scope : Scope} {dvs : List V} {H H' : Hp} {f : Addr} (h : IsLam X params body scope dvs H f) (e : ExtN H H') : IsLam X params body scope dvs H' f := by
  obtain ⟨c', dV, h1, h2, h3⟩ := h
  refine ⟨c', dV, e _ _ h1 lamO_tbl, e _ _ h2 codeO_ne, ?_⟩
  rcases h3 with z | ⟨T, z0, z1, z2⟩
  · exact .inl z
  · exact .inr ⟨T, z0, z1, e _ _ z2 (fun _ z => by cases z)⟩
def tLamV (T : List (Addr × Str)) (X : Cx) (params : Arguments) (body : Expr) (scope : Scope) (dvs : List V) : TE := fun _ H Q => Tabs T H ∧ ∀ f H1, ExtN H H1 → Tabs T H1 → H f = none → IsLam X params body scope dvs H1 f → Q (.ref f) H1
/-- the lambda's names: no parameter in N, captured ones, globals -/
structure LamN (N : List Str) (sc scope : Scope) : Prop where
  kind : scope.kind = .function
  co : scope.isCoroutine = false
  gen : scope.isGenerator = false
  own : ∀ y ∈ scope.names, (y.2 = .local → y.1 ∉ N) ∧ y.2 ≠ .cell
  free : ∀ y ∈ scope.names, y.2 = .free → sc.names.lookup y.1 = some .cell ∨ sc.names.lookup y.1 = some .free
def lamNB (N : List Str) (sc scope : Scope) : Bool :=
  decide (scope.kind = .function) && !scope.isCoroutine && !scope.isGenerator && scope.names.all fun y => (!decide (y.2 = .local) || decide (y.1 ∉ N)) && !decide (y.2 = .cell) && (!decide (y.2 = .free) || decide (sc.names.lookup y.1 = some .cell) || decide (sc.names.lookup y.1 = some .free))
theorem lamN_by {N : List Str} {sc scope : Scope} (h : lamNB N sc scope = true) : LamN N sc scope := by
  unfold lamNB at h
  simp only [Bool.and_eq_true, Bool.or_eq_true, Bool.not_eq_true', decide_eq_true_eq, decide_eq_false_iff_not, List.all_eq_true] at h
  obtain ⟨⟨⟨h1, h2⟩, h3⟩, h4⟩ := h
  refine ⟨h1, h2, h3, fun y hy => ⟨fun e => (h4 y hy).1.1.resolve_left (fun z => z e), (h4 y hy).1.2⟩, fun y hy e => ?_⟩
  rcases (h4 y hy).2 with (z | z) | z
  · exact absurd e z
  · exact .inl z
  · exact .inr z
theorem LamN.has {X : Cx} {N : List Str} {scope : Scope} (L : LamN N X.env.scope scope) (ok : X.Ok) : ∀ y ∈ scope.names, y.2 = .free → ∃ c, X.env.cells.lookup y.1 = some c := fun y hy e => (L.free y hy e).elim (fun k => ok.has _ (.inl k)) fun k => ok.has _ (.inr k)
section
variable {X : Cx} {params : Arguments} {body : Expr} {scope : Scope} {pos : Pos} {T : List (Addr × Str)} {c P : Addr}
/-- lambda: body -/
theorem pe_lamV (TB : TabB X.base X.mg c P) (hco : X.env.code = .ref c) (hm : (P, X.env.qual ++ "<lambda>") ∈ T) (hu : ∀ p ∈ T, p.1 = P → p.2 = X.env.qual ++ "<lambda>") (L : LamN X.N X.env.scope scope) (hdef : defaultsOf params X.env = ([], [])) : PE X (.Lambda params body scope pos) (tLamV T X params body scope []) := by
  refine ⟨fun pins s σ H Q I h => PySem.W.kla_eval hdef ?_⟩
  rw [makeFunction_eq]
  simp only [List.zip_nil_right, List.filterMap_nil, List.isEmpty_nil, if_true, pure_bind]
  exact lam_makeV I TB hco hm hu h.1 (L.has I.ok) fun f c' H1 s' I1 e t n h1 h2 => ⟨.ref f, H1, I1, rfl, h.2 f H1 e t n ⟨c', .none, h1, h2, .inl ⟨rfl, rfl⟩⟩⟩
/-- lambda x=i: body -/
theorem pe_lamVD {i : Int} {j : Nat} {dp : Pos} (TB : TabB X.base X.mg c P) (hco : X.env.code = .ref c) (hm : (P, X.env.qual ++ "<lambda>") ∈ T) (hu : ∀ p ∈ T, p.1 = P → p.2 = X.env.qual ++ "<lambda>") (L : LamN X.N X.env.scope scope) (hdef : defaultsOf params X.env = ([eval (.Constant (.int i) j dp) X.env], [])) : PE X (.Lambda params body scope pos) (tLamV T X params body scope [.int i]) := by
  refine ⟨fun pins s σ H Q I h => ?_⟩
  show wpAny _ _ (do
    let (d, kd) := defaultsOf params X.env
    let dv ← evalAll d
    let kdv ← holding dv (evalAllOpt kd)
    makeFunction "<lambda>" (X.env.qual ++ "<lambda>") params (.expr body) scope X.env dv kdv [] pos pos.line) _ _ _
  rw [hdef]
  show wpAny _ _ (evalAll [eval (.Constant (.int i) j dp) X.env] >>= fun dv => holding dv (evalAllOpt []) >>= fun kdv => makeFunction "<lambda>" (X.env.qual ++ "<lambda>") params (.expr body) scope X.env dv kdv [] pos pos.line) _ _ _
  refine wpAny_bind ?_
  show wpAny _ _ (eval (.Constant (.int i) j dp) X.env >>= fun v => holding [v] (evalAll []) >>= fun r => pure (v :: r)) _ _ _
  refine wpAny_bind (wpAny_Constant_int (wpAny_bind (wpAny_holding (wpAny_pure (wpAny_pure ?_)))))
  refine wpAny_bind (wpAny_holding (wpAny_pure ?_))
  rw [makeFunction_eq]
  simp only [List.zip_nil_right, List.filterMap_nil, List.isEmpty_nil, List.isEmpty_cons, Bool.false_eq_true, if_false, if_true, pure_bind]
  refine wpAny_bind (wpAny_newTextTuple ?_)
  have n0 := I.hok.fresh (a := s.heap.objs.size) (Nat.le_refl _)
  have e0 := same_new (o := .tup [.int i]) n0
  have I1 := (I.tok (s.toks + 1)).laid (a := s.heap.objs.size) (o := .tup [.int i]) (t' := s.toks + 1) (h' := s.heap.push { cls := .type "tuple", data := .seq [Value.int i s.toks].toArray }) (fun b u e => Heap.get?_push_of_some _ e) (Nat.le_refl _)
    ⟨len_le (n := 1) (by decide), [Value.int i s.toks], .cons ⟨_, rfl⟩ .nil, _, Heap.get?_push_size _ rfl, rfl, _, rfl⟩
  refine lam_makeV I1 TB hco hm hu (h.1.ext e0) (L.has I.ok) fun f c' H1 s' I2 e t n h1 h2 => ⟨.ref f, H1, I2, rfl, h.2 f H1 ((ExtN.of e0).trans e) t ?_ ⟨c', _, h1, h2, .inr ⟨_, (fun z => by cases z), rfl, e _ _ upd_same (fun _ z => by cases z)⟩⟩⟩
  by_cases hf : f = s.heap.objs.size
  · rw [hf]
    exact n0
  · rw [upd_ne hf] at n
    exact n
end
/-! ### the maker's state as a base -/
def baseAt (X : Cx) (H : Hp) (s : Shared) : Heap := PySem.W.hideAll (hidT s.heap H) (frs X.stack)
/-- calling what stands at f -/
def Acts (P : Program) (w : World) (K : PySem.W.Frag) (mg : Str → Option Value) (base : Heap) (k : Nat) (f : Addr) (t : XK → Hp → VK → Prop) : Prop :=
  ∀ (A : Around) (outer : List Env) (s : Shared) (H : Hp) (Q : VK) (E : XK), Room k A → Env0 P w K mg base A outer s H → t E H Q → PySem.W.FnAt f s.heap ∧ codeAny (model P w) A (.call (.ref f) ⟨[], []⟩) (CR (L2.CX P w) outer P w H s Q E) s
section
variable {X : Cx} {pins : List (Addr × Obj)} {σ : L2.St} {H : Hp} {s : Shared}
theorem baseAt_get {b : Addr} {o : Obj} (e : s.heap.get? b = some o) (n : H b = none) (hb : b ∉ frs X.stack) : (baseAt X H s).get? b = some o := PySem.W.hideAll_get _ (hidT_get e n) hb
theorem of_baseAt {b : Addr} {o : Obj} (e : (baseAt X H s).get? b = some o) : s.heap.get? b = some o ∧ H b = none ∧ b ∉ frs X.stack := by
  obtain ⟨h1, h2⟩ := of_hidT (PySem.W.of_hideAll _ e)
  refine ⟨h1, h2, fun z => ?_⟩
  have q := PySem.W.hideAll_none (h := hidT s.heap H) _ z
  unfold baseAt at e
  rw [q] at e
  cases e
theorem baseAt_sub (I : Inv X pins σ H s) {b : Addr} {o : Obj} (e : X.base.get? b = some o) : (baseAt X H s).get? b = some o := by
  obtain ⟨h1, h2⟩ := I.bs b o e
  refine baseAt_get h1 h2 fun z => ?_
  have q := (I.stack.mem z).1
  rw [q] at e
  cases e
theorem env0_at (I : Inv X pins σ H s) : Env0 X.prog X.w X.K X.mg (baseAt X H s) X.A X.stack s H := by
  have e0 := I.env0
  have sub : ∀ b o, X.base.get? b = some o → (baseAt X H s).get? b = some o := fun b o e => baseAt_sub I e
  obtain ⟨mb, m1, m2⟩ := e0.mod.blt
  refine ⟨e0.frames, ⟨e0.mod.kin.keeps sub, e0.mod.glob.keeps sub, ⟨mb, m1.keeps sub, m2⟩, e0.mod.nolimit.keeps sub⟩, fun b o e => ⟨(of_baseAt e).1, (of_baseAt e).2.1⟩, ?_, ?_, e0.frf, e0.hok, e0.bare⟩
  · unfold baseAt
    rw [PySem.W.hideAll_size, hidT_size]
    exact Nat.le_refl _
  · have go : ∀ l : List Env, (∀ b ∈ frs l, b ∈ frs X.stack) → s.heap.FunFrames X.base l → s.heap.FunFrames (baseAt X H s) l := by
      intro l
      induction l with
      | nil => exact fun _ _ => True.intro
      | cons v r ih =>
        rintro hs ⟨h1, ⟨L, o, h2, h3, h4, h5⟩, h6⟩
        have hL : L ∈ frs (v :: r) := List.mem_filterMap.mpr ⟨v, List.mem_cons_self, h2⟩
        refine ⟨h1, ⟨L, o, h2, ?_, h4, h5⟩, ih (fun b hb => hs b ?_) h6⟩
        · exact PySem.W.hideAll_none _ (hs L hL)
        · obtain ⟨v', hv, e⟩ := List.mem_filterMap.mp hb
          exact List.mem_filterMap.mpr ⟨v', List.mem_cons_of_mem _ hv, e⟩
    exact go X.stack (fun _ h => h) e0.funs
theorem cell_nofr (I : Inv X pins σ H s) (hfn : ∀ x, X.fn x = true) {x : Str} {c : Addr} (e : X.env.cells.lookup x = some c) : c ∉ frs X.stack := fun z => by
  rcases List.mem_cons.mp (I.stkSub _ z) with q | q
  · exact I.cne x c e q
  · obtain ⟨_, o, ho, _⟩ := I.ok.funs.mem q
    exact absurd (I.ok.cab x c (hfn x) e) (Nat.not_le.mpr (Heap.lt_size ho))
end
/-- the lambda's body, entered at s over the base B -/
def lamCx (X : Cx) (B : Heap) (A : Around) (outer : List Env) (s : Shared) (H : Hp) (E : XK) (scope : Scope) (f c' : Addr) : Cx := { LamX.lamCx X A outer s H E scope f c' with base := B }
section
variable {X : Cx} {pins : List (Addr × Obj)} {σ : L2.St} {H HZ : Hp} {s s1 : Shared}
theorem lam_start {A : Around} {outer : List Env} {E : XK} {scope : Scope} {f c' : Addr} {h₁ : Heap} {tk : Nat} {m0 : Str → Option Value} (I : Inv X pins σ H s) (hfn : ∀ x, X.fn x = true) (L : LamN X.N X.env.scope scope) (e0 : Env0 X.prog X.w X.K X.mg (baseAt X H s) A outer s1 HZ) (hd : A.handled = none)
    (hns : h₁.Ns s1.heap.objs.size m0) (kp : ∀ b o, s1.heap.get? b = some o → h₁.get? b = some o) : Inv (lamCx X (baseAt X H s) A outer s1 HZ E scope f c') [] σ HZ { s1 with heap := h₁, toks := tk } := by
  have hfree := L.has I.ok
  have cm : ∀ {y c}, (cloFrom X.env.cells scope.names []).lookup y = some c → X.env.cells.lookup y = some c := fun {y c} e => by
    rcases cloFrom_mem (PySem.mem_of_lookup e) with z | ⟨h1, h2⟩
    · cases z
    · obtain ⟨c1, hc⟩ := hfree _ h1 rfl
      have hc : X.env.cells.lookup y = some c1 := hc
      rw [show c = c1 from by rw [h2, hc] <;> rfl]
      exact hc
  have look : ∀ {y}, scope.names.lookup y = some .free → ∃ c, (cloFrom X.env.cells scope.names []).lookup y = some c := fun {y} hl => mem_lookup (cloFrom_has (cells := X.env.cells) (acc := []) (show (y, NameKind.free) ∈ scope.names from PySem.mem_of_lookup hl))
  have cellK : ∀ {y : Str} {c : Addr} {v : Option Value}, X.env.cells.lookup y = some c → s.heap.IsCell c v → h₁.IsCell c v ∧ HZ c = none := fun {y c v} e ⟨o, ho, hdt⟩ => by
    obtain ⟨q1, q2⟩ := e0.bs c o (baseAt_get ho (I.freeC y c e) (cell_nofr I hfn e))
    exact ⟨⟨o, kp _ _ q1, hdt⟩, q2⟩
  have noA : ∀ b : Addr, b ∉ (lamCx X (baseAt X H s) A outer s1 HZ E scope f c').ex := fun b z => absurd (show b ∈ ([] : List Addr) from z) (by simp)
  refine ⟨⟨e0.mod, L.kind, rfl, rfl, Nat.le_refl _, fun y z c e1 e2 => I.ok.inj y z c (cm e1) (cm e2), fun y hy => ?_, fun y c z _ => ?_, fun _ => hd, Around.frames_deeper e0.frames, .inr ⟨rfl, rfl⟩, fun b z => absurd z (noA b), e0.bs, e0.bsz, fun b _ _ => noA b,
      fun b z => absurd z (noA b), e0.funs, e0.frf⟩,
    rfl, e0.bare, Un.kept kp, ⟨_, hns, fun i y v e1 e2 e3 => ?_⟩, fun y c e => ?_, e0.hok.fresh (Nat.le_refl _), fun y c e => ?_, fun q hq => absurd (show q ∈ ([] : List (Addr × Obj)) ++ [] from hq) (by simp), e0.hok.kept kp, I.len⟩
  · have hy : scope.names.lookup y = some .cell ∨ scope.names.lookup y = some .free := hy
    rcases hy with hy | hy
    · exact absurd rfl (L.own _ (PySem.mem_of_lookup hy)).2
    · exact look hy
  · have z : false = true := z
    cases z
  · have e3 : Vis scope y := e3
    have e1 : X.N[i]? = some y := e1
    rcases e3 with k | k | k
    · exact absurd (List.mem_of_getElem? e1) ((L.own _ (PySem.mem_of_lookup k)).1 rfl)
    · exact absurd rfl (L.own _ (PySem.mem_of_lookup k)).2
    · obtain ⟨m, hn, hl⟩ := I.loc
      have hvis : Vis X.env.scope y := (L.free _ (PySem.mem_of_lookup k) rfl).elim (fun k => .inr (.inl k)) (fun k => .inr (.inr k))
      obtain ⟨w', r, q⟩ := hl i y v e1 e2 hvis
      obtain ⟨c2, h2⟩ := look k
      refine ⟨w', r, .inr ⟨.inr k, c2, h2, ?_⟩⟩
      have c1 := cm h2
      rcases q with ⟨k', _⟩ | ⟨_, c3, e', z⟩
      · have k' : X.env.scope.names.lookup y = some .local := k'
        rcases L.free _ (PySem.mem_of_lookup k) rfl with k2 | k2 <;> rw [show X.env.scope.names.lookup y = _ from k2] at k' <;> cases k'
      · rw [c1] at e'
        cases e'
        exact (cellK c1 z).1
  · obtain ⟨w', z⟩ := I.cell y c (cm e)
    exact ⟨w', (cellK (cm e) z).1⟩
  · obtain ⟨v, z⟩ := I.cell y c (cm e)
    exact (cellK (cm e) z).2
/-- the lambda at f, called -/
theorem act_lam {params : Arguments} {body : Expr} {scope : Scope} {dvs : List V} {k : Nat} {f : Addr} {t : XK → TE} (I : Inv X pins σ H s) (hfn : ∀ x, X.fn x = true) (L : LamN X.N X.env.scope scope)
    (hbind : ∀ (c' : Addr) (dV pm ctv : Value) (s1 : Shared) (HZ : Hp), HOk X.prog X.w HZ s1.heap → ((dvs = [] ∧ dV = .none) ∨ ∃ T, dvs ≠ [] ∧ dV = .ref T ∧ HZ T = some (.tup dvs)) → ∃ binds : List (Str × Value), BindsTo s1 (fnL (X.env.qual ++ "<lambda>") params body scope (cloFrom X.env.cells scope.names []) dV pm c' ctv) ⟨[], []⟩ binds ∧ ∀ y ∈ binds, scope.names.lookup y.1 = some .local)
    (hbody : ∀ (B : Heap) (A : Around) (outer : List Env) (s : Shared) (H : Hp) (E : XK) (f c' : Addr), Room k (A.deeper (lamEnv X scope s.heap.objs.size f c')) → PE (lamCx X B A outer s H E scope f c') body (t E)) :
    Acts X.prog X.w X.K X.mg (baseAt X H s) (k + 1) f (fun E HZ Q => IsLam X params body scope dvs HZ f ∧ t E σ HZ Q) := by
  intro A outer s1 HZ Q E hr e0 ⟨⟨c', dV, h1, h2, h3⟩, ht⟩
  obtain ⟨⟨pm, ctv, of1⟩, _, _⟩ := e0.hok f _ h1
  obtain ⟨⟨oc, vs, tq, hoc, hdc, hvc⟩, _, _⟩ := e0.hok c' _ h2
  obtain ⟨binds, hB, hloc⟩ := hbind c' dV pm ctv s1 HZ e0.hok h3
  refine ⟨⟨_, _, _, _, of1⟩, PySem.W.kla_callFunE hr.depth of1 rfl L.co L.gen rfl ⟨c', oc, vs, tq, rfl, hoc, hdc, hvc⟩ (hB _ _ _ _ ?_)⟩
  refine wpAny_newFunctionEnv (fun y hy => (L.own y hy).2) hloc (fun h₁ hns hsb => ?_) L.kind
  have kp : ∀ b o, s1.heap.get? b = some o → h₁.get? b = some o := fun b o e => hsb.extBut b o (Nat.ne_of_lt (Heap.lt_size e)) (Heap.get?_push_of_some _ e)
  have lim : s1.heap.NoLimit := e0.mod.nolimit.keeps fun b o e => (e0.bs b o e).1
  refine ⟨lim.fresh _ hsb, ?_⟩
  have J : Inv (lamCx X (baseAt X H s) A outer s1 HZ E scope f c') [] σ HZ { s1 with heap := h₁, toks := s1.toks + binds.length } := lam_start I hfn L e0 hr.hd hns kp
  show codeAny _ _ (.expr body (lamEnv X scope s1.heap.objs.size f c')) _ _
  refine PySem.W.kla_codeExpr (wpAny_mono ((hbody _ A outer s1 HZ E f c' (hr.deeper _)).run [] _ _ HZ Q J ht) (fun v s' hq => ?_) fun e s' hq => hq)
  obtain ⟨w', H', J', rv, q⟩ := hq
  exact ⟨w', H', J'.os, J'.bare, J'.base, J'.hok, rv, q⟩
/-- what may be called, by the maker's slots -/
def Acting (X : Cx) (k : Nat) (tl : L2.St → Addr → XK → Hp → VK → Prop) : Prop := ∀ pins σ H s, Inv X pins σ H s → ∀ f, Acts X.prog X.w X.K X.mg (baseAt X H s) k f (tl σ f)
theorem acting_or {k : Nat} {a b : L2.St → Addr → XK → Hp → VK → Prop} (ha : Acting X k a) (hb : Acting X k b) : Acting X k (fun σ f E H Q => a σ f E H Q ∨ b σ f E H Q) := fun pins σ H s I f A outer s1 HZ Q E hr e0 h => h.elim (ha pins σ H s I f A outer s1 HZ Q E hr e0) (hb pins σ H s I f A outer s1 HZ Q E hr e0)
def tlLam (X : Cx) (params : Arguments) (body : Expr) (scope : Scope) (dvs : List V) (t : XK → TE) : L2.St → Addr → XK → Hp → VK → Prop := fun σ f E H Q => IsLam X params body scope dvs H f ∧ t E σ H Q
theorem acting0 {params : Arguments} {body : Expr} {scope : Scope} {k : Nat} {t : XK → TE} (hfn : ∀ x, X.fn x = true) (L : LamN X.N X.env.scope scope)
    (hb : ∀ (c' : Addr) (pm ctv : Value), bindArgs (fnL (X.env.qual ++ "<lambda>") params body scope (cloFrom X.env.cells scope.names []) .none pm c' ctv) ⟨[], []⟩ = pure [])
    (hbody : ∀ (B : Heap) (A : Around) (outer : List Env) (s : Shared) (H : Hp) (E : XK) (f c' : Addr), Room k (A.deeper (lamEnv X scope s.heap.objs.size f c')) → PE (lamCx X B A outer s H E scope f c') body (t E)) : Acting X (k + 1) (tlLam X params body scope [] t) := fun pins σ H s I f => by
  refine act_lam I hfn L (fun c' dV pm ctv s1 HZ hok hd => ?_) hbody
  rcases hd with ⟨_, rfl⟩ | ⟨T, z, _⟩
  · exact ⟨[], .of_eq (hb c' pm ctv), fun y hy => by cases hy⟩
  · exact absurd rfl z
theorem acting1 {params : Arguments} {body : Expr} {scope : Scope} {k : Nat} {i : Int} {x : Str} {t : XK → TE} (hfn : ∀ x, X.fn x = true) (L : LamN X.N X.env.scope scope) (hx : scope.names.lookup x = some .local)
    (hb : ∀ (c' T : Addr) (pm ctv u : Value), ∃ kk : Option (Array Value) → Sem (List (Str × Value)), bindArgs (fnL (X.env.qual ++ "<lambda>") params body scope (cloFrom X.env.cells scope.names []) (.ref T) pm c' ctv) ⟨[], []⟩ = seqItems? (.ref T) >>= kk ∧ kk (some #[u]) = pure [(x, u)])
    (hbody : ∀ (B : Heap) (A : Around) (outer : List Env) (s : Shared) (H : Hp) (E : XK) (f c' : Addr), Room k (A.deeper (lamEnv X scope s.heap.objs.size f c')) → PE (lamCx X B A outer s H E scope f c') body (t E)) : Acting X (k + 1) (tlLam X params body scope [.int i] t) := fun pins σ H s I f => by
  refine act_lam I hfn L (fun c' dV pm ctv s1 HZ hok hd => ?_) hbody
  rcases hd with ⟨z, _⟩ | ⟨T, _, rfl, hT⟩
  · cases z
  · obtain ⟨_, its, r, o, ho, _, n, hs⟩ := hok T _ hT
    cases r with
    | @cons _ u _ _ r1 r2 =>
      cases r2
      obtain ⟨kk, b1, b2⟩ := hb c' T pm ctv u
      refine ⟨[(x, u)], .of_defaults (T := T) (k := kk) rfl ho hs b1 b2, fun y hy => ?_⟩
      rw [List.mem_singleton.mp hy]
      exact hx
/-- g(e, ..), what it is handed being called there -/
theorem pe_callL {k kk : Nat} {g : Addr} {fd : FuncData} {ps : List Str} {x : Str} {p pos : Pos} {e : Expr} {es : List Expr} {ta : TA} {tl : L2.St → Addr → XK → Hp → VK → Prop} {spT : (Addr → XK → Hp → VK → Prop) → Sp} (ha : Acting X kk tl)
    (F : ∀ (base : Heap) (al : Addr → XK → Hp → VK → Prop), (∀ f, Acts X.prog X.w X.K X.mg base kk f (al f)) → FnOk X.prog X.w X.K X.mg base CX0 k g fd ps (spT al)) (hr : Room k X.A) (hg : Gl X x) (hm : X.mg x = some (.ref g)) (hk : PySem.W.keepIn X.K (.ref g) = true) (hb : Binds X.K fd ps []) (hargs : PA X (e :: es) ta)
    (hdb : (x == ("__debug__" : Str)) = false := by decide) (he : starEach (e :: es) X.env = (false, eval e X.env) :: starEach es X.env := by rfl) (hpl : (backTo pos (starEach es X.env)).any (·.1) = false := by rfl) :
    PE X (.Call (.Name x p) (e :: es) [] pos) (fun σ H Q => ta σ H fun vs H1 => spT (tl σ) vs H1 Q (fun _ _ _ => False)) := by
  refine ⟨fun pins s σ H Q I h => ?_⟩
  refine wpAny_Call_Name_kw (ld_glob I hg hm ?_ hdb)
  refine PySem.W.callWith_K (h₀ := X.base) I.ok.mod.kin hk (thn (hargs.run pos pins s σ H _ I h) fun us s1 ⟨vs, H1, I1, r, q⟩ => ⟨I1.kIn, ?_⟩) he hpl
  have F1 := F (baseAt X H1 s1) (tl σ) (ha pins σ H1 s1 I1)
  have hl : us.length = ps.length := by rw [← r.length]; exact F1.len _ _ _ _ q
  refine wpAny_call (codeAny_mono (F1.run X.A X.stack s1 H1 ⟨us, []⟩ us vs Q (fun _ _ _ => False) hr (env0_at I1) (by have z := hb s1 us I1.kIn (by rw [List.append_nil]; exact hl); rw [List.append_nil] at z; exact z) r q) fun r s' hq => ?_)
  cases r with
  | error e => exact (show False from hq).elim
  | ok fl =>
    cases fl with
    | ret u => exact I1.after hq
    | next => exact False.elim hq
    | brk => exact False.elim hq
    | cont => exact False.elim hq
/-- a(), in the def that got it -/
theorem pe_act {W : WX} {kk i : Nat} {a : Str} {p1 p2 : Pos} {al : Addr → XK → Hp → VK → Prop} (ha : ∀ f, Acts X.prog X.w X.K X.mg X.base kk f (al f)) (hr : Room kk X.A) (tk : Takes X W) (hN : X.N[i]? = some a) (hv : Vis X.env.scope a) (hd : (a == ("__debug__" : Str)) = false := by decide) (hcd : (a == ("__classdict__" : Str)) = false := by decide) :
    PE X (.Call (.Name a p1) [] [] p2) (fun σ H Q => ∃ (f : Addr) (E : XK), σ[i]? = some (some (V.ref f)) ∧ (∀ cls d H', E cls d H' → W cls d σ H') ∧ al f E H Q) := by
  refine ⟨fun pins s σ H Q I h => ?_⟩
  obtain ⟨f, E, hs, hW, ht⟩ := h
  refine wpAny_Call_Name_kw (thn ((pe_var (pos := p1) (i := i) hN hv hd hcd).run pins s σ H (fun v H1 => v = .ref f ∧ H1 = H) I ⟨.ref f, hs, rfl, rfl⟩) fun u s1 ⟨v, H1, I1, r1, q1⟩ => ?_)
  obtain ⟨rfl, rfl⟩ := q1
  obtain rfl : u = Value.ref f := r1
  obtain ⟨fa, rc⟩ := ha f X.A X.stack s1 H1 Q E hr I1.env0 ht
  refine PySem.W.callWith_F0 fa (wpAny_call (codeAny_mono rc fun r s' hq => ?_))
  cases r with
  | error e => exact tk e s' (XE.of_call I1 hW hq)
  | ok fl =>
    cases fl with
    | ret u => exact I1.after hq
    | next => exact False.elim hq
    | brk => exact False.elim hq
    | cont => exact False.elim hq
end
/-! ### calls of a local that holds one of several defs; nothing is raised -/
section
variable {X : Cx}
theorem passN {E : XK} (h : ∀ c d H, E c d H → False) : Passes (L2.CX X.prog X.w) X E := fun _ _ _ _ _ _ _ c => by
  obtain ⟨_, _, _, _, _, _, _, _, _, _, _, _, z⟩ := c
  exact (h _ _ _ z).elim
structure HeldX (P : Program) (w : World) (K : PySem.W.Frag) (mg : Str → Option Value) (base : Heap) (k : Nat) (f : Addr) (sp : Sp) : Prop where
  ex : ∃ (fd : FuncData) (ps : List Str), FnOk P w K mg base (L2.CX P w) k f fd ps sp ∧ PySem.W.keepIn K (.ref f) = true ∧ Binds K fd ps []
def tCallR (i : Nat) (R : Addr → Sp → Prop) (E : XK) (t : TA) : TE := fun σ H Q => ∃ f sp, σ[i]? = some (some (V.ref f)) ∧ R f sp ∧ t σ H fun vs H1 => sp vs H1 Q E
theorem pe_callR {R : Addr → Sp → Prop} {k i : Nat} {x : Str} {e : Expr} {es : List Expr} {t : TA} {p pos : Pos} {E : XK} (A : ∀ f sp, R f sp → HeldX X.prog X.w X.K X.mg X.base k f sp) (hr : Room k X.A) (hN : X.N[i]? = some x) (hv : Vis X.env.scope x) (hx : Passes (L2.CX X.prog X.w) X E) (ha : PA X (e :: es) t)
    (hdb : (x == ("__debug__" : Str)) = false := by decide) (hcd : (x == ("__classdict__" : Str)) = false := by decide)
    (he : starEach (e :: es) X.env = (false, eval e X.env) :: starEach es X.env := by rfl) (hpl : (backTo pos (starEach es X.env)).any (·.1) = false := by rfl) : PE X (.Call (.Name x p) (e :: es) [] pos) (tCallR i R E t) := by
  refine ⟨fun pins s σ H Q I h => ?_⟩
  obtain ⟨f, sp, hs, hS, ht⟩ := h
  obtain ⟨fd, ps, F, hk, hb⟩ := (A f sp hS).ex
  refine (L2.pe_callL (i := i) (f := f) (sp := sp) (dvs := []) (E := E) F hr hN hv hk hb .nil hx ha hdb hcd he hpl).run pins s σ H Q I ⟨hs, ?_⟩
  have e0 : (fun (vs : List V) (H1 : Hp) => sp (vs ++ []) H1 Q E) = fun vs H1 => sp vs H1 Q E := by
    funext vs H1
    rw [List.append_nil]
  show t σ H (fun vs H1 => sp (vs ++ []) H1 Q E)
  rw [e0]
  exact ht
end
/-! ### raising an own error with one field -/
def spInit (C : Addr) (f : Str) : Sp := fun vs H Q _ => ∃ (a : Addr) (v : V), vs = [.ref a, v] ∧ H a = some (exo a C none) ∧ ∀ dx, H dx = none → dx ≠ a → Q .non (upd (upd H dx (exd dx [(f, v)])) a (exo a C (some dx)))
/-- C with the field f := v is raised behind H -/
def Rz (C : Addr) (f : Str) (v : V) (H : Hp) (E : XK) : Prop := ∀ H' d, Same H H' → H d = none → H' d = some (.xd [(f, v)]) → E (.ref C) (some d) H'
theorem Rz.mono {C : Addr} {f : Str} {v : V} {H H1 : Hp} {E : XK} (h : Rz C f v H E) (s : Same H H1) : Rz C f v H1 E := fun H' d k n e => h H' d (s.trans k) (by
  cases q : H d with
  | none => rfl
  | some o =>
    rw [s d o q] at n
    cases n) e
theorem raise_ok {C : Addr} {f : Str} {v : V} {H1 : Hp} {E : XK} (h : Rz C f v H1 E) : [v].length ≤ 1000 ∧ ∀ a, H1 a = none → spInit C f (.ref a :: [v]) (upd H1 a (exo a C none))
    (fun u H2 => u = .non ∧ ((H2 a = some (exo a C none) ∧ E (.ref C) none (del H2 a)) ∨ ∃ (d : Addr) (fs : List (Str × V)), H2 a = some (exo a C (some d)) ∧ H2 d = some (exd d fs) ∧ H1 d = none ∧ E (.ref C) (some d) (upd (del H2 a) d (.xd fs)))) (fun _ _ _ => False) := by
  refine ⟨by show 1 ≤ 1000; decide, fun a na => ⟨a, v, rfl, upd_same, fun dx nd ne => ⟨rfl, .inr ⟨dx, [(f, v)], upd_same, ?_, ?_, ?_⟩⟩⟩⟩
  · rw [upd_ne ne, upd_same]
  · rw [upd_ne ne] at nd
    exact nd
  · rw [upd_ne ne] at nd
    refine h _ dx (fun b o hb => ?_) nd upd_same
    have b1 : b ≠ a := ne_of_none hb na
    have b2 : b ≠ dx := ne_of_none hb nd
    rw [upd_ne b2, del_ne b1, upd_ne b1, upd_ne b2, upd_ne b1]
    exact hb
/-! ### isinstance of a caught error with a field -/
def rIsD (K : PySem.W.Frag) (D a : Addr) (d : Option Addr) : List V → Hp → VK → Prop := fun xs H Q => ∃ (c : V) (cv : Value) (b : Bool) (dd : Addr) (fs : List (Str × V)), xs = [.ref a, c] ∧ (∀ u, RelV c u → u = cv) ∧ PySem.W.kitOne K (.ref D) cv = some b ∧ d = some dd ∧ H dd = some (.xd fs) ∧ Q (.bl b) H
theorem call_isD {X : Cx} {a D : Addr} {d : Option Addr} {oe : Obj} {pn : List (Addr × Obj)} (C : ExcC X.K D) (hz : Zc (.ref D) d oe) (hf : ∃ vs, oe.data = .fields vs) : CallR (X.suite a ((a, oe) :: pn)) (.builtin "isinstance") (rIsD X.K D a d) := by
  intro pins s σ H xs us Q I r h
  obtain ⟨c, cv, b, dd, fs, rfl, hcv, e, rfl, hdd, q⟩ := h
  cases r with
  | cons rx rr =>
    cases rr with
    | cons rt rr =>
      cases rr
      cases rx
      have ec := hcv _ rt
      subst ec
      obtain ⟨hget, _⟩ := I.pin (a, oe) (List.mem_append.mpr (.inl List.mem_cons_self))
      obtain ⟨vs, hv⟩ := hf
      obtain ⟨mA, hns, hr⟩ := I.hok dd _ hdd
      obtain ⟨od, ho, hl⟩ := lookIn_ns hns
      have J : PySem.W.InstAt s.heap a oe D (some od) := ⟨hget, hz.1, by unfold PySem.W.notCls; rw [hv] <;> rfl, by rw [hz.2]; exact ho⟩
      obtain ⟨cd, hc, _⟩ := PySem.W.any_some C.hd
      exact PySem.W.kia_one (PySem.W.kitx_exc (by rw [hc]; rfl) C.hg C.hk C.hs C.ha C.hn C.ht C.hm) I.kIn J e (fun z => nomatch z) fun tk => ⟨.bl b, H, I.kept (t' := tk) fun _ _ z => z, rfl, q⟩
theorem ExcC.xf {K : PySem.W.Frag} {D : Addr} (C : ExcC K D) : XfC K D := ⟨C.hg, C.hk, C.hs, C.hd⟩
/-! ### loops of comprehensions over ranges, any body -/
theorem rngW {lo : Int} {n : Nat} {H0 : Hp} {Qd : Hp → Prop} {Body : V → Hp → (Hp → Prop) → Prop} (Pv : Nat → Hp → Prop) (h0 : Pv 0 H0) (hs : ∀ i H, i < n → Pv i H → Body (.int (lo + i)) H (Pv (i + 1))) (hd : ∀ H, Pv n H → Qd H) :
    ∃ W : Nat → Nat → Hp → Prop, (∃ m, W 0 m H0) ∧ ∀ i m H, W i m H → ((Itr lo n).stop i H ∧ Qd H) ∨ ((Itr lo n).go i H ∧ ∃ Nx : Hp → Prop, (∀ H', Nx H' → ∃ m', m' < m ∧ W (i + 1) m' H') ∧ ∀ x H', (Itr lo n).yld i H x H' → Body x H' Nx) := by
  refine ⟨fun i m H => m + i = n ∧ Pv i H, ⟨n, rfl, h0⟩, fun i m H hW => ?_⟩
  obtain ⟨em, p⟩ := hW
  by_cases hi : i < n
  · refine .inr ⟨hi, Pv (i + 1), fun H' p' => ⟨m - 1, by omega, by omega, p'⟩, fun x H' hy => ?_⟩
    obtain ⟨rfl, rfl⟩ := hy
    exact hs i _ hi p
  · have e : i = n := by omega
    subst e
    exact .inl ⟨Nat.le_refl _, hd H p⟩
theorem g_callR {i : Nat} {R : Addr → Sp → Prop} {E : XK} {t : TA} {σ : L2.St} {H : Hp} {Q : VK} {f : Addr} {sp : Sp} (h : σ[i]? = some (some (V.ref f))) (hR : R f sp) (q : t σ H fun vs H1 => sp vs H1 Q E) : tCallR i R E t σ H Q := ⟨f, sp, h, hR, q⟩
/-! ### parts of a text -/
def noS : Stmt := .Pass ⟨0, 0, 0, 0⟩
def noE : Expr := .Name "" ⟨0, 0, 0, 0⟩
def nth (l : List Stmt) (i : Nat) : Stmt := l.getD i noS
def sBody : Stmt → Nat → Stmt
  | .For (body := b) .., i => nth b i
  | .If (body := b) .., i => nth b i
  | .While (body := b) .., i => nth b i
  | _, _ => noS
def sElse : Stmt → Nat → Stmt
  | .If (orelse := b) .., i => nth b i
  | _, _ => noS
def sExpr : Stmt → Expr
  | .If (test := e) .. => e
  | .Assign (value := e) .. => e
  | .Return (value := some e) .. => e
  | .For (iter := e) .. => e
  | .Expr e _ => e
  | _ => noE
def eAt : Expr → Nat → Expr
  | .BoolOp _ vs _, i => vs.getD i noE
  | .BinOp l _ _ _, 0 => l
  | .BinOp _ _ r _, _ => r
  | .UnaryOp _ e _, _ => e
  | .Compare l _ _ _, 0 => l
  | .Compare _ _ cs _, i + 1 => cs.getD i noE
  | .Call _ as _ _, i => as.getD i noE
  | .List es _, i => es.getD i noE
  | .Tuple es _ _, i => es.getD i noE
  | .ListComp e _ _ _, _ => e
  | _, _ => noE
def lamP : Expr → Arguments
  | .Lambda a _ _ _ => a
  | _ => { posonlyargs := [], args := [], vararg := none, kwonlyargs := [], kw_defaults := [], kwarg := none, defaults := [] }
def lamB : Expr → Expr
  | .Lambda _ b _ _ => b
  | e => e
def lamS : Expr → Scope
  | .Lambda _ _ s _ => s
  | _ => { kind := .function, names := [], isGenerator := false, isCoroutine := false }
end NCLam
open PySem PySem.Spec PyProof.Rows L2
local macro_rules | `(tactic| walk_at "mul") => `(tactic| first | exact mulL (by omega) (by omega) | exact mulR (by omega) (by omega) | exact mulL (by decide) (by decide) | exact mulR (by decide) (by decide))
local macro_rules | `(tactic| walk_at "r1") => `(tactic| first
  | with_reducible refine g_seq ?_ | with_reducible refine g_next ?_ | with_reducible refine g_ret ?_ | with_reducible refine g_asg ?_ | with_reducible refine g_name ?_ | with_reducible refine g_drop ?_ | with_reducible refine g_ifS ?_ | with_reducible refine g_par ?_ | with_reducible refine g_par3 ?_
  | ((with_reducible refine g_var (v := ?v) ?h ?_); (case h => exact rfl))
  | with_reducible refine g_c ?_ | with_reducible refine g_op ?_ | with_reducible refine g_un ?_ | with_reducible refine g_I0 ?_ | with_reducible refine g_U ?_
  | with_reducible refine g_eqI ?_ | with_reducible refine g_neI ?_ | with_reducible refine g_eqB ?_ | with_reducible refine g_neB ?_
  | with_reducible refine g_cons ?_ | with_reducible refine g_nil ?_ | with_reducible refine g_tup ?_ | with_reducible refine g_lst ?_ | with_reducible refine g_cb ?_ | with_reducible refine g_call ?_ | with_reducible refine g_callN ?_
  | with_reducible refine g_yes ?_ | with_reducible refine g_test ?_ | with_reducible refine g_tb ?_ | with_reducible refine g_bl ?_ | with_reducible refine g_and ?_ | with_reducible refine g_or ?_ | with_reducible refine g_not ?_ | with_reducible refine g_if ?_
  | with_reducible refine g_chain ?_ | with_reducible refine g_andV ?_ | with_reducible refine g_orV ?_ | with_reducible refine g_notV ?_ | with_reducible refine g_sub ?_ | with_reducible refine g_sl ?_ | with_reducible refine g_consG ?_ | with_reducible refine g_nilG ?_
  | with_reducible refine g_for ?_ | with_reducible refine g_lc ?_ | with_reducible refine g_rng1 ?_ | with_reducible refine g_rng2 ?_ | with_reducible refine g_ilist ?_ | with_reducible refine g_itup ?_ | with_reducible refine g_ikeys ?_ | with_reducible refine g_intI ?_ | with_reducible refine g_intB ?_ | with_reducible refine g_abs ?_ | with_reducible refine g_min2 ?_ | with_reducible refine g_max2 ?_ | with_reducible refine g_po ?_ | with_reducible refine g_pon ?_ | with_reducible refine g_int1 ?_
  | ((with_reducible refine g_lenL (xs := ?xs) ?h ?_); (case h => assumption))
  | ((with_reducible refine g_lenT (xs := ?xs) ?h ?_); (case h => assumption))
  | ((with_reducible refine g_mod ?h ?_); (case h => first | decide | omega))
  | ((with_reducible refine g_div ?h ?h2 ?_); (case h => first | decide | omega); (case h2 => first | decide | omega))
  | ((with_reducible refine g_pow ?h ?_); (case h => first | exact ⟨by decide, by decide, by decide⟩ | exact pow_ok (by omega) (by omega) (by omega) (by omega)))
  | ((with_reducible refine g_tupG (xs := ?xs) ?h ?n ?_); (case h => assumption); (case n => exact rfl))
  | ((with_reducible refine g_unl (xs := ?xs) ?h ?n ?_); (case h => assumption); (case n => exact rfl))
  | ((with_reducible refine g_mul ?h ?_); (case h => walk_at "mul"))
  | ((with_reducible refine g_mulA ?h ?_); (case h => first | exact mulW (by assumption) (by assumption) | exact .inl (by walk_at "mul")))
  | ((with_reducible refine g_divA ?h ?_); (case h => first | exact divW (by assumption) (by assumption) | exact divB (by omega) (by omega) | exact ⟨by decide, by decide⟩))
  | ((with_reducible refine g_powA ?h ?_); (case h => first | exact powW (by assumption) | exact powS (by decide) (by decide) (by decide)))
  | with_reducible refine g_max3 ?_ | with_reducible refine g_ceI ?_ | with_reducible refine g_osA ?_ | with_reducible refine g_mkA ?_
  | ((with_reducible refine g_ixT (v := ?v) (xs := ?xs) ?h ?a ?_); (case h => assumption); (case a => exact rfl))
  | ((with_reducible refine g_ixL (v := ?v) (xs := ?xs) ?h ?a ?_); (case h => assumption); (case a => exact rfl)))
local macro_rules | `(tactic| walk_at "rd") => `(tactic| repeat walk_at "r1")
local macro_rules | `(tactic| walk_at "nm") => `(tactic| try dsimp only [List.set_cons_zero, List.set_cons_succ])
namespace NC
abbrev P0 : Program := PySem.Challenge.pw_nearcells_k72_what_shapes_refuse
abbrev top (i : Nat) : Stmt := P0.main.body.getD i (.Pass ⟨0, 0, 0, 0⟩)
def mkD (g nm : Str) (i : Nat) : He.DefD := ⟨(g, none), nm, nm, defArgs (top i), defBody (top i), defScope (top i), [], []⟩
abbrev FnP (K : PySem.W.Frag) (x : Str) (st : Stmt) (f : Addr) (fd : FuncData) : Prop := FunD K x x (defArgs st) (defBody st) (defScope st) [] [] f fd
def initOf : Stmt → Stmt
  | .ClassDef (body := b) .. => b.headD (.Pass ⟨0, 0, 0, 0⟩)
  | s => s
abbrev ini (i : Nat) : Stmt := initOf (top i)
def mkI (C q : Str) (i : Nat) : He.DefD := ⟨(C, some "__init__"), "__init__", q, defArgs (ini i), defBody (ini i), defScope (ini i), [], []⟩
def fns : List He.DefD := [mkD "is_integer" "is_integer" 5,
  mkD "is_between" "is_between" 6,
  mkD "is_site" "is_site" 10,
  mkD "counted" "counted" 13,
  mkD "check_sides" "check_sides" 14,
  mkD "check_span" "check_span" 15,
  mkD "check_height" "check_height" 16,
  mkD "limit_number" "limit_number" 17,
  mkD "limited" "limited" 18,
  mkD "grid" "grid" 19,
  mkD "grid_counts" "grid_counts" 20,
  mkD "two_rows" "two_rows" 21,
  mkD "two_rows_counts" "two_rows_counts" 22,
  mkD "check_ends" "check_ends" 23,
  mkD "parabola" "parabola" 24,
  mkD "parabola_counts" "parabola_counts" 25,
  mkD "zigzag" "zigzag" 26,
  mkD "zigzag_counts" "zigzag_counts" 27,
  mkD "_law_purse" "_law_purse" 29,
  mkD "_law_coin" "_law_coin" 30,
  mkD "_law_pick" "_law_pick" 31,
  mkD "_law_said" "_law_said" 32,
  mkD "_law_deep" "_law_deep" 33,
  mkD "_law_all_say" "_law_all_say" 34,
  mkD "_law_words_right" "_law_words_right" 35,
  mkD "_law_limits_right" "_law_limits_right" 36,
  mkD "law" "law" 37,
  mkI "InvalidBound" "InvalidBound.__init__" 2,
  mkI "LimitExceeded" "LimitExceeded.__init__" 3]
def fas : List He.Fa := [.glo "is_integer", .glo "is_between", .glo "is_site", .glo "counted", .glo "check_sides", .glo "check_span", .glo "check_height", .glo "limit_number", .glo "limited", .glo "grid", .glo "grid_counts", .glo "two_rows", .glo "two_rows_counts", .glo "check_ends", .glo "parabola", .glo "parabola_counts", .glo "zigzag", .glo "zigzag_counts", .glo "_law_purse", .glo "_law_coin", .glo "_law_pick", .glo "_law_said", .glo "_law_deep", .glo "_law_all_say", .glo "_law_words_right", .glo "_law_limits_right", .glo "law", .int "MOST_COORDINATE" 1000000, .int "MOST_SITES" 200, .int "MOST_SIDE" 1000000, .free "isinstance", .free "int", .free "bool", .free "tuple", .free "len", .free "all", .free "range", .free "min", .free "max", .free "abs", .free "sorted", .glo "CellError", .glo "InvalidBound", .glo "LimitExceeded", .meth "InvalidBound" "__init__", .meth "LimitExceeded" "__init__", .noat "InvalidBound" "argument", .noat "LimitExceeded" "limit", .exm "InvalidBound" "InvalidBound" true, .exm "LimitExceeded" "InvalidBound" false, .exm "LimitExceeded" "LimitExceeded" true]
structure Tops (K : PySem.W.Frag) (mg : Str → Option Value) where
  fd_is_integer : FuncData
  F_is_integer : FnP K "is_integer" (top 5) (He.ga K "is_integer") fd_is_integer
  g_is_integer : mg "is_integer" = some (.ref (He.ga K "is_integer"))
  fd_is_between : FuncData
  F_is_between : FnP K "is_between" (top 6) (He.ga K "is_between") fd_is_between
  g_is_between : mg "is_between" = some (.ref (He.ga K "is_between"))
  fd_is_site : FuncData
  F_is_site : FnP K "is_site" (top 10) (He.ga K "is_site") fd_is_site
  g_is_site : mg "is_site" = some (.ref (He.ga K "is_site"))
  fd_counted : FuncData
  F_counted : FnP K "counted" (top 13) (He.ga K "counted") fd_counted
  g_counted : mg "counted" = some (.ref (He.ga K "counted"))
  fd_check_sides : FuncData
  F_check_sides : FnP K "check_sides" (top 14) (He.ga K "check_sides") fd_check_sides
  g_check_sides : mg "check_sides" = some (.ref (He.ga K "check_sides"))
  fd_check_span : FuncData
  F_check_span : FnP K "check_span" (top 15) (He.ga K "check_span") fd_check_span
  g_check_span : mg "check_span" = some (.ref (He.ga K "check_span"))
  fd_check_height : FuncData
  F_check_height : FnP K "check_height" (top 16) (He.ga K "check_height") fd_check_height
  g_check_height : mg "check_height" = some (.ref (He.ga K "check_height"))
  fd_limit_number : FuncData
  F_limit_number : FnP K "limit_number" (top 17) (He.ga K "limit_number") fd_limit_number
  g_limit_number : mg "limit_number" = some (.ref (He.ga K "limit_number"))
  fd_limited : FuncData
  F_limited : FnP K "limited" (top 18) (He.ga K "limited") fd_limited
  g_limited : mg "limited" = some (.ref (He.ga K "limited"))
  fd_grid : FuncData
  F_grid : FnP K "grid" (top 19) (He.ga K "grid") fd_grid
  g_grid : mg "grid" = some (.ref (He.ga K "grid"))
  fd_grid_counts : FuncData
  F_grid_counts : FnP K "grid_counts" (top 20) (He.ga K "grid_counts") fd_grid_counts
  g_grid_counts : mg "grid_counts" = some (.ref (He.ga K "grid_counts"))
  fd_two_rows : FuncData
  F_two_rows : FnP K "two_rows" (top 21) (He.ga K "two_rows") fd_two_rows
  g_two_rows : mg "two_rows" = some (.ref (He.ga K "two_rows"))
  fd_two_rows_counts : FuncData
  F_two_rows_counts : FnP K "two_rows_counts" (top 22) (He.ga K "two_rows_counts") fd_two_rows_counts
  g_two_rows_counts : mg "two_rows_counts" = some (.ref (He.ga K "two_rows_counts"))
  fd_check_ends : FuncData
  F_check_ends : FnP K "check_ends" (top 23) (He.ga K "check_ends") fd_check_ends
  g_check_ends : mg "check_ends" = some (.ref (He.ga K "check_ends"))
  fd_parabola : FuncData
  F_parabola : FnP K "parabola" (top 24) (He.ga K "parabola") fd_parabola
  g_parabola : mg "parabola" = some (.ref (He.ga K "parabola"))
  fd_parabola_counts : FuncData
  F_parabola_counts : FnP K "parabola_counts" (top 25) (He.ga K "parabola_counts") fd_parabola_counts
  g_parabola_counts : mg "parabola_counts" = some (.ref (He.ga K "parabola_counts"))
  fd_zigzag : FuncData
  F_zigzag : FnP K "zigzag" (top 26) (He.ga K "zigzag") fd_zigzag
  g_zigzag : mg "zigzag" = some (.ref (He.ga K "zigzag"))
  fd_zigzag_counts : FuncData
  F_zigzag_counts : FnP K "zigzag_counts" (top 27) (He.ga K "zigzag_counts") fd_zigzag_counts
  g_zigzag_counts : mg "zigzag_counts" = some (.ref (He.ga K "zigzag_counts"))
  fd_law_purse : FuncData
  F_law_purse : FnP K "_law_purse" (top 29) (He.ga K "_law_purse") fd_law_purse
  g_law_purse : mg "_law_purse" = some (.ref (He.ga K "_law_purse"))
  fd_law_coin : FuncData
  F_law_coin : FnP K "_law_coin" (top 30) (He.ga K "_law_coin") fd_law_coin
  g_law_coin : mg "_law_coin" = some (.ref (He.ga K "_law_coin"))
  fd_law_pick : FuncData
  F_law_pick : FnP K "_law_pick" (top 31) (He.ga K "_law_pick") fd_law_pick
  g_law_pick : mg "_law_pick" = some (.ref (He.ga K "_law_pick"))
  fd_law_said : FuncData
  F_law_said : FnP K "_law_said" (top 32) (He.ga K "_law_said") fd_law_said
  g_law_said : mg "_law_said" = some (.ref (He.ga K "_law_said"))
  fd_law_deep : FuncData
  F_law_deep : FnP K "_law_deep" (top 33) (He.ga K "_law_deep") fd_law_deep
  g_law_deep : mg "_law_deep" = some (.ref (He.ga K "_law_deep"))
  fd_law_all_say : FuncData
  F_law_all_say : FnP K "_law_all_say" (top 34) (He.ga K "_law_all_say") fd_law_all_say
  g_law_all_say : mg "_law_all_say" = some (.ref (He.ga K "_law_all_say"))
  fd_law_words_right : FuncData
  F_law_words_right : FnP K "_law_words_right" (top 35) (He.ga K "_law_words_right") fd_law_words_right
  g_law_words_right : mg "_law_words_right" = some (.ref (He.ga K "_law_words_right"))
  fd_law_limits_right : FuncData
  F_law_limits_right : FnP K "_law_limits_right" (top 36) (He.ga K "_law_limits_right") fd_law_limits_right
  g_law_limits_right : mg "_law_limits_right" = some (.ref (He.ga K "_law_limits_right"))
  fd_law : FuncData
  F_law : FnP K "law" (top 37) (He.ga K "law") fd_law
  g_law : mg "law" = some (.ref (He.ga K "law"))
  t_MOST_COORDINATE : Tok
  c_MOST_COORDINATE : mg "MOST_COORDINATE" = some (.int 1000000 t_MOST_COORDINATE)
  t_MOST_SITES : Tok
  c_MOST_SITES : mg "MOST_SITES" = some (.int 200 t_MOST_SITES)
  t_MOST_SIDE : Tok
  c_MOST_SIDE : mg "MOST_SIDE" = some (.int 1000000 t_MOST_SIDE)
  m_isinstance : mg "isinstance" = none
  m_int : mg "int" = none
  m_bool : mg "bool" = none
  m_tuple : mg "tuple" = none
  m_len : mg "len" = none
  m_all : mg "all" = none
  m_range : mg "range" = none
  m_min : mg "min" = none
  m_max : mg "max" = none
  m_abs : mg "abs" = none
  m_sorted : mg "sorted" = none
  g_CellError : mg "CellError" = some (.ref (He.ga K "CellError"))
  B_CellError : BaseA K (He.ga K "CellError")
  fd_InvalidBound_init : FuncData
  F_InvalidBound_init : FunD K "__init__" "InvalidBound.__init__" (defArgs (ini 2)) (defBody (ini 2)) (defScope (ini 2)) [] [] (He.ma K (He.ga K "InvalidBound") "__init__") fd_InvalidBound_init
  g_InvalidBound : mg "InvalidBound" = some (.ref (He.ga K "InvalidBound"))
  i_InvalidBound : PySem.W.findIn K (.ref (He.ga K "InvalidBound")) "__init__" = some (some (.ref (He.ma K (He.ga K "InvalidBound") "__init__")))
  t_InvalidBound : PySem.W.typeIn K (.ref (He.ma K (He.ga K "InvalidBound") "__init__")) = some (.type "function")
  X_InvalidBound : OexA K (He.ga K "InvalidBound")
  C_InvalidBound : ExcC K (He.ga K "InvalidBound")
  k_InvalidBound : PySem.W.kitOne K (.ref (He.ga K "InvalidBound")) (.ref (He.ga K "CellError")) = some true
  n_InvalidBound_argument : PySem.W.findIn K (.ref (He.ga K "InvalidBound")) "argument" = some none
  fd_LimitExceeded_init : FuncData
  F_LimitExceeded_init : FunD K "__init__" "LimitExceeded.__init__" (defArgs (ini 3)) (defBody (ini 3)) (defScope (ini 3)) [] [] (He.ma K (He.ga K "LimitExceeded") "__init__") fd_LimitExceeded_init
  g_LimitExceeded : mg "LimitExceeded" = some (.ref (He.ga K "LimitExceeded"))
  i_LimitExceeded : PySem.W.findIn K (.ref (He.ga K "LimitExceeded")) "__init__" = some (some (.ref (He.ma K (He.ga K "LimitExceeded") "__init__")))
  t_LimitExceeded : PySem.W.typeIn K (.ref (He.ma K (He.ga K "LimitExceeded") "__init__")) = some (.type "function")
  X_LimitExceeded : OexA K (He.ga K "LimitExceeded")
  C_LimitExceeded : ExcC K (He.ga K "LimitExceeded")
  k_LimitExceeded : PySem.W.kitOne K (.ref (He.ga K "LimitExceeded")) (.ref (He.ga K "CellError")) = some true
  n_LimitExceeded_limit : PySem.W.findIn K (.ref (He.ga K "LimitExceeded")) "limit" = some none
  t_law_words_right_law_limits_right : (He.cT K ("_law_words_right", none)).2 ≠ (He.cT K ("_law_limits_right", none)).2
  e_InvalidBound_InvalidBound : PySem.W.exmOne K (.ref (He.ga K "InvalidBound")) (.ref (He.ga K "InvalidBound")) = some true
  e_LimitExceeded_InvalidBound : PySem.W.exmOne K (.ref (He.ga K "LimitExceeded")) (.ref (He.ga K "InvalidBound")) = some false
  e_LimitExceeded_LimitExceeded : PySem.W.exmOne K (.ref (He.ga K "LimitExceeded")) (.ref (He.ga K "LimitExceeded")) = some true
abbrev exF : PySem.W.Frag → Bool := fun K => baseAB K (He.ga K "CellError") && (oexAB K (He.ga K "InvalidBound") && (oexAB K (He.ga K "LimitExceeded") && (excCB K (He.ga K "InvalidBound") && (excCB K (He.ga K "LimitExceeded") && (kitEB K (He.ga K "InvalidBound") (He.ga K "CellError") true && (kitEB K (He.ga K "LimitExceeded") (He.ga K "CellError") true && (decide ((He.cT K ("_law_words_right", none)).2 ≠ (He.cT K ("_law_limits_right", none)).2))))))))
theorem tops {K : PySem.W.Frag} {h : Heap} {mg : Str → Option Value} (X : K.In h) (G : h.Ns mainGlobals mg) (c : He.SaysD fas fns K) (m : exF K = true) : Nonempty (Tops K mg) := by
  obtain ⟨fd0, F0⟩ := c.def_ 0 rfl
  obtain ⟨fd1, F1⟩ := c.def_ 1 rfl
  obtain ⟨fd2, F2⟩ := c.def_ 2 rfl
  obtain ⟨fd3, F3⟩ := c.def_ 3 rfl
  obtain ⟨fd4, F4⟩ := c.def_ 4 rfl
  obtain ⟨fd5, F5⟩ := c.def_ 5 rfl
  obtain ⟨fd6, F6⟩ := c.def_ 6 rfl
  obtain ⟨fd7, F7⟩ := c.def_ 7 rfl
  obtain ⟨fd8, F8⟩ := c.def_ 8 rfl
  obtain ⟨fd9, F9⟩ := c.def_ 9 rfl
  obtain ⟨fd10, F10⟩ := c.def_ 10 rfl
  obtain ⟨fd11, F11⟩ := c.def_ 11 rfl
  obtain ⟨fd12, F12⟩ := c.def_ 12 rfl
  obtain ⟨fd13, F13⟩ := c.def_ 13 rfl
  obtain ⟨fd14, F14⟩ := c.def_ 14 rfl
  obtain ⟨fd15, F15⟩ := c.def_ 15 rfl
  obtain ⟨fd16, F16⟩ := c.def_ 16 rfl
  obtain ⟨fd17, F17⟩ := c.def_ 17 rfl
  obtain ⟨fd18, F18⟩ := c.def_ 18 rfl
  obtain ⟨fd19, F19⟩ := c.def_ 19 rfl
  obtain ⟨fd20, F20⟩ := c.def_ 20 rfl
  obtain ⟨fd21, F21⟩ := c.def_ 21 rfl
  obtain ⟨fd22, F22⟩ := c.def_ 22 rfl
  obtain ⟨fd23, F23⟩ := c.def_ 23 rfl
  obtain ⟨fd24, F24⟩ := c.def_ 24 rfl
  obtain ⟨fd25, F25⟩ := c.def_ 25 rfl
  obtain ⟨fd26, F26⟩ := c.def_ 26 rfl
  obtain ⟨t0, c0⟩ := He.int_ok X G (c.fact 27 rfl)
  obtain ⟨t1, c1⟩ := He.int_ok X G (c.fact 28 rfl)
  obtain ⟨t2, c2⟩ := He.int_ok X G (c.fact 29 rfl)
  obtain ⟨mB, m⟩ := Bool.and_eq_true_iff.mp m
  obtain ⟨mX0, m⟩ := Bool.and_eq_true_iff.mp m
  obtain ⟨mX1, m⟩ := Bool.and_eq_true_iff.mp m
  obtain ⟨mC0, m⟩ := Bool.and_eq_true_iff.mp m
  obtain ⟨mC1, m⟩ := Bool.and_eq_true_iff.mp m
  obtain ⟨mK0, m⟩ := Bool.and_eq_true_iff.mp m
  obtain ⟨mK1, m⟩ := Bool.and_eq_true_iff.mp m
  have mT0 := m
  obtain ⟨fdI0, FI0⟩ := c.def_ 27 rfl
  obtain ⟨ia0, ib0⟩ := Bool.and_eq_true_iff.mp (show ((He.Fa.meth "InvalidBound" "__init__").ok K = true) from c.fact 44 rfl)
  obtain ⟨fdI1, FI1⟩ := c.def_ 28 rfl
  obtain ⟨ia1, ib1⟩ := Bool.and_eq_true_iff.mp (show ((He.Fa.meth "LimitExceeded" "__init__").ok K = true) from c.fact 45 rfl)
  exact ⟨{ fd_is_integer := fd0, F_is_integer := F0, g_is_integer := He.glo_ok X G (c.fact 0 rfl), fd_is_between := fd1, F_is_between := F1, g_is_between := He.glo_ok X G (c.fact 1 rfl), fd_is_site := fd2, F_is_site := F2, g_is_site := He.glo_ok X G (c.fact 2 rfl), fd_counted := fd3, F_counted := F3, g_counted := He.glo_ok X G (c.fact 3 rfl), fd_check_sides := fd4, F_check_sides := F4, g_check_sides := He.glo_ok X G (c.fact 4 rfl), fd_check_span := fd5, F_check_span := F5, g_check_span := He.glo_ok X G (c.fact 5 rfl), fd_check_height := fd6, F_check_height := F6, g_check_height := He.glo_ok X G (c.fact 6 rfl), fd_limit_number := fd7, F_limit_number := F7, g_limit_number := He.glo_ok X G (c.fact 7 rfl), fd_limited := fd8, F_limited := F8, g_limited := He.glo_ok X G (c.fact 8 rfl), fd_grid := fd9, F_grid := F9, g_grid := He.glo_ok X G (c.fact 9 rfl), fd_grid_counts := fd10, F_grid_counts := F10, g_grid_counts := He.glo_ok X G (c.fact 10 rfl), fd_two_rows := fd11, F_two_rows := F11, g_two_rows := He.glo_ok X G (c.fact 11 rfl), fd_two_rows_counts := fd12, F_two_rows_counts := F12, g_two_rows_counts := He.glo_ok X G (c.fact 12 rfl), fd_check_ends := fd13, F_check_ends := F13, g_check_ends := He.glo_ok X G (c.fact 13 rfl), fd_parabola := fd14, F_parabola := F14, g_parabola := He.glo_ok X G (c.fact 14 rfl), fd_parabola_counts := fd15, F_parabola_counts := F15, g_parabola_counts := He.glo_ok X G (c.fact 15 rfl), fd_zigzag := fd16, F_zigzag := F16, g_zigzag := He.glo_ok X G (c.fact 16 rfl), fd_zigzag_counts := fd17, F_zigzag_counts := F17, g_zigzag_counts := He.glo_ok X G (c.fact 17 rfl), fd_law_purse := fd18, F_law_purse := F18, g_law_purse := He.glo_ok X G (c.fact 18 rfl), fd_law_coin := fd19, F_law_coin := F19, g_law_coin := He.glo_ok X G (c.fact 19 rfl), fd_law_pick := fd20, F_law_pick := F20, g_law_pick := He.glo_ok X G (c.fact 20 rfl), fd_law_said := fd21, F_law_said := F21, g_law_said := He.glo_ok X G (c.fact 21 rfl), fd_law_deep := fd22, F_law_deep := F22, g_law_deep := He.glo_ok X G (c.fact 22 rfl), fd_law_all_say := fd23, F_law_all_say := F23, g_law_all_say := He.glo_ok X G (c.fact 23 rfl), fd_law_words_right := fd24, F_law_words_right := F24, g_law_words_right := He.glo_ok X G (c.fact 24 rfl), fd_law_limits_right := fd25, F_law_limits_right := F25, g_law_limits_right := He.glo_ok X G (c.fact 25 rfl), fd_law := fd26, F_law := F26, g_law := He.glo_ok X G (c.fact 26 rfl), t_MOST_COORDINATE := t0, c_MOST_COORDINATE := c0, t_MOST_SITES := t1, c_MOST_SITES := c1, t_MOST_SIDE := t2, c_MOST_SIDE := c2, m_isinstance := He.free_ok X G (c.fact 30 rfl), m_int := He.free_ok X G (c.fact 31 rfl), m_bool := He.free_ok X G (c.fact 32 rfl), m_tuple := He.free_ok X G (c.fact 33 rfl), m_len := He.free_ok X G (c.fact 34 rfl), m_all := He.free_ok X G (c.fact 35 rfl), m_range := He.free_ok X G (c.fact 36 rfl), m_min := He.free_ok X G (c.fact 37 rfl), m_max := He.free_ok X G (c.fact 38 rfl), m_abs := He.free_ok X G (c.fact 39 rfl), m_sorted := He.free_ok X G (c.fact 40 rfl), g_CellError := He.glo_ok X G (c.fact 41 rfl), B_CellError := baseAB_ok mB, fd_InvalidBound_init := fdI0, F_InvalidBound_init := FI0, g_InvalidBound := He.glo_ok X G (c.fact 42 rfl), i_InvalidBound := He.eqO_ok ia0, t_InvalidBound := beq_iff_eq.mp (Bool.and_eq_true_iff.mp ib0).1, X_InvalidBound := oexAB_ok mX0, C_InvalidBound := excCB_ok mC0, k_InvalidBound := kitEB_ok mK0, fd_LimitExceeded_init := fdI1, F_LimitExceeded_init := FI1, g_LimitExceeded := He.glo_ok X G (c.fact 43 rfl), i_LimitExceeded := He.eqO_ok ia1, t_LimitExceeded := beq_iff_eq.mp (Bool.and_eq_true_iff.mp ib1).1, X_LimitExceeded := oexAB_ok mX1, C_LimitExceeded := excCB_ok mC1, k_LimitExceeded := kitEB_ok mK1, n_InvalidBound_argument := He.noat_ok (c.fact 46 rfl), n_LimitExceeded_limit := He.noat_ok (c.fact 47 rfl), t_law_words_right_law_limits_right := of_decide_eq_true mT0, e_InvalidBound_InvalidBound := He.exm_ok (c.fact 48 rfl), e_LimitExceeded_InvalidBound := He.exm_ok (c.fact 49 rfl), e_LimitExceeded_LimitExceeded := He.exm_ok (c.fact 50 rfl) }⟩
abbrev R0 : PySem.W.OpenRow := PySem.W.OpenLaw.row PySem.Challenge.rw_nearcells_k72_what_shapes_refuse
abbrev hk : PySem.W.Hook := NCHook.hook 4 fas fns [] [("_law_words_right", none), ("_law_limits_right", none)] exF
def ob (s : PySem.W.SharedT) : He.AlX := NCHook.ob 4 fas fns [] [("_law_words_right", none), ("_law_limits_right", none)] exF (HandSHeadRun.getT s)
theorem ob_eq (s : PySem.W.SharedT) : ob s = hk.obs s.abs := NCHook.ob_eq (HandSHeadRun.getT_eq s)
def loose0 : List PySem.Str := ["CellError", "InvalidBound", "LimitExceeded", "is_integer", "is_between", "MOST_COORDINATE", "MOST_SITES", "is_site", "MOST_SIDE", "counted", "check_sides", "check_span", "check_height", "limit_number", "limited", "grid", "grid_counts", "two_rows", "two_rows_counts", "check_ends", "parabola", "parabola_counts", "zigzag", "zigzag_counts", "_law_purse", "_law_coin", "_law_pick", "_law_said", "_law_deep", "_law_all_say"]
def loose1 : List PySem.Str := ["_law_words_right", "_law_limits_right"]
abbrev loose : List PySem.Str := loose0 ++ loose1
theorem run (w : World) : HandSHeadRun.RunEq R0 (PySem.W.view R0.prog [37]) hk ob 4000 loose w := by
  intro os
  kernel_rfl
abbrev N_is_integer : List Str := ["value"]
abbrev P_is_integer : List Str := ["value"]
theorem sc_is_integer : FnScope N_is_integer P_is_integer (defScope (top 5)) := ⟨rfl, rfl, rfl, by decide +kernel, rfl, by decide +kernel, by decide +kernel⟩
theorem st_is_integer (x0 : V) : L2.start N_is_integer [x0] = [some x0] := rfl
theorem b_is_integer {K : PySem.W.Frag} {mg : Str → Option Value} (T : Tops K mg) : Binds K T.fd_is_integer P_is_integer [] := T.F_is_integer.bindsN fun _ _ _ _ _ _ us hl => match us, hl with | [_], _ => rfl
abbrev N_is_between : List Str := ["value", "low", "high"]
abbrev P_is_between : List Str := ["value", "low", "high"]
theorem sc_is_between : FnScope N_is_between P_is_between (defScope (top 6)) := ⟨rfl, rfl, rfl, by decide +kernel, rfl, by decide +kernel, by decide +kernel⟩
theorem st_is_between (x0 : V) (x1 : V) (x2 : V) : L2.start N_is_between [x0, x1, x2] = [some x0, some x1, some x2] := rfl
theorem b_is_between {K : PySem.W.Frag} {mg : Str → Option Value} (T : Tops K mg) : Binds K T.fd_is_between P_is_between [] := T.F_is_between.bindsN fun _ _ _ _ _ _ us hl => match us, hl with | [_, _, _], _ => rfl
abbrev N_is_site : List Str := ["value", "one"]
abbrev P_is_site : List Str := ["value"]
theorem sc_is_site : FnScope N_is_site P_is_site (defScope (top 10)) := ⟨rfl, rfl, rfl, by decide +kernel, rfl, by decide +kernel, by decide +kernel⟩
theorem st_is_site (x0 : V) : L2.start N_is_site [x0] = [some x0, none] := rfl
theorem b_is_site {K : PySem.W.Frag} {mg : Str → Option Value} (T : Tops K mg) : Binds K T.fd_is_site P_is_site [] := T.F_is_site.bindsN fun _ _ _ _ _ _ us hl => match us, hl with | [_], _ => rfl
abbrev N_counted : List Str := ["many", "faces", "triangles"]
abbrev P_counted : List Str := ["many", "faces", "triangles"]
theorem sc_counted : FnScope N_counted P_counted (defScope (top 13)) := ⟨rfl, rfl, rfl, by decide +kernel, rfl, by decide +kernel, by decide +kernel⟩
theorem st_counted (x0 : V) (x1 : V) (x2 : V) : L2.start N_counted [x0, x1, x2] = [some x0, some x1, some x2] := rfl
theorem b_counted {K : PySem.W.Frag} {mg : Str → Option Value} (T : Tops K mg) : Binds K T.fd_counted P_counted [] := T.F_counted.bindsN fun _ _ _ _ _ _ us hl => match us, hl with | [_, _, _], _ => rfl
abbrev N_check_sides : List Str := ["low", "m", "n", "word", "value"]
abbrev P_check_sides : List Str := ["low", "m", "n"]
theorem sc_check_sides : FnScope N_check_sides P_check_sides (defScope (top 14)) := ⟨rfl, rfl, rfl, by decide +kernel, rfl, by decide +kernel, by decide +kernel⟩
theorem st_check_sides (x0 : V) (x1 : V) (x2 : V) : L2.start N_check_sides [x0, x1, x2] = [some x0, some x1, some x2, none, none] := rfl
theorem b_check_sides {K : PySem.W.Frag} {mg : Str → Option Value} (T : Tops K mg) : Binds K T.fd_check_sides P_check_sides [] := T.F_check_sides.bindsN fun _ _ _ _ _ _ us hl => match us, hl with | [_, _, _], _ => rfl
abbrev N_check_span : List Str := ["word", "value"]
abbrev P_check_span : List Str := ["word", "value"]
theorem sc_check_span : FnScope N_check_span P_check_span (defScope (top 15)) := ⟨rfl, rfl, rfl, by decide +kernel, rfl, by decide +kernel, by decide +kernel⟩
theorem st_check_span (x0 : V) (x1 : V) : L2.start N_check_span [x0, x1] = [some x0, some x1] := rfl
theorem b_check_span {K : PySem.W.Frag} {mg : Str → Option Value} (T : Tops K mg) : Binds K T.fd_check_span P_check_span [] := T.F_check_span.bindsN fun _ _ _ _ _ _ us hl => match us, hl with | [_, _], _ => rfl
abbrev N_check_height : List Str := ["low", "value"]
abbrev P_check_height : List Str := ["low", "value"]
theorem sc_check_height : FnScope N_check_height P_check_height (defScope (top 16)) := ⟨rfl, rfl, rfl, by decide +kernel, rfl, by decide +kernel, by decide +kernel⟩
theorem st_check_height (x0 : V) (x1 : V) : L2.start N_check_height [x0, x1] = [some x0, some x1] := rfl
theorem b_check_height {K : PySem.W.Frag} {mg : Str → Option Value} (T : Tops K mg) : Binds K T.fd_check_height P_check_height [] := T.F_check_height.bindsN fun _ _ _ _ _ _ us hl => match us, hl with | [_, _], _ => rfl
abbrev N_limit_number : List Str := ["many"]
abbrev P_limit_number : List Str := ["many"]
theorem sc_limit_number : FnScope N_limit_number P_limit_number (defScope (top 17)) := ⟨rfl, rfl, rfl, by decide +kernel, rfl, by decide +kernel, by decide +kernel⟩
theorem st_limit_number (x0 : V) : L2.start N_limit_number [x0] = [some x0] := rfl
theorem b_limit_number {K : PySem.W.Frag} {mg : Str → Option Value} (T : Tops K mg) : Binds K T.fd_limit_number P_limit_number [] := T.F_limit_number.bindsN fun _ _ _ _ _ _ us hl => match us, hl with | [_], _ => rfl
abbrev N_limited : List Str := ["sites", "site"]
abbrev P_limited : List Str := ["sites"]
theorem sc_limited : FnScope N_limited P_limited (defScope (top 18)) := ⟨rfl, rfl, rfl, by decide +kernel, rfl, by decide +kernel, by decide +kernel⟩
theorem st_limited (x0 : V) : L2.start N_limited [x0] = [some x0, none] := rfl
theorem b_limited {K : PySem.W.Frag} {mg : Str → Option Value} (T : Tops K mg) : Binds K T.fd_limited P_limited [] := T.F_limited.bindsN fun _ _ _ _ _ _ us hl => match us, hl with | [_], _ => rfl
abbrev N_grid : List Str := ["m", "n", "x", "y"]
abbrev P_grid : List Str := ["m", "n"]
theorem sc_grid : FnScope N_grid P_grid (defScope (top 19)) := ⟨rfl, rfl, rfl, by decide +kernel, rfl, by decide +kernel, by decide +kernel⟩
theorem st_grid (x0 : V) (x1 : V) : L2.start N_grid [x0, x1] = [some x0, some x1, none, none] := rfl
theorem b_grid {K : PySem.W.Frag} {mg : Str → Option Value} (T : Tops K mg) : Binds K T.fd_grid P_grid [] := T.F_grid.bindsN fun _ _ _ _ _ _ us hl => match us, hl with | [_, _], _ => rfl
abbrev N_grid_counts : List Str := ["m", "n", "faces"]
abbrev P_grid_counts : List Str := ["m", "n"]
theorem sc_grid_counts : FnScope N_grid_counts P_grid_counts (defScope (top 20)) := ⟨rfl, rfl, rfl, by decide +kernel, rfl, by decide +kernel, by decide +kernel⟩
theorem st_grid_counts (x0 : V) (x1 : V) : L2.start N_grid_counts [x0, x1] = [some x0, some x1, none] := rfl
theorem b_grid_counts {K : PySem.W.Frag} {mg : Str → Option Value} (T : Tops K mg) : Binds K T.fd_grid_counts P_grid_counts [] := T.F_grid_counts.bindsN fun _ _ _ _ _ _ us hl => match us, hl with | [_, _], _ => rfl
abbrev N_two_rows : List Str := ["m", "n", "shift", "height", "x"]
abbrev P_two_rows : List Str := ["m", "n", "shift", "height"]
theorem sc_two_rows : FnScope N_two_rows P_two_rows (defScope (top 21)) := ⟨rfl, rfl, rfl, by decide +kernel, rfl, by decide +kernel, by decide +kernel⟩
theorem st_two_rows (x0 : V) (x1 : V) (x2 : V) (x3 : V) : L2.start N_two_rows [x0, x1, x2, x3] = [some x0, some x1, some x2, some x3, none] := rfl
theorem b_two_rows {K : PySem.W.Frag} {mg : Str → Option Value} (T : Tops K mg) : Binds K T.fd_two_rows P_two_rows [] := T.F_two_rows.bindsN fun _ _ _ _ _ _ us hl => match us, hl with | [_, _, _, _], _ => rfl
abbrev N_two_rows_counts : List Str := ["m", "n", "shift", "above", "triangles"]
abbrev P_two_rows_counts : List Str := ["m", "n", "shift"]
theorem sc_two_rows_counts : FnScope N_two_rows_counts P_two_rows_counts (defScope (top 22)) := ⟨rfl, rfl, rfl, by decide +kernel, rfl, by decide +kernel, by decide +kernel⟩
theorem st_two_rows_counts (x0 : V) (x1 : V) (x2 : V) : L2.start N_two_rows_counts [x0, x1, x2] = [some x0, some x1, some x2, none, none] := rfl
theorem b_two_rows_counts {K : PySem.W.Frag} {mg : Str → Option Value} (T : Tops K mg) : Binds K T.fd_two_rows_counts P_two_rows_counts [] := T.F_two_rows_counts.bindsN fun _ _ _ _ _ _ us hl => match us, hl with | [_, _, _], _ => rfl
abbrev N_check_ends : List Str := ["low", "high"]
abbrev P_check_ends : List Str := ["low", "high"]
theorem sc_check_ends : FnScope N_check_ends P_check_ends (defScope (top 23)) := ⟨rfl, rfl, rfl, by decide +kernel, rfl, by decide +kernel, by decide +kernel⟩
theorem st_check_ends (x0 : V) (x1 : V) : L2.start N_check_ends [x0, x1] = [some x0, some x1] := rfl
theorem b_check_ends {K : PySem.W.Frag} {mg : Str → Option Value} (T : Tops K mg) : Binds K T.fd_check_ends P_check_ends [] := T.F_check_ends.bindsN fun _ _ _ _ _ _ us hl => match us, hl with | [_, _], _ => rfl
abbrev N_parabola : List Str := ["low", "high", "x"]
abbrev P_parabola : List Str := ["low", "high"]
theorem sc_parabola : FnScope N_parabola P_parabola (defScope (top 24)) := ⟨rfl, rfl, rfl, by decide +kernel, rfl, by decide +kernel, by decide +kernel⟩
theorem st_parabola (x0 : V) (x1 : V) : L2.start N_parabola [x0, x1] = [some x0, some x1, none] := rfl
theorem b_parabola {K : PySem.W.Frag} {mg : Str → Option Value} (T : Tops K mg) : Binds K T.fd_parabola P_parabola [] := T.F_parabola.bindsN fun _ _ _ _ _ _ us hl => match us, hl with | [_, _], _ => rfl
abbrev N_parabola_counts : List Str := ["low", "high", "many", "triangles"]
abbrev P_parabola_counts : List Str := ["low", "high"]
theorem sc_parabola_counts : FnScope N_parabola_counts P_parabola_counts (defScope (top 25)) := ⟨rfl, rfl, rfl, by decide +kernel, rfl, by decide +kernel, by decide +kernel⟩
theorem st_parabola_counts (x0 : V) (x1 : V) : L2.start N_parabola_counts [x0, x1] = [some x0, some x1, none, none] := rfl
theorem b_parabola_counts {K : PySem.W.Frag} {mg : Str → Option Value} (T : Tops K mg) : Binds K T.fd_parabola_counts P_parabola_counts [] := T.F_parabola_counts.bindsN fun _ _ _ _ _ _ us hl => match us, hl with | [_, _], _ => rfl
abbrev N_zigzag : List Str := ["m", "n", "height", "i", "j"]
abbrev P_zigzag : List Str := ["m", "n", "height"]
theorem sc_zigzag : FnScope N_zigzag P_zigzag (defScope (top 26)) := ⟨rfl, rfl, rfl, by decide +kernel, rfl, by decide +kernel, by decide +kernel⟩
theorem st_zigzag (x0 : V) (x1 : V) (x2 : V) : L2.start N_zigzag [x0, x1, x2] = [some x0, some x1, some x2, none, none] := rfl
theorem b_zigzag {K : PySem.W.Frag} {mg : Str → Option Value} (T : Tops K mg) : Binds K T.fd_zigzag P_zigzag [] := T.F_zigzag.bindsN fun _ _ _ _ _ _ us hl => match us, hl with | [_, _, _], _ => rfl
abbrev N_zigzag_counts : List Str := ["m", "n", "triangles"]
abbrev P_zigzag_counts : List Str := ["m", "n"]
theorem sc_zigzag_counts : FnScope N_zigzag_counts P_zigzag_counts (defScope (top 27)) := ⟨rfl, rfl, rfl, by decide +kernel, rfl, by decide +kernel, by decide +kernel⟩
theorem st_zigzag_counts (x0 : V) (x1 : V) : L2.start N_zigzag_counts [x0, x1] = [some x0, some x1, none] := rfl
theorem b_zigzag_counts {K : PySem.W.Frag} {mg : Str → Option Value} (T : Tops K mg) : Binds K T.fd_zigzag_counts P_zigzag_counts [] := T.F_zigzag_counts.bindsN fun _ _ _ _ _ _ us hl => match us, hl with | [_, _], _ => rfl
abbrev N_law_purse : List Str := ["_law_figure"]
abbrev P_law_purse : List Str := ["_law_figure"]
theorem sc_law_purse : FnScope N_law_purse P_law_purse (defScope (top 29)) := ⟨rfl, rfl, rfl, by decide +kernel, rfl, by decide +kernel, by decide +kernel⟩
theorem st_law_purse (x0 : V) : L2.start N_law_purse [x0] = [some x0] := rfl
theorem b_law_purse {K : PySem.W.Frag} {mg : Str → Option Value} (T : Tops K mg) : Binds K T.fd_law_purse P_law_purse [] := T.F_law_purse.bindsN fun _ _ _ _ _ _ us hl => match us, hl with | [_], _ => rfl
abbrev N_law_coin : List Str := ["_law_purse_here", "_law_many", "_law_got_so", "_law_hashed"]
abbrev P_law_coin : List Str := ["_law_purse_here", "_law_many"]
theorem sc_law_coin : FnScope N_law_coin P_law_coin (defScope (top 30)) := ⟨rfl, rfl, rfl, by decide +kernel, rfl, by decide +kernel, by decide +kernel⟩
theorem st_law_coin (x0 : V) (x1 : V) : L2.start N_law_coin [x0, x1] = [some x0, some x1, none, none] := rfl
theorem b_law_coin {K : PySem.W.Frag} {mg : Str → Option Value} (T : Tops K mg) : Binds K T.fd_law_coin P_law_coin [] := T.F_law_coin.bindsN fun _ _ _ _ _ _ us hl => match us, hl with | [_, _], _ => rfl
abbrev N_law_pick : List Str := ["_law_purse_here", "_law_some"]
abbrev P_law_pick : List Str := ["_law_purse_here", "_law_some"]
theorem sc_law_pick : FnScope N_law_pick P_law_pick (defScope (top 31)) := ⟨rfl, rfl, rfl, by decide +kernel, rfl, by decide +kernel, by decide +kernel⟩
theorem st_law_pick (x0 : V) (x1 : V) : L2.start N_law_pick [x0, x1] = [some x0, some x1] := rfl
theorem b_law_pick {K : PySem.W.Frag} {mg : Str → Option Value} (T : Tops K mg) : Binds K T.fd_law_pick P_law_pick [] := T.F_law_pick.bindsN fun _ _ _ _ _ _ us hl => match us, hl with | [_, _], _ => rfl
abbrev N_law_said : List Str := ["_law_ask", "e"]
abbrev P_law_said : List Str := ["_law_ask"]
theorem sc_law_said : FnScope N_law_said P_law_said (defScope (top 32)) := ⟨rfl, rfl, rfl, by decide +kernel, rfl, by decide +kernel, by decide +kernel⟩
theorem st_law_said (x0 : V) : L2.start N_law_said [x0] = [some x0, none] := rfl
theorem b_law_said {K : PySem.W.Frag} {mg : Str → Option Value} (T : Tops K mg) : Binds K T.fd_law_said P_law_said [] := T.F_law_said.bindsN fun _ _ _ _ _ _ us hl => match us, hl with | [_], _ => rfl
abbrev N_law_deep : List Str := ["_law_found", "_law_turn_so"]
abbrev P_law_deep : List Str := []
theorem sc_law_deep : FnScope N_law_deep P_law_deep (defScope (top 33)) := ⟨rfl, rfl, rfl, by decide +kernel, rfl, by decide +kernel, by decide +kernel⟩
theorem st_law_deep : L2.start N_law_deep [] = [none, none] := rfl
theorem b_law_deep {K : PySem.W.Frag} {mg : Str → Option Value} (T : Tops K mg) : Binds K T.fd_law_deep P_law_deep [] := T.F_law_deep.bindsN fun _ _ _ _ _ _ us hl => match us, hl with | [], _ => rfl
abbrev N_law_all_say : List Str := ["_law_calls", "_law_ask"]
abbrev P_law_all_say : List Str := ["_law_calls"]
theorem sc_law_all_say : FnScope N_law_all_say P_law_all_say (defScope (top 34)) := ⟨rfl, rfl, rfl, by decide +kernel, rfl, by decide +kernel, by decide +kernel⟩
theorem st_law_all_say (x0 : V) : L2.start N_law_all_say [x0] = [some x0, none] := rfl
theorem b_law_all_say {K : PySem.W.Frag} {mg : Str → Option Value} (T : Tops K mg) : Binds K T.fd_law_all_say P_law_all_say [] := T.F_law_all_say.bindsN fun _ _ _ _ _ _ us hl => match us, hl with | [_], _ => rfl
abbrev N_law_words_right : List Str := ["_law_odd", "_law_word", "_law_a", "_law_ask", "_law_b", "_law_c", "_law_far_so"]
abbrev P_law_words_right : List Str := ["_law_odd"]
theorem sc_law_words_right : FnScope N_law_words_right P_law_words_right (defScope (top 35)) := ⟨rfl, rfl, rfl, by decide +kernel, rfl, by decide +kernel, by decide +kernel⟩
theorem st_law_words_right (x0 : V) : L2.start N_law_words_right [x0] = [some x0, none, none, none, none, none, none] := rfl
theorem b_law_words_right {K : PySem.W.Frag} {mg : Str → Option Value} (T : Tops K mg) : Binds K T.fd_law_words_right P_law_words_right [] := T.F_law_words_right.bindsN fun _ _ _ _ _ _ us hl => match us, hl with | [_], _ => rfl
abbrev N_law_limits_right : List Str := ["_law_purse_here", "_law_calls", "_law_low", "_law_size"]
abbrev P_law_limits_right : List Str := ["_law_purse_here"]
theorem sc_law_limits_right : FnScope N_law_limits_right P_law_limits_right (defScope (top 36)) := ⟨rfl, rfl, rfl, by decide +kernel, rfl, by decide +kernel, by decide +kernel⟩
theorem st_law_limits_right (x0 : V) : L2.start N_law_limits_right [x0] = [some x0, none, none, none] := rfl
theorem b_law_limits_right {K : PySem.W.Frag} {mg : Str → Option Value} (T : Tops K mg) : Binds K T.fd_law_limits_right P_law_limits_right [] := T.F_law_limits_right.bindsN fun _ _ _ _ _ _ us hl => match us, hl with | [_], _ => rfl
abbrev N_law : List Str := ["_law_script", "_law_figure", "_law_purse_here", "_law_some", "_law_odd"]
abbrev P_law : List Str := ["_law_script"]
theorem sc_law : FnScope N_law P_law (defScope (top 37)) := ⟨rfl, rfl, rfl, by decide +kernel, rfl, by decide +kernel, by decide +kernel⟩
theorem st_law (x0 : V) : L2.start N_law [x0] = [some x0, none, none, none, none] := rfl
theorem b_law {K : PySem.W.Frag} {mg : Str → Option Value} (T : Tops K mg) : Binds K T.fd_law P_law [] := T.F_law.bindsN fun _ _ _ _ _ _ us hl => match us, hl with | [_], _ => rfl
abbrev N_InvalidBound_init : List Str := ["self", "argument"]
abbrev P_InvalidBound_init : List Str := ["self", "argument"]
theorem sc_InvalidBound_init : FnScope N_InvalidBound_init P_InvalidBound_init (defScope (ini 2)) := ⟨rfl, rfl, rfl, by decide +kernel, rfl, by decide +kernel, by decide +kernel⟩
theorem st_InvalidBound_init (x0 : V) (x1 : V) : L2.start N_InvalidBound_init [x0, x1] = [some x0, some x1] := rfl
theorem b_InvalidBound_init {K : PySem.W.Frag} {mg : Str → Option Value} (T : Tops K mg) : Binds K T.fd_InvalidBound_init P_InvalidBound_init [] := T.F_InvalidBound_init.bindsN fun _ _ _ _ _ _ us hl => match us, hl with | [_, _], _ => rfl
abbrev N_LimitExceeded_init : List Str := ["self", "limit"]
abbrev P_LimitExceeded_init : List Str := ["self", "limit"]
theorem sc_LimitExceeded_init : FnScope N_LimitExceeded_init P_LimitExceeded_init (defScope (ini 3)) := ⟨rfl, rfl, rfl, by decide +kernel, rfl, by decide +kernel, by decide +kernel⟩
theorem st_LimitExceeded_init (x0 : V) (x1 : V) : L2.start N_LimitExceeded_init [x0, x1] = [some x0, some x1] := rfl
theorem b_LimitExceeded_init {K : PySem.W.Frag} {mg : Str → Option Value} (T : Tops K mg) : Binds K T.fd_LimitExceeded_init P_LimitExceeded_init [] := T.F_LimitExceeded_init.bindsN fun _ _ _ _ _ _ us hl => match us, hl with | [_, _], _ => rfl

end NC
namespace NC
section
variable {P : Program} {w : World} {K : PySem.W.Frag} {mg : Str → Option Value} {base : Heap}

def RB (K : PySem.W.Frag) (w : Str) (H : Hp) (E : XK) : Prop := NCLam.Rz (He.ga K "InvalidBound") "argument" (.str w) H E
def RL (K : PySem.W.Frag) (n : Int) (H : Hp) (E : XK) : Prop := NCLam.Rz (He.ga K "LimitExceeded") "limit" (.int n) H E
/-- no integer -/
def NI (H : Hp) (v : V) : Prop := v = .non ∨ (∃ z, v = .str z) ∨ (∃ b, v = .bl b) ∨ ∃ p, v = .ref p ∧ ((∃ xs, H p = some (.lst xs)) ∨ (∃ xs, H p = some (.tup xs)) ∨ ∃ kvs, H p = some (.dT kvs))
theorem NI.ext {H H' : Hp} {v : V} (h : NI H v) (e : LamX.ExtN H H') : NI H' v := by
  rcases h with h | h | h | ⟨p, rfl, h⟩
  · exact .inl h
  · exact .inr (.inl h)
  · exact .inr (.inr (.inl h))
  · refine .inr (.inr (.inr ⟨p, rfl, ?_⟩))
    rcases h with ⟨xs, h⟩ | ⟨xs, h⟩ | ⟨xs, h⟩
    · exact .inl ⟨xs, e _ _ h (fun _ z => by cases z)⟩
    · exact .inr (.inl ⟨xs, e _ _ h (fun _ z => by cases z)⟩)
    · exact .inr (.inr ⟨xs, e _ _ h (fun _ z => by cases z)⟩)
/-- what is_between tells of v -/
def BetV (H : Hp) (lo hi : Int) (v : V) (b : Bool) : Prop := (∃ i : Int, v = .int i ∧ b = (decide (lo ≤ i) && decide (i ≤ hi))) ∨ (NI H v ∧ b = false)
theorem BetV.ext {H H' : Hp} {lo hi : Int} {v : V} {b : Bool} (h : BetV H lo hi v b) (e : LamX.ExtN H H') : BetV H' lo hi v b := h.imp id fun ⟨a, c⟩ => ⟨a.ext e, c⟩
theorem BetV.good {H : Hp} {lo hi : Int} {v : V} (h : BetV H lo hi v true) : ∃ i : Int, v = .int i ∧ lo ≤ i ∧ i ≤ hi := by
  rcases h with ⟨i, e, hb⟩ | ⟨_, hb⟩
  · obtain ⟨h1, h2⟩ := Bool.and_eq_true_iff.mp hb.symm
    exact ⟨i, e, of_decide_eq_true h1, of_decide_eq_true h2⟩
  · cases hb
theorem BetV.int {H : Hp} {lo hi i : Int} (h1 : lo ≤ i) (h2 : i ≤ hi) : BetV H lo hi (.int i) true := .inl ⟨i, rfl, by rw [decide_eq_true h1, decide_eq_true h2]; rfl⟩
theorem BetV.out {H : Hp} {lo hi i : Int} (h : ¬ (lo ≤ i ∧ i ≤ hi)) : BetV H lo hi (.int i) false := .inl ⟨i, rfl, by
  cases q : (decide (lo ≤ i) && decide (i ≤ hi)) with
  | false => rfl
  | true =>
    obtain ⟨h1, h2⟩ := Bool.and_eq_true_iff.mp q
    exact absurd ⟨of_decide_eq_true h1, of_decide_eq_true h2⟩ h⟩
def sp_is_integer : Sp := fun vs H Q _ => ∃ v : V, vs = [v] ∧ ((∃ i : Int, v = .int i ∧ Q (.bl true) H) ∨ (NI H v ∧ Q (.bl false) H))
theorem ok_is_integer (T : Tops K mg) : FnOk P w K mg base CX0 1 (He.ga K "is_integer") T.fd_is_integer P_is_integer sp_is_integer := by
  refine T.F_is_integer.ok sc_is_integer (fun vs H Q E h => ?_) (fun cdv A outer s H vs Q E hr h => ?_)
  · obtain ⟨v, rfl, h⟩ := h
    rfl
  · obtain ⟨v, rfl, h⟩ := h
    refine ⟨_, PSs.nox ((pss_one (ps_ret (pe_and (pe_callB (call_isiK0 K) (by rfl) T.m_isinstance (by decide +kernel) (pa_cons (pv 0) (pa_cons (pe_bltn (v := .ty "int") rfl T.m_int (by decide +kernel) rfl) pa_nil))) (pe_one (pe_not (pe_callB (call_isiK0 K) (by rfl) T.m_isinstance (by decide +kernel) (pa_cons (pv 0) (pa_cons (pe_bltn (v := .ty "bool") rfl T.m_bool (by decide +kernel) rfl) pa_nil))))))))), ?_⟩
    rw [st_is_integer]
    rcases h with ⟨i, rfl, q⟩ | ⟨h, q⟩
    · walk_at "rd"
      refine ⟨_, _, _, _, true, rfl, .ty _, .base (.int _), kit_ty (by decide +kernel), ?_⟩
      walk_at "rd"
      refine iteT ?_
      walk_at "rd"
      refine ⟨_, _, _, _, false, rfl, .ty _, .base (.int _), kit_ty (by decide +kernel), ?_⟩
      walk_at "rd"
      exact q
    · rcases h with rfl | ⟨z, rfl⟩ | ⟨b, rfl⟩ | ⟨p, rfl, ⟨xs, h⟩ | ⟨xs, h⟩ | ⟨xs, h⟩⟩
      · walk_at "rd"
        refine ⟨_, _, _, _, false, rfl, .ty _, .base .non, kit_ty (by decide +kernel), ?_⟩
        walk_at "rd"
        exact iteF q
      · walk_at "rd"
        refine ⟨_, _, _, _, false, rfl, .ty _, .base (.str _), kit_ty (by decide +kernel), ?_⟩
        walk_at "rd"
        exact iteF q
      · walk_at "rd"
        refine ⟨_, _, _, _, true, rfl, .ty _, .base (.bl _), kit_ty (by decide +kernel), ?_⟩
        walk_at "rd"
        refine iteT ?_
        walk_at "rd"
        refine ⟨_, _, _, _, true, rfl, .ty _, .base (.bl _), kit_ty (by decide +kernel), ?_⟩
        walk_at "rd"
        exact q
      · walk_at "rd"
        refine ⟨_, _, _, _, false, rfl, .ty _, .base (.lst h), kit_ty (by decide +kernel), ?_⟩
        walk_at "rd"
        exact iteF q
      · walk_at "rd"
        refine ⟨_, _, _, _, false, rfl, .ty _, .base (.tup h), kit_ty (by decide +kernel), ?_⟩
        walk_at "rd"
        exact iteF q
      · walk_at "rd"
        refine ⟨_, _, _, _, false, rfl, .ty _, .base (.dT h), kit_ty (by decide +kernel), ?_⟩
        walk_at "rd"
        exact iteF q

def sp_is_between : Sp := fun vs H Q _ => ∃ (v : V) (lo hi : Int) (b : Bool), vs = [v, .int lo, .int hi] ∧ BetV H lo hi v b ∧ Q (.bl b) H
theorem ok_is_between (T : Tops K mg) : FnOk P w K mg base CX0 2 (He.ga K "is_between") T.fd_is_between P_is_between sp_is_between := by
  refine T.F_is_between.ok sc_is_between (fun vs H Q E h => ?_) (fun cdv A outer s H vs Q E hr h => ?_)
  · obtain ⟨v, lo, hi, b, rfl, h, q⟩ := h
    rfl
  · obtain ⟨v, lo, hi, b, rfl, h, q⟩ := h
    refine ⟨_, PSs.nox ((pss_one (ps_ret (pe_and (pe_call (ok_is_integer T) (hr.mono (by decide)) (by rfl) T.g_is_integer T.F_is_integer.kp (b_is_integer T) .nil pass0 (pa_cons (pv 0) pa_nil)) (pe_one (pe_chain op_le op_le (pv 1) (pv 0) (pv 2))))))), ?_⟩
    rw [st_is_between]
    rcases h with ⟨i, rfl, rfl⟩ | ⟨h, rfl⟩
    · walk_at "rd"
      refine ⟨_, rfl, .inl ⟨i, rfl, ?_⟩⟩
      walk_at "rd"
      refine iteT ?_
      walk_at "rd"
      refine ite2 (fun h => ?_) (fun h => ?_)
      · walk_at "rd"
        rw [h, Bool.true_and] at q
        exact q
      · have h2 : decide (lo ≤ i) = false := by simpa using h
        rw [h2, Bool.false_and] at q
        exact q
    · walk_at "rd"
      refine ⟨_, rfl, .inr ⟨h, ?_⟩⟩
      walk_at "rd"
      exact iteF q

def sp_is_site : Sp := fun vs H Q _ => ∃ (p : Addr) (x y : Int), vs = [.ref p] ∧ H p = some (.tup [.int x, .int y]) ∧ ∀ H', Same H H' → Q (.bl ((decide (-1000000 ≤ x) && decide (x ≤ 1000000)) && (decide (-1000000 ≤ y) && decide (y ≤ 1000000)))) H'
theorem ok_is_site (T : Tops K mg) : FnOk P w K mg base CX0 3 (He.ga K "is_site") T.fd_is_site P_is_site sp_is_site := by
  refine T.F_is_site.ok sc_is_site (fun vs H Q E h => ?_) (fun cdv A outer s H vs Q E hr h => ?_)
  · obtain ⟨p, x, y, rfl, hp, q⟩ := h
    rfl
  · obtain ⟨p, x, y, rfl, hp, q⟩ := h
    refine ⟨_, PSs.nox ((pss_cons (ps_if (PW.pt (pw_or (pt_not (pt_val (pe_callB (call_isiK0 K) (by rfl) T.m_isinstance (by decide +kernel) (pa_cons (pv 0) (pa_cons (pe_bltn (v := .ty "tuple") rfl T.m_tuple (by decide +kernel) rfl) pa_nil))))) (pw_or1 (pt_cmpR op_ne (pe_callB (call_lenK K) (by rfl) T.m_len PySem.boot_len (pa_cons (pv 0) pa_nil)) pe_int (nomark _)))))
       (pss_one (ps_ret pe_bl))
       pss_nil)
       (pss_one (ps_ret (pe_callB (cr_allK K rfl) (by rfl) T.m_all (by decide +kernel) (pa_cons (pe_lc (own := [("one", 1)]) (g := gName 1) (tt := tYes) rfl sc_is_site.nd (pi_tupK K (pv 0)) (blkOk_by (own := [("one", 1)]) (N := N_is_site) (sc := defScope (top 10)) (by decide +kernel)) (fun _ _ _ _ _ => (pg_name (i := 1) sc_is_site.nd rfl (.inl rfl))) (fun _ _ _ _ _ => pts_nil) (fun _ _ _ _ _ => (pe_call (ok_is_between T) (hr.mono (by decide)) (by rfl) T.g_is_between T.F_is_between.kp (b_is_between T) .nil pass0 (pa_cons (pv 1) (pa_cons (pe_op op_sub pe_int (pe_glob (v := .int 1000000) rfl T.c_MOST_COORDINATE ⟨_, rfl⟩)) (pa_cons (pe_glob (v := .int 1000000) rfl T.c_MOST_COORDINATE ⟨_, rfl⟩) pa_nil)))))) pa_nil)))))), ?_⟩
    rw [st_is_site]
    walk_at "rd"
    refine ⟨_, _, _, _, true, rfl, .ty _, .base (.tup hp), kit_ty (by decide +kernel), ?_⟩
    walk_at "rd"
    refine iteF ?_
    walk_at "rd"
    refine iteF ?_
    walk_at "rd"
    refine ⟨p, rfl, ⟨_, SqT.of hp⟩, fun D hD => ?_⟩
    refine lc_tup (K := K) (a := p) (xs := [.int x, .int y]) (fun i H' => Same H H' ∧ H' D = some (.lst (([decide (-1000000 ≤ x) && decide (x ≤ 1000000), decide (-1000000 ≤ y) && decide (y ≤ 1000000)].take i).map V.bl))) ⟨same_new hD, upd_same⟩ (fun i H' _ h => SqT.of (h.1 _ _ hp)) ?_ ?_
    · rintro i z H' hz ⟨hs, hl⟩
      have hzz : ∃ n : Int, z = .int n ∧ [decide (-1000000 ≤ x) && decide (x ≤ 1000000), decide (-1000000 ≤ y) && decide (y ≤ 1000000)][i]? = some (decide (-1000000 ≤ n) && decide (n ≤ 1000000)) ∧ i < 2 := by
        match i, hz with
        | 0, hz => exact ⟨x, (Option.some.inj hz).symm, rfl, by decide⟩
        | 1, hz => exact ⟨y, (Option.some.inj hz).symm, rfl, by decide⟩
      obtain ⟨n, rfl, hn, hi⟩ := hzz
      walk_at "rd"
      refine ⟨rfl, ?_⟩
      walk_at "rd"
      refine iteT ?_
      walk_at "rd"
      refine ⟨_, _, _, _, rfl, .inl ⟨n, rfl, rfl⟩, ?_⟩
      refine ⟨_, hl, len_lt (by rw [List.length_map, List.length_take]; omega), ?_, ?_⟩
      · intro b o hb
        rw [upd_ne (ne_of_none hb hD)]
        exact hs _ _ hb
      · rw [upd_same, List.take_add_one, hn, List.map_append]
        rfl
    · rintro H' ⟨hs, hl⟩
      refine ⟨D, _, rfl, SqL.of hl, ?_⟩
      have e : ([decide (-1000000 ≤ x) && decide (x ≤ 1000000), decide (-1000000 ≤ y) && decide (y ≤ 1000000)].take 2).all id = ((decide (-1000000 ≤ x) && decide (x ≤ 1000000)) && (decide (-1000000 ≤ y) && decide (y ≤ 1000000))) := by
        show ((decide (-1000000 ≤ x) && decide (x ≤ 1000000)) && ((decide (-1000000 ≤ y) && decide (y ≤ 1000000)) && true)) = _
        rw [Bool.and_true]
      have qq := q H' hs
      rw [← e] at qq
      exact qq

end

end NC
namespace NC
section
variable {P : Program} {w : World} {K : PySem.W.Frag} {mg : Str → Option Value} {base : Heap}
theorem ok_InvalidBound_init (T : Tops K mg) : FnOk P w K mg base CX0 1 (He.ma K (He.ga K "InvalidBound") "__init__") T.fd_InvalidBound_init P_InvalidBound_init (NCLam.spInit (He.ga K "InvalidBound") "argument") := by
  refine T.F_InvalidBound_init.ok sc_InvalidBound_init (fun vs H Q E h => ?_) (fun cdv A outer s H vs Q E hr h => ?_)
  · obtain ⟨a, v, rfl, ha, q⟩ := h
    rfl
  · obtain ⟨a, v, rfl, ha, q⟩ := h
    refine ⟨_, PSs.nox ((pss_cons (ps_expr (pe_ceinit T.B_CellError (by rfl) T.g_CellError (pa_cons (pv 0) (pa_cons pe_str pa_nil))))
       (pss_one (ps_osA (pv 0) (pv 1))))), ?_⟩
    rw [st_InvalidBound_init]
    walk_at "rd"
    refine ⟨a, He.ga K "InvalidBound", [V.str "invalid bound"], rfl, by decide, T.X_InvalidBound, ha, ?_⟩
    walk_at "rd"
    exact ⟨a, _, rfl, T.X_InvalidBound, T.n_InvalidBound_argument, ha, fun dx nd ne => q dx nd ne⟩
theorem ok_LimitExceeded_init (T : Tops K mg) : FnOk P w K mg base CX0 1 (He.ma K (He.ga K "LimitExceeded") "__init__") T.fd_LimitExceeded_init P_LimitExceeded_init (NCLam.spInit (He.ga K "LimitExceeded") "limit") := by
  refine T.F_LimitExceeded_init.ok sc_LimitExceeded_init (fun vs H Q E h => ?_) (fun cdv A outer s H vs Q E hr h => ?_)
  · obtain ⟨a, v, rfl, ha, q⟩ := h
    rfl
  · obtain ⟨a, v, rfl, ha, q⟩ := h
    refine ⟨_, PSs.nox ((pss_cons (ps_expr (pe_ceinit T.B_CellError (by rfl) T.g_CellError (pa_cons (pv 0) (pa_cons pe_str pa_nil))))
       (pss_one (ps_osA (pv 0) (pv 1))))), ?_⟩
    rw [st_LimitExceeded_init]
    walk_at "rd"
    refine ⟨a, He.ga K "LimitExceeded", [V.str "limit exceeded"], rfl, by decide, T.X_LimitExceeded, ha, ?_⟩
    walk_at "rd"
    exact ⟨a, _, rfl, T.X_LimitExceeded, T.n_LimitExceeded_limit, ha, fun dx nd ne => q dx nd ne⟩

def spx_check_sides (K : PySem.W.Frag) : Sp := fun vs H Q E => ∃ (lo : Int) (m n : V) (b1 b2 : Bool), vs = [.int lo, m, n] ∧ BetV H lo 1000000 m b1 ∧ (b1 = true → BetV H lo 1000000 n b2) ∧ (b1 = false → RB K "m" H E) ∧ (b1 = true → b2 = false → RB K "n" H E) ∧ (b1 = true → b2 = true → ∀ H', Same H H' → Q .non H')
theorem okx_check_sides (T : Tops K mg) : FnOk P w K mg base (L2.CX P w) 3 (He.ga K "check_sides") T.fd_check_sides P_check_sides (spx_check_sides K) := by
  refine T.F_check_sides.ok sc_check_sides (fun vs H Q E h => ?_) (fun cdv A outer s H vs Q E hr h => ?_)
  · obtain ⟨lo, m, n, b1, b2, rfl, h1, h2, r1, r2, q⟩ := h
    rfl
  · obtain ⟨lo, m, n, b1, b2, rfl, h1, h2, r1, r2, q⟩ := h
    refine ⟨_, (pss_one (ps_for (passes_of rfl) rfl (pi_listK K (pe_lst (pa_cons (pe_tup (pa_cons pe_str (pa_cons (pv 1) pa_nil))) (pa_cons (pe_tup (pa_cons pe_str (pa_cons (pv 2) pa_nil))) pa_nil)))) (pg_tup rfl (pgs_cons (pg_name (i := 3) sc_check_sides.nd rfl (.inl rfl)) (pgs_cons (pg_name (i := 4) sc_check_sides.nd rfl (.inl rfl)) pgs_nil)))
       (pss_one (ps_if (pt_not (pt_val (pe_call (ok_is_between T) (hr.mono (by decide)) (by rfl) T.g_is_between T.F_is_between.kp (b_is_between T) .nil pass0 (pa_cons (pv 4) (pa_cons (pv 0) (pa_cons (pe_glob (v := .int 1000000) rfl T.c_MOST_SIDE ⟨_, rfl⟩) pa_nil))))))
       (pss_one (ps_raise rfl (takes_of rfl rfl rfl rfl) (pmk_oexA T.X_InvalidBound T.i_InvalidBound T.t_InvalidBound (ok_InvalidBound_init T) (hr.mono (by decide)) (b_InvalidBound_init T) pass0 (by rfl) T.g_InvalidBound (pa_cons (pv 3) pa_nil))))
       pss_nil)))), ?_⟩
    rw [st_check_sides]
    walk_at "rd"
    refine ⟨len_le (n := 2) (by decide), fun p1 hp1 => ?_⟩
    walk_at "rd"
    refine ⟨len_le (n := 2) (by decide), fun p2 hp2 => ?_⟩
    refine ⟨len_le (n := 2) (by decide), fun l hl => ?_⟩
    have k1 := same_new (o := .tup [.str "m", m]) hp1
    have k2 := same_new (o := .tup [.str "n", n]) hp2
    have k3 := same_new (o := .lst [.ref p1, .ref p2]) hl
    have e1 := k3 _ _ (k2 _ _ (upd_same (H := H) (a := p1) (o := .tup [.str "m", m])))
    have e2 := k3 _ _ (upd_same (a := p2) (o := .tup [.str "n", n]))
    have e3 : (upd (upd (upd H p1 (.tup [.str "m", m])) p2 (.tup [.str "n", n])) l (.lst [.ref p1, .ref p2])) l = some (.lst [.ref p1, .ref p2]) := upd_same
    have ks := (k1.trans k2).trans k3
    generalize upd (upd (upd H p1 (.tup [.str "m", m])) p2 (.tup [.str "n", n])) l (.lst [.ref p1, .ref p2]) = H1 at e1 e2 e3 ks ⊢
    refine ⟨l, rfl, ⟨_, SqL.of e3⟩, ?_⟩
    refine for_list (K := K) (a := l) (xs := [.ref p1, .ref p2]) (fun i σ H' => (∃ y3 y4, σ = [some (.int lo), some m, some n, y3, y4]) ∧ Same H1 H' ∧ (1 ≤ i → b1 = true) ∧ (2 ≤ i → b2 = true)) ⟨⟨none, none, rfl⟩, .refl _, fun z => by omega, fun z => by omega⟩ (fun i σ H' _ h => SqL.of (h.2.1 _ _ e3)) ?_ ?_
    · rintro i z σ H' hz ⟨⟨y3, y4, rfl⟩, hs, g1, g2⟩
      have hks := ks.trans hs
      match i, hz with
      | 0, hz =>
        cases hz
        have f1 := hs _ _ e1
        walk_at "rd"
        refine ⟨_, _, _, b1, rfl, h1.ext (.of hks), ?_⟩
        walk_at "rd"
        refine ite2 (fun h => ?_) (fun h => ?_)
        · have hb : b1 = false := by simpa using h
          walk_at "rd"
          exact NCLam.raise_ok ((r1 hb).mono hks)
        · have hb : b1 = true := by simpa using h
          walk_at "rd"
          exact ⟨⟨_, _, rfl⟩, hs, fun _ => hb, fun z => by omega⟩
      | 1, hz =>
        cases hz
        have hb1 := g1 (by decide)
        have f2 := hs _ _ e2
        walk_at "rd"
        refine ⟨_, _, _, b2, rfl, (h2 hb1).ext (.of hks), ?_⟩
        walk_at "rd"
        refine ite2 (fun h => ?_) (fun h => ?_)
        · have hb : b2 = false := by simpa using h
          walk_at "rd"
          exact NCLam.raise_ok ((r2 hb1 hb).mono hks)
        · have hb : b2 = true := by simpa using h
          walk_at "rd"
          exact ⟨⟨_, _, rfl⟩, hs, fun _ => hb1, fun _ => hb⟩
    · rintro σ H' ⟨⟨y3, y4, rfl⟩, hs, g1, g2⟩
      exact q (g1 (by show 1 ≤ 2; decide)) (g2 (by show 2 ≤ 2; decide)) H' (ks.trans hs)

def spx_check_span (K : PySem.W.Frag) : Sp := fun vs H Q E => ∃ (w : Str) (v : V) (b : Bool), vs = [.str w, v] ∧ BetV H (0 - 1000000) 1000000 v b ∧ (b = false → RB K w H E) ∧ (b = true → Q .non H)
theorem okx_check_span (T : Tops K mg) : FnOk P w K mg base (L2.CX P w) 3 (He.ga K "check_span") T.fd_check_span P_check_span (spx_check_span K) := by
  refine T.F_check_span.ok sc_check_span (fun vs H Q E h => ?_) (fun cdv A outer s H vs Q E hr h => ?_)
  · obtain ⟨w, v, b, rfl, h1, r1, q⟩ := h
    rfl
  · obtain ⟨w, v, b, rfl, h1, r1, q⟩ := h
    refine ⟨_, (pss_one (ps_if (pt_not (pt_val (pe_call (ok_is_between T) (hr.mono (by decide)) (by rfl) T.g_is_between T.F_is_between.kp (b_is_between T) .nil pass0 (pa_cons (pv 1) (pa_cons (pe_op op_sub pe_int (pe_glob (v := .int 1000000) rfl T.c_MOST_COORDINATE ⟨_, rfl⟩)) (pa_cons (pe_glob (v := .int 1000000) rfl T.c_MOST_COORDINATE ⟨_, rfl⟩) pa_nil))))))
       (pss_one (ps_raise rfl (takes_of rfl rfl rfl rfl) (pmk_oexA T.X_InvalidBound T.i_InvalidBound T.t_InvalidBound (ok_InvalidBound_init T) (hr.mono (by decide)) (b_InvalidBound_init T) pass0 (by rfl) T.g_InvalidBound (pa_cons (pv 0) pa_nil))))
       pss_nil)), ?_⟩
    rw [st_check_span]
    walk_at "rd"
    refine ⟨_, _, _, b, rfl, h1, ?_⟩
    walk_at "rd"
    refine ite2 (fun h => ?_) (fun h => ?_)
    · walk_at "rd"
      exact NCLam.raise_ok (r1 (by simpa using h))
    · exact q (by simpa using h)

def spx_check_height (K : PySem.W.Frag) : Sp := fun vs H Q E => ∃ (lo : Int) (v : V), vs = [.int lo, v] ∧ ((NI H v ∧ RB K "height" H E) ∨ ∃ i : Int, v = .int i ∧ (i < lo → RB K "height" H E) ∧ (lo ≤ i → Q .non H))
theorem okx_check_height (T : Tops K mg) : FnOk P w K mg base (L2.CX P w) 3 (He.ga K "check_height") T.fd_check_height P_check_height (spx_check_height K) := by
  refine T.F_check_height.ok sc_check_height (fun vs H Q E h => ?_) (fun cdv A outer s H vs Q E hr h => ?_)
  · obtain ⟨lo, v, rfl, h⟩ := h
    rfl
  · obtain ⟨lo, v, rfl, h⟩ := h
    refine ⟨_, (pss_one (ps_if (PW.pt (pw_or (pt_not (pt_val (pe_call (ok_is_integer T) (hr.mono (by decide)) (by rfl) T.g_is_integer T.F_is_integer.kp (b_is_integer T) .nil pass0 (pa_cons (pv 1) pa_nil)))) (pw_or1 (pt_cmpR op_lt (pv 1) (pv 0) (nomark _)))))
       (pss_one (ps_raise rfl (takes_of rfl rfl rfl rfl) (pmk_oexA T.X_InvalidBound T.i_InvalidBound T.t_InvalidBound (ok_InvalidBound_init T) (hr.mono (by decide)) (b_InvalidBound_init T) pass0 (by rfl) T.g_InvalidBound (pa_cons pe_str pa_nil))))
       pss_nil)), ?_⟩
    rw [st_check_height]
    rcases h with ⟨hn, r⟩ | ⟨i, rfl, r, q⟩
    · walk_at "rd"
      refine ⟨_, rfl, .inr ⟨hn, ?_⟩⟩
      walk_at "rd"
      refine iteT ?_
      refine iteT ?_
      walk_at "rd"
      exact NCLam.raise_ok r
    · walk_at "rd"
      refine ⟨_, rfl, .inl ⟨i, rfl, ?_⟩⟩
      walk_at "rd"
      refine iteF ?_
      walk_at "rd"
      refine ite2 (fun h => ?_) (fun h => ?_)
      · walk_at "rd"
        exact NCLam.raise_ok (r (of_decide_eq_true h))
      · exact q (by
          have : ¬ (i < lo) := fun z => h (decide_eq_true z)
          omega)

def spx_limit_number (K : PySem.W.Frag) : Sp := fun vs H Q E => ∃ n : Int, vs = [.int n] ∧ (200 < n → RL K 200 H E) ∧ (n ≤ 200 → Q .non H)
theorem okx_limit_number (T : Tops K mg) : FnOk P w K mg base (L2.CX P w) 3 (He.ga K "limit_number") T.fd_limit_number P_limit_number (spx_limit_number K) := by
  refine T.F_limit_number.ok sc_limit_number (fun vs H Q E h => ?_) (fun cdv A outer s H vs Q E hr h => ?_)
  · obtain ⟨n, rfl, r, q⟩ := h
    rfl
  · obtain ⟨n, rfl, r, q⟩ := h
    refine ⟨_, (pss_one (ps_if (pt_cmpR op_gt (pv 0) (pe_glob (v := .int 200) rfl T.c_MOST_SITES ⟨_, rfl⟩) (nomark _))
       (pss_one (ps_raise rfl (takes_of rfl rfl rfl rfl) (pmk_oexA T.X_LimitExceeded T.i_LimitExceeded T.t_LimitExceeded (ok_LimitExceeded_init T) (hr.mono (by decide)) (b_LimitExceeded_init T) pass0 (by rfl) T.g_LimitExceeded (pa_cons (pe_glob (v := .int 200) rfl T.c_MOST_SITES ⟨_, rfl⟩) pa_nil))))
       pss_nil)), ?_⟩
    rw [st_limit_number]
    walk_at "rd"
    refine ite2 (fun h => ?_) (fun h => ?_)
    · walk_at "rd"
      exact NCLam.raise_ok (r (of_decide_eq_true h))
    · exact q (by
        have : ¬ (200 < n) := fun z => h (decide_eq_true z)
        omega)

end

end NC
namespace NC
section
variable {P : Program} {w : World} {K : PySem.W.Frag} {mg : Str → Option Value} {base : Heap}

/-- a list of pairs of ints -/
def PL (H : Hp) (zs : List V) (ps : List (Int × Int)) : Prop := zs.length = ps.length ∧ ∀ (i : Nat) (z : V), zs[i]? = some z → ∃ (q : Addr) (a b : Int), z = V.ref q ∧ H q = some (.tup [.int a, .int b]) ∧ ps[i]? = some (a, b)
theorem PL.mono {H H' : Hp} {zs : List V} {ps : List (Int × Int)} (h : PL H zs ps) (k : TK H H') : PL H' zs ps := ⟨h.1, fun i z hz => by
  obtain ⟨q, a, b, e, e2, e3⟩ := h.2 i z hz
  exact ⟨q, a, b, e, k _ _ e2, e3⟩⟩
theorem PL.nil {H : Hp} : PL H [] [] := ⟨rfl, fun i z h => by simp at h⟩
theorem PL.snoc {H : Hp} {zs : List V} {ps : List (Int × Int)} {q : Addr} {a b : Int} (h : PL H zs ps) (hq : H q = some (.tup [.int a, .int b])) : PL H (zs ++ [.ref q]) (ps ++ [(a, b)]) := by
  refine ⟨by rw [List.length_append, List.length_append, h.1]; rfl, fun i z hz => ?_⟩
  by_cases hi : i < zs.length
  · rw [List.getElem?_append_left hi] at hz
    obtain ⟨q', a', b', e, e2, e3⟩ := h.2 i z hz
    exact ⟨q', a', b', e, e2, by rw [List.getElem?_append_left (by rw [← h.1]; exact hi)]; exact e3⟩
  · rw [List.getElem?_append_right (by omega)] at hz
    have hi2 : i - zs.length = 0 := by
      cases q : i - zs.length with
      | zero => rfl
      | succ n => rw [q] at hz; simp at hz
    rw [hi2] at hz
    cases hz
    refine ⟨q, a, b, rfl, hq, ?_⟩
    rw [List.getElem?_append_right (by rw [← h.1]; omega), ← h.1, hi2]
    rfl
theorem PL.app {H : Hp} {zs ys : List V} {ps qs : List (Int × Int)} (h : PL H zs ps) (g : PL H ys qs) : PL H (zs ++ ys) (ps ++ qs) := by
  refine ⟨by rw [List.length_append, List.length_append, h.1, g.1], fun i z hz => ?_⟩
  by_cases hi : i < zs.length
  · rw [List.getElem?_append_left hi] at hz
    obtain ⟨q', a', b', e, e2, e3⟩ := h.2 i z hz
    exact ⟨q', a', b', e, e2, by rw [List.getElem?_append_left (by rw [← h.1]; exact hi)]; exact e3⟩
  · rw [List.getElem?_append_right (by omega)] at hz
    obtain ⟨q', a', b', e, e2, e3⟩ := g.2 _ z hz
    exact ⟨q', a', b', e, e2, by rw [List.getElem?_append_right (by rw [← h.1]; omega), ← h.1]; exact e3⟩
def inB (q : Int × Int) : Bool := (decide (-1000000 ≤ q.1) && decide (q.1 ≤ 1000000)) && (decide (-1000000 ≤ q.2) && decide (q.2 ≤ 1000000))
theorem inB_iff (q : Int × Int) : inB q = true ↔ (-1000000 ≤ q.1 ∧ q.1 ≤ 1000000) ∧ (-1000000 ≤ q.2 ∧ q.2 ≤ 1000000) := by
  unfold inB
  simp only [Bool.and_eq_true, decide_eq_true_eq]
def spx_limited (K : PySem.W.Frag) : Sp := fun vs H Q E => ∃ (l : Addr) (zs : List V) (ps : List (Int × Int)), vs = [.ref l] ∧ H l = some (.lst zs) ∧ PL H zs ps ∧ zs.length ≤ 1000 ∧ (ps.all inB = false → RL K 1000000 H E) ∧ (ps.all inB = true → ∀ H' r ys, Same H H' → H' r = some (.lst ys) → ys.length = ps.length → Q (.ref r) H')
theorem okx_limited (T : Tops K mg) : FnOk P w K mg base (L2.CX P w) 4 (He.ga K "limited") T.fd_limited P_limited (spx_limited K) := by
  refine T.F_limited.ok sc_limited (fun vs H Q E h => ?_) (fun cdv A outer s H vs Q E hr h => ?_)
  · obtain ⟨l, zs, ps, rfl, hl, hp, hn, r, q⟩ := h
    rfl
  · obtain ⟨l, zs, ps, rfl, hl, hp, hn, r, q⟩ := h
    refine ⟨_, (pss_cons (ps_if (pt_not (pt_val (pe_callB (cr_allK K rfl) (by rfl) T.m_all (by decide +kernel) (pa_cons (pe_lc (own := [("site", 1)]) (g := gName 1) (tt := tYes) rfl sc_limited.nd (pi_listK K (pv 0)) (blkOk_by (own := [("site", 1)]) (N := N_limited) (sc := defScope (top 18)) (by decide +kernel)) (fun _ _ _ _ _ => (pg_name (i := 1) sc_limited.nd rfl (.inl rfl))) (fun _ _ _ _ _ => pts_nil) (fun _ _ _ _ _ => (pe_call (ok_is_site T) (hr.mono (by decide)) (by rfl) T.g_is_site T.F_is_site.kp (b_is_site T) .nil pass0 (pa_cons (pv 1) pa_nil)))) pa_nil))))
       (pss_one (ps_raise rfl (takes_of rfl rfl rfl rfl) (pmk_oexA T.X_LimitExceeded T.i_LimitExceeded T.t_LimitExceeded (ok_LimitExceeded_init T) (hr.mono (by decide)) (b_LimitExceeded_init T) pass0 (by rfl) T.g_LimitExceeded (pa_cons (pe_glob (v := .int 1000000) rfl T.c_MOST_COORDINATE ⟨_, rfl⟩) pa_nil))))
       pss_nil)
       (pss_one (ps_ret (pe_callB cr_sortedP (by rfl) T.m_sorted (by decide +kernel) (pa_cons (pv 0) pa_nil))))), ?_⟩
    rw [st_limited]
    walk_at "rd"
    refine ⟨l, rfl, ⟨_, SqL.of hl⟩, fun D hD => ?_⟩
    refine lc_list (K := K) (a := l) (xs := zs) (fun i H' => Same H H' ∧ H' D = some (.lst (((ps.map inB).take i).map V.bl))) ⟨same_new hD, upd_same⟩ (fun i H' _ h => SqL.of (h.1 _ _ hl)) ?_ ?_
    · rintro i z H' hz ⟨hs, el⟩
      obtain ⟨q', a, b, rfl, e2, e3⟩ := hp.2 i z hz
      have f2 := hs _ _ e2
      walk_at "rd"
      refine ⟨rfl, ?_⟩
      walk_at "rd"
      refine iteT ?_
      walk_at "rd"
      refine ⟨q', a, b, rfl, f2, fun H2 h2 => ?_⟩
      have hi : i < zs.length := (List.getElem?_eq_some_iff.mp hz).1
      refine ⟨_, h2 _ _ el, len_lt (by rw [List.length_map, List.length_take]; omega), ?_, ?_⟩
      · intro b o hb
        rw [upd_ne (ne_of_none hb hD)]
        exact h2 _ _ (hs _ _ hb)
      · rw [upd_same, List.take_add_one, List.getElem?_map, e3, List.map_append]
        rfl
    rintro H2 ⟨h2, el2⟩
    have e4 : ((ps.map inB).take zs.length) = ps.map inB := by
      rw [hp.1]
      exact List.take_of_length_le (by rw [List.length_map]; exact Nat.le_refl _)
    rw [e4] at el2
    refine ⟨D, _, rfl, SqL.of el2, ?_⟩
    walk_at "rd"
    have e5 : (ps.map inB).all id = ps.all inB := by
      rw [List.all_map]
      rfl
    rw [e5]
    refine ite2 (fun h => ?_) (fun h => ?_)
    · walk_at "rd"
      exact NCLam.raise_ok ((r (by simpa using h)).mono h2)
    · walk_at "rd"
      refine ⟨l, zs, rfl, SqL.of (h2 _ _ hl), fun x hx => ?_, fun ys r hy hr => ?_⟩
      · obtain ⟨i, hi⟩ := List.mem_iff_getElem?.mp hx
        obtain ⟨q', a, b, e1, e2, _⟩ := hp.2 i x hi
        exact ⟨q', a, b, e1, h2 _ _ e2⟩
      · exact q (by simpa using h) _ r ys (h2.trans (same_new hr)) upd_same (by rw [hy.length_eq]; exact hp.1)

end

end NC
namespace NC
section
variable {P : Program} {w : World} {K : PySem.W.Frag} {mg : Str → Option Value} {base : Heap}

theorem ok_counted (T : Tops K mg) : FnOk P w K mg base CX0 1 (He.ga K "counted") T.fd_counted P_counted (fun _ _ _ _ => False) := T.F_counted.ok sc_counted (fun vs H Q E h => h.elim) (fun cdv A outer s H vs Q E hr h => h.elim)
def spx_grid_counts (K : PySem.W.Frag) : Sp := fun vs H _ E => ∃ (m n : V) (b1 : Bool), vs = [m, n] ∧ BetV H 1 1000000 m b1 ∧ (b1 = true → BetV H 1 1000000 n false) ∧ (b1 = false → RB K "m" H E) ∧ (b1 = true → RB K "n" H E)
theorem okx_grid_counts (T : Tops K mg) : FnOk P w K mg base (L2.CX P w) 4 (He.ga K "grid_counts") T.fd_grid_counts P_grid_counts (spx_grid_counts K) := by
  refine T.F_grid_counts.ok sc_grid_counts (fun vs H Q E h => ?_) (fun cdv A outer s H vs Q E hr h => ?_)
  · obtain ⟨m, n, b1, rfl, h1, h2, r1, r2⟩ := h
    rfl
  · obtain ⟨m, n, b1, rfl, h1, h2, r1, r2⟩ := h
    refine ⟨_, (pss_cons (ps_expr (pe_call (okx_check_sides T) (hr.mono (by decide)) (by rfl) T.g_check_sides T.F_check_sides.kp (b_check_sides T) .nil (passes_call (takes_of rfl rfl rfl rfl) (fun _ _ _ _ h => h)) (pa_cons pe_int (pa_cons (pv 0) (pa_cons (pv 1) pa_nil)))))
       (pss_cons (ps_set (i := 2) sc_grid_counts.nd rfl (.inl rfl) (pe_op op_mul (pe_op op_sub (pv 0) pe_int) (pe_op op_sub (pv 1) pe_int)))
       (pss_one (ps_ret (pe_call (ok_counted T) (hr.mono (by decide)) (by rfl) T.g_counted T.F_counted.kp (b_counted T) .nil pass0 (pa_cons (pe_op op_mul (pv 0) (pv 1)) (pa_cons (pv 2) (pa_cons (pe_op op_mul pe_int (pv 2)) pa_nil)))))))), ?_⟩
    rw [st_grid_counts]
    walk_at "rd"
    exact ⟨1, m, n, b1, false, rfl, h1, h2, r1, fun hb _ => r2 hb, fun _ z => by cases z⟩

def spx_zigzag_counts (K : PySem.W.Frag) : Sp := fun vs H _ E => ∃ (m n : V) (b1 : Bool), vs = [m, n] ∧ BetV H 2 1000000 m b1 ∧ (b1 = true → BetV H 2 1000000 n false) ∧ (b1 = false → RB K "m" H E) ∧ (b1 = true → RB K "n" H E)
theorem okx_zigzag_counts (T : Tops K mg) : FnOk P w K mg base (L2.CX P w) 4 (He.ga K "zigzag_counts") T.fd_zigzag_counts P_zigzag_counts (spx_zigzag_counts K) := by
  refine T.F_zigzag_counts.ok sc_zigzag_counts (fun vs H Q E h => ?_) (fun cdv A outer s H vs Q E hr h => ?_)
  · obtain ⟨m, n, b1, rfl, h1, h2, r1, r2⟩ := h
    rfl
  · obtain ⟨m, n, b1, rfl, h1, h2, r1, r2⟩ := h
    refine ⟨_, (pss_cons (ps_expr (pe_call (okx_check_sides T) (hr.mono (by decide)) (by rfl) T.g_check_sides T.F_check_sides.kp (b_check_sides T) .nil (passes_call (takes_of rfl rfl rfl rfl) (fun _ _ _ _ h => h)) (pa_cons pe_int (pa_cons (pv 0) (pa_cons (pv 1) pa_nil)))))
       (pss_cons (ps_set (i := 2) sc_zigzag_counts.nd rfl (.inl rfl) (pe_op op_sub (pe_op op_sub (pe_op op_mul (pe_op op_mul pe_int (pv 0)) (pv 1)) (pe_op op_mul pe_int (pv 0))) (pv 1)))
       (pss_one (ps_ret (pe_call (ok_counted T) (hr.mono (by decide)) (by rfl) T.g_counted T.F_counted.kp (b_counted T) .nil pass0 (pa_cons (pe_op op_mul (pv 0) (pv 1)) (pa_cons (pv 2) (pa_cons (pv 2) pa_nil)))))))), ?_⟩
    rw [st_zigzag_counts]
    walk_at "rd"
    exact ⟨2, m, n, b1, false, rfl, h1, h2, r1, fun hb _ => r2 hb, fun _ z => by cases z⟩

def spx_two_rows_counts (K : PySem.W.Frag) : Sp := fun vs H _ E => ∃ (m n s : V) (b1 b2 : Bool), vs = [m, n, s] ∧ BetV H 1 1000000 m b1 ∧ (b1 = true → BetV H 1 1000000 n b2) ∧ (b1 = false → RB K "m" H E) ∧ (b1 = true → b2 = false → RB K "n" H E) ∧ (b1 = true → b2 = true → BetV H (0 - 1000000) 1000000 s false ∧ RB K "shift" H E)
theorem okx_two_rows_counts (T : Tops K mg) : FnOk P w K mg base (L2.CX P w) 4 (He.ga K "two_rows_counts") T.fd_two_rows_counts P_two_rows_counts (spx_two_rows_counts K) := by
  refine T.F_two_rows_counts.ok sc_two_rows_counts (fun vs H Q E h => ?_) (fun cdv A outer s H vs Q E hr h => ?_)
  · obtain ⟨m, n, s, b1, b2, rfl, h1, h2, r1, r2, r3⟩ := h
    rfl
  · obtain ⟨m, n, s, b1, b2, rfl, h1, h2, r1, r2, r3⟩ := h
    refine ⟨_, (pss_cons (ps_expr (pe_call (okx_check_sides T) (hr.mono (by decide)) (by rfl) T.g_check_sides T.F_check_sides.kp (b_check_sides T) .nil (passes_call (takes_of rfl rfl rfl rfl) (fun _ _ _ _ h => h)) (pa_cons pe_int (pa_cons (pv 0) (pa_cons (pv 1) pa_nil)))))
       (pss_cons (ps_expr (pe_call (okx_check_span T) (hr.mono (by decide)) (by rfl) T.g_check_span T.F_check_span.kp (b_check_span T) .nil (passes_call (takes_of rfl rfl rfl rfl) (fun _ _ _ _ h => h)) (pa_cons pe_str (pa_cons (pv 2) pa_nil))))
       (pss_cons (ps_set (i := 3) sc_two_rows_counts.nd rfl (.inl rfl) (pe_op op_sub (pe_callB (call_min2N rfl) (by rfl) T.m_min (by decide +kernel) (pa_cons (pv 0) (pa_cons (pe_op op_add (pv 2) (pv 1)) pa_nil))) (pe_callB (call_max2N rfl) (by rfl) T.m_max (by decide +kernel) (pa_cons pe_int (pa_cons (pv 2) pa_nil)))))
       (pss_cons (ps_set (i := 4) sc_two_rows_counts.nd rfl (.inl rfl) (pe_op op_sub (pe_op op_add (pv 0) (pv 1)) pe_int))
       (pss_one (ps_ret (pe_call (ok_counted T) (hr.mono (by decide)) (by rfl) T.g_counted T.F_counted.kp (b_counted T) .nil pass0 (pa_cons (pe_op op_add (pv 0) (pv 1)) (pa_cons (pe_op op_sub (pv 4) (pe_callB (call_max2N rfl) (by rfl) T.m_max (by decide +kernel) (pa_cons pe_int (pa_cons (pe_op op_sub (pv 3) pe_int) pa_nil)))) (pa_cons (pv 4) pa_nil)))))))))), ?_⟩
    rw [st_two_rows_counts]
    walk_at "rd"
    refine ⟨1, m, n, b1, b2, rfl, h1, h2, r1, r2, fun hb1 hb2 H1 k1 => ?_⟩
    obtain ⟨h3, r⟩ := r3 hb1 hb2
    walk_at "rd"
    exact ⟨_, _, false, rfl, h3.ext (.of k1), fun _ => r.mono k1, fun z => by cases z⟩

def spx_check_ends (K : PySem.W.Frag) : Sp := fun vs H Q E => ∃ (lo hi : V) (b1 b2 : Bool), vs = [lo, hi] ∧ BetV H (0 - 1000000) 1000000 lo b1 ∧ (b1 = true → BetV H (0 - 1000000) 1000000 hi b2) ∧ (b1 = false → RB K "low" H E) ∧ (b1 = true → b2 = false → RB K "high" H E) ∧
  (b1 = true → b2 = true → ∀ l h : Int, lo = .int l → hi = .int h → (h < l → RB K "high" H E) ∧ (l ≤ h → Q .non H))
theorem okx_check_ends (T : Tops K mg) : FnOk P w K mg base (L2.CX P w) 4 (He.ga K "check_ends") T.fd_check_ends P_check_ends (spx_check_ends K) := by
  refine T.F_check_ends.ok sc_check_ends (fun vs H Q E h => ?_) (fun cdv A outer s H vs Q E hr h => ?_)
  · obtain ⟨lo, hi, b1, b2, rfl, h1, h2, r1, r2, r3⟩ := h
    rfl
  · obtain ⟨lo, hi, b1, b2, rfl, h1, h2, r1, r2, r3⟩ := h
    refine ⟨_, (pss_cons (ps_expr (pe_call (okx_check_span T) (hr.mono (by decide)) (by rfl) T.g_check_span T.F_check_span.kp (b_check_span T) .nil (passes_call (takes_of rfl rfl rfl rfl) (fun _ _ _ _ h => h)) (pa_cons pe_str (pa_cons (pv 0) pa_nil))))
       (pss_cons (ps_expr (pe_call (okx_check_span T) (hr.mono (by decide)) (by rfl) T.g_check_span T.F_check_span.kp (b_check_span T) .nil (passes_call (takes_of rfl rfl rfl rfl) (fun _ _ _ _ h => h)) (pa_cons pe_str (pa_cons (pv 1) pa_nil))))
       (pss_one (ps_if (pt_cmpR op_gt (pv 0) (pv 1) (nomark _))
       (pss_one (ps_raise rfl (takes_of rfl rfl rfl rfl) (pmk_oexA T.X_InvalidBound T.i_InvalidBound T.t_InvalidBound (ok_InvalidBound_init T) (hr.mono (by decide)) (b_InvalidBound_init T) pass0 (by rfl) T.g_InvalidBound (pa_cons pe_str pa_nil))))
       pss_nil)))), ?_⟩
    rw [st_check_ends]
    walk_at "rd"
    refine ⟨_, _, b1, rfl, h1, r1, fun hb1 => ?_⟩
    walk_at "rd"
    refine ⟨_, _, b2, rfl, h2 hb1, r2 hb1, fun hb2 => ?_⟩
    obtain ⟨l, rfl, l1, l2⟩ := (hb1 ▸ h1).good
    obtain ⟨h, rfl, l3, l4⟩ := (hb2 ▸ h2 hb1).good
    obtain ⟨r, q⟩ := r3 hb1 hb2 l h rfl rfl
    walk_at "rd"
    refine ite2 (fun z => ?_) (fun z => ?_)
    · walk_at "rd"
      exact NCLam.raise_ok (r (of_decide_eq_true z))
    · exact q (by
        have : ¬ (h < l) := fun y => z (decide_eq_true y)
        omega)

def spx_parabola_counts (K : PySem.W.Frag) : Sp := fun vs H _ E => ∃ (lo hi : V) (b1 b2 : Bool), vs = [lo, hi] ∧ BetV H (0 - 1000000) 1000000 lo b1 ∧ (b1 = true → BetV H (0 - 1000000) 1000000 hi b2) ∧ (b1 = false → RB K "low" H E) ∧ (b1 = true → RB K "high" H E) ∧ (b1 = true → b2 = true → ∀ l h : Int, lo = .int l → hi = .int h → h < l)
theorem okx_parabola_counts (T : Tops K mg) : FnOk P w K mg base (L2.CX P w) 5 (He.ga K "parabola_counts") T.fd_parabola_counts P_parabola_counts (spx_parabola_counts K) := by
  refine T.F_parabola_counts.ok sc_parabola_counts (fun vs H Q E h => ?_) (fun cdv A outer s H vs Q E hr h => ?_)
  · obtain ⟨lo, hi, b1, b2, rfl, h1, h2, r1, r2, r3⟩ := h
    rfl
  · obtain ⟨lo, hi, b1, b2, rfl, h1, h2, r1, r2, r3⟩ := h
    refine ⟨_, (pss_cons (ps_expr (pe_call (okx_check_ends T) (hr.mono (by decide)) (by rfl) T.g_check_ends T.F_check_ends.kp (b_check_ends T) .nil (passes_call (takes_of rfl rfl rfl rfl) (fun _ _ _ _ h => h)) (pa_cons (pv 0) (pa_cons (pv 1) pa_nil))))
       (pss_cons (ps_set (i := 2) sc_parabola_counts.nd rfl (.inl rfl) (pe_op op_add (pe_op op_sub (pv 1) (pv 0)) pe_int))
       (pss_cons (ps_set (i := 3) sc_parabola_counts.nd rfl (.inl rfl) (pe_callB (call_max2N rfl) (by rfl) T.m_max (by decide +kernel) (pa_cons pe_int (pa_cons (pe_op op_sub (pv 2) pe_int) pa_nil))))
       (pss_one (ps_ret (pe_call (ok_counted T) (hr.mono (by decide)) (by rfl) T.g_counted T.F_counted.kp (b_counted T) .nil pass0 (pa_cons (pv 2) (pa_cons (pe_ifExp (pt_chain op_lt op_lt (pv 0) pe_int (pv 1)) (pe_callB (call_max2N rfl) (by rfl) T.m_max (by decide +kernel) (pa_cons (pe_op op_sub pe_int (pv 0)) (pa_cons (pv 1) pa_nil))) (pv 3)) (pa_cons (pv 3) pa_nil))))))))), ?_⟩
    rw [st_parabola_counts]
    walk_at "rd"
    refine ⟨lo, hi, b1, b2, rfl, h1, h2, r1, fun hb _ => r2 hb, fun hb1 hb2 l h e1 e2 => ⟨fun _ => r2 hb1, fun z => ?_⟩⟩
    have := r3 hb1 hb2 l h e1 e2
    omega

end

end NC
namespace NC
section
variable {P : Program} {w : World} {K : PySem.W.Frag} {mg : Str → Option Value} {base : Heap}

theorem sq_le {x : Int} (h1 : -1000 ≤ x) (h2 : x ≤ 1000) : x * x ≤ 1000000 := by
  have h : (1000 - x) * (1000 + x) ≥ 0 := Int.mul_nonneg (by omega) (by omega)
  have e : (1000 - x) * (1000 + x) = 1000000 - x * x := by grind
  omega
theorem sq_gt {x : Int} (h1 : 1000 < x) : 1000000 < x * x := by
  have h : (x - 1000) * (x + 1000) > 0 := Int.mul_pos (by omega) (by omega)
  have e : (x - 1000) * (x + 1000) = x * x - 1000000 := by grind
  omega
theorem sq_nn' (x : Int) : 0 ≤ x * x := by
  rcases (show 0 ≤ x ∨ x ≤ 0 by omega) with h | h
  · exact Int.mul_nonneg h h
  · exact Int.mul_nonneg_of_nonpos_of_nonpos h h
theorem all_snoc (ps : List (Int × Int)) (q : Int × Int) : (ps ++ [q]).all inB = (ps.all inB && inB q) := by
  rw [List.all_append]
  simp
def spx_parabola (K : PySem.W.Frag) : Sp := fun vs H Q E => ∃ (lo hi : V) (b1 b2 : Bool), vs = [lo, hi] ∧ BetV H (0 - 1000000) 1000000 lo b1 ∧ (b1 = true → BetV H (0 - 1000000) 1000000 hi b2) ∧ (b1 = false → RB K "low" H E) ∧ (b1 = true → b2 = false → RB K "high" H E) ∧
  (b1 = true → b2 = true → ∀ l h : Int, lo = .int l → hi = .int h → (h < l → RB K "high" H E) ∧ (l ≤ h → (200 < h - l + 1 → RL K 200 H E) ∧ (h - l + 1 ≤ 200 → (-1000 ≤ l → h ≤ 1000 → ∀ H' r ys, Same H H' → H' r = some (.lst ys) → ys.length = (h - l + 1).toNat → Q (.ref r) H') ∧ (1000 < h → RL K 1000000 H E) ∧ (1000 < h ∨ (-1000 ≤ l ∧ h ≤ 1000)))))
theorem okx_parabola (T : Tops K mg) : FnOk P w K mg base (L2.CX P w) 5 (He.ga K "parabola") T.fd_parabola P_parabola (spx_parabola K) := by
  refine T.F_parabola.ok sc_parabola (fun vs H Q E h => ?_) (fun cdv A outer s H vs Q E hr h => ?_)
  · obtain ⟨lo, hi, b1, b2, rfl, h1, h2, r1, r2, r3⟩ := h
    rfl
  · obtain ⟨lo, hi, b1, b2, rfl, h1, h2, r1, r2, r3⟩ := h
    refine ⟨_, (pss_cons (ps_expr (pe_call (okx_check_ends T) (hr.mono (by decide)) (by rfl) T.g_check_ends T.F_check_ends.kp (b_check_ends T) .nil (passes_call (takes_of rfl rfl rfl rfl) (fun _ _ _ _ h => h)) (pa_cons (pv 0) (pa_cons (pv 1) pa_nil))))
       (pss_cons (ps_expr (pe_call (okx_limit_number T) (hr.mono (by decide)) (by rfl) T.g_limit_number T.F_limit_number.kp (b_limit_number T) .nil (passes_call (takes_of rfl rfl rfl rfl) (fun _ _ _ _ h => h)) (pa_cons (pe_op op_add (pe_op op_sub (pv 1) (pv 0)) pe_int) pa_nil)))
       (pss_one (ps_ret (pe_call (okx_limited T) (hr.mono (by decide)) (by rfl) T.g_limited T.F_limited.kp (b_limited T) .nil (passes_call (takes_of rfl rfl rfl rfl) (fun _ _ _ _ h => h)) (pa_cons (pe_lc (own := [("x", 2)]) (g := gName 2) (tt := tYes) rfl sc_parabola.nd (pi_range2 (by rfl) T.m_range (pa_cons (pv 0) (pa_cons (pe_op op_add (pv 1) pe_int) pa_nil))) (blkOk_by (own := [("x", 2)]) (N := N_parabola) (sc := defScope (top 24)) (by decide +kernel)) (fun _ _ _ _ _ => (pg_name (i := 2) sc_parabola.nd rfl (.inl rfl))) (fun _ _ _ _ _ => pts_nil) (fun _ _ _ _ _ => (pe_tup (pa_cons (pv 2) (pa_cons (pe_op op_mul (pv 2) (pv 2)) pa_nil))))) pa_nil)))))), ?_⟩
    rw [st_parabola]
    walk_at "rd"
    refine ⟨lo, hi, b1, b2, rfl, h1, h2, r1, r2, fun hb1 hb2 l h e1 e2 => ⟨(r3 hb1 hb2 l h e1 e2).1, fun hlh => ?_⟩⟩
    obtain ⟨l', el, l1, l2⟩ := (hb1 ▸ h1).good
    obtain ⟨h', eh, l3, l4⟩ := (hb2 ▸ h2 hb1).good
    obtain ⟨r4, r5⟩ := (r3 hb1 hb2 l h e1 e2).2 hlh
    subst e1 e2
    cases el
    cases eh
    walk_at "rd"
    refine ⟨_, rfl, r4, fun hn => ?_⟩
    obtain ⟨q1, q2, q3⟩ := r5 hn
    walk_at "nm"
    walk_at "rd"
    refine ⟨_, _, rfl, ⟨by omega, by omega, by omega, by omega⟩, fun D hD => ?_⟩
    refine lc_range (lo := l) (n := (h + 1 - l).toNat) (fun i H' => Same H H' ∧ ∃ zs ps, H' D = some (.lst zs) ∧ PL H' zs ps ∧ zs.length = i ∧ (-1000 ≤ l → h ≤ 1000 → ps.all inB = true) ∧ (1000 < h → i = (h + 1 - l).toNat → ps.all inB = false)) ⟨same_new hD, [], [], upd_same, .nil, rfl, fun _ _ => rfl, fun _ z => by omega⟩ ?_ ?_
    · rintro i H' hi ⟨hs, zs, ps, el, hp, hz, g1, g2⟩
      walk_at "rd"
      refine ⟨rfl, ?_⟩
      walk_at "rd"
      refine iteT ?_
      walk_at "rd"
      refine ⟨len_le (n := 2) (by decide), fun t ht => ?_⟩
      have kt := same_new (o := .tup [.int (l + i), .int ((l + i) * (l + i))]) ht
      have et : (upd H' t (.tup [.int (l + i), .int ((l + i) * (l + i))])) t = some (.tup [.int (l + i), .int ((l + i) * (l + i))]) := upd_same
      have el2 := kt _ _ el
      refine ⟨zs, el2, len_lt (by omega), ?_, zs ++ [.ref t], ps ++ [(l + i, (l + i) * (l + i))], upd_same, ?_, ?_, fun a1 a2 => ?_, fun a1 a2 => ?_⟩
      · intro b o hb
        rw [upd_ne (ne_of_none hb hD)]
        exact kt _ _ (hs _ _ hb)
      · exact (((hp.mono (.same kt)).snoc et)).mono (.lst el2)
      · rw [List.length_append, hz]
        rfl
      · rw [all_snoc, g1 a1 a2, Bool.true_and, inB_iff]
        have b1 := sq_le (x := l + i) (by omega) (by omega)
        have b2 := sq_nn' (l + i)
        exact ⟨⟨by show -1000000 ≤ l + (i : Int); omega, by show l + (i : Int) ≤ 1000000; omega⟩, ⟨by show -1000000 ≤ (l + (i : Int)) * (l + (i : Int)); omega, by show (l + (i : Int)) * (l + (i : Int)) ≤ 1000000; omega⟩⟩
      · rw [all_snoc]
        have e : l + (i : Int) = h := by omega
        have b1 := sq_gt (x := l + i) (by omega)
        have b2 : inB (l + i, (l + i) * (l + i)) = false := by
          cases z : inB (l + i, (l + i) * (l + i)) with
          | false => rfl
          | true =>
            have z2 : (l + (i : Int)) * (l + (i : Int)) ≤ 1000000 := ((inB_iff _).mp z).2.2
            omega
        rw [b2, Bool.and_false]
    rintro H2 ⟨hs2, zs, ps, el, hp, hz, g1, g2⟩
    refine ⟨D, zs, ps, rfl, el, hp, by omega, fun z => ?_, fun z H' r ys k e ey => ?_⟩
    · rcases q3 with c | c
      · exact (q2 c).mono hs2
      · rw [g1 c.1 c.2] at z
        cases z
    · rcases q3 with c | c
      · rw [g2 c rfl] at z
        cases z
      · exact q1 c.1 c.2 H' r ys (hs2.trans k) e (by rw [ey, ← hp.1, hz]; omega)

end

end NC
namespace NC
section
variable {P : Program} {w : World} {K : PySem.W.Frag} {mg : Str → Option Value} {base : Heap}

def spx_two_rows (K : PySem.W.Frag) : Sp := fun vs H Q E => ∃ (m n s h : V) (b1 b2 b3 : Bool), vs = [m, n, s, h] ∧ BetV H 1 1000000 m b1 ∧ (b1 = true → BetV H 1 1000000 n b2) ∧ (b1 = true → b2 = true → BetV H (0 - 1000000) 1000000 s b3) ∧ (b1 = false → RB K "m" H E) ∧ (b1 = true → b2 = false → RB K "n" H E) ∧ (b1 = true → b2 = true → b3 = false → RB K "shift" H E) ∧
  (b1 = true → b2 = true → b3 = true → (NI H h ∧ RB K "height" H E) ∨ ∃ hi : Int, h = .int hi ∧ (hi < 1 → RB K "height" H E) ∧ (1 ≤ hi → ∀ mi ni si : Int, m = .int mi → n = .int ni → s = .int si → (200 < mi + ni → RL K 200 H E) ∧ (mi + ni ≤ 200 → (hi ≤ 1000000 → si + ni - 1 ≤ 1000000 → ∀ H' r ys, Same H H' → H' r = some (.lst ys) → Q (.ref r) H') ∧ (1000000 < hi ∨ 1000000 < si + ni - 1 → RL K 1000000 H E))))
theorem okx_two_rows (T : Tops K mg) : FnOk P w K mg base (L2.CX P w) 5 (He.ga K "two_rows") T.fd_two_rows P_two_rows (spx_two_rows K) := by
  refine T.F_two_rows.ok sc_two_rows (fun vs H Q E h => ?_) (fun cdv A outer s H vs Q E hr h => ?_)
  · obtain ⟨m, n, s, h, b1, b2, b3, rfl, h1, h2, h3, r1, r2, r3, r4⟩ := h
    rfl
  · obtain ⟨m, n, s, h, b1, b2, b3, rfl, h1, h2, h3, r1, r2, r3, r4⟩ := h
    refine ⟨_, (pss_cons (ps_expr (pe_call (okx_check_sides T) (hr.mono (by decide)) (by rfl) T.g_check_sides T.F_check_sides.kp (b_check_sides T) .nil (passes_call (takes_of rfl rfl rfl rfl) (fun _ _ _ _ h => h)) (pa_cons pe_int (pa_cons (pv 0) (pa_cons (pv 1) pa_nil)))))
       (pss_cons (ps_expr (pe_call (okx_check_span T) (hr.mono (by decide)) (by rfl) T.g_check_span T.F_check_span.kp (b_check_span T) .nil (passes_call (takes_of rfl rfl rfl rfl) (fun _ _ _ _ h => h)) (pa_cons pe_str (pa_cons (pv 2) pa_nil))))
       (pss_cons (ps_expr (pe_call (okx_check_height T) (hr.mono (by decide)) (by rfl) T.g_check_height T.F_check_height.kp (b_check_height T) .nil (passes_call (takes_of rfl rfl rfl rfl) (fun _ _ _ _ h => h)) (pa_cons pe_int (pa_cons (pv 3) pa_nil))))
       (pss_cons (ps_expr (pe_call (okx_limit_number T) (hr.mono (by decide)) (by rfl) T.g_limit_number T.F_limit_number.kp (b_limit_number T) .nil (passes_call (takes_of rfl rfl rfl rfl) (fun _ _ _ _ h => h)) (pa_cons (pe_op op_add (pv 0) (pv 1)) pa_nil)))
       (pss_one (ps_ret (pe_call (okx_limited T) (hr.mono (by decide)) (by rfl) T.g_limited T.F_limited.kp (b_limited T) .nil (passes_call (takes_of rfl rfl rfl rfl) (fun _ _ _ _ h => h)) (pa_cons (pe_op op_cat (pe_lc (own := [("x", 4)]) (g := gName 4) (tt := tYes) rfl sc_two_rows.nd (pi_range1 (by rfl) T.m_range (pa_cons (pv 0) pa_nil)) (blkOk_by (own := [("x", 4)]) (N := N_two_rows) (sc := defScope (top 21)) (by decide +kernel)) (fun _ _ _ _ _ => (pg_name (i := 4) sc_two_rows.nd rfl (.inl rfl))) (fun _ _ _ _ _ => pts_nil) (fun _ _ _ _ _ => (pe_tup (pa_cons (pv 4) (pa_cons pe_int pa_nil))))) (pe_lc (own := [("x", 4)]) (g := gName 4) (tt := tYes) rfl sc_two_rows.nd (pi_range1 (by rfl) T.m_range (pa_cons (pv 1) pa_nil)) (blkOk_by (own := [("x", 4)]) (N := N_two_rows) (sc := defScope (top 21)) (by decide +kernel)) (fun _ _ _ _ _ => (pg_name (i := 4) sc_two_rows.nd rfl (.inl rfl))) (fun _ _ _ _ _ => pts_nil) (fun _ _ _ _ _ => (pe_tup (pa_cons (pe_op op_add (pv 2) (pv 4)) (pa_cons (pv 3) pa_nil)))))) pa_nil)))))))), ?_⟩
    rw [st_two_rows]
    walk_at "rd"
    refine ⟨1, m, n, b1, b2, rfl, h1, h2, r1, r2, fun hb1 hb2 H1 k1 => ?_⟩
    walk_at "rd"
    refine ⟨_, _, b3, rfl, (h3 hb1 hb2).ext (.of k1), fun z => (r3 hb1 hb2 z).mono k1, fun hb3 => ?_⟩
    walk_at "rd"
    refine ⟨1, h, rfl, ?_⟩
    rcases r4 hb1 hb2 hb3 with ⟨hn, r⟩ | ⟨hi, rfl, r, q0⟩
    · exact .inl ⟨hn.ext (.of k1), r.mono k1⟩
    refine .inr ⟨hi, rfl, fun z => (r z).mono k1, fun hh => ?_⟩
    obtain ⟨mi, rfl, m1, m2⟩ := (hb1 ▸ h1).good
    obtain ⟨ni, rfl, n1, n2⟩ := (hb2 ▸ h2 hb1).good
    obtain ⟨si, rfl, s1, s2⟩ := (hb3 ▸ h3 hb1 hb2).good
    obtain ⟨r5, r6⟩ := q0 hh mi ni si rfl rfl rfl
    walk_at "rd"
    refine ⟨_, rfl, fun z => (r5 z).mono k1, fun hn => ?_⟩
    obtain ⟨q1, q2⟩ := r6 hn
    walk_at "nm"
    walk_at "rd"
    refine ⟨_, rfl, by omega, by omega, fun D hD => ?_⟩
    refine lc_range (lo := 0) (n := mi.toNat) (fun i H' => Same H1 H' ∧ ∃ zs ps, H' D = some (.lst zs) ∧ PL H' zs ps ∧ zs.length = i ∧ ps.all inB = true) ⟨same_new hD, [], [], upd_same, .nil, rfl, rfl⟩ ?_ ?_
    · rintro i H' hi' ⟨hs, zs, ps, el, hp, hz, g1⟩
      walk_at "rd"
      refine ⟨rfl, ?_⟩
      walk_at "rd"
      refine iteT ?_
      walk_at "rd"
      refine ⟨len_le (n := 2) (by decide), fun t ht => ?_⟩
      have kt := same_new (o := .tup [.int (0 + i), .int 0]) ht
      have et : (upd H' t (.tup [.int (0 + i), .int 0])) t = some (.tup [.int (0 + i), .int 0]) := upd_same
      have el2 := kt _ _ el
      refine ⟨zs, el2, len_lt (by omega), ?_, zs ++ [.ref t], ps ++ [(0 + (i : Int), 0)], upd_same, (((hp.mono (.same kt)).snoc et)).mono (.lst el2), by rw [List.length_append, hz]; rfl, ?_⟩
      · intro b o hb
        rw [upd_ne (ne_of_none hb hD)]
        exact kt _ _ (hs _ _ hb)
      · rw [all_snoc, g1, Bool.true_and, inB_iff]
        exact ⟨⟨by show -1000000 ≤ 0 + (i : Int); omega, by show 0 + (i : Int) ≤ 1000000; omega⟩, by show (-1000000 : Int) ≤ 0 ∧ (0 : Int) ≤ 1000000; decide⟩
    rintro H2 ⟨hs2, zs, ps, el, hp, hz, g1⟩
    walk_at "rd"
    refine ⟨_, rfl, by omega, by omega, fun D2 hD2 => ?_⟩
    refine lc_range (lo := 0) (n := ni.toNat) (fun i H' => Same H2 H' ∧ ∃ zs ps, H' D2 = some (.lst zs) ∧ PL H' zs ps ∧ zs.length = i ∧ (hi ≤ 1000000 → si + ni - 1 ≤ 1000000 → ps.all inB = true) ∧ (1000000 < hi ∨ 1000000 < si + ni - 1 → i = ni.toNat → ps.all inB = false)) ⟨same_new hD2, [], [], upd_same, .nil, rfl, fun _ _ => rfl, fun _ z => by omega⟩ ?_ ?_
    · rintro i H' hi' ⟨hs, zs', ps', el', hp', hz', g1', g2'⟩
      walk_at "rd"
      refine ⟨rfl, ?_⟩
      walk_at "rd"
      refine iteT ?_
      walk_at "rd"
      refine ⟨len_le (n := 2) (by decide), fun t ht => ?_⟩
      have kt := same_new (o := .tup [.int (si + (0 + i)), .int hi]) ht
      have et : (upd H' t (.tup [.int (si + (0 + i)), .int hi])) t = some (.tup [.int (si + (0 + i)), .int hi]) := upd_same
      have el2 := kt _ _ el'
      refine ⟨zs', el2, len_lt (by omega), ?_, zs' ++ [.ref t], ps' ++ [(si + (0 + (i : Int)), hi)], upd_same, (((hp'.mono (.same kt)).snoc et)).mono (.lst el2), by rw [List.length_append, hz']; rfl, fun a1 a2 => ?_, fun a1 a2 => ?_⟩
      · intro b o hb
        rw [upd_ne (ne_of_none hb hD2)]
        exact kt _ _ (hs _ _ hb)
      · rw [all_snoc, g1' a1 a2, Bool.true_and, inB_iff]
        exact ⟨⟨by show -1000000 ≤ si + (0 + (i : Int)); omega, by show si + (0 + (i : Int)) ≤ 1000000; omega⟩, ⟨by show -1000000 ≤ hi; omega, by show hi ≤ 1000000; omega⟩⟩
      · rw [all_snoc]
        have b2 : inB (si + (0 + (i : Int)), hi) = false := by
          cases z : inB (si + (0 + (i : Int)), hi) with
          | false => rfl
          | true =>
            obtain ⟨⟨_, z1⟩, _, z2⟩ := (inB_iff _).mp z
            have z1 : si + (0 + (i : Int)) ≤ 1000000 := z1
            have z2 : hi ≤ 1000000 := z2
            omega
        rw [b2, Bool.and_false]
    rintro H3 ⟨hs3, zs', ps', el', hp', hz', g1', g2'⟩
    have k3 := (k1.trans hs2).trans hs3
    refine ⟨D, D2, zs, zs', rfl, rfl, hs3 _ _ el, el', len_le (by omega), fun D3 hD3 => ?_⟩
    have k4 := same_new (o := .lst (zs ++ zs')) hD3
    refine ⟨D3, _, ps ++ ps', rfl, upd_same, ((hp.mono (.same hs3)).app hp').mono (.same k4), by rw [List.length_append]; omega, fun z => ?_, fun z H' r ys k e ey => ?_⟩
    · rw [List.all_append, g1, Bool.true_and] at z
      by_cases c : hi ≤ 1000000 ∧ si + ni - 1 ≤ 1000000
      · rw [g1' c.1 c.2] at z
        cases z
      · exact (q2 (by omega)).mono (k3.trans k4)
    · rw [List.all_append, g1, Bool.true_and] at z
      by_cases c : hi ≤ 1000000 ∧ si + ni - 1 ≤ 1000000
      · exact q1 c.1 c.2 H' r ys ((k3.trans k4).trans k) e
      · rw [g2' (by omega) rfl] at z
        cases z

end

end NC
namespace NC
section
variable {P : Program} {w : World} {K : PySem.W.Frag} {mg : Str → Option Value} {base : Heap}

theorem rows_lt {M N i j : Nat} (hi : i < M) (hj : j < N) (h : M * N ≤ 200) : i * N + j < 200 := by
  have h1 : (i + 1) * N ≤ M * N := Nat.mul_le_mul_right N hi
  have h2 : (i + 1) * N = i * N + N := Nat.succ_mul i N
  omega
theorem toNat_mul {a b : Int} (ha : 0 ≤ a) (hb : 0 ≤ b) : a.toNat * b.toNat = (a * b).toNat := by
  have e : ((a.toNat * b.toNat : Nat) : Int) = a * b := by
    rw [Int.natCast_mul, Int.toNat_of_nonneg ha, Int.toNat_of_nonneg hb]
  omega
def spx_grid (K : PySem.W.Frag) : Sp := fun vs H Q E => ∃ (m n : V) (b1 b2 : Bool), vs = [m, n] ∧ BetV H 1 1000000 m b1 ∧ (b1 = true → BetV H 1 1000000 n b2) ∧ (b1 = false → RB K "m" H E) ∧ (b1 = true → b2 = false → RB K "n" H E) ∧
  (b1 = true → b2 = true → ∀ mi ni : Int, m = .int mi → n = .int ni → (200 < mi * ni → RL K 200 H E) ∧ (mi * ni ≤ 200 → ∀ H' r ys, Same H H' → H' r = some (.lst ys) → Q (.ref r) H'))
theorem okx_grid (T : Tops K mg) : FnOk P w K mg base (L2.CX P w) 5 (He.ga K "grid") T.fd_grid P_grid (spx_grid K) := by
  refine T.F_grid.ok sc_grid (fun vs H Q E h => ?_) (fun cdv A outer s H vs Q E hr h => ?_)
  · obtain ⟨m, n, b1, b2, rfl, h1, h2, r1, r2, r3⟩ := h
    rfl
  · obtain ⟨m, n, b1, b2, rfl, h1, h2, r1, r2, r3⟩ := h
    refine ⟨_, (pss_cons (ps_expr (pe_call (okx_check_sides T) (hr.mono (by decide)) (by rfl) T.g_check_sides T.F_check_sides.kp (b_check_sides T) .nil (passes_call (takes_of rfl rfl rfl rfl) (fun _ _ _ _ h => h)) (pa_cons pe_int (pa_cons (pv 0) (pa_cons (pv 1) pa_nil)))))
       (pss_cons (ps_expr (pe_call (okx_limit_number T) (hr.mono (by decide)) (by rfl) T.g_limit_number T.F_limit_number.kp (b_limit_number T) .nil (passes_call (takes_of rfl rfl rfl rfl) (fun _ _ _ _ h => h)) (pa_cons (pe_op op_mul (pv 0) (pv 1)) pa_nil)))
       (pss_one (ps_ret (pe_call (okx_limited T) (hr.mono (by decide)) (by rfl) T.g_limited T.F_limited.kp (b_limited T) .nil (passes_call (takes_of rfl rfl rfl rfl) (fun _ _ _ _ h => h)) (pa_cons (pe_lc2 (own := [("x", 2), ("y", 3)]) (vs1 := [3]) (g := gName 2) (g1 := gName 3) (tt := tYes) (tt1 := tYes) rfl sc_grid.nd (pi_range1 (by rfl) T.m_range (pa_cons (pv 0) pa_nil)) (blkOk_by (own := [("x", 2), ("y", 3)]) (N := N_grid) (sc := defScope (top 19)) (by decide +kernel)) (by decide) (fun _ _ _ _ _ => (pg_name (i := 2) sc_grid.nd rfl (.inl rfl))) (fun _ _ _ _ _ => pts_nil) (fun _ _ _ _ _ => (pi_range1 (by rfl) T.m_range (pa_cons (pv 1) pa_nil))) (fun _ _ _ _ _ => (pg_name (i := 3) sc_grid.nd rfl (.inl rfl))) (fun _ _ _ _ _ => pts_nil) (fun _ _ _ _ _ => (pe_tup (pa_cons (pv 2) (pa_cons (pv 3) pa_nil))))) pa_nil)))))), ?_⟩
    rw [st_grid]
    walk_at "rd"
    refine ⟨1, m, n, b1, b2, rfl, h1, h2, r1, r2, fun hb1 hb2 H1 k1 => ?_⟩
    obtain ⟨mi, rfl, m1, m2⟩ := (hb1 ▸ h1).good
    obtain ⟨ni, rfl, n1, n2⟩ := (hb2 ▸ h2 hb1).good
    obtain ⟨r5, q⟩ := r3 hb1 hb2 mi ni rfl rfl
    walk_at "rd"
    refine ⟨_, rfl, fun z => (r5 z).mono k1, fun hn => ?_⟩
    have hMN : mi.toNat * ni.toNat ≤ 200 := by
      rw [toNat_mul (by omega) (by omega)]
      omega
    have hM : mi.toNat ≤ 200 := Nat.le_trans (Nat.le_mul_of_pos_right _ (by omega)) hMN
    have hN : ni.toNat ≤ 200 := Nat.le_trans (Nat.le_mul_of_pos_left _ (by omega)) hMN
    walk_at "nm"
    walk_at "rd"
    unfold tLc2
    walk_at "rd"
    refine ⟨_, rfl, by omega, by omega, fun D hD => ?_⟩
    refine NCLam.rngW (lo := 0) (n := mi.toNat) (fun i H' => Same H1 H' ∧ ∃ zs ps, H' D = some (.lst zs) ∧ PL H' zs ps ∧ zs.length = i * ni.toNat ∧ ps.all inB = true) ⟨same_new hD, [], [], upd_same, .nil, by simp, rfl⟩ ?_ ?_
    · rintro i H' hi' ⟨hs, zs, ps, el, hp, hz, g1⟩
      walk_at "rd"
      refine ⟨rfl, ?_⟩
      walk_at "rd"
      refine iteT ?_
      walk_at "rd"
      refine ⟨_, rfl, by omega, by omega, ?_⟩
      refine NCLam.rngW (lo := 0) (n := ni.toNat) (fun j H'' => Same H1 H'' ∧ ∃ zs ps, H'' D = some (.lst zs) ∧ PL H'' zs ps ∧ zs.length = i * ni.toNat + j ∧ ps.all inB = true) ⟨hs, zs, ps, el, hp, hz, g1⟩ ?_ ?_
      · rintro j H'' hj ⟨hs, zs, ps, el, hp, hz, g1⟩
        have hl := rows_lt hi' hj hMN
        walk_at "rd"
        refine ⟨rfl, ?_⟩
        walk_at "rd"
        refine iteT ?_
        walk_at "rd"
        refine ⟨len_le (n := 2) (by decide), fun t ht => ?_⟩
        have kt := same_new (o := .tup [.int (0 + i), .int (0 + j)]) ht
        have et : (upd H'' t (.tup [.int (0 + i), .int (0 + j)])) t = some (.tup [.int (0 + i), .int (0 + j)]) := upd_same
        have el2 := kt _ _ el
        refine ⟨zs, el2, len_lt (by omega), ?_, zs ++ [.ref t], ps ++ [(0 + (i : Int), 0 + (j : Int))], upd_same, (((hp.mono (.same kt)).snoc et)).mono (.lst el2), by rw [List.length_append, hz]; rfl, ?_⟩
        · intro b o hb
          rw [upd_ne (ne_of_none hb hD)]
          exact kt _ _ (hs _ _ hb)
        · rw [all_snoc, g1, Bool.true_and, inB_iff]
          exact ⟨⟨by show -1000000 ≤ 0 + (i : Int); omega, by show 0 + (i : Int) ≤ 1000000; omega⟩, ⟨by show -1000000 ≤ 0 + (j : Int); omega, by show 0 + (j : Int) ≤ 1000000; omega⟩⟩
      · rintro H'' ⟨hs, zs, ps, el, hp, hz, g1⟩
        exact ⟨hs, zs, ps, el, hp, by rw [hz, Nat.succ_mul], g1⟩
    rintro H2 ⟨hs2, zs, ps, el, hp, hz, g1⟩
    refine ⟨D, zs, ps, rfl, el, hp, by omega, fun z => ?_, fun z H' r ys k e ey => q hn H' r ys ((k1.trans hs2).trans k) e⟩
    rw [g1] at z
    cases z

end

end NC
namespace NC
section
variable {P : Program} {w : World} {K : PySem.W.Frag} {mg : Str → Option Value} {base : Heap}

def spx_zigzag (K : PySem.W.Frag) : Sp := fun vs H Q E => ∃ (m n h : V) (b1 b2 : Bool), vs = [m, n, h] ∧ BetV H 2 1000000 m b1 ∧ (b1 = true → BetV H 2 1000000 n b2) ∧ (b1 = false → RB K "m" H E) ∧ (b1 = true → b2 = false → RB K "n" H E) ∧
  (b1 = true → b2 = true → (NI H h ∧ RB K "height" H E) ∨ ∃ hi : Int, h = .int hi ∧ (hi < 2 → RB K "height" H E) ∧ (2 ≤ hi → ∀ mi ni : Int, m = .int mi → n = .int ni → (200 < mi * ni → RL K 200 H E) ∧ (mi * ni ≤ 200 → (hi * (ni - 1) ≤ 1000000 → ∀ H' r ys, Same H H' → H' r = some (.lst ys) → ys.length = (mi * ni).toNat → Q (.ref r) H') ∧ (1000000 < hi * (ni - 1) → RL K 1000000 H E))))
theorem okx_zigzag (T : Tops K mg) : FnOk P w K mg base (L2.CX P w) 5 (He.ga K "zigzag") T.fd_zigzag P_zigzag (spx_zigzag K) := by
  refine T.F_zigzag.ok sc_zigzag (fun vs H Q E h => ?_) (fun cdv A outer s H vs Q E hr h => ?_)
  · obtain ⟨m, n, h, b1, b2, rfl, h1, h2, r1, r2, r3⟩ := h
    rfl
  · obtain ⟨m, n, h, b1, b2, rfl, h1, h2, r1, r2, r3⟩ := h
    refine ⟨_, (pss_cons (ps_expr (pe_call (okx_check_sides T) (hr.mono (by decide)) (by rfl) T.g_check_sides T.F_check_sides.kp (b_check_sides T) .nil (passes_call (takes_of rfl rfl rfl rfl) (fun _ _ _ _ h => h)) (pa_cons pe_int (pa_cons (pv 0) (pa_cons (pv 1) pa_nil)))))
       (pss_cons (ps_expr (pe_call (okx_check_height T) (hr.mono (by decide)) (by rfl) T.g_check_height T.F_check_height.kp (b_check_height T) .nil (passes_call (takes_of rfl rfl rfl rfl) (fun _ _ _ _ h => h)) (pa_cons pe_int (pa_cons (pv 2) pa_nil))))
       (pss_cons (ps_expr (pe_call (okx_limit_number T) (hr.mono (by decide)) (by rfl) T.g_limit_number T.F_limit_number.kp (b_limit_number T) .nil (passes_call (takes_of rfl rfl rfl rfl) (fun _ _ _ _ h => h)) (pa_cons (pe_op op_mul (pv 0) (pv 1)) pa_nil)))
       (pss_one (ps_ret (pe_call (okx_limited T) (hr.mono (by decide)) (by rfl) T.g_limited T.F_limited.kp (b_limited T) .nil (passes_call (takes_of rfl rfl rfl rfl) (fun _ _ _ _ h => h)) (pa_cons (pe_lc2 (own := [("i", 3), ("j", 4)]) (vs1 := [4]) (g := gName 3) (g1 := gName 4) (tt := tYes) (tt1 := tYes) rfl sc_zigzag.nd (pi_range1 (by rfl) T.m_range (pa_cons (pv 0) pa_nil)) (blkOk_by (own := [("i", 3), ("j", 4)]) (N := N_zigzag) (sc := defScope (top 26)) (by decide +kernel)) (by decide) (fun _ _ _ _ _ => (pg_name (i := 3) sc_zigzag.nd rfl (.inl rfl))) (fun _ _ _ _ _ => pts_nil) (fun _ _ _ _ _ => (pi_range1 (by rfl) T.m_range (pa_cons (pv 1) pa_nil))) (fun _ _ _ _ _ => (pg_name (i := 4) sc_zigzag.nd rfl (.inl rfl))) (fun _ _ _ _ _ => pts_nil) (fun _ _ _ _ _ => (pe_tup (pa_cons (pe_op op_add (pe_op op_mul pe_int (pv 3)) (pe_op op_mod (pv 4) pe_int)) (pa_cons (pe_op op_mul (pv 2) (pv 4)) pa_nil))))) pa_nil))))))), ?_⟩
    rw [st_zigzag]
    walk_at "rd"
    refine ⟨2, m, n, b1, b2, rfl, h1, h2, r1, r2, fun hb1 hb2 H1 k1 => ?_⟩
    walk_at "rd"
    refine ⟨2, h, rfl, ?_⟩
    rcases r3 hb1 hb2 with ⟨hn, r⟩ | ⟨hi, rfl, r, q0⟩
    · exact .inl ⟨hn.ext (.of k1), r.mono k1⟩
    refine .inr ⟨hi, rfl, fun z => (r z).mono k1, fun hh => ?_⟩
    obtain ⟨mi, rfl, m1, m2⟩ := (hb1 ▸ h1).good
    obtain ⟨ni, rfl, n1, n2⟩ := (hb2 ▸ h2 hb1).good
    obtain ⟨r5, r6⟩ := q0 hh mi ni rfl rfl
    walk_at "rd"
    refine ⟨_, rfl, fun z => (r5 z).mono k1, fun hn => ?_⟩
    obtain ⟨q1, q2⟩ := r6 hn
    have hMN : mi.toNat * ni.toNat ≤ 200 := by
      rw [toNat_mul (by omega) (by omega)]
      omega
    have hM : mi.toNat ≤ 200 := Nat.le_trans (Nat.le_mul_of_pos_right _ (by omega)) hMN
    have hN : ni.toNat ≤ 200 := Nat.le_trans (Nat.le_mul_of_pos_left _ (by omega)) hMN
    walk_at "nm"
    walk_at "rd"
    unfold tLc2
    walk_at "rd"
    refine ⟨_, rfl, by omega, by omega, fun D hD => ?_⟩
    refine NCLam.rngW (lo := 0) (n := mi.toNat) (fun i H' => Same H1 H' ∧ ∃ zs ps, H' D = some (.lst zs) ∧ PL H' zs ps ∧ zs.length = i * ni.toNat ∧ (hi * (ni - 1) ≤ 1000000 → ps.all inB = true) ∧ (1000000 < hi * (ni - 1) → 1 ≤ i → ps.all inB = false)) ⟨same_new hD, [], [], upd_same, .nil, by simp, fun _ => rfl, fun _ z => by omega⟩ ?_ ?_
    · rintro i H' hi' ⟨hs, zs, ps, el, hp, hz, g1, g2⟩
      walk_at "rd"
      refine ⟨rfl, ?_⟩
      walk_at "rd"
      refine iteT ?_
      walk_at "rd"
      refine ⟨_, rfl, by omega, by omega, ?_⟩
      refine NCLam.rngW (lo := 0) (n := ni.toNat) (fun j H'' => Same H1 H'' ∧ ∃ zs ps, H'' D = some (.lst zs) ∧ PL H'' zs ps ∧ zs.length = i * ni.toNat + j ∧ (hi * (ni - 1) ≤ 1000000 → ps.all inB = true) ∧ (1000000 < hi * (ni - 1) → 1 ≤ i ∨ j = ni.toNat → ps.all inB = false)) ⟨hs, zs, ps, el, hp, hz, g1, fun a b => g2 a (by omega)⟩ ?_ ?_
      · rintro j H'' hj ⟨hs, zs, ps, el, hp, hz, g1, g2⟩
        have hl := rows_lt hi' hj hMN
        have bm : 0 ≤ (0 + (j : Int)) % 2 ∧ (0 + (j : Int)) % 2 ≤ 1 := by omega
        walk_at "rd"
        refine ⟨rfl, ?_⟩
        walk_at "rd"
        refine iteT ?_
        walk_at "rd"
        refine ⟨len_le (n := 2) (by decide), fun t ht => ?_⟩
        have kt := same_new (o := .tup [.int (2 * (0 + i) + (0 + j) % 2), .int (hi * (0 + j))]) ht
        have et : (upd H'' t (.tup [.int (2 * (0 + i) + (0 + j) % 2), .int (hi * (0 + j))])) t = some (.tup [.int (2 * (0 + i) + (0 + j) % 2), .int (hi * (0 + j))]) := upd_same
        have el2 := kt _ _ el
        refine ⟨zs, el2, len_lt (by omega), ?_, zs ++ [.ref t], ps ++ [(2 * (0 + (i : Int)) + (0 + (j : Int)) % 2, hi * (0 + (j : Int)))], upd_same, (((hp.mono (.same kt)).snoc et)).mono (.lst el2), by rw [List.length_append, hz]; rfl, fun a => ?_, fun a c => ?_⟩
        · intro b o hb
          rw [upd_ne (ne_of_none hb hD)]
          exact kt _ _ (hs _ _ hb)
        · rw [all_snoc, g1 a, Bool.true_and, inB_iff]
          have y0 : 0 ≤ hi * (0 + (j : Int)) := Int.mul_nonneg (by omega) (by omega)
          have y1 : hi * (0 + (j : Int)) ≤ hi * (ni - 1) := Int.mul_le_mul_of_nonneg_left (by omega) (by omega)
          exact ⟨⟨by show -1000000 ≤ 2 * (0 + (i : Int)) + (0 + (j : Int)) % 2; omega, by show 2 * (0 + (i : Int)) + (0 + (j : Int)) % 2 ≤ 1000000; omega⟩, ⟨by show -1000000 ≤ hi * (0 + (j : Int)); omega, by show hi * (0 + (j : Int)) ≤ 1000000; omega⟩⟩
        · rw [all_snoc]
          rcases c with c | c
          · rw [g2 a (.inl c), Bool.false_and]
          · have ej : 0 + (j : Int) = ni - 1 := by omega
            have b2 : inB (2 * (0 + (i : Int)) + (0 + (j : Int)) % 2, hi * (0 + (j : Int))) = false := by
              cases z : inB (2 * (0 + (i : Int)) + (0 + (j : Int)) % 2, hi * (0 + (j : Int))) with
              | false => rfl
              | true =>
                have z2 : hi * (0 + (j : Int)) ≤ 1000000 := ((inB_iff _).mp z).2.2
                rw [ej] at z2
                omega
            rw [b2, Bool.and_false]
      · rintro H'' ⟨hs, zs, ps, el, hp, hz, g1, g2⟩
        exact ⟨hs, zs, ps, el, hp, by rw [hz, Nat.succ_mul], g1, fun a _ => g2 a (.inr rfl)⟩
    rintro H2 ⟨hs2, zs, ps, el, hp, hz, g1, g2⟩
    refine ⟨D, zs, ps, rfl, el, hp, by omega, fun z => ?_, fun z H' r ys k e ey => ?_⟩
    · by_cases c : hi * (ni - 1) ≤ 1000000
      · rw [g1 c] at z
        cases z
      · exact (q2 (by omega)).mono (k1.trans hs2)
    · by_cases c : hi * (ni - 1) ≤ 1000000
      · exact q1 c H' r ys ((k1.trans hs2).trans k) e (by rw [ey, ← hp.1, hz, toNat_mul (by omega) (by omega)])
      · rw [g2 (by omega) (by omega)] at z
        cases z

end

end NC
namespace NC
section
variable {P : Program} {w : World} {K : PySem.W.Frag} {mg : Str → Option Value} {base : Heap}

/-- a purse of draws, N at most drawn -/
def Pur (N : Nat) (xs : List V) : Prop := ∃ i j k : Int, xs = [.int i, .int j, .int k] ∧ 0 ≤ i ∧ 0 ≤ j ∧ j < 2147483563 ∧ 0 ≤ k ∧ k ≤ N
theorem Pur.mono {N M : Nat} {xs : List V} (h : Pur N xs) (l : N ≤ M) : Pur M xs := by
  obtain ⟨i, j, k, e, h1, h2, h3, h4, h5⟩ := h
  exact ⟨i, j, k, e, h1, h2, h3, h4, by omega⟩
def sp_law_purse : Sp := fun vs H Q _ => ∃ n : Int, vs = [.int n] ∧ ∀ p xs, H p = none → Pur 3 xs → Q (.ref p) (upd H p (.lst xs))
def sp_law_coin : Sp := fun vs H Q _ => ∃ (s : Addr) (m : Int) (xs : List V) (N : Nat), vs = [.ref s, .int m] ∧ H s = some (.lst xs) ∧ Pur N xs ∧ N ≤ 1000000 ∧ 0 < m ∧ m < 1073741824 ∧ ∀ r ys, 0 ≤ r → r < m → Pur (N + 1) ys → Q (.int r) (upd H s (.lst ys))
def sp_law_pick : Sp := fun vs H Q _ => ∃ (s l : Addr) (xs zs : List V) (N : Nat), vs = [.ref s, .ref l] ∧ H s = some (.lst xs) ∧ Pur N xs ∧ N ≤ 1000000 ∧ H l = some (.lst zs) ∧ s ≠ l ∧ 0 < zs.length ∧ zs.length < 1000000 ∧ ∀ z ys, z ∈ zs → Pur (N + 1) ys → Q z (upd H s (.lst ys))
theorem ok_law_purse (T : Tops K mg) : FnOk P w K mg base CX0 1 (He.ga K "_law_purse") T.fd_law_purse P_law_purse sp_law_purse := by
  refine T.F_law_purse.ok sc_law_purse (fun vs H Q E h => ?_) (fun cdv A outer s H vs Q E hr h => ?_)
  · obtain ⟨n, rfl, q⟩ := h
    rfl
  · obtain ⟨n, rfl, q⟩ := h
    refine ⟨_, PSs.nox ((pss_one (ps_ret (pe_lst (pa_cons (pe_op op_mul (pe_callB call_absN (by rfl) T.m_abs (by decide +kernel) (pa_cons (pv 0) pa_nil)) (pe_callTy call_intN (by rfl) T.m_int (by decide +kernel) (pa_cons (pe_cmpR op_ge (pe_callB call_absN (by rfl) T.m_abs (by decide +kernel) (pa_cons (pv 0) pa_nil)) (pe_op op_pow pe_int pe_int) (nomark _)) pa_nil))) (pa_cons (pe_op op_mod (pe_callTy call_intN (by rfl) T.m_int (by decide +kernel) (pa_cons (pv 0) pa_nil)) pe_int) (pa_cons pe_int pa_nil))))))), ?_⟩
    rw [st_law_purse]
    walk_at "rd"
    generalize hab : (if n < 0 then -n else n) = m
    have hm : 0 ≤ m := by
      rw [← hab]
      split <;> omega
    walk_at "rd"
    refine g_mul (mulR (Int.le_trans (by decide) (zsg_lo _)) (Int.le_trans (zsg_hi _) (by decide))) ?_
    walk_at "rd"
    refine ⟨len_le (n := 3) (by decide), fun p hp => ?_⟩
    refine q p _ hp ⟨_, _, _, rfl, Int.mul_nonneg hm (zsg_lo _), Int.emod_nonneg _ (by decide), Int.emod_lt_of_pos _ (by decide), by decide, by decide⟩
theorem ok_law_coin (T : Tops K mg) : FnOk P w K mg base CX0 1 (He.ga K "_law_coin") T.fd_law_coin P_law_coin sp_law_coin := by
  refine T.F_law_coin.ok sc_law_coin (fun vs H Q E h => ?_) (fun cdv A outer s H vs Q E hr h => ?_)
  · obtain ⟨s, m, xs, N, rfl, hs, ⟨i, j, k, rfl, hi, hj, hj2, hk, hkN⟩, hN, hm, hm2, q⟩ := h
    rfl
  · obtain ⟨s, m, xs, N, rfl, hs, ⟨i, j, k, rfl, hi, hj, hj2, hk, hkN⟩, hN, hm, hm2, q⟩ := h
    refine ⟨_, PSs.nox ((pss_cons (ps_if (pt_cmpR op_gt (pe_ix (ix_listK K) (pv 0) pe_int (fun _ _ => rfl)) pe_int (nomark _))
       (pss_cons (ps_set (i := 2) sc_law_coin.nd rfl (.inl rfl) (pe_op op_mod (pe_callTy call_intN (by rfl) T.m_int (by decide +kernel) (pa_cons (pe_ix (ix_listK K) (pv 0) pe_int (fun _ _ => rfl)) pa_nil)) (pv 1)))
       (pss_cons (ps_asg (pe_op op_fdiv (pe_ix (ix_listK K) (pv 0) pe_int (fun _ _ => rfl)) (pv 1)) (pg_sub (pv 0) pe_int set_list))
       (pss_one (ps_ret (pv 2)))))
       pss_nil)
       (pss_cons (ps_asg (pe_op op_add (pe_ix (ix_listK K) (pv 0) pe_int (fun _ _ => rfl)) pe_int) (pg_sub (pv 0) pe_int set_list))
       (pss_cons (ps_set (i := 3) sc_law_coin.nd rfl (.inl rfl) (pe_op op_mod (pe_callTy call_intN (by rfl) T.m_int (by decide +kernel) (pa_cons (pe_op op_pow (pe_op op_add (pe_op op_add (pe_ix (ix_listK K) (pv 0) pe_int (fun _ _ => rfl)) (pe_op op_mul pe_int (pe_ix (ix_listK K) (pv 0) pe_int (fun _ _ => rfl)))) pe_int) pe_int) pa_nil)) pe_int))
       (pss_cons (ps_set (i := 3) sc_law_coin.nd rfl (.inl rfl) (pe_op op_mod (pe_callTy call_intN (by rfl) T.m_int (by decide +kernel) (pa_cons (pe_op op_mul (pe_op op_add (pv 3) (pe_op op_mul pe_int (pe_ix (ix_listK K) (pv 0) pe_int (fun _ _ => rfl)))) (pe_op op_add (pe_op op_fdiv (pv 3) pe_int) pe_int)) pa_nil)) pe_int))
       (pss_one (ps_ret (pe_op op_mod (pe_callTy call_intN (by rfl) T.m_int (by decide +kernel) (pa_cons (pe_op op_fdiv (pe_op op_mod (pe_callTy call_intN (by rfl) T.m_int (by decide +kernel) (pa_cons (pe_op op_mul (pv 3) (pe_op op_add (pe_op op_fdiv (pv 3) pe_int) pe_int)) pa_nil)) pe_int) pe_int) pa_nil)) (pv 1))))))))), ?_⟩
    rw [st_law_coin]
    walk_at "rd"
    refine ite2 (fun h => ?_) (fun h => ?_)
    · have h0 : 0 < i := of_decide_eq_true h
      walk_at "rd"
      refine g_setL (j := 0) hs rfl ?_
      walk_at "rd"
      exact q _ _ (Int.emod_nonneg _ (by omega)) (Int.emod_lt_of_pos _ hm) ⟨_, _, _, rfl, Int.ediv_nonneg hi (by omega), hj, hj2, hk, by omega⟩
    · walk_at "rd"
      refine g_setL (j := 2) hs rfl ?_
      have hs1 : (upd H s (.lst ([.int i, .int j, .int k].set 2 (.int (k + 1))))) s = some (.lst [.int i, .int j, .int (k + 1)]) := upd_same
      walk_at "rd"
      generalize e1 : (j + 70001 * (k + 1) + 7) ^ (3 : Int).toNat % 2147483587 = z1
      have hz1 : 0 ≤ z1 ∧ z1 < 2147483587 := by rw [← e1]; exact ⟨Int.emod_nonneg _ (by decide), Int.emod_lt_of_pos _ (by decide)⟩
      walk_at "rd"
      generalize e2 : (z1 + 11 * (k + 1)) * (z1 / 1009 + 48611) % 2147483549 = z2
      have hz2 : 0 ≤ z2 ∧ z2 < 2147483549 := by rw [← e2]; exact ⟨Int.emod_nonneg _ (by decide), Int.emod_lt_of_pos _ (by decide)⟩
      walk_at "rd"
      exact q _ _ (Int.emod_nonneg _ (by omega)) (Int.emod_lt_of_pos _ hm) ⟨_, _, _, rfl, hi, hj, hj2, by omega, by omega⟩
theorem ok_law_pick (T : Tops K mg) : FnOk P w K mg base CX0 2 (He.ga K "_law_pick") T.fd_law_pick P_law_pick sp_law_pick := by
  refine T.F_law_pick.ok sc_law_pick (fun vs H Q E h => ?_) (fun cdv A outer s H vs Q E hr h => ?_)
  · obtain ⟨s, l, xs, zs, N, rfl, hs, hx, hN, hl, ne, l0, l1, q⟩ := h
    rfl
  · obtain ⟨s, l, xs, zs, N, rfl, hs, hx, hN, hl, ne, l0, l1, q⟩ := h
    refine ⟨_, PSs.nox ((pss_one (ps_ret (pe_ix (ix_listK K) (pv 1) (pe_call (ok_law_coin T) (hr.mono (by decide)) (by rfl) T.g_law_coin T.F_law_coin.kp (b_law_coin T) .nil pass0 (pa_cons (pv 0) (pa_cons (pe_callB (call_lenK K) (by rfl) T.m_len PySem.boot_len (pa_cons (pv 1) pa_nil)) pa_nil))) (fun _ _ => rfl))))), ?_⟩
    rw [st_law_pick]
    walk_at "rd"
    refine ⟨s, _, xs, N, rfl, hs, hx, hN, by omega, by omega, fun r ys r0 r1 hy => ?_⟩
    obtain ⟨n, rfl⟩ := Int.eq_ofNat_of_zero_le r0
    have hn : n < zs.length := by omega
    refine g_ixL (xs := zs) (v := zs[n]) (by rw [upd_ne (Ne.symm ne)]; exact hl) (atI_nat (List.getElem?_eq_getElem hn)) ?_
    exact q _ _ (List.getElem_mem hn) hy

/-- what stands beside the source stays -/
def Kp (s : Addr) (H H' : Hp) : Prop := ∀ b o, b ≠ s → H b = some o → H' b = some o
theorem Kp.refl {s : Addr} (H : Hp) : Kp s H H := fun _ _ _ h => h
theorem Kp.trans {s : Addr} {H H1 H2 : Hp} (a : Kp s H H1) (b : Kp s H1 H2) : Kp s H H2 := fun c o n h => b c o n (a c o n h)
theorem Kp.src {s : Addr} {H : Hp} {o : HO} : Kp s H (upd H s o) := fun b u n h => by rw [upd_ne n]; exact h
theorem Kp.same {s : Addr} {H H' : Hp} (a : Same H H') : Kp s H H' := fun b o _ h => a b o h
theorem Kp.new {s p : Addr} {H : Hp} {o : HO} (n : H p = none) : Kp s H (upd H p o) := Kp.same (same_new n)
/-- the purse at s, what was tracked else is kept -/
structure GoN (s : Addr) (N : Nat) (H H' : Hp) : Prop where
  k : Kp s H H'
  t : TK H H'
  src : ∃ xs, H' s = some (.lst xs) ∧ Pur N xs
theorem GoN.draw {s : Addr} {N : Nat} {H H' : Hp} {ys : List V} (g : GoN s N H H') (hy : Pur (N + 1) ys) : GoN s (N + 1) H (upd H' s (.lst ys)) := by
  obtain ⟨xs, e, _⟩ := g.src
  exact ⟨g.k.trans .src, g.t.trans (.lst e), ys, upd_same, hy⟩
theorem GoN.same {s : Addr} {N : Nat} {H H' H'' : Hp} (g : GoN s N H H') (h : Same H' H'') : GoN s N H H'' := by
  obtain ⟨xs, e, hx⟩ := g.src
  exact ⟨g.k.trans (.same h), g.t.trans (.same h), xs, h _ _ e, hx⟩
theorem GoN.new {s p : Addr} {N : Nat} {H H' : Hp} {o : HO} (g : GoN s N H H') (n : H' p = none) : GoN s N H (upd H' p o) := g.same (same_new n)
theorem GoN.mono {s : Addr} {N M : Nat} {H H' : Hp} (g : GoN s N H H') (l : N ≤ M) : GoN s M H H' := by
  obtain ⟨xs, e, hx⟩ := g.src
  exact ⟨g.k, g.t, xs, e, hx.mono l⟩
theorem GoN.tk {s : Addr} {N : Nat} {H H' : Hp} {ys : List V} (g : GoN s N H H') : TK H' (upd H' s (.lst ys)) := by
  obtain ⟨xs, e, _⟩ := g.src
  exact .lst e
theorem coin_go {s : Addr} {N : Nat} {H0 H : Hp} {m : Int} {Q : VK} {E : XK} (g : GoN s N H0 H) (hN : N ≤ 1000000) (h0 : 0 < m) (h1 : m < 1073741824) (q : ∀ r H', 0 ≤ r → r < m → GoN s (N + 1) H0 H' → TK H H' → Q (.int r) H') : sp_law_coin [.ref s, .int m] H Q E := by
  obtain ⟨xs, e, hx⟩ := g.src
  exact ⟨s, m, xs, N, rfl, e, hx, hN, h0, h1, fun r ys r0 r1 hy => q r _ r0 r1 (g.draw hy) g.tk⟩

def sp_law_deep : Sp := fun vs H Q _ => vs = [] ∧ ∀ H' p v, Same H H' → H' p = some (.tup [v]) → Q (.ref p) H'
theorem ok_law_deep (T : Tops K mg) : FnOk P w K mg base CX0 1 (He.ga K "_law_deep") T.fd_law_deep P_law_deep sp_law_deep := by
  refine T.F_law_deep.ok sc_law_deep (fun vs H Q E h => ?_) (fun cdv A outer s H vs Q E hr h => ?_)
  · obtain ⟨rfl, q⟩ := h
    rfl
  · obtain ⟨rfl, q⟩ := h
    refine ⟨_, PSs.nox ((pss_cons (ps_set (i := 0) sc_law_deep.nd rfl (.inl rfl) (pe_tup (pa_cons pe_int pa_nil)))
       (pss_cons (ps_for PassesOwn.never rfl (pi_range1 (by rfl) T.m_range (pa_cons pe_int pa_nil)) (pg_name (i := 1) sc_law_deep.nd rfl (.inl rfl))
       (pss_one (ps_set (i := 0) sc_law_deep.nd rfl (.inl rfl) (pe_tup (pa_cons (pv 0) pa_nil)))))
       (pss_one (ps_ret (pv 0)))))), ?_⟩
    rw [st_law_deep]
    walk_at "rd"
    refine ⟨len_le (n := 1) (by decide), fun p0 hp0 => ?_⟩
    walk_at "rd"
    refine ⟨1990, rfl, by decide, by decide, ?_⟩
    refine for_range (lo := 0) (n := 1990) (fun i σ H' => (∃ p v y, σ = [some (.ref p), y] ∧ H' p = some (.tup [v])) ∧ Same H H') ⟨⟨p0, _, none, rfl, upd_same⟩, same_new hp0⟩ ?_ ?_
    · rintro i σ H' hi ⟨⟨p, v, y, rfl, e⟩, hs⟩
      walk_at "rd"
      refine ⟨len_le (n := 1) (by decide), fun p1 hp1 => ?_⟩
      exact ⟨⟨p1, _, _, rfl, upd_same⟩, hs.trans (same_new hp1)⟩
    · rintro σ H' ⟨⟨p, v, y, rfl, e⟩, hs⟩
      walk_at "rd"
      exact q H' p v hs e

end

end NC
namespace NC
section
variable {P : Program} {w : World} {K : PySem.W.Frag} {mg : Str → Option Value} {base : Heap}
def saidE (K : PySem.W.Frag) (Q : VK) : XK := fun cls d H' => (∃ dd v, cls = .ref (He.ga K "InvalidBound") ∧ d = some dd ∧ H' dd = some (.xd [("argument", v)]) ∧ Q v H') ∨ (∃ dd v, cls = .ref (He.ga K "LimitExceeded") ∧ d = some dd ∧ H' dd = some (.xd [("limit", v)]) ∧ Q v H')
/-- what _law_said makes of a call -/
def saidT (K : PySem.W.Frag) (al : Addr → XK → Hp → VK → Prop) (f : Addr) (H : Hp) (Q : VK) : Prop := al f (saidE K Q) H (fun _ H1 => Q .non H1)
def sp_law_said (K : PySem.W.Frag) (al : Addr → XK → Hp → VK → Prop) : Sp := fun vs H Q _ => ∃ f : Addr, vs = [.ref f] ∧ saidT K al f H Q
theorem ok_law_said (T : Tops K mg) {kk : Nat} {al : Addr → XK → Hp → VK → Prop} (ha : ∀ f, NCLam.Acts P w K mg base kk f (al f)) : FnOk P w K mg base CX0 (kk + 1) (He.ga K "_law_said") T.fd_law_said P_law_said (sp_law_said K al) := by
  refine T.F_law_said.ok sc_law_said (fun vs H Q E h => ?_) (fun cdv A outer s H vs Q E hr h => ?_)
  · obtain ⟨f, rfl, _⟩ := h
    rfl
  obtain ⟨f, rfl, h⟩ := h
  refine ⟨_, PSs.nox (pss_cons (ps_try_any (X := (cxOf CX0 P w K mg base N_law_said "_law_said" (defScope (top 32)) (He.ga K "_law_said") cdv A outer s H E).nox) (Wout := fun _ _ _ _ => False)
      (tb := fun W D σ H => ∃ (f : Addr) (E : XK), σ[0]? = some (some (V.ref f)) ∧ (∀ cls d H', E cls d H' → W cls d σ H') ∧ al f E H (fun _ H1 => D.nx σ H1))
      (l := [(.ref (He.ga K "InvalidBound"), some 1, fun a cls d D σ H => cls = .ref (He.ga K "InvalidBound") ∧ tRet (tIf (tB (tCB (NCLam.rIsD K (He.ga K "InvalidBound") a d) (tCons (tVar 1) (tCons (tC (.ref (He.ga K "CellError"))) tNil)))) (tXf a cls d (He.ga K "InvalidBound") "argument" (tVar 1)) (tC (.str "other"))) D σ H), (.ref (He.ga K "LimitExceeded"), some 1, fun a cls d D σ H => cls = .ref (He.ga K "LimitExceeded") ∧ tRet (tIf (tB (tCB (NCLam.rIsD K (He.ga K "LimitExceeded") a d) (tCons (tVar 1) (tCons (tC (.ref (He.ga K "CellError"))) tNil)))) (tXf a cls d (He.ga K "LimitExceeded") "limit" (tVar 1)) (tC (.str "other"))) D σ H)]) rfl rfl LamX.takes0 (fun W pn xe tk _ => ?b) (.named (X := (cxOf CX0 P w K mg base N_law_said "_law_said" (defScope (top 32)) (He.ga K "_law_said") cdv A outer s H E).nox) (i := 1) sc_law_said.nd rfl rfl (by exact ⟨rfl, by decide, .inl T.g_InvalidBound⟩) (fun a oe cls d pn hz hf => ?h0) (.named (X := (cxOf CX0 P w K mg base N_law_said "_law_said" (defScope (top 32)) (He.ga K "_law_said") cdv A outer s H E).nox) (i := 1) sc_law_said.nd rfl rfl (by exact ⟨rfl, by decide, .inl T.g_LimitExceeded⟩) (fun a oe cls d pn hz hf => ?h1) .nil))) (pss_one (ps_ret pe_non))), ?e⟩
  case b => exact pss_one (ps_expr (NCLam.pe_act (X := Cx.tr ((cxOf CX0 P w K mg base N_law_said "_law_said" (defScope (top 32)) (He.ga K "_law_said") cdv A outer s H E).nox) pn xe) (al := al) ha hr tk rfl (.inl rfl)))
  case h0 =>
    refine ⟨fun pins s' σ H' D I h' => ?_⟩
    obtain ⟨rfl, h3⟩ := h'
    exact (pss_one (ps_ret (pe_ifExp (pt_val (pe_callB (NCLam.call_isD (X := (cxOf CX0 P w K mg base N_law_said "_law_said" (defScope (top 32)) (He.ga K "_law_said") cdv A outer s H E).nox) (pn := pn) T.C_InvalidBound hz hf) (by rfl) T.m_isinstance (by decide +kernel) (pa_cons (pv 1) (pa_cons (pe_glob (v := .ref (He.ga K "CellError")) (by rfl) T.g_CellError rfl) pa_nil)))) (pe_xf (X := (cxOf CX0 P w K mg base N_law_said "_law_said" (defScope (top 32)) (He.ga K "_law_said") cdv A outer s H E).nox) (NCLam.ExcC.xf T.C_InvalidBound) T.n_InvalidBound_argument hz hf (pv 1)) pe_str))).run pins s' σ H' D I h3
  case h1 =>
    refine ⟨fun pins s' σ H' D I h' => ?_⟩
    obtain ⟨rfl, h3⟩ := h'
    exact (pss_one (ps_ret (pe_ifExp (pt_val (pe_callB (NCLam.call_isD (X := (cxOf CX0 P w K mg base N_law_said "_law_said" (defScope (top 32)) (He.ga K "_law_said") cdv A outer s H E).nox) (pn := pn) T.C_LimitExceeded hz hf) (by rfl) T.m_isinstance (by decide +kernel) (pa_cons (pv 1) (pa_cons (pe_glob (v := .ref (He.ga K "CellError")) (by rfl) T.g_CellError rfl) pa_nil)))) (pe_xf (X := (cxOf CX0 P w K mg base N_law_said "_law_said" (defScope (top 32)) (He.ga K "_law_said") cdv A outer s H E).nox) (NCLam.ExcC.xf T.C_LimitExceeded) T.n_LimitExceeded_limit hz hf (pv 1)) pe_str))).run pins s' σ H' D I h3
  case e =>
    rw [st_law_said]
    refine ⟨f, saidE K Q, rfl, fun cls d H' hE => ?_, h⟩
    rcases hE with ⟨dd, v, rfl, rfl, hd, q⟩ | ⟨dd, v, rfl, rfl, hd, q⟩
    · exact ⟨true, T.e_InvalidBound_InvalidBound, fun _ a na => ⟨rfl, g_ret (g_if (g_tb (g_cb (g_cons (g_var (v := .ref a) rfl (g_cons (g_c (g_nil ⟨_, .ref (He.ga K "CellError"), true, dd, _, rfl, fun u r => r, T.k_InvalidBound, rfl, hd, true, rfl, iteT ⟨.ref a, rfl, rfl, rfl, dd, _, v, rfl, hd, by simp [List.lookup], q⟩⟩))))))))⟩, fun z => by cases z⟩
    · exact ⟨false, T.e_LimitExceeded_InvalidBound, fun z => (by cases z), fun _ => ⟨true, T.e_LimitExceeded_LimitExceeded, fun _ a na => ⟨rfl, g_ret (g_if (g_tb (g_cb (g_cons (g_var (v := .ref a) rfl (g_cons (g_c (g_nil ⟨_, .ref (He.ga K "CellError"), true, dd, _, rfl, fun u r => r, T.k_LimitExceeded, rfl, hd, true, rfl, iteT ⟨.ref a, rfl, rfl, rfl, dd, _, v, rfl, hd, by simp [List.lookup], q⟩⟩))))))))⟩, fun z => by cases z⟩⟩

end

end NC
namespace NC
section
variable {P : Program} {w : World} {K : PySem.W.Frag} {mg : Str → Option Value} {base : Heap}

def sp_law_all_say (K : PySem.W.Frag) (al : Addr → XK → Hp → VK → Prop) : Sp := fun vs H Q _ => ∃ (l : Addr) (fs : List Addr) (ws : List V), vs = [.ref l] ∧ H l = some (.lst (fs.map V.ref)) ∧ ws.length = fs.length ∧ fs.length ≤ 100 ∧
  (∀ (i : Nat) (f : Addr) (v : V), fs[i]? = some f → ws[i]? = some v → ∀ (H' : Hp) (Q' : VK), Same H H' → (∀ H'', Same H' H'' → Q' v H'') → saidT K al f H' Q') ∧ ∀ H' r, Same H H' → H' r = some (.lst ws) → Q (.ref r) H'
theorem ok_law_all_say (T : Tops K mg) {kk : Nat} {al : Addr → XK → Hp → VK → Prop} (ha : ∀ f, NCLam.Acts P w K mg base kk f (al f)) : FnOk P w K mg base CX0 (kk + 2) (He.ga K "_law_all_say") T.fd_law_all_say P_law_all_say (sp_law_all_say K al) := by
  refine T.F_law_all_say.ok sc_law_all_say (fun vs H Q E h => ?_) (fun cdv A outer s H vs Q E hr h => ?_)
  · obtain ⟨l, fs, ws, rfl, _⟩ := h
    rfl
  · obtain ⟨l, fs, ws, rfl, hl, hw, hn, h, q⟩ := h
    refine ⟨_, PSs.nox (pss_one (ps_ret (pe_lc (own := [("_law_ask", 1)]) (g := gName 1) (tt := tYes) rfl sc_law_all_say.nd (pi_listK K (pv 0)) (blkOk_by (own := [("_law_ask", 1)]) (N := N_law_all_say) (sc := defScope (top 34)) (by decide +kernel)) (fun _ _ _ _ _ => (pg_name (i := 1) sc_law_all_say.nd rfl (.inl rfl))) (fun _ _ _ _ _ => pts_nil) (fun _ _ _ _ _ => (pe_call (ok_law_said T ha) hr (by rfl) T.g_law_said T.F_law_said.kp (b_law_said T) .nil pass0 (pa_cons (pv 1) pa_nil)))))), ?_⟩
    rw [st_law_all_say]
    walk_at "rd"
    refine ⟨l, rfl, ⟨_, SqL.of hl⟩, fun D hD => ?_⟩
    refine lc_list (K := K) (a := l) (xs := fs.map V.ref) (fun i H' => Same H H' ∧ H' D = some (.lst (ws.take i))) ⟨same_new hD, upd_same⟩ (fun i H' _ h => SqL.of (h.1 _ _ hl)) ?_ ?_
    · rintro i z H' hz ⟨hs, el⟩
      rw [List.getElem?_map] at hz
      obtain ⟨f, hf, rfl⟩ := Option.map_eq_some_iff.mp hz
      have hi : i < fs.length := (List.getElem?_eq_some_iff.mp hf).1
      have hv : ws[i]? = some (ws[i]'(by omega)) := List.getElem?_eq_getElem (by omega)
      walk_at "rd"
      refine ⟨rfl, ?_⟩
      walk_at "rd"
      refine iteT ?_
      walk_at "rd"
      refine ⟨f, rfl, h i f _ hf hv H' _ hs fun H2 h2 => ?_⟩
      refine ⟨_, h2 _ _ el, len_lt (by rw [List.length_take]; omega), ?_, ?_⟩
      · intro b o hb
        rw [upd_ne (ne_of_none hb hD)]
        exact h2 _ _ (hs _ _ hb)
      · rw [upd_same, List.take_add_one, hv]
        rfl
    · rintro H2 ⟨hs, el⟩
      rw [List.length_map, ← hw, List.take_length] at el
      exact q H2 D hs el

end

end NC
namespace NC
section
variable {P : Program} {w : World} {K : PySem.W.Frag} {mg : Str → Option Value} {base : Heap}
abbrev rQ_law_words_right : Str := (envOfC "_law_words_right" (defScope (top 35)) 0 0 .none).qual ++ "<lambda>"
abbrev rQ_law_limits_right : Str := (envOfC "_law_limits_right" (defScope (top 36)) 0 0 .none).qual ++ "<lambda>"
def tbs (K : PySem.W.Frag) : List (Addr × Str) := [((He.cT K ("_law_words_right", none)).2, rQ_law_words_right), ((He.cT K ("_law_limits_right", none)).2, rQ_law_limits_right)]
theorem mem_law_words_right (K : PySem.W.Frag) : ((He.cT K ("_law_words_right", none)).2, rQ_law_words_right) ∈ tbs K := by
  unfold tbs
  simp
theorem uniq_law_words_right (T : Tops K mg) : ∀ p ∈ tbs K, p.1 = (He.cT K ("_law_words_right", none)).2 → p.2 = rQ_law_words_right := fun p hp e => by
  unfold tbs at hp
  simp only [List.mem_cons, List.not_mem_nil, or_false] at hp
  rcases hp with rfl | rfl
  · rfl
  · exact absurd e.symm T.t_law_words_right_law_limits_right
theorem mem_law_limits_right (K : PySem.W.Frag) : ((He.cT K ("_law_limits_right", none)).2, rQ_law_limits_right) ∈ tbs K := by
  unfold tbs
  simp
theorem uniq_law_limits_right (T : Tops K mg) : ∀ p ∈ tbs K, p.1 = (He.cT K ("_law_limits_right", none)).2 → p.2 = rQ_law_limits_right := fun p hp e => by
  unfold tbs at hp
  simp only [List.mem_cons, List.not_mem_nil, or_false] at hp
  rcases hp with rfl | rfl
  · exact absurd e T.t_law_words_right_law_limits_right
  · rfl
theorem tabs0 {H : Hp} (h : ∀ p ∈ [He.cT K ("_law_words_right", none), He.cT K ("_law_limits_right", none)], H p.2 = some (.tbl #[])) : LamX.Tabs (tbs K) H := fun p hp => by
  unfold tbs at hp
  simp only [List.mem_cons, List.not_mem_nil, or_false] at hp
  rcases hp with rfl | rfl
  · exact LamX.TabS.nil (h _ (by simp))
  · exact LamX.TabS.nil (h _ (by simp))

theorem tk_ext {H H' : Hp} (e : LamX.ExtN H H') : TK H H' := fun p xs h => e p _ h (fun ps z => by cases z)
theorem rb_said {w : Str} {H : Hp} {Q : VK} (h : ∀ H', Same H H' → Q (.str w) H') : RB K w H (saidE K Q) := fun H' d k n e => .inl ⟨d, _, rfl, rfl, e, h H' k⟩
theorem rl_said {n : Int} {H : Hp} {Q : VK} (h : ∀ H', Same H H' → Q (.int n) H') : RL K n H (saidE K Q) := fun H' d k n e => .inr ⟨d, _, rfl, rfl, e, h H' k⟩
def RR (K : PySem.W.Frag) (f : Addr) (sp : Sp) : Prop := (f = He.ga K "grid" ∧ sp = spx_grid K) ∨ (f = He.ga K "grid_counts" ∧ sp = spx_grid_counts K) ∨ (f = He.ga K "parabola" ∧ sp = spx_parabola K) ∨ (f = He.ga K "parabola_counts" ∧ sp = spx_parabola_counts K)
theorem rr_held (T : Tops K mg) : ∀ f sp, RR K f sp → NCLam.HeldX P w K mg base 7 f sp := fun f sp h => by
  rcases h with ⟨rfl, rfl⟩ | ⟨rfl, rfl⟩ | ⟨rfl, rfl⟩ | ⟨rfl, rfl⟩
  · exact ⟨_, _, (okx_grid T).mono (by decide), T.F_grid.kp, b_grid T⟩
  · exact ⟨_, _, (okx_grid_counts T).mono (by decide), T.F_grid_counts.kp, b_grid_counts T⟩
  · exact ⟨_, _, (okx_parabola T).mono (by decide), T.F_parabola.kp, b_parabola T⟩
  · exact ⟨_, _, (okx_parabola_counts T).mono (by decide), T.F_parabola_counts.kp, b_parabola_counts T⟩
/-- the odd values -/
def Odd (H : Hp) (v : V) : Prop := NI H v ∨ ∃ i : Int, v = .int i ∧ (i < -1000000 ∨ 1000000 < i)
theorem Odd.ext {H H' : Hp} {v : V} (h : Odd H v) (e : LamX.ExtN H H') : Odd H' v := h.imp (fun h => h.ext e) id
theorem Odd.bet {H : Hp} {v : V} {lo : Int} (h : Odd H v) (hl : -1000000 ≤ lo) : BetV H lo 1000000 v false := by
  rcases h with h | ⟨i, rfl, h⟩
  · exact .inr ⟨h, rfl⟩
  · exact .out (by omega)
/-- g(a, b) raises InvalidBound with w -/
def Asks (K : PySem.W.Frag) (g : Addr) (a b : V) (w : Str) (H : Hp) : Prop := ∃ sp, RR K g sp ∧ ∀ H1 Q E, LamX.ExtN H H1 → RB K w H1 E → sp [a, b] H1 Q E
theorem Asks.ext {g : Addr} {a b : V} {w : Str} {H H' : Hp} (h : Asks K g a b w H) (e : LamX.ExtN H H') : Asks K g a b w H' := by
  obtain ⟨sp, h1, h2⟩ := h
  exact ⟨sp, h1, fun H1 Q E k r => h2 H1 Q E (e.trans k) r⟩
/-- grid and grid_counts at the four rows -/
theorem grid_asks {H : Hp} {v : V} (ho : Odd H v) {g : Addr} (hg : g = He.ga K "grid" ∨ g = He.ga K "grid_counts") : Asks K g v .non "m" H ∧ Asks K g (.int 3) v "n" H ∧ Asks K g (.int 0) (.int 0) "m" H ∧ Asks K g (.int 1) (.int 0) "n" H := by
  rcases hg with rfl | rfl
  · refine ⟨⟨_, .inl ⟨rfl, rfl⟩, fun H1 Q E k r => ?_⟩, ⟨_, .inl ⟨rfl, rfl⟩, fun H1 Q E k r => ?_⟩, ⟨_, .inl ⟨rfl, rfl⟩, fun H1 Q E k r => ?_⟩, ⟨_, .inl ⟨rfl, rfl⟩, fun H1 Q E k r => ?_⟩⟩
    · exact ⟨_, _, false, false, rfl, (ho.ext k).bet (by decide), fun z => (by cases z), fun _ => r, fun z => (by cases z), fun z => (by cases z)⟩
    · exact ⟨_, _, true, false, rfl, .int (by decide) (by decide), fun _ => (ho.ext k).bet (by decide), fun z => (by cases z), fun _ _ => r, fun _ z => (by cases z)⟩
    · exact ⟨_, _, false, false, rfl, .out (by decide), fun z => (by cases z), fun _ => r, fun z => (by cases z), fun z => (by cases z)⟩
    · exact ⟨_, _, true, false, rfl, .int (by decide) (by decide), fun _ => .out (by decide), fun z => (by cases z), fun _ _ => r, fun _ z => (by cases z)⟩
  · refine ⟨⟨_, .inr (.inl ⟨rfl, rfl⟩), fun H1 Q E k r => ?_⟩, ⟨_, .inr (.inl ⟨rfl, rfl⟩), fun H1 Q E k r => ?_⟩, ⟨_, .inr (.inl ⟨rfl, rfl⟩), fun H1 Q E k r => ?_⟩, ⟨_, .inr (.inl ⟨rfl, rfl⟩), fun H1 Q E k r => ?_⟩⟩
    · exact ⟨_, _, false, rfl, (ho.ext k).bet (by decide), fun z => (by cases z), fun _ => r, fun z => (by cases z)⟩
    · exact ⟨_, _, true, rfl, .int (by decide) (by decide), fun _ => (ho.ext k).bet (by decide), fun z => (by cases z), fun _ => r⟩
    · exact ⟨_, _, false, rfl, .out (by decide), fun z => (by cases z), fun _ => r, fun z => (by cases z)⟩
    · exact ⟨_, _, true, rfl, .int (by decide) (by decide), fun _ => .out (by decide), fun z => (by cases z), fun _ => r⟩
theorem par_asks {H : Hp} {v : V} (ho : Odd H v) {g : Addr} (hg : g = He.ga K "parabola" ∨ g = He.ga K "parabola_counts") : Asks K g v .non "low" H ∧ Asks K g (.int 3) v "high" H ∧ Asks K g (.int 3) (.int 2) "high" H := by
  rcases hg with rfl | rfl
  · refine ⟨⟨_, .inr (.inr (.inl ⟨rfl, rfl⟩)), fun H1 Q E k r => ?_⟩, ⟨_, .inr (.inr (.inl ⟨rfl, rfl⟩)), fun H1 Q E k r => ?_⟩, ⟨_, .inr (.inr (.inl ⟨rfl, rfl⟩)), fun H1 Q E k r => ?_⟩⟩
    · exact ⟨_, _, false, false, rfl, (ho.ext k).bet (by decide), fun z => (by cases z), fun _ => r, fun z => (by cases z), fun z => (by cases z)⟩
    · exact ⟨_, _, true, false, rfl, .int (by decide) (by decide), fun _ => (ho.ext k).bet (by decide), fun z => (by cases z), fun _ _ => r, fun _ z => (by cases z)⟩
    · exact ⟨_, _, true, true, rfl, .int (by decide) (by decide), fun _ => .int (by decide) (by decide), fun z => (by cases z), fun _ z => (by cases z), fun _ _ l h e1 e2 => by
        cases e1
        cases e2
        exact ⟨fun _ => r, fun z => absurd z (by decide)⟩⟩
  · refine ⟨⟨_, .inr (.inr (.inr ⟨rfl, rfl⟩)), fun H1 Q E k r => ?_⟩, ⟨_, .inr (.inr (.inr ⟨rfl, rfl⟩)), fun H1 Q E k r => ?_⟩, ⟨_, .inr (.inr (.inr ⟨rfl, rfl⟩)), fun H1 Q E k r => ?_⟩⟩
    · exact ⟨_, _, false, false, rfl, (ho.ext k).bet (by decide), fun z => (by cases z), fun _ => r, fun z => (by cases z), fun z => (by cases z)⟩
    · exact ⟨_, _, true, false, rfl, .int (by decide) (by decide), fun _ => (ho.ext k).bet (by decide), fun z => (by cases z), fun _ => r, fun _ z => (by cases z)⟩
    · exact ⟨_, _, true, true, rfl, .int (by decide) (by decide), fun _ => .int (by decide) (by decide), fun z => (by cases z), fun _ => r, fun _ _ l h e1 e2 => by
        cases e1
        cases e2
        decide⟩

end

end NC
namespace NC
section
variable {P : Program} {w : World} {K : PySem.W.Frag} {mg : Str → Option Value} {base : Heap}

theorem eqvS (w : Str) : PyData.eqv (.str w) (.str w) = true := by simp [PyData.eqv]
/-- a row of a, b and the word -/
def RowA (K : PySem.W.Frag) (g : Addr) (z : V) (H : Hp) : Prop := ∃ (p : Addr) (a b : V) (w : Str), z = .ref p ∧ H p = some (.tup [a, b, .str w]) ∧ Asks K g a b w H ∧ SeqAt.shaped (PyData.str w) = true
def RowZ (K : PySem.W.Frag) (z : V) (H : Hp) : Prop := ∃ (p : Addr) (a b : V) (w : Str), z = .ref p ∧ H p = some (.tup [a, b, .str w]) ∧ (∀ H1 Q E, LamX.ExtN H H1 → RB K w H1 E → spx_zigzag K [a, b, .int 3] H1 Q E ∧ spx_zigzag_counts K [a, b] H1 Q E) ∧ SeqAt.shaped (PyData.str w) = true
def RowT (K : PySem.W.Frag) (v z : V) (H : Hp) : Prop := ∃ (p : Addr) (a b c : V) (w : Str), z = .ref p ∧ H p = some (.tup [a, b, c, .str w]) ∧ (∀ H1 Q E, LamX.ExtN H H1 → RB K w H1 E → spx_two_rows K [a, b, c, v] H1 Q E ∧ spx_two_rows_counts K [a, b, c] H1 Q E) ∧ SeqAt.shaped (PyData.str w) = true
theorem zig_asks {H : Hp} {v : V} (ho : Odd H v) {a b : V} {w : Str} (h : (a = v ∧ b = .int 3 ∧ w = "m") ∨ (a = .int 3 ∧ b = v ∧ w = "n") ∨ (a = .int 1 ∧ b = .int 3 ∧ w = "m") ∨ (a = .int 2 ∧ b = .int 1 ∧ w = "n")) : ∀ H1 Q E, LamX.ExtN H H1 → RB K w H1 E → spx_zigzag K [a, b, .int 3] H1 Q E ∧ spx_zigzag_counts K [a, b] H1 Q E := by
  intro H1 Q E k r
  rcases h with ⟨rfl, rfl, rfl⟩ | ⟨rfl, rfl, rfl⟩ | ⟨rfl, rfl, rfl⟩ | ⟨rfl, rfl, rfl⟩
  · exact ⟨⟨_, _, _, false, false, rfl, (ho.ext k).bet (by decide), fun z => (by cases z), fun _ => r, fun z => (by cases z), fun z => (by cases z)⟩, ⟨_, _, false, rfl, (ho.ext k).bet (by decide), fun z => (by cases z), fun _ => r, fun z => (by cases z)⟩⟩
  · exact ⟨⟨_, _, _, true, false, rfl, .int (by decide) (by decide), fun _ => (ho.ext k).bet (by decide), fun z => (by cases z), fun _ _ => r, fun _ z => (by cases z)⟩, ⟨_, _, true, rfl, .int (by decide) (by decide), fun _ => (ho.ext k).bet (by decide), fun z => (by cases z), fun _ => r⟩⟩
  · exact ⟨⟨_, _, _, false, false, rfl, .out (by decide), fun z => (by cases z), fun _ => r, fun z => (by cases z), fun z => (by cases z)⟩, ⟨_, _, false, rfl, .out (by decide), fun z => (by cases z), fun _ => r, fun z => (by cases z)⟩⟩
  · exact ⟨⟨_, _, _, true, false, rfl, .int (by decide) (by decide), fun _ => .out (by decide), fun z => (by cases z), fun _ _ => r, fun _ z => (by cases z)⟩, ⟨_, _, true, rfl, .int (by decide) (by decide), fun _ => .out (by decide), fun z => (by cases z), fun _ => r⟩⟩
theorem two_asks {H : Hp} {v : V} (ho : Odd H v) {a b c : V} {w : Str} (h : (a = v ∧ b = v ∧ c = v ∧ w = "m") ∨ (a = .int 1 ∧ b = v ∧ c = v ∧ w = "n") ∨ (a = .int 1 ∧ b = .int 1 ∧ c = v ∧ w = "shift")) : ∀ H1 Q E, LamX.ExtN H H1 → RB K w H1 E → spx_two_rows K [a, b, c, v] H1 Q E ∧ spx_two_rows_counts K [a, b, c] H1 Q E := by
  intro H1 Q E k r
  rcases h with ⟨rfl, rfl, rfl, rfl⟩ | ⟨rfl, rfl, rfl, rfl⟩ | ⟨rfl, rfl, rfl, rfl⟩
  · exact ⟨⟨_, _, _, _, false, false, false, rfl, (ho.ext k).bet (by decide), fun z => (by cases z), fun z => (by cases z), fun _ => r, fun z => (by cases z), fun z => (by cases z), fun z => (by cases z)⟩, ⟨_, _, _, false, false, rfl, (ho.ext k).bet (by decide), fun z => (by cases z), fun _ => r, fun z => (by cases z), fun z => (by cases z)⟩⟩
  · exact ⟨⟨_, _, _, _, true, false, false, rfl, .int (by decide) (by decide), fun _ => (ho.ext k).bet (by decide), fun _ z => (by cases z), fun z => (by cases z), fun _ _ => r, fun _ z => (by cases z), fun _ z => (by cases z)⟩, ⟨_, _, _, true, false, rfl, .int (by decide) (by decide), fun _ => (ho.ext k).bet (by decide), fun z => (by cases z), fun _ _ => r, fun _ z => (by cases z)⟩⟩
  · exact ⟨⟨_, _, _, _, true, true, false, rfl, .int (by decide) (by decide), fun _ => .int (by decide) (by decide), fun _ _ => (ho.ext k).bet (by decide), fun z => (by cases z), fun _ z => (by cases z), fun _ _ _ => r, fun _ _ z => (by cases z)⟩, ⟨_, _, _, true, true, rfl, .int (by decide) (by decide), fun _ => .int (by decide) (by decide), fun z => (by cases z), fun _ z => (by cases z), fun _ _ => ⟨(ho.ext k).bet (by decide), r⟩⟩⟩
def RowF (K : PySem.W.Frag) (z : V) : Prop := ∃ (d : PyData) (e : Bool), (∀ H', Dp K H' z d) ∧ SeqAt.shaped d = true ∧ PyData.eqv d (.int 1) = e ∧ ∀ H1 Q E, RB K "height" H1 E → spx_zigzag K [.int 300, .int 2, z] H1 Q E ∧ (e = false → spx_two_rows K [.int 300, .int 2, .int 0, z] H1 Q E)
theorem far_ni {z : V} (hn : ∀ H, NI H z) {H1 : Hp} {Q : VK} {E : XK} (r : RB K "height" H1 E) : spx_zigzag K [.int 300, .int 2, z] H1 Q E ∧ spx_two_rows K [.int 300, .int 2, .int 0, z] H1 Q E :=
  ⟨⟨_, _, _, true, true, rfl, .int (by decide) (by decide), fun _ => .int (by decide) (by decide), fun z => (by cases z), fun _ z => (by cases z), fun _ _ => .inl ⟨hn _, r⟩⟩,
   ⟨_, _, _, _, true, true, true, rfl, .int (by decide) (by decide), fun _ => .int (by decide) (by decide), fun _ _ => .int (by decide) (by decide), fun z => (by cases z), fun _ z => (by cases z), fun _ _ z => (by cases z), fun _ _ _ => .inl ⟨hn _, r⟩⟩⟩
theorem far_zi {i : Int} (hi : i < 2) {H1 : Hp} {Q : VK} {E : XK} (r : RB K "height" H1 E) : spx_zigzag K [.int 300, .int 2, .int i] H1 Q E :=
  ⟨_, _, _, true, true, rfl, .int (by decide) (by decide), fun _ => .int (by decide) (by decide), fun z => (by cases z), fun _ z => (by cases z), fun _ _ => .inr ⟨i, rfl, fun _ => r, fun z => absurd z (by omega)⟩⟩
theorem far_ti {i : Int} (hi : i < 1) {H1 : Hp} {Q : VK} {E : XK} (r : RB K "height" H1 E) : spx_two_rows K [.int 300, .int 2, .int 0, .int i] H1 Q E :=
  ⟨_, _, _, _, true, true, true, rfl, .int (by decide) (by decide), fun _ => .int (by decide) (by decide), fun _ _ => .int (by decide) (by decide), fun z => (by cases z), fun _ z => (by cases z), fun _ _ z => (by cases z), fun _ _ _ => .inr ⟨i, rfl, fun _ => r, fun z => absurd z (by omega)⟩⟩
theorem far_rows {z : V} (h : z ∈ [V.non, .int 1, .int 0, .int (-3), .bl true, .str "2"]) : RowF K z := by
  simp only [List.mem_cons, List.not_mem_nil, or_false] at h
  rcases h with rfl | rfl | rfl | rfl | rfl | rfl
  · exact ⟨.none, false, fun _ => .non, by decide +kernel, rfl, fun H1 Q E r => ⟨(far_ni (fun _ => .inl rfl) r).1, fun _ => (far_ni (fun _ => .inl rfl) r).2⟩⟩
  · exact ⟨.int 1, true, fun _ => .int _, by decide +kernel, rfl, fun H1 Q E r => ⟨far_zi (by decide) r, fun z => (by cases z)⟩⟩
  · exact ⟨.int 0, false, fun _ => .int _, by decide +kernel, rfl, fun H1 Q E r => ⟨far_zi (by decide) r, fun _ => far_ti (by decide) r⟩⟩
  · exact ⟨.int (-3), false, fun _ => .int _, by decide +kernel, rfl, fun H1 Q E r => ⟨far_zi (by decide) r, fun _ => far_ti (by decide) r⟩⟩
  · exact ⟨.bool true, true, fun _ => .bl _, by decide +kernel, rfl, fun H1 Q E r => ⟨(far_ni (fun _ => .inr (.inr (.inl ⟨_, rfl⟩))) r).1, fun _ => (far_ni (fun _ => .inr (.inr (.inl ⟨_, rfl⟩))) r).2⟩⟩
  · exact ⟨.str "2", false, fun _ => .str _, by decide +kernel, rfl, fun H1 Q E r => ⟨(far_ni (fun _ => .inr (.inl ⟨_, rfl⟩)) r).1, fun _ => (far_ni (fun _ => .inr (.inl ⟨_, rfl⟩)) r).2⟩⟩
def sp_law_words_right (K : PySem.W.Frag) : Sp := fun vs H Q _ => ∃ v : V, vs = [v] ∧ Odd H v ∧ LamX.Tabs (tbs K) H ∧ ∀ H', LamX.ExtN H H' → LamX.Tabs (tbs K) H' → Q (.bl true) H'
theorem ok_law_words_right (T : Tops K mg) (tb_law_words_right : LamX.TabB base mg (He.cT K ("_law_words_right", none)).1 (He.cT K ("_law_words_right", none)).2) : FnOk P w K mg base CX0 13 (He.ga K "_law_words_right") T.fd_law_words_right P_law_words_right (sp_law_words_right K) := by
  refine T.F_law_words_right.okC (p := ("_law_words_right", none)) rfl sc_law_words_right (fun vs H Q E h => ?_) (fun A outer s H vs Q E hr h => ?_)
  · obtain ⟨v, rfl, ho, ht, q⟩ := h
    rfl
  · obtain ⟨v, rfl, ho, ht, q⟩ := h
    refine ⟨_, PSs.nox ((pss_cons (ps_for PassesOwn.never rfl (pi_tupK K (pe_tup (pa_cons (pe_glob (v := .ref (He.ga K "grid")) rfl T.g_grid rfl) (pa_cons (pe_glob (v := .ref (He.ga K "grid_counts")) rfl T.g_grid_counts rfl) pa_nil)))) (pg_name (i := 3) sc_law_words_right.nd rfl (.inr rfl))
       (pss_one (ps_for PassesOwn.never rfl (pi_tupK K (pe_tup (pa_cons (pe_tup (pa_cons (pv 0) (pa_cons pe_non (pa_cons pe_str pa_nil)))) (pa_cons (pe_tup (pa_cons pe_int (pa_cons (pv 0) (pa_cons pe_str pa_nil)))) (pa_cons (pe_tup (pa_cons pe_int (pa_cons pe_int (pa_cons pe_str pa_nil)))) (pa_cons (pe_tup (pa_cons pe_int (pa_cons pe_int (pa_cons pe_str pa_nil)))) pa_nil)))))) (pg_tup rfl (pgs_cons (pg_name (i := 2) sc_law_words_right.nd rfl (.inr rfl)) (pgs_cons (pg_name (i := 4) sc_law_words_right.nd rfl (.inr rfl)) (pgs_cons (pg_name (i := 1) sc_law_words_right.nd rfl (.inl rfl)) pgs_nil))))
       (pss_one (ps_if (pt_cmpR (op_neDK K hr.units) (NCLam.pe_callL (kk := 8) (NCLam.acting0 (params := NCLam.lamP (NCLam.eAt (NCLam.eAt (NCLam.sExpr (NCLam.sBody (NCLam.sBody (NCLam.nth (defBody (top 35)) 0) 0) 0)) 0) 0)) (body := NCLam.lamB (NCLam.eAt (NCLam.eAt (NCLam.sExpr (NCLam.sBody (NCLam.sBody (NCLam.nth (defBody (top 35)) 0) 0) 0)) 0) 0)) (scope := NCLam.lamS (NCLam.eAt (NCLam.eAt (NCLam.sExpr (NCLam.sBody (NCLam.sBody (NCLam.nth (defBody (top 35)) 0) 0) 0)) 0) 0)) (k := 7) (fun _ => rfl) (NCLam.lamN_by (show NCLam.lamNB N_law_words_right (defScope (top 35)) _ = true by decide +kernel)) (fun _ _ _ => rfl) (fun B A outer s H E f c' hr => (NCLam.pe_callR (i := 3) (R := (RR K)) (rr_held T) (hr.mono (by decide)) rfl (.inr (.inr rfl)) (passes_call (takes_of rfl rfl rfl rfl) (fun _ _ _ _ h => h)) (pa_cons (pv 2) (pa_cons (pv 4) pa_nil))))) (fun base al ha => ok_law_said T ha) (hr.mono (by decide)) (by rfl) T.g_law_said T.F_law_said.kp (b_law_said T) (pa_cons (NCLam.pe_lamV (T := tbs K) tb_law_words_right rfl (mem_law_words_right K) (uniq_law_words_right T) (NCLam.lamN_by (show NCLam.lamNB N_law_words_right (defScope (top 35)) _ = true by decide +kernel)) rfl) pa_nil)) (pv 1) (nomark _))
       (pss_one (ps_ret pe_bl))
       pss_nil)))))
       (pss_cons (ps_for PassesOwn.never rfl (pi_tupK K (pe_tup (pa_cons (pe_glob (v := .ref (He.ga K "parabola")) rfl T.g_parabola rfl) (pa_cons (pe_glob (v := .ref (He.ga K "parabola_counts")) rfl T.g_parabola_counts rfl) pa_nil)))) (pg_name (i := 3) sc_law_words_right.nd rfl (.inr rfl))
       (pss_one (ps_for PassesOwn.never rfl (pi_tupK K (pe_tup (pa_cons (pe_tup (pa_cons (pv 0) (pa_cons pe_non (pa_cons pe_str pa_nil)))) (pa_cons (pe_tup (pa_cons pe_int (pa_cons (pv 0) (pa_cons pe_str pa_nil)))) (pa_cons (pe_tup (pa_cons pe_int (pa_cons pe_int (pa_cons pe_str pa_nil)))) pa_nil))))) (pg_tup rfl (pgs_cons (pg_name (i := 2) sc_law_words_right.nd rfl (.inr rfl)) (pgs_cons (pg_name (i := 4) sc_law_words_right.nd rfl (.inr rfl)) (pgs_cons (pg_name (i := 1) sc_law_words_right.nd rfl (.inl rfl)) pgs_nil))))
       (pss_one (ps_if (pt_cmpR (op_neDK K hr.units) (NCLam.pe_callL (kk := 8) (NCLam.acting0 (params := NCLam.lamP (NCLam.eAt (NCLam.eAt (NCLam.sExpr (NCLam.sBody (NCLam.sBody (NCLam.nth (defBody (top 35)) 1) 0) 0)) 0) 0)) (body := NCLam.lamB (NCLam.eAt (NCLam.eAt (NCLam.sExpr (NCLam.sBody (NCLam.sBody (NCLam.nth (defBody (top 35)) 1) 0) 0)) 0) 0)) (scope := NCLam.lamS (NCLam.eAt (NCLam.eAt (NCLam.sExpr (NCLam.sBody (NCLam.sBody (NCLam.nth (defBody (top 35)) 1) 0) 0)) 0) 0)) (k := 7) (fun _ => rfl) (NCLam.lamN_by (show NCLam.lamNB N_law_words_right (defScope (top 35)) _ = true by decide +kernel)) (fun _ _ _ => rfl) (fun B A outer s H E f c' hr => (NCLam.pe_callR (i := 3) (R := (RR K)) (rr_held T) (hr.mono (by decide)) rfl (.inr (.inr rfl)) (passes_call (takes_of rfl rfl rfl rfl) (fun _ _ _ _ h => h)) (pa_cons (pv 2) (pa_cons (pv 4) pa_nil))))) (fun base al ha => ok_law_said T ha) (hr.mono (by decide)) (by rfl) T.g_law_said T.F_law_said.kp (b_law_said T) (pa_cons (NCLam.pe_lamV (T := tbs K) tb_law_words_right rfl (mem_law_words_right K) (uniq_law_words_right T) (NCLam.lamN_by (show NCLam.lamNB N_law_words_right (defScope (top 35)) _ = true by decide +kernel)) rfl) pa_nil)) (pv 1) (nomark _))
       (pss_one (ps_ret pe_bl))
       pss_nil)))))
       (pss_cons (ps_for PassesOwn.never rfl (pi_tupK K (pe_tup (pa_cons (pe_tup (pa_cons (pv 0) (pa_cons pe_int (pa_cons pe_str pa_nil)))) (pa_cons (pe_tup (pa_cons pe_int (pa_cons (pv 0) (pa_cons pe_str pa_nil)))) (pa_cons (pe_tup (pa_cons pe_int (pa_cons pe_int (pa_cons pe_str pa_nil)))) (pa_cons (pe_tup (pa_cons pe_int (pa_cons pe_int (pa_cons pe_str pa_nil)))) pa_nil)))))) (pg_tup rfl (pgs_cons (pg_name (i := 2) sc_law_words_right.nd rfl (.inr rfl)) (pgs_cons (pg_name (i := 4) sc_law_words_right.nd rfl (.inr rfl)) (pgs_cons (pg_name (i := 1) sc_law_words_right.nd rfl (.inl rfl)) pgs_nil))))
       (pss_one (ps_if (PW.pt (pw_or (pt_cmpR (op_neDK K hr.units) (NCLam.pe_callL (kk := 8) (NCLam.acting0 (params := NCLam.lamP (NCLam.eAt (NCLam.eAt (NCLam.eAt (NCLam.sExpr (NCLam.sBody (NCLam.nth (defBody (top 35)) 2) 0)) 0) 0) 0)) (body := NCLam.lamB (NCLam.eAt (NCLam.eAt (NCLam.eAt (NCLam.sExpr (NCLam.sBody (NCLam.nth (defBody (top 35)) 2) 0)) 0) 0) 0)) (scope := NCLam.lamS (NCLam.eAt (NCLam.eAt (NCLam.eAt (NCLam.sExpr (NCLam.sBody (NCLam.nth (defBody (top 35)) 2) 0)) 0) 0) 0)) (k := 7) (fun _ => rfl) (NCLam.lamN_by (show NCLam.lamNB N_law_words_right (defScope (top 35)) _ = true by decide +kernel)) (fun _ _ _ => rfl) (fun B A outer s H E f c' hr => (pe_call (okx_zigzag T) (hr.mono (by decide)) (by rfl) T.g_zigzag T.F_zigzag.kp (b_zigzag T) .nil (passes_call (takes_of rfl rfl rfl rfl) (fun _ _ _ _ h => h)) (pa_cons (pv 2) (pa_cons (pv 4) (pa_cons pe_int pa_nil)))))) (fun base al ha => ok_law_said T ha) (hr.mono (by decide)) (by rfl) T.g_law_said T.F_law_said.kp (b_law_said T) (pa_cons (NCLam.pe_lamV (T := tbs K) tb_law_words_right rfl (mem_law_words_right K) (uniq_law_words_right T) (NCLam.lamN_by (show NCLam.lamNB N_law_words_right (defScope (top 35)) _ = true by decide +kernel)) rfl) pa_nil)) (pv 1) (nomark _)) (pw_or1 (pt_cmpR (op_neDK K hr.units) (NCLam.pe_callL (kk := 8) (NCLam.acting1 (params := NCLam.lamP (NCLam.eAt (NCLam.eAt (NCLam.eAt (NCLam.sExpr (NCLam.sBody (NCLam.nth (defBody (top 35)) 2) 0)) 1) 0) 0)) (body := NCLam.lamB (NCLam.eAt (NCLam.eAt (NCLam.eAt (NCLam.sExpr (NCLam.sBody (NCLam.nth (defBody (top 35)) 2) 0)) 1) 0) 0)) (scope := NCLam.lamS (NCLam.eAt (NCLam.eAt (NCLam.eAt (NCLam.sExpr (NCLam.sBody (NCLam.nth (defBody (top 35)) 2) 0)) 1) 0) 0)) (k := 7) (i := 0) (x := "_law_of") (fun _ => rfl) (NCLam.lamN_by (show NCLam.lamNB N_law_words_right (defScope (top 35)) _ = true by decide +kernel)) rfl (fun _ _ _ _ _ => ⟨_, rfl, rfl⟩) (fun B A outer s H E f c' hr => (pe_call (okx_zigzag_counts T) (hr.mono (by decide)) (by rfl) T.g_zigzag_counts T.F_zigzag_counts.kp (b_zigzag_counts T) .nil (passes_call (takes_of rfl rfl rfl rfl) (fun _ _ _ _ h => h)) (pa_cons (pv 2) (pa_cons (pv 4) pa_nil))))) (fun base al ha => ok_law_said T ha) (hr.mono (by decide)) (by rfl) T.g_law_said T.F_law_said.kp (b_law_said T) (pa_cons (NCLam.pe_lamVD (T := tbs K) tb_law_words_right rfl (mem_law_words_right K) (uniq_law_words_right T) (NCLam.lamN_by (show NCLam.lamNB N_law_words_right (defScope (top 35)) _ = true by decide +kernel)) rfl) pa_nil)) (pv 1) (nomark _)))))
       (pss_one (ps_ret pe_bl))
       pss_nil)))
       (pss_cons (ps_for PassesOwn.never rfl (pi_tupK K (pe_tup (pa_cons (pe_tup (pa_cons (pv 0) (pa_cons (pv 0) (pa_cons (pv 0) (pa_cons pe_str pa_nil))))) (pa_cons (pe_tup (pa_cons pe_int (pa_cons (pv 0) (pa_cons (pv 0) (pa_cons pe_str pa_nil))))) (pa_cons (pe_tup (pa_cons pe_int (pa_cons pe_int (pa_cons (pv 0) (pa_cons pe_str pa_nil))))) pa_nil))))) (pg_tup rfl (pgs_cons (pg_name (i := 2) sc_law_words_right.nd rfl (.inr rfl)) (pgs_cons (pg_name (i := 4) sc_law_words_right.nd rfl (.inr rfl)) (pgs_cons (pg_name (i := 5) sc_law_words_right.nd rfl (.inr rfl)) (pgs_cons (pg_name (i := 1) sc_law_words_right.nd rfl (.inl rfl)) pgs_nil)))))
       (pss_cons (ps_if (pt_cmpR (op_neDK K hr.units) (NCLam.pe_callL (kk := 8) (NCLam.acting0 (params := NCLam.lamP (NCLam.eAt (NCLam.eAt (NCLam.sExpr (NCLam.sBody (NCLam.nth (defBody (top 35)) 3) 0)) 0) 0)) (body := NCLam.lamB (NCLam.eAt (NCLam.eAt (NCLam.sExpr (NCLam.sBody (NCLam.nth (defBody (top 35)) 3) 0)) 0) 0)) (scope := NCLam.lamS (NCLam.eAt (NCLam.eAt (NCLam.sExpr (NCLam.sBody (NCLam.nth (defBody (top 35)) 3) 0)) 0) 0)) (k := 7) (fun _ => rfl) (NCLam.lamN_by (show NCLam.lamNB N_law_words_right (defScope (top 35)) _ = true by decide +kernel)) (fun _ _ _ => rfl) (fun B A outer s H E f c' hr => (pe_call (okx_two_rows T) (hr.mono (by decide)) (by rfl) T.g_two_rows T.F_two_rows.kp (b_two_rows T) .nil (passes_call (takes_of rfl rfl rfl rfl) (fun _ _ _ _ h => h)) (pa_cons (pv 2) (pa_cons (pv 4) (pa_cons (pv 5) (pa_cons (pv 0) pa_nil))))))) (fun base al ha => ok_law_said T ha) (hr.mono (by decide)) (by rfl) T.g_law_said T.F_law_said.kp (b_law_said T) (pa_cons (NCLam.pe_lamV (T := tbs K) tb_law_words_right rfl (mem_law_words_right K) (uniq_law_words_right T) (NCLam.lamN_by (show NCLam.lamNB N_law_words_right (defScope (top 35)) _ = true by decide +kernel)) rfl) pa_nil)) (pv 1) (nomark _))
       (pss_one (ps_ret pe_bl))
       pss_nil)
       (pss_one (ps_if (pt_cmpR (op_neDK K hr.units) (NCLam.pe_callL (kk := 8) (NCLam.acting0 (params := NCLam.lamP (NCLam.eAt (NCLam.eAt (NCLam.sExpr (NCLam.sBody (NCLam.nth (defBody (top 35)) 3) 1)) 0) 0)) (body := NCLam.lamB (NCLam.eAt (NCLam.eAt (NCLam.sExpr (NCLam.sBody (NCLam.nth (defBody (top 35)) 3) 1)) 0) 0)) (scope := NCLam.lamS (NCLam.eAt (NCLam.eAt (NCLam.sExpr (NCLam.sBody (NCLam.nth (defBody (top 35)) 3) 1)) 0) 0)) (k := 7) (fun _ => rfl) (NCLam.lamN_by (show NCLam.lamNB N_law_words_right (defScope (top 35)) _ = true by decide +kernel)) (fun _ _ _ => rfl) (fun B A outer s H E f c' hr => (pe_call (okx_two_rows_counts T) (hr.mono (by decide)) (by rfl) T.g_two_rows_counts T.F_two_rows_counts.kp (b_two_rows_counts T) .nil (passes_call (takes_of rfl rfl rfl rfl) (fun _ _ _ _ h => h)) (pa_cons (pv 2) (pa_cons (pv 4) (pa_cons (pv 5) pa_nil)))))) (fun base al ha => ok_law_said T ha) (hr.mono (by decide)) (by rfl) T.g_law_said T.F_law_said.kp (b_law_said T) (pa_cons (NCLam.pe_lamV (T := tbs K) tb_law_words_right rfl (mem_law_words_right K) (uniq_law_words_right T) (NCLam.lamN_by (show NCLam.lamNB N_law_words_right (defScope (top 35)) _ = true by decide +kernel)) rfl) pa_nil)) (pv 1) (nomark _))
       (pss_one (ps_ret pe_bl))
       pss_nil))))
       (pss_cons (ps_for PassesOwn.never rfl (pi_tupK K (pe_tup (pa_cons pe_non (pa_cons pe_int (pa_cons pe_int (pa_cons (pe_un un_neg pe_int) (pa_cons pe_bl (pa_cons pe_str pa_nil)))))))) (pg_name (i := 6) sc_law_words_right.nd rfl (.inr rfl))
       (pss_cons (ps_if (pt_cmpR (op_neDK K hr.units) (NCLam.pe_callL (kk := 8) (NCLam.acting0 (params := NCLam.lamP (NCLam.eAt (NCLam.eAt (NCLam.sExpr (NCLam.sBody (NCLam.nth (defBody (top 35)) 4) 0)) 0) 0)) (body := NCLam.lamB (NCLam.eAt (NCLam.eAt (NCLam.sExpr (NCLam.sBody (NCLam.nth (defBody (top 35)) 4) 0)) 0) 0)) (scope := NCLam.lamS (NCLam.eAt (NCLam.eAt (NCLam.sExpr (NCLam.sBody (NCLam.nth (defBody (top 35)) 4) 0)) 0) 0)) (k := 7) (fun _ => rfl) (NCLam.lamN_by (show NCLam.lamNB N_law_words_right (defScope (top 35)) _ = true by decide +kernel)) (fun _ _ _ => rfl) (fun B A outer s H E f c' hr => (pe_call (okx_zigzag T) (hr.mono (by decide)) (by rfl) T.g_zigzag T.F_zigzag.kp (b_zigzag T) .nil (passes_call (takes_of rfl rfl rfl rfl) (fun _ _ _ _ h => h)) (pa_cons pe_int (pa_cons pe_int (pa_cons (pv 6) pa_nil)))))) (fun base al ha => ok_law_said T ha) (hr.mono (by decide)) (by rfl) T.g_law_said T.F_law_said.kp (b_law_said T) (pa_cons (NCLam.pe_lamV (T := tbs K) tb_law_words_right rfl (mem_law_words_right K) (uniq_law_words_right T) (NCLam.lamN_by (show NCLam.lamNB N_law_words_right (defScope (top 35)) _ = true by decide +kernel)) rfl) pa_nil)) pe_str (nomark _))
       (pss_one (ps_ret pe_bl))
       pss_nil)
       (pss_one (ps_if (PW.pt (pw_and (pt_cmpR (op_neDK K hr.units) (pv 6) pe_int (nomark _)) (pw_and1 (pt_cmpR (op_neDK K hr.units) (NCLam.pe_callL (kk := 8) (NCLam.acting0 (params := NCLam.lamP (NCLam.eAt (NCLam.eAt (NCLam.eAt (NCLam.sExpr (NCLam.sBody (NCLam.nth (defBody (top 35)) 4) 1)) 1) 0) 0)) (body := NCLam.lamB (NCLam.eAt (NCLam.eAt (NCLam.eAt (NCLam.sExpr (NCLam.sBody (NCLam.nth (defBody (top 35)) 4) 1)) 1) 0) 0)) (scope := NCLam.lamS (NCLam.eAt (NCLam.eAt (NCLam.eAt (NCLam.sExpr (NCLam.sBody (NCLam.nth (defBody (top 35)) 4) 1)) 1) 0) 0)) (k := 7) (fun _ => rfl) (NCLam.lamN_by (show NCLam.lamNB N_law_words_right (defScope (top 35)) _ = true by decide +kernel)) (fun _ _ _ => rfl) (fun B A outer s H E f c' hr => (pe_call (okx_two_rows T) (hr.mono (by decide)) (by rfl) T.g_two_rows T.F_two_rows.kp (b_two_rows T) .nil (passes_call (takes_of rfl rfl rfl rfl) (fun _ _ _ _ h => h)) (pa_cons pe_int (pa_cons pe_int (pa_cons pe_int (pa_cons (pv 6) pa_nil))))))) (fun base al ha => ok_law_said T ha) (hr.mono (by decide)) (by rfl) T.g_law_said T.F_law_said.kp (b_law_said T) (pa_cons (NCLam.pe_lamV (T := tbs K) tb_law_words_right rfl (mem_law_words_right K) (uniq_law_words_right T) (NCLam.lamN_by (show NCLam.lamNB N_law_words_right (defScope (top 35)) _ = true by decide +kernel)) rfl) pa_nil)) pe_str (nomark _)))))
       (pss_one (ps_ret pe_bl))
       pss_nil))))
       (pss_one (ps_ret pe_bl)))))))), ?_⟩
    rw [st_law_words_right]
    have hoS := ho
    have tbS := ht
    have xqS := LamX.ExtN.refl H
    revert hoS tbS xqS
    generalize hHS : H = HS
    have xX : LamX.ExtN H HS := by rw [hHS]; exact .refl _
    intro hoS tbS xqS
    replace xqS := xX
    clear hHS xX
    walk_at "rd"
    refine ⟨len_le (n := 2) (by decide), fun t0 ht0 => ?_⟩
    have k0 := same_new (o := .tup [.ref (He.ga K "grid"), .ref (He.ga K "grid_counts")]) ht0
    have e0 : (upd HS t0 (.tup [.ref (He.ga K "grid"), .ref (He.ga K "grid_counts")])) t0 = some (.tup [.ref (He.ga K "grid"), .ref (He.ga K "grid_counts")]) := upd_same
    have ho0 := hoS.ext (.of k0)
    have tb0 := tbS.ext k0
    have xq0 := xqS.trans (.of k0)
    generalize upd HS t0 (.tup [.ref (He.ga K "grid"), .ref (He.ga K "grid_counts")]) = H0 at k0 e0 ho0 tb0 xq0 ⊢
    clear hoS tbS xqS
    refine ⟨t0, rfl, ⟨_, SqT.of e0⟩, ?_⟩
    refine for_tup (K := K) (a := t0) (xs := [.ref (He.ga K "grid"), .ref (He.ga K "grid_counts")]) (fun i σ H' => (∃ y1 y2 y3 y4 y5 y6, σ = [some v, y1, y2, y3, y4, y5, y6]) ∧ LamX.ExtN H0 H' ∧ LamX.Tabs (tbs K) H') ⟨⟨_, _, _, _, _, _, rfl⟩, .refl _, tb0⟩ (fun i σ H' _ h => SqT.of (h.2.1 _ _ e0 (fun _ z => by cases z))) ?_ ?_
    · rintro i z σ H1 hz ⟨⟨y1, y2, y3, y4, y5, y6, rfl⟩, x1, tb1⟩
      have hg : ∃ g, z = V.ref g ∧ (g = He.ga K "grid" ∨ g = He.ga K "grid_counts") := by
        match i, hz with
        | 0, hz => exact ⟨_, (Option.some.inj hz).symm, .inl rfl⟩
        | 1, hz => exact ⟨_, (Option.some.inj hz).symm, .inr rfl⟩
      obtain ⟨g, rfl, hg⟩ := hg
      have ho1 := ho0.ext x1
      walk_at "rd"
      refine ⟨len_le (n := 3) (by decide), fun c0 hc0 => ?_⟩
      walk_at "rd"
      refine ⟨len_le (n := 3) (by decide), fun c1 hc1 => ?_⟩
      walk_at "rd"
      refine ⟨len_le (n := 3) (by decide), fun c2 hc2 => ?_⟩
      walk_at "rd"
      refine ⟨len_le (n := 3) (by decide), fun c3 hc3 => ?_⟩
      refine ⟨len_le (n := 4) (by decide), fun tt htt => ?_⟩
      have q0 := same_new (o := .tup [v, .non, .str "m"]) hc0
      have q1 := same_new (o := .tup [.int 3, v, .str "n"]) hc1
      have q2 := same_new (o := .tup [.int 0, .int 0, .str "m"]) hc2
      have q3 := same_new (o := .tup [.int 1, .int 0, .str "n"]) hc3
      have q4 := same_new (o := .tup [.ref c0, .ref c1, .ref c2, .ref c3]) htt
      have f3 := q4 _ _ (upd_same (H := upd (upd (upd H1 c0 (.tup [v, .non, .str "m"])) c1 (.tup [.int 3, v, .str "n"])) c2 (.tup [.int 0, .int 0, .str "m"])) (a := c3) (o := .tup [.int 1, .int 0, .str "n"]))
      have f2 := (q3.trans q4) _ _ (upd_same (H := upd (upd H1 c0 (.tup [v, .non, .str "m"])) c1 (.tup [.int 3, v, .str "n"])) (a := c2) (o := .tup [.int 0, .int 0, .str "m"]))
      have f1 := (q2.trans (q3.trans q4)) _ _ (upd_same (H := upd H1 c0 (.tup [v, .non, .str "m"])) (a := c1) (o := .tup [.int 3, v, .str "n"]))
      have f0 := (q1.trans (q2.trans (q3.trans q4))) _ _ (upd_same (H := H1) (a := c0) (o := .tup [v, .non, .str "m"]))
      have ft := upd_same (H := upd (upd (upd (upd H1 c0 (.tup [v, .non, .str "m"])) c1 (.tup [.int 3, v, .str "n"])) c2 (.tup [.int 0, .int 0, .str "m"])) c3 (.tup [.int 1, .int 0, .str "n"])) (a := tt) (o := .tup [.ref c0, .ref c1, .ref c2, .ref c3])
      have qq := (q0.trans (q1.trans (q2.trans (q3.trans q4))))
      clear q0 q1 q2 q3 q4
      generalize upd (upd (upd (upd (upd H1 c0 (.tup [v, .non, .str "m"])) c1 (.tup [.int 3, v, .str "n"])) c2 (.tup [.int 0, .int 0, .str "m"])) c3 (.tup [.int 1, .int 0, .str "n"])) tt (.tup [.ref c0, .ref c1, .ref c2, .ref c3]) = H2 at f0 f1 f2 f3 ft qq ⊢
      obtain ⟨s0, s1, s2, s3⟩ := grid_asks (K := K) (ho1.ext (.of qq)) hg
      have rows : ∀ z ∈ [V.ref c0, .ref c1, .ref c2, .ref c3], RowA K g z H2 := by
        intro z hz
        simp only [List.mem_cons, List.not_mem_nil, or_false] at hz
        rcases hz with rfl | rfl | rfl | rfl
        · exact ⟨_, _, _, _, rfl, f0, s0, by decide +kernel⟩
        · exact ⟨_, _, _, _, rfl, f1, s1, by decide +kernel⟩
        · exact ⟨_, _, _, _, rfl, f2, s2, by decide +kernel⟩
        · exact ⟨_, _, _, _, rfl, f3, s3, by decide +kernel⟩
      walk_at "nm"
      refine ⟨tt, rfl, ⟨_, SqT.of ft⟩, ?_⟩
      refine for_tup (K := K) (a := tt) (xs := [.ref c0, .ref c1, .ref c2, .ref c3]) (fun i σ H' => (∃ y1 y2 y4 y5 y6, σ = [some v, y1, y2, some (.ref g), y4, y5, y6]) ∧ LamX.ExtN H2 H' ∧ LamX.Tabs (tbs K) H') ⟨⟨y1, y2, y4, y5, y6, rfl⟩, .refl _, tb1.ext qq⟩ (fun i σ H' _ h => SqT.of (h.2.1 _ _ ft (fun _ z => by cases z))) ?_ ?_
      · rintro i z σ H3 hz ⟨⟨y1, y2, y4, y5, y6, rfl⟩, x3, tb3⟩
        obtain ⟨pr, a, b, w, rfl, ep, as, sh⟩ := rows z (List.mem_of_getElem? hz)
        have ep3 := x3 _ _ ep (fun _ z => by cases z)
        obtain ⟨sp, hR, hsp⟩ := as.ext x3
        walk_at "rd"
        refine ⟨tb3, fun f H4 x4 t4 nf hf => ?_⟩
        walk_at "rd"
        refine ⟨f, rfl, hf, NCLam.g_callR rfl hR ?_⟩
        walk_at "rd"
        refine hsp H4 _ _ x4 (rb_said fun H5 h5 => ?_)
        walk_at "rd"
        refine ⟨_, _, .str w, .str w, sh, sh, ?_⟩
        rw [eqvS]
        walk_at "rd"
        refine iteF ?_
        walk_at "nm"
        exact ⟨⟨_, _, _, _, _, rfl⟩, x3.trans (x4.trans (.of h5)), t4.ext h5⟩
      · rintro σ H3 ⟨⟨y1, y2, y4, y5, y6, rfl⟩, x3, tb3⟩
        exact ⟨⟨_, _, _, _, _, _, rfl⟩, x1.trans ((LamX.ExtN.of qq).trans x3), tb3⟩
    rintro σS HS ⟨⟨y1, y2, y3, y4, y5, y6, rfl⟩, x1, tbS⟩
    have hoS := ho0.ext x1
    have xqS := xq0.trans x1
    clear x1 e0 k0 ho0 xq0 tb0
    walk_at "rd"
    refine ⟨len_le (n := 2) (by decide), fun t0 ht0 => ?_⟩
    have k0 := same_new (o := .tup [.ref (He.ga K "parabola"), .ref (He.ga K "parabola_counts")]) ht0
    have e0 : (upd HS t0 (.tup [.ref (He.ga K "parabola"), .ref (He.ga K "parabola_counts")])) t0 = some (.tup [.ref (He.ga K "parabola"), .ref (He.ga K "parabola_counts")]) := upd_same
    have ho0 := hoS.ext (.of k0)
    have tb0 := tbS.ext k0
    have xq0 := xqS.trans (.of k0)
    generalize upd HS t0 (.tup [.ref (He.ga K "parabola"), .ref (He.ga K "parabola_counts")]) = H0 at k0 e0 ho0 tb0 xq0 ⊢
    clear hoS tbS xqS
    refine ⟨t0, rfl, ⟨_, SqT.of e0⟩, ?_⟩
    refine for_tup (K := K) (a := t0) (xs := [.ref (He.ga K "parabola"), .ref (He.ga K "parabola_counts")]) (fun i σ H' => (∃ y1 y2 y3 y4 y5 y6, σ = [some v, y1, y2, y3, y4, y5, y6]) ∧ LamX.ExtN H0 H' ∧ LamX.Tabs (tbs K) H') ⟨⟨_, _, _, _, _, _, rfl⟩, .refl _, tb0⟩ (fun i σ H' _ h => SqT.of (h.2.1 _ _ e0 (fun _ z => by cases z))) ?_ ?_
    · rintro i z σ H1 hz ⟨⟨y1, y2, y3, y4, y5, y6, rfl⟩, x1, tb1⟩
      have hg : ∃ g, z = V.ref g ∧ (g = He.ga K "parabola" ∨ g = He.ga K "parabola_counts") := by
        match i, hz with
        | 0, hz => exact ⟨_, (Option.some.inj hz).symm, .inl rfl⟩
        | 1, hz => exact ⟨_, (Option.some.inj hz).symm, .inr rfl⟩
      obtain ⟨g, rfl, hg⟩ := hg
      have ho1 := ho0.ext x1
      walk_at "rd"
      refine ⟨len_le (n := 3) (by decide), fun c0 hc0 => ?_⟩
      walk_at "rd"
      refine ⟨len_le (n := 3) (by decide), fun c1 hc1 => ?_⟩
      walk_at "rd"
      refine ⟨len_le (n := 3) (by decide), fun c2 hc2 => ?_⟩
      refine ⟨len_le (n := 3) (by decide), fun tt htt => ?_⟩
      have q0 := same_new (o := .tup [v, .non, .str "low"]) hc0
      have q1 := same_new (o := .tup [.int 3, v, .str "high"]) hc1
      have q2 := same_new (o := .tup [.int 3, .int 2, .str "high"]) hc2
      have q3 := same_new (o := .tup [.ref c0, .ref c1, .ref c2]) htt
      have f2 := q3 _ _ (upd_same (H := upd (upd H1 c0 (.tup [v, .non, .str "low"])) c1 (.tup [.int 3, v, .str "high"])) (a := c2) (o := .tup [.int 3, .int 2, .str "high"]))
      have f1 := (q2.trans q3) _ _ (upd_same (H := upd H1 c0 (.tup [v, .non, .str "low"])) (a := c1) (o := .tup [.int 3, v, .str "high"]))
      have f0 := (q1.trans (q2.trans q3)) _ _ (upd_same (H := H1) (a := c0) (o := .tup [v, .non, .str "low"]))
      have ft := upd_same (H := upd (upd (upd H1 c0 (.tup [v, .non, .str "low"])) c1 (.tup [.int 3, v, .str "high"])) c2 (.tup [.int 3, .int 2, .str "high"])) (a := tt) (o := .tup [.ref c0, .ref c1, .ref c2])
      have qq := (q0.trans (q1.trans (q2.trans q3)))
      clear q0 q1 q2 q3
      generalize upd (upd (upd (upd H1 c0 (.tup [v, .non, .str "low"])) c1 (.tup [.int 3, v, .str "high"])) c2 (.tup [.int 3, .int 2, .str "high"])) tt (.tup [.ref c0, .ref c1, .ref c2]) = H2 at f0 f1 f2 ft qq ⊢
      obtain ⟨s0, s1, s2⟩ := par_asks (K := K) (ho1.ext (.of qq)) hg
      have rows : ∀ z ∈ [V.ref c0, .ref c1, .ref c2], RowA K g z H2 := by
        intro z hz
        simp only [List.mem_cons, List.not_mem_nil, or_false] at hz
        rcases hz with rfl | rfl | rfl
        · exact ⟨_, _, _, _, rfl, f0, s0, by decide +kernel⟩
        · exact ⟨_, _, _, _, rfl, f1, s1, by decide +kernel⟩
        · exact ⟨_, _, _, _, rfl, f2, s2, by decide +kernel⟩
      walk_at "nm"
      refine ⟨tt, rfl, ⟨_, SqT.of ft⟩, ?_⟩
      refine for_tup (K := K) (a := tt) (xs := [.ref c0, .ref c1, .ref c2]) (fun i σ H' => (∃ y1 y2 y4 y5 y6, σ = [some v, y1, y2, some (.ref g), y4, y5, y6]) ∧ LamX.ExtN H2 H' ∧ LamX.Tabs (tbs K) H') ⟨⟨y1, y2, y4, y5, y6, rfl⟩, .refl _, tb1.ext qq⟩ (fun i σ H' _ h => SqT.of (h.2.1 _ _ ft (fun _ z => by cases z))) ?_ ?_
      · rintro i z σ H3 hz ⟨⟨y1, y2, y4, y5, y6, rfl⟩, x3, tb3⟩
        obtain ⟨pr, a, b, w, rfl, ep, as, sh⟩ := rows z (List.mem_of_getElem? hz)
        have ep3 := x3 _ _ ep (fun _ z => by cases z)
        obtain ⟨sp, hR, hsp⟩ := as.ext x3
        walk_at "rd"
        refine ⟨tb3, fun f H4 x4 t4 nf hf => ?_⟩
        walk_at "rd"
        refine ⟨f, rfl, hf, NCLam.g_callR rfl hR ?_⟩
        walk_at "rd"
        refine hsp H4 _ _ x4 (rb_said fun H5 h5 => ?_)
        walk_at "rd"
        refine ⟨_, _, .str w, .str w, sh, sh, ?_⟩
        rw [eqvS]
        walk_at "rd"
        refine iteF ?_
        walk_at "nm"
        exact ⟨⟨_, _, _, _, _, rfl⟩, x3.trans (x4.trans (.of h5)), t4.ext h5⟩
      · rintro σ H3 ⟨⟨y1, y2, y4, y5, y6, rfl⟩, x3, tb3⟩
        exact ⟨⟨_, _, _, _, _, _, rfl⟩, x1.trans ((LamX.ExtN.of qq).trans x3), tb3⟩
    rintro σS HS ⟨⟨y1, y2, y3, y4, y5, y6, rfl⟩, x1, tbS⟩
    have hoS := ho0.ext x1
    have xqS := xq0.trans x1
    clear x1 e0 k0 ho0 xq0 tb0
    walk_at "rd"
    refine ⟨len_le (n := 3) (by decide), fun c0 hc0 => ?_⟩
    walk_at "rd"
    refine ⟨len_le (n := 3) (by decide), fun c1 hc1 => ?_⟩
    walk_at "rd"
    refine ⟨len_le (n := 3) (by decide), fun c2 hc2 => ?_⟩
    walk_at "rd"
    refine ⟨len_le (n := 3) (by decide), fun c3 hc3 => ?_⟩
    refine ⟨len_le (n := 4) (by decide), fun tt htt => ?_⟩
    have q0 := same_new (o := .tup [v, .int 3, .str "m"]) hc0
    have q1 := same_new (o := .tup [.int 3, v, .str "n"]) hc1
    have q2 := same_new (o := .tup [.int 1, .int 3, .str "m"]) hc2
    have q3 := same_new (o := .tup [.int 2, .int 1, .str "n"]) hc3
    have q4 := same_new (o := .tup [.ref c0, .ref c1, .ref c2, .ref c3]) htt
    have f3 := q4 _ _ (upd_same (H := upd (upd (upd HS c0 (.tup [v, .int 3, .str "m"])) c1 (.tup [.int 3, v, .str "n"])) c2 (.tup [.int 1, .int 3, .str "m"])) (a := c3) (o := .tup [.int 2, .int 1, .str "n"]))
    have f2 := (q3.trans q4) _ _ (upd_same (H := upd (upd HS c0 (.tup [v, .int 3, .str "m"])) c1 (.tup [.int 3, v, .str "n"])) (a := c2) (o := .tup [.int 1, .int 3, .str "m"]))
    have f1 := (q2.trans (q3.trans q4)) _ _ (upd_same (H := upd HS c0 (.tup [v, .int 3, .str "m"])) (a := c1) (o := .tup [.int 3, v, .str "n"]))
    have f0 := (q1.trans (q2.trans (q3.trans q4))) _ _ (upd_same (H := HS) (a := c0) (o := .tup [v, .int 3, .str "m"]))
    have ft := upd_same (H := upd (upd (upd (upd HS c0 (.tup [v, .int 3, .str "m"])) c1 (.tup [.int 3, v, .str "n"])) c2 (.tup [.int 1, .int 3, .str "m"])) c3 (.tup [.int 2, .int 1, .str "n"])) (a := tt) (o := .tup [.ref c0, .ref c1, .ref c2, .ref c3])
    have qq := (q0.trans (q1.trans (q2.trans (q3.trans q4))))
    clear q0 q1 q2 q3 q4
    generalize upd (upd (upd (upd (upd HS c0 (.tup [v, .int 3, .str "m"])) c1 (.tup [.int 3, v, .str "n"])) c2 (.tup [.int 1, .int 3, .str "m"])) c3 (.tup [.int 2, .int 1, .str "n"])) tt (.tup [.ref c0, .ref c1, .ref c2, .ref c3]) = H2 at f0 f1 f2 f3 ft qq ⊢
    have rows : ∀ z ∈ [V.ref c0, .ref c1, .ref c2, .ref c3], RowZ K z H2 := by
      intro z hz
      simp only [List.mem_cons, List.not_mem_nil, or_false] at hz
      rcases hz with rfl | rfl | rfl | rfl
      · exact ⟨_, _, _, _, rfl, f0, zig_asks (hoS.ext (.of qq)) (.inl ⟨rfl, rfl, rfl⟩), by decide +kernel⟩
      · exact ⟨_, _, _, _, rfl, f1, zig_asks (hoS.ext (.of qq)) (.inr (.inl ⟨rfl, rfl, rfl⟩)), by decide +kernel⟩
      · exact ⟨_, _, _, _, rfl, f2, zig_asks (hoS.ext (.of qq)) (.inr (.inr (.inl ⟨rfl, rfl, rfl⟩))), by decide +kernel⟩
      · exact ⟨_, _, _, _, rfl, f3, zig_asks (hoS.ext (.of qq)) (.inr (.inr (.inr ⟨rfl, rfl, rfl⟩))), by decide +kernel⟩
    walk_at "nm"
    refine ⟨tt, rfl, ⟨_, SqT.of ft⟩, ?_⟩
    refine for_tup (K := K) (a := tt) (xs := [.ref c0, .ref c1, .ref c2, .ref c3]) (fun i σ H' => (∃ y1 y2 y3 y4 y5 y6, σ = [some v, y1, y2, y3, y4, y5, y6]) ∧ LamX.ExtN H2 H' ∧ LamX.Tabs (tbs K) H') ⟨⟨_, _, _, _, _, _, rfl⟩, .refl _, tbS.ext qq⟩ (fun i σ H' _ h => SqT.of (h.2.1 _ _ ft (fun _ z => by cases z))) ?_ ?_
    · rintro i z σ H3 hz ⟨⟨y1, y2, y3, y4, y5, y6, rfl⟩, x3, tb3⟩
      obtain ⟨pr, a, b, w, rfl, ep, hs, sh⟩ := rows z (List.mem_of_getElem? hz)
      have ep3 := x3 _ _ ep (fun _ z => by cases z)
      walk_at "rd"
      refine ⟨tb3, fun f H4 x4 t4 nf hf => ?_⟩
      walk_at "rd"
      refine ⟨f, rfl, hf, ?_⟩
      walk_at "rd"
      refine (hs H4 _ _ (x3.trans x4) (rb_said fun H5 h5 => ?_)).1
      walk_at "rd"
      refine ⟨_, _, .str w, .str w, sh, sh, ?_⟩
      rw [eqvS]
      have x5 := x3.trans (x4.trans (.of h5))
      have t5 := t4.ext h5
      walk_at "rd"
      refine iteF ?_
      walk_at "rd"
      refine ⟨t5, fun f H6 x6 t6 nf hf => ?_⟩
      walk_at "rd"
      refine ⟨f, rfl, hf, ?_⟩
      walk_at "rd"
      refine (hs H6 _ _ (x5.trans x6) (rb_said fun H7 h7 => ?_)).2
      walk_at "rd"
      refine ⟨_, _, .str w, .str w, sh, sh, ?_⟩
      rw [eqvS]
      walk_at "rd"
      refine iteF ?_
      walk_at "nm"
      exact ⟨⟨_, _, _, _, _, _, rfl⟩, x5.trans (x6.trans (.of h7)), t6.ext h7⟩
    replace xqS := xqS.trans (.of qq)
    replace hoS := hoS.ext (.of qq)
    clear rows ft qq tbS f0 f1 f2 f3
    revert xqS hoS
    generalize H2 = HT
    intro xqS hoS
    rintro σS HS ⟨⟨y1, y2, y3, y4, y5, y6, rfl⟩, x1, tbS⟩
    replace hoS := hoS.ext x1
    replace xqS := xqS.trans x1
    clear x1
    walk_at "rd"
    refine ⟨len_le (n := 4) (by decide), fun c0 hc0 => ?_⟩
    walk_at "rd"
    refine ⟨len_le (n := 4) (by decide), fun c1 hc1 => ?_⟩
    walk_at "rd"
    refine ⟨len_le (n := 4) (by decide), fun c2 hc2 => ?_⟩
    refine ⟨len_le (n := 3) (by decide), fun tt htt => ?_⟩
    have q0 := same_new (o := .tup [v, v, v, .str "m"]) hc0
    have q1 := same_new (o := .tup [.int 1, v, v, .str "n"]) hc1
    have q2 := same_new (o := .tup [.int 1, .int 1, v, .str "shift"]) hc2
    have q3 := same_new (o := .tup [.ref c0, .ref c1, .ref c2]) htt
    have f2 := q3 _ _ (upd_same (H := upd (upd HS c0 (.tup [v, v, v, .str "m"])) c1 (.tup [.int 1, v, v, .str "n"])) (a := c2) (o := .tup [.int 1, .int 1, v, .str "shift"]))
    have f1 := (q2.trans q3) _ _ (upd_same (H := upd HS c0 (.tup [v, v, v, .str "m"])) (a := c1) (o := .tup [.int 1, v, v, .str "n"]))
    have f0 := (q1.trans (q2.trans q3)) _ _ (upd_same (H := HS) (a := c0) (o := .tup [v, v, v, .str "m"]))
    have ft := upd_same (H := upd (upd (upd HS c0 (.tup [v, v, v, .str "m"])) c1 (.tup [.int 1, v, v, .str "n"])) c2 (.tup [.int 1, .int 1, v, .str "shift"])) (a := tt) (o := .tup [.ref c0, .ref c1, .ref c2])
    have qq := (q0.trans (q1.trans (q2.trans q3)))
    clear q0 q1 q2 q3
    generalize upd (upd (upd (upd HS c0 (.tup [v, v, v, .str "m"])) c1 (.tup [.int 1, v, v, .str "n"])) c2 (.tup [.int 1, .int 1, v, .str "shift"])) tt (.tup [.ref c0, .ref c1, .ref c2]) = H2 at f0 f1 f2 ft qq ⊢
    have rows : ∀ z ∈ [V.ref c0, .ref c1, .ref c2], RowT K v z H2 := by
      intro z hz
      simp only [List.mem_cons, List.not_mem_nil, or_false] at hz
      rcases hz with rfl | rfl | rfl
      · exact ⟨_, _, _, _, _, rfl, f0, two_asks (hoS.ext (.of qq)) (.inl ⟨rfl, rfl, rfl, rfl⟩), by decide +kernel⟩
      · exact ⟨_, _, _, _, _, rfl, f1, two_asks (hoS.ext (.of qq)) (.inr (.inl ⟨rfl, rfl, rfl, rfl⟩)), by decide +kernel⟩
      · exact ⟨_, _, _, _, _, rfl, f2, two_asks (hoS.ext (.of qq)) (.inr (.inr ⟨rfl, rfl, rfl, rfl⟩)), by decide +kernel⟩
    walk_at "nm"
    refine ⟨tt, rfl, ⟨_, SqT.of ft⟩, ?_⟩
    refine for_tup (K := K) (a := tt) (xs := [.ref c0, .ref c1, .ref c2]) (fun i σ H' => (∃ y1 y2 y3 y4 y5 y6, σ = [some v, y1, y2, y3, y4, y5, y6]) ∧ LamX.ExtN H2 H' ∧ LamX.Tabs (tbs K) H') ⟨⟨_, _, _, _, _, _, rfl⟩, .refl _, tbS.ext qq⟩ (fun i σ H' _ h => SqT.of (h.2.1 _ _ ft (fun _ z => by cases z))) ?_ ?_
    · rintro i z σ H3 hz ⟨⟨y1, y2, y3, y4, y5, y6, rfl⟩, x3, tb3⟩
      obtain ⟨pr, a, b, c, w, rfl, ep, hs, sh⟩ := rows z (List.mem_of_getElem? hz)
      have ep3 := x3 _ _ ep (fun _ z => by cases z)
      walk_at "rd"
      refine ⟨tb3, fun f H4 x4 t4 nf hf => ?_⟩
      walk_at "rd"
      refine ⟨f, rfl, hf, ?_⟩
      walk_at "rd"
      refine (hs H4 _ _ (x3.trans x4) (rb_said fun H5 h5 => ?_)).1
      walk_at "rd"
      refine ⟨_, _, .str w, .str w, sh, sh, ?_⟩
      rw [eqvS]
      have x5 := x3.trans (x4.trans (.of h5))
      have t5 := t4.ext h5
      walk_at "rd"
      refine iteF ?_
      walk_at "rd"
      refine ⟨t5, fun f H6 x6 t6 nf hf => ?_⟩
      walk_at "rd"
      refine ⟨f, rfl, hf, ?_⟩
      walk_at "rd"
      refine (hs H6 _ _ (x5.trans x6) (rb_said fun H7 h7 => ?_)).2
      walk_at "rd"
      refine ⟨_, _, .str w, .str w, sh, sh, ?_⟩
      rw [eqvS]
      walk_at "rd"
      refine iteF ?_
      walk_at "nm"
      exact ⟨⟨_, _, _, _, _, _, rfl⟩, x5.trans (x6.trans (.of h7)), t6.ext h7⟩
    replace xqS := xqS.trans (.of qq)
    replace hoS := hoS.ext (.of qq)
    clear rows ft qq tbS f0 f1 f2
    revert xqS hoS
    generalize H2 = HT
    intro xqS hoS
    rintro σS HS ⟨⟨y1, y2, y3, y4, y5, y6, rfl⟩, x1, tbS⟩
    replace hoS := hoS.ext x1
    replace xqS := xqS.trans x1
    clear x1
    walk_at "rd"
    refine ⟨len_le (n := 6) (by decide), fun tt htt => ?_⟩
    have qq := same_new (o := .tup [.non, .int 1, .int 0, .int (-3), .bl true, .str "2"]) htt
    have ft := upd_same (H := HS) (a := tt) (o := .tup [.non, .int 1, .int 0, .int (-3), .bl true, .str "2"])
    generalize upd HS tt (.tup [.non, .int 1, .int 0, .int (-3), .bl true, .str "2"]) = H2 at ft qq ⊢
    refine ⟨tt, rfl, ⟨_, SqT.of ft⟩, ?_⟩
    refine for_tup (K := K) (a := tt) (xs := [.non, .int 1, .int 0, .int (-3), .bl true, .str "2"]) (fun i σ H' => (∃ y1 y2 y3 y4 y5 y6, σ = [some v, y1, y2, y3, y4, y5, y6]) ∧ LamX.ExtN H2 H' ∧ LamX.Tabs (tbs K) H') ⟨⟨_, _, _, _, _, _, rfl⟩, .refl _, tbS.ext qq⟩ (fun i σ H' _ h => SqT.of (h.2.1 _ _ ft (fun _ z => by cases z))) ?_ ?_
    · rintro i z σ H3 hz ⟨⟨y1, y2, y3, y4, y5, y6, rfl⟩, x3, tb3⟩
      obtain ⟨d, e, hd, sd, he, hz2⟩ := far_rows (K := K) (List.mem_of_getElem? hz)
      walk_at "rd"
      refine ⟨tb3, fun f H4 x4 t4 nf hf => ?_⟩
      walk_at "rd"
      refine ⟨f, rfl, hf, ?_⟩
      walk_at "rd"
      refine (hz2 H4 _ _ (rb_said fun H5 h5 => ?_)).1
      walk_at "rd"
      refine ⟨_, _, .str "height", .str "height", by decide +kernel, by decide +kernel, ?_⟩
      rw [eqvS]
      walk_at "rd"
      refine iteF ?_
      walk_at "rd"
      refine ⟨d, .int 1, hd _, .int 1, sd, rfl, ?_⟩
      rw [he]
      have x5 := x3.trans (x4.trans (.of h5))
      have t5 := t4.ext h5
      cases e with
      | true =>
        walk_at "rd"
        refine iteF ?_
        refine iteF ?_
        walk_at "nm"
        exact ⟨⟨_, _, _, _, _, _, rfl⟩, x5, t5⟩
      | false =>
        walk_at "rd"
        refine iteT ?_
        walk_at "rd"
        refine ⟨t5, fun f H6 x6 t6 nf hf => ?_⟩
        walk_at "rd"
        refine ⟨f, rfl, hf, ?_⟩
        walk_at "rd"
        refine (hz2 H6 _ _ (rb_said fun H7 h7 => ?_)).2 rfl
        walk_at "rd"
        refine ⟨_, _, .str "height", .str "height", by decide +kernel, by decide +kernel, ?_⟩
        rw [eqvS]
        walk_at "rd"
        refine iteF ?_
        walk_at "nm"
        exact ⟨⟨_, _, _, _, _, _, rfl⟩, x5.trans (x6.trans (.of h7)), t6.ext h7⟩
    · rintro σ H3 ⟨⟨y1, y2, y3, y4, y5, y6, rfl⟩, x3, tb3⟩
      walk_at "rd"
      exact q H3 (xqS.trans ((LamX.ExtN.of qq).trans x3)) tb3

end

end NC
namespace NC
section
variable {P : Program} {w : World} {K : PySem.W.Frag} {mg : Str → Option Value} {base : Heap}

theorem dpL4 {H : Hp} {p : Addr} {v : V} {d : PyData} (hv : ∀ H, Dp K H v d) (h : H p = some (.lst [v, v, v, v])) : Dp K H (.ref p) (.list [d, d, d, d]) := .lst (SqL.of h) (.cons (hv _) (.cons (hv _) (.cons (hv _) (.cons (hv _) .nil))))
theorem eqvL4 {d : PyData} (h : PyData.eqv d d = true) : PyData.eqv (.list [d, d, d, d]) (.list [d, d, d, d]) = true := by
  simp [PyData.eqv, PyData.eqvAll, h]
theorem tabs_kp {s : Addr} {H H' : Hp} {xs : List V} {T : List (Addr × Str)} (k : Kp s H H') (hs : H s = some (.lst xs)) (t : LamX.Tabs T H) : LamX.Tabs T H' := fun p hp => by
  obtain ⟨ps, h1, h2, h3⟩ := t p hp
  refine ⟨ps, k _ _ (ne_of h1 hs (fun z => by cases z)) h1, h2, fun pos cv hc => ?_⟩
  obtain ⟨c, e1, e2⟩ := h3 pos cv hc
  exact ⟨c, e1, k _ _ (ne_of e2 hs (fun z => by unfold LamX.CodeO at z; cases z)) e2⟩
def KpN (s : Addr) (H H' : Hp) : Prop := ∀ b o, b ≠ s → H b = some o → (∀ ps, o ≠ .tbl ps) → H' b = some o
def sp_law_limits_right (K : PySem.W.Frag) : Sp := fun vs H Q _ => ∃ (s : Addr) (N : Nat), vs = [.ref s] ∧ GoN s N H H ∧ N ≤ 1000 ∧ LamX.Tabs (tbs K) H ∧ ∀ H', KpN s H H' → LamX.Tabs (tbs K) H' → Q (.bl true) H'
theorem ok_law_limits_right (T : Tops K mg) (tb_law_limits_right : LamX.TabB base mg (He.cT K ("_law_limits_right", none)).1 (He.cT K ("_law_limits_right", none)).2) : FnOk P w K mg base CX0 14 (He.ga K "_law_limits_right") T.fd_law_limits_right P_law_limits_right (sp_law_limits_right K) := by
  refine T.F_law_limits_right.okC (p := ("_law_limits_right", none)) rfl sc_law_limits_right (fun vs H Q E h => ?_) (fun A outer s H vs Q E hr h => ?_)
  · obtain ⟨s, N, rfl, g, hN, ht, q⟩ := h
    rfl
  · obtain ⟨s, N, rfl, g, hN, ht, q⟩ := h
    refine ⟨_, PSs.nox ((pss_cons (ps_asg (pe_tup (pa_cons (pe_op op_add pe_int (pe_call (ok_law_coin T) (hr.mono (by decide)) (by rfl) T.g_law_coin T.F_law_coin.kp (b_law_coin T) .nil pass0 (pa_cons (pv 0) (pa_cons pe_int pa_nil)))) (pa_cons (pe_op op_sub (pe_call (ok_law_coin T) (hr.mono (by decide)) (by rfl) T.g_law_coin T.F_law_coin.kp (b_law_coin T) .nil pass0 (pa_cons (pv 0) (pa_cons pe_int pa_nil))) pe_int) pa_nil))) (pg_tup rfl (pgs_cons (pg_name (i := 3) sc_law_limits_right.nd rfl (.inr rfl)) (pgs_cons (pg_name (i := 2) sc_law_limits_right.nd rfl (.inr rfl)) pgs_nil))))
       (pss_cons (ps_set (i := 1) sc_law_limits_right.nd rfl (.inl rfl) (pe_lst (pa_cons (NCLam.pe_lamV (T := tbs K) tb_law_limits_right rfl (mem_law_limits_right K) (uniq_law_limits_right T) (NCLam.lamN_by (show NCLam.lamNB N_law_limits_right (defScope (top 36)) _ = true by decide +kernel)) rfl) (pa_cons (NCLam.pe_lamVD (T := tbs K) tb_law_limits_right rfl (mem_law_limits_right K) (uniq_law_limits_right T) (NCLam.lamN_by (show NCLam.lamNB N_law_limits_right (defScope (top 36)) _ = true by decide +kernel)) rfl) pa_nil))))
       (pss_cons (ps_set (i := 1) sc_law_limits_right.nd rfl (.inl rfl) (pe_op op_cat (pv 1) (pe_lst (pa_cons (NCLam.pe_lamV (T := tbs K) tb_law_limits_right rfl (mem_law_limits_right K) (uniq_law_limits_right T) (NCLam.lamN_by (show NCLam.lamNB N_law_limits_right (defScope (top 36)) _ = true by decide +kernel)) rfl) (pa_cons (NCLam.pe_lamVD (T := tbs K) tb_law_limits_right rfl (mem_law_limits_right K) (uniq_law_limits_right T) (NCLam.lamN_by (show NCLam.lamNB N_law_limits_right (defScope (top 36)) _ = true by decide +kernel)) rfl) pa_nil)))))
       (pss_cons (ps_if (pt_cmpR (op_neDK K hr.units) (NCLam.pe_callL (kk := 8) (NCLam.acting_or (NCLam.acting0 (params := NCLam.lamP (NCLam.eAt (NCLam.sExpr (NCLam.nth (defBody (top 36)) 1)) 0)) (body := NCLam.lamB (NCLam.eAt (NCLam.sExpr (NCLam.nth (defBody (top 36)) 1)) 0)) (scope := NCLam.lamS (NCLam.eAt (NCLam.sExpr (NCLam.nth (defBody (top 36)) 1)) 0)) (k := 7) (fun _ => rfl) (NCLam.lamN_by (show NCLam.lamNB N_law_limits_right (defScope (top 36)) _ = true by decide +kernel)) (fun _ _ _ => rfl) (fun B A outer s H E f c' hr => (pe_call (okx_grid T) (hr.mono (by decide)) (by rfl) T.g_grid T.F_grid.kp (b_grid T) .nil (passes_call (takes_of rfl rfl rfl rfl) (fun _ _ _ _ h => h)) (pa_cons pe_int (pa_cons pe_int pa_nil))))) (NCLam.acting_or (NCLam.acting1 (params := NCLam.lamP (NCLam.eAt (NCLam.sExpr (NCLam.nth (defBody (top 36)) 1)) 1)) (body := NCLam.lamB (NCLam.eAt (NCLam.sExpr (NCLam.nth (defBody (top 36)) 1)) 1)) (scope := NCLam.lamS (NCLam.eAt (NCLam.sExpr (NCLam.nth (defBody (top 36)) 1)) 1)) (k := 7) (i := 0) (x := "_law_of") (fun _ => rfl) (NCLam.lamN_by (show NCLam.lamNB N_law_limits_right (defScope (top 36)) _ = true by decide +kernel)) rfl (fun _ _ _ _ _ => ⟨_, rfl, rfl⟩) (fun B A outer s H E f c' hr => (pe_call (okx_two_rows T) (hr.mono (by decide)) (by rfl) T.g_two_rows T.F_two_rows.kp (b_two_rows T) .nil (passes_call (takes_of rfl rfl rfl rfl) (fun _ _ _ _ h => h)) (pa_cons (pe_op op_sub pe_int (pv 3)) (pa_cons (pv 3) (pa_cons (pv 3) (pa_cons (pe_op op_pow pe_int pe_int) pa_nil))))))) (NCLam.acting_or (NCLam.acting0 (params := NCLam.lamP (NCLam.eAt (NCLam.eAt (NCLam.sExpr (NCLam.nth (defBody (top 36)) 2)) 1) 0)) (body := NCLam.lamB (NCLam.eAt (NCLam.eAt (NCLam.sExpr (NCLam.nth (defBody (top 36)) 2)) 1) 0)) (scope := NCLam.lamS (NCLam.eAt (NCLam.eAt (NCLam.sExpr (NCLam.nth (defBody (top 36)) 2)) 1) 0)) (k := 7) (fun _ => rfl) (NCLam.lamN_by (show NCLam.lamNB N_law_limits_right (defScope (top 36)) _ = true by decide +kernel)) (fun _ _ _ => rfl) (fun B A outer s H E f c' hr => (pe_call (okx_parabola T) (hr.mono (by decide)) (by rfl) T.g_parabola T.F_parabola.kp (b_parabola T) .nil (passes_call (takes_of rfl rfl rfl rfl) (fun _ _ _ _ h => h)) (pa_cons (pv 2) (pa_cons (pe_op op_add (pv 2) pe_int) pa_nil))))) (NCLam.acting1 (params := NCLam.lamP (NCLam.eAt (NCLam.eAt (NCLam.sExpr (NCLam.nth (defBody (top 36)) 2)) 1) 1)) (body := NCLam.lamB (NCLam.eAt (NCLam.eAt (NCLam.sExpr (NCLam.nth (defBody (top 36)) 2)) 1) 1)) (scope := NCLam.lamS (NCLam.eAt (NCLam.eAt (NCLam.sExpr (NCLam.nth (defBody (top 36)) 2)) 1) 1)) (k := 7) (i := 0) (x := "_law_of") (fun _ => rfl) (NCLam.lamN_by (show NCLam.lamNB N_law_limits_right (defScope (top 36)) _ = true by decide +kernel)) rfl (fun _ _ _ _ _ => ⟨_, rfl, rfl⟩) (fun B A outer s H E f c' hr => (pe_call (okx_zigzag T) (hr.mono (by decide)) (by rfl) T.g_zigzag T.F_zigzag.kp (b_zigzag T) .nil (passes_call (takes_of rfl rfl rfl rfl) (fun _ _ _ _ h => h)) (pa_cons pe_int (pa_cons pe_int (pa_cons pe_int pa_nil))))))))) (fun base al ha => ok_law_all_say T ha) (hr.mono (by decide)) (by rfl) T.g_law_all_say T.F_law_all_say.kp (b_law_all_say T) (pa_cons (pv 1) pa_nil)) (pe_op op_rep (pe_lst (pa_cons pe_non pa_nil)) pe_int) (nomark _))
       (pss_one (ps_ret pe_bl))
       pss_nil)
       (pss_cons (ps_set (i := 1) sc_law_limits_right.nd rfl (.inl rfl) (pe_lst (pa_cons (NCLam.pe_lamV (T := tbs K) tb_law_limits_right rfl (mem_law_limits_right K) (uniq_law_limits_right T) (NCLam.lamN_by (show NCLam.lamNB N_law_limits_right (defScope (top 36)) _ = true by decide +kernel)) rfl) (pa_cons (NCLam.pe_lamVD (T := tbs K) tb_law_limits_right rfl (mem_law_limits_right K) (uniq_law_limits_right T) (NCLam.lamN_by (show NCLam.lamNB N_law_limits_right (defScope (top 36)) _ = true by decide +kernel)) rfl) pa_nil))))
       (pss_cons (ps_set (i := 1) sc_law_limits_right.nd rfl (.inl rfl) (pe_op op_cat (pv 1) (pe_lst (pa_cons (NCLam.pe_lamV (T := tbs K) tb_law_limits_right rfl (mem_law_limits_right K) (uniq_law_limits_right T) (NCLam.lamN_by (show NCLam.lamNB N_law_limits_right (defScope (top 36)) _ = true by decide +kernel)) rfl) (pa_cons (NCLam.pe_lamVD (T := tbs K) tb_law_limits_right rfl (mem_law_limits_right K) (uniq_law_limits_right T) (NCLam.lamN_by (show NCLam.lamNB N_law_limits_right (defScope (top 36)) _ = true by decide +kernel)) rfl) pa_nil)))))
       (pss_cons (ps_if (pt_cmpR (op_neDK K hr.units) (NCLam.pe_callL (kk := 8) (NCLam.acting_or (NCLam.acting0 (params := NCLam.lamP (NCLam.eAt (NCLam.sExpr (NCLam.nth (defBody (top 36)) 4)) 0)) (body := NCLam.lamB (NCLam.eAt (NCLam.sExpr (NCLam.nth (defBody (top 36)) 4)) 0)) (scope := NCLam.lamS (NCLam.eAt (NCLam.sExpr (NCLam.nth (defBody (top 36)) 4)) 0)) (k := 7) (fun _ => rfl) (NCLam.lamN_by (show NCLam.lamNB N_law_limits_right (defScope (top 36)) _ = true by decide +kernel)) (fun _ _ _ => rfl) (fun B A outer s H E f c' hr => (pe_call (okx_grid T) (hr.mono (by decide)) (by rfl) T.g_grid T.F_grid.kp (b_grid T) .nil (passes_call (takes_of rfl rfl rfl rfl) (fun _ _ _ _ h => h)) (pa_cons pe_int (pa_cons pe_int pa_nil))))) (NCLam.acting_or (NCLam.acting1 (params := NCLam.lamP (NCLam.eAt (NCLam.sExpr (NCLam.nth (defBody (top 36)) 4)) 1)) (body := NCLam.lamB (NCLam.eAt (NCLam.sExpr (NCLam.nth (defBody (top 36)) 4)) 1)) (scope := NCLam.lamS (NCLam.eAt (NCLam.sExpr (NCLam.nth (defBody (top 36)) 4)) 1)) (k := 7) (i := 0) (x := "_law_of") (fun _ => rfl) (NCLam.lamN_by (show NCLam.lamNB N_law_limits_right (defScope (top 36)) _ = true by decide +kernel)) rfl (fun _ _ _ _ _ => ⟨_, rfl, rfl⟩) (fun B A outer s H E f c' hr => (pe_call (okx_two_rows T) (hr.mono (by decide)) (by rfl) T.g_two_rows T.F_two_rows.kp (b_two_rows T) .nil (passes_call (takes_of rfl rfl rfl rfl) (fun _ _ _ _ h => h)) (pa_cons (pe_op op_sub pe_int (pv 3)) (pa_cons (pv 3) (pa_cons pe_int (pa_cons (pe_op op_pow pe_int pe_int) pa_nil))))))) (NCLam.acting_or (NCLam.acting0 (params := NCLam.lamP (NCLam.eAt (NCLam.eAt (NCLam.sExpr (NCLam.nth (defBody (top 36)) 5)) 1) 0)) (body := NCLam.lamB (NCLam.eAt (NCLam.eAt (NCLam.sExpr (NCLam.nth (defBody (top 36)) 5)) 1) 0)) (scope := NCLam.lamS (NCLam.eAt (NCLam.eAt (NCLam.sExpr (NCLam.nth (defBody (top 36)) 5)) 1) 0)) (k := 7) (fun _ => rfl) (NCLam.lamN_by (show NCLam.lamNB N_law_limits_right (defScope (top 36)) _ = true by decide +kernel)) (fun _ _ _ => rfl) (fun B A outer s H E f c' hr => (pe_call (okx_parabola T) (hr.mono (by decide)) (by rfl) T.g_parabola T.F_parabola.kp (b_parabola T) .nil (passes_call (takes_of rfl rfl rfl rfl) (fun _ _ _ _ h => h)) (pa_cons (pv 2) (pa_cons (pe_op op_add (pv 2) pe_int) pa_nil))))) (NCLam.acting1 (params := NCLam.lamP (NCLam.eAt (NCLam.eAt (NCLam.sExpr (NCLam.nth (defBody (top 36)) 5)) 1) 1)) (body := NCLam.lamB (NCLam.eAt (NCLam.eAt (NCLam.sExpr (NCLam.nth (defBody (top 36)) 5)) 1) 1)) (scope := NCLam.lamS (NCLam.eAt (NCLam.eAt (NCLam.sExpr (NCLam.nth (defBody (top 36)) 5)) 1) 1)) (k := 7) (i := 0) (x := "_law_of") (fun _ => rfl) (NCLam.lamN_by (show NCLam.lamNB N_law_limits_right (defScope (top 36)) _ = true by decide +kernel)) rfl (fun _ _ _ _ _ => ⟨_, rfl, rfl⟩) (fun B A outer s H E f c' hr => (pe_call (okx_zigzag T) (hr.mono (by decide)) (by rfl) T.g_zigzag T.F_zigzag.kp (b_zigzag T) .nil (passes_call (takes_of rfl rfl rfl rfl) (fun _ _ _ _ h => h)) (pa_cons pe_int (pa_cons pe_int (pa_cons pe_int pa_nil))))))))) (fun base al ha => ok_law_all_say T ha) (hr.mono (by decide)) (by rfl) T.g_law_all_say T.F_law_all_say.kp (b_law_all_say T) (pa_cons (pv 1) pa_nil)) (pe_op op_rep (pe_lst (pa_cons pe_int pa_nil)) pe_int) (nomark _))
       (pss_one (ps_ret pe_bl))
       pss_nil)
       (pss_cons (ps_set (i := 1) sc_law_limits_right.nd rfl (.inl rfl) (pe_lst (pa_cons (NCLam.pe_lamV (T := tbs K) tb_law_limits_right rfl (mem_law_limits_right K) (uniq_law_limits_right T) (NCLam.lamN_by (show NCLam.lamNB N_law_limits_right (defScope (top 36)) _ = true by decide +kernel)) rfl) (pa_cons (NCLam.pe_lamVD (T := tbs K) tb_law_limits_right rfl (mem_law_limits_right K) (uniq_law_limits_right T) (NCLam.lamN_by (show NCLam.lamNB N_law_limits_right (defScope (top 36)) _ = true by decide +kernel)) rfl) pa_nil))))
       (pss_cons (ps_set (i := 1) sc_law_limits_right.nd rfl (.inl rfl) (pe_op op_cat (pv 1) (pe_lst (pa_cons (NCLam.pe_lamV (T := tbs K) tb_law_limits_right rfl (mem_law_limits_right K) (uniq_law_limits_right T) (NCLam.lamN_by (show NCLam.lamNB N_law_limits_right (defScope (top 36)) _ = true by decide +kernel)) rfl) (pa_cons (NCLam.pe_lamVD (T := tbs K) tb_law_limits_right rfl (mem_law_limits_right K) (uniq_law_limits_right T) (NCLam.lamN_by (show NCLam.lamNB N_law_limits_right (defScope (top 36)) _ = true by decide +kernel)) rfl) pa_nil)))))
       (pss_one (ps_ret (pe_cmpR (op_eqDK K hr.units) (NCLam.pe_callL (kk := 8) (NCLam.acting_or (NCLam.acting0 (params := NCLam.lamP (NCLam.eAt (NCLam.sExpr (NCLam.nth (defBody (top 36)) 7)) 0)) (body := NCLam.lamB (NCLam.eAt (NCLam.sExpr (NCLam.nth (defBody (top 36)) 7)) 0)) (scope := NCLam.lamS (NCLam.eAt (NCLam.sExpr (NCLam.nth (defBody (top 36)) 7)) 0)) (k := 7) (fun _ => rfl) (NCLam.lamN_by (show NCLam.lamNB N_law_limits_right (defScope (top 36)) _ = true by decide +kernel)) (fun _ _ _ => rfl) (fun B A outer s H E f c' hr => (pe_call (okx_two_rows T) (hr.mono (by decide)) (by rfl) T.g_two_rows T.F_two_rows.kp (b_two_rows T) .nil (passes_call (takes_of rfl rfl rfl rfl) (fun _ _ _ _ h => h)) (pa_cons pe_int (pa_cons pe_int (pa_cons (pe_op op_pow pe_int pe_int) (pa_cons pe_int pa_nil))))))) (NCLam.acting_or (NCLam.acting1 (params := NCLam.lamP (NCLam.eAt (NCLam.sExpr (NCLam.nth (defBody (top 36)) 7)) 1)) (body := NCLam.lamB (NCLam.eAt (NCLam.sExpr (NCLam.nth (defBody (top 36)) 7)) 1)) (scope := NCLam.lamS (NCLam.eAt (NCLam.sExpr (NCLam.nth (defBody (top 36)) 7)) 1)) (k := 7) (i := 0) (x := "_law_of") (fun _ => rfl) (NCLam.lamN_by (show NCLam.lamNB N_law_limits_right (defScope (top 36)) _ = true by decide +kernel)) rfl (fun _ _ _ _ _ => ⟨_, rfl, rfl⟩) (fun B A outer s H E f c' hr => (pe_call (okx_two_rows T) (hr.mono (by decide)) (by rfl) T.g_two_rows T.F_two_rows.kp (b_two_rows T) .nil (passes_call (takes_of rfl rfl rfl rfl) (fun _ _ _ _ h => h)) (pa_cons pe_int (pa_cons pe_int (pa_cons pe_int (pa_cons (pe_op op_add (pe_op op_pow pe_int pe_int) (pv 3)) pa_nil))))))) (NCLam.acting_or (NCLam.acting0 (params := NCLam.lamP (NCLam.eAt (NCLam.eAt (NCLam.sExpr (NCLam.nth (defBody (top 36)) 8)) 1) 0)) (body := NCLam.lamB (NCLam.eAt (NCLam.eAt (NCLam.sExpr (NCLam.nth (defBody (top 36)) 8)) 1) 0)) (scope := NCLam.lamS (NCLam.eAt (NCLam.eAt (NCLam.sExpr (NCLam.nth (defBody (top 36)) 8)) 1) 0)) (k := 7) (fun _ => rfl) (NCLam.lamN_by (show NCLam.lamNB N_law_limits_right (defScope (top 36)) _ = true by decide +kernel)) (fun _ _ _ => rfl) (fun B A outer s H E f c' hr => (pe_call (okx_parabola T) (hr.mono (by decide)) (by rfl) T.g_parabola T.F_parabola.kp (b_parabola T) .nil (passes_call (takes_of rfl rfl rfl rfl) (fun _ _ _ _ h => h)) (pa_cons pe_int (pa_cons pe_int pa_nil))))) (NCLam.acting1 (params := NCLam.lamP (NCLam.eAt (NCLam.eAt (NCLam.sExpr (NCLam.nth (defBody (top 36)) 8)) 1) 1)) (body := NCLam.lamB (NCLam.eAt (NCLam.eAt (NCLam.sExpr (NCLam.nth (defBody (top 36)) 8)) 1) 1)) (scope := NCLam.lamS (NCLam.eAt (NCLam.eAt (NCLam.sExpr (NCLam.nth (defBody (top 36)) 8)) 1) 1)) (k := 7) (i := 0) (x := "_law_of") (fun _ => rfl) (NCLam.lamN_by (show NCLam.lamNB N_law_limits_right (defScope (top 36)) _ = true by decide +kernel)) rfl (fun _ _ _ _ _ => ⟨_, rfl, rfl⟩) (fun B A outer s H E f c' hr => (pe_call (okx_zigzag T) (hr.mono (by decide)) (by rfl) T.g_zigzag T.F_zigzag.kp (b_zigzag T) .nil (passes_call (takes_of rfl rfl rfl rfl) (fun _ _ _ _ h => h)) (pa_cons pe_int (pa_cons pe_int (pa_cons (pe_op op_add (pe_op op_pow pe_int pe_int) (pv 3)) pa_nil))))))))) (fun base al ha => ok_law_all_say T ha) (hr.mono (by decide)) (by rfl) T.g_law_all_say T.F_law_all_say.kp (b_law_all_say T) (pa_cons (pv 1) pa_nil)) (pe_op op_rep (pe_lst (pa_cons (pe_op op_pow pe_int pe_int) pa_nil)) pe_int) (nomark _)))))))))))))), ?_⟩
    rw [st_law_limits_right]
    obtain ⟨xs, es, _⟩ := id g.src
    have hE : (10 : Int) ^ (6 : Int).toNat = 1000000 := by decide
    walk_at "rd"
    refine coin_go g (by omega) (by decide) (by decide) fun r1 H1 a1 b1 g1 _ => ?_
    walk_at "rd"
    refine coin_go g1 (by omega) (by decide) (by decide) fun r2 H2 a2 b2 g2 _ => ?_
    walk_at "rd"
    refine ⟨len_le (n := 2) (by decide), fun tp htp => ?_⟩
    have ktp := same_new (o := .tup [.int (1 + r1), .int (r2 - 100)]) htp
    have etp := upd_same (H := H2) (a := tp) (o := .tup [.int (1 + r1), .int (r2 - 100)])
    have tb2 := (tabs_kp g2.k es ht).ext ktp
    have xx := LamX.ExtN.of ktp
    generalize upd H2 tp (.tup [.int (1 + r1), .int (r2 - 100)]) = HS at ktp etp tb2 xx ⊢
    walk_at "rd"
    walk_at "nm"
    walk_at "rd"
    refine ⟨tb2, fun f0 Ha xa ta na ia => ?_⟩
    walk_at "rd"
    refine ⟨ta, fun f1 Hb xb tb nb ib => ?_⟩
    walk_at "rd"
    refine ⟨len_le (n := 2) (by decide), fun l1 hl1 => ?_⟩
    have kl1 := same_new (o := .lst [.ref f0, .ref f1]) hl1
    have el1 := upd_same (H := Hb) (a := l1) (o := .lst [.ref f0, .ref f1])
    generalize upd Hb l1 (.lst [.ref f0, .ref f1]) = Hc at kl1 el1 ⊢
    walk_at "rd"
    refine ⟨tb.ext kl1, fun f2 Hd xd td nd id2 => ?_⟩
    walk_at "rd"
    refine ⟨td, fun f3 He xe te ne ie => ?_⟩
    walk_at "rd"
    refine ⟨len_le (n := 2) (by decide), fun l2 hl2 => ?_⟩
    have kl2 := same_new (o := .lst [.ref f2, .ref f3]) hl2
    have xce : LamX.ExtN Hc (upd He l2 (.lst [.ref f2, .ref f3])) := (xd.trans xe).trans (.of kl2)
    refine ⟨l1, l2, [.ref f0, .ref f1], [.ref f2, .ref f3], rfl, rfl, xce _ _ el1 (fun _ z => by cases z), upd_same, len_le (n := 4) (by decide), fun l3 hl3 => ?_⟩
    have kl3 := same_new (o := .lst ([.ref f0, .ref f1] ++ [.ref f2, .ref f3])) hl3
    have el3 : (upd (upd He l2 (.lst [.ref f2, .ref f3])) l3 (.lst ([.ref f0, .ref f1] ++ [.ref f2, .ref f3]))) l3 = some (.lst ([f0, f1, f2, f3].map V.ref)) := upd_same
    have tf1 := (te.ext kl2).ext kl3
    have xf : LamX.ExtN Hc (upd (upd He l2 (.lst [.ref f2, .ref f3])) l3 (.lst ([.ref f0, .ref f1] ++ [.ref f2, .ref f3]))) := xce.trans (.of kl3)
    have i0 := ia.ext ((xb.trans (.of kl1)).trans xf)
    have i1 := ib.ext ((LamX.ExtN.of kl1).trans xf)
    have i2 := id2.ext (xe.trans (.of (kl2.trans kl3)))
    have i3 := ie.ext (.of (kl2.trans kl3))
    have xg1 := xx.trans ((xa.trans (xb.trans (.of kl1))).trans xf)
    clear ia ib id2 ie xce xf xa xb xd xe ta tb td te kl1 kl2 kl3 el1
    generalize upd (upd He l2 (.lst [.ref f2, .ref f3])) l3 (.lst ([.ref f0, .ref f1] ++ [.ref f2, .ref f3])) = Hf1 at tf1 i0 i1 i2 i3 xg1 el3 ⊢
    walk_at "nm"
    walk_at "rd"
    refine ⟨l3, [f0, f1, f2, f3], List.replicate 4 (.non), rfl, el3, rfl, by show 4 ≤ 100; decide, fun i f u hf hv H' Q' hs hq => ?_, fun Hz rz hz ez => ?_⟩
    · have j0 := i0.ext (.of hs)
      have j1 := i1.ext (.of hs)
      have j2 := i2.ext (.of hs)
      have j3 := i3.ext (.of hs)
      match i, hf, hv with
      | 0, hf, hv =>
        cases hf
        cases hv
        refine .inl ⟨j0, ?_⟩
        walk_at "rd"
        exact ⟨_, _, true, true, rfl, .int (by decide) (by decide), fun _ => .int (by decide) (by decide), fun z => (by cases z), fun _ z => (by cases z), fun _ _ mi ni e1 e2 => (by
          cases e1
          cases e2
          exact ⟨fun z => absurd z (by decide), fun _ H2 r ys k e => hq H2 k⟩)⟩
      | 1, hf, hv =>
        cases hf
        cases hv
        refine .inr (.inl ⟨j1, ?_⟩)
        walk_at "rd"
        exact ⟨_, _, _, _, true, true, true, rfl, .int (by omega) (by omega), fun _ => .int (by omega) (by omega), fun _ _ => .int (by omega) (by omega), fun z => (by cases z), fun _ z => (by cases z), fun _ _ z => (by cases z), fun _ _ _ => .inr ⟨_, rfl, fun z => absurd z (by decide), fun _ mi ni si e1 e2 e3 => (by
          cases e1
          cases e2
          cases e3
          exact ⟨fun z => absurd z (by omega), fun _ => ⟨fun _ _ H2 r ys k e => hq H2 k, fun z => absurd z (by rw [hE]; omega)⟩⟩)⟩⟩
      | 2, hf, hv =>
        cases hf
        cases hv
        refine .inr (.inr (.inl ⟨j2, ?_⟩))
        walk_at "rd"
        exact ⟨_, _, true, true, rfl, .int (by omega) (by omega), fun _ => .int (by omega) (by omega), fun z => (by cases z), fun _ z => (by cases z), fun _ _ l h e1 e2 => (by
          cases e1
          cases e2
          exact ⟨fun z => absurd z (by omega), fun _ => ⟨fun z => absurd z (by omega), fun _ => ⟨fun _ _ H2 r ys k e _ => hq H2 k, fun z => absurd z (by omega), .inr ⟨by omega, by omega⟩⟩⟩⟩)⟩
      | 3, hf, hv =>
        cases hf
        cases hv
        refine .inr (.inr (.inr ⟨j3, ?_⟩))
        walk_at "rd"
        exact ⟨_, _, _, true, true, rfl, .int (by decide) (by decide), fun _ => .int (by decide) (by decide), fun z => (by cases z), fun _ z => (by cases z), fun _ _ => .inr ⟨_, rfl, fun z => absurd z (by decide), fun _ mi ni e1 e2 => (by
          cases e1
          cases e2
          exact ⟨fun z => absurd z (by decide), fun _ => ⟨fun _ H2 r ys k e _ => hq H2 k, fun z => absurd z (by decide)⟩⟩)⟩⟩
    clear i0 i1 i2 i3
    walk_at "rd"
    refine ⟨len_le (n := 1) (by decide), fun la hla => ?_⟩
    have ka := same_new (o := .lst [.non]) hla
    refine ⟨la, 4, _, rfl, rfl, upd_same, by decide, by decide, len_le (n := 4) (by decide), fun lb hlb => ?_⟩
    have kb := same_new (o := .lst (List.replicate (4 : Int).toNat [.non]).flatten) hlb
    have eb : (upd (upd Hz la (.lst [.non])) lb (.lst (List.replicate (4 : Int).toNat [.non]).flatten)) lb = some (.lst [.non, .non, .non, .non]) := upd_same
    have ez' : Hz rz = some (.lst [.non, .non, .non, .non]) := ez
    refine ⟨_, _, dpL4 (d := .none) (fun _ => .non) ((ka.trans kb) _ _ ez'), dpL4 (d := .none) (fun _ => .non) eb, by decide +kernel, by decide +kernel, ?_⟩
    rw [eqvL4 (by rfl)]
    have tz1 := tf1.ext (hz.trans (ka.trans kb))
    have xz1 := xg1.trans (.of (hz.trans (ka.trans kb)))
    clear tf1 xg1
    generalize upd (upd Hz la (.lst [.non])) lb (.lst (List.replicate (4 : Int).toNat [.non]).flatten) = Hy1 at tz1 xz1 ⊢
    walk_at "rd"
    refine iteF ?_
    walk_at "nm"
    walk_at "rd"
    refine ⟨tz1, fun f0 Ha xa ta na ia => ?_⟩
    walk_at "rd"
    refine ⟨ta, fun f1 Hb xb tb nb ib => ?_⟩
    walk_at "rd"
    refine ⟨len_le (n := 2) (by decide), fun l1 hl1 => ?_⟩
    have kl1 := same_new (o := .lst [.ref f0, .ref f1]) hl1
    have el1 := upd_same (H := Hb) (a := l1) (o := .lst [.ref f0, .ref f1])
    generalize upd Hb l1 (.lst [.ref f0, .ref f1]) = Hc at kl1 el1 ⊢
    walk_at "rd"
    refine ⟨tb.ext kl1, fun f2 Hd xd td nd id2 => ?_⟩
    walk_at "rd"
    refine ⟨td, fun f3 He xe te ne ie => ?_⟩
    walk_at "rd"
    refine ⟨len_le (n := 2) (by decide), fun l2 hl2 => ?_⟩
    have kl2 := same_new (o := .lst [.ref f2, .ref f3]) hl2
    have xce : LamX.ExtN Hc (upd He l2 (.lst [.ref f2, .ref f3])) := (xd.trans xe).trans (.of kl2)
    refine ⟨l1, l2, [.ref f0, .ref f1], [.ref f2, .ref f3], rfl, rfl, xce _ _ el1 (fun _ z => by cases z), upd_same, len_le (n := 4) (by decide), fun l3 hl3 => ?_⟩
    have kl3 := same_new (o := .lst ([.ref f0, .ref f1] ++ [.ref f2, .ref f3])) hl3
    have el3 : (upd (upd He l2 (.lst [.ref f2, .ref f3])) l3 (.lst ([.ref f0, .ref f1] ++ [.ref f2, .ref f3]))) l3 = some (.lst ([f0, f1, f2, f3].map V.ref)) := upd_same
    have tf2 := (te.ext kl2).ext kl3
    have xf : LamX.ExtN Hc (upd (upd He l2 (.lst [.ref f2, .ref f3])) l3 (.lst ([.ref f0, .ref f1] ++ [.ref f2, .ref f3]))) := xce.trans (.of kl3)
    have i0 := ia.ext ((xb.trans (.of kl1)).trans xf)
    have i1 := ib.ext ((LamX.ExtN.of kl1).trans xf)
    have i2 := id2.ext (xe.trans (.of (kl2.trans kl3)))
    have i3 := ie.ext (.of (kl2.trans kl3))
    have xg2 := xz1.trans ((xa.trans (xb.trans (.of kl1))).trans xf)
    clear ia ib id2 ie xce xf xa xb xd xe ta tb td te kl1 kl2 kl3 el1
    generalize upd (upd He l2 (.lst [.ref f2, .ref f3])) l3 (.lst ([.ref f0, .ref f1] ++ [.ref f2, .ref f3])) = Hf2 at tf2 i0 i1 i2 i3 xg2 el3 ⊢
    walk_at "nm"
    walk_at "rd"
    refine ⟨l3, [f0, f1, f2, f3], List.replicate 4 (.int 200), rfl, el3, rfl, by show 4 ≤ 100; decide, fun i f u hf hv H' Q' hs hq => ?_, fun Hz rz hz ez => ?_⟩
    · have j0 := i0.ext (.of hs)
      have j1 := i1.ext (.of hs)
      have j2 := i2.ext (.of hs)
      have j3 := i3.ext (.of hs)
      match i, hf, hv with
      | 0, hf, hv =>
        cases hf
        cases hv
        refine .inl ⟨j0, ?_⟩
        walk_at "rd"
        exact ⟨_, _, true, true, rfl, .int (by decide) (by decide), fun _ => .int (by decide) (by decide), fun z => (by cases z), fun _ z => (by cases z), fun _ _ mi ni e1 e2 => (by
          cases e1
          cases e2
          exact ⟨fun _ => rl_said fun H2 k => hq H2 k, fun z => absurd z (by decide)⟩)⟩
      | 1, hf, hv =>
        cases hf
        cases hv
        refine .inr (.inl ⟨j1, ?_⟩)
        walk_at "rd"
        exact ⟨_, _, _, _, true, true, true, rfl, .int (by omega) (by omega), fun _ => .int (by omega) (by omega), fun _ _ => .int (by decide) (by decide), fun z => (by cases z), fun _ z => (by cases z), fun _ _ z => (by cases z), fun _ _ _ => .inr ⟨_, rfl, fun z => absurd z (by decide), fun _ mi ni si e1 e2 e3 => (by
          cases e1
          cases e2
          cases e3
          exact ⟨fun _ => rl_said fun H2 k => hq H2 k, fun z => absurd z (by omega)⟩)⟩⟩
      | 2, hf, hv =>
        cases hf
        cases hv
        refine .inr (.inr (.inl ⟨j2, ?_⟩))
        walk_at "rd"
        exact ⟨_, _, true, true, rfl, .int (by omega) (by omega), fun _ => .int (by omega) (by omega), fun z => (by cases z), fun _ z => (by cases z), fun _ _ l h e1 e2 => (by
          cases e1
          cases e2
          exact ⟨fun z => absurd z (by omega), fun _ => ⟨fun _ => rl_said fun H2 k => hq H2 k, fun z => absurd z (by omega)⟩⟩)⟩
      | 3, hf, hv =>
        cases hf
        cases hv
        refine .inr (.inr (.inr ⟨j3, ?_⟩))
        walk_at "rd"
        exact ⟨_, _, _, true, true, rfl, .int (by decide) (by decide), fun _ => .int (by decide) (by decide), fun z => (by cases z), fun _ z => (by cases z), fun _ _ => .inr ⟨_, rfl, fun z => absurd z (by decide), fun _ mi ni e1 e2 => (by
          cases e1
          cases e2
          exact ⟨fun _ => rl_said fun H2 k => hq H2 k, fun z => absurd z (by decide)⟩)⟩⟩
    clear i0 i1 i2 i3
    walk_at "rd"
    refine ⟨len_le (n := 1) (by decide), fun la hla => ?_⟩
    have ka := same_new (o := .lst [.int 200]) hla
    refine ⟨la, 4, _, rfl, rfl, upd_same, by decide, by decide, len_le (n := 4) (by decide), fun lb hlb => ?_⟩
    have kb := same_new (o := .lst (List.replicate (4 : Int).toNat [.int 200]).flatten) hlb
    have eb : (upd (upd Hz la (.lst [.int 200])) lb (.lst (List.replicate (4 : Int).toNat [.int 200]).flatten)) lb = some (.lst [.int 200, .int 200, .int 200, .int 200]) := upd_same
    have ez' : Hz rz = some (.lst [.int 200, .int 200, .int 200, .int 200]) := ez
    refine ⟨_, _, dpL4 (d := .int 200) (fun _ => .int _) ((ka.trans kb) _ _ ez'), dpL4 (d := .int 200) (fun _ => .int _) eb, by decide +kernel, by decide +kernel, ?_⟩
    rw [eqvL4 (by simp [PyData.eqv])]
    have tz2 := tf2.ext (hz.trans (ka.trans kb))
    have xz2 := xg2.trans (.of (hz.trans (ka.trans kb)))
    clear tf2 xg2
    generalize upd (upd Hz la (.lst [.int 200])) lb (.lst (List.replicate (4 : Int).toNat [.int 200]).flatten) = Hy2 at tz2 xz2 ⊢
    walk_at "rd"
    refine iteF ?_
    walk_at "nm"
    walk_at "rd"
    refine ⟨tz2, fun f0 Ha xa ta na ia => ?_⟩
    walk_at "rd"
    refine ⟨ta, fun f1 Hb xb tb nb ib => ?_⟩
    walk_at "rd"
    refine ⟨len_le (n := 2) (by decide), fun l1 hl1 => ?_⟩
    have kl1 := same_new (o := .lst [.ref f0, .ref f1]) hl1
    have el1 := upd_same (H := Hb) (a := l1) (o := .lst [.ref f0, .ref f1])
    generalize upd Hb l1 (.lst [.ref f0, .ref f1]) = Hc at kl1 el1 ⊢
    walk_at "rd"
    refine ⟨tb.ext kl1, fun f2 Hd xd td nd id2 => ?_⟩
    walk_at "rd"
    refine ⟨td, fun f3 He xe te ne ie => ?_⟩
    walk_at "rd"
    refine ⟨len_le (n := 2) (by decide), fun l2 hl2 => ?_⟩
    have kl2 := same_new (o := .lst [.ref f2, .ref f3]) hl2
    have xce : LamX.ExtN Hc (upd He l2 (.lst [.ref f2, .ref f3])) := (xd.trans xe).trans (.of kl2)
    refine ⟨l1, l2, [.ref f0, .ref f1], [.ref f2, .ref f3], rfl, rfl, xce _ _ el1 (fun _ z => by cases z), upd_same, len_le (n := 4) (by decide), fun l3 hl3 => ?_⟩
    have kl3 := same_new (o := .lst ([.ref f0, .ref f1] ++ [.ref f2, .ref f3])) hl3
    have el3 : (upd (upd He l2 (.lst [.ref f2, .ref f3])) l3 (.lst ([.ref f0, .ref f1] ++ [.ref f2, .ref f3]))) l3 = some (.lst ([f0, f1, f2, f3].map V.ref)) := upd_same
    have tf3 := (te.ext kl2).ext kl3
    have xf : LamX.ExtN Hc (upd (upd He l2 (.lst [.ref f2, .ref f3])) l3 (.lst ([.ref f0, .ref f1] ++ [.ref f2, .ref f3]))) := xce.trans (.of kl3)
    have i0 := ia.ext ((xb.trans (.of kl1)).trans xf)
    have i1 := ib.ext ((LamX.ExtN.of kl1).trans xf)
    have i2 := id2.ext (xe.trans (.of (kl2.trans kl3)))
    have i3 := ie.ext (.of (kl2.trans kl3))
    have xg3 := xz2.trans ((xa.trans (xb.trans (.of kl1))).trans xf)
    clear ia ib id2 ie xce xf xa xb xd xe ta tb td te kl1 kl2 kl3 el1
    generalize upd (upd He l2 (.lst [.ref f2, .ref f3])) l3 (.lst ([.ref f0, .ref f1] ++ [.ref f2, .ref f3])) = Hf3 at tf3 i0 i1 i2 i3 xg3 el3 ⊢
    walk_at "nm"
    walk_at "rd"
    refine ⟨l3, [f0, f1, f2, f3], List.replicate 4 (.int (10 ^ (6 : Int).toNat)), rfl, el3, rfl, by show 4 ≤ 100; decide, fun i f u hf hv H' Q' hs hq => ?_, fun Hz rz hz ez => ?_⟩
    · have j0 := i0.ext (.of hs)
      have j1 := i1.ext (.of hs)
      have j2 := i2.ext (.of hs)
      have j3 := i3.ext (.of hs)
      match i, hf, hv with
      | 0, hf, hv =>
        cases hf
        cases hv
        refine .inl ⟨j0, ?_⟩
        walk_at "rd"
        exact ⟨_, _, _, _, true, true, true, rfl, .int (by decide) (by decide), fun _ => .int (by decide) (by decide), fun _ _ => .int (by decide) (by decide), fun z => (by cases z), fun _ z => (by cases z), fun _ _ z => (by cases z), fun _ _ _ => .inr ⟨_, rfl, fun z => absurd z (by decide), fun _ mi ni si e1 e2 e3 => (by
          cases e1
          cases e2
          cases e3
          exact ⟨fun z => absurd z (by decide), fun _ => ⟨fun _ z => absurd z (by decide), fun _ => rl_said fun H2 k => hq H2 k⟩⟩)⟩⟩
      | 1, hf, hv =>
        cases hf
        cases hv
        refine .inr (.inl ⟨j1, ?_⟩)
        walk_at "rd"
        exact ⟨_, _, _, _, true, true, true, rfl, .int (by decide) (by decide), fun _ => .int (by decide) (by decide), fun _ _ => .int (by decide) (by decide), fun z => (by cases z), fun _ z => (by cases z), fun _ _ z => (by cases z), fun _ _ _ => .inr ⟨_, rfl, fun z => absurd z (by rw [hE]; omega), fun _ mi ni si e1 e2 e3 => (by
          cases e1
          cases e2
          cases e3
          exact ⟨fun z => absurd z (by decide), fun _ => ⟨fun z => absurd z (by rw [hE]; omega), fun _ => rl_said fun H2 k => hq H2 k⟩⟩)⟩⟩
      | 2, hf, hv =>
        cases hf
        cases hv
        refine .inr (.inr (.inl ⟨j2, ?_⟩))
        walk_at "rd"
        exact ⟨_, _, true, true, rfl, .int (by decide) (by decide), fun _ => .int (by decide) (by decide), fun z => (by cases z), fun _ z => (by cases z), fun _ _ l h e1 e2 => (by
          cases e1
          cases e2
          exact ⟨fun z => absurd z (by decide), fun _ => ⟨fun z => absurd z (by decide), fun _ => ⟨fun _ z => absurd z (by decide), fun _ => rl_said fun H2 k => hq H2 k, .inl (by decide)⟩⟩⟩)⟩
      | 3, hf, hv =>
        cases hf
        cases hv
        refine .inr (.inr (.inr ⟨j3, ?_⟩))
        walk_at "rd"
        exact ⟨_, _, _, true, true, rfl, .int (by decide) (by decide), fun _ => .int (by decide) (by decide), fun z => (by cases z), fun _ z => (by cases z), fun _ _ => .inr ⟨_, rfl, fun z => absurd z (by rw [hE]; omega), fun _ mi ni e1 e2 => (by
          cases e1
          cases e2
          exact ⟨fun z => absurd z (by decide), fun _ => ⟨fun z => absurd z (by rw [hE]; omega), fun _ => rl_said fun H2 k => hq H2 k⟩⟩)⟩⟩
    clear i0 i1 i2 i3
    walk_at "rd"
    refine ⟨len_le (n := 1) (by decide), fun la hla => ?_⟩
    have ka := same_new (o := .lst [.int (10 ^ (6 : Int).toNat)]) hla
    refine ⟨la, 4, _, rfl, rfl, upd_same, by decide, by decide, len_le (n := 4) (by decide), fun lb hlb => ?_⟩
    have kb := same_new (o := .lst (List.replicate (4 : Int).toNat [.int (10 ^ (6 : Int).toNat)]).flatten) hlb
    have eb : (upd (upd Hz la (.lst [.int (10 ^ (6 : Int).toNat)])) lb (.lst (List.replicate (4 : Int).toNat [.int (10 ^ (6 : Int).toNat)]).flatten)) lb = some (.lst [.int (10 ^ (6 : Int).toNat), .int (10 ^ (6 : Int).toNat), .int (10 ^ (6 : Int).toNat), .int (10 ^ (6 : Int).toNat)]) := upd_same
    have ez' : Hz rz = some (.lst [.int (10 ^ (6 : Int).toNat), .int (10 ^ (6 : Int).toNat), .int (10 ^ (6 : Int).toNat), .int (10 ^ (6 : Int).toNat)]) := ez
    refine ⟨_, _, dpL4 (d := .int (10 ^ (6 : Int).toNat)) (fun _ => .int _) ((ka.trans kb) _ _ ez'), dpL4 (d := .int (10 ^ (6 : Int).toNat)) (fun _ => .int _) eb, by decide +kernel, by decide +kernel, ?_⟩
    rw [eqvL4 (by simp [PyData.eqv])]
    have tz3 := tf3.ext (hz.trans (ka.trans kb))
    have xz3 := xg3.trans (.of (hz.trans (ka.trans kb)))
    clear tf3 xg3
    generalize upd (upd Hz la (.lst [.int (10 ^ (6 : Int).toNat)])) lb (.lst (List.replicate (4 : Int).toNat [.int (10 ^ (6 : Int).toNat)]).flatten) = Hy3 at tz3 xz3 ⊢
    refine q _ (fun b o hb e hn => ?_) tz3
    exact xz3 _ _ (g2.k b o hb e) hn

end

end NC
namespace NC
section
variable {P : Program} {w : World} {K : PySem.W.Frag} {mg : Str → Option Value} {base : Heap}

def sp_law (K : PySem.W.Frag) : Sp := fun vs H Q _ => ∃ (a : Addr) (ns : List Int), vs = [.ref a] ∧ SqL K H a (ns.map V.int) ∧ ns.length ≤ 63 ∧ (∀ z ∈ ns, Builtin.Int.intBits z ≤ 1048576) ∧ LamX.Tabs (tbs K) H ∧ ∀ H', Q (.bl true) H'
theorem bA_law (T : Tops K mg) (s : Shared) (v : Value) : BindsTo s T.fd_law ⟨[v], []⟩ [("_law_script", v)] := FunD.bindsA (ps := P_law) T.F_law (fun _ _ _ _ _ _ us hl => match us, hl with | [_], _ => rfl) s [v] rfl
theorem ok_law (T : Tops K mg) (tb_law_words_right : LamX.TabB base mg (He.cT K ("_law_words_right", none)).1 (He.cT K ("_law_words_right", none)).2) (tb_law_limits_right : LamX.TabB base mg (He.cT K ("_law_limits_right", none)).1 (He.cT K ("_law_limits_right", none)).2) : FnOk P w K mg base CX0 17 (He.ga K "law") T.fd_law P_law (sp_law K) := by
  refine T.F_law.ok sc_law (fun vs H Q E h => ?_) (fun cdv A outer s H vs Q E hr h => ?_)
  · obtain ⟨a, ns, rfl, hS, hlen, hbits, tb0, q⟩ := h
    rfl
  · obtain ⟨a, ns, rfl, hS, hlen, hbits, tb0, q⟩ := h
    refine ⟨_, PSs.nox ((pss_cons (ps_for PassesOwn.never rfl (pi_listK K (pe_op op_cat (pe_slice (sl_listK K) (pv 0) po_none (po_some pe_int)) (pe_lst (pa_cons pe_int pa_nil)))) (pg_name (i := 1) sc_law.nd rfl (.inl rfl))
       (pss_cons (ps_set (i := 2) sc_law.nd rfl (.inl rfl) (pe_call (ok_law_purse T) (hr.mono (by decide)) (by rfl) T.g_law_purse T.F_law_purse.kp (b_law_purse T) .nil pass0 (pa_cons (pv 1) pa_nil)))
       (pss_cons (ps_set (i := 3) sc_law.nd rfl (.inl rfl) (pe_lst (pa_cons pe_non (pa_cons pe_str (pa_cons pe_bl (pa_cons (pe_lst (pa_cons pe_int pa_nil)) (pa_cons (pe_tup (pa_cons pe_int pa_nil)) (pa_cons pe_dnewT (pa_cons (pe_op op_add (pe_op op_powA pe_int pe_int) pe_int) (pa_cons (pe_op op_sub (pe_un un_neg (pe_op op_powA pe_int pe_int)) pe_int) (pa_cons (pe_op op_powA pe_int pe_int) (pa_cons (pe_call0 (ok_law_deep T) (hr.mono (by decide)) (by rfl) T.g_law_deep T.F_law_deep.kp (b_law_deep T) .nil pass0) pa_nil))))))))))))
       (pss_cons (ps_set (i := 4) sc_law.nd rfl (.inl rfl) (pe_call (ok_law_pick T) (hr.mono (by decide)) (by rfl) T.g_law_pick T.F_law_pick.kp (b_law_pick T) .nil pass0 (pa_cons (pv 2) (pa_cons (pv 3) pa_nil))))
       (pss_one (ps_if (PW.pt (pw_or (pt_not (pt_val (pe_call (ok_law_words_right T tb_law_words_right) (hr.mono (by decide)) (by rfl) T.g_law_words_right T.F_law_words_right.kp (b_law_words_right T) .nil pass0 (pa_cons (pv 4) pa_nil)))) (pw_or1 (pt_not (pt_val (pe_call (ok_law_limits_right T tb_law_limits_right) (hr.mono (by decide)) (by rfl) T.g_law_limits_right T.F_law_limits_right.kp (b_law_limits_right T) .nil pass0 (pa_cons (pv 2) pa_nil)))))))
       (pss_one (ps_ret pe_bl))
       pss_nil))))))
       (pss_one (ps_ret (pe_and (pe_cmpR op_eq (pe_callB (call_lenK K) (by rfl) T.m_len PySem.boot_len (pa_cons (pe_call (okx_zigzag T) (hr.mono (by decide)) (by rfl) T.g_zigzag T.F_zigzag.kp (b_zigzag T) .nil (NCLam.passN (fun _ _ _ z => z)) (pa_cons pe_int (pa_cons pe_int (pa_cons pe_int pa_nil)))) pa_nil)) pe_int (nomark _)) (pe_one (pe_cmpR op_eq (pe_callB (call_lenK K) (by rfl) T.m_len PySem.boot_len (pa_cons (pe_call (okx_parabola T) (hr.mono (by decide)) (by rfl) T.g_parabola T.F_parabola.kp (b_parabola T) .nil (NCLam.passN (fun _ _ _ z => z)) (pa_cons (pe_un un_neg pe_int) (pa_cons (pe_un un_neg pe_int) pa_nil))) pa_nil)) pe_int (nomark _)))))))), ?_⟩
    rw [st_law]
    walk_at "rd"
    refine ⟨a, _, rfl, hS, fun p1 hp1 => ?_⟩
    walk_at "rd"
    refine ⟨len_le (n := 1) (by decide), fun p2 hp2 => ?_⟩
    refine ⟨p1, p2, _, _, rfl, rfl, same_new hp2 _ _ upd_same, upd_same, len_le (by
      have := cutV_length (ns.map V.int) none (some 4)
      rw [List.length_map] at this
      show _ + 1 ≤ _
      omega), fun p3 hp3 => ?_⟩
    generalize hit : cutV (ns.map V.int) none (some 4) ++ [V.int 0] = items
    have hints : ∀ z ∈ items, ∃ n : Int, z = .int n := fun z hz => by
      rw [← hit] at hz
      rcases List.mem_append.mp hz with h | h
      · exact all_ints (cut_mem h)
      · exact ⟨_, List.mem_singleton.mp h⟩
    have k3 := ((same_new (o := .lst (cutV (ns.map V.int) none (some 4))) hp1).trans (same_new (o := .lst [.int 0]) hp2)).trans (same_new (o := .lst items) hp3)
    have e3 := upd_same (H := upd (upd H p1 (.lst (cutV (ns.map V.int) none (some 4)))) p2 (.lst [.int 0])) (a := p3) (o := .lst items)
    have tb1 := tb0.ext k3
    generalize upd (upd (upd H p1 (.lst (cutV (ns.map V.int) none (some 4)))) p2 (.lst [.int 0])) p3 (.lst items) = H0 at e3 tb1 ⊢
    refine ⟨p3, rfl, ⟨_, SqL.of e3⟩, ?_⟩
    refine for_list (K := K) (a := p3) (xs := items) (fun i σ H' => (∃ y1 y2 y3 y4, σ = [some (.ref a), y1, y2, y3, y4]) ∧ H' p3 = some (.lst items) ∧ LamX.Tabs (tbs K) H') ⟨⟨none, none, none, none, rfl⟩, e3, tb1⟩ (fun i σ H' _ h => SqL.of h.2.1) ?_ ?_
    · rintro i z σ H1 hz ⟨⟨y1, y2, y3, y4, rfl⟩, e4, tb4⟩
      obtain ⟨n, rfl⟩ := hints z (List.mem_of_getElem? hz)
      walk_at "rd"
      refine ⟨n, rfl, fun s xs hs hx => ?_⟩
      have n3 : p3 ≠ s := ne_of_none e4 hs
      have g5 : GoN s 3 (upd H1 s (.lst xs)) (upd H1 s (.lst xs)) := ⟨.refl _, .refl _, xs, upd_same, hx⟩
      have e5 := same_new (o := .lst xs) hs _ _ e4
      have tb5 := tb4.ext (same_new (o := .lst xs) hs)
      generalize upd H1 s (.lst xs) = H5 at g5 e5 tb5 ⊢
      walk_at "rd"
      refine ⟨len_le (n := 1) (by decide), fun la hla => ?_⟩
      walk_at "rd"
      refine ⟨len_le (n := 1) (by decide), fun ta hta => ?_⟩
      walk_at "rd"
      refine fun da hda => ?_
      walk_at "rd"
      refine ⟨rfl, fun H6 pd vd k6 ed => ?_⟩
      refine ⟨len_le (n := 10) (by decide), fun ls hls => ?_⟩
      have kA := same_new (o := .lst [.int 3]) hla
      have kB := same_new (o := .tup [.int 3]) hta
      have kC := same_new (o := .dT []) hda
      have kL := same_new (o := .lst [.non, .str "3", .bl true, .ref la, .ref ta, .ref da, .int (10 ^ (6 : Int).toNat + 1), .int (-(10 ^ (6 : Int).toNat) - 1), .int (10 ^ (40 : Int).toNat), .ref pd]) hls
      have fA := ((kB.trans kC).trans (k6.trans kL)) _ _ (upd_same (H := H5) (a := la) (o := .lst [.int 3]))
      have fB := (kC.trans (k6.trans kL)) _ _ (upd_same (a := ta) (o := .tup [.int 3]))
      have fC := (k6.trans kL) _ _ (upd_same (a := da) (o := .dT []))
      have fD := kL _ _ ed
      have fL := upd_same (H := H6) (a := ls) (o := .lst [.non, .str "3", .bl true, .ref la, .ref ta, .ref da, .int (10 ^ (6 : Int).toNat + 1), .int (-(10 ^ (6 : Int).toNat) - 1), .int (10 ^ (40 : Int).toNat), .ref pd])
      have kk := ((kA.trans kB).trans kC).trans (k6.trans kL)
      obtain ⟨xs5, ex5, _⟩ := id g5.src
      have nls : s ≠ ls := ne_of_none ((((kA.trans kB).trans kC).trans k6) _ _ ex5) hls
      have nA : la ≠ s := (ne_of_none ex5 hla).symm
      generalize upd H6 ls (.lst [.non, .str "3", .bl true, .ref la, .ref ta, .ref da, .int (10 ^ (6 : Int).toNat + 1), .int (-(10 ^ (6 : Int).toNat) - 1), .int (10 ^ (40 : Int).toNat), .ref pd]) = H7 at fA fB fC fD fL kk ⊢
      clear kA kB kC kL k6 ed
      have g7 := g5.same kk
      have e7 := kk _ _ e5
      have tb7 := tb5.ext kk
      walk_at "rd"
      obtain ⟨xs7, ex7, hx7⟩ := g7.src
      refine ⟨s, ls, xs7, _, 3, rfl, ex7, hx7, by decide, fL, nls, by show 0 < 10; decide, by show 10 < 1000000; decide, fun z ys hz8 hy => ?_⟩
      have g8 := g7.draw hy
      have g78 : Kp s H7 (upd H7 s (.lst ys)) := .src
      have t78 : TK H7 (upd H7 s (.lst ys)) := .lst ex7
      have e8 := g78 _ _ n3 e7
      have tb8 := tabs_kp g78 ex7 tb7
      have fA8 := g78 _ _ nA fA
      have fC8 := g78 _ _ (ne_of fC ex7 (fun z => by cases z)) fC
      have fB8 := t78 _ _ fB
      have fD8 := t78 _ _ fD
      generalize upd H7 s (.lst ys) = H8 at g8 e8 tb8 fA8 fB8 fC8 fD8 ⊢
      clear g78 t78
      have odd : ∀ z ∈ [V.non, .str "3", .bl true, .ref la, .ref ta, .ref da, .int (10 ^ (6 : Int).toNat + 1), .int (-(10 ^ (6 : Int).toNat) - 1), .int (10 ^ (40 : Int).toNat), .ref pd], Odd H8 z := by
        intro z hz
        simp only [List.mem_cons, List.not_mem_nil, or_false] at hz
        rcases hz with rfl | rfl | rfl | rfl | rfl | rfl | rfl | rfl | rfl | rfl
        · exact .inl (.inl rfl)
        · exact .inl (.inr (.inl ⟨_, rfl⟩))
        · exact .inl (.inr (.inr (.inl ⟨_, rfl⟩)))
        · exact .inl (.inr (.inr (.inr ⟨_, rfl, .inl ⟨_, fA8⟩⟩)))
        · exact .inl (.inr (.inr (.inr ⟨_, rfl, .inr (.inl ⟨_, fB8⟩)⟩)))
        · exact .inl (.inr (.inr (.inr ⟨_, rfl, .inr (.inr ⟨_, fC8⟩)⟩)))
        · exact .inr ⟨_, rfl, by decide⟩
        · exact .inr ⟨_, rfl, by decide⟩
        · exact .inr ⟨_, rfl, by decide⟩
        · exact .inl (.inr (.inr (.inr ⟨_, rfl, .inr (.inl ⟨_, fD8⟩)⟩)))
      walk_at "rd"
      refine ⟨z, rfl, odd z hz8, tb8, fun H9 x9 t9 => ?_⟩
      have e9 := x9 _ _ e8 (fun _ z => by cases z)
      obtain ⟨xs8, ex8, hx8⟩ := g8.src
      have ex9 := x9 _ _ ex8 (fun _ z => by cases z)
      walk_at "rd"
      refine iteF ?_
      walk_at "rd"
      refine ⟨s, 4, rfl, ⟨.refl _, .refl _, xs8, ex9, hx8⟩, by decide, t9, fun HA kA tA => ?_⟩
      walk_at "rd"
      refine iteF ?_
      walk_at "nm"
      exact ⟨⟨_, _, _, _, rfl⟩, kA _ _ n3 e9 (fun _ z => by cases z), tA⟩
    · rintro σ H1 ⟨⟨y1, y2, y3, y4, rfl⟩, e4, tb4⟩
      walk_at "rd"
      refine ⟨_, _, _, true, true, rfl, .int (by decide) (by decide), fun _ => .int (by decide) (by decide), fun z => (by cases z), fun _ z => (by cases z), fun _ _ => .inr ⟨_, rfl, fun z => absurd z (by decide), fun _ mi ni e1 e2 => ?_⟩⟩
      cases e1
      cases e2
      refine ⟨fun z => absurd z (by decide), fun _ => ⟨fun _ H2 r ys k e el => ?_, fun z => absurd z (by decide)⟩⟩
      walk_at "rd"
      have el2 : ys.length = 200 := el
      rw [el2]
      walk_at "rd"
      refine iteT ?_
      walk_at "rd"
      refine ⟨_, _, true, true, rfl, .int (by decide) (by decide), fun _ => .int (by decide) (by decide), fun z => (by cases z), fun _ z => (by cases z), fun _ _ l h e1 e2 => ?_⟩
      cases e1
      cases e2
      refine ⟨fun z => absurd z (by decide), fun _ => ⟨fun z => absurd z (by decide), fun _ => ⟨fun _ _ H3 r3 ys3 k3 e3 el3 => ?_, fun z => absurd z (by decide), .inr (by decide)⟩⟩⟩
      walk_at "rd"
      have el4 : ys3.length = 2 := el3
      rw [el4]
      exact q _

end

end NC
open PySem PySem.W PySem.Calls PyProof.Rows
theorem PySem.Challenge.cw_nearcells_k72_what_shapes_refuse_holds : PySem.Challenge.rw_nearcells_k72_what_shapes_refuse.Holds := by
  w_on; o_law
  refine HandSHeadRun.head_any (r := OpenLaw.row PySem.Challenge.rw_nearcells_k72_what_shapes_refuse) (q := view (OpenLaw.row PySem.Challenge.rw_nearcells_k72_what_shapes_refuse).prog [37]) (H := NC.hk) (ob := NC.ob) (M := 4000) (loose := NC.loose) (d := HandSHeadRun.topDef (OpenLaw.row PySem.Challenge.rw_nearcells_k72_what_shapes_refuse).prog 37) (kwd := []) NC.ob_eq
    (by kernel_rfl) (fun s => by kernel_rfl) NC.run (by kernel_rfl) (by kernel_rfl) (by kernel_rfl) (by rfl) (by first | assumption | decide +kernel) (by decide +kernel) ⟨rfl, rfl, rfl, rfl, rfl, by decide +kernel⟩ ?hw ?hc
  case hw => w_witness2
  case hc =>
    refine LamX.walk_ofTsE (l := PySem.Challenge.rw_nearcells_k72_what_shapes_refuse) (n := 63) (k := 17) (x := "_law_script") (CX := fun _ => L2.CX0) rfl (by decide) (by kernel_rfl) ⟨rfl, by decide, by decide⟩ ?F (fun _ _ _ _ _ z => z)
    intro w mg fa h Y G hmg0
    obtain ⟨K, KX, c⟩ := Y
    have hmg : mg ("law" : PySem.Str) = some (.ref fa) := by
      have e : (HandSHeadRun.topDef (OpenLaw.row PySem.Challenge.rw_nearcells_k72_what_shapes_refuse).prog 37).name = ("law" : PySem.Str) := by kernel_rfl
      rw [← e]
      exact hmg0
    obtain ⟨T⟩ := NC.tops KX G c.t.d c.more
    have e := hmg.symm.trans T.g_law
    cases e
    have key : ∀ p ∈ [He.cT K ("_law_words_right", none), He.cT K ("_law_limits_right", none)], ∃ q ∈ [(("_law_words_right", none) : He.Defn), (("_law_limits_right", none) : He.Defn)], p = He.cT K q := fun p hp => by
      have hp2 : p ∈ List.map (He.cT K) [(("_law_words_right", none) : He.Defn), (("_law_limits_right", none) : He.Defn)] := hp
      obtain ⟨q, hq, e⟩ := List.mem_map.mp hp2
      exact ⟨q, hq, e.symm⟩
    refine ⟨K, KX, T.fd_law, [He.cT K ("_law_words_right", none), He.cT K ("_law_limits_right", none)], NC.sp_law K, fun p hp => ?_, fun p hp => ?_, fun p hp => ?_, NC.bA_law T, fun H a ns hl hb hH hS => ⟨a, ns, rfl, hS, hl, hb, NC.tabs0 hH, fun _ => rfl⟩, fun base _ _ htb => NC.ok_law T (htb _ (by simp)) (htb _ (by simp))⟩
    · obtain ⟨q, hq, e⟩ := key p hp
      rw [e]
      exact c.empty q hq
    · obtain ⟨q, hq, e⟩ := key p hp
      rw [e]
      exact c.out q hq
    · obtain ⟨q, hq, e⟩ := key p hp
      rw [e]
      exact PySem.W.codeHd_of_K KX (c.hd q hq)
