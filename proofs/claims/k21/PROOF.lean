import PyProof.Rows.All
import Wide.All
import OpenK.AllK
import Wide.FinOn
import PyProof.EqAt
import PyProof.EqKinds
import PyProof.TupleCall
import KE.KStateDown
import Lean
import HandS.ForMost
import HandS.ForExc
import HandS.More
import HandS.Sort
import HandS.SortOrd
import HandS.SortRule
import HandS.SortInts
import HandS.Conv
import HandS.Deep
import HandS.Style
import HandS.Flow
import HandS.Wide
import HandS.Defaults
import HandS.IsInst
import HandS.EndBits
import HandS.TupLe
import HandS.TupAny
import HandS.Codes
import HandS.CallLocal
import HandS.NoneIn
import HandS.Head0
import HandS.Head1
import HandS.Head2
import HandS.HeadEnd
import HandS.HeadHook1
import HandS.HeadHook2
import HandS.HeadHook3
import HandS.HeadHook4
import KE.KExcInit
import HandS.ExcInit
import HandS.ExcField
import HandS.ExcIs
import HandS.TryMany
import HandS.TryOnly
import HandS.Lambda
import HandS.HeadWalk
import KE.KLam
import KE.KExcIs
import KE.KeyNested
import KE.SortCalls
import KE.SortData
import KE.KDictCopyH
import KE.KDictSum
import KE.DataMinMax
import HandS.Walk
import HandS.Style
import HandS.SortRule
import HandS.Zip
import PyProof.DictRoadsH
import HandS.TupAny
import HandS.TupMul
import HandS.Style
import KE.KRevSl
import KE.KDictPairs
import HandS.Iter
import HandS.TupLen
import PyProof.ListRange
import PyProof.Rows.TupDisplay
import KE.KDictDisplayH
import PySem.Challenge.RW_nearcells_k21_what_building_refuses
set_option Elab.async false
set_option linter.all false
set_option maxRecDepth 100000
set_option maxHeartbeats 4000000
/-! NCBase: what all laws here use: calls by keywords alone, the end with the script's bits, heaps, readings as rules. -/
namespace L2
open PySem PySem.Spec PyProof.Rows
/-! ### keywords alone -/
def permL {α : Type} (ix : List Nat) (xs : List α) : List α := ix.filterMap fun i => xs[i]?
theorem permL_vals {zs : List V} {ws : List Value} (r : Vals zs ws) : ∀ ix : List Nat, Vals (permL ix zs) (permL ix ws)
  | [] => .nil
  | i :: is => by
    have ih := permL_vals r is
    unfold permL at ih ⊢
    rw [List.filterMap_cons, List.filterMap_cons]
    cases e : zs[i]? with
    | none =>
      rw [r.none_of e]
      exact ih
    | some z =>
      obtain ⟨u, e2, r2⟩ := r.get e
      rw [e2]
      exact .cons r2 ih
theorem FunD.kbnP {K : PySem.W.Frag} {x qual : Str} {params : Arguments} {body : List Stmt} {scope : Scope} {kws : List (Str × V)} {f : Addr} {fd : FuncData} {ps : List Str} (F : FunD K x qual params body scope [] kws f fd) (n : Nat) (ks : List Str) (ix : List Nat)
    (h : ∀ (kV doc pm : Value) (an : Option Addr) (cdv ct : Value) (us ws : List Value), us.length = n → ws.length = ks.length → bindArgs (PySem.W.fnOf x qual params body scope .none kV doc pm an cdv ct) ⟨us, ks.zip ws⟩ = pure (ps.zip (permL ix (us ++ ws)))) :
    KBn K fd ps n ks (fun us ws => permL ix (us ++ ws)) (fun vs zs => permL ix (vs ++ zs)) := by
  obtain ⟨oc, od, dV, kV, doc, pm, an, cdv, ct, osl, rfl, lk, hcd, hD, hK⟩ := F.ex
  rcases hD with ⟨_, rfl⟩ | ⟨e, _⟩
  · exact ⟨fun s us ws _ l1 l2 => .of_eq (h kV doc pm an cdv ct us ws l1 l2), fun r1 r2 => permL_vals (r1.append r2) ix⟩
  · exact absurd rfl e
section
variable {X : Cx} {CX : CXT} {k : Nat} {f : Addr} {fd : FuncData} {ps ks : List Str} {sp : Sp} {E : XK} {x : Str} {p pos : Pos} {kws : List Keyword} {tk : TA} {g : List Value → List Value → List Value} {gV : List V → List V → List V}
/-- f(k = v, ..) -/
theorem pe_callN0 (F : FnOk X.prog X.w X.K X.mg X.base CX k f fd ps sp) (hr : Room k X.A) (hg : Gl X x) (hm : X.mg x = some (.ref f)) (hk : PySem.W.keepIn X.K (.ref f) = true) (hb : KBn X.K fd ps 0 ks g gV) (hx : Passes CX X E) (hkw : PK X kws tk)
    (hall : (backToKw pos (keywordEach kws X.env)).all (·.1.isSome) = true := by rfl) (hks : (backToKw pos (keywordEach kws X.env)).filterMap (·.1) = ks := by rfl) (hdb : (x == ("__debug__" : Str)) = false := by decide)
    (hpl : ((backTo pos (starEach [] X.env)).any (·.1) || (backToKw pos (keywordEach kws X.env)).any (·.1.isNone)) = false := by rfl) :
    PE X (.Call (.Name x p) [] kws pos) (tCallN 0 ks.length sp gV E tNil tk) := by
  refine ⟨fun pins s σ H Q I h => ?_⟩
  refine wpAny_Call_Name_kw (ld_glob I hg hm ?_ hdb)
  refine PySem.W.callWith_KW0 (h₀ := X.base) I.ok.mod.kin hk hall ?_ hpl
  refine thn (hkw.run pos pins s σ H _ I h) fun ws s2 ⟨zs, H2, I2, rz, l1, l2, q2⟩ => ⟨I2.kIn, ?_⟩
  rw [hks]
  exact run_fnN (us := []) (vs := []) F hr hb hx I2 .nil rz rfl l2 q2
end
/-! ### the end, with the script's bits -/
theorem walk_ofBE {l : PySem.W.OpenLaw} {n k : Nat} {q : Program} {loose : List Str} {XP : (Str → Option Value) → Heap → Prop} {YP : World → Heap → Prop} {d : DefRec} {CX : CXT} {x : Str}
    (hn : l.most = some n) (hn2 : n ≤ sizeLine) (hdf : d.params.defaults = []) (hr : Room k callerA)
    (F : ∀ (w : World) (mg : Str → Option Value) (fa : Addr) (h : Heap), YP w h → h.Ns mainGlobals mg → mg d.name = some (.ref fa) →
      ∃ (K : PySem.W.Frag) (fd : FuncData) (sp : Sp), K.In h ∧ (∀ (s : Shared) (u : Value), BindsTo s fd ⟨[u], []⟩ [(x, u)]) ∧
        (∀ (H : Hp) (a : Addr) (ns : List Int), ns.length ≤ n → (∀ z ∈ ns, Builtin.Int.intBits z ≤ 1048576) → Only H → SqL K H a (ns.map V.int) → sp [.ref a] H (fun v _ => v = .bl true) fun _ _ _ => False) ∧
        ∀ base : Heap, K.In base → base.Ns mainGlobals mg → FnOk l.prog w K mg base CX k fa fd [x] sp)
    (hCX : ∀ (H : Hp) (s : Shared) (e : Value) (s' : Shared), CX [] H s (fun _ _ _ => False) e s' → False) :
    PySem.W.WalkO q loose XP YP l.row.toRowW d [] (fun f vs => PySem.call f vs) := by
  refine Att.attach_callB hn hdf fun w s₀ s₁ mg mb fa o pm cd doc a vs ns G Y ho hd hcd hmg hobj hints hlen hbits hg => ?_
  obtain ⟨K, fd, sp, KX, hb, hsp, hF⟩ := F w mg fa _ Y G.T.g hmg
  exact law_call KX G.T.g G.T.b G.T.builtins G.T.nolimit hg hobj hints (Nat.le_trans hlen hn2) hr hF hb (fun H hO hS => hsp H a ns hlen hbits hO hS) fun H e s' => hCX H s₁ e s'
/-! ### readings as rules -/
section
variable {σ : St} {H : Hp} {Q : VK} {D : Ends} {K : PySem.W.Frag} {v x y : V}
theorem g_var {i : Nat} (h : σ[i]? = some (some v)) (q : Q v H) : tVar i σ H Q := ⟨v, h, q⟩
theorem g_c (q : Q v H) : tC v σ H Q := q
theorem g_op {r : R2} {ta tb : TE} (q : ta σ H fun x H1 => tb σ H1 fun y H2 => r x y H2 Q) : tOp r ta tb σ H Q := q
theorem g_un {r : V → Hp → VK → Prop} {ta : TE} (q : ta σ H fun x H1 => r x H1 Q) : tUn r ta σ H Q := q
theorem g_I0 {g : Int → Int → V} {i j : Int} (q : Q (g i j) H) : rI0 g (.int i) (.int j) H Q := ⟨i, j, rfl, rfl, q⟩
theorem g_mul {g : Int → Int → V} {i j : Int} (hc : CMul i j) (q : Q (g i j) H) : rI CMul g (.int i) (.int j) H Q := ⟨i, j, rfl, rfl, hc, q⟩
theorem g_I {C : Int → Int → Prop} {g : Int → Int → V} {i j : Int} (hc : C i j) (q : Q (g i j) H) : rI C g (.int i) (.int j) H Q := ⟨i, j, rfl, rfl, hc, q⟩
theorem g_U {g : Int → V} {i : Int} (q : Q (g i) H) : rU g (.int i) H Q := ⟨i, rfl, q⟩
theorem g_eqI {i j : Int} (q : Q (.bl (decide (i = j))) H) : rEq (.int i) (.int j) H Q := ⟨rfl, by rw [dec_int, Bool.beq_eq_decide_eq]; exact q⟩
theorem g_neI {i j : Int} (q : Q (.bl (!decide (i = j))) H) : rNe (.int i) (.int j) H Q := ⟨rfl, by rw [dec_int, Bool.beq_eq_decide_eq]; exact q⟩
theorem g_eqB {i j : Bool} (q : Q (.bl (i == j)) H) : rEq (.bl i) (.bl j) H Q := ⟨rfl, by rw [dec_bl]; exact q⟩
theorem g_neB {i j : Bool} (q : Q (.bl (!(i == j))) H) : rNe (.bl i) (.bl j) H Q := ⟨rfl, by rw [dec_bl]; exact q⟩
theorem g_cons {ta : TE} {tr : TA} {q : List V → Hp → Prop} (h : ta σ H fun x H1 => tr σ H1 fun xs H2 => q (x :: xs) H2) : tCons ta tr σ H q := h
theorem g_nil {q : List V → Hp → Prop} (h : q [] H) : tNil σ H q := h
theorem g_tup {t : TA} (h : t σ H fun xs H1 => xs.length ≤ sizeLine ∧ ∀ p, H1 p = none → Q (.ref p) (upd H1 p (.tup xs))) : tTup t σ H Q := h
theorem g_lst {t : TA} (h : t σ H fun xs H1 => xs.length ≤ sizeLine ∧ ∀ p, H1 p = none → Q (.ref p) (upd H1 p (.lst xs))) : tLst t σ H Q := h
theorem g_ixT {p : Addr} {xs : List V} {i : Int} (h : H p = some (.tup xs)) (ha : atI xs i = some v) (q : Q v H) : rIxT K (.ref p) (.int i) H Q := ⟨p, xs, i, v, rfl, rfl, SqT.of h, ha, q⟩
theorem g_ixL {p : Addr} {xs : List V} {i : Int} (h : H p = some (.lst xs)) (ha : atI xs i = some v) (q : Q v H) : rIxL K (.ref p) (.int i) H Q := ⟨p, xs, i, v, rfl, rfl, SqL.of h, ha, q⟩
theorem g_cb {r : List V → Hp → VK → Prop} {t : TA} (q : t σ H fun vs H1 => r vs H1 Q) : tCB r t σ H Q := q
theorem g_call {sp : Sp} {dvs : List V} {E : XK} {t : TA} (q : t σ H fun vs H1 => sp (vs ++ dvs) H1 Q E) : tCall sp dvs E t σ H Q := q
theorem g_test {t : TE} {q : Bool → Hp → Prop} (h : t σ H fun x H' => ∃ k, x = .bl k ∧ q k H') : tTest t σ H q := h
theorem g_tb {t : TE} {q : Bool → Hp → Prop} (h : t σ H fun x H' => ∃ k, x = .bl k ∧ q k H') : tB t σ H q := h
theorem g_bl {b : Bool} {q : Bool → Prop} (h : q b) : ∃ k, V.bl b = .bl k ∧ q k := ⟨b, rfl, h⟩
theorem g_yes {q : Bool → Hp → Prop} (h : q true H) : tYes σ H q := h
theorem g_and {t u : TT} {q : Bool → Hp → Prop} (h : t σ H fun c H1 => if c = true then u σ H1 q else q false H1) : tAnd t u σ H q := h
theorem g_or {t u : TT} {q : Bool → Hp → Prop} (h : t σ H fun c H1 => if c = true then q true H1 else u σ H1 q) : tOr t u σ H q := h
theorem g_not {t : TT} {q : Bool → Hp → Prop} (h : t σ H fun c H1 => q (!c) H1) : tNot t σ H q := h
theorem g_if {t : TT} {ta tb : TE} (h : t σ H fun c H1 => if c = true then ta σ H1 Q else tb σ H1 Q) : tIf t ta tb σ H Q := h
theorem g_ifS {c : TT} {t u : TS} (h : c σ H fun b H1 => if b = true then t D σ H1 else u D σ H1) : tIfS c t u D σ H := h
theorem g_seq {t u : TS} (h : t { D with nx := u D } σ H) : tSeq t u D σ H := h
theorem g_next (h : D.nx σ H) : tNext D σ H := h
theorem g_ret {te : TE} (h : te σ H D.rt) : tRet te D σ H := h
theorem g_asg {te : TE} {g : TG} (h : te σ H fun x H1 => g x σ H1 D.nx) : tAsg te g D σ H := h
theorem g_name {i : Nat} {q : St → Hp → Prop} (h : q (σ.set i (some v)) H) : gName i v σ H q := h
theorem g_drop {te : TE} (h : te σ H fun _ H1 => D.nx σ H1) : tDrop te D σ H := h
theorem g_par {i j : Nat} {ta : TA} (h : ta σ H fun vs H1 => ∃ v w, vs = [v, w] ∧ D.nx ((σ.set i (some v)).set j (some w)) H1) : tPar i j ta D σ H := h
theorem g_par3 {i j l : Nat} {ta : TA} (h : ta σ H fun vs H1 => ∃ u v w, vs = [u, v, w] ∧ D.nx (((σ.set i (some u)).set j (some v)).set l (some w)) H1) : tPar3 i j l ta D σ H := h
theorem g_chain {r r' : R2} {ta tb tc : TE} (h : ta σ H fun x H1 => tb σ H1 fun y H2 => r x y H2 fun z H3 => ∃ k, z = .bl k ∧ (if k = true then tc σ H3 fun w' H4 => r' y w' H4 Q else Q (.bl false) H3)) : tChain r r' ta tb tc σ H Q := h
theorem g_andV {ta tb : TE} (h : ta σ H fun x H1 => ∃ c, x = .bl c ∧ if c = true then tb σ H1 Q else Q (.bl false) H1) : tAndV ta tb σ H Q := h
theorem g_orV {ta tb : TE} (h : ta σ H fun x H1 => ∃ c, x = .bl c ∧ if c = true then Q (.bl true) H1 else tb σ H1 Q) : tOrV ta tb σ H Q := h
theorem g_notV {ta : TE} (h : ta σ H fun x H1 => ∃ c, x = .bl c ∧ Q (.bl (!c)) H1) : tNotV ta σ H Q := h
theorem g_sub {to ti : TE} {t : TSet} {q : St → Hp → Prop} (h : to σ H fun o H1 => ti σ H1 fun i H2 => t o i v H2 fun H3 => q σ H3) : gSub to ti t v σ H q := h
theorem g_setL {p : Addr} {xs : List V} {k : Int} {j : Nat} {q : Hp → Prop} (h : H p = some (.lst xs)) (hj : ixN xs.length k = some j) (hq : q (upd H p (.lst (xs.set j v)))) : rSetL (.ref p) (.int k) v H q := ⟨p, xs, k, j, rfl, rfl, h, hj, hq⟩
theorem g_tupG {n : Nat} {t : TGs} {a : Addr} {xs : List V} {q : St → Hp → Prop} (h : H a = some (.tup xs)) (hn : xs.length = n) (hq : t xs σ H q) : gTup K n t (.ref a) σ H q := ⟨a, xs, rfl, SqT.of h, hn, hq⟩
theorem g_unl {n : Nat} {t : TGs} {a : Addr} {xs : List V} {q : St → Hp → Prop} (h : H a = some (.lst xs)) (hn : xs.length = n) (hq : t xs σ H q) : gUnl K n t (.ref a) σ H q := ⟨a, xs, rfl, SqL.of h, hn, hq⟩
theorem g_consG {t : TG} {u : TGs} {r : List V} {q : St → Hp → Prop} (h : t v σ H fun σ' H' => u r σ' H' q) : gCons t u (v :: r) σ H q := ⟨v, r, rfl, h⟩
theorem g_nilG {q : St → Hp → Prop} (h : q σ H) : gNil [] σ H q := ⟨rfl, h⟩
theorem g_callN {n m : Nat} {sp : Sp} {gV : List V → List V → List V} {E : XK} {t tk : TA} (h : t σ H fun vs H1 => tk σ H1 fun zs H2 => vs.length = n ∧ zs.length = m ∧ sp (gV vs zs) H2 Q E) : tCallN n m sp gV E t tk σ H Q := h
theorem g_sl {r : V → Option Int → Option Int → Hp → VK → Prop} {te : TE} {tl th : TO} (h : te σ H fun x H1 => tl σ H1 fun l H2 => th σ H2 fun u H3 => r x l u H3 Q) : tSl r te tl th σ H Q := h
end
/-! ### built-ins by names of their own -/
def rInt : List V → Hp → VK → Prop := fun xs H Q => (∃ i, xs = [.int i] ∧ Q (.int i) H) ∨ ∃ k, xs = [.bl k] ∧ Q (.int (if k then 1 else 0)) H
def rLenN (K : PySem.W.Frag) : List V → Hp → VK → Prop := fun xs H Q => ∃ p ys, xs = [.ref p] ∧ (SqL K H p ys ∨ SqT K H p ys) ∧ Q (.int ys.length) H
def rAbs : List V → Hp → VK → Prop := fun xs H Q => ∃ i, xs = [.int i] ∧ Q (.int (if i < 0 then -i else i)) H
def rMin2 : List V → Hp → VK → Prop := fun xs H Q => ∃ i j, xs = [.int i, .int j] ∧ Q (.int (if j < i then j else i)) H
def rMax2 : List V → Hp → VK → Prop := fun xs H Q => ∃ i j, xs = [.int i, .int j] ∧ Q (.int (if j > i then j else i)) H
def zsg (k : Bool) : Int := if k then 1 else 0
theorem zsg_lo (k : Bool) : 0 ≤ zsg k := by cases k <;> decide
theorem zsg_hi (k : Bool) : zsg k ≤ 1 := by cases k <;> decide
section
variable {X : Cx}
theorem call_intN : CallR X (.type "int") rInt := call_int1
theorem call_lenN : CallR X (.builtin "len") (rLenN X.K) := call_len_seq
theorem call_absN : CallR X (.builtin "abs") rAbs := call_abs
theorem call_min2N (hc : X.calm = true) : CallR X (.builtin "min") rMin2 := call_min2 hc
theorem call_max2N (hc : X.calm = true) : CallR X (.builtin "max") rMax2 := call_max2 hc
end
section
variable {σ : St} {H : Hp} {Q : VK} {D : Ends} {K : PySem.W.Frag}
theorem g_intI {i : Int} (q : Q (.int i) H) : rInt [.int i] H Q := .inl ⟨i, rfl, q⟩
theorem g_intB {k : Bool} (q : Q (.int (zsg k)) H) : rInt [.bl k] H Q := .inr ⟨k, rfl, q⟩
theorem g_lenL {p : Addr} {xs : List V} (h : H p = some (.lst xs)) (q : Q (.int xs.length) H) : rLenN K [.ref p] H Q := ⟨p, xs, rfl, .inl (SqL.of h), q⟩
theorem g_lenT {p : Addr} {xs : List V} (h : H p = some (.tup xs)) (q : Q (.int xs.length) H) : rLenN K [.ref p] H Q := ⟨p, xs, rfl, .inr (SqT.of h), q⟩
theorem g_abs {i : Int} (q : Q (.int (if i < 0 then -i else i)) H) : rAbs [.int i] H Q := ⟨i, rfl, q⟩
theorem g_min2 {i j : Int} (q : Q (.int (if j < i then j else i)) H) : rMin2 [.int i, .int j] H Q := ⟨i, j, rfl, q⟩
theorem g_max2 {i j : Int} (q : Q (.int (if j > i then j else i)) H) : rMax2 [.int i, .int j] H Q := ⟨i, j, rfl, q⟩
theorem g_mod {g : Int → Int → V} {i j : Int} (hc : 0 < j) (q : Q (g i j) H) : rI (fun _ j => 0 < j) g (.int i) (.int j) H Q := ⟨i, j, rfl, rfl, hc, q⟩
theorem g_div {g : Int → Int → V} {i j : Int} (h1 : 0 < j) (h2 : j < 1073741824) (q : Q (g i j) H) : rI CDiv g (.int i) (.int j) H Q := ⟨i, j, rfl, rfl, ⟨h1, h2⟩, q⟩
theorem g_pow {g : Int → Int → V} {i j : Int} (hc : CPow i j) (q : Q (g i j) H) : rI CPow g (.int i) (.int j) H Q := ⟨i, j, rfl, rfl, hc, q⟩
theorem g_isi {x : V} {T : String} {t : String} {b : Bool} (ty : TyX K H x (.type t)) (h : kitB t T = some b) (q : Q (.bl b) H) : rIsi K [x, .ty T] H Q := ⟨x, .ty T, .type t, .type T, b, rfl, .ty T, ty, kit_ty h, q⟩
theorem g_po {te : TE} {q : Option Int → Hp → Prop} (h : te σ H fun x H1 => ∃ i, x = .int i ∧ q (some i) H1) : tPart te σ H q := h
theorem g_pon {q : Option Int → Hp → Prop} (h : q none H) : tNoPart σ H q := h
theorem g_int1 {i : Int} {q : Int → Prop} (h : q i) : ∃ k, V.int i = .int k ∧ q k := ⟨i, rfl, h⟩
end
/-! ### rules with the written part told -/
section
variable {X : Cx}
theorem ix_tupK (K : PySem.W.Frag) (h : X.K = K := by rfl) : IxR X (rIxT K) := by subst h; exact ix_tup
theorem ix_listK (K : PySem.W.Frag) (h : X.K = K := by rfl) : IxR X (rIxL K) := by subst h; exact ix_list
theorem sl_listK (K : PySem.W.Frag) (h : X.K = K := by rfl) : SlR X (rSlL K) := by subst h; exact sl_list
theorem call_lenK (K : PySem.W.Frag) (h : X.K = K := by rfl) : CallR X (.builtin "len") (rLenN K) := by subst h; exact call_lenN
theorem call_isiK0 (K : PySem.W.Frag) (h : X.K = K := by rfl) : CallR X (.builtin "isinstance") (rIsi K) := by subst h; exact call_isi
theorem op_eqDK (K : PySem.W.Frag) (hu : X.A.units + 64 < cLine) (h : X.K = K := by rfl) : OpR X (compareOp .Eq) (rEqD K) := by subst h; exact op_eqD hu
theorem op_neDK (K : PySem.W.Frag) (hu : X.A.units + 64 < cLine) (h : X.K = K := by rfl) : OpR X (compareOp .NotEq) (rNeD K) := by subst h; exact op_neD hu
theorem op_inK (K : PySem.W.Frag) (h : X.K = K := by rfl) : OpR X (compareOp .In) (rIn K false) := by subst h; exact op_in_seq
theorem op_notInK (K : PySem.W.Frag) (h : X.K = K := by rfl) : OpR X (compareOp .NotIn) (rIn K true) := by subst h; exact op_notIn_seq
theorem cr_allK (K : PySem.W.Frag) (hc : X.calm = true) (h : X.K = K := by rfl) : CallR X (.builtin "all") (rAll K) := by subst h; exact cr_all hc
theorem cr_anyK (K : PySem.W.Frag) (hc : X.calm = true) (h : X.K = K := by rfl) : CallR X (.builtin "any") (rAny K) := by subst h; exact cr_any hc
theorem cr_sumK (K : PySem.W.Frag) (hc : X.calm = true) (h : X.K = K := by rfl) : CallR X (.builtin "sum") (rSum K) := by subst h; exact cr_sum hc
theorem pi_listK {tg l : Expr} {tl : TE} (K : PySem.W.Frag) (hl : PE X l tl) (h : X.K = K := by rfl) : PI X tg l (iList K tl) := by subst h; exact pi_list hl
theorem pi_tupK {tg l : Expr} {tl : TE} (K : PySem.W.Frag) (hl : PE X l tl) (h : X.K = K := by rfl) : PI X tg l (iTup K tl) := by subst h; exact pi_tup hl
end
/-! ### loops -/
abbrev LoopP (g : TG) (tb : TS) (D : Ends) (σ : St) (J : It) (H1 : Hp) : Prop := ∃ W : Nat → Nat → St → Hp → Prop, (∃ m, W 0 m σ H1) ∧ ∀ i m σ H, W i m σ H →
  (J.stop i H ∧ D.nx σ H) ∨ (J.go i H ∧ ∃ N : St → Hp → Prop, (∀ σ' H', N σ' H' → ∃ m', m' < m ∧ W (i + 1) m' σ' H') ∧ ∀ x H', J.yld i H x H' → g x σ H' fun σ2 H2 => tb { D with nx := N, ct := N, bk := D.nx } σ2 H2)
abbrev LcP (g : TG) (tt : TT) (te : TE) (vs : List Nat) (σ : St) (Q : VK) (J : It) (H1 : Hp) : Prop := ∀ D, H1 D = none → ∃ W : Nat → Nat → Hp → Prop, (∃ m, W 0 m (upd H1 D (.lst []))) ∧ ∀ i m H, W i m H →
  (J.stop i H ∧ Q (.ref D) H) ∨ (J.go i H ∧ ∃ Nx : Hp → Prop, (∀ H', Nx H' → ∃ m', m' < m ∧ W (i + 1) m' H') ∧ ∀ x H', J.yld i H x H' → g x (wipe σ vs) H' fun σ2 H2 => wipe σ2 vs = wipe σ vs ∧ tt σ2 H2 fun b H3 =>
    if b = true then te σ2 H3 fun y H4 => ∃ acc, H4 D = some (.lst acc) ∧ acc.length < sizeLine ∧ Nx (upd H4 D (.lst (acc ++ [y]))) else Nx H3)
section
variable {σ : St} {H : Hp} {Q : VK} {D : Ends} {K : PySem.W.Frag}
theorem g_for {wi : TI} {g : TG} {tb : TS} (h : wi σ H (LoopP g tb D σ)) : tFor wi g tb D σ H := h
theorem g_lc {wi : TI} {g : TG} {tt : TT} {te : TE} {vs : List Nat} (h : wi σ H (LcP g tt te vs σ Q)) : tLc wi g tt te vs σ H Q := h
theorem g_rng1 {ta : TA} {R : It → Hp → Prop} (h : ta σ H fun vs H1 => ∃ j : Int, vs = [.int j] ∧ -(2 ^ 62) ≤ j ∧ j < 2 ^ 62 ∧ R (Itr 0 j.toNat) H1) : iRng1 ta σ H R := h
theorem g_rng2 {ta : TA} {R : It → Hp → Prop} (h : ta σ H fun vs H1 => ∃ i j : Int, vs = [.int i, .int j] ∧ (-(2 ^ 62) ≤ i ∧ i < 2 ^ 62 ∧ -(2 ^ 62) ≤ j ∧ j < 2 ^ 62) ∧ R (Itr i (j - i).toNat) H1) : iRng2 ta σ H R := h
theorem g_ilist {tl : TE} {R : It → Hp → Prop} (h : tl σ H fun x H1 => ∃ a, x = .ref a ∧ (∃ xs, SqL K H1 a xs) ∧ R (Itl K a) H1) : iList K tl σ H R := h
theorem g_itup {tl : TE} {R : It → Hp → Prop} (h : tl σ H fun x H1 => ∃ a, x = .ref a ∧ (∃ xs, SqT K H1 a xs) ∧ R (Itt K a) H1) : iTup K tl σ H R := h
theorem g_ikeys {td : TE} {R : It → Hp → Prop} (h : td σ H fun x H1 => ∃ d o, x = .ref d ∧ ((∃ kvs, H1 d = some (.frz o (.dK kvs)) ∧ R (Itk d o kvs) H1) ∨ ∃ kvs, H1 d = some (.frz o (.dT kvs)) ∧ R (Itkt d o kvs) H1)) : iKeys td σ H R := h
end
/-- over the keys of a locked dict of tuples -/
theorem lc_keysT {d : Addr} {o : Obj} {kvs : List (List Key × V)} {g : TG} {tt : TT} {te : TE} {vs : List Nat} {σ : St} {H1 : Hp} {D : Addr} {Qd : Hp → Prop} (Pv : Nat → Hp → Prop) (h0 : Pv 0 (upd H1 D (.lst []))) (hl : ∀ i H, i ≤ kvs.length → Pv i H → H d = some (.frz o (.dT kvs)))
    (hs : ∀ i k v q H, kvs[i]? = some (k, v) → H q = some (.tup (k.map kV)) → Pv i H → g (.ref q) (wipe σ vs) H fun σ2 H2 => wipe σ2 vs = wipe σ vs ∧ tt σ2 H2 fun b H3 =>
      if b = true then te σ2 H3 fun y H4 => ∃ acc, H4 D = some (.lst acc) ∧ acc.length < sizeLine ∧ Pv (i + 1) (upd H4 D (.lst (acc ++ [y]))) else Pv (i + 1) H3) (hd : ∀ H, Pv kvs.length H → Qd H) :
    ∃ W : Nat → Nat → Hp → Prop, (∃ m, W 0 m (upd H1 D (.lst []))) ∧ ∀ i m H, W i m H →
      ((Itkt d o kvs).stop i H ∧ Qd H) ∨ ((Itkt d o kvs).go i H ∧ ∃ Nx : Hp → Prop, (∀ H', Nx H' → ∃ m', m' < m ∧ W (i + 1) m' H') ∧ ∀ x H', (Itkt d o kvs).yld i H x H' → g x (wipe σ vs) H' fun σ2 H2 => wipe σ2 vs = wipe σ vs ∧ tt σ2 H2 fun b H3 =>
        if b = true then te σ2 H3 fun y H4 => ∃ acc, H4 D = some (.lst acc) ∧ acc.length < sizeLine ∧ Nx (upd H4 D (.lst (acc ++ [y]))) else Nx H3) := by
  refine ⟨fun i m H => m + i = kvs.length ∧ Pv i H, ⟨kvs.length, rfl, h0⟩, fun i m H hW => ?_⟩
  obtain ⟨em, p⟩ := hW
  have hd2 := hl i H (by omega) p
  by_cases hi : i < kvs.length
  · refine .inr ⟨⟨hd2, hi⟩, Pv (i + 1), fun H' p' => ⟨m - 1, by omega, by omega, p'⟩, fun x H' hy => ?_⟩
    obtain ⟨rfl, k, v, q, e1, rfl, e2⟩ := hy
    exact hs i k v q _ e1 e2 p
  · have e : i = kvs.length := by omega
    subst e
    exact .inl ⟨⟨hd2, Nat.le_refl _⟩, hd H p⟩
theorem mulL {i j : Int} (h1 : -1000000000000000000 ≤ i) (h2 : i ≤ 1000000000000000000) : CMul i j := .inl ⟨by omega, by omega⟩
theorem mulR {i j : Int} (h1 : -1000000000000000000 ≤ j) (h2 : j ≤ 1000000000000000000) : CMul i j := .inr ⟨by omega, by omega⟩
theorem len_le {n : Nat} (h : n ≤ 1000000) : n ≤ sizeLine := Nat.le_trans h (by decide)
theorem len_lt {n : Nat} (h : n < 1000000) : n < sizeLine := Nat.lt_of_lt_of_le h (by decide)
theorem pow_ok {i : Int} {j : Int} (h1 : 0 ≤ i) (h2 : i < 9223372036854775808) (h3 : 0 ≤ j) (h4 : j ≤ 1000000) : CPow i j := ⟨h3, h4, by omega⟩
/-! ### great numbers -/
def CMulA (i j : Int) : Prop := CMul i j ∨ CMulW i j
theorem CMulA.ok {i j : Int} (h : CMulA i j) : IntMulOk i j := h.elim CMul.ok CMulW.ok
def CDivA (_ j : Int) : Prop := j ≠ 0 ∧ j.natAbs.log2 < 9000
def CPowA (i j : Int) : Prop := 0 ≤ j ∧ (Builtin.Int.intBits i : Int) * j ≤ 2 ^ 27
def rMax3 : List V → Hp → VK → Prop := fun xs H Q => ∃ i j k, xs = [.int i, .int j, .int k] ∧ Q (.int (if j > i then (if k > j then k else j) else (if k > i then k else i))) H
section
variable {X : Cx}
theorem op_mulA : OpR X (binaryOp .Mult) (rI CMulA fun i j => .int (i * j)) := opI fun _ _ _ _ _ _ _ hc q => mul_int q hc.ok
theorem op_fdivA : OpR X (binaryOp .FloorDiv) (rI CDivA fun i j => .int (i.fdiv j)) := opI fun _ _ _ _ _ _ _ hc q => floordiv_int hc.1 q (.inl (PyProof.noPylong_of_log2 hc.2))
theorem op_powA : OpR X (binaryOp .Pow) (rI CPowA fun i j => .int (i ^ j.toNat)) := opI fun _ _ _ _ _ _ _ hc q => pow_int hc.1 hc.2 q
theorem call_max3N (hc : X.calm = true) : CallR X (.builtin "max") rMax3 := by
  intro pins s σ H xs us Q I r h
  obtain ⟨i, j, k, rfl, q⟩ := h
  obtain ⟨u1, u2, u3, rfl, ⟨t1, rfl⟩, ⟨t2, rfl⟩, ⟨t3, rfl⟩⟩ : ∃ u1 u2 u3, us = [u1, u2, u3] ∧ RelV (.int i) u1 ∧ RelV (.int j) u2 ∧ RelV (.int k) u3 := by
    cases r with
    | cons a r =>
      cases r with
      | cons b r =>
        cases r with
        | cons c r =>
          cases r
          exact ⟨_, _, _, rfl, a, b, c⟩
  refine max_three_ints (I.ok.hd hc) fun h' tk hk => ?_
  refine ⟨_, H, I.kept hk, ?_, q⟩
  by_cases h1 : j > i <;> by_cases h2 : k > j <;> by_cases h3 : k > i <;> simp only [h1, h2, h3, if_true, if_false] <;> exact ⟨_, rfl⟩
end
section
variable {H : Hp} {Q : VK}
theorem g_mulA {g : Int → Int → V} {i j : Int} (hc : CMulA i j) (q : Q (g i j) H) : rI CMulA g (.int i) (.int j) H Q := ⟨i, j, rfl, rfl, hc, q⟩
theorem g_divA {g : Int → Int → V} {i j : Int} (hc : CDivA i j) (q : Q (g i j) H) : rI CDivA g (.int i) (.int j) H Q := ⟨i, j, rfl, rfl, hc, q⟩
theorem g_powA {g : Int → Int → V} {i j : Int} (hc : CPowA i j) (q : Q (g i j) H) : rI CPowA g (.int i) (.int j) H Q := ⟨i, j, rfl, rfl, hc, q⟩
theorem g_max3 {i j k : Int} (q : Q (.int (if j > i then (if k > j then k else j) else (if k > i then k else i))) H) : rMax3 [.int i, .int j, .int k] H Q := ⟨i, j, k, rfl, q⟩
end
theorem mulW {i j : Int} (h1 : i.natAbs < 2 ^ 400) (h2 : j.natAbs < 2 ^ 400) : CMulA i j := .inr (wide_mul h1 h2 (by decide) (by decide) (by decide))
theorem divW {i j : Int} (h0 : j ≠ 0) (h : j.natAbs < 2 ^ 4000) : CDivA i j := ⟨h0, Nat.lt_of_lt_of_le (PySem.Flt.log2_lt_of (by decide) h) (by decide)⟩
theorem divB {i j : Int} (h0 : 0 < j) (h : j < 1267650600228229401496703205376) : CDivA i j := by
  refine divW (by omega) (Nat.lt_of_lt_of_le (m := 2 ^ 100) ?_ (Nat.pow_le_pow_right (by decide) (by decide)))
  have e : (2 : Nat) ^ 100 = 1267650600228229401496703205376 := by decide
  rw [e]
  omega
theorem powW {i : Int} (h : i.natAbs < 2 ^ 400) : CPowA i 2 := by
  refine ⟨by decide, ?_⟩
  have b : Builtin.Int.intBits i ≤ i.natAbs.log2 + 1 := by
    unfold Builtin.Int.intBits
    split <;> omega
  have c : i.natAbs.log2 < 400 := PySem.Flt.log2_lt_of (by decide) h
  have e : (2 : Int) ^ 27 = 134217728 := by decide
  rw [e]
  omega
theorem powS {i j : Int} (h0 : 0 ≤ j) (h1 : j ≤ 1000) (h : i.natAbs < 2 ^ 64) : CPowA i j := by
  refine ⟨h0, ?_⟩
  have b : Builtin.Int.intBits i ≤ i.natAbs.log2 + 1 := by
    unfold Builtin.Int.intBits
    split <;> omega
  have c : i.natAbs.log2 < 64 := PySem.Flt.log2_lt_of (by decide) h
  have e : (2 : Int) ^ 27 = 134217728 := by decide
  rw [e]
  have h2 : (Builtin.Int.intBits i : Int) * j ≤ 64 * 1000 := Int.mul_le_mul (by omega) h1 h0 (by decide)
  omega
/-! ### heaps: the tuples stay -/
def TK (H H' : Hp) : Prop := ∀ p xs, H p = some (.tup xs) → H' p = some (.tup xs)
theorem TK.refl (H : Hp) : TK H H := fun _ _ h => h
theorem TK.trans {H H1 H2 : Hp} (a : TK H H1) (b : TK H1 H2) : TK H H2 := fun p xs h => b p xs (a p xs h)
theorem TK.new {H : Hp} {p : Addr} {o : HO} (n : H p = none) : TK H (upd H p o) := fun q xs h => by
  rw [upd_ne (ne_of_none h n)]
  exact h
theorem TK.lst {H : Hp} {p : Addr} {l : List V} {o : HO} (n : H p = some (.lst l)) : TK H (upd H p o) := fun q xs h => by
  rw [upd_ne (ne_of h n (fun z => by cases z))]
  exact h
theorem TK.same {H H' : Hp} (s : Same H H') : TK H H' := fun p xs h => s p _ h
theorem same_new {H : Hp} {p : Addr} {o : HO} (h : H p = none) : Same H (upd H p o) := fun b x e => by
  rw [upd_ne (ne_of_none e h)]
  exact e
/-- v is the site (x, y) -/
def IsS (H : Hp) (v : V) (x y : Int) : Prop := ∃ p, v = .ref p ∧ H p = some (.tup [.int x, .int y])
theorem IsS.mono {H H' : Hp} {v : V} {x y : Int} (k : TK H H') (h : IsS H v x y) : IsS H' v x y := by
  obtain ⟨p, e, h⟩ := h
  exact ⟨p, e, k p _ h⟩
theorem all_ints {ns : List Int} {z : V} (h : z ∈ ns.map V.int) : ∃ n : Int, z = .int n := by
  obtain ⟨n, _, e⟩ := List.mem_map.mp h
  exact ⟨n, e.symm⟩
theorem cut_mem {xs : List V} {lo hi : Option Int} {z : V} (h : z ∈ cutV xs lo hi) : z ∈ xs := List.mem_of_mem_drop (List.mem_of_mem_take h)
theorem IsS.mk {H : Hp} {p : Addr} {x y : Int} : IsS (upd H p (.tup [.int x, .int y])) (.ref p) x y := ⟨p, rfl, upd_same⟩
end L2
/-! NCExc: own exception classes over ArithmeticError with an __init__ of their own. -/
namespace L2
open PySem PySem.Spec PyProof.Rows
abbrev aeT : List Value := [.type "ArithmeticError", .type "Exception", .type "BaseException", .type "object"]
/-- what the written part says of an own error class -/
structure OexA (K : PySem.W.Frag) (C : Addr) : Prop where
  ini : PySem.W.excInitIn K C aeT "ArithmeticError.__new__" = true
  ov : PySem.W.excOver K C aeT = true
  hd : PySem.W.hasDictIn K C = true
  sa : PySem.W.findIn K (.ref C) "__setattr__" = some (some (.builtin "object.__setattr__"))
  exC : PySem.W.subIn K (.ref C) (.type "BaseException") = some true
  tyC : PySem.W.typeIn K (.ref C) = some (.type "type")
  kC : PySem.W.keepIn K (.ref C) = true
def oexAB (K : PySem.W.Frag) (C : Addr) : Bool := PySem.W.excInitIn K C aeT "ArithmeticError.__new__" && (PySem.W.excOver K C aeT && (PySem.W.hasDictIn K C && (decide (PySem.W.findIn K (.ref C) "__setattr__" = some (some (.builtin "object.__setattr__"))) &&
  (decide (PySem.W.subIn K (.ref C) (.type "BaseException") = some true) && (decide (PySem.W.typeIn K (.ref C) = some (.type "type")) && PySem.W.keepIn K (.ref C))))))
theorem oexAB_ok {K : PySem.W.Frag} {C : Addr} (h : oexAB K C = true) : OexA K C := by
  obtain ⟨h1, h⟩ := Bool.and_eq_true_iff.mp h
  obtain ⟨h2, h⟩ := Bool.and_eq_true_iff.mp h
  obtain ⟨h3, h⟩ := Bool.and_eq_true_iff.mp h
  obtain ⟨h4, h⟩ := Bool.and_eq_true_iff.mp h
  obtain ⟨h5, h⟩ := Bool.and_eq_true_iff.mp h
  obtain ⟨h6, h7⟩ := Bool.and_eq_true_iff.mp h
  exact ⟨h1, h2, h3, of_decide_eq_true h4, of_decide_eq_true h5, of_decide_eq_true h6, h7⟩
section
variable {prog : Program} {w : World} {A : Around} {R : Result → Shared → Prop} {hp : Heap} {g : Array GenState} {d : Drawn} {t : Nat} {os : OsState}
open Builtin Builtin.ObjectAttr in
/-- self.name = v on an exception that has no dict yet -/
theorem exc_osaA {K : PySem.W.Frag} {name : Str} {tk : Tok} {v : Value} {x C : Addr} {fv : Array Value} (T : OexA K C)
    (X : K.In hp) (hx : hp.get? x = some { cls := .ref C, data := .fields fv }) (ha : PySem.W.findIn K (.ref C) name = some none)
    (hq : ∀ h' tk' dx, (∀ b o, b ≠ x → hp.get? b = some o → h'.get? b = some o) → hp.objs.size ≤ dx → dx ≠ x → h'.get? x = some { cls := .ref C, dict := some dx, data := .fields fv } →
      h'.Ns1 dx (fun y => if y = name then some v else none) → R (.ok (.ret .none)) ⟨h', g, d, tk', os⟩) :
    codeAny (model prog w) A (.call (.builtin "object.__setattr__") ⟨[.ref x, .str name tk, v], []⟩) R ⟨hp, g, d, t, os⟩ := by
  have I : PySem.W.InstAt hp x { cls := .ref C, data := .fields fv } C none := ⟨hx, rfl, rfl, trivial⟩
  have hxs : x ≠ hp.objs.size := Nat.ne_of_lt (Heap.lt_size hx)
  refine PySem.W.osa_openX (od := none) (r := none) F.store_ArithmeticError X I T.ov (by unfold PySem.W.takerIn; rw [ha] <;> rfl) fun b => ?_
  obtain ⟨cd, hcd, hh⟩ := PySem.W.any_some T.hd
  have hcls : PySem.W.Looks (model prog w) hp (classData C) cd := PySem.W.looks_clsIn X hcd
  show wpAny _ _ (storeInOwnDict (.ref x) (.ref C) (.str name tk) name v b) _ _ _
  obtain ⟨nm, bs, mro, ns, qn, hd, sn, sb, ab, col, del⟩ := cd
  dsimp only at hh
  subst hh
  unfold storeInOwnDict ownDictForStores
  repeat (first | with_reducible refine PySem.HandSPX.store_in_new ?_ ?_ | with_reducible refine wpAny_loadPart_at hx ?_ | with_reducible refine hcls.at ?_ | wp_step)
  · exact ⟨_, #[], _, (Heap.get?_update_ne _ _ _ _ hxs.symm).trans (Heap.get?_push_at rfl rfl), rfl, fun e he => absurd he (by simp), fun _ => rfl⟩
  · intro h' tk' hn' hs
    have hx₁ : (hp.push { cls := .type "dict", data := .dict #[] }).get? x = some { cls := .ref C, data := .fields fv } := Heap.get?_push_of_some _ hx
    refine hq h' tk' hp.objs.size (fun b o hb ho => ?_) (Nat.le_refl _) hxs.symm ?_ hn'
    · exact (hs.2 b (Nat.ne_of_lt (Heap.lt_size ho))).trans ((Heap.get?_update_ne _ _ _ _ hb).trans (Heap.get?_push_of_some _ ho))
    · exact (hs.2 x hxs).trans (Heap.get?_update_self _ hx₁ rfl)
end
section
variable {X : Cx} {pins : List (Addr × Obj)} {σ : St} {H : Hp} {s : Shared} {a C dx : Addr} {f : Str} {y : V} {u : Value} {Q : Unit → Shared → Prop} {E : Value → Shared → Prop} {A : Around}
/-- self.f = y, the only one -/
theorem ost_newA (T : OexA X.K C) (I : Inv X pins σ H s) (e : H a = some (exo a C none)) (hno : PySem.W.findIn X.K (.ref C) f = some none) (ry : RelV y u)
    (h : ∀ dx s', H dx = none → dx ≠ a → Inv X pins σ (upd (upd H dx (exd dx [(f, y)])) a (exo a C (some dx))) s' → Q () s') : wpAny (model X.prog X.w) A (setAttr (.ref a) f u) Q E s := by
  obtain ⟨t1, ho⟩ := exo_at I.hok e
  obtain ⟨hp, g, d, t, os⟩ := s
  refine PySem.W.set_plain I.kIn (ox := { cls := .ref C, dict := none, data := .fields #[.ref t1, .none, .none, .none, .bool false, .none] }) (od := none) ⟨ho, rfl, rfl, trivial⟩ T.sa ?_
  refine exc_osaA T I.kIn ho hno (fun h' tk' dx k dn dne hx hn => ?_)
  have hnd : H dx = none := I.hok.fresh dn
  have nd : ∀ {b : Addr} {o : Obj}, hp.get? b = some o → b ≠ dx := fun {b o} q => Nat.ne_of_lt (Nat.lt_of_lt_of_le (Heap.lt_size q) dn)
  have na : ∀ {b : Addr}, H b = none → b ≠ a := fun {b} n z => by
    rw [z, e] at n
    cases n
  have Un1 : Un X.fs [] H (upd (upd H dx (exd dx [(f, y)])) a (exo a C (some dx))) hp h' := {
    keep := fun b o q n _ _ => k b o (na n) q
    slot := fun b o q n _ _ => ⟨o.slots, k b o (na n) q⟩
    free := fun b o q n _ => by rw [upd_ne (na n), upd_ne (nd q)]; exact n
    there := fun b o q _ => by
      by_cases hb : b = a
      · exact ⟨_, by rw [hb]; exact hx⟩
      · exact ⟨o, k b o hb q⟩
    tups := fun b xs q => by rw [upd_ne (at_ne e q exo_tup), upd_ne (ne_of_none q hnd)]; exact q
    frzs := fun b o v q => by rw [upd_ne (at_ne e q exo_frz), upd_ne (ne_of_none q hnd)]; exact q
    tbls := fun b ps q => ⟨#[], by rw [upd_ne (at_ne e q exo_tbl), upd_ne (ne_of_none q hnd), q]; simp⟩ }
  refine h dx _ hnd dne (I.un (t' := tk') Un1 fun b o q => ?_)
  by_cases hb : b = a
  · subst hb
    rw [upd_same] at q
    cases q
    exact exo_ok hx
  · rw [upd_ne hb] at q
    by_cases hd : b = dx
    · subst hd
      rw [upd_same] at q
      cases q
      exact exd_ok hn (relO_put (fs := []) ry fun g => True.intro)
    · rw [upd_ne hd] at q
      exact (I.hok b o q).stay (fun c v hc z => k c v (by
          rcases hc with hc | hc
          · rw [hc]
            exact hb
          · exact at_ne e hc exo_own) z)
        (fun c hc => by rw [upd_ne (at_ne e hc exo_own), upd_ne (ne_of_none hc hnd)]; exact hc) (fun c xs hc => by rw [upd_ne (at_ne e hc exo_tup), upd_ne (ne_of_none hc hnd)]; exact hc)
/-- ArithmeticError.__init__(self, ..): nothing of it is told -/
theorem oinit_okA {us : List Value} {Q : Value → Shared → Prop} (T : OexA X.K C) (I : Inv X pins σ H s) (e : H a = some (exo a C none)) (hl : us.length ≤ sizeLine) (h : ∀ s', Inv X pins σ H s' → Q .none s') :
    wpAny (model X.prog X.w) A (call (.builtin "ArithmeticError.__init__") (.ref a :: us)) Q E s := by
  obtain ⟨nm, N, q, bs, bm, hdct, sn, sub, ab, col, dd, k0, k1, k2, k3, k5, hC, hbm⟩ := PySem.W.excInit_of I.kIn T.ini
  obtain ⟨t1, ho⟩ := exo_at I.hok e
  obtain ⟨hp, g, d, t, os⟩ := s
  refine wpAny_call (PySem.HandSPX.init_base F.excBase_ArithmeticError hbm hC ho hl fun h' t2 k hx => ?_)
  have J := I.write (t' := t) (x := a) (e := a) (o := exo a C none) (by rw [e]; exact True.intro) (.inl rfl) k ⟨_, hx⟩ (exo_ok hx)
  have eu : upd H a (exo a C none) = H := by
    funext b
    by_cases hb : b = a
    · rw [hb, upd_same, e]
    · rw [upd_ne hb]
  rw [eu] at J
  exact h _ J
end
/-! ### readings and rules -/
/-- what a class over ArithmeticError says when its __init__ is read -/
structure BaseA (K : PySem.W.Frag) (C : Addr) : Prop where
  kp : PySem.W.keepIn K (.ref C) = true
  sp : PySem.W.specialIn K (.ref C) "__getattribute__" = some (some (.builtin "type.__getattribute__"))
  rd : PySem.W.readsIn K C (.type "type") = true
  fi : PySem.W.findCls K (.ref C) (.type "type") "__init__" = some (.val (.builtin "ArithmeticError.__init__"))
def baseAB (K : PySem.W.Frag) (C : Addr) : Bool := PySem.W.keepIn K (.ref C) && (decide (PySem.W.specialIn K (.ref C) "__getattribute__" = some (some (.builtin "type.__getattribute__"))) && (PySem.W.readsIn K C (.type "type") &&
  (match PySem.W.findCls K (.ref C) (.type "type") "__init__" with
    | some (.val (.builtin n)) => n == "ArithmeticError.__init__"
    | _ => false)))
theorem baseAB_ok {K : PySem.W.Frag} {C : Addr} (h : baseAB K C = true) : BaseA K C := by
  obtain ⟨h1, h⟩ := Bool.and_eq_true_iff.mp h
  obtain ⟨h2, h⟩ := Bool.and_eq_true_iff.mp h
  obtain ⟨h3, h4⟩ := Bool.and_eq_true_iff.mp h
  refine ⟨h1, of_decide_eq_true h2, h3, ?_⟩
  split at h4
  · rename_i n e
    rw [e, beq_iff_eq.mp h4]
  · cases h4
/-- Base.__init__(self, ..) -/
def tCeI (K : PySem.W.Frag) (ta : TA) : TE := fun σ H Q => ta σ H fun vs H1 => ∃ (a C : Addr) (ws : List V), vs = .ref a :: ws ∧ ws.length ≤ 1000 ∧ OexA K C ∧ H1 a = some (exo a C none) ∧ Q .non H1
/-- self.f = e -/
def tOsA (K : PySem.W.Frag) (f : Str) (to te : TE) : TS := fun D σ H => te σ H fun y H1 => to σ H1 fun x H2 => ∃ a C : Addr, x = .ref a ∧ OexA K C ∧ PySem.W.findIn K (.ref C) f = some none ∧
  H2 a = some (exo a C none) ∧ ∀ dx, H2 dx = none → dx ≠ a → D.nx σ (upd (upd H2 dx (exd dx [(f, y)])) a (exo a C (some dx)))
/-- C(e, ..), C's own __init__ keeping sp -/
def tMkA (C : Addr) (sp : Sp) (ta : TA) : St → Hp → XK → Prop := fun σ H Q => ta σ H fun vs H1 => vs.length ≤ 1000 ∧ ∀ a, H1 a = none → sp (.ref a :: vs) (upd H1 a (exo a C none))
  (fun v H2 => v = .non ∧ ((H2 a = some (exo a C none) ∧ Q (.ref C) none (del H2 a)) ∨ ∃ (d : Addr) (fs : List (Str × V)), H2 a = some (exo a C (some d)) ∧ H2 d = some (exd d fs) ∧ H1 d = none ∧ Q (.ref C) (some d) (upd (del H2 a) d (.xd fs)))) (fun _ _ _ => False)
section
variable {X : Cx} {o e : Expr} {es : List Expr} {to te : TE} {ta : TA} {f : Str} {p p' p1 p2 pos : Pos}
theorem pe_ceinit {pl : Sem Bool} {x : Str} {B : Addr} (T0 : BaseA X.K B) (hg : Gl X x) (hm : X.mg x = some (.ref B)) (ha : PA X (e :: es) ta)
    (hc : eval (.Call (.Attribute (.Name x p1) "__init__" p2) (e :: es) [] pos) X.env = (do
      let ov ← eval (.Name x p1) X.env
      standAt p2.atName
      let (f, first) ← holding [ov] (getMethod ov "__init__" pl)
      callWith pos f first (backTo pos (starEach (e :: es) X.env)) (backToKw pos (keywordEach [] X.env))) := by rfl)
    (he : starEach (e :: es) X.env = (false, eval e X.env) :: starEach es X.env := by rfl) (hpl : (backTo pos (starEach es X.env)).any (·.1) = false := by rfl) (hdb : (x == ("__debug__" : Str)) = false := by decide) :
    PE X (.Call (.Attribute (.Name x p1) "__init__" p2) (e :: es) [] pos) (tCeI X.K ta) := by
  refine ⟨fun pins s σ H Q I h => ?_⟩
  refine PySem.W.methodCall_KW (ld_glob I hg hm ?_ hdb) hc
  refine PySem.W.method_cls I.kIn T0.sp ?_
  refine PySem.W.cls_value I.kIn T0.rd T0.fi (by decide +kernel) ?_
  show wpAny _ _ (callWith pos (Value.builtin "ArithmeticError.__init__") [] (backTo pos (starEach (e :: es) X.env)) []) _ _ _
  refine PyProof.Rows.callWith_method1 (thn (ha.run pos pins _ σ H _ (I.tok _) h) fun us s1 ⟨vs, H1, I1, r1, a, C, ws, ev, hl, T, ea, q⟩ => ?_) he hpl
  subst ev
  cases r1 with
  | @cons _ u0 _ ur ra rw' =>
    obtain rfl : u0 = Value.ref a := ra
    have hlen : ur.length ≤ sizeLine := by
      rw [← Paired.length rw', sizeLine_eq]
      omega
    exact oinit_okA T I1 ea hlen fun s' J => ⟨.non, H1, J, rfl, q⟩
theorem ps_osA (ho : PE X o to) (he : PE X e te) (hs : swapsWith e (some (.Attribute o f p')) pos.line X.env = pure false := by rfl) : PS X (.Assign [.Attribute o f p'] e pos) (tOsA X.K f to te) := by
  refine ⟨fun pins s σ H D I h => ?_⟩
  refine plainObj_wpAny_Assign_Attribute (thn (he.run pins s σ H _ I h) fun v s1 ⟨y, H1, I1, r1, q1⟩ => thn (ho.run pins s1 σ H1 _ I1 q1) fun u s2 ⟨x, H2, I2, r2, a, C, ex, T, hno, ea, q⟩ => ?_) hs
  subst ex
  obtain rfl : u = Value.ref a := r2
  exact ost_newA T I2 ea hno r1 fun dx s' n ne J => ⟨σ, _, J, q dx n ne⟩
/-- the end of C(): the exception, without a dict, is let go -/
theorem mk_endN {pins : List (Addr × Obj)} {σ : St} {H1 H2 : Hp} {Q : XK} {hp hp2 h2 : Heap} {g1 g2 : Array GenState} {d1 d2 : Drawn} {t1 t2 : Nat} {os1 os2 : OsState} {a C : Addr} (T : Raises X (.ref C)) (I1 : Inv X pins σ H1 ⟨hp, g1, d1, t1, os1⟩)
    (ha : hp.objs.size ≤ a) (k : ∀ b o, hp.get? b = some o → hp2.get? b = some o) (un : Un (frs X.stack) [] (upd H1 a (exo a C none)) H2 hp2 h2) (hok : HOk X.prog X.w H2 h2) (ho : os2 = os1) (hb : AllBare g2)
    (ea : H2 a = some (exo a C none)) (q : Q (.ref C) none (del H2 a)) : MkP X pins σ Q (.ref a) ⟨h2, g2, d2, t2, os2⟩ := by
  obtain ⟨t0, hoe⟩ := exo_at hok ea
  have hn : H1 a = none := I1.hok.fresh ha
  obtain ⟨G, g1', g2'⟩ := restrict h2 fun b => decide (b ≠ a)
  have gk : ∀ b, b ≠ a → G.get? b = h2.get? b := fun b hb => g1' b (decide_eq_true hb)
  have ge : G.get? a = none := g2' a (by simp)
  have nha : ∀ {b : Addr} {o : Obj}, hp.get? b = some o → b ≠ a := fun {b o} z => Nat.ne_of_lt (Nat.lt_of_lt_of_le (Heap.lt_size z) ha)
  have up : ∀ {b : Addr}, b ≠ a → H1 b = none → upd H1 a (exo a C none) b = none := fun {b} hb n => by rw [upd_ne hb]; exact n
  have U : Un (frs X.stack) [] H1 (del H2 a) hp G := {
    keep := fun b o z n hf hx => by
      rw [gk b (nha z)]
      exact un.keep b o (k b o z) (up (nha z) n) hf hx
    slot := fun b o z n hf hx => by
      rw [gk b (nha z)]
      exact un.slot b o (k b o z) (up (nha z) n) hf hx
    free := fun b o z n hx => by
      rw [del_ne (nha z)]
      exact un.free b o (k b o z) (up (nha z) n) hx
    there := fun b o z hx => by
      rw [gk b (nha z)]
      exact un.there b o (k b o z) hx
    tups := fun b xs z => by
      rw [del_ne (ne_of_none z hn)]
      exact un.tups b xs (by rw [upd_ne (ne_of_none z hn)]; exact z)
    frzs := fun b o v z => by
      rw [del_ne (ne_of_none z hn)]
      exact un.frzs b o v (by rw [upd_ne (ne_of_none z hn)]; exact z)
    tbls := fun b ps z => by
      rw [del_ne (ne_of_none z hn)]
      exact un.tbls b ps (by rw [upd_ne (ne_of_none z hn)]; exact z) }
  have hok3 : HOk X.prog X.w (del H2 a) G := fun b o z => by
    have hba : b ≠ a := fun e => by
      rw [e, del_same] at z
      cases z
    rw [del_ne hba] at z
    have noa : ∀ {c : Addr}, H2 c = some (.own b) → c ≠ a := fun {c} hc => at_ne ea hc exo_own
    exact (hok b o z).stay (fun c v hc y => by
        have hca : c ≠ a := by
          rcases hc with hc | hc
          · rw [hc]
            exact hba
          · exact noa hc
        rw [gk c hca]
        exact y)
      (fun c hc => by rw [del_ne (noa hc)]; exact hc) (fun c xs hc => by rw [del_ne (at_ne ea hc exo_tup)]; exact hc)
  have J : Inv X pins σ (del H2 a) ⟨G, g2, d2, t2, os2⟩ := I1.call' (ch := []) ho U hok3 hb (fun b z => absurd z (by simp))
  refine ⟨a, _, _, ⟨G, g2, d2, t2, os2⟩, _, .ref C, none, rfl, J, fun b o z => ?_, ge, hoe, ⟨rfl, rfl⟩, rfl, rfl, del_same, rfl, hb, T, q⟩
  by_cases hba : b = a
  · rw [hba, ge] at z
    cases z
  · exact (gk b hba).symm.trans z
theorem pmk_core {CX : CXT} {C fI : Addr} {k : Nat} {fd : FuncData} {ps : List Str} {sp : Sp} {pins : List (Addr × Obj)} {σ : St} {H1 : Hp} {Q : XK} {s1 : Shared} {vs : List V} {us : List Value} (T : OexA X.K C) (iC : PySem.W.findIn X.K (.ref C) "__init__" = some (some (.ref fI))) (tI : PySem.W.typeIn X.K (.ref fI) = some (.type "function"))
    (F1 : FnOk X.prog X.w X.K X.mg X.base CX k fI fd ps sp) (hr : Room (k + 1) X.A) (hb : Binds X.K fd ps []) (hx : Passes CX X (fun _ _ _ => False)) (I1 : Inv X pins σ H1 s1) (r1 : Vals vs us) (hz : vs.length ≤ 1000)
    (q1 : ∀ a, H1 a = none → sp (.ref a :: vs) (upd H1 a (exo a C none))
      (fun v H2 => v = .non ∧ ((H2 a = some (exo a C none) ∧ Q (.ref C) none (del H2 a)) ∨ ∃ (d : Addr) (fs : List (Str × V)), H2 a = some (exo a C (some d)) ∧ H2 d = some (exd d fs) ∧ H1 d = none ∧ Q (.ref C) (some d) (upd (del H2 a) d (.xd fs)))) (fun _ _ _ => False)) :
    wpAny (model X.prog X.w) X.A (call (.ref C) us) (MkP X pins σ Q) X.xe s1 := by
  obtain ⟨nm, N, q, bs, bm, hdct, sn, sub, ab, col, dd, k0, k1, k2, k3, k5, hC, hbm⟩ := PySem.W.excInit_of I1.kIn T.ini
  obtain ⟨hp, g, dr, tk, os⟩ := s1
  have hsz : hp.objs.size ≤ hp.objs.size + 1 := Nat.le_succ _
  have hn : H1 (hp.objs.size + 1) = none := I1.hok.fresh hsz
  have hq := q1 (hp.objs.size + 1) hn
  have kk : ∀ b o, hp.get? b = some o → ((hp.push (PySem.W.kdv_tup us)).push (PySem.HandSPX.excO C hp.objs.size)).get? b = some o := fun b o e => Heap.get?_push_of_some _ (Heap.get?_push_of_some _ e)
  have hget : ((hp.push (PySem.W.kdv_tup us)).push (PySem.HandSPX.excO C hp.objs.size)).get? (hp.objs.size + 1) = some (PySem.HandSPX.excO C hp.objs.size) := by heap_get
  have I2 : Inv X pins σ (upd H1 (hp.objs.size + 1) (exo (hp.objs.size + 1) C none)) ⟨(hp.push (PySem.W.kdv_tup us)).push (PySem.HandSPX.excO C hp.objs.size), g, dr, tk, os⟩ :=
    I1.laid (t' := tk) (a := hp.objs.size + 1) (o := exo (hp.objs.size + 1) C none) (h' := (hp.push (PySem.W.kdv_tup us)).push (PySem.HandSPX.excO C hp.objs.size)) kk hsz (exo_ok hget)
  have r2 : Vals (V.ref (hp.objs.size + 1) :: vs) (Value.ref (hp.objs.size + 1) :: us) := .cons rfl r1
  have r3 : Vals (V.ref (hp.objs.size + 1) :: vs) (Value.ref (hp.objs.size + 1) :: us ++ []) := by rw [List.append_nil]; exact r2
  have hl : (Value.ref (hp.objs.size + 1) :: us ++ []).length = ps.length := by
    have e := r3.length
    rw [F1.len _ _ _ _ hq] at e
    exact e.symm
  have hus : us.length ≤ sizeLine := by
    rw [← Paired.length r1, sizeLine_eq]
    omega
  refine wpAny_call (PySem.HandSPX.call_own F.excBase_ArithmeticError hbm hC (PySem.W.looks_findIn I1.kIn iC) (fun self => PySem.W.bind_fn I1.kIn self tI) hus
    (codeAny_mono (F1.run _ X.stack _ _ ⟨Value.ref (hp.objs.size + 1) :: us, []⟩ (Value.ref (hp.objs.size + 1) :: us ++ []) _ _ (fun _ _ _ => False) (hr.make C us []) (I2.env0.make C us []) (hb _ (Value.ref (hp.objs.size + 1) :: us) I2.kIn hl) r3 hq) fun r s' hq' => ?_))
  cases r with
  | error er => exact hx pins σ _ _ er s' I2 hq'
  | ok fl =>
    cases fl with
    | ret u =>
      obtain ⟨v, H2, os2, bare2, un2, hok2, rv, ev, hh⟩ := hq'
      subst ev
      obtain ⟨h2, g2, d2, t2, os'⟩ := s'
      rcases hh with ⟨ea, q2⟩ | ⟨d, fs, ea, ed, hd1, q2⟩
      · exact ⟨rv, mk_endN (raises_own T.exC T.tyC) I1 hsz kk un2 hok2 os2 bare2 ea q2⟩
      · exact ⟨rv, mk_end (raises_own T.exC T.tyC) I1 hsz kk un2 hok2 os2 bare2 ea ed hd1 q2⟩
    | next => exact False.elim hq'
    | brk => exact False.elim hq'
    | cont => exact False.elim hq'
/-- C(e, ..) -/
theorem pmk_oexA {CX : CXT} {x : Str} {C fI : Addr} {k : Nat} {fd : FuncData} {ps : List Str} {sp : Sp} (T : OexA X.K C) (iC : PySem.W.findIn X.K (.ref C) "__init__" = some (some (.ref fI))) (tI : PySem.W.typeIn X.K (.ref fI) = some (.type "function"))
    (F1 : FnOk X.prog X.w X.K X.mg X.base CX k fI fd ps sp) (hr : Room (k + 1) X.A) (hb : Binds X.K fd ps []) (hx : Passes CX X (fun _ _ _ => False)) (hg : Gl X x) (hm : X.mg x = some (.ref C)) (ha : PA X (e :: es) ta)
    (hdb : (x == ("__debug__" : Str)) = false := by decide) (he : starEach (e :: es) X.env = (false, eval e X.env) :: starEach es X.env := by rfl) (hpl : (backTo pos (starEach es X.env)).any (·.1) = false := by rfl) :
    PMk X (.Call (.Name x p) (e :: es) [] pos) (tMkA C sp ta) := by
  intro pins s σ H Q I h
  refine wpAny_Call_Name_kw (ld_glob I hg hm ?_ hdb)
  refine PySem.W.callWith_K (h₀ := X.base) I.ok.mod.kin T.kC (thn (ha.run pos pins s σ H _ I h) fun us s1 ⟨vs, H1, I1, r1, hz, q1⟩ => ⟨I1.kIn, ?_⟩) he hpl
  exact pmk_core T iC tI F1 hr hb hx I1 r1 hz q1
end
end L2
namespace L2
open PySem PySem.Spec PyProof.Rows
/-! ### several clauses, each with or without a name -/
/-- the ends of a suite whose name (slot i) is gone behind it -/
def endsGone (D : Ends) : Option Nat → Ends
  | none => D
  | some i => { nx := fun σ' H' => D.nx (σ'.set i none) H', rt := D.rt, bk := fun σ' H' => D.bk (σ'.set i none) H', ct := fun σ' H' => D.ct (σ'.set i none) H' }
def slotPut (σ : St) (a : Addr) : Option Nat → St
  | none => σ
  | some i => σ.set i (some (.ref a))
abbrev Cls1 : Type := Value × Option Nat × (Addr → Value → Option Addr → TS)
def wAny (K : PySem.W.Frag) (Wout : WX) (D : Ends) : List Cls1 → WX
  | [] => Wout
  | (c, i, ts) :: r => fun cls d σ H => ∃ b, PySem.W.exmOne K cls c = some b ∧ (b = true → ∀ a, H a = none → ts a cls d (endsGone D i) (slotPut σ a i) H) ∧ (b = false → wAny K Wout D r cls d σ H)
inductive HdsA (X : Cx) : List ExceptHandler → List Cls1 → Prop
  | nil : HdsA X [] []
  | plain {x : Str} {c : Value} {ts : Addr → Value → Option Addr → TS} {b₀ : Stmt} {suite : List Stmt} {np pos' : Pos} {hds : List ExceptHandler} {l : List Cls1} (hc : Names X x c)
      (hsu : ∀ (a : Addr) (oe : Obj) (cls : Value) (d : Option Addr) (pn : List (Addr × Obj)), Zc cls d oe → (∃ vs, oe.data = .fields vs) → PSs (X.suite a ((a, oe) :: pn)) (b₀ :: suite) (ts a cls d)) (r : HdsA X hds l) :
      HdsA X (.ExceptHandler (some (.Name x np)) none (b₀ :: suite) pos' :: hds) ((c, none, ts) :: l)
  | named {x n : Str} {c : Value} {i : Nat} {ts : Addr → Value → Option Addr → TS} {b₀ : Stmt} {suite : List Stmt} {np pos' : Pos} {hds : List ExceptHandler} {l : List Cls1} (hN : X.N.Nodup) (hi : X.N[i]? = some n) (hln : X.env.kindOf n = some .local) (hc : Names X x c)
      (hsu : ∀ (a : Addr) (oe : Obj) (cls : Value) (d : Option Addr) (pn : List (Addr × Obj)), Zc cls d oe → (∃ vs, oe.data = .fields vs) → PSs (X.suite a ((a, oe) :: pn)) (b₀ :: suite) (ts a cls d)) (r : HdsA X hds l) :
      HdsA X (.ExceptHandler (some (.Name x np)) (some n) (b₀ :: suite) pos' :: hds) ((c, some i, ts) :: l)
section
variable {X : Cx} {body : List Stmt} {h₀ : ExceptHandler} {hds : List ExceptHandler} {l : List Cls1} {pos : Pos} {tb : WX → TS} {Wout : WX}
theorem ps_try_any (hs : X.stack = X.env :: X.outer) (hf : X.env.frame = some X.env.locals) (tk : Takes X Wout)
    (hb : ∀ (W : WX) (pn : List (Addr × Obj)) (xe : Value → Shared → Prop), Takes (X.tr pn xe) W → PassesOwn (model X.prog X.w) X.A X.env xe → PSs (X.tr pn xe) body (tb W))
    (hh : HdsA X (h₀ :: hds) l) : PS X (.Try body (h₀ :: hds) [] [] pos) (fun D σ H => tb (wAny X.K Wout D l) D σ H) := by
  refine ⟨fun pins s σ H D I h => ?_⟩
  have ok := I.ok
  have hfr : X.A.frames = some (X.env :: X.outer) := by rw [ok.frames, hs]
  refine wpAny_Try_except ?_
  refine wpAny_mono ((hb (wAny X.K Wout D l) (X.pn ++ pins) (fun e s₁ => wpAny (model X.prog X.w) X.A (noteFrame e X.env) (fun _ s₂ => wpAny (model X.prog X.w) X.A (setFlight e none) (fun _ s₃ =>
    wpAny (model X.prog X.w) X.A (handleBy e X.env (h₀ :: hds)) (SP X pins D) X.xe s₃) X.xe s₂) X.xe s₁) (fun u s' xx => ?_) PassesOwn.looking).run [] s σ H D (I.toTry _) h) (fun f s1 hsp => ?_) (fun e s1 he => he)
  · -- the catch
    obtain ⟨a, B, sI, pins', σ', H', cls, d, rfl, J', nb, up, sky, na, os, ag, w⟩ := xx
    have J : Inv X pins σ' H' sI := J'.ofTry ok
    have sky' : Sky B (X.env :: X.outer) a (Zc cls d) X.env.locals s'.heap := by rw [← hs]; exact sky
    show wpAny (model X.prog X.w) X.A (noteFrame (.ref a) X.env) _ _ _
    refine Sky.land Zc.steady hfr hf sky' fun h3 fl3 up3 => ?_
    have J3 : Inv X pins σ' H' { s' with heap := h3 } := J.landed nb fl3.1 (up.trans up3) os ag
    obtain ⟨oe3, vs3, he3, hz3, hd3⟩ := fl3.there
    have notFr : ∀ {h : Heap} {o : Obj} {vs : Array Value}, h.FunFrames B (X.env :: X.outer) → h.get? a = some o → o.data = .fields vs → a ∉ frs (X.env :: X.outer) := fun {h o vs} ff e dd hm => by
      obtain ⟨_, o', e', hnf⟩ := ff.mem hm
      rw [e] at e'; cases e'
      exact hnf _ dd
    have nfr := notFr fl3.2.2.1 he3 hd3
    have nL : a ≠ X.env.locals := fun z => nfr (List.mem_filterMap.mpr ⟨X.env, List.mem_cons_self, by rw [hf, z]⟩)
    have nF : a ∉ X.fs := fun hm => by
      obtain ⟨e, he, q⟩ := List.mem_filterMap.mp hm
      exact nfr (List.mem_filterMap.mpr ⟨e, List.mem_cons_of_mem _ he, q⟩)
    have S3 := J3.suite he3 hd3 na nL nF
    have LT : PySem.W.Looks (model X.prog X.w) h3 (typeOf (.ref a)) cls := fun A Q E s k q => wpAny_typeOf_ref (k _ _ he3) (by rw [hz3.1]; exact q)
    have test : ∀ {x : Str} {c : Value} {np : Pos} {Q : Value → Shared → Prop} {E : Value → Shared → Prop}, Names X x c → Q c { s' with heap := h3 } → wpAny (model X.prog X.w) (X.A.mark (some (.ref a))) (eval (.Name x np) X.env) Q E { s' with heap := h3 } := fun {x c np Q E} hc q => by
      obtain ⟨hg, hdbg, hm | ⟨hm, hv, hnn⟩⟩ := hc
      · exact ld_glob (X := X.suite a ((a, oe3) :: (X.pn ++ pins))) S3 hg hm q hdbg
      · exact ld_blt (X := X.suite a ((a, oe3) :: (X.pn ++ pins))) S3 hg hm hv q hnn hdbg
    have go : ∀ {hds' : List ExceptHandler} {l' : List Cls1}, HdsA X hds' l' → wAny X.K Wout D l' cls d σ' H' →
        wpAny (model X.prog X.w) X.A (handleBy (.ref a) X.env hds') (SP X pins D) X.xe { s' with heap := h3 } := by
      intro hds' l' hk
      induction hk with
      | nil =>
        intro w
        refine wpAny_handleBy_nil ?_
        obtain ⟨k1, k2, k3, oe, vs, T, oT, ts', he, hz, hd, h1, hr⟩ := id fl3
        unfold PySem.passOn
        refine wpAny_bind (wpAny_field he hd h1 ?_)
        rw [if_neg (show ¬ ((Value.ref T == Value.none) = true) from by simp)]
        have fin : wpAny (model X.prog X.w) X.A (setFlight (.ref a) X.env.frame) (fun _ s4 => wpAny (model X.prog X.w) X.A (throw (.ref a) : Sem Flow) (SP X pins D) X.xe s4) X.xe { s' with heap := h3 } := by
          rw [hf]
          refine HandSPX.setFlight_upZ fl3 fun h4 hh4 up4 => wpAny_throw (tk _ _ ?_)
          exact ⟨a, B, sI, pins, σ', H', cls, d, rfl, J, nb, (up.trans up3).trans up4, .inr (.inr (by rw [hs]; exact hh4)), na, os, ag, w⟩
        first
          | exact wpAny_bind (wpAny_pure (wpAny_bind fin))
          | exact wpAny_bind fin
      | @plain x c ts b₀ suite np pos' hds2 l2 hc hsu r ih =>
        intro w
        obtain ⟨b, hb1, hyes, hno⟩ := w
        refine wpAny_handleBy_cons (codeAny_handlers_test ?_) (by intro q; cases q)
        refine test hc ((PySem.W.exm_one (M := model X.prog X.w) (J3.kIn) LT hb1).here ?_)
        cases b with
        | true =>
          refine codeAny_handlers_suite ?_
          refine HandSPX.lands_againZ fl3 fun h4 fl4 up4 => ?_
          have J4 : Inv X pins σ' H' { s' with heap := h4 } := J.landed nb fl4.1 ((up.trans up3).trans up4) os ag
          obtain ⟨oe4, vs4, he4, hz4, hd4⟩ := fl4.there
          have S4 := J4.suite he4 hd4 na nL nF
          refine wpAny_mono ((hsu a oe4 cls d (X.pn ++ pins) hz4 ⟨_, hd4⟩).run [] _ _ H' _ S4 (hyes rfl a na)) (fun f s6 hsp => ?_) (fun _ _ z => False.elim z)
          cases f with
          | next =>
            obtain ⟨σ6, H6, S6, q6⟩ := hsp
            exact ⟨_, _, S6.unsuite ok, q6⟩
          | brk =>
            obtain ⟨σ6, H6, S6, q6⟩ := hsp
            exact ⟨_, _, S6.unsuite ok, q6⟩
          | cont =>
            obtain ⟨σ6, H6, S6, q6⟩ := hsp
            exact ⟨_, _, S6.unsuite ok, q6⟩
          | ret u =>
            obtain ⟨v6, σ6, H6, S6, r6, q6⟩ := hsp
            exact ⟨_, _, _, S6.unsuite ok, r6, q6⟩
        | false =>
          show wpAny _ X.A (handleBy (.ref a) X.env hds2) _ _ _
          exact ih (hno rfl)
      | @named x n c i ts b₀ suite np pos' hds2 l2 hN hi hln hc hsu r ih =>
        intro w
        obtain ⟨b, hb1, hyes, hno⟩ := w
        refine wpAny_handleBy_cons (codeAny_handlers_test ?_) (by intro q; cases q)
        refine test hc ((PySem.W.exm_one (M := model X.prog X.w) (J3.kIn) LT hb1).here ?_)
        have hloc : Loc X.env.scope n := .inl hln
        cases b with
        | true =>
          refine codeAny_handlers_suite_as ?_
          refine HandSPX.lands_againZ fl3 fun h4 fl4 up4 => ?_
          have J4 : Inv X pins σ' H' { s' with heap := h4 } := J.landed nb fl4.1 ((up.trans up3).trans up4) os ag
          obtain ⟨oe4, vs4, he4, hz4, hd4⟩ := fl4.there
          have S4 := J4.suite he4 hd4 na nL nF
          refine store_ok (X := X.suite a ((a, oe4) :: (X.pn ++ pins))) (v := .ref a) S4 hN hi hloc rfl (fun s5 S5 => ?_) (.inr hln)
          refine wpAny_mono ((hsu a oe4 cls d (X.pn ++ pins) hz4 ⟨_, hd4⟩).run [] s5 _ H' _ S5 (hyes rfl a na)) (fun f s6 hsp => ?_) (fun _ _ z => False.elim z)
          have end_ : ∀ {σ6 : St} {H6 : Hp} {Q : Shared → Prop}, Inv (X.suite a ((a, oe4) :: (X.pn ++ pins))) [] σ6 H6 s6 → (∀ s7, Inv X pins (σ6.set i none) H6 s7 → Q s7) →
              wpAny (model X.prog X.w) X.A (do bindName X.env n .none; unbindBehindTheSuite X.env n pos') (fun _ s7 => Q s7) X.xe s6 := fun {σ6 H6 Q} S6 hq => gone_ok (S6.unsuite ok) hN hi hln hq
          cases f with
          | next =>
            obtain ⟨σ6, H6, S6, q6⟩ := hsp
            exact end_ S6 fun s7 J7 => ⟨_, _, J7, q6⟩
          | brk =>
            obtain ⟨σ6, H6, S6, q6⟩ := hsp
            exact end_ S6 fun s7 J7 => ⟨_, _, J7, q6⟩
          | cont =>
            obtain ⟨σ6, H6, S6, q6⟩ := hsp
            exact end_ S6 fun s7 J7 => ⟨_, _, J7, q6⟩
          | ret u =>
            obtain ⟨v6, σ6, H6, S6, r6, q6⟩ := hsp
            exact end_ S6 fun s7 J7 => ⟨_, _, _, J7, r6, q6⟩
        | false =>
          show wpAny _ X.A (handleBy (.ref a) X.env hds2) _ _ _
          exact ih (hno rfl)
    exact go hh w
  · cases f with
    | next =>
      obtain ⟨σ', H', J', q⟩ := hsp
      exact wpAny_execs_nil ⟨σ', H', J'.ofTry ok, q⟩
    | brk =>
      obtain ⟨σ', H', J', q⟩ := hsp
      exact ⟨σ', H', J'.ofTry ok, q⟩
    | cont =>
      obtain ⟨σ', H', J', q⟩ := hsp
      exact ⟨σ', H', J'.ofTry ok, q⟩
    | ret u =>
      obtain ⟨v, σ', H', J', r, q⟩ := hsp
      exact ⟨v, σ', H', J'.ofTry ok, r, q⟩
end
section
variable {X : Cx} {p pos : Pos}
/-- C() -/
theorem pmk_oexA0 {CX : CXT} {x : Str} {C fI : Addr} {k : Nat} {fd : FuncData} {ps : List Str} {sp : Sp} (T : OexA X.K C) (iC : PySem.W.findIn X.K (.ref C) "__init__" = some (some (.ref fI))) (tI : PySem.W.typeIn X.K (.ref fI) = some (.type "function"))
    (F1 : FnOk X.prog X.w X.K X.mg X.base CX k fI fd ps sp) (hr : Room (k + 1) X.A) (hb : Binds X.K fd ps []) (hx : Passes CX X (fun _ _ _ => False)) (hg : Gl X x) (hm : X.mg x = some (.ref C))
    (hdb : (x == ("__debug__" : Str)) = false := by decide) : PMk X (.Call (.Name x p) [] [] pos) (tMkA C sp tNil) := by
  intro pins s σ H Q I h
  obtain ⟨hz, q1⟩ := h
  refine wpAny_Call_Name_kw (ld_glob I hg hm ?_ hdb)
  exact PySem.W.callWith_K0 I.kIn T.kC (pmk_core (us := []) T iC tI F1 hr hb hx I .nil hz q1)
end
end L2
namespace L2
open PySem PySem.Spec PyProof.Rows
/-! ### isinstance of a caught error, told by the head -/
def excCB (K : PySem.W.Frag) (D : Addr) : Bool := decide (PySem.W.findIn K (.ref D) "__getattribute__" = some (some (.builtin "BaseException.__getattribute__"))) && (decide (PySem.W.findIn K (.ref D) "__getattr__" = some none) && (decide (PySem.W.subIn K (.ref D) (.type "BaseException") = some true) && (PySem.W.hasDictIn K D &&
  (decide (PySem.W.findIn K (.ref D) "__class__" = some (some (.builtin "object.__class__"))) && (decide (PySem.W.specialIn K (.builtin "object.__class__") "__get__" = some (some (.builtin "getset_descriptor.__get__"))) && (decide (PySem.W.takesIn K (.builtin "object.__class__") = some true) && decide (PySem.W.mroIn K D (.type "object") = some true)))))))
theorem excCB_ok {K : PySem.W.Frag} {D : Addr} (h : excCB K D = true) : ExcC K D := by
  obtain ⟨h1, h⟩ := Bool.and_eq_true_iff.mp h
  obtain ⟨h2, h⟩ := Bool.and_eq_true_iff.mp h
  obtain ⟨h3, h⟩ := Bool.and_eq_true_iff.mp h
  obtain ⟨h4, h⟩ := Bool.and_eq_true_iff.mp h
  obtain ⟨h5, h⟩ := Bool.and_eq_true_iff.mp h
  obtain ⟨h6, h⟩ := Bool.and_eq_true_iff.mp h
  obtain ⟨h7, h8⟩ := Bool.and_eq_true_iff.mp h
  exact ⟨of_decide_eq_true h1, of_decide_eq_true h2, of_decide_eq_true h3, h4, of_decide_eq_true h5, of_decide_eq_true h6, of_decide_eq_true h7, of_decide_eq_true h8⟩
def kitEB (K : PySem.W.Frag) (C D : Addr) (b : Bool) : Bool := decide (PySem.W.kitOne K (.ref C) (.ref D) = some b)
theorem kitEB_ok {K : PySem.W.Frag} {C D : Addr} {b : Bool} (h : kitEB K C D b = true) : PySem.W.kitOne K (.ref C) (.ref D) = some b := of_decide_eq_true h
end L2
/-! ### a Hook whose part of the heap has the interpreter's statics too -/
namespace NCHook
open PySem He
abbrev fr (g : Addr → Option Obj) (n : Nat) : PySem.W.Frag := frT g (asD g n ++ [cStatics])
section
variable {fa : List Fa} {fn : List DefD} {ts : List Tab} {tf : List Defn} {ex : PySem.W.Frag → Bool} {w : World} {h : Heap} {n : Nat}
def ob (n : Nat) (fa : List Fa) (fn : List DefD) (ts : List Tab) (tf : List Defn) (ex : PySem.W.Frag → Bool) (g : Addr → Option Obj) : AlX :=
  (obsT fa fn ts (fr g n), ex (fr g n) && tabsB g tf (fr g n))
theorem tab {K : PySem.W.Frag} (t : tabsB h.get? tf K = true) : ∀ p ∈ tf, PySem.W.codeHdIn K (cT K p).1 (cT K p).2 = true ∧ ∃ o, h.get? (cT K p).2 = some o ∧ emptyTab o = true := by
  intro p hp
  have b := Bool.and_eq_true_iff.mp (List.all_eq_true.mp t p hp)
  refine ⟨b.1, ?_⟩
  have b2 := b.2
  split at b2
  · exact ⟨_, by assumption, b2⟩
  · cases b2
theorem says (e : ob n fa fn ts tf ex h.get? = valX fn ts w) : SaysX fa fn ts tf ex w h (fr h.get? n) := by
  have c1 : (ob n fa fn ts tf ex h.get?).1 = (valX fn ts w).1 := by rw [e]
  have c2 : (ob n fa fn ts tf ex h.get?).2 = true := by rw [e] <;> rfl
  have c3 := Bool.and_eq_true_iff.mp (show (ex (fr h.get? n) && tabsB h.get? tf (fr h.get? n)) = true from c2)
  refine ⟨c1, c3.1, fun p hp => (tab c3.2 p hp).1, fun p hp => ?_, fun p hp => ?_⟩
  · obtain ⟨o, q, z⟩ := (tab c3.2 p hp).2
    exact frT_none q z
  · obtain ⟨o, q, z⟩ := (tab c3.2 p hp).2
    rw [q, emptyTab_eq z]
end
def hook (n : Nat) (fa : List Fa) (fn : List DefD) (ts : List Tab) (tf : List Defn) (ex : PySem.W.Frag → Bool) : PySem.W.Hook :=
  { α := AlX, obs := fun s => ob n fa fn ts tf ex s.heap.get?, val := fun w => valX fn ts w, says := fun w h => ∃ K : PySem.W.Frag, K.In h ∧ SaysX fa fn ts tf ex w h K,
    of := fun _ _ e => ⟨_, frT_in, says e⟩,
    keeps := fun _ _ _ y k => by
      obtain ⟨K, hK, c⟩ := y
      exact ⟨K, PySem.W.Frag.In.keeps hK k, c.t, c.more, c.hd, c.out, fun p hp => k _ _ (c.empty p hp)⟩ }
theorem ob_eq {n : Nat} {fa : List Fa} {fn : List DefD} {ts : List Tab} {tf : List Defn} {ex : PySem.W.Frag → Bool} {g : Addr → Option Obj} {s : Shared} (q : ∀ a, g a = s.heap.get? a) : ob n fa fn ts tf ex g = (hook n fa fn ts tf ex).obs s := by
  rw [show g = s.heap.get? from funext q] <;> rfl
end NCHook
namespace L2
open PySem PySem.Spec PyProof.Rows
/-! ### readings as rules -/
section
variable {σ : St} {H : Hp} {Q : VK} {D : Ends} {K : PySem.W.Frag}
theorem g_ceI {ta : TA} (h : ta σ H fun vs H1 => ∃ (a C : Addr) (ws : List V), vs = .ref a :: ws ∧ ws.length ≤ 1000 ∧ OexA K C ∧ H1 a = some (exo a C none) ∧ Q .non H1) : tCeI K ta σ H Q := h
theorem g_osA {f : Str} {to te : TE} (h : te σ H fun y H1 => to σ H1 fun x H2 => ∃ a C : Addr, x = .ref a ∧ OexA K C ∧ PySem.W.findIn K (.ref C) f = some none ∧
  H2 a = some (exo a C none) ∧ ∀ dx, H2 dx = none → dx ≠ a → D.nx σ (upd (upd H2 dx (exd dx [(f, y)])) a (exo a C (some dx)))) : tOsA K f to te D σ H := h
theorem g_mkA {C : Addr} {sp : Sp} {ta : TA} {Q : XK} (h : ta σ H fun vs H1 => vs.length ≤ 1000 ∧ ∀ a, H1 a = none → sp (.ref a :: vs) (upd H1 a (exo a C none))
  (fun v H2 => v = .non ∧ ((H2 a = some (exo a C none) ∧ Q (.ref C) none (del H2 a)) ∨ ∃ (d : Addr) (fs : List (Str × V)), H2 a = some (exo a C (some d)) ∧ H2 d = some (exd d fs) ∧ H1 d = none ∧ Q (.ref C) (some d) (upd (del H2 a) d (.xd fs)))) (fun _ _ _ => False)) : tMkA C sp ta σ H Q := h
end
/-- a def that makes lambdas: its code object is told -/
theorem FunD.okC {P : Program} {w : World} {K : PySem.W.Frag} {mg : Str → Option Value} {base : Heap} {x qual : Str} {params : Arguments} {body : List Stmt} {scope : Scope} {dvs : List V} {kws : List (Str × V)} {f : Addr} {fd : FuncData} {CX : CXT} {N ps : List Str} {k : Nat} {sp : Sp} {p : He.Defn}
    (F : FunD K x qual params body scope dvs kws f fd) (hf : f = He.fAd K p) (S : FnScope N ps scope) (len : ∀ vs H Q E, sp vs H Q E → vs.length = ps.length)
    (hbody : ∀ (A : Around) (outer : List Env) (s : Shared) (H : Hp) (vs : List V) (Q : VK) (E : XK), Room k (A.deeper (envOfC qual scope s.heap.objs.size f (.ref (He.codeOf K p)))) → sp vs H Q E →
      ∃ t, PSs (cxOf CX P w K mg base N qual scope f (.ref (He.codeOf K p)) A outer s H E) body t ∧ t { nx := fun _ H' => Q .non H', rt := Q } (start N vs) H) : FnOk P w K mg base CX (k + 1) f fd ps sp := by
  obtain ⟨oc, od, dV, kV, doc, pm, an, cdv, ct, osl, rfl, lk, hcd, _, _⟩ := F.ex
  obtain ⟨c, rfl⟩ := He.codeIn_ref hcd
  have e : He.codeOf K p = c := He.codeOf_eq (hf ▸ lk) rfl
  rw [e] at hbody
  exact fn_of lk hcd S len hbody
end L2
/-! NCLam: lambdas as values: made, kept in lists, called by defs that get them; with one default or none. -/
namespace NCLam
open PySem PySem.Spec PyProof.Rows L2 LamX
/-- the lambda's function; dV: its defaults -/
abbrev fnL (q : Str) (params : Arguments) (body : Expr) (scope : Scope) (cl : List (Str × Addr)) (dV pm : Value) (c' : Addr) (ctv : Value) : FuncData := { PySem.W.kla_fn "<lambda>" q params body scope cl pm (.ref c') ctv with defaults := dV }
abbrev objL (q : Str) (params : Arguments) (body : Expr) (scope : Scope) (cl : List (Str × Addr)) (dV pm : Value) (c' : Addr) (ctv : Value) : Obj := { cls := .type "function", data := .func (fnL q params body scope cl dV pm c' ctv) }
section
variable {M : Model} {A : Around} {E : Value → Shared → Prop} {s : Shared} {q : Str} {params : Arguments} {body : Expr} {scope : Scope} {env : Env} {c P : Addr} {ps : Array Value} {pos : Pos} {fl : Nat} {mg : Str → Option Value} {cl : List (Str × Addr)} {Q : Value → Shared → Prop} {dV : Value}
theorem tailN (hcl : closureFor scope env = pure cl) (g0 : env.globals = mainGlobals) (hg : s.heap.Ns mainGlobals mg) (hco : env.code = .ref c) (C : PySem.W.CodeHd s.heap c P) (hP : s.heap.get? P = some (PySem.W.tabObj ps)) (ht : TriplesOk ps.toList) (hn : codeAmong pos ps.toList = none) (gP : mainGlobals ≠ P) (hb : s.heap.BuiltinsAt mg P)
    (h : ∀ c' ctv h' tk, Heap.ExtBut P s.heap h' → s.heap.objs.size ≤ c' → c' < h'.objs.size → h'.CodeRec (.ref c') q → h'.get? P = some (PySem.W.tabObj (ps ++ #[rawInt pos.line, rawInt pos.col, .ref c'])) → Q (.ref h'.objs.size) { s with heap := h'.push (objL q params body scope cl dV ((mg "__name__").getD .none) c' ctv), toks := tk }) :
    wpAny M A (makeTail "<lambda>" q params (.expr body) scope env dV .none none pos fl) Q E s := by
  obtain ⟨bm, ob, b1, b2, _, b3, b4, b5, b6, b7⟩ := hb
  unfold makeTail; rw [hcl, g0]; refine wpAny_bind (wpAny_pure ?_)
  cases cl with
  | nil =>
    simp only [List.isEmpty_nil, if_true]; refine wpAny_bind (wpAny_pure (wpAny_bind (wpAny_functionCodeX hco (C.code hP ht) (C.tab hP) hn fun c' h' tk x1 x2 x3 _ x4 x5 _ => ?_)))
    have g1 := hg.extBut x1 gP
    refine wpAny_bind (wpAny_builtinsFor g1 b1 b2 (x1 _ _ b3 b4) b5 b6 b7 (wpAny_bind (wpAny_nsGet g1 (wpAny_bind (wpAny_pure (wpAny_newObj_type (h c' .none h' tk x1 x2 x3 x4 x5.2) (by size_fits)))))))
  | cons y r =>
    simp only [List.isEmpty_cons, Bool.false_eq_true, if_false]
    have up : ∀ (oT : Obj) b o, s.heap.get? b = some o → (s.heap.push oT).get? b = some o := fun oT b o e => Heap.get?_push_of_some _ e
    refine wpAny_bind (wpAny_newTextTuple (wpAny_bind (wpAny_functionCodeX hco ((C.keeps (up _)).code (up _ _ _ hP) ht) ((C.keeps (up _)).tab (up _ _ _ hP)) hn fun c' h' tk x1 x2 x3 _ x4 x5 _ => ?_)))
    have g1 := (hg.push _).extBut x1 gP
    have x1' : Heap.ExtBut P s.heap h' := fun b o z e => x1 b o z (up _ b o e)
    have x2' : s.heap.objs.size ≤ c' := Nat.le_trans (by rw [Heap.size_push]; omega) x2
    refine wpAny_bind (wpAny_builtinsFor g1 b1 b2 (x1' _ _ b3 b4) b5 b6 b7 (wpAny_bind (wpAny_nsGet g1 (wpAny_bind (wpAny_pure (wpAny_newObj_type (h c' _ h' tk x1' x2' x3 x4 x5.2) (by size_fits)))))))
theorem tailH {c' : Addr} (hcl : closureFor scope env = pure cl) (g0 : env.globals = mainGlobals) (hg : s.heap.Ns mainGlobals mg) (hco : env.code = .ref c) (C : PySem.W.CodeHd s.heap c P) (hP : s.heap.get? P = some (PySem.W.tabObj ps)) (ht : TriplesOk ps.toList) (hf : codeAmong pos ps.toList = some (.ref c')) (hb : s.heap.BuiltinsAt mg P)
    (h : ∀ (ctv : Value) (h' : Heap) (tk : Tok), (∀ b o, s.heap.get? b = some o → h'.get? b = some o) → s.heap.objs.size ≤ h'.objs.size → Q (.ref h'.objs.size) { s with heap := h'.push (objL q params body scope cl dV ((mg "__name__").getD .none) c' ctv), toks := tk }) :
    wpAny M A (makeTail "<lambda>" q params (.expr body) scope env dV .none none pos fl) Q E s := by
  obtain ⟨bm, ob, b1, b2, _, b3, b4, b5, b6, b7⟩ := hb
  unfold makeTail; rw [hcl, g0]; refine wpAny_bind (wpAny_pure ?_)
  cases cl with
  | nil =>
    simp only [List.isEmpty_nil, if_true]
    exact wpAny_bind (wpAny_pure (wpAny_bind (wpAny_functionCode_hit hco (C.code hP ht) hf (wpAny_bind (wpAny_builtinsFor hg b1 b2 b4 b5 b6 b7 (wpAny_bind (wpAny_nsGet hg (wpAny_bind (wpAny_pure (wpAny_newObj_type (h .none s.heap s.toks (fun _ _ e => e) (Nat.le_refl _)) (by size_fits)))))))))))
  | cons y r =>
    simp only [List.isEmpty_cons, Bool.false_eq_true, if_false]
    have up : ∀ (oT : Obj) b o, s.heap.get? b = some o → (s.heap.push oT).get? b = some o := fun oT b o e => Heap.get?_push_of_some _ e
    have sz : ∀ oT : Obj, s.heap.objs.size ≤ (s.heap.push oT).objs.size := fun oT => by rw [Heap.size_push]; omega
    exact wpAny_bind (wpAny_newTextTuple (wpAny_bind (wpAny_functionCode_hit hco ((C.keeps (up _)).code (up _ _ _ hP) ht) hf (wpAny_bind (wpAny_builtinsFor (hg.push _) b1 b2 (up _ _ _ b4) b5 b6 b7 (wpAny_bind (wpAny_nsGet (hg.push _) (wpAny_bind (wpAny_pure (wpAny_newObj_type (h _ _ s.toks (up _) (sz _)) (by size_fits)))))))))))
end
/-- the lambda at f -/
def LamO (f : Addr) (q : Str) (params : Arguments) (body : Expr) (scope : Scope) (cl : List (Str × Addr)) (dV : Value) (c' : Addr) : HO := .ext fun h => ∃ pm ctv, h.get? f = some (objL q params body scope cl dV pm c' ctv)
theorem lamO_tbl {f : Addr} {q : Str} {params : Arguments} {body : Expr} {scope : Scope} {cl : List (Str × Addr)} {dV : Value} {c' : Addr} (ps : Array Value) : LamO f q params body scope cl dV c' ≠ .tbl ps := fun z => by
  unfold LamO at z
  cases z
theorem tabs_new {T : List (Addr × Str)} {H : Hp} {P c' : Addr} {q : Str} {ps : Array Value} {pos : Pos} (hT : Tabs T H) (hP : H P = some (.tbl ps)) (ht : TriplesOk ps.toList) (ha : ∀ (p' : Pos) (cv : Value), codeAmong p' ps.toList = some cv → ∃ c, cv = .ref c ∧ H c = some (CodeO c q)) (hu : ∀ p ∈ T, p.1 = P → p.2 = q) (nC : H c' = none)
    (e : ExtN H (upd (upd H P (.tbl (ps ++ #[rawInt pos.line, rawInt pos.col, .ref c']))) c' (CodeO c' q))) : Tabs T (upd (upd H P (.tbl (ps ++ #[rawInt pos.line, rawInt pos.col, .ref c']))) c' (CodeO c' q)) := fun p hp => by
  have eL : (ps ++ #[rawInt pos.line, rawInt pos.col, .ref c']).toList = ps.toList ++ [rawInt pos.line, rawInt pos.col, .ref c'] := by simp
  by_cases hb : p.1 = P
  · rw [hu p hp hb, hb]
    refine ⟨_, (upd_ne (ne_of_none hP nC)).trans upd_same, by rw [eL]; exact TriplesOk_snoc _ _ _ _ ht, fun p' cv hcv => ?_⟩
    rw [eL] at hcv
    rcases among_app _ ht hcv with z | z
    · obtain ⟨c0, e1, e2⟩ := ha p' cv z
      exact ⟨c0, e1, e _ _ e2 codeO_ne⟩
    · exact ⟨c', z, upd_same⟩
  · obtain ⟨qs, a1, a2, a3⟩ := hT p hp
    refine ⟨qs, ?_, a2, fun p' cv hcv => ?_⟩
    · rw [upd_ne (ne_of_none a1 nC), upd_ne hb]; exact a1
    · obtain ⟨c0, e1, e2⟩ := a3 p' cv hcv
      exact ⟨c0, e1, e _ _ e2 codeO_ne⟩
section
variable {X : Cx} {pins : List (Addr × Obj)} {σ : L2.St} {H : Hp} {s : Shared}
/-- the lambda is made, its defaults being there -/
theorem lam_makeV {T : List (Addr × Str)} {c P : Addr} {params : Arguments} {body : Expr} {scope : Scope} {pos : Pos} {dV : Value} {E : Value → Shared → Prop} {Q : Value → Shared → Prop} (I : Inv X pins σ H s) (TB : TabB X.base X.mg c P) (hco : X.env.code = .ref c)
    (hm : (P, X.env.qual ++ "<lambda>") ∈ T) (hu : ∀ p ∈ T, p.1 = P → p.2 = X.env.qual ++ "<lambda>") (hT : Tabs T H) (hf : ∀ y ∈ scope.names, y.2 = .free → ∃ c, X.env.cells.lookup y.1 = some c)
    (h : ∀ (f c' : Addr) (H1 : Hp) (s' : Shared), Inv X pins σ H1 s' → ExtN H H1 → Tabs T H1 → H f = none → H1 f = some (LamO f (X.env.qual ++ "<lambda>") params body scope (cloFrom X.env.cells scope.names []) dV c') → H1 c' = some (CodeO c' (X.env.qual ++ "<lambda>")) → Q (.ref f) s') :
    wpAny (model X.prog X.w) X.A (makeTail "<lambda>" (X.env.qual ++ "<lambda>") params (.expr body) scope X.env dV .none none pos pos.line) Q E s := by
  obtain ⟨ps, hP, ht, ha⟩ := hT _ hm
  have bP : s.heap.BuiltinsAt X.mg P := TB.bm.keeps I.bk
  have hP' : s.heap.get? P = some { cls := .none, data := .fields ps } := I.hok P _ hP
  cases hc : codeAmong pos ps.toList with
  | none =>
    refine tailN (closure_ok hf) I.ok.glob (I.mod.glob.keeps I.bk) hco (TB.code.keeps I.bk) hP' ht hc TB.gP bP fun c' ctv h' tk x1 x2 x3 x4 x5 => ?_
    obtain ⟨c2, oc, vs, t, e2, y1, y2, y3⟩ := x4
    cases e2
    have nC : H c' = none := I.hok.fresh x2
    have sz : s.heap.objs.size ≤ h'.objs.size := Nat.le_trans x2 (Nat.le_of_lt x3)
    have I1 := inv_table (t' := tk) (more := #[rawInt pos.line, rawInt pos.col, .ref c']) (h' := h') I hP x1 x5 x2 ⟨oc, vs, t, y1, y2, y3⟩
    have hE : ExtN H (upd (upd H P (.tbl (ps ++ #[rawInt pos.line, rawInt pos.col, .ref c']))) c' (CodeO c' (X.env.qual ++ "<lambda>"))) := fun b o e n => by
      rw [upd_ne (ne_of_none e nC), upd_ne (fun z => n ps (Option.some.inj (e.symm.trans (by rw [z]; exact hP))))]
      exact e
    have tN := tabs_new (pos := pos) hT hP ht ha hu nC hE
    have I2 := I1.laid (a := h'.objs.size) (o := LamO h'.objs.size (X.env.qual ++ "<lambda>") params body scope (cloFrom X.env.cells scope.names []) dV c') (t' := tk) (h' := h'.push (objL (X.env.qual ++ "<lambda>") params body scope (cloFrom X.env.cells scope.names []) dV ((X.mg "__name__").getD .none) c' ctv))
      (fun b u e => Heap.get?_push_of_some _ e) (Nat.le_refl _) ⟨⟨_, _, Heap.get?_push_size _ rfl⟩, ⟨_, Heap.get?_push_size _ rfl⟩, fun h1 h2 ⟨pm, ct, z⟩ st => ⟨pm, ct, st _ z⟩⟩
    have nF := I1.hok.fresh (a := h'.objs.size) (Nat.le_refl _)
    have same := same_new (o := LamO h'.objs.size (X.env.qual ++ "<lambda>") params body scope (cloFrom X.env.cells scope.names []) dV c') nF
    exact h h'.objs.size c' _ _ I2 (hE.trans (.of same)) (tN.ext same) (I.hok.fresh sz) upd_same (same _ _ upd_same)
  | some cv =>
    obtain ⟨c', rfl, hco'⟩ := ha pos cv hc
    refine tailH (closure_ok hf) I.ok.glob (I.mod.glob.keeps I.bk) hco (TB.code.keeps I.bk) hP' ht hc bP fun ctv h' tk x1 x2 => ?_
    have I2 := I.laid (a := h'.objs.size) (o := LamO h'.objs.size (X.env.qual ++ "<lambda>") params body scope (cloFrom X.env.cells scope.names []) dV c') (t' := tk) (h' := h'.push (objL (X.env.qual ++ "<lambda>") params body scope (cloFrom X.env.cells scope.names []) dV ((X.mg "__name__").getD .none) c' ctv))
      (fun b u e => Heap.get?_push_of_some _ (x1 b u e)) x2 ⟨⟨_, _, Heap.get?_push_size _ rfl⟩, ⟨_, Heap.get?_push_size _ rfl⟩, fun h1 h2 ⟨pm, ct, z⟩ st => ⟨pm, ct, st _ z⟩⟩
    have nF := I.hok.fresh x2
    have same := same_new (o := LamO h'.objs.size (X.env.qual ++ "<lambda>") params body scope (cloFrom X.env.cells scope.names []) dV c') nF
    exact h h'.objs.size c' _ _ I2 (.of same) (hT.ext same) nF upd_same (same _ _ hco')
end
/-! ### the values -/
/-- f is the lambda of the maker X, made there -/
def IsLam (X : Cx) (params : Arguments) (body : Expr) (scope : Scope) (dvs : List V) (H : Hp) (f : Addr) : Prop := ∃ (c' : Addr) (dV : Value), H f = some (LamO f (X.env.qual ++ "<lambda>") params body scope (cloFrom X.env.cells scope.names []) dV c') ∧
  H c' = some (CodeO c' (X.env.qual ++ "<lambda>")) ∧ ((dvs = [] ∧ dV = .none) ∨ ∃ T, dvs ≠ [] ∧ dV = .ref T ∧ H T = some (.tup dvs))
theorem IsLam.ext {X : Cx} {params : Arguments} {body : Expr} {scope : Scope} {dvs : List V} {H H' : Hp} {f : Addr} (h : IsLam X params body scope dvs H f) (e : ExtN H H') : IsLam X params body scope dvs H' f := by
  obtain ⟨c', dV, h1, h2, h3⟩ := h
  refine ⟨c', dV, e _ _ h1 lamO_tbl, e _ _ h2 codeO_ne, ?_⟩
  rcases h3 with z | ⟨T, z0, z1, z2⟩
  · exact .inl z
  · exact .inr ⟨T, z0, z1, e _ _ z2 (fun _ z => by cases z)⟩
def tLamV (T : List (Addr × Str)) (X : Cx) (params : Arguments) (body : Expr) (scope : Scope) (dvs : List V) : TE := fun _ H Q => Tabs T H ∧ ∀ f H1, ExtN H H1 → Tabs T H1 → H f = none → IsLam X params body scope dvs H1 f → Q (.ref f) H1
/-- the lambda's names: no parameter in N, captured ones, globals -/
structure LamN (N : List Str) (sc scope : Scope) : Prop where
  kind : scope.kind = .function
  co : scope.isCoroutine = false
  gen : scope.isGenerator = false
  own : ∀ y ∈ scope.names, (y.2 = .local → y.1 ∉ N) ∧ y.2 ≠ .cell
  free : ∀ y ∈ scope.names, y.2 = .free → sc.names.lookup y.1 = some .cell ∨ sc.names.lookup y.1 = some .free
def lamNB (N : List Str) (sc scope : Scope) : Bool :=
  decide (scope.kind = .function) && !scope.isCoroutine && !scope.isGenerator && scope.names.all fun y => (!decide (y.2 = .local) || decide (y.1 ∉ N)) && !decide (y.2 = .cell) && (!decide (y.2 = .free) || decide (sc.names.lookup y.1 = some .cell) || decide (sc.names.lookup y.1 = some .free))
theorem lamN_by {N : List Str} {sc scope : Scope} (h : lamNB N sc scope = true) : LamN N sc scope := by
  unfold lamNB at h
  simp only [Bool.and_eq_true, Bool.or_eq_true, Bool.not_eq_true', decide_eq_true_eq, decide_eq_false_iff_not, List.all_eq_true] at h
  obtain ⟨⟨⟨h1, h2⟩, h3⟩, h4⟩ := h
  refine ⟨h1, h2, h3, fun y hy => ⟨fun e => (h4 y hy).1.1.resolve_left (fun z => z e), (h4 y hy).1.2⟩, fun y hy e => ?_⟩
  rcases (h4 y hy).2 with (z | z) | z
  · exact absurd e z
  · exact .inl z
  · exact .inr z
theorem LamN.has {X : Cx} {N : List Str} {scope : Scope} (L : LamN N X.env.scope scope) (ok : X.Ok) : ∀ y ∈ scope.names, y.2 = .free → ∃ c, X.env.cells.lookup y.1 = some c := fun y hy e => (L.free y hy e).elim (fun k => ok.has _ (.inl k)) fun k => ok.has _ (.inr k)
section
variable {X : Cx} {params : Arguments} {body : Expr} {scope : Scope} {pos : Pos} {T : List (Addr × Str)} {c P : Addr}
/-- lambda: body -/
theorem pe_lamV (TB : TabB X.base X.mg c P) (hco : X.env.code = .ref c) (hm : (P, X.env.qual ++ "<lambda>") ∈ T) (hu : ∀ p ∈ T, p.1 = P → p.2 = X.env.qual ++ "<lambda>") (L : LamN X.N X.env.scope scope) (hdef : defaultsOf params X.env = ([], [])) : PE X (.Lambda params body scope pos) (tLamV T X params body scope []) := by
  refine ⟨fun pins s σ H Q I h => PySem.W.kla_eval hdef ?_⟩
  rw [makeFunction_eq]
  simp only [List.zip_nil_right, List.filterMap_nil, List.isEmpty_nil, if_true, pure_bind]
  exact lam_makeV I TB hco hm hu h.1 (L.has I.ok) fun f c' H1 s' I1 e t n h1 h2 => ⟨.ref f, H1, I1, rfl, h.2 f H1 e t n ⟨c', .none, h1, h2, .inl ⟨rfl, rfl⟩⟩⟩
/-- lambda x=i: body -/
theorem pe_lamVD {i : Int} {j : Nat} {dp : Pos} (TB : TabB X.base X.mg c P) (hco : X.env.code = .ref c) (hm : (P, X.env.qual ++ "<lambda>") ∈ T) (hu : ∀ p ∈ T, p.1 = P → p.2 = X.env.qual ++ "<lambda>") (L : LamN X.N X.env.scope scope) (hdef : defaultsOf params X.env = ([eval (.Constant (.int i) j dp) X.env], [])) : PE X (.Lambda params body scope pos) (tLamV T X params body scope [.int i]) := by
  refine ⟨fun pins s σ H Q I h => ?_⟩
  show wpAny _ _ (do
    let (d, kd) := defaultsOf params X.env
    let dv ← evalAll d
    let kdv ← holding dv (evalAllOpt kd)
    makeFunction "<lambda>" (X.env.qual ++ "<lambda>") params (.expr body) scope X.env dv kdv [] pos pos.line) _ _ _
  rw [hdef]
  show wpAny _ _ (evalAll [eval (.Constant (.int i) j dp) X.env] >>= fun dv => holding dv (evalAllOpt []) >>= fun kdv => makeFunction "<lambda>" (X.env.qual ++ "<lambda>") params (.expr body) scope X.env dv kdv [] pos pos.line) _ _ _
  refine wpAny_bind ?_
  show wpAny _ _ (eval (.Constant (.int i) j dp) X.env >>= fun v => holding [v] (evalAll []) >>= fun r => pure (v :: r)) _ _ _
  refine wpAny_bind (wpAny_Constant_int (wpAny_bind (wpAny_holding (wpAny_pure (wpAny_pure ?_)))))
  refine wpAny_bind (wpAny_holding (wpAny_pure ?_))
  rw [makeFunction_eq]
  simp only [List.zip_nil_right, List.filterMap_nil, List.isEmpty_nil, List.isEmpty_cons, Bool.false_eq_true, if_false, if_true, pure_bind]
  refine wpAny_bind (wpAny_newTextTuple ?_)
  have n0 := I.hok.fresh (a := s.heap.objs.size) (Nat.le_refl _)
  have e0 := same_new (o := .tup [.int i]) n0
  have I1 := (I.tok (s.toks + 1)).laid (a := s.heap.objs.size) (o := .tup [.int i]) (t' := s.toks + 1) (h' := s.heap.push { cls := .type "tuple", data := .seq [Value.int i s.toks].toArray }) (fun b u e => Heap.get?_push_of_some _ e) (Nat.le_refl _)
    ⟨len_le (n := 1) (by decide), [Value.int i s.toks], .cons ⟨_, rfl⟩ .nil, _, Heap.get?_push_size _ rfl, rfl, _, rfl⟩
  refine lam_makeV I1 TB hco hm hu (h.1.ext e0) (L.has I.ok) fun f c' H1 s' I2 e t n h1 h2 => ⟨.ref f, H1, I2, rfl, h.2 f H1 ((ExtN.of e0).trans e) t ?_ ⟨c', _, h1, h2, .inr ⟨_, (fun z => by cases z), rfl, e _ _ upd_same (fun _ z => by cases z)⟩⟩⟩
  by_cases hf : f = s.heap.objs.size
  · rw [hf]
    exact n0
  · rw [upd_ne hf] at n
    exact n
end
/-! ### the maker's state as a base -/
def baseAt (X : Cx) (H : Hp) (s : Shared) : Heap := PySem.W.hideAll (hidT s.heap H) (frs X.stack)
/-- calling what stands at f -/
def Acts (P : Program) (w : World) (K : PySem.W.Frag) (mg : Str → Option Value) (base : Heap) (k : Nat) (f : Addr) (t : XK → Hp → VK → Prop) : Prop :=
  ∀ (A : Around) (outer : List Env) (s : Shared) (H : Hp) (Q : VK) (E : XK), Room k A → Env0 P w K mg base A outer s H → t E H Q → PySem.W.FnAt f s.heap ∧ codeAny (model P w) A (.call (.ref f) ⟨[], []⟩) (CR (L2.CX P w) outer P w H s Q E) s
section
variable {X : Cx} {pins : List (Addr × Obj)} {σ : L2.St} {H : Hp} {s : Shared}
theorem baseAt_get {b : Addr} {o : Obj} (e : s.heap.get? b = some o) (n : H b = none) (hb : b ∉ frs X.stack) : (baseAt X H s).get? b = some o := PySem.W.hideAll_get _ (hidT_get e n) hb
theorem of_baseAt {b : Addr} {o : Obj} (e : (baseAt X H s).get? b = some o) : s.heap.get? b = some o ∧ H b = none ∧ b ∉ frs X.stack := by
  obtain ⟨h1, h2⟩ := of_hidT (PySem.W.of_hideAll _ e)
  refine ⟨h1, h2, fun z => ?_⟩
  have q := PySem.W.hideAll_none (h := hidT s.heap H) _ z
  unfold baseAt at e
  rw [q] at e
  cases e
theorem baseAt_sub (I : Inv X pins σ H s) {b : Addr} {o : Obj} (e : X.base.get? b = some o) : (baseAt X H s).get? b = some o := by
  obtain ⟨h1, h2⟩ := I.bs b o e
  refine baseAt_get h1 h2 fun z => ?_
  have q := (I.stack.mem z).1
  rw [q] at e
  cases e
theorem env0_at (I : Inv X pins σ H s) : Env0 X.prog X.w X.K X.mg (baseAt X H s) X.A X.stack s H := by
  have e0 := I.env0
  have sub : ∀ b o, X.base.get? b = some o → (baseAt X H s).get? b = some o := fun b o e => baseAt_sub I e
  obtain ⟨mb, m1, m2⟩ := e0.mod.blt
  refine ⟨e0.frames, ⟨e0.mod.kin.keeps sub, e0.mod.glob.keeps sub, ⟨mb, m1.keeps sub, m2⟩, e0.mod.nolimit.keeps sub⟩, fun b o e => ⟨(of_baseAt e).1, (of_baseAt e).2.1⟩, ?_, ?_, e0.frf, e0.hok, e0.bare⟩
  · unfold baseAt
    rw [PySem.W.hideAll_size, hidT_size]
    exact Nat.le_refl _
  · have go : ∀ l : List Env, (∀ b ∈ frs l, b ∈ frs X.stack) → s.heap.FunFrames X.base l → s.heap.FunFrames (baseAt X H s) l := by
      intro l
      induction l with
      | nil => exact fun _ _ => True.intro
      | cons v r ih =>
        rintro hs ⟨h1, ⟨L, o, h2, h3, h4, h5⟩, h6⟩
        have hL : L ∈ frs (v :: r) := List.mem_filterMap.mpr ⟨v, List.mem_cons_self, h2⟩
        refine ⟨h1, ⟨L, o, h2, ?_, h4, h5⟩, ih (fun b hb => hs b ?_) h6⟩
        · exact PySem.W.hideAll_none _ (hs L hL)
        · obtain ⟨v', hv, e⟩ := List.mem_filterMap.mp hb
          exact List.mem_filterMap.mpr ⟨v', List.mem_cons_of_mem _ hv, e⟩
    exact go X.stack (fun _ h => h) e0.funs
theorem cell_nofr (I : Inv X pins σ H s) (hfn : ∀ x, X.fn x = true) {x : Str} {c : Addr} (e : X.env.cells.lookup x = some c) : c ∉ frs X.stack := fun z => by
  rcases List.mem_cons.mp (I.stkSub _ z) with q | q
  · exact I.cne x c e q
  · obtain ⟨_, o, ho, _⟩ := I.ok.funs.mem q
    exact absurd (I.ok.cab x c (hfn x) e) (Nat.not_le.mpr (Heap.lt_size ho))
end
/-- the lambda's body, entered at s over the base B -/
def lamCx (X : Cx) (B : Heap) (A : Around) (outer : List Env) (s : Shared) (H : Hp) (E : XK) (scope : Scope) (f c' : Addr) : Cx := { LamX.lamCx X A outer s H E scope f c' with base := B }
section
variable {X : Cx} {pins : List (Addr × Obj)} {σ : L2.St} {H HZ : Hp} {s s1 : Shared}
theorem lam_start {A : Around} {outer : List Env} {E : XK} {scope : Scope} {f c' : Addr} {h₁ : Heap} {tk : Nat} {m0 : Str → Option Value} (I : Inv X pins σ H s) (hfn : ∀ x, X.fn x = true) (L : LamN X.N X.env.scope scope) (e0 : Env0 X.prog X.w X.K X.mg (baseAt X H s) A outer s1 HZ) (hd : A.handled = none)
    (hns : h₁.Ns s1.heap.objs.size m0) (kp : ∀ b o, s1.heap.get? b = some o → h₁.get? b = some o) : Inv (lamCx X (baseAt X H s) A outer s1 HZ E scope f c') [] σ HZ { s1 with heap := h₁, toks := tk } := by
  have hfree := L.has I.ok
  have cm : ∀ {y c}, (cloFrom X.env.cells scope.names []).lookup y = some c → X.env.cells.lookup y = some c := fun {y c} e => by
    rcases cloFrom_mem (PySem.mem_of_lookup e) with z | ⟨h1, h2⟩
    · cases z
    · obtain ⟨c1, hc⟩ := hfree _ h1 rfl
      have hc : X.env.cells.lookup y = some c1 := hc
      rw [show c = c1 from by rw [h2, hc] <;> rfl]
      exact hc
  have look : ∀ {y}, scope.names.lookup y = some .free → ∃ c, (cloFrom X.env.cells scope.names []).lookup y = some c := fun {y} hl => mem_lookup (cloFrom_has (cells := X.env.cells) (acc := []) (show (y, NameKind.free) ∈ scope.names from PySem.mem_of_lookup hl))
  have cellK : ∀ {y : Str} {c : Addr} {v : Option Value}, X.env.cells.lookup y = some c → s.heap.IsCell c v → h₁.IsCell c v ∧ HZ c = none := fun {y c v} e ⟨o, ho, hdt⟩ => by
    obtain ⟨q1, q2⟩ := e0.bs c o (baseAt_get ho (I.freeC y c e) (cell_nofr I hfn e))
    exact ⟨⟨o, kp _ _ q1, hdt⟩, q2⟩
  have noA : ∀ b : Addr, b ∉ (lamCx X (baseAt X H s) A outer s1 HZ E scope f c').ex := fun b z => absurd (show b ∈ ([] : List Addr) from z) (by simp)
  refine ⟨⟨e0.mod, L.kind, rfl, rfl, Nat.le_refl _, fun y z c e1 e2 => I.ok.inj y z c (cm e1) (cm e2), fun y hy => ?_, fun y c z _ => ?_, fun _ => hd, Around.frames_deeper e0.frames, .inr ⟨rfl, rfl⟩, fun b z => absurd z (noA b), e0.bs, e0.bsz, fun b _ _ => noA b,
      fun b z => absurd z (noA b), e0.funs, e0.frf⟩,
    rfl, e0.bare, Un.kept kp, ⟨_, hns, fun i y v e1 e2 e3 => ?_⟩, fun y c e => ?_, e0.hok.fresh (Nat.le_refl _), fun y c e => ?_, fun q hq => absurd (show q ∈ ([] : List (Addr × Obj)) ++ [] from hq) (by simp), e0.hok.kept kp, I.len⟩
  · have hy : scope.names.lookup y = some .cell ∨ scope.names.lookup y = some .free := hy
    rcases hy with hy | hy
    · exact absurd rfl (L.own _ (PySem.mem_of_lookup hy)).2
    · exact look hy
  · have z : false = true := z
    cases z
  · have e3 : Vis scope y := e3
    have e1 : X.N[i]? = some y := e1
    rcases e3 with k | k | k
    · exact absurd (List.mem_of_getElem? e1) ((L.own _ (PySem.mem_of_lookup k)).1 rfl)
    · exact absurd rfl (L.own _ (PySem.mem_of_lookup k)).2
    · obtain ⟨m, hn, hl⟩ := I.loc
      have hvis : Vis X.env.scope y := (L.free _ (PySem.mem_of_lookup k) rfl).elim (fun k => .inr (.inl k)) (fun k => .inr (.inr k))
      obtain ⟨w', r, q⟩ := hl i y v e1 e2 hvis
      obtain ⟨c2, h2⟩ := look k
      refine ⟨w', r, .inr ⟨.inr k, c2, h2, ?_⟩⟩
      have c1 := cm h2
      rcases q with ⟨k', _⟩ | ⟨_, c3, e', z⟩
      · have k' : X.env.scope.names.lookup y = some .local := k'
        rcases L.free _ (PySem.mem_of_lookup k) rfl with k2 | k2 <;> rw [show X.env.scope.names.lookup y = _ from k2] at k' <;> cases k'
      · rw [c1] at e'
        cases e'
        exact (cellK c1 z).1
  · obtain ⟨w', z⟩ := I.cell y c (cm e)
    exact ⟨w', (cellK (cm e) z).1⟩
  · obtain ⟨v, z⟩ := I.cell y c (cm e)
    exact (cellK (cm e) z).2
/-- the lambda at f, called -/
theorem act_lam {params : Arguments} {body : Expr} {scope : Scope} {dvs : List V} {k : Nat} {f : Addr} {t : XK → TE} (I : Inv X pins σ H s) (hfn : ∀ x, X.fn x = true) (L : LamN X.N X.env.scope scope)
    (hbind : ∀ (c' : Addr) (dV pm ctv : Value) (s1 : Shared) (HZ : Hp), HOk X.prog X.w HZ s1.heap → ((dvs = [] ∧ dV = .none) ∨ ∃ T, dvs ≠ [] ∧ dV = .ref T ∧ HZ T = some (.tup dvs)) → ∃ binds : List (Str × Value), BindsTo s1 (fnL (X.env.qual ++ "<lambda>") params body scope (cloFrom X.env.cells scope.names []) dV pm c' ctv) ⟨[], []⟩ binds ∧ ∀ y ∈ binds, scope.names.lookup y.1 = some .local)
    (hbody : ∀ (B : Heap) (A : Around) (outer : List Env) (s : Shared) (H : Hp) (E : XK) (f c' : Addr), Room k (A.deeper (lamEnv X scope s.heap.objs.size f c')) → PE (lamCx X B A outer s H E scope f c') body (t E)) :
    Acts X.prog X.w X.K X.mg (baseAt X H s) (k + 1) f (fun E HZ Q => IsLam X params body scope dvs HZ f ∧ t E σ HZ Q) := by
  intro A outer s1 HZ Q E hr e0 ⟨⟨c', dV, h1, h2, h3⟩, ht⟩
  obtain ⟨⟨pm, ctv, of1⟩, _, _⟩ := e0.hok f _ h1
  obtain ⟨⟨oc, vs, tq, hoc, hdc, hvc⟩, _, _⟩ := e0.hok c' _ h2
  obtain ⟨binds, hB, hloc⟩ := hbind c' dV pm ctv s1 HZ e0.hok h3
  refine ⟨⟨_, _, _, _, of1⟩, PySem.W.kla_callFunE hr.depth of1 rfl L.co L.gen rfl ⟨c', oc, vs, tq, rfl, hoc, hdc, hvc⟩ (hB _ _ _ _ ?_)⟩
  refine wpAny_newFunctionEnv (fun y hy => (L.own y hy).2) hloc (fun h₁ hns hsb => ?_) L.kind
  have kp : ∀ b o, s1.heap.get? b = some o → h₁.get? b = some o := fun b o e => hsb.extBut b o (Nat.ne_of_lt (Heap.lt_size e)) (Heap.get?_push_of_some _ e)
  have lim : s1.heap.NoLimit := e0.mod.nolimit.keeps fun b o e => (e0.bs b o e).1
  refine ⟨lim.fresh _ hsb, ?_⟩
  have J : Inv (lamCx X (baseAt X H s) A outer s1 HZ E scope f c') [] σ HZ { s1 with heap := h₁, toks := s1.toks + binds.length } := lam_start I hfn L e0 hr.hd hns kp
  show codeAny _ _ (.expr body (lamEnv X scope s1.heap.objs.size f c')) _ _
  refine PySem.W.kla_codeExpr (wpAny_mono ((hbody _ A outer s1 HZ E f c' (hr.deeper _)).run [] _ _ HZ Q J ht) (fun v s' hq => ?_) fun e s' hq => hq)
  obtain ⟨w', H', J', rv, q⟩ := hq
  exact ⟨w', H', J'.os, J'.bare, J'.base, J'.hok, rv, q⟩
/-- what may be called, by the maker's slots -/
def Acting (X : Cx) (k : Nat) (tl : L2.St → Addr → XK → Hp → VK → Prop) : Prop := ∀ pins σ H s, Inv X pins σ H s → ∀ f, Acts X.prog X.w X.K X.mg (baseAt X H s) k f (tl σ f)
theorem acting_or {k : Nat} {a b : L2.St → Addr → XK → Hp → VK → Prop} (ha : Acting X k a) (hb : Acting X k b) : Acting X k (fun σ f E H Q => a σ f E H Q ∨ b σ f E H Q) := fun pins σ H s I f A outer s1 HZ Q E hr e0 h => h.elim (ha pins σ H s I f A outer s1 HZ Q E hr e0) (hb pins σ H s I f A outer s1 HZ Q E hr e0)
def tlLam (X : Cx) (params : Arguments) (body : Expr) (scope : Scope) (dvs : List V) (t : XK → TE) : L2.St → Addr → XK → Hp → VK → Prop := fun σ f E H Q => IsLam X params body scope dvs H f ∧ t E σ H Q
theorem acting0 {params : Arguments} {body : Expr} {scope : Scope} {k : Nat} {t : XK → TE} (hfn : ∀ x, X.fn x = true) (L : LamN X.N X.env.scope scope)
    (hb : ∀ (c' : Addr) (pm ctv : Value), bindArgs (fnL (X.env.qual ++ "<lambda>") params body scope (cloFrom X.env.cells scope.names []) .none pm c' ctv) ⟨[], []⟩ = pure [])
    (hbody : ∀ (B : Heap) (A : Around) (outer : List Env) (s : Shared) (H : Hp) (E : XK) (f c' : Addr), Room k (A.deeper (lamEnv X scope s.heap.objs.size f c')) → PE (lamCx X B A outer s H E scope f c') body (t E)) : Acting X (k + 1) (tlLam X params body scope [] t) := fun pins σ H s I f => by
  refine act_lam I hfn L (fun c' dV pm ctv s1 HZ hok hd => ?_) hbody
  rcases hd with ⟨_, rfl⟩ | ⟨T, z, _⟩
  · exact ⟨[], .of_eq (hb c' pm ctv), fun y hy => by cases hy⟩
  · exact absurd rfl z
theorem acting1 {params : Arguments} {body : Expr} {scope : Scope} {k : Nat} {i : Int} {x : Str} {t : XK → TE} (hfn : ∀ x, X.fn x = true) (L : LamN X.N X.env.scope scope) (hx : scope.names.lookup x = some .local)
    (hb : ∀ (c' T : Addr) (pm ctv u : Value), ∃ kk : Option (Array Value) → Sem (List (Str × Value)), bindArgs (fnL (X.env.qual ++ "<lambda>") params body scope (cloFrom X.env.cells scope.names []) (.ref T) pm c' ctv) ⟨[], []⟩ = seqItems? (.ref T) >>= kk ∧ kk (some #[u]) = pure [(x, u)])
    (hbody : ∀ (B : Heap) (A : Around) (outer : List Env) (s : Shared) (H : Hp) (E : XK) (f c' : Addr), Room k (A.deeper (lamEnv X scope s.heap.objs.size f c')) → PE (lamCx X B A outer s H E scope f c') body (t E)) : Acting X (k + 1) (tlLam X params body scope [.int i] t) := fun pins σ H s I f => by
  refine act_lam I hfn L (fun c' dV pm ctv s1 HZ hok hd => ?_) hbody
  rcases hd with ⟨z, _⟩ | ⟨T, _, rfl, hT⟩
  · cases z
  · obtain ⟨_, its, r, o, ho, _, n, hs⟩ := hok T _ hT
    cases r with
    | @cons _ u _ _ r1 r2 =>
      cases r2
      obtain ⟨kk, b1, b2⟩ := hb c' T pm ctv u
      refine ⟨[(x, u)], .of_defaults (T := T) (k := kk) rfl ho hs b1 b2, fun y hy => ?_⟩
      rw [List.mem_singleton.mp hy]
      exact hx
/-- g(e, ..), what it is handed being called there -/
theorem pe_callL {k kk : Nat} {g : Addr} {fd : FuncData} {ps : List Str} {x : Str} {p pos : Pos} {e : Expr} {es : List Expr} {ta : TA} {tl : L2.St → Addr → XK → Hp → VK → Prop} {spT : (Addr → XK → Hp → VK → Prop) → Sp} (ha : Acting X kk tl)
    (F : ∀ (base : Heap) (al : Addr → XK → Hp → VK → Prop), (∀ f, Acts X.prog X.w X.K X.mg base kk f (al f)) → FnOk X.prog X.w X.K X.mg base CX0 k g fd ps (spT al)) (hr : Room k X.A) (hg : Gl X x) (hm : X.mg x = some (.ref g)) (hk : PySem.W.keepIn X.K (.ref g) = true) (hb : Binds X.K fd ps []) (hargs : PA X (e :: es) ta)
    (hdb : (x == ("__debug__" : Str)) = false := by decide) (he : starEach (e :: es) X.env = (false, eval e X.env) :: starEach es X.env := by rfl) (hpl : (backTo pos (starEach es X.env)).any (·.1) = false := by rfl) :
    PE X (.Call (.Name x p) (e :: es) [] pos) (fun σ H Q => ta σ H fun vs H1 => spT (tl σ) vs H1 Q (fun _ _ _ => False)) := by
  refine ⟨fun pins s σ H Q I h => ?_⟩
  refine wpAny_Call_Name_kw (ld_glob I hg hm ?_ hdb)
  refine PySem.W.callWith_K (h₀ := X.base) I.ok.mod.kin hk (thn (hargs.run pos pins s σ H _ I h) fun us s1 ⟨vs, H1, I1, r, q⟩ => ⟨I1.kIn, ?_⟩) he hpl
  have F1 := F (baseAt X H1 s1) (tl σ) (ha pins σ H1 s1 I1)
  have hl : us.length = ps.length := by rw [← r.length]; exact F1.len _ _ _ _ q
  refine wpAny_call (codeAny_mono (F1.run X.A X.stack s1 H1 ⟨us, []⟩ us vs Q (fun _ _ _ => False) hr (env0_at I1) (by have z := hb s1 us I1.kIn (by rw [List.append_nil]; exact hl); rw [List.append_nil] at z; exact z) r q) fun r s' hq => ?_)
  cases r with
  | error e => exact (show False from hq).elim
  | ok fl =>
    cases fl with
    | ret u => exact I1.after hq
    | next => exact False.elim hq
    | brk => exact False.elim hq
    | cont => exact False.elim hq
/-- a(), in the def that got it -/
theorem pe_act {W : WX} {kk i : Nat} {a : Str} {p1 p2 : Pos} {al : Addr → XK → Hp → VK → Prop} (ha : ∀ f, Acts X.prog X.w X.K X.mg X.base kk f (al f)) (hr : Room kk X.A) (tk : Takes X W) (hN : X.N[i]? = some a) (hv : Vis X.env.scope a) (hd : (a == ("__debug__" : Str)) = false := by decide) (hcd : (a == ("__classdict__" : Str)) = false := by decide) :
    PE X (.Call (.Name a p1) [] [] p2) (fun σ H Q => ∃ (f : Addr) (E : XK), σ[i]? = some (some (V.ref f)) ∧ (∀ cls d H', E cls d H' → W cls d σ H') ∧ al f E H Q) := by
  refine ⟨fun pins s σ H Q I h => ?_⟩
  obtain ⟨f, E, hs, hW, ht⟩ := h
  refine wpAny_Call_Name_kw (thn ((pe_var (pos := p1) (i := i) hN hv hd hcd).run pins s σ H (fun v H1 => v = .ref f ∧ H1 = H) I ⟨.ref f, hs, rfl, rfl⟩) fun u s1 ⟨v, H1, I1, r1, q1⟩ => ?_)
  obtain ⟨rfl, rfl⟩ := q1
  obtain rfl : u = Value.ref f := r1
  obtain ⟨fa, rc⟩ := ha f X.A X.stack s1 H1 Q E hr I1.env0 ht
  refine PySem.W.callWith_F0 fa (wpAny_call (codeAny_mono rc fun r s' hq => ?_))
  cases r with
  | error e => exact tk e s' (XE.of_call I1 hW hq)
  | ok fl =>
    cases fl with
    | ret u => exact I1.after hq
    | next => exact False.elim hq
    | brk => exact False.elim hq
    | cont => exact False.elim hq
end
/-! ### calls of a local that holds one of several defs; nothing is raised -/
section
variable {X : Cx}
theorem passN {E : XK} (h : ∀ c d H, E c d H → False) : Passes (L2.CX X.prog X.w) X E := fun _ _ _ _ _ _ _ c => by
  obtain ⟨_, _, _, _, _, _, _, _, _, _, _, _, z⟩ := c
  exact (h _ _ _ z).elim
structure HeldX (P : Program) (w : World) (K : PySem.W.Frag) (mg : Str → Option Value) (base : Heap) (k : Nat) (f : Addr) (sp : Sp) : Prop where
  ex : ∃ (fd : FuncData) (ps : List Str), FnOk P w K mg base (L2.CX P w) k f fd ps sp ∧ PySem.W.keepIn K (.ref f) = true ∧ Binds K fd ps []
def tCallR (i : Nat) (R : Addr → Sp → Prop) (E : XK) (t : TA) : TE := fun σ H Q => ∃ f sp, σ[i]? = some (some (V.ref f)) ∧ R f sp ∧ t σ H fun vs H1 => sp vs H1 Q E
theorem pe_callR {R : Addr → Sp → Prop} {k i : Nat} {x : Str} {e : Expr} {es : List Expr} {t : TA} {p pos : Pos} {E : XK} (A : ∀ f sp, R f sp → HeldX X.prog X.w X.K X.mg X.base k f sp) (hr : Room k X.A) (hN : X.N[i]? = some x) (hv : Vis X.env.scope x) (hx : Passes (L2.CX X.prog X.w) X E) (ha : PA X (e :: es) t)
    (hdb : (x == ("__debug__" : Str)) = false := by decide) (hcd : (x == ("__classdict__" : Str)) = false := by decide)
    (he : starEach (e :: es) X.env = (false, eval e X.env) :: starEach es X.env := by rfl) (hpl : (backTo pos (starEach es X.env)).any (·.1) = false := by rfl) : PE X (.Call (.Name x p) (e :: es) [] pos) (tCallR i R E t) := by
  refine ⟨fun pins s σ H Q I h => ?_⟩
  obtain ⟨f, sp, hs, hS, ht⟩ := h
  obtain ⟨fd, ps, F, hk, hb⟩ := (A f sp hS).ex
  refine (L2.pe_callL (i := i) (f := f) (sp := sp) (dvs := []) (E := E) F hr hN hv hk hb .nil hx ha hdb hcd he hpl).run pins s σ H Q I ⟨hs, ?_⟩
  have e0 : (fun (vs : List V) (H1 : Hp) => sp (vs ++ []) H1 Q E) = fun vs H1 => sp vs H1 Q E := by
    funext vs H1
    rw [List.append_nil]
  show t σ H (fun vs H1 => sp (vs ++ []) H1 Q E)
  rw [e0]
  exact ht
end
/-! ### raising an own error with one field -/
def spInit (C : Addr) (f : Str) : Sp := fun vs H Q _ => ∃ (a : Addr) (v : V), vs = [.ref a, v] ∧ H a = some (exo a C none) ∧ ∀ dx, H dx = none → dx ≠ a → Q .non (upd (upd H dx (exd dx [(f, v)])) a (exo a C (some dx)))
/-- C with the field f := v is raised behind H -/
def Rz (C : Addr) (f : Str) (v : V) (H : Hp) (E : XK) : Prop := ∀ H' d, Same H H' → H d = none → H' d = some (.xd [(f, v)]) → E (.ref C) (some d) H'
theorem Rz.mono {C : Addr} {f : Str} {v : V} {H H1 : Hp} {E : XK} (h : Rz C f v H E) (s : Same H H1) : Rz C f v H1 E := fun H' d k n e => h H' d (s.trans k) (by
  cases q : H d with
  | none => rfl
  | some o =>
    rw [s d o q] at n
    cases n) e
theorem raise_ok {C : Addr} {f : Str} {v : V} {H1 : Hp} {E : XK} (h : Rz C f v H1 E) : [v].length ≤ 1000 ∧ ∀ a, H1 a = none → spInit C f (.ref a :: [v]) (upd H1 a (exo a C none))
    (fun u H2 => u = .non ∧ ((H2 a = some (exo a C none) ∧ E (.ref C) none (del H2 a)) ∨ ∃ (d : Addr) (fs : List (Str × V)), H2 a = some (exo a C (some d)) ∧ H2 d = some (exd d fs) ∧ H1 d = none ∧ E (.ref C) (some d) (upd (del H2 a) d (.xd fs)))) (fun _ _ _ => False) := by
  refine ⟨by show 1 ≤ 1000; decide, fun a na => ⟨a, v, rfl, upd_same, fun dx nd ne => ⟨rfl, .inr ⟨dx, [(f, v)], upd_same, ?_, ?_, ?_⟩⟩⟩⟩
  · rw [upd_ne ne, upd_same]
  · rw [upd_ne ne] at nd
    exact nd
  · rw [upd_ne ne] at nd
    refine h _ dx (fun b o hb => ?_) nd upd_same
    have b1 : b ≠ a := ne_of_none hb na
    have b2 : b ≠ dx := ne_of_none hb nd
    rw [upd_ne b2, del_ne b1, upd_ne b1, upd_ne b2, upd_ne b1]
    exact hb
/-! ### isinstance of a caught error with a field -/
def rIsD (K : PySem.W.Frag) (D a : Addr) (d : Option Addr) : List V → Hp → VK → Prop := fun xs H Q => ∃ (c : V) (cv : Value) (b : Bool) (dd : Addr) (fs : List (Str × V)), xs = [.ref a, c] ∧ (∀ u, RelV c u → u = cv) ∧ PySem.W.kitOne K (.ref D) cv = some b ∧ d = some dd ∧ H dd = some (.xd fs) ∧ Q (.bl b) H
theorem call_isD {X : Cx} {a D : Addr} {d : Option Addr} {oe : Obj} {pn : List (Addr × Obj)} (C : ExcC X.K D) (hz : Zc (.ref D) d oe) (hf : ∃ vs, oe.data = .fields vs) : CallR (X.suite a ((a, oe) :: pn)) (.builtin "isinstance") (rIsD X.K D a d) := by
  intro pins s σ H xs us Q I r h
  obtain ⟨c, cv, b, dd, fs, rfl, hcv, e, rfl, hdd, q⟩ := h
  cases r with
  | cons rx rr =>
    cases rr with
    | cons rt rr =>
      cases rr
      cases rx
      have ec := hcv _ rt
      subst ec
      obtain ⟨hget, _⟩ := I.pin (a, oe) (List.mem_append.mpr (.inl List.mem_cons_self))
      obtain ⟨vs, hv⟩ := hf
      obtain ⟨mA, hns, hr⟩ := I.hok dd _ hdd
      obtain ⟨od, ho, hl⟩ := lookIn_ns hns
      have J : PySem.W.InstAt s.heap a oe D (some od) := ⟨hget, hz.1, by unfold PySem.W.notCls; rw [hv] <;> rfl, by rw [hz.2]; exact ho⟩
      obtain ⟨cd, hc, _⟩ := PySem.W.any_some C.hd
      exact PySem.W.kia_one (PySem.W.kitx_exc (by rw [hc]; rfl) C.hg C.hk C.hs C.ha C.hn C.ht C.hm) I.kIn J e (fun z => nomatch z) fun tk => ⟨.bl b, H, I.kept (t' := tk) fun _ _ z => z, rfl, q⟩
theorem ExcC.xf {K : PySem.W.Frag} {D : Addr} (C : ExcC K D) : XfC K D := ⟨C.hg, C.hk, C.hs, C.hd⟩
/-! ### loops of comprehensions over ranges, any body -/
theorem rngW {lo : Int} {n : Nat} {H0 : Hp} {Qd : Hp → Prop} {Body : V → Hp → (Hp → Prop) → Prop} (Pv : Nat → Hp → Prop) (h0 : Pv 0 H0) (hs : ∀ i H, i < n → Pv i H → Body (.int (lo + i)) H (Pv (i + 1))) (hd : ∀ H, Pv n H → Qd H) :
    ∃ W : Nat → Nat → Hp → Prop, (∃ m, W 0 m H0) ∧ ∀ i m H, W i m H → ((Itr lo n).stop i H ∧ Qd H) ∨ ((Itr lo n).go i H ∧ ∃ Nx : Hp → Prop, (∀ H', Nx H' → ∃ m', m' < m ∧ W (i + 1) m' H') ∧ ∀ x H', (Itr lo n).yld i H x H' → Body x H' Nx) := by
  refine ⟨fun i m H => m + i = n ∧ Pv i H, ⟨n, rfl, h0⟩, fun i m H hW => ?_⟩
  obtain ⟨em, p⟩ := hW
  by_cases hi : i < n
  · refine .inr ⟨hi, Pv (i + 1), fun H' p' => ⟨m - 1, by omega, by omega, p'⟩, fun x H' hy => ?_⟩
    obtain ⟨rfl, rfl⟩ := hy
    exact hs i _ hi p
  · have e : i = n := by omega
    subst e
    exact .inl ⟨Nat.le_refl _, hd H p⟩
theorem g_callR {i : Nat} {R : Addr → Sp → Prop} {E : XK} {t : TA} {σ : L2.St} {H : Hp} {Q : VK} {f : Addr} {sp : Sp} (h : σ[i]? = some (some (V.ref f))) (hR : R f sp) (q : t σ H fun vs H1 => sp vs H1 Q E) : tCallR i R E t σ H Q := ⟨f, sp, h, hR, q⟩
/-! ### parts of a text -/
def noS : Stmt := .Pass ⟨0, 0, 0, 0⟩
def noE : Expr := .Name "" ⟨0, 0, 0, 0⟩
def nth (l : List Stmt) (i : Nat) : Stmt := l.getD i noS
def sBody : Stmt → Nat → Stmt
  | .For (body := b) .., i => nth b i
  | .If (body := b) .., i => nth b i
  | .While (body := b) .., i => nth b i
  | _, _ => noS
def sElse : Stmt → Nat → Stmt
  | .If (orelse := b) .., i => nth b i
  | _, _ => noS
def sExpr : Stmt → Expr
  | .If (test := e) .. => e
  | .Assign (value := e) .. => e
  | .Return (value := some e) .. => e
  | .For (iter := e) .. => e
  | .Expr e _ => e
  | _ => noE
def eAt : Expr → Nat → Expr
  | .BoolOp _ vs _, i => vs.getD i noE
  | .BinOp l _ _ _, 0 => l
  | .BinOp _ _ r _, _ => r
  | .UnaryOp _ e _, _ => e
  | .Compare l _ _ _, 0 => l
  | .Compare _ _ cs _, i + 1 => cs.getD i noE
  | .Call _ as _ _, i => as.getD i noE
  | .List es _, i => es.getD i noE
  | .Tuple es _ _, i => es.getD i noE
  | .ListComp e _ _ _, _ => e
  | _, _ => noE
def lamP : Expr → Arguments
  | .Lambda a _ _ _ => a
  | _ => { posonlyargs := [], args := [], vararg := none, kwonlyargs := [], kw_defaults := [], kwarg := none, defaults := [] }
def lamB : Expr → Expr
  | .Lambda _ b _ _ => b
  | e => e
def lamS : Expr → Scope
  | .Lambda _ _ s _ => s
  | _ => { kind := .function, names := [], isGenerator := false, isCoroutine := false }
end NCLam
/-! NCKw: own errors over ArithmeticError made as values, by one keyword too; isinstance of them, their fields. -/
namespace NCKw
open PySem PySem.Spec PySem.HandSPX
section
variable {prog : Program} {w : World} {A : Around} {E : Value → Shared → Prop} {R : Result → Shared → Prop} {h : Heap} {g : Array GenState} {d : Drawn} {t : Nat} {os : OsState}
variable {nm q : Str} {C N : Addr} {bs bm bmB : List Value} {hdct : Bool} {sn : List Str} {sub : List Value} {ab : Bool} {col : Option Bool} {dd : Option Addr} {k0 k1 k2 k3 k5 : Option Value} {B newId initId : String}
theorem new_kw (F : ExcBaseFacts B newId initId bmB) (hT : ∀ X : String, bm.contains (.type X) = bmB.contains (.type X)) {key : Str} {u : Value}
    (cC : h.get? C = some (excClassObj nm q C N bs bm hdct sn sub ab col dd k0 k1 k2 k3 k5 newId)) (hq : R (.ok (.ret (.ref (h.objs.size + 1)))) ⟨(h.push (W.kdv_tup [])).push (excO C h.objs.size), g, d, t, os⟩) : codeAny (model prog w) A (.builtin newId ⟨[.ref C], [(key, u)]⟩) R ⟨h, g, d, t, os⟩ := by
  have en := F.ends
  have x1 : (Value.ref C :: bm).contains (.type B) = true := by rw [List.contains_cons, hT, F.hasB, Bool.or_true]
  have x2 : (Value.ref C :: bm).contains (.type "AttributeError") = false := by rw [List.contains_cons, hT, F.noAttr]; rfl
  have x3 : (Value.ref C :: bm).contains (.type "NameError") = false := by rw [List.contains_cons, hT, F.noName]; rfl
  refine codeAny_builtinAt F.entry ?_
  unfold Builtin.«BaseException.__new__»
  refine wpAt_bind ?_; show wpAt _ _ _ (stack >>= _) _ _ _
  refine wpAt_bind (wpAt_stack fun p below => wpAt_of_wpAny ?_); wp_walk
  refine wpAt_of_wpAny ?_; rw [F.owner]
  repeat (first | with_reducible refine wpAny_madeHere_exc F.canon cC ?_ | with_reducible refine wpAny_loadPart_at cC ?_ | (with_reducible refine wpAny_isSubtype_exc cC ?_; first | rw [x1] | rw [x2] | rw [x3]) | wp_step)
  show R _ _
  rw [Heap.size_push]; exact hq
theorem check_new_kw (F : ExcBaseFacts B newId initId bmB) (hT : ∀ X : String, bm.contains (.type X) = bmB.contains (.type X)) {M : Model} {key : Str} {u : Value} {Q : Unit → Shared → Prop}
    (cC : h.get? C = some (excClassObj nm q C N bs bm hdct sn sub ab col dd k0 k1 k2 k3 k5 newId)) (hq : Q () ⟨h, g, d, t, os⟩) : wpAny M A (checkBuiltinCall newId ⟨[.ref C], [(key, u)]⟩) Q E ⟨h, g, d, t, os⟩ := by
  have x1 : (Value.ref C :: bm).contains (.type B) = true := by rw [List.contains_cons, hT, F.hasB, Bool.or_true]
  have x2 := F.noStar
  simp only [checkBuiltinCall, F.newKind, F.newSplit, F.newRow]
  repeat (first | refine wpAny_loadPart_at cC ?_ | (refine wpAny_isSubtype_exc cC ?_; rw [x1]) | refine wpAny_staticBase_exc cC ?_ | refine wpAny_madeBy_exc cC ?_ | simp only [bne_self_eq_false, Bool.false_eq_true, if_false] | wp_step)
  exact hq
theorem type_call_kw (F : ExcBaseFacts B newId initId bmB) (hT : ∀ X : String, bm.contains (.type X) = bmB.contains (.type X)) {fI : Addr} {Q : Fin → Shared → Prop} {key : Str} {u : Value}
    (cC : h.get? C = some (excClassObj nm q C N bs bm hdct sn sub ab col dd k0 k1 k2 k3 k5 newId)) (hi : W.Looks (model prog w) h (typeLookup (.ref C) "__init__") (some (.ref fI))) (hb : ∀ self, W.Looks (model prog w) h (bindSpecial (.ref fI) self) (.ref fI, [self]))
    (hq : codeAny (model prog w) A (.call (.ref fI) ⟨[.ref (h.objs.size + 1)], [(key, u)]⟩) (fun r s' => match r with | .ok (.ret v) => v = .none ∧ Q (.done (.ret (.ref (h.objs.size + 1)))) s' | .ok _ => False | .error e => E e s') ⟨(h.push (W.kdv_tup [])).push (excO C h.objs.size), g, d, t, os⟩) :
    wpAny (model prog w) A (Builtin.«type.__call__» ⟨[.ref C], [(key, u)]⟩) Q E ⟨h, g, d, t, os⟩ := by
  repeat (first | with_reducible refine wpAny_loadPart_at cC ?_ | with_reducible refine wpAny_madeBy_exc cC ?_ | wp_step)
  refine codeAny_call_builtin_code (Code.quiet_builtin _ F.quiet) (check_new_kw F hT cC (new_kw F hT cC ?_))
  show wpAny _ _ _ _ _ _
  have k : ∀ b o, h.get? b = some o → ((h.push (W.kdv_tup [])).push (excO C h.objs.size)).get? b = some o := fun b o e => Heap.get?_push_of_some _ (Heap.get?_push_of_some _ e)
  have cC1 := k _ _ cC
  have self0 : ((h.push (W.kdv_tup [])).push (excO C h.objs.size)).get? (h.objs.size + 1) = some (excO C h.objs.size) := by heap_get
  have x1 : (Value.ref C :: bm).contains (.ref C) = true := by simp
  unfold isInstance
  repeat (first | with_reducible refine wpAny_loadPart_at self0 ?_ | (with_reducible refine wpAny_isSubtype_exc cC1 ?_; rw [x1]) | wp_step)
  show wpAny _ _ (typeLookup (.ref C) _) _ _ _
  refine (hi.keeps k).at (wpAny_holding (wpAny_bind (((hb (.ref (h.objs.size + 1))).keeps k).at ?_)))
  refine wpAny_bind (wpAny_call (codeAny_mono hq fun r s' z => ?_))
  rcases r with e | (v | _ | _ | _) <;> first | exact z | exact z.elim | skip
  obtain ⟨rfl, z⟩ := z
  first | exact wpAny_pure (wpAny_pure z) | (wp_walk; exact z)
theorem call_kw (F : ExcBaseFacts B newId initId bmB) (hT : ∀ X : String, bm.contains (.type X) = bmB.contains (.type X)) {fI : Addr} {key : Str} {u : Value}
    (cC : h.get? C = some (excClassObj nm q C N bs bm hdct sn sub ab col dd k0 k1 k2 k3 k5 newId)) (hi : W.Looks (model prog w) h (typeLookup (.ref C) "__init__") (some (.ref fI))) (hb : ∀ self, W.Looks (model prog w) h (bindSpecial (.ref fI) self) (.ref fI, [self]))
    (hq : codeAny (model prog w) (A.under (.builtin "type.__call__" ⟨[.ref C], [(key, u)]⟩)) (.call (.ref fI) ⟨[.ref (h.objs.size + 1)], [(key, u)]⟩) (W.InitBack (h.objs.size + 1) R) ⟨(h.push (W.kdv_tup [])).push (excO C h.objs.size), g, d, t, os⟩) :
    codeAny (model prog w) A (.call (.ref C) ⟨[], [(key, u)]⟩) R ⟨h, g, d, t, os⟩ := by
  have y1 := tc_lookup
  have y2 := tc_bind (.ref C)
  have y3 : (⟨h, g, d, t, os⟩ : Shared).TypeIs (.ref C) "type" := ⟨_, cC, rfl⟩
  refine codeAny_of_tree ?_
  show wpAny _ _ (callAny (.ref C) _) _ _ _
  repeat (any_goals (first | assumption | with_reducible refine wpAny_loadPart_at cC ?_ | wp_step))
  refine ⟨rfl, ?_⟩
  refine codeAny_call_builtin_at (Code.quiet_builtin _ (by decide +kernel)) entry_typeCall (wpAny_check_type_call_sub cC (type_call_kw F hT cC hi hb ?_))
  refine codeAny_mono hq fun r s' z => ?_
  rcases r with e | (v | _ | _ | _) <;> exact z
end
end NCKw
namespace NCKw
open PySem PySem.Spec PyProof.Rows L2
section
variable {X : Cx} {p pos : Pos}
/-- what C(..) leaves: the error at a, kept -/
abbrev MkV (C : Addr) (sp : Sp) (vs : List V) (H1 : Hp) (Q : VK) : Prop := ∀ a, H1 a = none → sp (.ref a :: vs) (upd H1 a (exo a C none)) (fun v H2 => v = .non ∧ Q (.ref a) H2) (fun _ _ _ => False)
theorem mkV_core {C fI : Addr} {k : Nat} {fd : FuncData} {ps : List Str} {sp : Sp} {pins : List (Addr × Obj)} {σ : L2.St} {H1 : Hp} {Q : VK} {s1 : Shared} {vs : List V} {us : List Value} (T : OexA X.K C) (iC : PySem.W.findIn X.K (.ref C) "__init__" = some (some (.ref fI))) (tI : PySem.W.typeIn X.K (.ref fI) = some (.type "function"))
    (F1 : FnOk X.prog X.w X.K X.mg X.base CX0 k fI fd ps sp) (hr : Room (k + 1) X.A) (hb : Binds X.K fd ps []) (I1 : Inv X pins σ H1 s1) (r1 : Vals vs us) (hz : vs.length ≤ 1000) (q1 : MkV C sp vs H1 Q) : wpAny (model X.prog X.w) X.A (call (.ref C) us) (EP X pins σ Q) X.xe s1 := by
  obtain ⟨nm, N, q, bs, bm, hdct, sn, sub, ab, col, dd, k0, k1, k2, k3, k5, hC, hbm⟩ := PySem.W.excInit_of I1.kIn T.ini
  obtain ⟨hp, g, dr, tk, os⟩ := s1
  have hq := q1 (hp.objs.size + 1) (I1.hok.fresh (Nat.le_succ _))
  have got : ((hp.push (PySem.W.kdv_tup us)).push (PySem.HandSPX.excO C hp.objs.size)).get? (hp.objs.size + 1) = some (PySem.HandSPX.excO C hp.objs.size) := by heap_get
  have I2 : Inv X pins σ (upd H1 (hp.objs.size + 1) (exo (hp.objs.size + 1) C none)) ⟨(hp.push (PySem.W.kdv_tup us)).push (PySem.HandSPX.excO C hp.objs.size), g, dr, tk, os⟩ :=
    I1.laid (t' := tk) (a := hp.objs.size + 1) (o := exo (hp.objs.size + 1) C none) (fun b o e => Heap.get?_push_of_some _ (Heap.get?_push_of_some _ e)) (Nat.le_succ _) (exo_ok got)
  have r3 : Vals (V.ref (hp.objs.size + 1) :: vs) (Value.ref (hp.objs.size + 1) :: us ++ []) := by rw [List.append_nil]; exact .cons rfl r1
  have hl : (Value.ref (hp.objs.size + 1) :: us ++ []).length = ps.length := by rw [← r3.length]; exact F1.len _ _ _ _ hq
  have hus : us.length ≤ sizeLine := by rw [← Paired.length r1, sizeLine_eq]; omega
  refine wpAny_call (PySem.HandSPX.call_own F.excBase_ArithmeticError hbm hC (PySem.W.looks_findIn I1.kIn iC) (fun self => PySem.W.bind_fn I1.kIn self tI) hus
    (codeAny_mono (F1.run _ X.stack _ _ ⟨Value.ref (hp.objs.size + 1) :: us, []⟩ _ _ _ (fun _ _ _ => False) (hr.make C us []) (I2.env0.make C us []) (hb _ (Value.ref (hp.objs.size + 1) :: us) I2.kIn hl) r3 hq) fun r s' z => ?_))
  cases r with
  | error er => exact (show False from z).elim
  | ok fl =>
    cases fl with
    | ret u =>
      obtain ⟨v, H2, J, rv, ev, qv⟩ := I2.after z
      subst ev
      exact ⟨rv, .ref _, H2, J, rfl, qv⟩
    | next => exact False.elim z
    | brk => exact False.elim z
    | cont => exact False.elim z
theorem mkK_core {C fI : Addr} {k : Nat} {fd : FuncData} {ps : List Str} {sp : Sp} {key : Str} {pins : List (Addr × Obj)} {σ : L2.St} {H1 : Hp} {Q : VK} {s1 : Shared} {v : V} {u : Value} (T : OexA X.K C) (iC : PySem.W.findIn X.K (.ref C) "__init__" = some (some (.ref fI))) (tI : PySem.W.typeIn X.K (.ref fI) = some (.type "function"))
    (F1 : FnOk X.prog X.w X.K X.mg X.base CX0 k fI fd ps sp) (hr : Room (k + 1) X.A) (hb : ∀ (s : Shared) (a u : Value), X.K.In s.heap → BindsTo s fd ⟨[a], [(key, u)]⟩ (ps.zip [a, u])) (I1 : Inv X pins σ H1 s1) (r1 : RelV v u) (q1 : MkV C sp [v] H1 Q) : codeAny (model X.prog X.w) X.A (.call (.ref C) ⟨[], [(key, u)]⟩) (fun r s' => match r with | .ok (.ret u) => EP X pins σ Q u s' | .ok _ => False | .error e => False) s1 := by
  obtain ⟨nm, N, q, bs, bm, hdct, sn, sub, ab, col, dd, k0, k1, k2, k3, k5, hC, hbm⟩ := PySem.W.excInit_of I1.kIn T.ini
  obtain ⟨hp, g, dr, tk, os⟩ := s1
  have hq := q1 (hp.objs.size + 1) (I1.hok.fresh (Nat.le_succ _))
  have got : ((hp.push (PySem.W.kdv_tup [])).push (PySem.HandSPX.excO C hp.objs.size)).get? (hp.objs.size + 1) = some (PySem.HandSPX.excO C hp.objs.size) := by heap_get
  have I2 : Inv X pins σ (upd H1 (hp.objs.size + 1) (exo (hp.objs.size + 1) C none)) ⟨(hp.push (PySem.W.kdv_tup [])).push (PySem.HandSPX.excO C hp.objs.size), g, dr, tk, os⟩ :=
    I1.laid (t' := tk) (a := hp.objs.size + 1) (o := exo (hp.objs.size + 1) C none) (fun b o e => Heap.get?_push_of_some _ (Heap.get?_push_of_some _ e)) (Nat.le_succ _) (exo_ok got)
  have r3 : Vals [V.ref (hp.objs.size + 1), v] [Value.ref (hp.objs.size + 1), u] := .cons rfl (.cons r1 .nil)
  refine call_kw F.excBase_ArithmeticError hbm hC (PySem.W.looks_findIn I1.kIn iC) (fun self => PySem.W.bind_fn I1.kIn self tI)
    (codeAny_mono (F1.run _ X.stack _ _ ⟨[Value.ref (hp.objs.size + 1)], [(key, u)]⟩ _ _ _ (fun _ _ _ => False) (hr.make C [] [(key, u)]) (I2.env0.make C [] [(key, u)]) (hb _ _ _ I2.kIn) r3 hq) fun r s' z => ?_)
  cases r with
  | error er => exact (show False from z).elim
  | ok fl =>
    cases fl with
    | ret u =>
      obtain ⟨v, H2, J, rv, ev, qv⟩ := I2.after z
      subst ev
      exact ⟨rv, .ref _, H2, J, rfl, qv⟩
    | next => exact False.elim z
    | brk => exact False.elim z
    | cont => exact False.elim z
/-- C(e, ..) kept -/
theorem pe_mkV {C fI : Addr} {k : Nat} {fd : FuncData} {ps : List Str} {sp : Sp} {x : Str} {e : Expr} {es : List Expr} {ta : TA} (T : OexA X.K C) (iC : PySem.W.findIn X.K (.ref C) "__init__" = some (some (.ref fI))) (tI : PySem.W.typeIn X.K (.ref fI) = some (.type "function")) (F1 : FnOk X.prog X.w X.K X.mg X.base CX0 k fI fd ps sp) (hr : Room (k + 1) X.A) (hb : Binds X.K fd ps []) (hg : Gl X x) (hm : X.mg x = some (.ref C)) (ha : PA X (e :: es) ta)
    (hdb : (x == ("__debug__" : Str)) = false := by decide) (he : starEach (e :: es) X.env = (false, eval e X.env) :: starEach es X.env := by rfl) (hpl : (backTo pos (starEach es X.env)).any (·.1) = false := by rfl) : PE X (.Call (.Name x p) (e :: es) [] pos) (fun σ H Q => ta σ H fun vs H1 => vs.length ≤ 1000 ∧ MkV C sp vs H1 Q) := by
  refine ⟨fun pins s σ H Q I h => ?_⟩
  refine wpAny_Call_Name_kw (ld_glob I hg hm ?_ hdb)
  exact PySem.W.callWith_K (h₀ := X.base) I.ok.mod.kin T.kC (thn (ha.run pos pins s σ H _ I h) fun us s1 ⟨vs, H1, I1, r1, hz, q1⟩ => ⟨I1.kIn, mkV_core T iC tI F1 hr hb I1 r1 hz q1⟩) he hpl
theorem pe_mkV0 {C fI : Addr} {k : Nat} {fd : FuncData} {ps : List Str} {sp : Sp} {x : Str} (T : OexA X.K C) (iC : PySem.W.findIn X.K (.ref C) "__init__" = some (some (.ref fI))) (tI : PySem.W.typeIn X.K (.ref fI) = some (.type "function")) (F1 : FnOk X.prog X.w X.K X.mg X.base CX0 k fI fd ps sp) (hr : Room (k + 1) X.A) (hb : Binds X.K fd ps []) (hg : Gl X x) (hm : X.mg x = some (.ref C))
    (hdb : (x == ("__debug__" : Str)) = false := by decide) : PE X (.Call (.Name x p) [] [] pos) (fun _ H Q => MkV C sp [] H Q) := by
  refine ⟨fun pins s σ H Q I h => ?_⟩
  refine wpAny_Call_Name_kw (ld_glob I hg hm ?_ hdb)
  exact PySem.W.callWith_K0 I.kIn T.kC (mkV_core (us := []) T iC tI F1 hr hb I .nil (by decide) h)
/-- C(key=e) kept -/
theorem pe_mkVK {C fI : Addr} {k : Nat} {fd : FuncData} {ps : List Str} {sp : Sp} {x key : Str} {kws : List Keyword} {tk : TA} (T : OexA X.K C) (iC : PySem.W.findIn X.K (.ref C) "__init__" = some (some (.ref fI))) (tI : PySem.W.typeIn X.K (.ref fI) = some (.type "function")) (F1 : FnOk X.prog X.w X.K X.mg X.base CX0 k fI fd ps sp) (hr : Room (k + 1) X.A)
    (hb : ∀ (s : Shared) (a u : Value), X.K.In s.heap → BindsTo s fd ⟨[a], [(key, u)]⟩ (ps.zip [a, u])) (hg : Gl X x) (hm : X.mg x = some (.ref C)) (hkw : PK X kws tk) (hall : (backToKw pos (keywordEach kws X.env)).all (·.1.isSome) = true := by rfl) (hks : (backToKw pos (keywordEach kws X.env)).filterMap (·.1) = [key] := by rfl) (hdb : (x == ("__debug__" : Str)) = false := by decide)
    (hpl : ((backTo pos (starEach [] X.env)).any (·.1) || (backToKw pos (keywordEach kws X.env)).any (·.1.isNone)) = false := by rfl) : PE X (.Call (.Name x p) [] kws pos) (fun σ H Q => tk σ H fun vs H1 => ∃ v, vs = [v] ∧ MkV C sp [v] H1 Q) := by
  refine ⟨fun pins s σ H Q I h => ?_⟩
  refine wpAny_Call_Name_kw (ld_glob I hg hm ?_ hdb)
  refine PySem.W.callWith_KW0 (h₀ := X.base) I.ok.mod.kin T.kC hall ?_ hpl
  refine thn (hkw.run pos pins s σ H _ I h) fun ws s2 ⟨zs, H2, I2, rz, v, ez, q2⟩ => ⟨I2.kIn, ?_⟩
  subst ez
  rw [hks]
  cases rz with
  | @cons _ u _ _ r1 r2 =>
    cases r2
    refine wpAny_call (codeAny_mono (mkK_core (u := u) T iC tI F1 hr hb I2 r1 q2) fun r s' z => ?_)
    cases r with
    | error er => exact (show False from z).elim
    | ok fl =>
      cases fl with
      | ret u => exact z
      | next => exact False.elim z
      | brk => exact False.elim z
      | cont => exact False.elim z
/-- isinstance(e, c), e a kept error -/
def rIsX (K : PySem.W.Frag) : List V → Hp → VK → Prop := fun xs H Q => ∃ (a C : Addr) (d : Option Addr) (c : V) (cv : Value) (b : Bool), xs = [.ref a, c] ∧ H a = some (exo a C d) ∧ (∀ dd, d = some dd → ∃ fs, H dd = some (exd dd fs)) ∧ ExcC K C ∧ (∀ u, RelV c u → u = cv) ∧ PySem.W.kitOne K (.ref C) cv = some b ∧ Q (.bl b) H
theorem inst_of {pins : List (Addr × Obj)} {σ : L2.St} {H : Hp} {s : Shared} {a C : Addr} {d : Option Addr} (I : Inv X pins σ H s) (e : H a = some (exo a C d)) (hd : ∀ dd, d = some dd → ∃ fs, H dd = some (exd dd fs)) : ∃ (ox : Obj) (od : Option Obj), PySem.W.InstAt s.heap a ox C od := by
  obtain ⟨t1, ho⟩ := exo_at I.hok e
  cases d with
  | none => exact ⟨_, none, ho, rfl, rfl, True.intro⟩
  | some dd =>
    obtain ⟨fs, hf⟩ := hd dd rfl
    obtain ⟨mA, hns, _⟩ := exd_at I.hok hf
    obtain ⟨od, h1, _⟩ := lookIn_ns hns
    exact ⟨_, some od, ho, rfl, rfl, h1⟩
theorem call_isX : CallR X (.builtin "isinstance") (rIsX X.K) := by
  intro pins s σ H xs us Q I r h
  obtain ⟨a, C, d, c, cv, b, rfl, ha, hd, EC, hcv, e, q⟩ := h
  cases r with
  | cons rx rr =>
    cases rr with
    | cons rt rr =>
      cases rr
      cases rx
      obtain rfl := hcv _ rt
      obtain ⟨ox, od, J⟩ := inst_of I ha hd
      obtain ⟨cd, hc, _⟩ := PySem.W.any_some EC.hd
      exact PySem.W.kia_one (PySem.W.kitx_exc (by rw [hc]; rfl) EC.hg EC.hk EC.hs EC.ha EC.hn EC.ht EC.hm) I.kIn J e (fun z => nomatch z) fun tk => ⟨.bl b, H, I.kept (t' := tk) fun _ _ z => z, rfl, q⟩
/-- e.f, e a kept error -/
def tXv (K : PySem.W.Frag) (f : Str) (te : TE) : TE := fun σ H Q => te σ H fun x H1 => ∃ (a C dd : Addr) (fs : List (Str × V)) (v : V), x = .ref a ∧ H1 a = some (exo a C (some dd)) ∧ H1 dd = some (exd dd fs) ∧ ExcC K C ∧ PySem.W.findIn K (.ref C) f = some none ∧ fs.lookup f = some v ∧ Q v H1
theorem pe_xv {e : Expr} {te : TE} {n : Str} (he : PE X e te) (hb : attributeBase e n X.env (eval e X.env) = eval e X.env := by rfl) : PE X (.Attribute e n pos) (tXv X.K n te) := by
  refine ⟨fun pins s σ H Q I h => ?_⟩
  refine attr_of hb (thn (he.run pins s σ H _ I h) fun u s1 ⟨x, H1, I1, rx, a, C, dd, fs, v, ex, ha, hd, EC, hno, l, q⟩ => ?_)
  subst ex
  obtain rfl : u = Value.ref a := rx
  obtain ⟨t1, ho⟩ := exo_at I1.hok ha
  obtain ⟨mA, hns, hr⟩ := exd_at I1.hok hd
  obtain ⟨od, h1, hl⟩ := lookIn_ns hns
  obtain ⟨u, hu, ru⟩ := RelO.some_of (v := v) (o := mA n) (by rw [← l]; exact hr n)
  have J : PySem.W.InstAt s1.heap a _ C (some od) := ⟨ho, rfl, rfl, h1⟩
  exact HandSPX.exc_get I1.kIn J EC.hg EC.hk EC.hs (PySem.W.findObj_own EC.hd hno rfl (by rw [hl, hu])) (handed_of ru) ⟨v, H1, I1.tok _, ru, q⟩
end
/-- what the head says of isinstance(e, built-in) -/
def kitTB (K : PySem.W.Frag) (C : Addr) (t : String) : Bool := decide (PySem.W.kitOne K (.ref C) (.type t) = some true)
theorem kitTB_ok {K : PySem.W.Frag} {C : Addr} {t : String} (h : kitTB K C t = true) : PySem.W.kitOne K (.ref C) (.type t) = some true := of_decide_eq_true h
/-- b is True -/
def rIsB : R2 := fun x y H Q => ∃ b c : Bool, x = .bl b ∧ y = .bl c ∧ Q (.bl (b == c)) H
theorem op_isB {X : Cx} : OpR X (compareOp .Is) rIsB := by
  intro pins s σ H x y v u Q I rx ry h
  obtain ⟨b, c, rfl, rfl, q⟩ := h
  cases rx
  cases ry
  refine wpAny_is_plain rfl (fin_bl I q ?_)
  cases b <;> cases c <;> rfl
end NCKw
/-! NCNest: dicts whose keys are pairs of pairs of ints, all values True; sorted of lists of data. -/
namespace NCNest
open PySem PySem.Spec PyProof.Rows L2
/-- ((x, y), (u, v)) as a key -/
def kN (x y u v : Int) : NestedKey := .tup [.tup [.num x, .num y], .tup [.num u, .num v]]
/-- the key k stands at a -/
def KeyAt (H : Hp) (k : NestedKey) (a : Addr) : Prop := ∃ (p q : Addr) (x y u v : Int), k = kN x y u v ∧ H a = some (.tup [.ref p, .ref q]) ∧ H p = some (.tup [.int x, .int y]) ∧ H q = some (.tup [.int u, .int v])
theorem KeyAt.mono {H H' : Hp} {k : NestedKey} {a : Addr} (h : KeyAt H k a) (e : ∀ b xs, H b = some (.tup xs) → H' b = some (.tup xs)) : KeyAt H' k a := by
  obtain ⟨p, q, x, y, u, v, e1, h1, h2, h3⟩ := h
  exact ⟨p, q, x, y, u, v, e1, e _ _ h1, e _ _ h2, e _ _ h3⟩
section
variable {P : Program} {w : World} {H : Hp} {h : Heap} {a : Addr}
theorem pair_is {p : Addr} {x y : Int} (ok : HOk P w H h) (e : H p = some (.tup [.int x, .int y])) : NestedIs h (.tup [.num x, .num y]) (.ref p) := by
  obtain ⟨_, its, r, o, h1, h2, n, h3⟩ := (show ObjOk P w H h p (.tup [.int x, .int y]) from ok p _ e)
  obtain ⟨u1, u2, rfl, ⟨t1, rfl⟩, ⟨t2, rfl⟩⟩ := vals2 r
  exact .tup h1 h2 h3 (.cons (.int _ _) (.cons (.int _ _) .nil))
theorem key_is {k : NestedKey} (ok : HOk P w H h) (e : KeyAt H k a) : (nestedKind P w).is h k a := by
  obtain ⟨p, q, x, y, u, v, rfl, h1, h2, h3⟩ := e
  obtain ⟨_, its, r, o, g1, g2, n, g3⟩ := (show ObjOk P w H h a (.tup [.ref p, .ref q]) from ok a _ h1)
  obtain ⟨u1, u2, rfl, rfl, rfl⟩ := vals2 r
  exact ⟨.tup g1 g2 g3 (.cons (pair_is ok h2) (.cons (pair_is ok h3) .nil)), by simp [kN, NestedKey.depth, NestedKey.depthAll]⟩
end
/-- with their values -/
def trip (xs : List (NestedKey × Addr)) : List (NestedKey × Addr × Value) := xs.map fun x => (x.1, x.2, Value.bool true)
def hasK (xs : List (NestedKey × Addr)) (k : NestedKey) : Bool := xs.any fun x => decide (x.1 = k)
def putN (xs : List (NestedKey × Addr)) (k : NestedKey) (a : Addr) : List (NestedKey × Addr) := if hasK xs k then xs else xs ++ [(k, a)]
theorem at_trip (k : NestedKey) : ∀ xs : List (NestedKey × Addr), (atKey (trip xs) k).isSome = hasK xs k
  | [] => rfl
  | x :: xs => by
    have ih := at_trip k xs
    unfold atKey trip hasK at *
    rw [List.map_cons, List.find?_cons, List.any_cons]
    by_cases e : x.1 = k
    · simp [e]
    · simp only [e, decide_false, Bool.false_or]
      exact ih
theorem putAt_trip (k : NestedKey) : ∀ xs : List (NestedKey × Addr), (trip xs).map (putAt k (.bool true)) = trip xs
  | [] => rfl
  | x :: xs => by
    have ih := putAt_trip k xs
    unfold trip at *
    rw [List.map_cons, List.map_cons, ih]
    unfold putAt
    split <;> rfl
theorem stored_trip (xs : List (NestedKey × Addr)) (k : NestedKey) (a : Addr) : storedH (trip xs) k a (.bool true) = trip (putN xs k a) := by
  unfold storedH putN
  rw [at_trip]
  split
  · exact putAt_trip k xs
  · unfold trip
    rw [List.map_append]
    rfl
/-- the dict's own object -/
def TabN (P : Program) (w : World) (a : Addr) (xs : List (NestedKey × Addr)) (h : Heap) : Prop := (a == sysModules) = false ∧ xs.length ≤ sizeLine ∧ ∃ o es ep, h.get? a = some o ∧ o.ExactDict ∧ o.data = .dict es ep ∧ es.toList = (trip xs).map (entryOfKey (nestedKind P w)) ∧ ((trip xs).map (·.1)).Nodup
def DictN (P : Program) (w : World) (a : Addr) (xs : List (NestedKey × Addr)) : HO := .ext (TabN P w a xs)
/-- the dict at a has the keys xs, each with True -/
def DN (P : Program) (w : World) (H : Hp) (a : Addr) (xs : List (NestedKey × Addr)) : Prop := ((xs = [] ∧ H a = some (.dT [])) ∨ H a = some (DictN P w a xs)) ∧ ∀ x ∈ xs, KeyAt H x.1 x.2
theorem DN.new {P : Program} {w : World} {H : Hp} {a : Addr} (e : H a = some (.dT [])) : DN P w H a [] := ⟨.inl ⟨rfl, e⟩, fun _ h => nomatch h⟩
theorem DN.mono {P : Program} {w : World} {H H' : Hp} {a : Addr} {xs : List (NestedKey × Addr)} (d : DN P w H a xs) (e : H' a = H a) (ht : ∀ b ys, H b = some (.tup ys) → H' b = some (.tup ys)) : DN P w H' a xs := ⟨by rw [e]; exact d.1, fun x hx => (d.2 x hx).mono ht⟩
section
variable {P : Program} {w : World} {H : Hp} {h : Heap} {a : Addr} {xs : List (NestedKey × Addr)}
theorem dn_of (ok : HOk P w H h) (d : DN P w H a xs) : (a == sysModules) = false ∧ xs.length ≤ sizeLine ∧ h.DictOfH (nestedKind P w) a (trip xs) := by
  obtain ⟨d, hk⟩ := d
  rcases d with ⟨rfl, e⟩ | e
  · obtain ⟨_, hd, ys, r, o, es, ep, h1, h2, h3, h4, _⟩ := (show ObjOk P w H h a (.dT []) from ok a _ e)
    cases r
    exact ⟨hd, Nat.zero_le _, o, es, ep, h1, h2, h3, h4, (fun _ z => by cases z), List.nodup_nil⟩
  · obtain ⟨⟨hd, hz, o, es, ep, h1, h2, h3, h4, h5⟩, _⟩ := (show ObjOk P w H h a (DictN P w a xs) from ok a _ e)
    refine ⟨hd, hz, o, es, ep, h1, h2, h3, h4, fun x hx => ?_, h5⟩
    unfold trip at hx
    obtain ⟨y, hy, rfl⟩ := List.mem_map.mp hx
    exact key_is ok (hk y hy)
theorem dn_mut (d : DN P w H a xs) : Mut (H a) := by
  rcases d.1 with ⟨_, e⟩ | e
  · rw [e]; exact True.intro
  · rw [e]; exact True.intro
theorem dn_put {k : NestedKey} {b : Addr} (d : DN P w H a xs) (hb : KeyAt H k b) : DN P w (upd H a (DictN P w a (putN xs k b))) a (putN xs k b) := by
  have ht : ∀ c ys, H c = some (.tup ys) → (upd H a (DictN P w a (putN xs k b))) c = some (.tup ys) := fun c ys e => by
    rw [upd_ne (fun z => by
      subst z
      rcases d.1 with ⟨_, e2⟩ | e2
      · rw [e] at e2; cases e2
      · rw [e] at e2; cases e2)]
    exact e
  refine ⟨.inr upd_same, fun x hx => ?_⟩
  unfold putN at hx
  split at hx
  · exact (d.2 x hx).mono ht
  · rcases List.mem_append.mp hx with hx | hx
    · exact (d.2 x hx).mono ht
    · obtain rfl := List.mem_singleton.mp hx
      exact hb.mono ht
end
theorem putN_le (xs : List (NestedKey × Addr)) (k : NestedKey) (a : Addr) : (putN xs k a).length ≤ xs.length + 1 := by
  unfold putN
  split
  · omega
  · rw [List.length_append]; exact Nat.le_refl _
/-- y not in d, y in d -/
def tNNotIn (P : Program) (w : World) (ty td : TE) : TE := fun σ H Q => ty σ H fun y H1 => td σ H1 fun x H2 => ∃ a b k xs, x = .ref a ∧ y = .ref b ∧ KeyAt H2 k b ∧ DN P w H2 a xs ∧ Q (.bl (!hasK xs k)) H2
/-- d[y] = True -/
def sNPut (P : Program) (w : World) (td ty tv : TE) : TS := fun D σ H => tv σ H fun v H1 => td σ H1 fun x H2 => ty σ H2 fun y H3 => ∃ a b k xs, v = .bl true ∧ x = .ref a ∧ y = .ref b ∧ KeyAt H3 k b ∧ DN P w H3 a xs ∧ xs.length < sizeLine ∧
  D.nx σ (upd H3 a (DictN P w a (putN xs k b)))
section
variable {X : Cx} {o i e value : Expr} {pos pos' tpos : Pos} {td ty tv : TE}
theorem room8 {A : Around} (hu : A.units + 64 < cLine) {P : Program} {w : World} : (nestedKind P w).room A.in1 := by
  show A.units + 1 + 8 < cLine
  omega
theorem pc_nnotin (hu : X.A.units + 64 < cLine) (hi : PE X i ty) (ho : PE X o td) : PC X .NotIn i o (tNNotIn X.prog X.w ty td) := by
  refine ⟨fun pins s σ H Q I h => ?_⟩
  refine thn (hi.run pins s σ H _ I h) fun iv s1 ⟨y, H1, I1, ry, q1⟩ => thn (ho.run pins s1 σ H1 _ I1 q1) fun u s2 ⟨x, H2, I2, rx, a, b, k, xs, ex, ey, hk, d, q2⟩ => ?_
  subst ex ey
  obtain rfl : u = Value.ref a := rx
  obtain rfl : iv = Value.ref b := ry
  obtain ⟨hd, hz, dd⟩ := dn_of I2.hok d
  refine wpAny_notIn_heap (room8 hu) (key_is I2.hok hk) hd dd ?_
  rw [at_trip]
  exact ⟨.bl (!hasK xs k), H2, I2.tok _, rfl, q2⟩
theorem ps_nput (hu : X.A.units + 64 < cLine) (ho : PE X o td) (hi : PE X i ty) (hv : PE X value tv) (hs : swapsWith value (some (.Subscript o i pos')) pos.line X.env = pure false) :
    PS X (.Assign [.Subscript o i pos'] value pos) (sNPut X.prog X.w td ty tv) := by
  refine ⟨fun pins s σ H D I h => ?_⟩
  refine wpAny_Assign_Subscript (thn (hv.run pins s σ H _ I h) fun r s1 ⟨v, H1, I1, rv, q1⟩ => thn (ho.run pins s1 σ H1 _ I1 q1) fun u s2 ⟨x, H2, I2, rx, q2⟩ => thn (hi.run pins s2 σ H2 _ I2 q2) fun iv s3 ⟨y, H3, I3, ry, a, b, k, xs, ev, ex, ey, hk, d, hl, q3⟩ => ?_) hs
  subst ex ey ev
  obtain rfl : u = Value.ref a := rx
  obtain rfl : iv = Value.ref b := ry
  obtain rfl : r = Value.bool true := rv
  obtain ⟨hd, hz, dd⟩ := dn_of I3.hok d
  have hz2 : (trip xs).length ≤ sizeLine := by unfold trip; rw [List.length_map]; exact hz
  refine wpAny_setItem_heap (hsz := hz2) (room8 hu) (key_is I3.hok hk) dd fun h' dd' hsb => ?_
  rw [stored_trip] at dd'
  obtain ⟨q, es, ep, hq, h2, h3, h4, _, h5⟩ := dd'
  have hl2 : (putN xs k b).length ≤ sizeLine := by have := putN_le xs k b; omega
  have new : ObjOk X.prog X.w (upd H3 a (DictN X.prog X.w a (putN xs k b))) h' a (DictN X.prog X.w a (putN xs k b)) := ⟨⟨hd, hl2, q, es, ep, hq, h2, h3, h4, h5⟩, ⟨q, hq⟩, fun g1 g2 t st => by
    obtain ⟨a1, a2, o1, es1, ep1, b1, b2⟩ := t
    exact ⟨a1, a2, o1, es1, ep1, st _ b1, b2⟩⟩
  exact ⟨σ, _, d_write I3 (dn_mut d) hsb ⟨q, hq⟩ new, q3⟩
end
/-- sorted(xs), xs a list of alike data: a new list, the same things in some order -/
def rSortedD (K : PySem.W.Frag) : List V → Hp → VK → Prop := fun vs H Q => ∃ (a : Addr) (xs : List V) (ds : List PyData), vs = [V.ref a] ∧ SqL K H a xs ∧ (∀ x ∈ xs, ∃ t, x = V.ref t) ∧ DpAll K H xs ds ∧ W.AllAlike ds ∧ W.Sortable ds ∧ (∀ d ∈ ds, d.depth ≤ 20) ∧
  ∀ ys p, ys.Perm xs → H p = none → Q (.ref p) (upd H p (.lst ys))
theorem each_reads {h h' : Heap} (hk : ∀ b o, h.get? b = some o → h'.get? b = some o) : ∀ {us : List Value} {ds : List PyData} {as : List Addr}, ReadsAll h us ds as → W.EachIs (fun v d => ∃ as, Reads h' v d as) us ds
  | _, _, _, .nil => .nil
  | _, _, _, .cons r rs => .cons ⟨_, PyProof.Rows.Reads.keeps hk r⟩ (each_reads hk rs)
theorem sortVals_perm {κ : PyProof.Rows.KeyKind} (vs : List Value) : (W.sortVals κ false vs vs).Perm vs := by
  unfold W.sortVals
  refine ((List.mergeSort_perm _ _).map Prod.snd).trans ?_
  rw [List.map_snd_zip (Nat.le_refl _)]
section
variable {X : Cx}
theorem cr_sortedD (hu : X.A.units + 64 < cLine) : CallR X (.builtin "sorted") (rSortedD X.K) := by
  intro pins s σ H vs us Q I r h
  obtain ⟨a, xs, ds, rfl, hs, hx, dp, hal, hso, hdp, q⟩ := h
  obtain ⟨its, rv, hl, hz⟩ := I.list hs
  obtain ⟨u, rfl, ru⟩ := vals1 r
  obtain rfl : u = Value.ref a := ru
  obtain ⟨e1, e2⟩ := refs_back rv hx
  obtain ⟨as, rd⟩ := Dp.readsAll I ds xs its dp rv
  have hL : its.length ≤ sizeLine := by rw [← rv.length]; exact hz
  have S := W.SortsAt.data (prog := X.prog) (w := X.w) (A := X.A.in1.in1) (s := { s with heap := W.sortingHeap (W.copyHeap s.heap its) (s.heap.objs.size + 1) its }) (each_reads (fun b o e => W.sorting_copy_old e) rd) hal hso (fun d hd => by
    have := hdp d hd
    show X.A.units + 1 + 1 + d.depth < cLine
    omega)
  refine W.sorted_vals hl.isList S hL ?_
  have hp := sortVals_perm (κ := W.dataKind (W.sortingHeap (W.copyHeap s.heap its) (s.heap.objs.size + 1) its) ds) its
  generalize W.sortVals _ false its its = out at hp ⊢
  obtain ⟨n, hn⟩ := sortedAll_at s.heap its out.toArray
  have h3 : ∀ u ∈ out, ∃ a, u = Value.ref a := fun u hu => e2 u (hp.mem_iff.mp hu)
  refine ⟨.ref (s.heap.objs.size + 1), upd H (s.heap.objs.size + 1) (.lst (out.map backV)), I.laid (t' := s.toks) (fun b o e => sortedAll_old e) (Nat.le_succ _) ⟨?_, out, n, vals_back h3, hn⟩, rfl, q _ _ ?_ (I.hok.fresh (Nat.le_succ _))⟩
  · rw [List.length_map, hp.length_eq]
    exact hL
  · rw [e1]
    exact hp.map backV
end
/-- the data of a key -/
theorem key_reads {P : Program} {w : World} {H : Hp} {h : Heap} {k : NestedKey} {a : Addr} (ok : HOk P w H h) (e : KeyAt H k a) : ∃ x y u v as, Reads h (.ref a) (.tuple [.tuple [.int x, .int y], .tuple [.int u, .int v]]) as := by
  obtain ⟨p, q, x, y, u, v, rfl, h1, h2, h3⟩ := e
  obtain ⟨_, its, r, o, g1, g2, n, g3⟩ := (show ObjOk P w H h a (.tup [.ref p, .ref q]) from ok a _ h1)
  obtain ⟨u1, u2, rfl, rfl, rfl⟩ := vals2 r
  obtain ⟨_, its2, r2, o2, p1, p2, n2, p3⟩ := (show ObjOk P w H h p (.tup [.int x, .int y]) from ok p _ h2)
  obtain ⟨v1, v2, rfl, ⟨t1, rfl⟩, ⟨t2, rfl⟩⟩ := vals2 r2
  obtain ⟨_, its3, r3, o3, q1, q2, n3, q3⟩ := (show ObjOk P w H h q (.tup [.int u, .int v]) from ok q _ h3)
  obtain ⟨w1, w2, rfl, ⟨t3, rfl⟩, ⟨t4, rfl⟩⟩ := vals2 r3
  exact ⟨x, y, u, v, _, .tuple g1 g2 g3 (.cons (.tuple p1 p2 p3 (.cons (.int _ _) (.cons (.int _ _) .nil))) (.cons (.tuple q1 q2 q3 (.cons (.int _ _) (.cons (.int _ _) .nil))) .nil))⟩
def KD (d : PyData) : Prop := ∃ x y u v, d = .tuple [.tuple [.int x, .int y], .tuple [.int u, .int v]]
theorem keys_reads {P : Program} {w : World} {H : Hp} {h h' : Heap} (ok : HOk P w H h) (hk : ∀ b o, h.get? b = some o → h'.get? b = some o) : ∀ xs : List (NestedKey × Addr), (∀ x ∈ xs, KeyAt H x.1 x.2) → ∃ ds, W.EachIs (fun v d => ∃ as, Reads h' v d as) (xs.map fun x => Value.ref x.2) ds ∧ ∀ d ∈ ds, KD d
  | [], _ => ⟨[], .nil, fun _ z => nomatch z⟩
  | x :: xs, hx => by
    obtain ⟨a, b, c, d, as, r⟩ := key_reads ok (hx x (List.mem_cons_self ..))
    obtain ⟨ds, e1, e2⟩ := keys_reads ok hk xs fun y hy => hx y (List.mem_cons_of_mem _ hy)
    refine ⟨_ :: ds, .cons ⟨as, PyProof.Rows.Reads.keeps hk r⟩ e1, fun z hz => ?_⟩
    rcases List.mem_cons.mp hz with rfl | hz
    · exact ⟨a, b, c, d, rfl⟩
    · exact e2 z hz
theorem items_keys {es : Array DictEntry} {xs : List (NestedKey × Addr)} {acc : Array Value} (hs : es.size = (trip xs).length) (hk : ∀ i (hi : i < es.size), ∃ y, (trip xs)[i]? = some y ∧ es[i].key = Value.ref y.2.1) (h : ItemsOf (fun i v => ∃ hi : i < es.size, v = es[i].key) acc es.size) : acc.toList = xs.map fun x => Value.ref x.2 := by
  refine List.ext_getElem? fun i => ?_
  rw [Array.getElem?_toList]
  by_cases hi : i < es.size
  · have hi2 : i < acc.size := by rw [h.1]; exact hi
    obtain ⟨hi3, e⟩ := h.2 i _ (Array.getElem?_eq_getElem hi2)
    obtain ⟨y, hy, hk⟩ := hk i hi
    unfold trip at hy
    rw [List.getElem?_map] at hy
    obtain ⟨z, hz, rfl⟩ := Option.map_eq_some_iff.mp hy
    rw [Array.getElem?_eq_getElem hi2, e, hk, List.getElem?_map, hz]
    rfl
  · have h1 : acc[i]? = none := by rw [Array.getElem?_eq_none]; rw [h.1]; omega
    have h2 : xs.length ≤ i := by
      unfold trip at hs
      rw [List.length_map] at hs
      omega
    rw [h1, List.getElem?_map, List.getElem?_eq_none h2]
    rfl
/-- sorted(d): the keys in some order -/
def rSortedN (P : Program) (w : World) : List V → Hp → VK → Prop := fun vs H Q => ∃ (a : Addr) (xs : List (NestedKey × Addr)), vs = [V.ref a] ∧ DN P w H a xs ∧ ∀ ys p, ys.Perm (xs.map fun x => V.ref x.2) → H p = none → Q (.ref p) (upd H p (.lst ys))
theorem back_keys (xs : List (NestedKey × Addr)) : (xs.map fun x => Value.ref x.2).map backV = xs.map fun x => V.ref x.2 := by
  rw [List.map_map]
  rfl
section
variable {X : Cx}
theorem cr_sortedN (hc : X.calm = true) (hu : X.A.units + 64 < cLine) : CallR X (.builtin "sorted") (rSortedN X.prog X.w) := by
  intro pins s σ H vs us Q I r h
  obtain ⟨a, xs, rfl, d, q⟩ := h
  obtain ⟨u, rfl, ru⟩ := vals1 r
  obtain rfl : u = Value.ref a := ru
  obtain ⟨hd, hz, dd⟩ := dn_of I.hok d
  obtain ⟨es, ep, hraw, hsz, hent⟩ := dd.raw
  have hn : es.size ≤ sizeLine := by rw [hsz]; unfold trip; rw [List.length_map]; exact hz
  refine Calls.call_function_entry PyProof.Rows.kind_sorted PyProof.Rows.plain_sorted PyProof.Rows.entry_sorted (PyProof.Rows.args_sorted1 _) ?_
  unfold Builtin.«sorted»
  refine wpAny_bind (m := checkCount "sorted" 1 1 _) (wpAny_pure ?_)
  refine wpAny_bind (PySem.W.kdu_collect (A := X.A.in1) (KdlSrc.rawDict (es := es) (ep := ep) hd) (I.ok.hd hc) hraw hn fun h' tk acc hk hacc => ?_)
  have hacc2 := items_keys hsz (fun i hi => by
    obtain ⟨y, h1, h2, _⟩ := hent i hi
    exact ⟨y, h1, h2⟩) hacc
  have I1 : Inv X pins σ H { s with heap := h', toks := tk } := I.kept hk
  rw [hacc2]
  have hL : (xs.map fun x => Value.ref x.2).length ≤ sizeLine := by rw [List.length_map]; exact hz
  refine wpAny_bind (wpAny_newList ?_ hL)
  generalize hvs : (xs.map fun x => Value.ref x.2) = its at hL ⊢
  have hoL : (h'.push (seqObj "list" its.toArray 0)).get? h'.objs.size = some (seqObj "list" its.toArray 0) := Heap.get?_push_size _ rfl
  show wpAny _ _ _ _ _ { s with heap := h'.push (seqObj "list" its.toArray 0), toks := tk }
  obtain ⟨ds, er, hds⟩ := keys_reads (h' := W.sortingHeap (h'.push (seqObj "list" its.toArray 0)) h'.objs.size its) I1.hok (fun b o e => W.sortingHeap_old (Nat.ne_of_lt (Heap.lt_size e)) (Heap.get?_push_of_some _ e)) xs d.2
  rw [hvs] at er
  have S := W.SortsAt.data (prog := X.prog) (w := X.w) (A := X.A.in1.in1) (s := { s with heap := W.sortingHeap (h'.push (seqObj "list" its.toArray 0)) h'.objs.size its, toks := tk }) er (fun x hx y hy => by
    obtain ⟨a1, a2, a3, a4, rfl⟩ := hds x hx
    obtain ⟨b1, b2, b3, b4, rfl⟩ := hds y hy
    rfl) (.inl fun x hx => by
    obtain ⟨a1, a2, a3, a4, rfl⟩ := hds x hx
    exact ⟨_, _, rfl⟩) (fun x hx => by
    obtain ⟨a1, a2, a3, a4, rfl⟩ := hds x hx
    show X.A.units + 1 + 1 + PyData.depth (.tuple [.tuple [.int a1, .int a2], .tuple [.int a3, .int a4]]) < cLine
    have e : PyData.depth (.tuple [.tuple [.int a1, .int a2], .tuple [.int a3, .int a4]]) ≤ 20 := by simp [PyData.depth, PyData.depthAll]
    omega)
  refine wpAny_bind (wpAny_holding (wpAny_call_entry PyProof.Rows.slot_list_sort ⟨_, hoL, rfl⟩ PyProof.Rows.entry_list_sort
    (W.list_sort_vals (s := { s with heap := h'.push (seqObj "list" its.toArray 0), toks := tk }) hoL S hL ⟨_, rfl, ?_⟩) (PyProof.Rows.args_list_sort _)))
  have hp := sortVals_perm (κ := W.dataKind (W.sortingHeap (h'.push (seqObj "list" its.toArray 0)) h'.objs.size its) ds) its
  generalize W.sortVals _ false its its = out at hp ⊢
  obtain ⟨e', he'⟩ := PyProof.Rows.sortedHeap_at (vs := its) (out := out.toArray) hoL
  have h3 : ∀ u ∈ out, ∃ a, u = Value.ref a := fun u hu => by
    have := hp.mem_iff.mp hu
    rw [← hvs] at this
    obtain ⟨z, _, rfl⟩ := List.mem_map.mp this
    exact ⟨_, rfl⟩
  refine wpAny_pure ⟨_, rfl, .ref h'.objs.size, upd H h'.objs.size (.lst (out.map backV)), I1.laid (t' := tk) (fun b u e => ?_) (Nat.le_refl _)
    (show ObjOk X.prog X.w _ _ _ (.lst (out.map backV)) from ⟨by rw [List.length_map, hp.length_eq]; exact hL, out, e', vals_back h3, he'⟩), rfl, q _ _ ?_ (I1.hok.fresh (Nat.le_refl _))⟩
  · have hb : b < h'.objs.size := Heap.lt_size e
    rw [PyProof.Rows.sortedHeap_old (Nat.ne_of_lt hb) (by rw [size_push']; exact Nat.lt_succ_of_lt hb)]
    exact Heap.get?_push_of_some _ e
  · rw [← back_keys, hvs]
    exact hp.map backV
end
section
variable {prog : Program} {w : World} {A : Around} {E : Value → Shared → Prop} {s : Shared}
theorem min_two_data {a b : Value} {da db : PyData} {as bs : List Addr} {Q : Value → Shared → Prop} (hh : A.handled = none) (ra : Reads s.heap a da as) (rb : Reads s.heap b db bs) (ha : W.AlikeAll [da, db]) (hu : A.units + 1 + PyData.depthAll [da, db] < cLine)
    (h : ∀ v h' tk, (v = a ∨ v = b) → (∀ c o, s.heap.get? c = some o → h'.get? c = some o) → Q v { s with heap := h', toks := tk }) : wpAny (model prog w) A (call (.builtin "min") [a, b]) Q E s := by
  have hname : (toString "min" ++ toString ".loop" : String) = "min.loop" := by decide
  refine call_function_tree PySem.F.kind_min PySem.F.plain_min PySem.F.entry_min (PySem.F.args_min2 _ _) ?_
  show wpAny _ A.in1 (Builtin.Builtins.bindParams "min" ["key", "default"] 0 ⟨[], []⟩ >>= _) _ _ s
  refine wpAny_bind (wpAny_of_eq (show Builtin.Builtins.bindParams "min" ["key", "default"] 0 ⟨[], []⟩ = pure [none, none] from rfl) ?_)
  show wpAny _ A.in1 (newTuple [a, b] >>= _) _ _ s
  refine wpAny_bind (wpAny_newObj_type ?_)
  have hT : (s.heap.push { cls := .type "tuple", data := .seq #[a, b] }).IsTuple s.heap.objs.size #[a, b] := ⟨_, Heap.get?_push_size _ rfl, rfl, 0, rfl⟩
  have hk0 : ∀ c o, s.heap.get? c = some o → (s.heap.push { cls := .type "tuple", data := .seq #[a, b] }).get? c = some o := fun c o e => Heap.get?_push_of_some _ e
  have hr : ReadsAll (s.heap.push { cls := .type "tuple", data := .seq #[a, b] }) (#[a, b] : Array Value).toList [da, db] (as ++ (bs ++ [])) := .cons (PyProof.Rows.Reads.keeps hk0 ra) (.cons (PyProof.Rows.Reads.keeps hk0 rb) .nil)
  refine wpAny_bind (PySem.W.iter_tupleW (A := A.in1) (s := { s with heap := s.heap.push { cls := .type "tuple", data := .seq #[a, b] } }) hh hT fun s₂ e WW st hfp hw hk => ?_)
  refine wpAny_bind (wpAny_newObj_type ?_)
  have hSf := fun hm => Nat.lt_irrefl _ (hfp s₂.heap.objs.size hm)
  rw [hname]
  refine wpAny_pure ⟨plainId_quiet PySem.F.plain_min_loop _, codeAny_min_loop_firstH WW _ hw _ (PySem.W.cmpIn_lt (A := A.in1) (s := { s with heap := s.heap.push { cls := .type "tuple", data := .seq #[a, b] } }) hr ha (by show A.units + 1 + _ < _; exact hu)) s₂.heap.objs.size hSf (fresh_in hk) _ (by show 0 < 2; decide) (fun c o e => Heap.get?_push_of_some _ (hk c o e)) (WW.frame 0 s₂ _ s₂.toks st (Nat.le_refl _) fun b _ o e => Heap.get?_push_of_some _ e) (Heap.get?_push_size _ rfl) fun v s' hP hm => ?_⟩
  obtain ⟨h', tk, rfl, hk'⟩ := PySem.W.moved_old e rfl (Moved.drop_new (tk := s₂.toks) hm (Nat.le_refl _))
  refine h v h' tk ?_ fun c o e => hk' c o (hk0 c o e)
  generalize argBest _ _ = i at hP
  match i, hP with
  | 0, hP => exact .inl (Option.some.inj hP).symm
  | 1, hP => exact .inr (Option.some.inj hP).symm
  | i + 2, hP => simp at hP
theorem max_two_data {a b : Value} {da db : PyData} {as bs : List Addr} {Q : Value → Shared → Prop} (hh : A.handled = none) (ra : Reads s.heap a da as) (rb : Reads s.heap b db bs) (ha : W.AlikeAll [da, db]) (hu : A.units + 1 + PyData.depthAll [da, db] < cLine)
    (h : ∀ v h' tk, (v = a ∨ v = b) → (∀ c o, s.heap.get? c = some o → h'.get? c = some o) → Q v { s with heap := h', toks := tk }) : wpAny (model prog w) A (call (.builtin "max") [a, b]) Q E s := by
  have hname : (toString "max" ++ toString ".loop" : String) = "max.loop" := by decide
  refine call_function_tree PySem.F.kind_max PySem.F.plain_max PySem.F.entry_max (PySem.F.args_max2 _ _) ?_
  show wpAny _ A.in1 (Builtin.Builtins.bindParams "max" ["key", "default"] 0 ⟨[], []⟩ >>= _) _ _ s
  refine wpAny_bind (wpAny_of_eq (show Builtin.Builtins.bindParams "max" ["key", "default"] 0 ⟨[], []⟩ = pure [none, none] from rfl) ?_)
  show wpAny _ A.in1 (newTuple [a, b] >>= _) _ _ s
  refine wpAny_bind (wpAny_newObj_type ?_)
  have hT : (s.heap.push { cls := .type "tuple", data := .seq #[a, b] }).IsTuple s.heap.objs.size #[a, b] := ⟨_, Heap.get?_push_size _ rfl, rfl, 0, rfl⟩
  have hk0 : ∀ c o, s.heap.get? c = some o → (s.heap.push { cls := .type "tuple", data := .seq #[a, b] }).get? c = some o := fun c o e => Heap.get?_push_of_some _ e
  have hr : ReadsAll (s.heap.push { cls := .type "tuple", data := .seq #[a, b] }) (#[a, b] : Array Value).toList [da, db] (as ++ (bs ++ [])) := .cons (PyProof.Rows.Reads.keeps hk0 ra) (.cons (PyProof.Rows.Reads.keeps hk0 rb) .nil)
  refine wpAny_bind (PySem.W.iter_tupleW (A := A.in1) (s := { s with heap := s.heap.push { cls := .type "tuple", data := .seq #[a, b] } }) hh hT fun s₂ e WW st hfp hw hk => ?_)
  refine wpAny_bind (wpAny_newObj_type ?_)
  have hSf := fun hm => Nat.lt_irrefl _ (hfp s₂.heap.objs.size hm)
  rw [hname]
  refine wpAny_pure ⟨plainId_quiet PySem.F.plain_max_loop _, codeAny_max_loop_firstH WW _ hw _ (PySem.W.cmpIn_gt (A := A.in1) (s := { s with heap := s.heap.push { cls := .type "tuple", data := .seq #[a, b] } }) hr ha (by show A.units + 1 + _ < _; exact hu)) s₂.heap.objs.size hSf (fresh_in hk) _ (by show 0 < 2; decide) (fun c o e => Heap.get?_push_of_some _ (hk c o e)) (WW.frame 0 s₂ _ s₂.toks st (Nat.le_refl _) fun b _ o e => Heap.get?_push_of_some _ e) (Heap.get?_push_size _ rfl) fun v s' hP hm => ?_⟩
  obtain ⟨h', tk, rfl, hk'⟩ := PySem.W.moved_old e rfl (Moved.drop_new (tk := s₂.toks) hm (Nat.le_refl _))
  refine h v h' tk ?_ fun c o e => hk' c o (hk0 c o e)
  generalize argBest _ _ = i at hP
  match i, hP with
  | 0, hP => exact .inl (Option.some.inj hP).symm
  | 1, hP => exact .inr (Option.some.inj hP).symm
  | i + 2, hP => simp at hP
end
theorem pair_reads {P : Program} {w : World} {H : Hp} {h : Heap} {p : Addr} {x y : Int} (ok : HOk P w H h) (e : H p = some (.tup [.int x, .int y])) : ∃ as, Reads h (.ref p) (.tuple [.int x, .int y]) as := by
  obtain ⟨_, its, r, o, h1, h2, n, h3⟩ := (show ObjOk P w H h p (.tup [.int x, .int y]) from ok p _ e)
  obtain ⟨u1, u2, rfl, ⟨t1, rfl⟩, ⟨t2, rfl⟩⟩ := vals2 r
  exact ⟨_, .tuple h1 h2 h3 (.cons (.int _ _) (.cons (.int _ _) .nil))⟩
/-- min, max of two pairs of ints: one of them -/
def rPick2P : List V → Hp → VK → Prop := fun xs H Q => ∃ (p q : Addr) (x y u v : Int), xs = [.ref p, .ref q] ∧ H p = some (.tup [.int x, .int y]) ∧ H q = some (.tup [.int u, .int v]) ∧ Q (.ref p) H ∧ Q (.ref q) H
section
variable {X : Cx}
theorem call_min2P (hc : X.calm = true) (hu : X.A.units + 64 < cLine) : CallR X (.builtin "min") rPick2P := by
  intro pins s σ H xs us Q I r h
  obtain ⟨p, q, x, y, u, v, rfl, h1, h2, q1, q2⟩ := h
  obtain ⟨u1, u2, rfl, r1, r2⟩ := vals2 r
  obtain rfl : u1 = Value.ref p := r1
  obtain rfl : u2 = Value.ref q := r2
  obtain ⟨a1, ra⟩ := pair_reads I.hok h1
  obtain ⟨a2, rb⟩ := pair_reads I.hok h2
  refine min_two_data (I.ok.hd hc) ra rb ⟨fun d hd d' hd' => ?_, fun d hd => ?_⟩ (by
    have e : PyData.depthAll [.tuple [.int x, .int y], .tuple [.int u, .int v]] ≤ 20 := by simp [PyData.depth, PyData.depthAll]
    omega) fun w' h' tk hw hk => ?_
  · simp only [List.mem_cons, List.not_mem_nil, or_false] at hd hd'
    rcases hd with rfl | rfl <;> rcases hd' with rfl | rfl <;> rfl
  · simp only [List.mem_cons, List.not_mem_nil, or_false] at hd
    rcases hd with rfl | rfl <;> exact fun z => nomatch z
  · rcases hw with rfl | rfl
    · exact ⟨.ref p, H, I.kept hk, rfl, q1⟩
    · exact ⟨.ref q, H, I.kept hk, rfl, q2⟩
theorem call_max2P (hc : X.calm = true) (hu : X.A.units + 64 < cLine) : CallR X (.builtin "max") rPick2P := by
  intro pins s σ H xs us Q I r h
  obtain ⟨p, q, x, y, u, v, rfl, h1, h2, q1, q2⟩ := h
  obtain ⟨u1, u2, rfl, r1, r2⟩ := vals2 r
  obtain rfl : u1 = Value.ref p := r1
  obtain rfl : u2 = Value.ref q := r2
  obtain ⟨a1, ra⟩ := pair_reads I.hok h1
  obtain ⟨a2, rb⟩ := pair_reads I.hok h2
  refine max_two_data (I.ok.hd hc) ra rb ⟨fun d hd d' hd' => ?_, fun d hd => ?_⟩ (by
    have e : PyData.depthAll [.tuple [.int x, .int y], .tuple [.int u, .int v]] ≤ 20 := by simp [PyData.depth, PyData.depthAll]
    omega) fun w' h' tk hw hk => ?_
  · simp only [List.mem_cons, List.not_mem_nil, or_false] at hd hd'
    rcases hd with rfl | rfl <;> rcases hd' with rfl | rfl <;> rfl
  · simp only [List.mem_cons, List.not_mem_nil, or_false] at hd
    rcases hd with rfl | rfl <;> exact fun z => nomatch z
  · rcases hw with rfl | rfl
    · exact ⟨.ref p, H, I.kept hk, rfl, q1⟩
    · exact ⟨.ref q, H, I.kept hk, rfl, q2⟩
/-- what is never reached -/
theorem pe_never {e : Expr} : PE X e (fun _ _ _ => False) := ⟨fun _ _ _ _ _ _ h => h.elim⟩
theorem ps_never {st : Stmt} : PS X st (fun _ _ _ => False) := ⟨fun _ _ _ _ _ _ h => h.elim⟩
end
/-- xs[::-1] -/
def rvP (K : PySem.W.Frag) (Q : VK) (x : V) (H1 : Hp) : Prop := ∃ a xs, x = .ref a ∧ SqL K H1 a xs ∧ ∀ p, H1 p = none → Q (.ref p) (upd H1 p (.lst xs.reverse))
def tRv (K : PySem.W.Frag) (te : TE) : TE := fun σ H Q => te σ H (rvP K Q)
theorem pe_rv {X : Cx} {e : Expr} {te : TE} {k : Nat} {p1 p2 p3 pos : Pos} (he : PE X e te) : PE X (.Subscript e (.Slice none none (some (.UnaryOp .USub (.Constant (.int 1) k p1) p2)) p3) pos) (tRv X.K te) := pe_revL he
theorem g_rv {K : PySem.W.Frag} {te : TE} {σ : L2.St} {H : Hp} {Q : VK} (h : te σ H (rvP K Q)) : tRv K te σ H Q := h
theorem g_nni {P : Program} {w : World} {ty td : TE} {σ : L2.St} {H : Hp} {Q : VK} (h : ty σ H fun y H1 => td σ H1 fun x H2 => ∃ a b k xs, x = .ref a ∧ y = .ref b ∧ KeyAt H2 k b ∧ DN P w H2 a xs ∧ Q (.bl (!hasK xs k)) H2) : tNNotIn P w ty td σ H Q := h
theorem g_npt {P : Program} {w : World} {td ty tv : TE} {D : Ends} {σ : L2.St} {H : Hp} (h : tv σ H fun v H1 => td σ H1 fun x H2 => ty σ H2 fun y H3 => ∃ a b k xs, v = .bl true ∧ x = .ref a ∧ y = .ref b ∧ KeyAt H3 k b ∧ DN P w H3 a xs ∧ xs.length < sizeLine ∧ D.nx σ (upd H3 a (DictN P w a (putN xs k b)))) : sNPut P w td ty tv D σ H := h
end NCNest
/-! NCData: a data layer over the readings: what a reading does, told by a plain function on data. -/
namespace DL
open PySem PySem.Spec PyProof.Rows L2
abbrev D := PyData
/-- an own instance (class by number, its fields in order), a def as a value, the script, some dict -/
abbrev dIns (c : Int) (ds : List D) : D := .dict [(.int c, .tuple ds)]
abbrev dFn (k : Int) : D := .dict [(.none, .int k)]
abbrev dScr (ds : List D) : D := .dict [(.none, .list ds)]
abbrev dDct : D := .dict [(.none, .none)]
/-- a dict with tuples as keys, its entries in their order -/
abbrev dTab (kvs : List (D × D)) : D := .dict [(.none, .tuple (kvs.map fun p => .tuple [p.1, p.2]))]
def clsN : Int → Str
  | 0 => "Subdivision"
  | 1 => "Desk"
  | _ => "Joined"
def clsF : Int → List Str
  | 0 => ["kept", "border", "is_row", "polygons", "joined"]
  | 1 => ["present", "past", "later", "shown", "last_change"]
  | _ => ["heads"]
def excN : Int → Str
  | 0 => "InvalidSites"
  | 1 => "InvalidBound"
  | 2 => "InvalidTriangles"
  | 3 => "LimitExceeded"
  | 4 => "InvalidCall"
  | _ => "NoCircle"
def excF : Int → Str
  | 0 => "at"
  | 1 => "argument"
  | 2 => "at"
  | 3 => "limit"
  | _ => "call"
/-- the written part, the names of the defs that are values -/
structure Kt where
  K : PySem.W.Frag
  isF : Int → Hp → Addr → Prop
  P : Program
  w : World
  tbs : List (Addr × Str)
/-- what is asked of an own class when isinstance looks at its instances -/
structure InsK (K : PySem.W.Frag) (C : Addr) : Prop where
  cl : Cls K C
  ha : PySem.W.findIn K (.ref C) "__class__" = some (some (.builtin "object.__class__"))
  hn : PySem.W.specialIn K (.builtin "object.__class__") "__get__" = some (some (.builtin "getset_descriptor.__get__"))
  ht : PySem.W.takesIn K (.builtin "object.__class__") = some true
  hm : PySem.W.mroIn K C (.type "object") = some true
  k1 : PySem.W.kitOne K (.ref C) (.type "int") = some false
  k2 : PySem.W.kitOne K (.ref C) (.type "bool") = some false
  k3 : PySem.W.kitOne K (.ref C) (.type "tuple") = some false
  k4 : PySem.W.kitOne K (.ref C) (.type "list") = some false
  k5 : PySem.W.kitOne K (.ref C) (.type "str") = some false
  k6 : PySem.W.kitOne K (.ref C) (.type "dict") = some false
def insKB (K : PySem.W.Frag) (C : Addr) : Bool := decide (PySem.W.findIn K (.ref C) "__class__" = some (some (.builtin "object.__class__"))) && (decide (PySem.W.specialIn K (.builtin "object.__class__") "__get__" = some (some (.builtin "getset_descriptor.__get__"))) && (decide (PySem.W.takesIn K (.builtin "object.__class__") = some true) &&
  (decide (PySem.W.mroIn K C (.type "object") = some true) && (decide (PySem.W.kitOne K (.ref C) (.type "int") = some false) && (decide (PySem.W.kitOne K (.ref C) (.type "bool") = some false) && (decide (PySem.W.kitOne K (.ref C) (.type "tuple") = some false) && (decide (PySem.W.kitOne K (.ref C) (.type "list") = some false) &&
  (decide (PySem.W.kitOne K (.ref C) (.type "str") = some false) && decide (PySem.W.kitOne K (.ref C) (.type "dict") = some false)))))))))
theorem insKB_ok {K : PySem.W.Frag} {C : Addr} (cl : Cls K C) (h : insKB K C = true) : InsK K C := by
  obtain ⟨h1, h⟩ := Bool.and_eq_true_iff.mp h
  obtain ⟨h2, h⟩ := Bool.and_eq_true_iff.mp h
  obtain ⟨h3, h⟩ := Bool.and_eq_true_iff.mp h
  obtain ⟨h4, h⟩ := Bool.and_eq_true_iff.mp h
  obtain ⟨h5, h⟩ := Bool.and_eq_true_iff.mp h
  obtain ⟨h6, h⟩ := Bool.and_eq_true_iff.mp h
  obtain ⟨h7, h⟩ := Bool.and_eq_true_iff.mp h
  obtain ⟨h8, h⟩ := Bool.and_eq_true_iff.mp h
  obtain ⟨h9, h10⟩ := Bool.and_eq_true_iff.mp h
  exact ⟨cl, of_decide_eq_true h1, of_decide_eq_true h2, of_decide_eq_true h3, of_decide_eq_true h4, of_decide_eq_true h5, of_decide_eq_true h6, of_decide_eq_true h7, of_decide_eq_true h8, of_decide_eq_true h9, of_decide_eq_true h10⟩
theorem sql_mono {K : PySem.W.Frag} {G G' : Hp} (k : Same G G') {a : Addr} {vs : List V} (h : SqL K G a vs) : SqL K G' a vs := by
  rcases h with (h | ⟨o, h⟩) | h
  · exact .inl (.inl (k _ _ h))
  · exact .inl (.inr ⟨o, k _ _ h⟩)
  · exact .inr h
/-! ### dicts of one's own, their keys tuples -/
mutual
def nk : D → Option NestedKey
  | .none => some .none
  | .bool b => some (.num (if b then 1 else 0))
  | .int i => some (.num i)
  | .str x => some (.text x)
  | .tuple ds => match nkL ds with
    | some ks => some (.tup ks)
    | none => none
  | .list _ => none
  | .dict _ => none
def nkL : List D → Option (List NestedKey)
  | [] => some []
  | d :: ds => match nk d, nkL ds with
    | some k, some ks => some (k :: ks)
    | _, _ => none
end
/-- a key that a dict may have -/
def keyD : D → Option NestedKey
  | .tuple ds => match nkL ds with
    | some ks => if NestedKey.depth (.tup ks) ≤ 8 then some (.tup ks) else none
    | none => none
  | _ => none
abbrev XEnt := NestedKey × Addr × V
def TabX (P : Program) (w : World) (a : Addr) (o : Obj) (xs : List XEnt) (h : Heap) : Prop := h.get? a = some o ∧ (a == sysModules) = false ∧ xs.length ≤ sizeLine ∧ ∃ vs : List Value, Vals (xs.map (·.2.2)) vs ∧
  ∃ es ep, o.ExactDict ∧ o.data = .dict es ep ∧ es.toList = ((xs.zip vs).map fun z => (z.1.1, z.1.2.1, z.2)).map (entryOfKey (nestedKind P w)) ∧ (xs.map (·.1)).Nodup
/-- a dict, its object told -/
def DictX (P : Program) (w : World) (a : Addr) (o : Obj) (xs : List XEnt) : HO := .ext (TabX P w a o xs)
/-- what stands at the address of a dict with the entries xs -/
def IsX (T : Kt) (a : Addr) (xs : List XEnt) (o : Option HO) : Prop := ∃ ob, o = some (DictX T.P T.w a ob xs)
mutual
/-- the value v has the data d, all of it within G -/
inductive Rp (T : Kt) (G : Hp) : V → D → Prop
  | non : Rp T G .non .none
  | bl (b : Bool) : Rp T G (.bl b) (.bool b)
  | int (i : Int) : Rp T G (.int i) (.int i)
  | str (x : Str) : Rp T G (.str x) (.str x)
  | lst {a : Addr} {vs : List V} {ds : List D} : G a = some (.lst vs) → RpL T G vs ds → Rp T G (.ref a) (.list ds)
  | tup {a : Addr} {vs : List V} {ds : List D} : G a = some (.tup vs) → RpL T G vs ds → Rp T G (.ref a) (.tuple ds)
  | ins {a dx : Addr} {c : Int} {fs : List (Str × V)} {ds : List D} : InsK T.K (He.ga T.K (clsN c)) → G a = some (.ins (He.ga T.K (clsN c)) dx fs) → fs.map (·.1) = clsF c → RpL T G (fs.map (·.2)) ds → Rp T G (.ref a) (dIns c ds)
  | fn {a : Addr} (k : Int) : (∀ G', Same G G' → T.isF k G' a) → Rp T G (.ref a) (dFn k)
  | scr {a : Addr} {vs : List V} {ds : List D} : SqL T.K G a vs → RpL T G vs ds → Rp T G (.ref a) (dScr ds)
  | dct {a : Addr} {kvs : List (List Key × V)} : G a = some (.dT kvs) → Rp T G (.ref a) dDct
  | tab {a : Addr} {xs : List XEnt} {kvs : List (D × D)} : IsX T a xs (G a) → RpK T G xs kvs → Rp T G (.ref a) (dTab kvs)
inductive RpL (T : Kt) (G : Hp) : List V → List D → Prop
  | nil : RpL T G [] []
  | cons {v : V} {vs : List V} {d : D} {ds : List D} : Rp T G v d → RpL T G vs ds → RpL T G (v :: vs) (d :: ds)
inductive RpK (T : Kt) (G : Hp) : List XEnt → List (D × D) → Prop
  | nil : RpK T G [] []
  | cons {x : XEnt} {xs : List XEnt} {p : D × D} {ps : List (D × D)} : keyD p.1 = some x.1 → Rp T G (.ref x.2.1) p.1 → Rp T G x.2.2 p.2 → RpK T G xs ps → RpK T G (x :: xs) (p :: ps)
end
theorem IsX.up {T : Kt} {G G' : Hp} (k : Same G G') {a : Addr} {xs : List XEnt} (h : IsX T a xs (G a)) : IsX T a xs (G' a) := by
  obtain ⟨o, h⟩ := h
  exact ⟨o, k _ _ h⟩
section
variable {T : Kt} {G G' H : Hp}
mutual
theorem Rp.mono (k : Same G G') : ∀ {v : V} {d : D}, Rp T G v d → Rp T G' v d
  | _, _, .non => .non
  | _, _, .bl b => .bl b
  | _, _, .int i => .int i
  | _, _, .str x => .str x
  | _, _, .lst h r => .lst (k _ _ h) (RpL.mono k r)
  | _, _, .tup h r => .tup (k _ _ h) (RpL.mono k r)
  | _, _, .ins i h1 e r => .ins i (k _ _ h1) e (RpL.mono k r)
  | _, _, .fn n h => .fn n fun G2 k2 => h G2 (k.trans k2)
  | _, _, .scr h r => .scr (sql_mono k h) (RpL.mono k r)
  | _, _, .dct h => .dct (k _ _ h)
  | _, _, .tab h r => .tab (h.up k) (RpK.mono k r)
theorem RpL.mono (k : Same G G') : ∀ {vs : List V} {ds : List D}, RpL T G vs ds → RpL T G' vs ds
  | _, _, .nil => .nil
  | _, _, .cons h r => .cons (Rp.mono k h) (RpL.mono k r)
theorem RpK.mono (k : Same G G') : ∀ {xs : List XEnt} {ps : List (D × D)}, RpK T G xs ps → RpK T G' xs ps
  | _, _, .nil => .nil
  | _, _, .cons e h1 h2 r => .cons e (Rp.mono k h1) (Rp.mono k h2) (RpK.mono k r)
end
theorem RpL.len : ∀ {vs : List V} {ds : List D}, RpL T G vs ds → vs.length = ds.length
  | _, _, .nil => rfl
  | _, _, .cons _ r => congrArg (· + 1) r.len
theorem RpL.get : ∀ {vs : List V} {ds : List D} {i : Nat} {d : D}, RpL T G vs ds → ds[i]? = some d → ∃ v, vs[i]? = some v ∧ Rp T G v d
  | _, _, _, _, .nil, e => by simp at e
  | _, _, 0, _, .cons h _, e => by simp at e; subst e; exact ⟨_, rfl, h⟩
  | _, _, i + 1, d, .cons _ r, e => by
    obtain ⟨v, h1, h2⟩ := RpL.get (i := i) (d := d) r (by simpa using e)
    exact ⟨v, by simpa using h1, h2⟩
theorem RpL.app : ∀ {vs ws : List V} {ds es : List D}, RpL T G vs ds → RpL T G ws es → RpL T G (vs ++ ws) (ds ++ es)
  | _, _, _, _, .nil, s => s
  | _, _, _, _, .cons h r, s => .cons h (RpL.app r s)
theorem RpL.take : ∀ {vs : List V} {ds : List D} (n : Nat), RpL T G vs ds → RpL T G (vs.take n) (ds.take n)
  | _, _, 0, _ => .nil
  | _, _, _ + 1, .nil => .nil
  | _, _, n + 1, .cons h r => .cons h (RpL.take n r)
theorem RpL.drop : ∀ {vs : List V} {ds : List D} (n : Nat), RpL T G vs ds → RpL T G (vs.drop n) (ds.drop n)
  | _, _, 0, r => r
  | _, _, _ + 1, .nil => .nil
  | _, _, n + 1, .cons _ r => RpL.drop n r
theorem RpL.set {v : V} {d : D} (h : Rp T G v d) : ∀ {vs : List V} {ds : List D} (i : Nat), RpL T G vs ds → RpL T G (vs.set i v) (ds.set i d)
  | _, _, _, .nil => .nil
  | _, _, 0, .cons _ t => .cons h t
  | _, _, i + 1, .cons q t => .cons q (RpL.set h i t)
theorem RpL.rev : ∀ {vs : List V} {ds : List D}, RpL T G vs ds → RpL T G vs.reverse ds.reverse
  | _, _, .nil => .nil
  | _, _, .cons h r => by rw [List.reverse_cons, List.reverse_cons]; exact r.rev.app (.cons h .nil)
theorem RpL.dropLast : ∀ {vs : List V} {ds : List D}, RpL T G vs ds → RpL T G vs.dropLast ds.dropLast := fun {vs ds} r => by
  rw [List.dropLast_eq_take, List.dropLast_eq_take, r.len]
  exact r.take _
theorem RpL.rep {vs : List V} {ds : List D} (r : RpL T G vs ds) : ∀ k : Nat, RpL T G (List.replicate k vs).flatten (List.replicate k ds).flatten
  | 0 => .nil
  | k + 1 => by
    rw [List.replicate_succ, List.replicate_succ, List.flatten_cons, List.flatten_cons]
    exact r.app (RpL.rep r k)
/-- the values of a list of data of one kind -/
theorem RpL.of_get {vs : List V} {ds : List D} (hl : vs.length = ds.length) (h : ∀ (i : Nat) v d, vs[i]? = some v → ds[i]? = some d → Rp T G v d) : RpL T G vs ds := by
  induction vs generalizing ds with
  | nil => cases ds with
    | nil => exact .nil
    | cons d ds => simp at hl
  | cons v vs ih => cases ds with
    | nil => simp at hl
    | cons d ds => exact .cons (h 0 v d rfl rfl) (ih (by simpa using hl) fun i x y h1 h2 => h (i + 1) x y (by simpa using h1) (by simpa using h2))
end
/-! ### slots, results -/
inductive Slot where
  /-- nothing is told -/
  | un
  /-- data that no one changes any more -/
  | d (x : D)
  /-- a list of one's own -/
  | o (xs : List D)
  /-- a list that is lent -/
  | b (xs : List D)
  /-- an instance that is lent, its first fields -/
  | j (c : Int) (ds : List D)
  /-- a dict of one's own -/
  | t (kvs : List (D × D))
def Slot.own : Slot → Bool
  | .un => false
  | .d _ => false
  | _ => true
inductive R (α : Type) where
  | ok (a : α)
  | exc (c : Int) (x : D)
  | no
def R.bind {α β : Type} (r : R α) (f : α → R β) : R β :=
  match r with
  | .ok a => f a
  | .exc c x => .exc c x
  | .no => .no
abbrev Ev := List Slot
abbrev M (α : Type) := Ev → R (α × Ev)
inductive Out where
  | nx | bk | ct
  | rt (s : Slot)
/-- an operand: data, or the slot i as it stands -/
inductive Pv where
  | d (x : D)
  | s (i : Nat)
/-- one's own list becomes data -/
def fz : Slot → Option D
  | .d x => some x
  | .o xs => some (.list xs)
  | .t kvs => some (dTab kvs)
  | _ => none
def rdS : Slot → Option D
  | .d x => some x
  | .o xs => some (.list xs)
  | .b xs => some (.list xs)
  | .j c ds => some (dIns c ds)
  | _ => none
def rdP (ρ : Ev) : Pv → Option D
  | .d x => some x
  | .s i => match ρ[i]? with
    | some s => rdS s
    | none => none
def oR {α : Type} : Option α → R α
  | some a => .ok a
  | none => .no
/-! ### entries -/
def EntX (T : Kt) (G : Hp) (x : XEnt) (p : D × D) : Prop := keyD p.1 = some x.1 ∧ Rp T G (.ref x.2.1) p.1 ∧ Rp T G x.2.2 p.2
theorem EntX.mono {T : Kt} {G G' : Hp} {x : XEnt} {p : D × D} (k : Same G G') (h : EntX T G x p) : EntX T G' x p := ⟨h.1, h.2.1.mono k, h.2.2.mono k⟩
theorem RpK.paired {T : Kt} {G : Hp} : ∀ {xs : List XEnt} {ps : List (D × D)}, RpK T G xs ps → Paired (EntX T G) xs ps
  | _, _, .nil => .nil
  | _, _, .cons e h1 h2 r => .cons ⟨e, h1, h2⟩ r.paired
theorem RpK.of {T : Kt} {G : Hp} : ∀ {xs : List XEnt} {ps : List (D × D)}, Paired (EntX T G) xs ps → RpK T G xs ps
  | _, _, .nil => .nil
  | _, _, .cons h r => .cons h.1 h.2.1 h.2.2 (RpK.of r)
/-! ### what is true of a slot -/
def SlotOk (T : Kt) (B : Option Addr) (H0 G H : Hp) (v : V) : Slot → Prop
  | .un => True
  | .d x => Rp T G v x
  | .o xs => ∃ a vs, v = .ref a ∧ H a = some (.lst vs) ∧ G a = none ∧ H0 a = none ∧ RpL T G vs xs
  | .b xs => ∃ a vs, v = .ref a ∧ B = some a ∧ H a = some (.lst vs) ∧ RpL T G vs xs
  | .j c ds => ∃ a dx fs, v = .ref a ∧ B = some a ∧ InsK T.K (He.ga T.K (clsN c)) ∧ H a = some (.ins (He.ga T.K (clsN c)) dx fs) ∧ fs.map (·.1) = (clsF c).take ds.length ∧ RpL T G (fs.map (·.2)) ds
  | .t kvs => ∃ a xs, v = .ref a ∧ IsX T a xs (H a) ∧ G a = none ∧ H0 a = none ∧ Paired (EntX T G) xs kvs
/-! ### tables of code objects -/
/-- what is neither a table nor a code object -/
def NTb (o : HO) : Prop := (∀ ps, o ≠ .tbl ps) ∧ ∀ c q, o ≠ LamX.CodeO c q
theorem ntb_lst {vs : List V} : NTb (.lst vs) := ⟨fun _ z => (by cases z), fun _ _ z => (by unfold LamX.CodeO at z; cases z)⟩
theorem ntb_ins {C dx : Addr} {fs : List (Str × V)} : NTb (.ins C dx fs) := ⟨fun _ z => (by cases z), fun _ _ z => (by unfold LamX.CodeO at z; cases z)⟩
theorem ntb_dT {kvs : List (List Key × V)} : NTb (.dT kvs) := ⟨fun _ z => (by cases z), fun _ _ z => (by unfold LamX.CodeO at z; cases z)⟩
theorem ntb_dX {P : Program} {w : World} {a : Addr} {ob : Obj} {xs : List XEnt} : NTb (DictX P w a ob xs) := ⟨fun _ z => (by unfold DictX at z; cases z), fun c q z => by
  unfold DictX LamX.CodeO at z
  injection z with z
  let o : Obj := { cls := .none, data := .fields #[.none, .str q 0] }
  let h : Heap := { objs := (Array.replicate (a + c + 1) o) }
  have hg : ∀ b, b < a + c + 1 → h.get? b = some o := fun b hb => by
    have e : h.objs[b]? = some o := by show (Array.replicate (a + c + 1) o)[b]? = some o; simp [hb]
    unfold Heap.get?
    rw [e]
  have z := congrFun z h
  have y : TabX P w a ob xs h := by
    rw [z]
    exact ⟨o, _, 0, hg c (Nat.lt_succ_of_le (Nat.le_add_left c a)), rfl, rfl⟩
  obtain ⟨h1, _, _, _, _, es, ep, _, h2, _⟩ := y
  rw [hg a (Nat.lt_succ_of_le (Nat.le_add_right a c))] at h1
  rw [← Option.some.inj h1] at h2
  cases h2⟩
theorem IsX.ntb {T : Kt} {a : Addr} {xs : List XEnt} {o : Option HO} (h : IsX T a xs o) : ∃ u, o = some u ∧ NTb u := by
  obtain ⟨_, e⟩ := h
  exact ⟨_, e, ntb_dX⟩
/-- a is no table -/
def Na (T : Kt) (a : Addr) : Prop := ∀ p ∈ T.tbs, a ≠ p.1
def TB (T : Kt) (G H0 H : Hp) : Prop := LamX.Tabs T.tbs H ∧ ∀ p ∈ T.tbs, G p.1 = none ∧ H0 p.1 = none
theorem na_of {T : Kt} {H : Hp} {a : Addr} {o : HO} (t : LamX.Tabs T.tbs H) (h : H a = some o) (n : NTb o) : Na T a := fun p hp z => by
  obtain ⟨ps, h1, _⟩ := t p hp
  rw [z, h1] at h
  cases h
  exact n.1 _ rfl
theorem tabs_upd {W : List (Addr × Str)} {H : Hp} {a : Addr} {o u : HO} (t : LamX.Tabs W H) (h : H a = some o) (n : NTb o) : LamX.Tabs W (upd H a u) := fun p hp => by
  obtain ⟨ps, h1, h2, h3⟩ := t p hp
  refine ⟨ps, ?_, h2, fun pos cv hc => ?_⟩
  · rw [upd_ne (fun z => by rw [z, h] at h1; cases h1; exact n.1 _ rfl)]
    exact h1
  · obtain ⟨c, e1, e2⟩ := h3 pos cv hc
    refine ⟨c, e1, ?_⟩
    rw [upd_ne (fun z => by rw [z, h] at e2; cases e2; exact n.2 _ _ rfl)]
    exact e2
theorem tabs_updN {W : List (Addr × Str)} {H : Hp} {a : Addr} {u : HO} (t : LamX.Tabs W H) (h : H a = none) : LamX.Tabs W (upd H a u) := t.ext (same_new h)
def CodeAt (o : Option HO) : Prop := ∃ c q, o = some (LamX.CodeO c q)
structure SI (T : Kt) (B : Option Addr) (G0 H0 : Hp) (ρ : Ev) (σ : L2.St) (G H : Hp) : Prop where
  gg : Same G0 G
  gh : Same G H
  hh : ∀ a o, H0 a = some o → B ≠ some a → H a = some o
  nw : ∀ a, G a ≠ none → G0 a ≠ none ∨ H0 a = none ∨ CodeAt (G a)
  bg : ∀ a, B = some a → G a = none ∧ H0 a ≠ none ∧ ∃ o, H a = some o ∧ NTb o
  ln : ρ.length = σ.length
  sl : ∀ (i : Nat) s, ρ[i]? = some s → s ≠ .un → ∃ v, σ[i]? = some (some v) ∧ SlotOk T B H0 G H v s
  ap : ∀ (i k : Nat) s u v, i ≠ k → ρ[i]? = some s → ρ[k]? = some u → s.own = true → u.own = true → σ[i]? = some (some v) → σ[k]? = some (some v) → False
  tb : TB T G H0 H
/-- new things -/
structure Al (G H G' H' : Hp) : Prop where
  gg : Same G G'
  hh : Same H H'
  gh : Same G' H'
  nw : ∀ a, G' a ≠ none → G a ≠ none ∨ H a = none
theorem Same.none {H H' : Hp} (k : Same H H') {a : Addr} (e : H' a = none) : H a = none := by
  cases q : H a with
  | none => rfl
  | some o => rw [k a o q] at e; cases e
theorem Al.refl {G H : Hp} (k : Same G H) : Al G H G H := ⟨Same.refl _, Same.refl _, k, fun _ h => .inl h⟩
theorem Al.trans {G H G1 H1 G2 H2 : Hp} (a : Al G H G1 H1) (b : Al G1 H1 G2 H2) : Al G H G2 H2 := ⟨a.gg.trans b.gg, a.hh.trans b.hh, b.gh, fun x h => by
  rcases b.nw x h with h | h
  · exact a.nw x h
  · exact .inr (Same.none a.hh h)⟩
theorem same_upd {G H : Hp} (k : Same G H) {p : Addr} {o : HO} : Same (upd G p o) (upd H p o) := fun b x e => by
  by_cases hb : b = p
  · rw [hb, upd_same] at e ⊢
    exact e
  · rw [upd_ne hb] at e ⊢
    exact k b x e
/-- a new thing that is data -/
theorem Al.new {G H : Hp} (k : Same G H) {p : Addr} {o : HO} (n : H p = none) : Al G H (upd G p o) (upd H p o) :=
  ⟨same_new (Same.none k n), same_new n, same_upd k, fun a h => by
    by_cases e : a = p
    · rw [e]; exact .inr n
    · rw [upd_ne e] at h; exact .inl h⟩
/-- a new thing of one's own -/
theorem Al.newO {G H : Hp} (k : Same G H) {p : Addr} {o : HO} (n : H p = none) : Al G H G (upd H p o) := ⟨Same.refl _, same_new n, k.trans (same_new n), fun _ h => .inl h⟩
section
variable {T : Kt} {B : Option Addr} {G0 H0 G H G' H' : Hp} {ρ : Ev} {σ : L2.St}
theorem Paired.mono {α β : Type} {F F' : α → β → Prop} {l₁ : List α} {l₂ : List β} (h : Paired F l₁ l₂) (f : ∀ a b, F a b → F' a b) : Paired F' l₁ l₂ := Paired.mapP h f
theorem not_new (k : Al G H G' H') {a : Addr} (e : G a = none) (h : H a ≠ none) : G' a = none := by
  cases q : G' a with
  | none => rfl
  | some o =>
    rcases k.nw a (by rw [q]; simp) with z | z
    · exact absurd e z
    · exact absurd z h
theorem IsX.some {a : Addr} {xs : List XEnt} {o : Option HO} (h : IsX T a xs o) : ∃ u, o = some u := by
  obtain ⟨_, e⟩ := h
  exact ⟨_, e⟩
theorem SlotOk.al {v : V} {s : Slot} (k : Al G H G' H') (h : SlotOk T B H0 G H v s) : SlotOk T B H0 G' H' v s := by
  cases s with
  | un => trivial
  | d x => exact Rp.mono k.gg h
  | o xs =>
    obtain ⟨a, vs, e, h1, h2, h3, r⟩ := h
    exact ⟨a, vs, e, k.hh _ _ h1, not_new k h2 (by rw [h1]; simp), h3, r.mono k.gg⟩
  | b xs =>
    obtain ⟨a, vs, e, h1, h2, r⟩ := h
    exact ⟨a, vs, e, h1, k.hh _ _ h2, r.mono k.gg⟩
  | j c ds =>
    obtain ⟨a, dx, fs, e, h1, ik, h2, h4, r⟩ := h
    exact ⟨a, dx, fs, e, h1, ik, k.hh _ _ h2, h4, r.mono k.gg⟩
  | t kvs =>
    obtain ⟨a, xs, e, h1, h2, h3, r⟩ := h
    obtain ⟨u, eu⟩ := h1.some
    refine ⟨a, xs, e, ?_, not_new k h2 (by rw [eu]; simp), h3, Paired.mono r fun _ _ z => z.mono k.gg⟩
    rw [k.hh _ _ eu, ← eu]
    exact h1
theorem TB.al (t : TB T G H0 H) (k : Al G H G' H') : TB T G' H0 H' := ⟨t.1.ext k.hh, fun p hp => ⟨not_new k (t.2 p hp).1 (by obtain ⟨ps, h1, _⟩ := t.1 p hp; rw [h1]; simp), (t.2 p hp).2⟩⟩
theorem SI.al (I : SI T B G0 H0 ρ σ G H) (k : Al G H G' H') : SI T B G0 H0 ρ σ G' H' := by
  refine ⟨I.gg.trans k.gg, k.gh, fun a o e n => k.hh _ _ (I.hh a o e n), fun a h => ?_, fun a e => ?_, I.ln, fun i s e n => ?_, I.ap, I.tb.al k⟩
  · rcases k.nw a h with z | z
    · rcases I.nw a z with y | y | ⟨c, q, y⟩
      · exact .inl y
      · exact .inr (.inl y)
      · exact .inr (.inr ⟨c, q, k.gg _ _ y⟩)
    · cases q : H0 a with
      | none => exact .inr (.inl rfl)
      | some o =>
        by_cases eb : B = some a
        · obtain ⟨_, _, o, ho, _⟩ := I.bg a eb
          rw [z] at ho
          cases ho
        · rw [I.hh a o q eb] at z; cases z
  · obtain ⟨b1, b2, o, b3, nt⟩ := I.bg a e
    exact ⟨not_new k b1 (by rw [b3]; simp), b2, o, k.hh _ _ b3, nt⟩
  · obtain ⟨v, h1, h2⟩ := I.sl i s e n
    exact ⟨v, h1, h2.al k⟩
/-- what is true of a result -/
def VOk (T : Kt) (H0 : Hp) (ρ : Ev) (σ : L2.St) (G H : Hp) (v : V) (s : Slot) : Prop := SlotOk T none H0 G H v s ∧ s ≠ .un ∧ (s.own = true → ∀ (i : Nat) u, ρ[i]? = some u → u.own = true → σ[i]? ≠ some (some v))
/-- the wish about an error -/
def XW (T : Kt) (B : Option Addr) (H0 : Hp) (E : XK) (c : Int) (x : D) : Prop := ∀ H' d v, (∀ a o, H0 a = some o → B ≠ some a → H' a = some o) → H0 d = none → H' d = some (.xd [(excF c, v)]) → Rp T H' v x → LamX.Tabs T.tbs H' → E (.ref (He.ga T.K (excN c))) (some d) H'
/-- what is true of an operand -/
def POk (T : Kt) (σ : L2.St) (G : Hp) (v : V) : Pv → Prop
  | .d x => Rp T G v x
  | .s i => σ[i]? = some (some v)
/-- how values and what is told of them go together: entry heap, slots, frozen heap, heap -/
abbrev Rl (α β : Type) := Hp → Ev → L2.St → Hp → Hp → β → α → Prop
/-- a reading from here on does what r tells -/
def Pt {α β : Type} (T : Kt) (E : XK) (Rel : Rl α β) (B : Option Addr) (G0 H0 : Hp) (σ : L2.St) (G H : Hp) (u : Hp → (β → Hp → Prop) → Prop) (r : R (α × Ev)) : Prop := ∀ Q : β → Hp → Prop, match r with
  | .ok (a, ρ') => (∀ b G' H', SI T B G0 H0 ρ' σ G' H' → Same G G' → Rel H0 ρ' σ G' H' b a → Q b H') → u H Q
  | .exc c x => XW T B H0 E c x → u H Q
  | .no => True
def Dq {α β : Type} (T : Kt) (E : XK) (Rel : Rl α β) (t : L2.St → Hp → (β → Hp → Prop) → Prop) (f : M α) : Prop := ∀ B G0 H0 ρ σ G H, SI T B G0 H0 ρ σ G H → Pt T E Rel B G0 H0 σ G H (t σ) (f ρ)
abbrev rV (T : Kt) : Rl Slot V := fun H0 ρ σ G H v s => VOk T H0 ρ σ G H v s
abbrev rP (T : Kt) : Rl Pv V := fun _ _ σ G _ v p => POk T σ G v p
abbrev rB : Rl Bool Bool := fun _ _ _ _ _ b a => b = a
abbrev rL (T : Kt) : Rl (List D) (List V) := fun _ _ _ G _ vs ds => RpL T G vs ds
abbrev rPs (T : Kt) : Rl (List Pv) (List V) := fun _ _ σ G _ vs ps => Paired (POk T σ G) vs ps
/-- expressions, operands, tests, arguments, arguments as operands -/
abbrev De (T : Kt) (E : XK) (t : TE) (f : M Slot) : Prop := Dq T E (rV T) t f
abbrev Dk (T : Kt) (E : XK) (t : TE) (f : M Pv) : Prop := Dq T E (rP T) t f
abbrev Dt (T : Kt) (E : XK) (t : TT) (f : M Bool) : Prop := Dq T E rB t f
abbrev Da (T : Kt) (E : XK) (t : TA) (f : M (List D)) : Prop := Dq T E (rL T) t f
abbrev Dp (T : Kt) (E : XK) (t : TA) (f : M (List Pv)) : Prop := Dq T E (rPs T) t f
def Ds (T : Kt) (E : XK) (t : TS) (f : M Out) : Prop := ∀ B G0 H0 ρ σ G H (Z : Ends), SI T B G0 H0 ρ σ G H → match f ρ with
  | .ok (.nx, ρ') => (∀ σ' G' H', SI T B G0 H0 ρ' σ' G' H' → Same G G' → Z.nx σ' H') → t Z σ H
  | .ok (.bk, ρ') => (∀ σ' G' H', SI T B G0 H0 ρ' σ' G' H' → Same G G' → Z.bk σ' H') → t Z σ H
  | .ok (.ct, ρ') => (∀ σ' G' H', SI T B G0 H0 ρ' σ' G' H' → Same G G' → Z.ct σ' H') → t Z σ H
  | .ok (.rt s, ρ') => (∀ v σ' G' H', SI T B G0 H0 ρ' σ' G' H' → Same G G' → VOk T H0 ρ' σ' G' H' v s → Z.rt v H') → t Z σ H
  | .exc c x => XW T B H0 E c x → t Z σ H
  | .no => True
/-- a target: it changes the slots ts alone -/
def Dg (T : Kt) (ts : List Nat) (g : TG) (f : D → Ev → Option Ev) : Prop := ∀ B G0 H0 ρ σ G H (Q : L2.St → Hp → Prop) v x, SI T B G0 H0 ρ σ G H → Rp T G v x → match f x ρ with
  | some ρ' => (∀ σ' G' H', SI T B G0 H0 ρ' σ' G' H' → Same G G' → σ'.length = σ.length → (∀ i : Nat, i ∉ ts → σ'[i]? = σ[i]?) → Q σ' H') → g v σ H Q
  | none => True
def bd {α β : Type} (m : M α) (k : α → M β) : M β := fun ρ => match m ρ with
  | .ok (a, ρ') => k a ρ'
  | .exc c x => .exc c x
  | .no => .no
def ret {α : Type} (a : α) : M α := fun ρ => .ok (a, ρ)
def lf {α : Type} : Option α → M α
  | some a => fun ρ => .ok (a, ρ)
  | none => fun _ => .no
theorem SI.get (I : SI T B G0 H0 ρ σ G H) {i : Nat} {s : Slot} (e : ρ[i]? = some s) (n : s ≠ .un) : ∃ v, σ[i]? = some (some v) ∧ SlotOk T B H0 G H v s := I.sl i s e n
/-- another slot, at the same value -/
theorem SI.slot (I : SI T B G0 H0 ρ σ G H) {i : Nat} {s : Slot} {v : V} (hσ : σ[i]? = some (some v)) (ok : SlotOk T B H0 G H v s) (apart : s.own = true → ∀ (k : Nat) u, k ≠ i → ρ[k]? = some u → u.own = true → σ[k]? ≠ some (some v)) : SI T B G0 H0 (ρ.set i s) σ G H := by
  have get : ∀ (k : Nat) u, (ρ.set i s)[k]? = some u → (k = i ∧ u = s) ∨ (k ≠ i ∧ ρ[k]? = some u) := fun k u e => by
    by_cases hk : k = i
    · subst hk
      rw [List.getElem?_set_self'] at e
      cases q : ρ[k]? with
      | none => rw [q] at e; cases e
      | some z => rw [q] at e; cases e; exact .inl ⟨rfl, rfl⟩
    · rw [List.getElem?_set_ne (Ne.symm hk)] at e
      exact .inr ⟨hk, e⟩
  refine ⟨I.gg, I.gh, I.hh, I.nw, I.bg, by rw [List.length_set]; exact I.ln, fun k u e n => ?_, fun k l u w x ne e1 e2 o1 o2 s1 s2 => ?_, I.tb⟩
  · rcases get k u e with ⟨rfl, rfl⟩ | ⟨_, e⟩
    · exact ⟨v, hσ, ok⟩
    · exact I.sl k u e n
  · rcases get k u e1 with ⟨q1, q2⟩ | ⟨n1, f1⟩
    · rcases get l w e2 with ⟨q3, q4⟩ | ⟨n2, f2⟩
      · exact ne (q1.trans q3.symm)
      · rw [q1, hσ] at s1
        cases s1
        exact apart (by rw [← q2]; exact o1) l w n2 f2 o2 s2
    · rcases get l w e2 with ⟨q3, q4⟩ | ⟨n2, f2⟩
      · rw [q3, hσ] at s2
        cases s2
        exact apart (by rw [← q4]; exact o2) k u n1 f1 o1 s1
      · exact I.ap k l u w x ne f1 f2 o1 o2 s1 s2
theorem SI.forget (I : SI T B G0 H0 ρ σ G H) (i : Nat) : SI T B G0 H0 (ρ.set i .un) σ G H := by
  have get : ∀ (k : Nat) u, (ρ.set i .un)[k]? = some u → u ≠ .un → k ≠ i ∧ ρ[k]? = some u := fun k u e n => by
    by_cases hk : k = i
    · subst hk
      rw [List.getElem?_set_self'] at e
      cases q : ρ[k]? with
      | none => rw [q] at e; cases e
      | some z => rw [q] at e; cases e; exact absurd rfl n
    · rw [List.getElem?_set_ne (Ne.symm hk)] at e
      exact ⟨hk, e⟩
  have nu : ∀ u : Slot, u.own = true → u ≠ .un := fun u h z => by subst z; cases h
  exact ⟨I.gg, I.gh, I.hh, I.nw, I.bg, by rw [List.length_set]; exact I.ln, fun k u e n => I.sl k u (get k u e n).2 n, fun k l u w x ne e1 e2 o1 o2 s1 s2 => I.ap k l u w x ne (get k u e1 (nu u o1)).2 (get l w e2 (nu w o2)).2 o1 o2 s1 s2, I.tb⟩
/-- a name is stored -/
theorem SI.store (I : SI T B G0 H0 ρ σ G H) {i : Nat} {s : Slot} {v : V} (hi : i < σ.length) (ok : SlotOk T B H0 G H v s) (apart : s.own = true → ∀ (k : Nat) u, k ≠ i → ρ[k]? = some u → u.own = true → σ[k]? ≠ some (some v)) : SI T B G0 H0 (ρ.set i s) (σ.set i (some v)) G H := by
  have J : SI T B G0 H0 (ρ.set i .un) (σ.set i (some v)) G H := by
    have F := I.forget i
    have key : ∀ (k : Nat) u, (ρ.set i .un)[k]? = some u → u ≠ .un → k ≠ i := fun k u e n hk => by
      subst hk
      rw [List.getElem?_set_self'] at e
      cases q : ρ[k]? with
      | none => rw [q] at e; cases e
      | some z => rw [q] at e; cases e; exact absurd rfl n
    have nu : ∀ u : Slot, u.own = true → u ≠ .un := fun u h z => by subst z; cases h
    refine ⟨F.gg, F.gh, F.hh, F.nw, F.bg, by rw [F.ln, List.length_set], fun k u e n => ?_, fun k l u w x ne e1 e2 o1 o2 s1 s2 => ?_, F.tb⟩
    · rw [List.getElem?_set_ne (Ne.symm (key k u e n))]
      exact F.sl k u e n
    · rw [List.getElem?_set_ne (Ne.symm (key k u e1 (nu u o1)))] at s1
      rw [List.getElem?_set_ne (Ne.symm (key l w e2 (nu w o2)))] at s2
      exact F.ap k l u w x ne e1 e2 o1 o2 s1 s2
  have e : (ρ.set i .un).set i s = ρ.set i s := by rw [List.set_set]
  rw [← e]
  refine J.slot (v := v) (List.getElem?_set_self hi) ok fun o k u hk e1 e2 => ?_
  rw [List.getElem?_set_ne (Ne.symm hk)] at e1 ⊢
  exact apart o k u hk e1 e2
/-- one's own thing becomes data -/
theorem SI.freeze (I : SI T B G0 H0 ρ σ G H) {a : Addr} {o : HO} (h : H a = some o) (h0 : H0 a = none) (no : ∀ (k : Nat) u, ρ[k]? = some u → u.own = true → σ[k]? ≠ some (some (.ref a))) (hg : G a = none) (nt : NTb o) : SI T B G0 H0 ρ σ (upd G a o) H ∧ Same G (upd G a o) := by
  have k1 : Same G (upd G a o) := same_new hg
  refine ⟨⟨I.gg.trans k1, fun b x e => ?_, I.hh, fun b n => ?_, fun b e => ?_, I.ln, fun i s e n => ?_, I.ap, I.tb.1, fun p hp => ⟨by rw [upd_ne (Ne.symm (na_of I.tb.1 h nt p hp))]; exact (I.tb.2 p hp).1, (I.tb.2 p hp).2⟩⟩, k1⟩
  · by_cases hb : b = a
    · rw [hb, upd_same] at e; rw [hb, h]; exact e
    · rw [upd_ne hb] at e; exact I.gh _ _ e
  · by_cases hb : b = a
    · rw [hb]; exact .inr (.inl h0)
    · rw [upd_ne hb] at n ⊢; exact I.nw b n
  · obtain ⟨b1, b2, b3⟩ := I.bg b e
    have hb : b ≠ a := fun z => b2 (by rw [z]; exact h0)
    rw [upd_ne hb]
    exact ⟨b1, b2, b3⟩
  · obtain ⟨v, h1, h2⟩ := I.sl i s e n
    refine ⟨v, h1, ?_⟩
    have ne : ∀ c, v = .ref c → s.own = true → c ≠ a := fun c ec os z => no i s e os (by rw [h1, ec, z])
    cases s with
    | un => trivial
    | d x => exact Rp.mono k1 h2
    | o xs =>
      obtain ⟨c, vs, e, h3, h4, h5, r⟩ := h2
      exact ⟨c, vs, e, h3, by rw [upd_ne (ne c e rfl)]; exact h4, h5, r.mono k1⟩
    | b xs =>
      obtain ⟨c, vs, e, h3, h4, r⟩ := h2
      exact ⟨c, vs, e, h3, h4, r.mono k1⟩
    | j cc ds =>
      obtain ⟨c, dx, fs, e, h3, ik, h4, h6, r⟩ := h2
      exact ⟨c, dx, fs, e, h3, ik, h4, h6, r.mono k1⟩
    | t kvs =>
      obtain ⟨c, xs, e, h3, h4, h5, r⟩ := h2
      exact ⟨c, xs, e, h3, by rw [upd_ne (ne c e rfl)]; exact h4, h5, Paired.mono r fun _ _ z => z.mono k1⟩
theorem slot_nt {s : Slot} {a : Addr} (h2 : SlotOk T B H0 G H (.ref a) s) (os : s.own = true) : ∃ o, H a = some o ∧ NTb o := by
  cases s with
  | un => cases os
  | d x => cases os
  | o xs => obtain ⟨c, vs, e, h3, _⟩ := h2; cases e; exact ⟨_, h3, ntb_lst⟩
  | b xs => obtain ⟨c, vs, e, _, h3, _⟩ := h2; cases e; exact ⟨_, h3, ntb_lst⟩
  | j cc ds => obtain ⟨c, dx, fs, e, _, _, h3, _⟩ := h2; cases e; exact ⟨_, h3, ntb_ins⟩
  | t kvs => obtain ⟨c, xs, e, h3, _⟩ := h2; cases e; exact h3.ntb
/-- the thing at a slot is no table -/
theorem SI.ownT (I : SI T B G0 H0 ρ σ G H) {i : Nat} {s : Slot} {a : Addr} (e : ρ[i]? = some s) (os : s.own = true) (hσ : σ[i]? = some (some (.ref a))) : ∃ o, H a = some o ∧ NTb o := by
  obtain ⟨v, h1, h2⟩ := I.sl i s e (fun z => by subst z; cases os)
  rw [hσ] at h1
  cases h1
  cases s with
  | un => cases os
  | d x => cases os
  | o xs => obtain ⟨c, vs, e, h3, _⟩ := h2; cases e; exact ⟨_, h3, ntb_lst⟩
  | b xs => obtain ⟨c, vs, e, _, h3, _⟩ := h2; cases e; exact ⟨_, h3, ntb_lst⟩
  | j cc ds => obtain ⟨c, dx, fs, e, _, _, h3, _⟩ := h2; cases e; exact ⟨_, h3, ntb_ins⟩
  | t kvs => obtain ⟨c, xs, e, h3, _⟩ := h2; cases e; exact h3.ntb
/-- the thing at a slot is changed -/
theorem SI.wr (I : SI T B G0 H0 ρ σ G H) {i : Nat} {s s' : Slot} {a : Addr} {o : HO} (e : ρ[i]? = some s) (os : s.own = true) (hσ : σ[i]? = some (some (.ref a))) (hg : G a = none) (hp : B = some a ∨ H0 a = none)
    (ok : SlotOk T B H0 G (upd H a o) (.ref a) s') (os' : s'.own = true) : SI T B G0 H0 (ρ.set i s') σ G (upd H a o) := by
  have F := I.forget i
  have F2 : SI T B G0 H0 (ρ.set i .un) σ G (upd H a o) := by
    obtain ⟨o0, ho, nt⟩ := I.ownT e os hσ
    refine ⟨F.gg, fun b x q => ?_, fun b x q n => ?_, F.nw, fun b q => ?_, F.ln, fun k u q n => ?_, F.ap, tabs_upd I.tb.1 ho nt, I.tb.2⟩
    · rw [upd_ne (fun z => by rw [z, hg] at q; cases q)]
      exact F.gh _ _ q
    · have hb : b ≠ a := fun z => by
        subst z
        rcases hp with hp | hp
        · exact n hp
        · rw [hp] at q; cases q
      rw [upd_ne hb]
      exact F.hh _ _ q n
    · obtain ⟨b1, b2, b3⟩ := F.bg b q
      refine ⟨b1, b2, ?_⟩
      by_cases hb : b = a
      · rw [hb]; exact slot_nt ok os'
      · rw [upd_ne hb]; exact b3
    · obtain ⟨v, h1, h2⟩ := F.sl k u q n
      refine ⟨v, h1, ?_⟩
      have hk : k ≠ i := fun z => by
        subst z
        rw [List.getElem?_set_self'] at q
        rw [e] at q
        cases q
        exact n rfl
      rw [List.getElem?_set_ne (Ne.symm hk)] at q
      have ne : ∀ c, v = .ref c → u.own = true → c ≠ a := fun c ec ou z => I.ap k i u s (.ref a) hk q e ou os (by rw [h1, ec, z]) hσ
      cases u with
      | un => trivial
      | d x => exact h2
      | o xs =>
        obtain ⟨c, vs, e, h3, h4, h5, r⟩ := h2
        exact ⟨c, vs, e, by rw [upd_ne (ne c e rfl)]; exact h3, h4, h5, r⟩
      | b xs =>
        obtain ⟨c, vs, e, h3, h4, r⟩ := h2
        exact ⟨c, vs, e, h3, by rw [upd_ne (ne c e rfl)]; exact h4, r⟩
      | j cc ds =>
        obtain ⟨c, dx, fs, e, h3, ik, h4, h6, r⟩ := h2
        exact ⟨c, dx, fs, e, h3, ik, by rw [upd_ne (ne c e rfl)]; exact h4, h6, r⟩
      | t kvs =>
        obtain ⟨c, xs, e, h3, h4, h5, r⟩ := h2
        exact ⟨c, xs, e, by rw [upd_ne (ne c e rfl)]; exact h3, h4, h5, r⟩
  have ee : (ρ.set i .un).set i s' = ρ.set i s' := by rw [List.set_set]
  rw [← ee]
  refine F2.slot hσ ok fun o k u hk e1 e2 e3 => ?_
  rw [List.getElem?_set_ne (Ne.symm hk)] at e1
  exact I.ap k i u s (.ref a) hk e1 e e2 os e3 hσ
theorem SI.xw {c : Int} {x : D} {E : XK} (I : SI T B G0 H0 ρ σ G H) (w : XW T B H0 E c x) : XW T B H0 E c x := w
section
variable {α β γ δ : Type} {E : XK} {Rel : Rl α β} {Rel2 : Rl γ δ}
theorem Pt.ok {a : α} {u : Hp → (β → Hp → Prop) → Prop} (h : ∀ Q : β → Hp → Prop, (∀ b G' H', SI T B G0 H0 ρ σ G' H' → Same G G' → Rel H0 ρ σ G' H' b a → Q b H') → u H Q) : Pt T E Rel B G0 H0 σ G H u (.ok (a, ρ)) := h
theorem Pt.no {u : Hp → (β → Hp → Prop) → Prop} : Pt T E Rel B G0 H0 σ G H u (R.no : R (α × Ev)) := fun _ => trivial
/-- one after another -/
theorem Pt.bd {t : Hp → (β → Hp → Prop) → Prop} {u : β → Hp → (δ → Hp → Prop) → Prop} {m : M α} {k : α → M γ} (hm : Pt T E Rel B G0 H0 σ G H t (m ρ))
    (hk : ∀ a ρ' b G' H', m ρ = .ok (a, ρ') → SI T B G0 H0 ρ' σ G' H' → Same G G' → Rel H0 ρ' σ G' H' b a → Pt T E Rel2 B G0 H0 σ G' H' (u b) (k a ρ')) : Pt T E Rel2 B G0 H0 σ G H (fun H Q => t H fun b H1 => u b H1 Q) (bd m k ρ) := by
  intro Q
  unfold DL.bd
  cases e : m ρ with
  | no => trivial
  | exc c x =>
    intro w
    have h := hm fun b H1 => u b H1 Q
    rw [e] at h
    exact h w
  | ok z =>
    obtain ⟨a, ρ'⟩ := z
    have h := hm fun b H1 => u b H1 Q
    rw [e] at h
    have hk2 := fun b G' H' i s r => hk a ρ' b G' H' e i s r Q
    show match k a ρ' with
      | .ok (a, ρ') => _
      | .exc c x => _
      | .no => _
    cases e2 : k a ρ' with
    | no => trivial
    | exc c x =>
      intro w
      refine h fun b G' H' i s r => ?_
      have := hk2 b G' H' i s r
      rw [e2] at this
      exact this w
    | ok z2 =>
      obtain ⟨c, ρ2⟩ := z2
      intro q
      refine h fun b G' H' i s r => ?_
      have := hk2 b G' H' i s r
      rw [e2] at this
      exact this fun d G2 H2 i2 s2 r2 => q d G2 H2 i2 (s.trans s2) r2
theorem Pt.lf {o : Option α} {u : Hp → (β → Hp → Prop) → Prop} (h : ∀ a, o = some a → Pt T E Rel B G0 H0 σ G H u (.ok (a, ρ))) : Pt T E Rel B G0 H0 σ G H u (lf o ρ) := by
  cases o with
  | none => exact fun _ => trivial
  | some a => exact h a rfl
end
end
end DL
/-! NCRule: the readings' rules of the data layer. -/
namespace DL
open PySem PySem.Spec PyProof.Rows L2
section
variable {T : Kt} {B : Option Addr} {G0 H0 G H G' H' : Hp} {ρ : Ev} {σ : L2.St} {E : XK}
/-! ### results -/
theorem SI.h0 (I : SI T B G0 H0 ρ σ G H) {p : Addr} (n : H p = none) : H0 p = none := by
  cases q : H0 p with
  | none => rfl
  | some o =>
    by_cases eb : B = some p
    · obtain ⟨_, _, o, ho, _⟩ := I.bg p eb
      rw [n] at ho
      cases ho
    · rw [I.hh p o q eb] at n; cases n
theorem SI.noown (I : SI T B G0 H0 ρ σ G H) {p : Addr} (n : H p = none) (k : Nat) (u : Slot) (e : ρ[k]? = some u) (o : u.own = true) : σ[k]? ≠ some (some (.ref p)) := fun z => by
  obtain ⟨v, h1, h2⟩ := I.sl k u e (fun q => by subst q; cases o)
  rw [z] at h1
  cases h1
  cases u with
  | un => cases o
  | d x => cases o
  | o xs =>
    obtain ⟨a, vs, e, h3, _⟩ := h2
    cases e
    rw [n] at h3; cases h3
  | b xs =>
    obtain ⟨a, vs, e, _, h3, _⟩ := h2
    cases e
    rw [n] at h3; cases h3
  | j c ds =>
    obtain ⟨a, dx, fs, e, _, _, h3, _⟩ := h2
    cases e
    rw [n] at h3; cases h3
  | t kvs =>
    obtain ⟨a, xs, e, h3, _⟩ := h2
    cases e
    obtain ⟨u, eu⟩ := h3.some
    rw [n] at eu; cases eu
theorem vok_d {v : V} {x : D} (r : Rp T G v x) : VOk T H0 ρ σ G H v (.d x) := ⟨r, (fun z => by cases z), (fun z => by cases z)⟩
/-- a new value: data, or a list of one's own -/
def RNew (T : Kt) (H G' H' : Hp) (u : V) : Slot → Prop
  | .d z => Rp T G' u z
  | .o zs => ∃ p vs, u = .ref p ∧ H p = none ∧ H' p = some (.lst vs) ∧ G' p = none ∧ RpL T G' vs zs
  | .t kvs => ∃ p xs, u = .ref p ∧ H p = none ∧ IsX T p xs (H' p) ∧ G' p = none ∧ Paired (EntX T G') xs kvs
  | _ => False
theorem SI.vok (I : SI T B G0 H0 ρ σ G H) {u : V} {s : Slot} (r : RNew T H G' H' u s) : VOk T H0 ρ σ G' H' u s := by
  cases s with
  | un => exact r.elim
  | d x => exact vok_d r
  | o xs =>
    obtain ⟨p, vs, rfl, n, h1, h2, r⟩ := r
    exact ⟨⟨p, vs, rfl, h1, h2, I.h0 n, r⟩, (fun z => by cases z), fun _ k u e o => I.noown n k u e o⟩
  | b xs => exact r.elim
  | j c ds => exact r.elim
  | t kvs =>
    obtain ⟨p, xs, rfl, n, h1, h2, r⟩ := r
    exact ⟨⟨p, xs, rfl, h1, h2, I.h0 n, r⟩, (fun z => by cases z), fun _ k u e o => I.noown n k u e o⟩
/-- a result becomes data -/
theorem SI.fz (I : SI T B G0 H0 ρ σ G H) {v : V} {s : Slot} {x : D} (r : VOk T H0 ρ σ G H v s) (e : fz s = some x) : ∃ G', SI T B G0 H0 ρ σ G' H ∧ Same G G' ∧ Rp T G' v x := by
  cases s with
  | un => cases e
  | d z => cases e; exact ⟨G, I, Same.refl _, r.1⟩
  | o xs =>
    cases e
    obtain ⟨⟨a, vs, rfl, h1, h2, h3, r⟩, _, ap⟩ := r
    obtain ⟨J, k⟩ := I.freeze h1 h3 (fun k u e o => ap rfl k u e o) h2 ntb_lst
    exact ⟨_, J, k, .lst upd_same (r.mono k)⟩
  | b xs => cases e
  | j c ds => cases e
  | t kvs =>
    cases e
    obtain ⟨⟨a, xs, rfl, h1, h2, h3, r⟩, _, ap⟩ := r
    obtain ⟨u, eu, nt⟩ := h1.ntb
    obtain ⟨J, k⟩ := I.freeze eu h3 (fun k u e o => ap rfl k u e o) h2 nt
    refine ⟨_, J, k, .tab (xs := xs) ?_ (RpK.of (Paired.mono r fun _ _ z => z.mono k))⟩
    rw [upd_same, ← eu]
    exact h1
/-! ### names, constants -/
def vK (i : Nat) : M Pv := fun ρ => match ρ[i]? with
  | some .un => .no
  | none => .no
  | _ => .ok (.s i, ρ)
def kE (f : M Slot) : M Pv := bd f fun s => lf ((fz s).map Pv.d)
def vE (i : Nat) : M Slot := fun ρ => match ρ[i]? with
  | some (.d x) => .ok (.d x, ρ)
  | some (.o xs) => .ok (.d (.list xs), ρ.set i (.d (.list xs)))
  | some (.t kvs) => .ok (.d (dTab kvs), ρ.set i (.d (dTab kvs)))
  | _ => .no
/-- strictly: data -/
def sE (f : M Slot) : M D := bd f fun s => lf (fz s)
def cE (x : D) : M Slot := ret (.d x)
abbrev rD (T : Kt) : Rl D V := fun _ _ _ G _ v x => Rp T G v x
abbrev Dd (T : Kt) (E : XK) (t : TE) (f : M D) : Prop := Dq T E (rD T) t f
theorem dk_var (i : Nat) : Dk T E (tVar i) (vK i) := by
  intro B G0 H0 ρ σ G H I Q
  unfold vK
  cases e : ρ[i]? with
  | none => trivial
  | some s =>
    by_cases n : s = .un
    · subst n; trivial
    · obtain ⟨v, h1, _⟩ := I.sl i s e n
      have key : (∀ b G' H', SI T B G0 H0 ρ σ G' H' → Same G G' → rP T H0 ρ σ G' H' b (.s i) → Q b H') → tVar i σ H Q := fun q => ⟨v, h1, q v G H I (Same.refl _) h1⟩
      cases s <;> first | exact absurd rfl n | exact key
theorem dd_of {t : TE} {f : M Slot} (h : De T E t f) : Dd T E t (sE f) := by
  intro B G0 H0 ρ σ G H I
  refine Pt.bd (u := fun v H (Q : VK) => Q v H) (h B G0 H0 ρ σ G H I) fun s ρ' v G' H' _ I' k r => ?_
  refine Pt.lf fun x e => Pt.ok fun Q q => ?_
  obtain ⟨G2, J, k2, r2⟩ := I'.fz r e
  exact q v G2 H' J k2 r2
theorem dk_of {t : TE} {f : M Slot} (h : De T E t f) : Dk T E t (kE f) := by
  intro B G0 H0 ρ σ G H I
  refine Pt.bd (u := fun v H (Q : VK) => Q v H) (h B G0 H0 ρ σ G H I) fun s ρ' v G' H' _ I' k r => ?_
  refine Pt.lf fun p e => Pt.ok fun Q q => ?_
  obtain ⟨x, e1, e2⟩ := Option.map_eq_some_iff.mp e
  subst e2
  obtain ⟨G2, J, k2, r2⟩ := I'.fz r e1
  exact q v G2 H' J k2 r2
theorem de_var (i : Nat) : De T E (tVar i) (vE i) := by
  intro B G0 H0 ρ σ G H I
  unfold vE
  cases e : ρ[i]? with
  | none => exact Pt.no
  | some s =>
    cases s with
    | un => exact Pt.no
    | d x =>
      refine Pt.ok fun Q q => ?_
      obtain ⟨v, h1, h2⟩ := I.sl i _ e (fun z => by cases z)
      exact ⟨v, h1, q v G H I (Same.refl _) (vok_d h2)⟩
    | o xs =>
      refine Pt.ok fun Q q => ?_
      obtain ⟨v, h1, a, vs, rfl, h2, h3, h4, r⟩ := I.sl i _ e (fun z => by cases z)
      have F := I.forget i
      have ap : ∀ (k : Nat) u, (ρ.set i .un)[k]? = some u → u.own = true → σ[k]? ≠ some (some (.ref a)) := fun k u e1 o z => by
        by_cases hk : k = i
        · subst hk
          rw [List.getElem?_set_self', e] at e1
          cases e1
          cases o
        · rw [List.getElem?_set_ne (Ne.symm hk)] at e1
          exact I.ap k i u _ (.ref a) hk e1 e o rfl z h1
      obtain ⟨J, k⟩ := F.freeze h2 h4 ap h3 ntb_lst
      have r2 : Rp T (upd G a (.lst vs)) (.ref a) (.list xs) := .lst upd_same (r.mono k)
      have J2 := J.slot (s := .d (.list xs)) h1 r2 (fun z => by cases z)
      rw [List.set_set] at J2
      exact ⟨.ref a, h1, q _ _ H J2 k (vok_d r2)⟩
    | b xs => exact Pt.no
    | j c ds => exact Pt.no
    | t kvs =>
      refine Pt.ok fun Q q => ?_
      obtain ⟨v, h1, a, xs, rfl, h2, h3, h4, r⟩ := I.sl i _ e (fun z => by cases z)
      obtain ⟨u, eu, nt⟩ := h2.ntb
      have F := I.forget i
      have ap : ∀ (k : Nat) u, (ρ.set i .un)[k]? = some u → u.own = true → σ[k]? ≠ some (some (.ref a)) := fun k u e1 o z => by
        by_cases hk : k = i
        · subst hk
          rw [List.getElem?_set_self', e] at e1
          cases e1
          cases o
        · rw [List.getElem?_set_ne (Ne.symm hk)] at e1
          exact I.ap k i u _ (.ref a) hk e1 e o rfl z h1
      obtain ⟨J, k⟩ := F.freeze eu h4 ap h3 nt
      have r2 : Rp T (upd G a u) (.ref a) (dTab kvs) := .tab (xs := xs) (by rw [upd_same, ← eu]; exact h2) (RpK.of (Paired.mono r fun _ _ z => z.mono k))
      have J2 := J.slot (s := .d (dTab kvs)) h1 r2 (fun z => by cases z)
      rw [List.set_set] at J2
      exact ⟨.ref a, h1, q _ _ H J2 k (vok_d r2)⟩
theorem de_c {v : V} {x : D} (h : ∀ G, Rp T G v x) : De T E (tC v) (cE x) := by
  intro B G0 H0 ρ σ G H I
  exact Pt.ok fun Q q => q v G H I (Same.refl _) (vok_d (h G))
/-! ### operations -/
/-- an operand as it stands -/
def Pk (T : Kt) (G H : Hp) (v : V) (x : D) : Prop := Rp T G v x ∨ (∃ a vs xs, v = .ref a ∧ x = .list xs ∧ H a = some (.lst vs) ∧ RpL T G vs xs) ∨
  ∃ a dx c fs ds, v = .ref a ∧ x = dIns c ds ∧ InsK T.K (He.ga T.K (clsN c)) ∧ H a = some (.ins (He.ga T.K (clsN c)) dx fs) ∧ fs.map (·.1) = (clsF c).take ds.length ∧ RpL T G (fs.map (·.2)) ds
theorem SI.pk (I : SI T B G0 H0 ρ σ G H) {v : V} {p : Pv} {x : D} (h : POk T σ G v p) (e : rdP ρ p = some x) : Pk T G H v x := by
  cases p with
  | d y => cases e; exact .inl h
  | s i =>
    unfold rdP at e
    cases q : ρ[i]? with
    | none => simp only [q] at e; cases e
    | some s =>
      simp only [q] at e
      obtain ⟨w, h1, h2⟩ := I.sl i s q (fun z => by subst z; cases e)
      have : w = v := by
        have h' : σ[i]? = some (some v) := h
        rw [h1] at h'
        cases h'
        rfl
      subst this
      cases s with
      | un => cases e
      | d y => cases e; exact .inl h2
      | o xs =>
        cases e
        obtain ⟨a, vs, e, h3, _, _, r⟩ := h2
        exact .inr (.inl ⟨a, vs, xs, e, rfl, h3, r⟩)
      | b xs =>
        cases e
        obtain ⟨a, vs, e, _, h3, r⟩ := h2
        exact .inr (.inl ⟨a, vs, xs, e, rfl, h3, r⟩)
      | j c ds =>
        cases e
        obtain ⟨a, dx, fs, e, _, ik, h3, h5, r⟩ := h2
        exact .inr (.inr ⟨a, dx, c, fs, ds, e, rfl, ik, h3, h5, r⟩)
      | t kvs => cases e
/-- by values -/
def OpS (T : Kt) (r : R2) (op : D → D → Option Slot) : Prop := ∀ G H v w x y s (Q : VK), Same G H → Pk T G H v x → Pk T G H w y → op x y = some s → (∀ u G' H', Al G H G' H' → RNew T H G' H' u s → Q u H') → r v w H Q
def op2 (op : D → D → Option Slot) (fa fb : M Pv) : M Slot := bd fa fun p => bd fb fun q ρ => match rdP ρ p, rdP ρ q with
  | some x, some y => lf (op x y) ρ
  | _, _ => .no
theorem de_op {r : R2} {op : D → D → Option Slot} {ta tb : TE} {fa fb : M Pv} (ho : OpS T r op) (ha : Dk T E ta fa) (hb : Dk T E tb fb) : De T E (tOp r ta tb) (op2 op fa fb) := by
  intro B G0 H0 ρ σ G H I
  refine Pt.bd (t := ta σ) (u := fun x H1 (Q : VK) => tb σ H1 fun y H2 => r x y H2 Q) (ha B G0 H0 ρ σ G H I) fun p ρ1 v G1 H1 _ I1 k1 r1 => ?_
  refine Pt.bd (t := tb σ) (u := fun y H2 (Q : VK) => r v y H2 Q) (hb B G0 H0 ρ1 σ G1 H1 I1) fun q ρ2 w G2 H2 _ I2 k2 r2 => ?_
  have r1' : POk T σ G2 v p := by
    cases p with
    | d x => exact Rp.mono k2 r1
    | s i => exact r1
  cases e1 : rdP ρ2 p with
  | none => exact Pt.no
  | some x =>
    cases e2 : rdP ρ2 q with
    | none => exact Pt.no
    | some y =>
      refine Pt.lf fun s e => Pt.ok fun Q q => ?_
      exact ho G2 H2 v w x y s Q I2.gh (I2.pk r1' e1) (I2.pk r2 e2) e fun u G' H' al rn => q u G' H' (I2.al al) al.gg (I2.vok rn)
/-- one operand -/
def UnS (T : Kt) (r : V → Hp → VK → Prop) (op : D → Option Slot) : Prop := ∀ G H v x s (Q : VK), Same G H → Pk T G H v x → op x = some s → (∀ u G' H', Al G H G' H' → RNew T H G' H' u s → Q u H') → r v H Q
def op1 (op : D → Option Slot) (fa : M Pv) : M Slot := bd fa fun p ρ => match rdP ρ p with
  | some x => lf (op x) ρ
  | none => .no
theorem de_un {r : V → Hp → VK → Prop} {op : D → Option Slot} {ta : TE} {fa : M Pv} (ho : UnS T r op) (ha : Dk T E ta fa) : De T E (fun σ H Q => ta σ H fun x H1 => r x H1 Q) (op1 op fa) := by
  intro B G0 H0 ρ σ G H I
  refine Pt.bd (t := ta σ) (u := fun x H1 (Q : VK) => r x H1 Q) (ha B G0 H0 ρ σ G H I) fun p ρ1 v G1 H1 _ I1 k1 r1 => ?_
  cases e1 : rdP ρ1 p with
  | none => exact Pt.no
  | some x =>
    refine Pt.lf fun s e => Pt.ok fun Q q => ?_
    exact ho G1 H1 v x s Q I1.gh (I1.pk r1 e1) e fun u G' H' al rn => q u G' H' (I1.al al) al.gg (I1.vok rn)
/-! ### tests -/
def tE (f : M Slot) : M Bool := bd f fun s => match s with
  | .d (.bool b) => ret b
  | _ => fun _ => .no
theorem dt_of {t : TE} {f : M Slot} (h : De T E t f) : Dt T E (tB t) (tE f) := by
  intro B G0 H0 ρ σ G H I
  refine Pt.bd (t := t σ) (u := fun x H1 (Q : Bool → Hp → Prop) => ∃ c, x = .bl c ∧ Q c H1) (h B G0 H0 ρ σ G H I) fun s ρ1 v G1 H1 e0 I1 k1 r1 => ?_
  split
  · rename_i b
    refine Pt.ok fun Q q => ?_
    cases r1.1
    exact ⟨b, rfl, q b G1 H1 I1 (Same.refl _) rfl⟩
  · exact Pt.no
theorem dt_of' {t : TE} {f : M Slot} (h : De T E t f) : Dt T E (tTest t) (tE f) := dt_of h
/-- truth -/
def truD : D → Option Bool
  | .none => some false
  | .bool b => some b
  | .int i => some (i != 0)
  | .list xs => some (!xs.isEmpty)
  | .tuple xs => some (!xs.isEmpty)
  | _ => none
def trE (f : M Pv) : M Bool := bd f fun p ρ => match rdP ρ p with
  | some x => lf (truD x) ρ
  | none => .no
theorem isE {vs : List V} {ds : List D} (r : RpL T G vs ds) : vs.isEmpty = ds.isEmpty := by cases r <;> rfl
theorem tru_ok {v : V} {x : D} {b : Bool} (g : Same G H) (h : Pk T G H v x) (e : truD x = some b) : TruV T.K v H b := by
  rcases h with h | ⟨a, vs, xs, rfl, rfl, h1, r⟩ | ⟨a, dx, c, fs, ds, rfl, rfl, _⟩
  · cases h with
    | non => cases e; rfl
    | bl b => cases e; rfl
    | int i => cases e; rfl
    | str x => cases e
    | lst h r => cases e; exact .inl ⟨_, SqL.of (g _ _ h), by rw [isE r]⟩
    | tup h r => cases e; exact .inr (.inl ⟨_, SqT.of (g _ _ h), by rw [isE r]⟩)
    | ins _ _ _ _ => cases e
    | fn k _ => cases e
    | scr _ _ => cases e
    | dct _ => cases e
    | tab _ _ => cases e
  · cases e
    exact .inl ⟨_, SqL.of h1, by rw [isE r]⟩
  · cases e
theorem dt_truth {t : TE} {f : M Pv} (h : Dk T E t f) : Dt T E (fun σ H Q => t σ H fun x H1 => ∃ k, TruV T.K x H1 k ∧ Q k H1) (trE f) := by
  intro B G0 H0 ρ σ G H I
  refine Pt.bd (t := t σ) (u := fun x H1 (Q : Bool → Hp → Prop) => ∃ k, TruV T.K x H1 k ∧ Q k H1) (h B G0 H0 ρ σ G H I) fun p ρ1 v G1 H1 _ I1 k1 r1 => ?_
  cases e1 : rdP ρ1 p with
  | none => exact Pt.no
  | some x =>
    refine Pt.lf fun b e => Pt.ok fun Q q => ?_
    exact ⟨b, tru_ok I1.gh (I1.pk r1 e1) e, q b G1 H1 I1 (Same.refl _) rfl⟩
def andM (f g : M Bool) : M Bool := bd f fun b => if b then g else ret false
def orM (f g : M Bool) : M Bool := bd f fun b => if b then ret true else g
def notM (f : M Bool) : M Bool := bd f fun b => ret (!b)
theorem dt_and {t u : TT} {f g : M Bool} (ht : Dt T E t f) (hu : Dt T E u g) : Dt T E (tAnd t u) (andM f g) := by
  intro B G0 H0 ρ σ G H I
  refine Pt.bd (t := t σ) (u := fun c H1 (Q : Bool → Hp → Prop) => if c = true then u σ H1 Q else Q false H1) (ht B G0 H0 ρ σ G H I) fun b ρ1 c G1 H1 _ I1 k1 r1 => ?_
  cases r1
  cases b with
  | true => exact hu B G0 H0 ρ1 σ G1 H1 I1
  | false => exact Pt.ok fun Q q => q false G1 H1 I1 (Same.refl _) rfl
theorem dt_or {t u : TT} {f g : M Bool} (ht : Dt T E t f) (hu : Dt T E u g) : Dt T E (tOr t u) (orM f g) := by
  intro B G0 H0 ρ σ G H I
  refine Pt.bd (t := t σ) (u := fun c H1 (Q : Bool → Hp → Prop) => if c = true then Q true H1 else u σ H1 Q) (ht B G0 H0 ρ σ G H I) fun b ρ1 c G1 H1 _ I1 k1 r1 => ?_
  cases r1
  cases b with
  | false => exact hu B G0 H0 ρ1 σ G1 H1 I1
  | true => exact Pt.ok fun Q q => q true G1 H1 I1 (Same.refl _) rfl
theorem dt_not {t : TT} {f : M Bool} (ht : Dt T E t f) : Dt T E (tNot t) (notM f) := by
  intro B G0 H0 ρ σ G H I
  refine Pt.bd (t := t σ) (u := fun c H1 (Q : Bool → Hp → Prop) => Q (!c) H1) (ht B G0 H0 ρ σ G H I) fun b ρ1 c G1 H1 _ I1 k1 r1 => ?_
  cases r1
  exact Pt.ok fun Q q => q (!b) G1 H1 I1 (Same.refl _) rfl
/-! ### and, or, not as values; conditional expressions -/
def bE (f : M Bool) : M Slot := bd f fun b => ret (.d (.bool b))
def andV (f g : M Slot) : M Slot := bd f fun s => match s with
  | .d (.bool true) => g
  | .d (.bool false) => ret (.d (.bool false))
  | _ => fun _ => .no
def orV (f g : M Slot) : M Slot := bd f fun s => match s with
  | .d (.bool true) => ret (.d (.bool true))
  | .d (.bool false) => g
  | _ => fun _ => .no
def notV (f : M Slot) : M Slot := bd f fun s => match s with
  | .d (.bool b) => ret (.d (.bool (!b)))
  | _ => fun _ => .no
theorem de_and {ta tb : TE} {f g : M Slot} (ha : De T E ta f) (hb : De T E tb g) : De T E (tAndV ta tb) (andV f g) := by
  intro B G0 H0 ρ σ G H I
  refine Pt.bd (t := ta σ) (u := fun x H1 (Q : VK) => ∃ c, x = .bl c ∧ if c = true then tb σ H1 Q else Q (.bl false) H1) (ha B G0 H0 ρ σ G H I) fun s ρ1 v G1 H1 e0 I1 k1 r1 => ?_
  split
  · cases r1.1
    intro Q
    have h := hb B G0 H0 ρ1 σ G1 H1 I1 Q
    revert h
    cases g ρ1 with
    | no => exact fun _ => trivial
    | exc c x => exact fun h w => ⟨true, rfl, h w⟩
    | ok z => exact fun h q => ⟨true, rfl, h q⟩
  · cases r1.1
    exact Pt.ok fun Q q => ⟨false, rfl, q _ G1 H1 I1 (Same.refl _) (vok_d (.bl false))⟩
  · exact Pt.no
theorem de_or {ta tb : TE} {f g : M Slot} (ha : De T E ta f) (hb : De T E tb g) : De T E (tOrV ta tb) (orV f g) := by
  intro B G0 H0 ρ σ G H I
  refine Pt.bd (t := ta σ) (u := fun x H1 (Q : VK) => ∃ c, x = .bl c ∧ if c = true then Q (.bl true) H1 else tb σ H1 Q) (ha B G0 H0 ρ σ G H I) fun s ρ1 v G1 H1 e0 I1 k1 r1 => ?_
  split
  · cases r1.1
    exact Pt.ok fun Q q => ⟨true, rfl, q _ G1 H1 I1 (Same.refl _) (vok_d (.bl true))⟩
  · cases r1.1
    intro Q
    have h := hb B G0 H0 ρ1 σ G1 H1 I1 Q
    revert h
    cases g ρ1 with
    | no => exact fun _ => trivial
    | exc c x => exact fun h w => ⟨false, rfl, h w⟩
    | ok z => exact fun h q => ⟨false, rfl, h q⟩
  · exact Pt.no
theorem de_not {ta : TE} {f : M Slot} (ha : De T E ta f) : De T E (tNotV ta) (notV f) := by
  intro B G0 H0 ρ σ G H I
  refine Pt.bd (t := ta σ) (u := fun x H1 (Q : VK) => ∃ c, x = .bl c ∧ Q (.bl (!c)) H1) (ha B G0 H0 ρ σ G H I) fun s ρ1 v G1 H1 e0 I1 k1 r1 => ?_
  split
  · rename_i b
    cases r1.1
    exact Pt.ok fun Q q => ⟨b, rfl, q _ G1 H1 I1 (Same.refl _) (vok_d (.bl _))⟩
  · exact Pt.no
def ifE (c : M Bool) (f g : M Slot) : M Slot := bd c fun b => if b then f else g
theorem de_if {t : TT} {ta tb : TE} {c : M Bool} {f g : M Slot} (hc : Dt T E t c) (ha : De T E ta f) (hb : De T E tb g) : De T E (tIf t ta tb) (ifE c f g) := by
  intro B G0 H0 ρ σ G H I
  refine Pt.bd (t := t σ) (u := fun c H1 (Q : VK) => if c = true then ta σ H1 Q else tb σ H1 Q) (hc B G0 H0 ρ σ G H I) fun b ρ1 c G1 H1 _ I1 k1 r1 => ?_
  cases r1
  cases b with
  | true => exact ha B G0 H0 ρ1 σ G1 H1 I1
  | false => exact hb B G0 H0 ρ1 σ G1 H1 I1
/-! ### chains -/
def chn (op op' : D → D → Option Slot) (fa fb fc : M Pv) : M Slot := bd fa fun p => bd fb fun q ρ => match rdP ρ p, rdP ρ q with
  | some x, some y => match op x y with
    | some (.d (.bool true)) => bd fc (fun r ρ' => match rdP ρ' q, rdP ρ' r with
      | some y, some z => lf (op' y z) ρ'
      | _, _ => .no) ρ
    | some (.d (.bool false)) => .ok (.d (.bool false), ρ)
    | _ => .no
  | _, _ => .no
/-! ### arguments -/
def nilA : M (List D) := ret []
def consA (f : M Slot) (g : M (List D)) : M (List D) := bd (sE f) fun x => bd g fun xs => ret (x :: xs)
def nilP : M (List Pv) := ret []
def consP (f : M Pv) (g : M (List Pv)) : M (List Pv) := bd f fun x => bd g fun xs => ret (x :: xs)
theorem da_nil : Da T E tNil nilA := by
  intro B G0 H0 ρ σ G H I
  exact Pt.ok fun Q q => q [] G H I (Same.refl _) .nil
theorem da_cons {t : TE} {u : TA} {f : M Slot} {g : M (List D)} (ht : De T E t f) (hu : Da T E u g) : Da T E (tCons t u) (consA f g) := by
  intro B G0 H0 ρ σ G H I
  refine Pt.bd (t := t σ) (u := fun x H1 (Q : List V → Hp → Prop) => u σ H1 fun xs H2 => Q (x :: xs) H2) (dd_of ht B G0 H0 ρ σ G H I) fun x ρ1 v G1 H1 _ I1 k1 r1 => ?_
  refine Pt.bd (t := u σ) (u := fun xs H2 (Q : List V → Hp → Prop) => Q (v :: xs) H2) (hu B G0 H0 ρ1 σ G1 H1 I1) fun xs ρ2 vs G2 H2 _ I2 k2 r2 => ?_
  exact Pt.ok fun Q q => q _ G2 H2 I2 (Same.refl _) (.cons (r1.mono k2) r2)
theorem dp_nil : Dp T E tNil nilP := by
  intro B G0 H0 ρ σ G H I
  exact Pt.ok fun Q q => q [] G H I (Same.refl _) .nil
theorem POk.mono {v : V} {p : Pv} (k : Same G G') (h : POk T σ G v p) : POk T σ G' v p := by
  cases p with
  | d x => exact Rp.mono k h
  | s i => exact h
theorem dp_cons {t : TE} {u : TA} {f : M Pv} {g : M (List Pv)} (ht : Dk T E t f) (hu : Dp T E u g) : Dp T E (tCons t u) (consP f g) := by
  intro B G0 H0 ρ σ G H I
  refine Pt.bd (t := t σ) (u := fun x H1 (Q : List V → Hp → Prop) => u σ H1 fun xs H2 => Q (x :: xs) H2) (ht B G0 H0 ρ σ G H I) fun x ρ1 v G1 H1 _ I1 k1 r1 => ?_
  refine Pt.bd (t := u σ) (u := fun xs H2 (Q : List V → Hp → Prop) => Q (v :: xs) H2) (hu B G0 H0 ρ1 σ G1 H1 I1) fun xs ρ2 vs G2 H2 _ I2 k2 r2 => ?_
  exact Pt.ok fun Q q => q _ G2 H2 I2 (Same.refl _) (.cons (r1.mono k2) r2)
/-! ### displays -/
def tupE (f : M (List D)) : M Slot := bd f fun xs => lf (if xs.length ≤ 1000 then some (.d (.tuple xs)) else none)
def lstE (f : M (List D)) : M Slot := bd f fun xs => lf (if xs.length ≤ 1000 then some (.o xs) else none)
theorem de_tup {t : TA} {f : M (List D)} (h : Da T E t f) : De T E (tTup t) (tupE f) := by
  intro B G0 H0 ρ σ G H I
  refine Pt.bd (t := t σ) (u := fun xs H1 (Q : VK) => xs.length ≤ sizeLine ∧ ∀ p, H1 p = none → Q (.ref p) (upd H1 p (.tup xs))) (h B G0 H0 ρ σ G H I) fun ds ρ1 vs G1 H1 _ I1 k1 r1 => ?_
  refine Pt.lf fun s e => ?_
  split at e
  · cases e
    rename_i hl
    refine Pt.ok fun Q q => ⟨by rw [RpL.len r1]; exact len_le (by omega), fun p n => ?_⟩
    have al := Al.new (o := .tup vs) I1.gh n
    exact q _ _ _ (I1.al al) al.gg (vok_d (.tup upd_same (r1.mono al.gg)))
  · cases e
theorem de_lst {t : TA} {f : M (List D)} (h : Da T E t f) : De T E (tLst t) (lstE f) := by
  intro B G0 H0 ρ σ G H I
  refine Pt.bd (t := t σ) (u := fun xs H1 (Q : VK) => xs.length ≤ sizeLine ∧ ∀ p, H1 p = none → Q (.ref p) (upd H1 p (.lst xs))) (h B G0 H0 ρ σ G H I) fun ds ρ1 vs G1 H1 _ I1 k1 r1 => ?_
  refine Pt.lf fun s e => ?_
  split at e
  · cases e
    rename_i hl
    refine Pt.ok fun Q q => ⟨by rw [RpL.len r1]; exact len_le (by omega), fun p n => ?_⟩
    have al := Al.newO (o := .lst vs) I1.gh n
    exact q _ _ _ (I1.al al) al.gg (I1.vok (s := .o ds) ⟨p, vs, rfl, n, upd_same, Same.none I1.gh n, r1⟩)
  · cases e
end
end DL
/-! NCOps: operations of the data layer, each with one rule for all kinds of operands. -/
namespace DL
open PySem PySem.Spec PyProof.Rows L2
/-! ### rules by values, with the written part told -/
def rAddU (K : PySem.W.Frag) : R2 := fun x y H Q => rI0 (fun i j => .int (i + j)) x y H Q ∨ rCat x y H Q ∨ rCatT K x y H Q
theorem op_addU {X : Cx} (K : PySem.W.Frag) (h : X.K = K := by rfl) : OpR X (binaryOp .Add) (rAddU K) := by subst h; exact OpR.or op_add (OpR.or op_cat op_catT)
def rMulU : R2 := fun x y H Q => rI CMulA (fun i j => .int (i * j)) x y H Q ∨ rRep x y H Q
theorem op_mulU {X : Cx} : OpR X (binaryOp .Mult) rMulU := OpR.or op_mulA op_rep
theorem op_powU {X : Cx} : OpR X (binaryOp .Pow) (rI CPowA fun i j => .int (i ^ j.toNat)) := op_powA
/-- two lists of other lengths -/
def rEqN (K : PySem.W.Frag) (b : Bool) : R2 := fun x y H Q => ∃ p q xs ys, x = .ref p ∧ y = .ref q ∧ SqL K H p xs ∧ SqL K H q ys ∧ xs.length ≠ ys.length ∧ Q (.bl b) H
theorem op_eqN {X : Cx} (hu : X.A.units + 64 < cLine) : OpR X (compareOp .Eq) (rEqN X.K false) := by
  intro pins s σ H x y v u Q I rx ry h
  obtain ⟨p, q, xs, ys, rfl, rfl, h1, h2, n, k⟩ := h
  cases rx
  cases ry
  obtain ⟨its, r1, p1, _⟩ := I.list h1
  obtain ⟨jts, r2, p2, _⟩ := I.list h2
  refine SeqAt.eq_list_lengthsAt p1.isList p2.isList ?_ (by omega) ⟨.bl false, H, I, rfl, k⟩
  rw [List.size_toArray, List.size_toArray, ← r1.length, ← r2.length]
  exact bne_iff_ne.mpr n
def rEqU (K : PySem.W.Frag) : R2 := fun x y H Q => rEqD K x y H Q ∨ rEqN K false x y H Q
theorem op_eqU {X : Cx} (K : PySem.W.Frag) (hu : X.A.units + 64 < cLine) (h : X.K = K := by rfl) : OpR X (compareOp .Eq) (rEqU K) := by subst h; exact OpR.or (op_eqD hu) (op_eqN hu)
def rNeU (K : PySem.W.Frag) : R2 := rNeD K
theorem op_neU {X : Cx} (K : PySem.W.Frag) (hu : X.A.units + 64 < cLine) (h : X.K = K := by rfl) : OpR X (compareOp .NotEq) (rNeU K) := by subst h; exact op_neD hu
/-- in a list, in a tuple -/
def rInU (K : PySem.W.Frag) (neg : Bool) : R2 := fun x y H Q => ∃ d e ds, L2.Dp K H x d ∧ L2.Dp K H y e ∧ (e = .list ds ∨ e = .tuple ds) ∧ SeqAt.shaped d = true ∧ SeqAt.shaped e = true ∧ Q (.bl (if neg then !ds.any (fun z => PyData.eqv z d) else ds.any fun z => PyData.eqv z d)) H
theorem op_inU {X : Cx} (K : PySem.W.Frag) (hu : X.A.units + 65 < cLine) (h : X.K = K := by rfl) : OpR X (compareOp .In) (rInU K false) := by
  subst h
  intro pins s σ H x y v u Q I rx ry h
  obtain ⟨d, e, ds, hd, he, hl, sd, se, q⟩ := h
  obtain ⟨as, r1⟩ := Dp.reads I d x v hd rx
  obtain ⟨bs, r2⟩ := Dp.reads I e y u he ry
  rcases hl with rfl | rfl
  · exact SeqAt.in_list_reads r2 r1 (SeqAt.canLay_of_shaped se) (SeqAt.canLay_of_shaped sd) (room_in_shaped sd hu) ⟨.bl _, H, I, rfl, q⟩
  · exact SeqAt.in_tuple_reads r2 r1 (SeqAt.canLay_of_shaped se) (SeqAt.canLay_of_shaped sd) (room_in_shaped sd hu) ⟨.bl _, H, I, rfl, q⟩
theorem op_notInU {X : Cx} (K : PySem.W.Frag) (hu : X.A.units + 65 < cLine) (h : X.K = K := by rfl) : OpR X (compareOp .NotIn) (rInU K true) := by
  subst h
  intro pins s σ H x y v u Q I rx ry h
  obtain ⟨d, e, ds, hd, he, hl, sd, se, q⟩ := h
  obtain ⟨as, r1⟩ := Dp.reads I d x v hd rx
  obtain ⟨bs, r2⟩ := Dp.reads I e y u he ry
  rcases hl with rfl | rfl
  · exact SeqAt.notIn_list_reads r2 r1 (SeqAt.canLay_of_shaped se) (SeqAt.canLay_of_shaped sd) (room_in_shaped sd hu) ⟨.bl _, H, I, rfl, q⟩
  · exact SeqAt.notIn_tuple_reads r2 r1 (SeqAt.canLay_of_shaped se) (SeqAt.canLay_of_shaped sd) (room_in_shaped sd hu) ⟨.bl _, H, I, rfl, q⟩
def rIxU (K : PySem.W.Frag) : R2 := fun x y H Q => rIxL K x y H Q ∨ rIxT K x y H Q
theorem ix_U {X : Cx} (K : PySem.W.Frag) (h : X.K = K := by rfl) : IxR X (rIxU K) := by subst h; exact IxR.or ix_list ix_tup
def rSlU (K : PySem.W.Frag) : V → Option Int → Option Int → Hp → VK → Prop := fun x lo hi H Q => rSlL K x lo hi H Q ∨ rSlT K x lo hi H Q
theorem sl_U {X : Cx} (K : PySem.W.Frag) (h : X.K = K := by rfl) : SlR X (rSlU K) := by subst h; exact SlR.or sl_list sl_tup
def rIsN : R2 := fun x y H Q => y = .non ∧ Q (.bl (decide (x = .non))) H
def rNotN : R2 := fun x y H Q => y = .non ∧ Q (.bl (!decide (x = .non))) H
theorem op_isNU {X : Cx} : OpR X (compareOp .Is) rIsN := op_isN
theorem op_notNU {X : Cx} : OpR X (compareOp .IsNot) rNotN := op_notN
/-! ### data -/
mutual
theorem Rp.dp {T : Kt} {G H : Hp} (g : Same G H) : ∀ {v : V} {d : D}, Rp T G v d → d.canLay0 = true → L2.Dp T.K H v d
  | _, _, .non, _ => .non
  | _, _, .bl b, _ => .bl b
  | _, _, .int i, _ => .int i
  | _, _, .str x, _ => .str x
  | _, _, .lst h r, c => .lst (SqL.of (g _ _ h)) (RpL.dp g r c)
  | _, _, .tup h r, c => .tup (SqT.of (g _ _ h)) (RpL.dp g r c)
  | _, _, .ins _ _ _ _, c => by cases c
  | _, _, .fn _ _, c => by cases c
  | _, _, .scr _ _, c => by cases c
  | _, _, .dct _, c => by cases c
  | _, _, .tab _ _, c => by cases c
theorem RpL.dp {T : Kt} {G H : Hp} (g : Same G H) : ∀ {vs : List V} {ds : List D}, RpL T G vs ds → PyData.canLayAll0 ds = true → DpAll T.K H vs ds
  | _, _, .nil, _ => .nil
  | _, d :: ds, .cons h r, c => by
    have c2 : (d.canLay0 && PyData.canLayAll0 ds) = true := c
    obtain ⟨c3, c4⟩ := Bool.and_eq_true_iff.mp c2
    exact .cons (Rp.dp g h c3) (RpL.dp g r c4)
end
section
variable {T : Kt} {G H : Hp}
theorem shp_lay {d : D} (s : SeqAt.shaped d = true) : d.canLay0 = true := (Bool.and_eq_true_iff.mp s).1
theorem Pk.dp {v : V} {d : D} (g : Same G H) (h : Pk T G H v d) (s : SeqAt.shaped d = true) : L2.Dp T.K H v d := by
  rcases h with h | ⟨a, vs, xs, rfl, rfl, h1, r⟩ | ⟨a, dx, c, fs, ds, rfl, rfl, _⟩
  · exact h.dp g (shp_lay s)
  · exact .lst (SqL.of h1) (r.dp g (shp_lay s))
  · cases s
/-- an operand that is a list, a tuple, an int .. -/
theorem Pk.list {v : V} {xs : List D} (g : Same G H) (h : Pk T G H v (.list xs)) : ∃ a vs, v = .ref a ∧ H a = some (.lst vs) ∧ RpL T G vs xs := by
  rcases h with h | ⟨a, vs, ys, e, e2, h1, r⟩ | ⟨a, dx, c, fs, ds, _, e, _⟩
  · cases h with
    | lst h r => exact ⟨_, _, rfl, g _ _ h, r⟩
  · cases e2
    exact ⟨a, vs, e, h1, r⟩
  · cases e
theorem Pk.tup {v : V} {xs : List D} (g : Same G H) (h : Pk T G H v (.tuple xs)) : ∃ a vs, v = .ref a ∧ H a = some (.tup vs) ∧ G a = some (.tup vs) ∧ RpL T G vs xs := by
  rcases h with h | ⟨a, vs, ys, e, e2, h1, r⟩ | ⟨a, dx, c, fs, ds, _, e, _⟩
  · cases h with
    | tup h r => exact ⟨_, _, rfl, g _ _ h, h, r⟩
  · cases e2
  · cases e
theorem Pk.scr {v : V} {xs : List D} (g : Same G H) (h : Pk T G H v (dScr xs)) : ∃ a vs, v = .ref a ∧ SqL T.K H a vs ∧ RpL T G vs xs := by
  rcases h with h | ⟨a, vs, ys, e, e2, h1, r⟩ | ⟨a, dx, c, fs, ds, _, e, _⟩
  · cases h with
    | scr h r => exact ⟨_, _, rfl, sql_mono g h, r⟩
  · cases e2
  · cases e
theorem Pk.int {v : V} {i : Int} (h : Pk T G H v (.int i)) : v = .int i := by
  rcases h with h | ⟨a, vs, ys, e, e2, h1, r⟩ | ⟨a, dx, c, fs, ds, _, e, _⟩
  · cases h; rfl
  · cases e2
  · cases e
theorem Pk.bl {v : V} {i : Bool} (h : Pk T G H v (.bool i)) : v = .bl i := by
  rcases h with h | ⟨a, vs, ys, e, e2, h1, r⟩ | ⟨a, dx, c, fs, ds, _, e, _⟩
  · cases h; rfl
  · cases e2
  · cases e
theorem Pk.non {v : V} {x : D} (h : Pk T G H v x) : (v = .non) ↔ (x = .none) := by
  rcases h with h | ⟨a, vs, ys, e, e2, h1, r⟩ | ⟨a, dx, c, fs, ds, e, e2, _⟩
  · cases h <;> simp
  · subst e e2; simp
  · subst e e2; simp
/-! ### the operations -/
def lenOk (n : Nat) : Bool := Nat.ble n 1000000
theorem lenOk_le {n : Nat} (h : lenOk n = true) : n ≤ sizeLine := len_le (Nat.le_of_ble_eq_true h)
def opAdd : D → D → Option Slot
  | .int i, .int j => some (.d (.int (i + j)))
  | .list xs, .list ys => if lenOk (xs.length + ys.length) then some (.o (xs ++ ys)) else none
  | .tuple (x :: xs), .tuple ys => if lenOk ((x :: xs).length + ys.length) then some (.d (.tuple (x :: xs ++ ys))) else none
  | _, _ => none
theorem os_add : OpS T (rAddU T.K) opAdd := by
  intro G H v w x y s Q g hv hw e q
  unfold opAdd at e
  split at e
  · rename_i i j
    cases e
    exact .inl ⟨i, j, hv.int, hw.int, q _ G H (Al.refl g) (.int _)⟩
  · rename_i xs ys
    split at e
    · cases e
      rename_i hl
      obtain ⟨a, vs, rfl, h1, r1⟩ := hv.list g
      obtain ⟨b, ws, rfl, h2, r2⟩ := hw.list g
      refine .inr (.inl ⟨a, b, vs, ws, rfl, rfl, h1, h2, ?_, fun p n => ?_⟩)
      · rw [r1.len, r2.len]; exact lenOk_le hl
      · exact q _ G _ (Al.newO g n) ⟨p, _, rfl, n, upd_same, Same.none g n, r1.app r2⟩
    · cases e
  · rename_i x0 xs ys
    split at e
    · cases e
      rename_i hl
      obtain ⟨a, vs, rfl, h1, g1, r1⟩ := hv.tup g
      obtain ⟨b, ws, rfl, h2, g2, r2⟩ := hw.tup g
      refine .inr (.inr ⟨a, b, vs, ws, rfl, rfl, SqT.of h1, SqT.of h2, ?_, ?_, fun z => ?_, fun z p n => ?_⟩)
      · intro z; subst z; cases r1
      · rw [r1.len, r2.len]; exact lenOk_le hl
      · subst z
        cases r2
        refine q _ G H (Al.refl g) (.tup g1 ?_)
        rw [List.append_nil]
        exact r1
      · exact q _ _ _ (Al.new g n) (.tup upd_same ((r1.app r2).mono (Al.new g n).gg))
    · cases e
  · cases e
def opSub : D → D → Option Slot
  | .int i, .int j => some (.d (.int (i - j)))
  | _, _ => none
theorem os_sub : OpS T (rI0 fun i j => .int (i - j)) opSub := by
  intro G H v w x y s Q g hv hw e q
  unfold opSub at e
  split at e
  · rename_i i j
    cases e
    exact ⟨i, j, hv.int, hw.int, q _ G H (Al.refl g) (.int _)⟩
  · cases e
def mulOk (i j : Int) : Bool := Nat.blt i.natAbs 18446744073709551616 || Nat.blt j.natAbs 18446744073709551616 || (Nat.blt i.natAbs (2 ^ 400) && Nat.blt j.natAbs (2 ^ 400))
theorem blt_lt {a b : Nat} (h : Nat.blt a b = true) : a < b := Nat.le_of_ble_eq_true h
theorem mulOk_ok {i j : Int} (h : mulOk i j = true) : CMulA i j := by
  unfold mulOk at h
  rcases Bool.or_eq_true_iff.mp h with h | h
  · rcases Bool.or_eq_true_iff.mp h with h | h
    · have := blt_lt h
      exact .inl (.inl ⟨by omega, by omega⟩)
    · have := blt_lt h
      exact .inl (.inr ⟨by omega, by omega⟩)
  · obtain ⟨h1, h2⟩ := Bool.and_eq_true_iff.mp h
    exact mulW (blt_lt h1) (blt_lt h2)
def opMul : D → D → Option Slot
  | .int i, .int j => if mulOk i j then some (.d (.int (i * j))) else none
  | .list xs, .int k => if Nat.blt k.natAbs 1000 && lenOk (xs.length * k.toNat) then some (.o (List.replicate k.toNat xs).flatten) else none
  | _, _ => none
theorem os_mul : OpS T rMulU opMul := by
  intro G H v w x y s Q g hv hw e q
  unfold opMul at e
  split at e
  · rename_i i j
    split at e
    · rename_i h
      cases e
      exact .inl ⟨i, j, hv.int, hw.int, mulOk_ok h, q _ G H (Al.refl g) (.int _)⟩
    · cases e
  · rename_i xs k
    split at e
    · rename_i h
      cases e
      obtain ⟨h1, h2⟩ := Bool.and_eq_true_iff.mp h
      have := blt_lt h1
      obtain ⟨a, vs, rfl, h3, r⟩ := hv.list g
      refine .inr ⟨a, k, vs, rfl, hw.int, h3, by omega, by omega, ?_, fun p n => q _ G _ (Al.newO g n) ⟨p, _, rfl, n, upd_same, Same.none g n, r.rep _⟩⟩
      rw [r.len]
      exact lenOk_le h2
    · cases e
  · cases e
def opDiv : D → D → Option Slot
  | .int i, .int j => if j != 0 && Nat.blt j.natAbs.log2 9000 then some (.d (.int (i.fdiv j))) else none
  | _, _ => none
theorem os_div : OpS T (rI CDivA fun i j => .int (i.fdiv j)) opDiv := by
  intro G H v w x y s Q g hv hw e q
  unfold opDiv at e
  split at e
  · rename_i i j
    split at e
    · rename_i h
      cases e
      obtain ⟨h1, h2⟩ := Bool.and_eq_true_iff.mp h
      exact ⟨i, j, hv.int, hw.int, ⟨bne_iff_ne.mp h1, blt_lt h2⟩, q _ G H (Al.refl g) (.int _)⟩
    · cases e
  · cases e
def opMod : D → D → Option Slot
  | .int i, .int j => if j != 0 then some (.d (.int (i.fmod j))) else none
  | _, _ => none
theorem os_mod : OpS T (rI (fun _ j => j ≠ 0) fun i j => .int (i.fmod j)) opMod := by
  intro G H v w x y s Q g hv hw e q
  unfold opMod at e
  split at e
  · rename_i i j
    split at e
    · rename_i h
      cases e
      exact ⟨i, j, hv.int, hw.int, bne_iff_ne.mp h, q _ G H (Al.refl g) (.int _)⟩
    · cases e
  · cases e
def powOk (i j : Int) : Bool := decide (0 ≤ j) && decide ((Builtin.Int.intBits i : Int) * j ≤ 134217728)
def opPow : D → D → Option Slot
  | .int i, .int j => if powOk i j then some (.d (.int (i ^ j.toNat))) else none
  | _, _ => none
theorem os_pow : OpS T (rI CPowA fun i j => .int (i ^ j.toNat)) opPow := by
  intro G H v w x y s Q g hv hw e q
  unfold opPow at e
  split at e
  · rename_i i j
    split at e
    · rename_i h
      cases e
      obtain ⟨h1, h2⟩ := Bool.and_eq_true_iff.mp h
      have h3 := of_decide_eq_true h2
      have e27 : (2 : Int) ^ 27 = 134217728 := by decide
      have h4 : CPowA i j := ⟨of_decide_eq_true h1, by rw [e27]; exact h3⟩
      exact ⟨i, j, hv.int, hw.int, h4, q _ G H (Al.refl g) (.int _)⟩
    · cases e
  · cases e
def opLt : D → D → Option Slot
  | .int i, .int j => some (.d (.bool (decide (i < j))))
  | _, _ => none
def opLe : D → D → Option Slot
  | .int i, .int j => some (.d (.bool (decide (i ≤ j))))
  | _, _ => none
def opGt : D → D → Option Slot
  | .int i, .int j => some (.d (.bool (decide (j < i))))
  | _, _ => none
def opGe : D → D → Option Slot
  | .int i, .int j => some (.d (.bool (decide (j ≤ i))))
  | _, _ => none
theorem os_lt : OpS T (rI0 fun i j => .bl (decide (i < j))) opLt := by
  intro G H v w x y s Q g hv hw e q
  unfold opLt at e
  split at e
  · rename_i i j; cases e; exact ⟨i, j, hv.int, hw.int, q _ G H (Al.refl g) (.bl _)⟩
  · cases e
theorem os_le : OpS T (rI0 fun i j => .bl (decide (i ≤ j))) opLe := by
  intro G H v w x y s Q g hv hw e q
  unfold opLe at e
  split at e
  · rename_i i j; cases e; exact ⟨i, j, hv.int, hw.int, q _ G H (Al.refl g) (.bl _)⟩
  · cases e
theorem os_gt : OpS T (rI0 fun i j => .bl (decide (j < i))) opGt := by
  intro G H v w x y s Q g hv hw e q
  unfold opGt at e
  split at e
  · rename_i i j; cases e; exact ⟨i, j, hv.int, hw.int, q _ G H (Al.refl g) (.bl _)⟩
  · cases e
theorem os_ge : OpS T (rI0 fun i j => .bl (decide (j ≤ i))) opGe := by
  intro G H v w x y s Q g hv hw e q
  unfold opGe at e
  split at e
  · rename_i i j; cases e; exact ⟨i, j, hv.int, hw.int, q _ G H (Al.refl g) (.bl _)⟩
  · cases e
def eqD (x y : D) : Option Bool := if SeqAt.shaped x && SeqAt.shaped y then some (PyData.eqv x y) else match x, y with
  | .list [], .list (_ :: _) => some false
  | .list (_ :: _), .list [] => some false
  | _, _ => none
def opEq (x y : D) : Option Slot := (eqD x y).map fun b => .d (.bool b)
theorem os_eq : OpS T (rEqU T.K) opEq := by
  intro G H v w x y s Q g hv hw e q
  unfold opEq eqD at e
  split at e
  · rename_i h
    cases e
    obtain ⟨h1, h2⟩ := Bool.and_eq_true_iff.mp h
    exact .inl ⟨x, y, hv.dp g h1, hw.dp g h2, h1, h2, q _ G H (Al.refl g) (.bl _)⟩
  · split at e
    · cases e
      obtain ⟨a, vs, rfl, h1, r1⟩ := hv.list g
      obtain ⟨b, ws, rfl, h2, r2⟩ := hw.list g
      refine .inr ⟨a, b, vs, ws, rfl, rfl, SqL.of h1, SqL.of h2, ?_, q _ G H (Al.refl g) (.bl _)⟩
      rw [r1.len, r2.len]; simp
    · cases e
      obtain ⟨a, vs, rfl, h1, r1⟩ := hv.list g
      obtain ⟨b, ws, rfl, h2, r2⟩ := hw.list g
      refine .inr ⟨a, b, vs, ws, rfl, rfl, SqL.of h1, SqL.of h2, ?_, q _ G H (Al.refl g) (.bl _)⟩
      rw [r1.len, r2.len]; simp
    · cases e
def opNe (x y : D) : Option Slot := if SeqAt.shaped x && SeqAt.shaped y then some (.d (.bool (!PyData.eqv x y))) else none
theorem os_ne : OpS T (rNeU T.K) opNe := by
  intro G H v w x y s Q g hv hw e q
  unfold opNe at e
  split at e
  · rename_i h
    cases e
    obtain ⟨h1, h2⟩ := Bool.and_eq_true_iff.mp h
    exact ⟨x, y, hv.dp g h1, hw.dp g h2, h1, h2, q _ G H (Al.refl g) (.bl _)⟩
  · cases e
def inD (x : D) : D → Option Bool
  | .list ds => if SeqAt.shaped x && SeqAt.shaped (.list ds) then some (ds.any fun z => PyData.eqv z x) else none
  | .tuple ds => if SeqAt.shaped x && SeqAt.shaped (.tuple ds) then some (ds.any fun z => PyData.eqv z x) else none
  | _ => none
def opIn (x y : D) : Option Slot := (inD x y).map fun b => .d (.bool b)
def opNotIn (x y : D) : Option Slot := (inD x y).map fun b => .d (.bool (!b))
theorem inD_some {x y : D} {b : Bool} (e : inD x y = some b) : ∃ ds, (y = .list ds ∨ y = .tuple ds) ∧ SeqAt.shaped x = true ∧ SeqAt.shaped y = true ∧ b = ds.any fun z => PyData.eqv z x := by
  unfold inD at e
  split at e
  · split at e
    · rename_i h
      obtain ⟨h1, h2⟩ := Bool.and_eq_true_iff.mp h
      cases e
      exact ⟨_, .inl rfl, h1, h2, rfl⟩
    · cases e
  · split at e
    · rename_i h
      obtain ⟨h1, h2⟩ := Bool.and_eq_true_iff.mp h
      cases e
      exact ⟨_, .inr rfl, h1, h2, rfl⟩
    · cases e
  · cases e
theorem os_in : OpS T (rInU T.K false) opIn := by
  intro G H v w x y s Q g hv hw e q
  obtain ⟨b, e1, e2⟩ := Option.map_eq_some_iff.mp e
  subst e2
  obtain ⟨ds, h1, h2, h3, rfl⟩ := inD_some e1
  exact ⟨x, y, ds, hv.dp g h2, hw.dp g h3, h1, h2, h3, q _ G H (Al.refl g) (.bl _)⟩
theorem os_notIn : OpS T (rInU T.K true) opNotIn := by
  intro G H v w x y s Q g hv hw e q
  obtain ⟨b, e1, e2⟩ := Option.map_eq_some_iff.mp e
  subst e2
  obtain ⟨ds, h1, h2, h3, rfl⟩ := inD_some e1
  exact ⟨x, y, ds, hv.dp g h2, hw.dp g h3, h1, h2, h3, q _ G H (Al.refl g) (.bl _)⟩
def isNone : D → Bool
  | .none => true
  | _ => false
theorem isNone_iff {x : D} : isNone x = true ↔ x = .none := by cases x <;> simp [isNone]
def opIsN (x y : D) : Option Slot := if isNone y then some (.d (.bool (isNone x))) else none
def opNotN (x y : D) : Option Slot := if isNone y then some (.d (.bool (!isNone x))) else none
theorem non_dec {v : V} {x : D} (h : Pk T G H v x) : decide (v = .non) = isNone x := by
  cases e : isNone x with
  | true => exact decide_eq_true (h.non.mpr (isNone_iff.mp e))
  | false =>
    refine decide_eq_false fun z => ?_
    rw [isNone_iff.mpr (h.non.mp z)] at e
    cases e
theorem os_isN : OpS T rIsN opIsN := by
  intro G H v w x y s Q g hv hw e q
  unfold opIsN at e
  split at e
  · rename_i h
    cases e
    exact ⟨hw.non.mpr (isNone_iff.mp h), by rw [non_dec hv]; exact q _ G H (Al.refl g) (.bl _)⟩
  · cases e
theorem os_notN : OpS T rNotN opNotN := by
  intro G H v w x y s Q g hv hw e q
  unfold opNotN at e
  split at e
  · rename_i h
    cases e
    exact ⟨hw.non.mpr (isNone_iff.mp h), by rw [non_dec hv]; exact q _ G H (Al.refl g) (.bl _)⟩
  · cases e
/-! ### subscripts, slices -/
def ixD {α : Type} (xs : List α) (i : Int) : Option α := if 0 ≤ i then xs[i.toNat]? else if 0 ≤ i + (xs.length : Int) then xs[(i + (xs.length : Int)).toNat]? else none
def opIx : D → D → Option Slot
  | .list xs, .int i => (ixD xs i).map Slot.d
  | .tuple xs, .int i => (ixD xs i).map Slot.d
  | PyData.dict [(PyData.none, PyData.list xs)], .int i => (ixD xs i).map Slot.d
  | _, _ => none
theorem atI_ixD {vs : List V} {xs : List D} {i : Int} {x : D} (r : RpL T G vs xs) (e : ixD xs i = some x) : ∃ v, atI vs i = some v ∧ Rp T G v x := by
  unfold ixD at e
  unfold atI ixN
  have hl := r.len
  by_cases h0 : 0 ≤ i
  · rw [if_pos h0] at e
    obtain ⟨v, h1, h2⟩ := r.get e
    obtain ⟨hlt, _⟩ := List.getElem?_eq_some_iff.mp h1
    refine ⟨v, ?_, h2⟩
    rw [if_pos h0, if_pos (by omega)]
    exact h1
  · rw [if_neg h0] at e
    split at e
    · rename_i h3
      obtain ⟨v, h1, h2⟩ := r.get e
      refine ⟨v, ?_, h2⟩
      rw [if_neg h0, if_pos (by omega)]
      show vs[_]? = some v
      rw [← h1]
      congr 1
      omega
    · cases e
theorem os_ix : OpS T (rIxU T.K) opIx := by
  intro G H v w x y s Q g hv hw e q
  unfold opIx at e
  split at e
  · obtain ⟨z, e1, e2⟩ := Option.map_eq_some_iff.mp e
    subst e2
    obtain ⟨a, vs, rfl, h1, r⟩ := hv.list g
    obtain ⟨u, h2, h3⟩ := atI_ixD r e1
    exact .inl ⟨a, vs, _, u, rfl, hw.int, SqL.of h1, h2, q _ G H (Al.refl g) h3⟩
  · obtain ⟨z, e1, e2⟩ := Option.map_eq_some_iff.mp e
    subst e2
    obtain ⟨a, vs, rfl, h1, _, r⟩ := hv.tup g
    obtain ⟨u, h2, h3⟩ := atI_ixD r e1
    exact .inr ⟨a, vs, _, u, rfl, hw.int, SqT.of h1, h2, q _ G H (Al.refl g) h3⟩
  · obtain ⟨z, e1, e2⟩ := Option.map_eq_some_iff.mp e
    subst e2
    obtain ⟨a, vs, rfl, h1, r⟩ := hv.scr g
    obtain ⟨u, h2, h3⟩ := atI_ixD r e1
    exact .inl ⟨a, vs, _, u, rfl, hw.int, h1, h2, q _ G H (Al.refl g) h3⟩
  · cases e
end
end DL
/-! NCOps2: slices, chains, built-ins of the data layer. -/
namespace DL
open PySem PySem.Spec PyProof.Rows L2
section
variable {T : Kt} {B : Option Addr} {G0 H0 G H G' H' : Hp} {ρ : Ev} {σ : L2.St} {E : XK}
/-! ### chains -/
theorem de_chain {r r' : R2} {op op' : D → D → Option Slot} {ta tb tc : TE} {fa fb fc : M Pv} (ho : OpS T r op) (ho' : OpS T r' op') (ha : Dk T E ta fa) (hb : Dk T E tb fb) (hc : Dk T E tc fc) : De T E (tChain r r' ta tb tc) (chn op op' fa fb fc) := by
  intro B G0 H0 ρ σ G H I
  refine Pt.bd (t := ta σ) (u := fun x H1 (Q : VK) => tb σ H1 fun y H2 => r x y H2 fun z H3 => ∃ k, z = .bl k ∧ (if k = true then tc σ H3 fun w' H4 => r' y w' H4 Q else Q (.bl false) H3)) (ha B G0 H0 ρ σ G H I) fun p ρ1 v G1 H1 _ I1 k1 r1 => ?_
  refine Pt.bd (t := tb σ) (u := fun y H2 (Q : VK) => r v y H2 fun z H3 => ∃ k, z = .bl k ∧ (if k = true then tc σ H3 fun w' H4 => r' y w' H4 Q else Q (.bl false) H3)) (hb B G0 H0 ρ1 σ G1 H1 I1) fun q ρ2 w G2 H2 _ I2 k2 r2 => ?_
  have r1' : POk T σ G2 v p := r1.mono k2
  cases e1 : rdP ρ2 p with
  | none => exact Pt.no
  | some x =>
    cases e2 : rdP ρ2 q with
    | none => exact Pt.no
    | some y =>
      dsimp only
      split
      · rename_i e3
        intro Q
        have key : ∀ Q' : VK, (∀ G3 H3, Al G2 H2 G3 H3 → Q' (.bl true) H3) → r v w H2 Q' := fun Q' h => ho G2 H2 v w x y _ Q' I2.gh (I2.pk r1' e1) (I2.pk r2 e2) e3 fun u G' H' al rn => by
          cases rn
          exact h G' H' al
        have hk := fun G3 H3 (al : Al G2 H2 G3 H3) => (Pt.bd (T := T) (E := E) (Rel2 := rV T) (t := tc σ) (u := fun w' H4 (Q : VK) => r' w w' H4 Q) (k := fun r ρ' => match rdP ρ' q, rdP ρ' r with
          | some y, some z => lf (op' y z) ρ'
          | _, _ => .no) (hc B G0 H0 ρ2 σ G3 H3 (I2.al al)) fun p3 ρ3 w3 G4 H4 _ I4 k4 r4 => by
            have r2' : POk T σ G4 w q := (r2.mono al.gg).mono k4
            cases e5 : rdP ρ3 q with
            | none => exact Pt.no
            | some y' =>
              cases e6 : rdP ρ3 p3 with
              | none => exact Pt.no
              | some z =>
                refine Pt.lf fun s e => Pt.ok fun Q q => ?_
                exact ho' G4 H4 w w3 y' z s Q I4.gh (I4.pk r2' e5) (I4.pk r4 e6) e fun u G' H' al rn => q u G' H' (I4.al al) al.gg (I4.vok rn)) Q
        revert hk
        cases bd fc (fun r ρ' => match rdP ρ' q, rdP ρ' r with
          | some y, some z => lf (op' y z) ρ'
          | _, _ => R.no) ρ2 with
        | no => exact fun _ => trivial
        | exc c x => exact fun hk w => key _ fun G3 H3 al => ⟨true, rfl, hk G3 H3 al w⟩
        | ok z => exact fun hk q => key _ fun G3 H3 al => ⟨true, rfl, hk G3 H3 al fun b G' H' i s r => q b G' H' i (al.gg.trans s) r⟩
      · rename_i e3
        refine Pt.ok fun Q q => ?_
        exact ho G2 H2 v w x y _ _ I2.gh (I2.pk r1' e1) (I2.pk r2 e2) e3 fun u G' H' al rn => by
          cases rn
          exact ⟨false, rfl, q _ G' H' (I2.al al) al.gg (vok_d (.bl false))⟩
      · exact Pt.no
theorem dt_chain {r r' : R2} {op op' : D → D → Option Slot} {ta tb tc : TE} {fa fb fc : M Pv} (ho : OpS T r op) (ho' : OpS T r' op') (ha : Dk T E ta fa) (hb : Dk T E tb fb) (hc : Dk T E tc fc) : Dt T E (tTest (tChain r r' ta tb tc)) (tE (chn op op' fa fb fc)) := dt_of' (de_chain ho ho' ha hb hc)
/-! ### slices -/
abbrev rO : Rl (Option Int) (Option Int) := fun _ _ _ _ _ b a => b = a
abbrev Do (T : Kt) (E : XK) (t : TO) (f : M (Option Int)) : Prop := Dq T E rO t f
def noO : M (Option Int) := ret none
def someO (f : M Pv) : M (Option Int) := bd f fun p ρ => match rdP ρ p with
  | some (.int i) => .ok (some i, ρ)
  | _ => .no
theorem do_none : Do T E tNoPart noO := by
  intro B G0 H0 ρ σ G H I
  exact Pt.ok fun Q q => q none G H I (Same.refl _) rfl
theorem do_some {t : TE} {f : M Pv} (h : Dk T E t f) : Do T E (tPart t) (someO f) := by
  intro B G0 H0 ρ σ G H I
  refine Pt.bd (t := t σ) (u := fun x H1 (Q : Option Int → Hp → Prop) => ∃ i, x = .int i ∧ Q (some i) H1) (h B G0 H0 ρ σ G H I) fun p ρ1 v G1 H1 _ I1 k1 r1 => ?_
  split
  · rename_i i e
    exact Pt.ok fun Q q => ⟨i, (I1.pk r1 e).int, q _ G1 H1 I1 (Same.refl _) rfl⟩
  · exact Pt.no
def cutD {α : Type} (xs : List α) (lo hi : Option Int) : List α := (xs.drop (HT.sIx xs.length 0 lo)).take (HT.sIx xs.length xs.length hi - HT.sIx xs.length 0 lo)
theorem cut_rp {vs : List V} {xs : List D} (r : RpL T G vs xs) (lo hi : Option Int) : RpL T G (cutV vs lo hi) (cutD xs lo hi) := by
  unfold cutV cutD
  rw [r.len]
  exact (r.drop _).take _
def opSl (lo hi : Option Int) : D → Option Slot
  | .list xs => some (.o (cutD xs lo hi))
  | PyData.dict [(PyData.none, PyData.list xs)] => some (.o (cutD xs lo hi))
  | .tuple xs => if (HT.sIx xs.length 0 lo == 0) && (HT.sIx xs.length xs.length hi == xs.length) then none else some (.d (.tuple (cutD xs lo hi)))
  | _ => none
def slE (f : M Pv) (l h : M (Option Int)) : M Slot := bd f fun p => bd l fun lo => bd h fun hi ρ => match rdP ρ p with
  | some x => lf (opSl lo hi x) ρ
  | none => .no
theorem sl_ok {lo hi : Option Int} {v : V} {x : D} {s : Slot} {Q : VK} (g : Same G H) (hv : Pk T G H v x) (e : opSl lo hi x = some s) (q : ∀ u G' H', Al G H G' H' → RNew T H G' H' u s → Q u H') : rSlU T.K v lo hi H Q := by
  unfold opSl at e
  split at e
  · cases e
    obtain ⟨a, vs, rfl, h1, r⟩ := hv.list g
    exact .inl ⟨a, vs, rfl, SqL.of h1, fun p n => q _ G _ (Al.newO g n) ⟨p, _, rfl, n, upd_same, Same.none g n, cut_rp r lo hi⟩⟩
  · cases e
    obtain ⟨a, vs, rfl, h1, r⟩ := hv.scr g
    exact .inl ⟨a, vs, rfl, h1, fun p n => q _ G _ (Al.newO g n) ⟨p, _, rfl, n, upd_same, Same.none g n, cut_rp r lo hi⟩⟩
  · split at e
    · cases e
    · cases e
      rename_i h
      obtain ⟨a, vs, rfl, h1, h2, r⟩ := hv.tup g
      refine .inr ⟨a, vs, rfl, SqT.of h1, fun z => h ?_, fun p n => q _ _ _ (Al.new g n) (.tup upd_same ((cut_rp r lo hi).mono (Al.new g n).gg))⟩
      rw [r.len] at z
      rw [z.1, z.2]
      simp
  · cases e
theorem de_sl {te : TE} {tl th : TO} {f : M Pv} {l h : M (Option Int)} (he : Dk T E te f) (hl : Do T E tl l) (hh : Do T E th h) : De T E (tSl (rSlU T.K) te tl th) (slE f l h) := by
  intro B G0 H0 ρ σ G H I
  refine Pt.bd (t := te σ) (u := fun x H1 (Q : VK) => tl σ H1 fun l H2 => th σ H2 fun u H3 => rSlU T.K x l u H3 Q) (he B G0 H0 ρ σ G H I) fun p ρ1 v G1 H1 _ I1 k1 r1 => ?_
  refine Pt.bd (t := tl σ) (u := fun l H2 (Q : VK) => th σ H2 fun u H3 => rSlU T.K v l u H3 Q) (hl B G0 H0 ρ1 σ G1 H1 I1) fun lo ρ2 w G2 H2 _ I2 k2 r2 => ?_
  cases r2
  refine Pt.bd (t := th σ) (u := fun u H3 (Q : VK) => rSlU T.K v lo u H3 Q) (hh B G0 H0 ρ2 σ G2 H2 I2) fun hi ρ3 w G3 H3 _ I3 k3 r3 => ?_
  cases r3
  have r1' : POk T σ G3 v p := (r1.mono k2).mono k3
  cases e1 : rdP ρ3 p with
  | none => exact Pt.no
  | some x =>
    refine Pt.lf fun s e => Pt.ok fun Q q => ?_
    exact sl_ok I3.gh (I3.pk r1' e1) e fun u G' H' al rn => q u G' H' (I3.al al) al.gg (I3.vok rn)
/-- xs[::-1] -/
def opRv : D → Option Slot
  | .list xs => some (.o xs.reverse)
  | _ => none
theorem us_rv : UnS T (fun x H Q => NCNest.rvP T.K Q x H) opRv := by
  intro G H v x s Q g hv e q
  unfold opRv at e
  split at e
  · cases e
    obtain ⟨a, vs, rfl, h1, r⟩ := hv.list g
    exact ⟨a, vs, rfl, SqL.of h1, fun p n => q _ G _ (Al.newO g n) ⟨p, _, rfl, n, upd_same, Same.none g n, r.rev⟩⟩
  · cases e
theorem de_rv {te : TE} {f : M Pv} (he : Dk T E te f) : De T E (NCNest.tRv T.K te) (op1 opRv f) := de_un (r := fun x H Q => NCNest.rvP T.K Q x H) (ta := te) us_rv he
def opNeg : D → Option Slot
  | .int i => some (.d (.int (-i)))
  | _ => none
theorem us_neg : UnS T (rU fun i => .int (-i)) opNeg := by
  intro G H v x s Q g hv e q
  unfold opNeg at e
  split at e
  · cases e
    exact ⟨_, hv.int, q _ G H (Al.refl g) (.int _)⟩
  · cases e
theorem de_neg {te : TE} {f : M Pv} (he : Dk T E te f) : De T E (tUn (rU fun i => .int (-i)) te) (op1 opNeg f) := de_un (r := rU fun i => .int (-i)) (ta := te) us_neg he
/-! ### built-ins -/
def CbS (T : Kt) (r : List V → Hp → VK → Prop) (op : List D → Option Slot) : Prop := ∀ G H vs xs s (Q : VK), Same G H → Paired (Pk T G H) vs xs → op xs = some s → (∀ u G' H', Al G H G' H' → RNew T H G' H' u s → Q u H') → r vs H Q
def rdL (ρ : Ev) : List Pv → Option (List D)
  | [] => some []
  | p :: ps => match rdP ρ p, rdL ρ ps with
    | some x, some xs => some (x :: xs)
    | _, _ => none
def cbE (op : List D → Option Slot) (f : M (List Pv)) : M Slot := bd f fun ps ρ => match rdL ρ ps with
  | some xs => lf (op xs) ρ
  | none => .no
theorem SI.pks (I : SI T B G0 H0 ρ σ G H) : ∀ {vs : List V} {ps : List Pv} {xs : List D}, Paired (POk T σ G) vs ps → rdL ρ ps = some xs → Paired (Pk T G H) vs xs
  | _, _, _, .nil, e => by cases e; exact .nil
  | _, p :: ps, xs, .cons h r, e => by
    unfold rdL at e
    split at e
    · rename_i x ys e1 e2
      cases e
      exact .cons (I.pk h e1) (I.pks r e2)
    · cases e
theorem de_cb {r : List V → Hp → VK → Prop} {op : List D → Option Slot} {t : TA} {f : M (List Pv)} (ho : CbS T r op) (h : Dp T E t f) : De T E (tCB r t) (cbE op f) := by
  intro B G0 H0 ρ σ G H I
  refine Pt.bd (t := t σ) (u := fun vs H1 (Q : VK) => r vs H1 Q) (h B G0 H0 ρ σ G H I) fun ps ρ1 vs G1 H1 _ I1 k1 r1 => ?_
  cases e1 : rdL ρ1 ps with
  | none => exact Pt.no
  | some xs =>
    refine Pt.lf fun s e => Pt.ok fun Q q => ?_
    exact ho G1 H1 vs xs s Q I1.gh (I1.pks r1 e1) e fun u G' H' al rn => q u G' H' (I1.al al) al.gg (I1.vok rn)
theorem pk1 {vs : List V} {x : D} (h : Paired (Pk T G H) vs [x]) : ∃ v, vs = [v] ∧ Pk T G H v x := by
  cases h with
  | cons a r => cases r; exact ⟨_, rfl, a⟩
theorem pk2 {vs : List V} {x y : D} (h : Paired (Pk T G H) vs [x, y]) : ∃ v w, vs = [v, w] ∧ Pk T G H v x ∧ Pk T G H w y := by
  cases h with
  | cons a r =>
    obtain ⟨w, rfl, b⟩ := pk1 r
    exact ⟨_, w, rfl, a, b⟩
def rLenU (K : PySem.W.Frag) : List V → Hp → VK → Prop := fun xs H Q => ∃ x n, xs = [x] ∧ LenV K x H n ∧ Q (.int n) H
theorem call_lenU {X : Cx} (K : PySem.W.Frag) (h : X.K = K := by rfl) : CallR X (.builtin "len") (rLenU K) := by subst h; exact call_len
def opLen : List D → Option Slot
  | [.list xs] => some (.d (.int xs.length))
  | [.tuple xs] => some (.d (.int xs.length))
  | [PyData.dict [(PyData.none, PyData.list xs)]] => some (.d (.int xs.length))
  | _ => none
theorem cs_len : CbS T (rLenU T.K) opLen := by
  intro G H vs xs s Q g hv e q
  unfold opLen at e
  split at e
  · cases e
    obtain ⟨v, rfl, h⟩ := pk1 hv
    obtain ⟨a, ws, rfl, h1, r⟩ := h.list g
    exact ⟨_, _, rfl, .inl ⟨ws, SqL.of h1, rfl⟩, by rw [r.len]; exact q _ G H (Al.refl g) (.int _)⟩
  · cases e
    obtain ⟨v, rfl, h⟩ := pk1 hv
    obtain ⟨a, ws, rfl, h1, _, r⟩ := h.tup g
    exact ⟨_, _, rfl, .inr ⟨ws, SqT.of h1, rfl⟩, by rw [r.len]; exact q _ G H (Al.refl g) (.int _)⟩
  · cases e
    obtain ⟨v, rfl, h⟩ := pk1 hv
    obtain ⟨a, ws, rfl, h1, r⟩ := h.scr g
    exact ⟨_, _, rfl, .inl ⟨ws, h1, rfl⟩, by rw [r.len]; exact q _ G H (Al.refl g) (.int _)⟩
  · cases e
def opAbs : List D → Option Slot
  | [.int i] => some (.d (.int (if i < 0 then -i else i)))
  | _ => none
theorem cs_abs : CbS T rAbs opAbs := by
  intro G H vs xs s Q g hv e q
  unfold opAbs at e
  split at e
  · cases e
    obtain ⟨v, rfl, h⟩ := pk1 hv
    exact ⟨_, by rw [h.int], q _ G H (Al.refl g) (.int _)⟩
  · cases e
def opInt : List D → Option Slot
  | [.int i] => some (.d (.int i))
  | [.bool b] => some (.d (.int (if b then 1 else 0)))
  | _ => none
theorem cs_int : CbS T rInt opInt := by
  intro G H vs xs s Q g hv e q
  unfold opInt at e
  split at e
  · cases e
    obtain ⟨v, rfl, h⟩ := pk1 hv
    exact .inl ⟨_, by rw [h.int], q _ G H (Al.refl g) (.int _)⟩
  · cases e
    obtain ⟨v, rfl, h⟩ := pk1 hv
    exact .inr ⟨_, by rw [h.bl], q _ G H (Al.refl g) (.int _)⟩
  · cases e
/-- ints, bools -/
def intsD : List D → Option (List Int)
  | [] => some []
  | .int i :: ds => (intsD ds).map (i :: ·)
  | _ => none
def boolsD : List D → Option (List Bool)
  | [] => some []
  | .bool i :: ds => (boolsD ds).map (i :: ·)
  | _ => none
theorem ints_vs : ∀ {vs : List V} {ds : List D} {ns : List Int}, RpL T G vs ds → intsD ds = some ns → vs = ns.map V.int
  | _, _, _, .nil, e => by cases e; rfl
  | _, d :: ds, ns, .cons h r, e => by
    unfold intsD at e
    split at e
    · rename_i h0; cases h0
    · rename_i i ds' h0
      cases h0
      obtain ⟨ms, e1, rfl⟩ := Option.map_eq_some_iff.mp e
      cases h
      rw [ints_vs r e1]
      rfl
    · cases e
theorem bools_vs : ∀ {vs : List V} {ds : List D} {ns : List Bool}, RpL T G vs ds → boolsD ds = some ns → vs = ns.map V.bl
  | _, _, _, .nil, e => by cases e; rfl
  | _, d :: ds, ns, .cons h r, e => by
    unfold boolsD at e
    split at e
    · rename_i h0; cases h0
    · rename_i i ds' h0
      cases h0
      obtain ⟨ms, e1, rfl⟩ := Option.map_eq_some_iff.mp e
      cases h
      rw [bools_vs r e1]
      rfl
    · cases e
def opAll : List D → Option Slot
  | [.list xs] => (boolsD xs).map fun bs => .d (.bool (bs.all id))
  | _ => none
def opAny : List D → Option Slot
  | [.list xs] => (boolsD xs).map fun bs => .d (.bool (bs.any id))
  | _ => none
def opSum : List D → Option Slot
  | [.list xs] => (intsD xs).map fun ns => .d (.int ns.sum)
  | _ => none
theorem cs_all : CbS T (rAll T.K) opAll := by
  intro G H vs xs s Q g hv e q
  unfold opAll at e
  split at e
  · obtain ⟨bs, e1, rfl⟩ := Option.map_eq_some_iff.mp e
    obtain ⟨v, rfl, h⟩ := pk1 hv
    obtain ⟨a, ws, rfl, h1, r⟩ := h.list g
    exact ⟨a, bs, rfl, SqL.of (by rw [← bools_vs r e1]; exact h1), q _ G H (Al.refl g) (.bl _)⟩
  · cases e
theorem cs_any : CbS T (rAny T.K) opAny := by
  intro G H vs xs s Q g hv e q
  unfold opAny at e
  split at e
  · obtain ⟨bs, e1, rfl⟩ := Option.map_eq_some_iff.mp e
    obtain ⟨v, rfl, h⟩ := pk1 hv
    obtain ⟨a, ws, rfl, h1, r⟩ := h.list g
    exact ⟨a, bs, rfl, SqL.of (by rw [← bools_vs r e1]; exact h1), q _ G H (Al.refl g) (.bl _)⟩
  · cases e
theorem cs_sum : CbS T (rSum T.K) opSum := by
  intro G H vs xs s Q g hv e q
  unfold opSum at e
  split at e
  · obtain ⟨bs, e1, rfl⟩ := Option.map_eq_some_iff.mp e
    obtain ⟨v, rfl, h⟩ := pk1 hv
    obtain ⟨a, ws, rfl, h1, r⟩ := h.list g
    exact ⟨a, bs, rfl, SqL.of (by rw [← ints_vs r e1]; exact h1), q _ G H (Al.refl g) (.int _)⟩
  · cases e
/-! ### list(x), tuple(x) -/
def rListU (K : PySem.W.Frag) : List V → Hp → VK → Prop := fun xs H Q => ∃ p ys, xs = [.ref p] ∧ (SqL K H p ys ∨ SqT K H p ys) ∧ ∀ l, H l = none → Q (.ref l) (upd H l (.lst ys))
theorem call_listU {X : Cx} (K : PySem.W.Frag) (h : X.K = K := by rfl) : CallR X (.type "list") (rListU K) := by subst h; exact call_list_of
def rTupleU (K : PySem.W.Frag) : List V → Hp → VK → Prop := fun xs H Q => ∃ p ys, xs = [.ref p] ∧ ((SqL K H p ys ∧ ∀ l, H l = none → Q (.ref l) (upd H l (.tup ys))) ∨ (SqT K H p ys ∧ Q (.ref p) H))
theorem call_tupleU {X : Cx} (K : PySem.W.Frag) (h : X.K = K := by rfl) : CallR X (.type "tuple") (rTupleU K) := by subst h; exact call_tuple_of
def opList : List D → Option Slot
  | [.list xs] => some (.o xs)
  | [.tuple xs] => some (.o xs)
  | [PyData.dict [(PyData.none, PyData.list xs)]] => some (.o xs)
  | _ => none
theorem cs_list : CbS T (rListU T.K) opList := by
  intro G H vs xs s Q g hv e q
  unfold opList at e
  split at e
  · cases e
    obtain ⟨v, rfl, h⟩ := pk1 hv
    obtain ⟨a, ws, rfl, h1, r⟩ := h.list g
    exact ⟨a, ws, rfl, .inl (SqL.of h1), fun p n => q _ G _ (Al.newO g n) ⟨p, _, rfl, n, upd_same, Same.none g n, r⟩⟩
  · cases e
    obtain ⟨v, rfl, h⟩ := pk1 hv
    obtain ⟨a, ws, rfl, h1, _, r⟩ := h.tup g
    exact ⟨a, ws, rfl, .inr (SqT.of h1), fun p n => q _ G _ (Al.newO g n) ⟨p, _, rfl, n, upd_same, Same.none g n, r⟩⟩
  · cases e
    obtain ⟨v, rfl, h⟩ := pk1 hv
    obtain ⟨a, ws, rfl, h1, r⟩ := h.scr g
    exact ⟨a, ws, rfl, .inl h1, fun p n => q _ G _ (Al.newO g n) ⟨p, _, rfl, n, upd_same, Same.none g n, r⟩⟩
  · cases e
def opTuple : List D → Option Slot
  | [.list xs] => some (.d (.tuple xs))
  | [.tuple xs] => some (.d (.tuple xs))
  | _ => none
theorem cs_tuple : CbS T (rTupleU T.K) opTuple := by
  intro G H vs xs s Q g hv e q
  unfold opTuple at e
  split at e
  · cases e
    obtain ⟨v, rfl, h⟩ := pk1 hv
    obtain ⟨a, ws, rfl, h1, r⟩ := h.list g
    exact ⟨a, ws, rfl, .inl ⟨SqL.of h1, fun p n => q _ _ _ (Al.new g n) (.tup upd_same (r.mono (Al.new g n).gg))⟩⟩
  · cases e
    obtain ⟨v, rfl, h⟩ := pk1 hv
    obtain ⟨a, ws, rfl, h1, h2, r⟩ := h.tup g
    exact ⟨a, ws, rfl, .inr ⟨SqT.of h1, q _ G H (Al.refl g) (.tup h2 r)⟩⟩
  · cases e
end
end DL
/-! NCOps3: isinstance, min, max, sorted of the data layer. -/
namespace DL
open PySem PySem.Spec PyProof.Rows L2
section
variable {T : Kt} {B : Option Addr} {G0 H0 G H G' H' : Hp} {ρ : Ev} {σ : L2.St} {E : XK}
/-! ### isinstance of a built-in type -/
inductive Ty where
  | int | bool | tuple | list | str | dict
  deriving DecidableEq
def Ty.nm : Ty → String
  | .int => "int"
  | .bool => "bool"
  | .tuple => "tuple"
  | .list => "list"
  | .str => "str"
  | .dict => "dict"
def tyIs (t : Ty) : D → Option Bool
  | .none => some false
  | .bool _ => some (t == .bool || t == .int)
  | .int _ => some (t == .int)
  | .str _ => some (t == .str)
  | .list _ => some (t == .list)
  | .tuple _ => some (t == .tuple)
  | PyData.dict [(PyData.int _, PyData.tuple _)] => some false
  | PyData.dict [(PyData.none, PyData.none)] => some (t == .dict)
  | _ => none
theorem kit_all (t : Ty) : kitB "NoneType" t.nm = some false ∧ kitB "bool" t.nm = some (t == .bool || t == .int) ∧ kitB "int" t.nm = some (t == .int) ∧ kitB "str" t.nm = some (t == .str) ∧ kitB "list" t.nm = some (t == .list) ∧ kitB "tuple" t.nm = some (t == .tuple) ∧ kitB "dict" t.nm = some (t == .dict) := by
  cases t <;> (refine ⟨?_, ?_, ?_, ?_, ?_, ?_, ?_⟩ <;> decide +kernel)
theorem InsK.no {K : PySem.W.Frag} {C : Addr} (i : InsK K C) (t : Ty) : PySem.W.kitOne K (.ref C) (.type t.nm) = some false := by
  cases t
  · exact i.k1
  · exact i.k2
  · exact i.k3
  · exact i.k4
  · exact i.k5
  · exact i.k6
theorem InsK.ty {K : PySem.W.Frag} {C a dx : Addr} {fs : List (Str × V)} (i : InsK K C) (e : H a = some (.ins C dx fs)) : TyX K H (.ref a) (.ref C) := .base (.ins e i.cl i.ha i.hn i.ht i.hm)
theorem isi_ok {t : Ty} {v : V} {x : D} {b : Bool} {Q : VK} (g : Same G H) (h : Pk T G H v x) (e : tyIs t x = some b) (q : Q (.bl b) H) : rIsi T.K [v, .ty t.nm] H Q := by
  obtain ⟨k0, k1, k2, k3, k4, k5, k6⟩ := kit_all t
  rcases h with h | ⟨a, vs, xs, rfl, rfl, h1, r⟩ | ⟨a, dx, c, fs, ds, rfl, rfl, ik, h1, _⟩
  · cases h with
    | non => cases e; exact g_isi (.base .non) k0 q
    | bl b => cases e; exact g_isi (.base (.bl b)) k1 q
    | int i => cases e; exact g_isi (.base (.int i)) k2 q
    | str x => cases e; exact g_isi (.base (.str x)) k3 q
    | lst h r => cases e; exact g_isi (.base (.lst (g _ _ h))) k4 q
    | tup h r => cases e; exact g_isi (.base (.tup (g _ _ h))) k5 q
    | ins i h1 _ _ =>
      cases e
      exact ⟨_, .ty t.nm, _, _, false, rfl, .ty _, i.ty (g _ _ h1), i.no t, q⟩
    | fn k _ => cases e
    | scr h r => cases e
    | dct h => cases e; exact g_isi (.base (.dT (g _ _ h))) k6 q
    | tab _ _ => cases e
  · cases e
    exact g_isi (.base (.lst h1)) k4 q
  · cases e
    exact ⟨_, .ty t.nm, _, _, false, rfl, .ty _, ik.ty h1, ik.no t, q⟩
def isiE (t : Ty) (f : M Pv) : M Slot := bd f fun p ρ => match rdP ρ p with
  | some x => lf ((tyIs t x).map fun b => .d (.bool b)) ρ
  | none => .no
theorem de_isi {te : TE} {f : M Pv} (t : Ty) (he : Dk T E te f) : De T E (tCB (rIsi T.K) (tCons te (tCons (tC (.ty t.nm)) tNil))) (isiE t f) := by
  intro B G0 H0 ρ σ G H I
  refine Pt.bd (t := te σ) (u := fun x H1 (Q : VK) => rIsi T.K [x, .ty t.nm] H1 Q) (he B G0 H0 ρ σ G H I) fun p ρ1 v G1 H1 _ I1 k1 r1 => ?_
  cases e1 : rdP ρ1 p with
  | none => exact Pt.no
  | some x =>
    refine Pt.lf fun s e => Pt.ok fun Q q => ?_
    obtain ⟨b, e2, rfl⟩ := Option.map_eq_some_iff.mp e
    exact isi_ok I1.gh (I1.pk r1 e1) e2 (q _ G1 H1 I1 (Same.refl _) (vok_d (.bl b)))
/-! ### the order of data -/
def ltD (x y : D) : Bool := W.dataLt x y
mutual
theorem toks_inj : ∀ (x y : D) (l m : List (Int ⊕ List Nat)), W.alike x y = true → W.keyToks x ++ l = W.keyToks y ++ m → x = y ∧ l = m
  | .none, .none, l, m, _, e => ⟨rfl, e⟩
  | .bool a, .bool b, l, m, _, e => by
    simp only [W.keyToks, List.cons_append, List.nil_append, List.cons.injEq, Sum.inl.injEq] at e
    obtain ⟨e1, e2⟩ := e
    cases a <;> cases b <;> simp_all
  | .int a, .int b, l, m, _, e => by
    simp only [W.keyToks, List.cons_append, List.nil_append, List.cons.injEq, Sum.inl.injEq] at e
    exact ⟨by rw [e.1], e.2⟩
  | .str a, .str b, l, m, _, e => by
    simp only [W.keyToks, List.cons_append, List.nil_append, List.cons.injEq, Sum.inr.injEq] at e
    exact ⟨by rw [W.str_of_cps e.1], e.2⟩
  | .list xs, .list ys, l, m, h, e => by
    have h' : W.alikeAll xs ys = true := by rw [W.alike] at h; exact h
    have := toksAll_inj xs ys l m h' (by rw [W.keyToks, W.keyToks] at e; exact e)
    exact ⟨by rw [this.1], this.2⟩
  | .tuple xs, .tuple ys, l, m, h, e => by
    have h' : W.alikeAll xs ys = true := by rw [W.alike] at h; exact h
    have := toksAll_inj xs ys l m h' (by rw [W.keyToks, W.keyToks] at e; exact e)
    exact ⟨by rw [this.1], this.2⟩
  | .none, .bool _, _, _, h, _ | .none, .int _, _, _, h, _ | .none, .str _, _, _, h, _ | .none, .list _, _, _, h, _ | .none, .tuple _, _, _, h, _ | .none, .dict _, _, _, h, _ => by simp [W.alike] at h
  | .bool _, .none, _, _, h, _ | .bool _, .int _, _, _, h, _ | .bool _, .str _, _, _, h, _ | .bool _, .list _, _, _, h, _ | .bool _, .tuple _, _, _, h, _ | .bool _, .dict _, _, _, h, _ => by simp [W.alike] at h
  | .int _, .none, _, _, h, _ | .int _, .bool _, _, _, h, _ | .int _, .str _, _, _, h, _ | .int _, .list _, _, _, h, _ | .int _, .tuple _, _, _, h, _ | .int _, .dict _, _, _, h, _ => by simp [W.alike] at h
  | .str _, .none, _, _, h, _ | .str _, .bool _, _, _, h, _ | .str _, .int _, _, _, h, _ | .str _, .list _, _, _, h, _ | .str _, .tuple _, _, _, h, _ | .str _, .dict _, _, _, h, _ => by simp [W.alike] at h
  | .list _, .none, _, _, h, _ | .list _, .bool _, _, _, h, _ | .list _, .int _, _, _, h, _ | .list _, .str _, _, _, h, _ | .list _, .tuple _, _, _, h, _ | .list _, .dict _, _, _, h, _ => by simp [W.alike] at h
  | .tuple _, .none, _, _, h, _ | .tuple _, .bool _, _, _, h, _ | .tuple _, .int _, _, _, h, _ | .tuple _, .str _, _, _, h, _ | .tuple _, .list _, _, _, h, _ | .tuple _, .dict _, _, _, h, _ => by simp [W.alike] at h
  | .dict _, .none, _, _, h, _ | .dict _, .bool _, _, _, h, _ | .dict _, .int _, _, _, h, _ | .dict _, .str _, _, _, h, _ | .dict _, .list _, _, _, h, _ | .dict _, .tuple _, _, _, h, _ | .dict _, .dict _, _, _, h, _ => by simp [W.alike] at h
theorem toksAll_inj : ∀ (xs ys : List D) (l m : List (Int ⊕ List Nat)), W.alikeAll xs ys = true → W.keyToksAll xs ++ l = W.keyToksAll ys ++ m → xs = ys ∧ l = m
  | [], [], l, m, _, e => by
    simp only [W.keyToksAll, List.cons_append, List.nil_append, List.cons.injEq, true_and] at e
    exact ⟨rfl, e⟩
  | [], y :: ys, l, m, _, e => by
    simp [W.keyToksAll] at e
  | x :: xs, [], l, m, _, e => by
    simp [W.keyToksAll] at e
  | x :: xs, y :: ys, l, m, h, e => by
    obtain ⟨h1, h2⟩ := W.alike_all_cons h
    rw [W.toks_all_cons, W.toks_all_cons] at e
    simp only [List.cons_append, List.cons.injEq, true_and, List.append_assoc] at e
    obtain ⟨e1, e2⟩ := toks_inj x y _ _ h1 e
    obtain ⟨e3, e4⟩ := toksAll_inj xs ys l m h2 e2
    exact ⟨by rw [e1, e3], e4⟩
end
/-! ### sorted -/
theorem ltD_total {x y : D} (h : W.alike x y = true) (h1 : ltD x y = false) (h2 : ltD y x = false) : x = y := by
  have e := (PyProof.Rows.listOrd PyProof.Rows.itemOrd).total (W.keyToks x) (W.keyToks y) h1 h2
  exact (toks_inj x y [] [] h (by rw [e])).1
theorem ltD_trans {x y z : D} (h1 : ltD y x = false) (h2 : ltD z y = false) : ltD z x = false := by
  cases h : ltD z x with
  | false => rfl
  | true =>
    rcases (PyProof.Rows.listOrd PyProof.Rows.itemOrd).negTrans (W.keyToks z) (W.keyToks y) (W.keyToks x) h with h3 | h3
    · rw [show ltD z y = true from h3] at h2; cases h2
    · rw [show ltD y x = true from h3] at h1; cases h1
theorem ltD_asym {x y : D} (h : ltD x y = true) : ltD y x = false := by
  cases h2 : ltD y x with
  | false => rfl
  | true =>
    have h3 := (PyProof.Rows.listOrd PyProof.Rows.itemOrd).trans _ _ _ h h2
    rw [(PyProof.Rows.listOrd PyProof.Rows.itemOrd).irrefl] at h3
    cases h3
def insD (x : D) : List D → List D
  | [] => [x]
  | y :: ys => if ltD y x then y :: insD x ys else x :: y :: ys
def sortD : List D → List D
  | [] => []
  | x :: xs => insD x (sortD xs)
theorem insD_perm (x : D) : ∀ ys : List D, (insD x ys).Perm (x :: ys)
  | [] => List.Perm.refl _
  | y :: ys => by
    unfold insD
    split
    · exact ((insD_perm x ys).cons y).trans (List.Perm.swap x y ys)
    · exact List.Perm.refl _
theorem sortD_perm : ∀ xs : List D, (sortD xs).Perm xs
  | [] => List.Perm.refl _
  | x :: xs => (insD_perm x (sortD xs)).trans ((sortD_perm xs).cons x)
abbrev Srt (xs : List D) : Prop := xs.Pairwise fun a b => ltD b a = false
theorem insD_srt (x : D) : ∀ ys : List D, Srt ys → Srt (insD x ys)
  | [], _ => List.pairwise_singleton _ _
  | y :: ys, h => by
    obtain ⟨h1, h2⟩ := List.pairwise_cons.mp h
    unfold insD
    split
    · rename_i hl
      refine List.pairwise_cons.mpr ⟨fun z hz => ?_, insD_srt x ys h2⟩
      rcases List.mem_cons.mp ((insD_perm x ys).mem_iff.mp hz) with rfl | hz
      · exact ltD_asym hl
      · exact h1 z hz
    · rename_i hl
      have hl2 : ltD y x = false := by simpa using hl
      refine List.pairwise_cons.mpr ⟨fun z hz => ?_, h⟩
      rcases List.mem_cons.mp hz with rfl | hz
      · exact hl2
      · exact ltD_trans hl2 (h1 z hz)
theorem sortD_srt : ∀ xs : List D, Srt (sortD xs)
  | [] => List.Pairwise.nil
  | x :: xs => insD_srt x _ (sortD_srt xs)
theorem sortD_uniq {xs ys : List D} (al : W.AllAlike xs) (p : ys.Perm xs) (s : Srt ys) : ys = sortD xs := by
  refine List.Perm.eq_of_pairwise (le := fun a b => ltD b a = false) (fun a b ha hb h1 h2 => ?_) s (sortD_srt xs) (p.trans (sortD_perm xs).symm)
  exact ltD_total (al a (p.mem_iff.mp ha) b ((sortD_perm xs).mem_iff.mp hb)) h2 h1
/-- what sorted may sort -/
def pairI : D → Bool
  | .tuple [.int _, .int _] => true
  | _ => false
def isInt : D → Bool
  | .int _ => true
  | _ => false
def alikeL (x : D) : List D → Bool
  | [] => true
  | y :: ys => W.alike x y && W.alike y x && alikeL x ys
def alikeAllB : List D → Bool
  | [] => true
  | x :: xs => W.alike x x && alikeL x xs && alikeAllB xs
def tupB : D → Bool
  | .tuple (_ :: _) => true
  | _ => false
def notTupB : D → Bool
  | .none => false
  | .tuple _ => false
  | .dict _ => false
  | _ => true
def sortOk (ds : List D) : Bool := ds.all pairI || ds.all isInt || (alikeAllB ds && (ds.all tupB || ds.all notTupB) && ds.all (fun d => d.canLay0 && Nat.ble d.depth 20))
theorem alikeL_ok {x : D} : ∀ {xs : List D}, alikeL x xs = true → ∀ y ∈ xs, W.alike x y = true ∧ W.alike y x = true
  | [], _, _, h => by cases h
  | z :: zs, h, y, hy => by
    obtain ⟨h1, h2⟩ := Bool.and_eq_true_iff.mp h
    obtain ⟨h3, h4⟩ := Bool.and_eq_true_iff.mp h1
    rcases List.mem_cons.mp hy with rfl | hy
    · exact ⟨h3, h4⟩
    · exact alikeL_ok h2 y hy
theorem alikeAllB_ok : ∀ {xs : List D}, alikeAllB xs = true → W.AllAlike xs
  | [], _ => fun _ h => by cases h
  | x :: xs, h => by
    obtain ⟨h1, h2⟩ := Bool.and_eq_true_iff.mp h
    obtain ⟨h3, h4⟩ := Bool.and_eq_true_iff.mp h1
    have ih := alikeAllB_ok h2
    intro a ha b hb
    rcases List.mem_cons.mp ha with ea | ma
    · rcases List.mem_cons.mp hb with eb | mb
      · rw [ea, eb]; exact h3
      · rw [ea]; exact (alikeL_ok h4 b mb).1
    · rcases List.mem_cons.mp hb with eb | mb
      · rw [eb]; exact (alikeL_ok h4 a ma).2
      · exact ih a ma b mb
theorem pairI_is {d : D} (h : pairI d = true) : ∃ i j, d = .tuple [.int i, .int j] := by
  unfold pairI at h
  split at h
  · exact ⟨_, _, rfl⟩
  · cases h
theorem isInt_is {d : D} (h : isInt d = true) : ∃ i, d = .int i := by
  unfold isInt at h
  split at h
  · exact ⟨_, rfl⟩
  · cases h
theorem sortOk_ok {ds : List D} (h : sortOk ds = true) : W.AllAlike ds ∧ W.Sortable ds ∧ (∀ d ∈ ds, d.depth ≤ 20 ∧ d.canLay0 = true) := by
  unfold sortOk at h
  rcases Bool.or_eq_true_iff.mp h with h | h
  · rcases Bool.or_eq_true_iff.mp h with h | h
    · have hp := fun d hd => pairI_is (List.all_eq_true.mp h d hd)
      refine ⟨fun a ha b hb => ?_, .inl fun d hd => ?_, fun d hd => ?_⟩
      · obtain ⟨_, _, rfl⟩ := hp a ha
        obtain ⟨_, _, rfl⟩ := hp b hb
        rfl
      · obtain ⟨_, _, rfl⟩ := hp d hd
        exact ⟨_, _, rfl⟩
      · obtain ⟨_, _, rfl⟩ := hp d hd
        exact ⟨by simp [PyData.depth, PyData.depthAll], rfl⟩
    · have hp := fun d hd => isInt_is (List.all_eq_true.mp h d hd)
      refine ⟨fun a ha b hb => ?_, .inr fun d hd => ?_, fun d hd => ?_⟩
      · obtain ⟨_, rfl⟩ := hp a ha
        obtain ⟨_, rfl⟩ := hp b hb
        rfl
      · obtain ⟨_, rfl⟩ := hp d hd
        exact ⟨(fun z => by cases z), fun xs z => by cases z⟩
      · obtain ⟨_, rfl⟩ := hp d hd
        exact ⟨by simp [PyData.depth], rfl⟩
  · obtain ⟨h1, h2⟩ := Bool.and_eq_true_iff.mp h
    obtain ⟨h3, h4⟩ := Bool.and_eq_true_iff.mp h1
    refine ⟨alikeAllB_ok h3, ?_, fun d hd => ?_⟩
    · rcases Bool.or_eq_true_iff.mp h4 with h5 | h5
      · refine .inl fun d hd => ?_
        have := List.all_eq_true.mp h5 d hd
        unfold tupB at this
        split at this
        · exact ⟨_, _, rfl⟩
        · cases this
      · refine .inr fun d hd => ?_
        have := List.all_eq_true.mp h5 d hd
        unfold notTupB at this
        split at this
        · cases this
        · cases this
        · cases this
        · rename_i n1 n2 n3
          exact ⟨n1, fun xs z => n2 xs z⟩
    · obtain ⟨h5, h6⟩ := Bool.and_eq_true_iff.mp (List.all_eq_true.mp h2 d hd)
      exact ⟨Nat.le_of_ble_eq_true h6, h5⟩
def rSrt (K : PySem.W.Frag) : List V → Hp → VK → Prop := fun vs H Q => ∃ (a : Addr) (xs : List V) (ds : List D), vs = [V.ref a] ∧ SqL K H a xs ∧ DpAll K H xs ds ∧ W.AllAlike ds ∧ W.Sortable ds ∧ (∀ d ∈ ds, d.depth ≤ 20) ∧
  ∀ (zs : List (V × D)) p, zs.Perm (xs.zip ds) → zs.Pairwise (fun a b => ltD b.2 a.2 = false) → H p = none → Q (.ref p) (upd H p (.lst (zs.map (·.1))))
theorem dpall_len {K : PySem.W.Frag} : ∀ {xs : List V} {ds : List D}, DpAll K H xs ds → xs.length = ds.length
  | _, _, .nil => rfl
  | _, _, .cons _ r => congrArg (· + 1) (dpall_len r)
theorem each_zip {α β γ : Type} {R : α → β → Prop} : ∀ {us : List α} {xs : List β} {ds : List γ}, Paired (fun b a => R a b) xs us → xs.length = ds.length → W.EachIs (fun u (b : β × γ) => R u b.1) us (xs.zip ds)
  | _, _, [], .nil, _ => .nil
  | _, _, d :: ds, .cons h r, e => .cons h (each_zip r (by simpa using e))
theorem each_zip2 {h : Heap} : ∀ {us : List Value} {xs : List V} {ds : List D} {as : List Addr}, ReadsAll h us ds as → xs.length = ds.length → W.EachIs (fun u (b : V × D) => ∃ as, Reads h u b.2 as) us (xs.zip ds)
  | _, [], [], _, .nil, _ => .nil
  | _, x :: xs, d :: ds, _, .cons h r, e => .cons ⟨_, h⟩ (each_zip2 r (by simpa using e))
theorem vals_each : ∀ {us : List Value} {zs : List (V × D)}, W.EachIs (fun u (b : V × D) => RelV b.1 u) us zs → Vals (zs.map (·.1)) us
  | _, _, .nil => .nil
  | _, _, .cons h r => .cons h (vals_each r)
theorem cr_srt {X : Cx} (K : PySem.W.Frag) (hu : X.A.units + 64 < cLine) (hK : X.K = K := by rfl) : CallR X (.builtin "sorted") (rSrt K) := by
  subst hK
  intro pins s σ H vs us Q I r h
  obtain ⟨a, xs, ds, rfl, hs, dp, hal, hso, hdp, q⟩ := h
  obtain ⟨its, rv, hl, hz⟩ := I.list hs
  obtain ⟨u, rfl, ru⟩ := vals1 r
  obtain rfl : u = Value.ref a := ru
  obtain ⟨as, rd⟩ := L2.Dp.readsAll I ds xs its dp rv
  have hlen := dpall_len dp
  have em : (xs.zip ds).map (·.2) = ds := List.map_snd_zip (by omega)
  refine W.sorted_data (enc := fun b : V × D => b.2) (R := fun u b => RelV b.1 u) hl.isList (each_zip (R := fun u b => RelV b u) rv hlen) (each_zip2 rd hlen) (by rw [em]; exact hal) (by rw [em]; exact hso) (by rw [List.length_zip]; omega)
    (fun b hb => ?_) fun out ho he => ?_
  · have := hdp b.2 (List.of_mem_zip hb).2
    omega
  · have hv := vals_each he
    have hp : ((xs.zip ds).mergeSort (W.dataLe false fun b : V × D => b.2)).Perm (xs.zip ds) := List.mergeSort_perm _ _
    have hsrt : ((xs.zip ds).mergeSort (W.dataLe false fun b : V × D => b.2)).Pairwise (fun a b => ltD b.2 a.2 = false) := by
      have T := W.sortLe_total (PyProof.Rows.listOrd PyProof.Rows.itemOrd) false fun b : V × D => W.keyToks b.2
      refine (List.pairwise_mergeSort (le := W.dataLe false fun b : V × D => b.2) (fun a b c h1 h2 => ?_) (fun a b => ?_) _).imp fun {a b} h => ?_
      · have h1' : (!ltD b.2 a.2) = true := h1
        have h2' : (!ltD c.2 b.2) = true := h2
        show (!ltD c.2 a.2) = true
        rw [ltD_trans (by simpa using h1') (by simpa using h2')]
        rfl
      · show (!ltD b.2 a.2 || !ltD a.2 b.2) = true
        cases h : ltD b.2 a.2 with
        | false => rfl
        | true => rw [ltD_asym h]; rfl
      · have h' : (!ltD b.2 a.2) = true := h
        simpa using h'
    generalize (xs.zip ds).mergeSort (W.dataLe false fun b : V × D => b.2) = zs at hv hp hsrt
    obtain ⟨n, hn⟩ := sortedAll_at s.heap its out.toArray
    refine ⟨.ref (s.heap.objs.size + 1), upd H (s.heap.objs.size + 1) (.lst (zs.map (·.1))), I.laid (t' := s.toks) (fun b o e => sortedAll_old e) (Nat.le_succ _) ⟨?_, out, n, hv, hn⟩, rfl, q zs _ hp hsrt (I.hok.fresh (Nat.le_succ _))⟩
    rw [List.length_map, hp.length_eq, List.length_zip]
    omega
def opSorted : List D → Option Slot
  | [.list xs] => if sortOk xs then some (.o (sortD xs)) else none
  | _ => none
theorem zip_rp : ∀ {vs : List V} {ds : List D}, RpL T G vs ds → ∀ b ∈ vs.zip ds, Rp T G b.1 b.2
  | _, _, .nil, _, h => by cases h
  | _, _, .cons h r, b, hb => by
    rcases List.mem_cons.mp hb with rfl | hb
    · exact h
    · exact zip_rp r b hb
theorem rp_zip : ∀ {zs : List (V × D)}, (∀ b ∈ zs, Rp T G b.1 b.2) → RpL T G (zs.map (·.1)) (zs.map (·.2))
  | [], _ => .nil
  | z :: zs, h => .cons (h z (List.mem_cons_self ..)) (rp_zip fun b hb => h b (List.mem_cons_of_mem _ hb))
theorem lay_all {ds : List D} (h : ∀ d ∈ ds, d.canLay0 = true) : PyData.canLayAll0 ds = true := by
  induction ds with
  | nil => rfl
  | cons d ds ih =>
    show (d.canLay0 && PyData.canLayAll0 ds) = true
    rw [h d (List.mem_cons_self ..), ih fun x hx => h x (List.mem_cons_of_mem _ hx)]
    rfl
theorem cs_sorted : CbS T (rSrt T.K) opSorted := by
  intro G H vs xs s Q g hv e q
  unfold opSorted at e
  split at e
  · rename_i ds
    split at e
    · rename_i ok
      cases e
      obtain ⟨v, rfl, h⟩ := pk1 hv
      obtain ⟨a, ws, rfl, h1, r⟩ := h.list g
      obtain ⟨al, so, dp⟩ := sortOk_ok ok
      refine ⟨a, ws, ds, rfl, SqL.of h1, r.dp g (lay_all fun d hd => (dp d hd).2), al, so, fun d hd => (dp d hd).1, fun zs p hp hs n => ?_⟩
      have em : (ws.zip ds).map (·.2) = ds := List.map_snd_zip (by rw [r.len]; omega)
      have ez : zs.map (·.2) = sortD ds := sortD_uniq al (by rw [← em]; exact hp.map _) (List.pairwise_map.mpr hs)
      have rz := rp_zip fun b hb => zip_rp r b (hp.mem_iff.mp hb)
      rw [ez] at rz
      exact q _ G _ (Al.newO g n) ⟨p, _, rfl, n, upd_same, Same.none g n, rz⟩
    · cases e
  · cases e
end
end DL
/-! NCOps4: min and max of the data layer. -/
namespace DL
open PySem PySem.Spec PyProof.Rows L2
def minOf (x : D) (xs : List D) : D := xs.foldl (fun b y => if ltD y b then y else b) x
def maxOf (x : D) (xs : List D) : D := xs.foldl (fun b y => if ltD b y then y else b) x
theorem minOf_eq (x : D) (xs : List D) : W.minD x xs = minOf x xs := rfl
theorem maxOf_eq (x : D) (xs : List D) : W.maxD x xs = maxOf x xs := rfl
section
variable {prog : Program} {w : World} {A : Around} {E : Value → Shared → Prop} {s : Shared}
theorem min_two {a b : Value} {da db : PyData} {as bs : List Addr} {Q : Value → Shared → Prop} (hh : A.handled = none) (ra : Reads s.heap a da as) (rb : Reads s.heap b db bs) (ha : W.AlikeAll [da, db]) (hu : A.units + 1 + PyData.depthAll [da, db] < cLine)
    (h : ∀ h' tk, (∀ c o, s.heap.get? c = some o → h'.get? c = some o) → Q (if ltD db da then b else a) { s with heap := h', toks := tk }) : wpAny (model prog w) A (call (.builtin "min") [a, b]) Q E s := by
  have hname : (toString "min" ++ toString ".loop" : String) = "min.loop" := by decide
  refine call_function_tree PySem.F.kind_min PySem.F.plain_min PySem.F.entry_min (PySem.F.args_min2 _ _) ?_
  show wpAny _ A.in1 (Builtin.Builtins.bindParams "min" ["key", "default"] 0 ⟨[], []⟩ >>= _) _ _ s
  refine wpAny_bind (wpAny_of_eq (show Builtin.Builtins.bindParams "min" ["key", "default"] 0 ⟨[], []⟩ = pure [none, none] from rfl) ?_)
  show wpAny _ A.in1 (newTuple [a, b] >>= _) _ _ s
  refine wpAny_bind (wpAny_newObj_type ?_)
  have hT : (s.heap.push { cls := .type "tuple", data := .seq #[a, b] }).IsTuple s.heap.objs.size #[a, b] := ⟨_, Heap.get?_push_size _ rfl, rfl, 0, rfl⟩
  have hk0 : ∀ c o, s.heap.get? c = some o → (s.heap.push { cls := .type "tuple", data := .seq #[a, b] }).get? c = some o := fun c o e => Heap.get?_push_of_some _ e
  have hr : ReadsAll (s.heap.push { cls := .type "tuple", data := .seq #[a, b] }) (#[a, b] : Array Value).toList [da, db] (as ++ (bs ++ [])) := .cons (PyProof.Rows.Reads.keeps hk0 ra) (.cons (PyProof.Rows.Reads.keeps hk0 rb) .nil)
  refine wpAny_bind (PySem.W.iter_tupleW (A := A.in1) (s := { s with heap := s.heap.push { cls := .type "tuple", data := .seq #[a, b] } }) hh hT fun s₂ e WW st hfp hw hk => ?_)
  refine wpAny_bind (wpAny_newObj_type ?_)
  have hSf := fun hm => Nat.lt_irrefl _ (hfp s₂.heap.objs.size hm)
  rw [hname]
  refine wpAny_pure ⟨plainId_quiet PySem.F.plain_min_loop _, codeAny_min_loop_firstH WW _ hw _ (PySem.W.cmpIn_lt (A := A.in1) (s := { s with heap := s.heap.push { cls := .type "tuple", data := .seq #[a, b] } }) hr ha (by show A.units + 1 + _ < _; exact hu)) s₂.heap.objs.size hSf (fresh_in hk) _ (by show 0 < 2; decide) (fun c o e => Heap.get?_push_of_some _ (hk c o e)) (WW.frame 0 s₂ _ s₂.toks st (Nat.le_refl _) fun b _ o e => Heap.get?_push_of_some _ e) (Heap.get?_push_size _ rfl) fun v s' hP hm => ?_⟩
  obtain ⟨h', tk, rfl, hk'⟩ := PySem.W.moved_old e rfl (Moved.drop_new (tk := s₂.toks) hm (Nat.le_refl _))
  have hv : v = if ltD db da then b else a := by
    have hP2 : (#[a, b] : Array Value)[(if W.dataLt db da = true then 1 else 0 : Nat)]? = some v := hP
    show v = if W.dataLt db da = true then b else a
    by_cases c : W.dataLt db da = true
    · rw [if_pos c] at hP2 ⊢
      exact (Option.some.inj hP2).symm
    · rw [if_neg c] at hP2 ⊢
      exact (Option.some.inj hP2).symm
  rw [hv]
  exact h h' tk fun c o e => hk' c o (hk0 c o e)
theorem max_two {a b : Value} {da db : PyData} {as bs : List Addr} {Q : Value → Shared → Prop} (hh : A.handled = none) (ra : Reads s.heap a da as) (rb : Reads s.heap b db bs) (ha : W.AlikeAll [da, db]) (hu : A.units + 1 + PyData.depthAll [da, db] < cLine)
    (h : ∀ h' tk, (∀ c o, s.heap.get? c = some o → h'.get? c = some o) → Q (if ltD da db then b else a) { s with heap := h', toks := tk }) : wpAny (model prog w) A (call (.builtin "max") [a, b]) Q E s := by
  have hname : (toString "max" ++ toString ".loop" : String) = "max.loop" := by decide
  refine call_function_tree PySem.F.kind_max PySem.F.plain_max PySem.F.entry_max (PySem.F.args_max2 _ _) ?_
  show wpAny _ A.in1 (Builtin.Builtins.bindParams "max" ["key", "default"] 0 ⟨[], []⟩ >>= _) _ _ s
  refine wpAny_bind (wpAny_of_eq (show Builtin.Builtins.bindParams "max" ["key", "default"] 0 ⟨[], []⟩ = pure [none, none] from rfl) ?_)
  show wpAny _ A.in1 (newTuple [a, b] >>= _) _ _ s
  refine wpAny_bind (wpAny_newObj_type ?_)
  have hT : (s.heap.push { cls := .type "tuple", data := .seq #[a, b] }).IsTuple s.heap.objs.size #[a, b] := ⟨_, Heap.get?_push_size _ rfl, rfl, 0, rfl⟩
  have hk0 : ∀ c o, s.heap.get? c = some o → (s.heap.push { cls := .type "tuple", data := .seq #[a, b] }).get? c = some o := fun c o e => Heap.get?_push_of_some _ e
  have hr : ReadsAll (s.heap.push { cls := .type "tuple", data := .seq #[a, b] }) (#[a, b] : Array Value).toList [da, db] (as ++ (bs ++ [])) := .cons (PyProof.Rows.Reads.keeps hk0 ra) (.cons (PyProof.Rows.Reads.keeps hk0 rb) .nil)
  refine wpAny_bind (PySem.W.iter_tupleW (A := A.in1) (s := { s with heap := s.heap.push { cls := .type "tuple", data := .seq #[a, b] } }) hh hT fun s₂ e WW st hfp hw hk => ?_)
  refine wpAny_bind (wpAny_newObj_type ?_)
  have hSf := fun hm => Nat.lt_irrefl _ (hfp s₂.heap.objs.size hm)
  rw [hname]
  refine wpAny_pure ⟨plainId_quiet PySem.F.plain_max_loop _, codeAny_max_loop_firstH WW _ hw _ (PySem.W.cmpIn_gt (A := A.in1) (s := { s with heap := s.heap.push { cls := .type "tuple", data := .seq #[a, b] } }) hr ha (by show A.units + 1 + _ < _; exact hu)) s₂.heap.objs.size hSf (fresh_in hk) _ (by show 0 < 2; decide) (fun c o e => Heap.get?_push_of_some _ (hk c o e)) (WW.frame 0 s₂ _ s₂.toks st (Nat.le_refl _) fun b _ o e => Heap.get?_push_of_some _ e) (Heap.get?_push_size _ rfl) fun v s' hP hm => ?_⟩
  obtain ⟨h', tk, rfl, hk'⟩ := PySem.W.moved_old e rfl (Moved.drop_new (tk := s₂.toks) hm (Nat.le_refl _))
  have hv : v = if ltD da db then b else a := by
    have hP2 : (#[a, b] : Array Value)[(if W.dataLt da db = true then 1 else 0 : Nat)]? = some v := hP
    show v = if W.dataLt da db = true then b else a
    by_cases c : W.dataLt da db = true
    · rw [if_pos c] at hP2 ⊢
      exact (Option.some.inj hP2).symm
    · rw [if_neg c] at hP2 ⊢
      exact (Option.some.inj hP2).symm
  rw [hv]
  exact h h' tk fun c o e => hk' c o (hk0 c o e)
end
theorem CallR.or {X : Cx} {f : Value} {r r' : List V → Hp → VK → Prop} (h : CallR X f r) (h' : CallR X f r') : CallR X f (fun xs H Q => r xs H Q ∨ r' xs H Q) := by
  intro pins s σ H xs us Q I rs q
  rcases q with q | q
  · exact h pins s σ H xs us Q I rs q
  · exact h' pins s σ H xs us Q I rs q
def okTwo (x y : D) : Bool := W.alike x y && W.alike y x && W.alike x x && W.alike y y && !isNone x && !isNone y && SeqAt.shaped x && SeqAt.shaped y && Nat.ble x.depth 20 && Nat.ble y.depth 20
/-- of two -/
def rMM2 (K : PySem.W.Frag) (mx : Bool) : List V → Hp → VK → Prop := fun vs H Q => ∃ x y dx dy, vs = [x, y] ∧ L2.Dp K H x dx ∧ L2.Dp K H y dy ∧ okTwo dx dy = true ∧ Q (if (if mx then ltD dx dy else ltD dy dx) then y else x) H
theorem okTwo_ok {x y : D} (h : okTwo x y = true) : W.AlikeAll [x, y] ∧ PyData.depthAll [x, y] ≤ 20 ∧ SeqAt.shaped x = true ∧ SeqAt.shaped y = true := by
  unfold okTwo at h
  simp only [Bool.and_eq_true, Bool.not_eq_true'] at h
  obtain ⟨⟨⟨⟨⟨⟨⟨⟨⟨h1, h2⟩, h3⟩, h4⟩, h5⟩, h6⟩, h7⟩, h8⟩, h9⟩, h10⟩ := h
  have n1 : x ≠ .none := fun z => by rw [z] at h5; cases h5
  have n2 : y ≠ .none := fun z => by rw [z] at h6; cases h6
  have := Nat.le_of_ble_eq_true h9
  have := Nat.le_of_ble_eq_true h10
  refine ⟨⟨fun a ha b hb => ?_, fun a ha => ?_⟩, ?_, h7, h8⟩
  · simp only [List.mem_cons, List.not_mem_nil, or_false] at ha hb
    rcases ha with rfl | rfl <;> rcases hb with rfl | rfl <;> assumption
  · simp only [List.mem_cons, List.not_mem_nil, or_false] at ha
    rcases ha with rfl | rfl <;> assumption
  · simp only [PyData.depthAll]
    omega
section
variable {X : Cx}
theorem call_min2D (hc : X.calm = true) (hu : X.A.units + 64 < cLine) : CallR X (.builtin "min") (rMM2 X.K false) := by
  intro pins s σ H xs us Q I r h
  obtain ⟨x, y, dx, dy, rfl, h1, h2, ok, q⟩ := h
  obtain ⟨u1, u2, rfl, r1, r2⟩ := vals2 r
  obtain ⟨al, dp, _, _⟩ := okTwo_ok ok
  obtain ⟨as, ra⟩ := L2.Dp.reads I dx x u1 h1 r1
  obtain ⟨bs, rb⟩ := L2.Dp.reads I dy y u2 h2 r2
  refine min_two (I.ok.hd hc) ra rb al (by omega) fun h' tk hk => ⟨_, H, I.kept hk, ?_, q⟩
  show RelV (if ltD dy dx = true then y else x) (if ltD dy dx = true then u2 else u1)
  by_cases c : ltD dy dx = true
  · rw [if_pos c, if_pos c]; exact r2
  · rw [if_neg c, if_neg c]; exact r1
theorem call_max2D (hc : X.calm = true) (hu : X.A.units + 64 < cLine) : CallR X (.builtin "max") (rMM2 X.K true) := by
  intro pins s σ H xs us Q I r h
  obtain ⟨x, y, dx, dy, rfl, h1, h2, ok, q⟩ := h
  obtain ⟨u1, u2, rfl, r1, r2⟩ := vals2 r
  obtain ⟨al, dp, _, _⟩ := okTwo_ok ok
  obtain ⟨as, ra⟩ := L2.Dp.reads I dx x u1 h1 r1
  obtain ⟨bs, rb⟩ := L2.Dp.reads I dy y u2 h2 r2
  refine max_two (I.ok.hd hc) ra rb al (by omega) fun h' tk hk => ⟨_, H, I.kept hk, ?_, q⟩
  show RelV (if ltD dx dy = true then y else x) (if ltD dx dy = true then u2 else u1)
  by_cases c : ltD dx dy = true
  · rw [if_pos c, if_pos c]; exact r2
  · rw [if_neg c, if_neg c]; exact r1
end
/-- of a list -/
def okList (ds : List D) : Bool := !ds.isEmpty && alikeAllB ds && ds.all (fun d => !isNone d && SeqAt.shaped d && Nat.ble d.depth 20)
def pick (mx : Bool) : List D → D
  | [] => .none
  | x :: xs => if mx then maxOf x xs else minOf x xs
def rMML (K : PySem.W.Frag) (mx : Bool) : List V → Hp → VK → Prop := fun vs H Q => ∃ (a : Addr) (xs : List V) (ds : List D), vs = [.ref a] ∧ SqL K H a xs ∧ DpAll K H xs ds ∧ okList ds = true ∧ ∀ (i : Nat) v, xs[i]? = some v → ds[i]? = some (pick mx ds) → Q v H
theorem depthAll_le {c : Nat} : ∀ {ds : List D}, (∀ d ∈ ds, d.depth ≤ c) → PyData.depthAll ds ≤ c
  | [], _ => Nat.zero_le _
  | d :: ds, h => by
    have h1 := h d (List.mem_cons_self ..)
    have h2 := depthAll_le fun x hx => h x (List.mem_cons_of_mem _ hx)
    simp only [PyData.depthAll]
    omega
theorem fold_mem {f : D → D → D} (hf : ∀ b y, f b y = b ∨ f b y = y) : ∀ (xs : List D) (x : D), xs.foldl f x ∈ x :: xs
  | [], x => List.mem_cons_self ..
  | y :: ys, x => by
    rw [List.foldl_cons]
    have := fold_mem hf ys (f x y)
    rcases List.mem_cons.mp this with e | m
    · rw [e]
      rcases hf x y with h | h
      · rw [h]; exact List.mem_cons_self ..
      · rw [h]; exact List.mem_cons_of_mem _ (List.mem_cons_self ..)
    · exact List.mem_cons_of_mem _ (List.mem_cons_of_mem _ m)
theorem minOf_mem (x : D) (xs : List D) : minOf x xs ∈ x :: xs := fold_mem (fun b y => by
  by_cases c : ltD y b = true
  · exact .inr (if_pos c)
  · exact .inl (if_neg c)) xs x
theorem maxOf_mem (x : D) (xs : List D) : maxOf x xs ∈ x :: xs := fold_mem (fun b y => by
  by_cases c : ltD b y = true
  · exact .inr (if_pos c)
  · exact .inl (if_neg c)) xs x
theorem okList_ok {ds : List D} (h : okList ds = true) : ds ≠ [] ∧ W.AllAlike ds ∧ W.AlikeAll ds ∧ PyData.depthAll ds ≤ 20 ∧ ∀ d ∈ ds, SeqAt.shaped d = true := by
  unfold okList at h
  obtain ⟨h1, h2⟩ := Bool.and_eq_true_iff.mp h
  obtain ⟨h3, h4⟩ := Bool.and_eq_true_iff.mp h1
  have al := alikeAllB_ok h4
  have ea : ∀ d ∈ ds, isNone d = false ∧ SeqAt.shaped d = true ∧ d.depth ≤ 20 := fun d hd => by
    have := List.all_eq_true.mp h2 d hd
    simp only [Bool.and_eq_true, Bool.not_eq_true'] at this
    exact ⟨this.1.1, this.1.2, Nat.le_of_ble_eq_true this.2⟩
  refine ⟨(fun z => by rw [z] at h3; cases h3), al, ⟨al, fun d hd z => ?_⟩, depthAll_le fun d hd => (ea d hd).2.2, fun d hd => (ea d hd).2.1⟩
  have := (ea d hd).1
  rw [z] at this
  cases this
theorem dpall_get {K : PySem.W.Frag} {H : Hp} : ∀ {xs : List V} {ds : List D} {i : Nat} {d : D}, DpAll K H xs ds → ds[i]? = some d → ∃ v, xs[i]? = some v ∧ L2.Dp K H v d
  | _, _, _, _, .nil, e => by simp at e
  | _, _, 0, _, .cons h _, e => by simp at e; subst e; exact ⟨_, rfl, h⟩
  | _, _, i + 1, d, .cons _ r, e => by
    obtain ⟨v, h1, h2⟩ := dpall_get (i := i) (d := d) r (by simpa using e)
    exact ⟨v, by simpa using h1, h2⟩
section
variable {X : Cx} {pins : List (Addr × Obj)} {σ : L2.St} {H : Hp} {s : Shared}
theorem mm_end {Q : VK} {xs : List V} {ds : List D} {its : List Value} {i : Nat} {u : Value} {m : D} {h' : Heap} {tk : Nat} {bs : List Addr} (I : Inv X pins σ H s) (dp : DpAll X.K H xs ds) (rv : Vals xs its) (al : W.AllAlike ds) (hm : m ∈ ds) (hu : its[i]? = some u) (hr : Reads h' u m bs)
    (hk : ∀ b o, s.heap.get? b = some o → h'.get? b = some o) (q : ∀ (i : Nat) v, xs[i]? = some v → ds[i]? = some m → Q v H) : EP X pins σ Q u { s with heap := h', toks := tk } := by
  have hl := dpall_len dp
  have hlt : i < its.length := (List.getElem?_eq_some_iff.mp hu).1
  have hl2 := rv.length
  have hi : i < ds.length := by omega
  obtain ⟨v, h1, h2⟩ := dpall_get dp (List.getElem?_eq_getElem hi)
  obtain ⟨u2, h3, h4⟩ := rv.get h1
  rw [hu] at h3
  cases h3
  obtain ⟨as, r2⟩ := L2.Dp.reads I _ v u h2 h4
  have e : ds[i] = m := W.alike_unique _ _ _ _ _ (al _ (List.getElem_mem hi) _ hm) (PyProof.Rows.Reads.keeps hk r2) hr
  exact ⟨v, H, I.kept hk, h4, q i v h1 (by rw [List.getElem?_eq_getElem hi, e])⟩
theorem call_minLD (hc : X.calm = true) (hu : X.A.units + 64 < cLine) : CallR X (.builtin "min") (rMML X.K false) := by
  intro pins s σ H vs us Q I r h
  obtain ⟨a, xs, ds, rfl, hs, dp, ok, q⟩ := h
  obtain ⟨ne, al, al2, dd, _⟩ := okList_ok ok
  obtain ⟨its, rv, hl, hz⟩ := I.list hs
  obtain ⟨u, rfl, ru⟩ := vals1 r
  obtain rfl : u = Value.ref a := ru
  obtain ⟨as, rd⟩ := L2.Dp.readsAll I ds xs its dp rv
  cases ds with
  | nil => exact absurd rfl ne
  | cons x ds =>
    refine W.min_list_data (I.ok.hd hc) hl.isList (x := x) (xs := ds) (as := as) (by simpa using rd) al2 (by omega) fun i v h' tk bs hv hr hk => ?_
    exact mm_end I dp rv al (m := minOf x ds) (minOf_mem x ds) (by simpa using hv) hr hk q
theorem call_maxLD (hc : X.calm = true) (hu : X.A.units + 64 < cLine) : CallR X (.builtin "max") (rMML X.K true) := by
  intro pins s σ H vs us Q I r h
  obtain ⟨a, xs, ds, rfl, hs, dp, ok, q⟩ := h
  obtain ⟨ne, al, al2, dd, _⟩ := okList_ok ok
  obtain ⟨its, rv, hl, hz⟩ := I.list hs
  obtain ⟨u, rfl, ru⟩ := vals1 r
  obtain rfl : u = Value.ref a := ru
  obtain ⟨as, rd⟩ := L2.Dp.readsAll I ds xs its dp rv
  cases ds with
  | nil => exact absurd rfl ne
  | cons x ds =>
    refine W.max_list_data (I.ok.hd hc) hl.isList (x := x) (xs := ds) (as := as) (by simpa using rd) al2 (by omega) fun i v h' tk bs hv hr hk => ?_
    exact mm_end I dp rv al (m := maxOf x ds) (maxOf_mem x ds) (by simpa using hv) hr hk q
end
def rMinU (K : PySem.W.Frag) : List V → Hp → VK → Prop := fun xs H Q => rMM2 K false xs H Q ∨ rMML K false xs H Q
def rMaxU (K : PySem.W.Frag) : List V → Hp → VK → Prop := fun xs H Q => rMM2 K true xs H Q ∨ rMML K true xs H Q ∨ rMax3 xs H Q
theorem call_minU {X : Cx} (K : PySem.W.Frag) (hc : X.calm = true) (hu : X.A.units + 64 < cLine) (h : X.K = K := by rfl) : CallR X (.builtin "min") (rMinU K) := by subst h; exact CallR.or (call_min2D hc hu) (call_minLD hc hu)
theorem call_maxU {X : Cx} (K : PySem.W.Frag) (hc : X.calm = true) (hu : X.A.units + 64 < cLine) (h : X.K = K := by rfl) : CallR X (.builtin "max") (rMaxU K) := by subst h; exact CallR.or (call_max2D hc hu) (CallR.or (call_maxLD hc hu) (call_max3N hc))
/-- two operands that are data (not lists of one's own) -/
def datB : D → Bool
  | .list _ => false
  | .dict _ => false
  | _ => true
def opMin : List D → Option Slot
  | [.list xs] => if okList xs then some (.d (pick false xs)) else none
  | [x, y] => if okTwo x y && datB x && datB y then some (.d (if ltD y x then y else x)) else none
  | _ => none
def opMax : List D → Option Slot
  | [.list xs] => if okList xs then some (.d (pick true xs)) else none
  | [x, y] => if okTwo x y && datB x && datB y then some (.d (if ltD x y then y else x)) else none
  | [.int i, .int j, .int k] => some (.d (.int (if j > i then (if k > j then k else j) else (if k > i then k else i))))
  | _ => none
section
variable {T : Kt} {G H : Hp}
theorem Pk.rp {v : V} {x : D} (h : Pk T G H v x) : Rp T G v x ∨ ∃ xs, x = .list xs ∨ ∃ c, x = dIns c xs := by
  rcases h with h | ⟨a, vs, xs, rfl, rfl, h1, r⟩ | ⟨a, dx, c, fs, ds, rfl, rfl, _⟩
  · exact .inl h
  · exact .inr ⟨xs, .inl rfl⟩
  · exact .inr ⟨ds, .inr ⟨c, rfl⟩⟩
theorem cs_mm {mx : Bool} {Q : VK} {vs : List V} {xs : List D} (g : Same G H) (hv : Paired (Pk T G H) vs [.list xs]) (ok : okList xs = true) (q : ∀ u G' H', Al G H G' H' → RNew T H G' H' u (.d (pick mx xs)) → Q u H') : rMML T.K mx vs H Q := by
  obtain ⟨v, rfl, h⟩ := pk1 hv
  obtain ⟨a, ws, rfl, h1, r⟩ := h.list g
  obtain ⟨_, _, _, _, sh⟩ := okList_ok ok
  refine ⟨a, ws, xs, rfl, SqL.of h1, r.dp g (lay_all fun d hd => shp_lay (sh d hd)), ok, fun i v h2 h3 => ?_⟩
  obtain ⟨w, h4, h5⟩ := r.get h3
  rw [h2] at h4
  cases h4
  exact q _ G H (Al.refl g) h5
theorem Pk.dat {v : V} {x : D} (h : Pk T G H v x) (d : datB x = true) : Rp T G v x := by
  rcases h.rp with h | ⟨xs, rfl | ⟨c, rfl⟩⟩
  · exact h
  · cases d
  · cases d
theorem cs_two {mx : Bool} {Q : VK} {vs : List V} {x y : D} (g : Same G H) (hv : Paired (Pk T G H) vs [x, y]) (ok : (okTwo x y && datB x && datB y) = true) (q : ∀ u G' H', Al G H G' H' → RNew T H G' H' u (.d (if (if mx then ltD x y else ltD y x) then y else x)) → Q u H') : rMM2 T.K mx vs H Q := by
  obtain ⟨v, w, rfl, h1, h2⟩ := pk2 hv
  obtain ⟨ok1, d2⟩ := Bool.and_eq_true_iff.mp ok
  obtain ⟨ok2, d1⟩ := Bool.and_eq_true_iff.mp ok1
  obtain ⟨_, _, s1, s2⟩ := okTwo_ok ok2
  refine ⟨v, w, x, y, rfl, h1.dp g s1, h2.dp g s2, ok2, ?_⟩
  refine q _ G H (Al.refl g) ?_
  show Rp T G _ _
  by_cases c : (if mx = true then ltD x y else ltD y x) = true
  · rw [if_pos c, if_pos c]; exact h2.dat d2
  · rw [if_neg c, if_neg c]; exact h1.dat d1
theorem cs_min : CbS T (rMinU T.K) opMin := by
  intro G H vs xs s Q g hv e q
  unfold opMin at e
  split at e
  · split at e
    · rename_i ok
      cases e
      exact .inr (cs_mm g hv ok q)
    · cases e
  · split at e
    · rename_i ok
      cases e
      exact .inl (cs_two (mx := false) g hv ok q)
    · cases e
  · cases e
theorem cs_max : CbS T (rMaxU T.K) opMax := by
  intro G H vs xs s Q g hv e q
  unfold opMax at e
  split at e
  · split at e
    · rename_i ok
      cases e
      exact .inr (.inl (cs_mm g hv ok q))
    · cases e
  · split at e
    · rename_i ok
      cases e
      exact .inl (cs_two (mx := true) g hv ok q)
    · cases e
  · cases e
    cases hv with
    | cons h1 r =>
      obtain ⟨v, w, rfl, h2, h3⟩ := pk2 r
      refine .inr (.inr ⟨_, _, _, by rw [h1.int, h2.int, h3.int], q _ G H (Al.refl g) (.int _)⟩)
  · cases e
end
end DL
/-! NCStm: statements, loops, comprehensions of the data layer. -/
namespace DL
open PySem PySem.Spec PyProof.Rows L2
section
variable {T : Kt} {B : Option Addr} {G0 H0 G H G' H' : Hp} {ρ : Ev} {σ : L2.St} {E : XK}
/-! ### a thing in the hand is kept while the rest goes on -/
theorem SI.pin (I : SI T B G0 H0 ρ σ G H) {a : Addr} {o : HO} (h : H a = some o) (hg : G a = none) (h0 : H0 a = none) (no : ∀ (k : Nat) u, ρ[k]? = some u → u.own = true → σ[k]? ≠ some (some (.ref a))) (nt : NTb o) : SI T B G0 (upd H0 a o) ρ σ G H := by
  refine ⟨I.gg, I.gh, fun b x e n => ?_, fun b n => ?_, fun b e => ?_, I.ln, fun i s e n => ?_, I.ap, I.tb.1, fun p hp => ⟨(I.tb.2 p hp).1, by rw [upd_ne (Ne.symm (na_of I.tb.1 h nt p hp))]; exact (I.tb.2 p hp).2⟩⟩
  · by_cases hb : b = a
    · rw [hb, upd_same] at e; rw [hb, h]; exact e
    · rw [upd_ne hb] at e; exact I.hh b x e n
  · rcases I.nw b n with z | z | z
    · exact .inl z
    · by_cases hb : b = a
      · rw [hb, hg] at n; exact absurd rfl n
      · rw [upd_ne hb]; exact .inr (.inl z)
    · exact .inr (.inr z)
  · obtain ⟨b1, b2, b3⟩ := I.bg b e
    have hb : b ≠ a := fun z => b2 (by rw [z]; exact h0)
    rw [upd_ne hb]
    exact ⟨b1, b2, b3⟩
  · obtain ⟨v, h1, h2⟩ := I.sl i s e n
    refine ⟨v, h1, ?_⟩
    have ne : ∀ c, v = .ref c → s.own = true → c ≠ a := fun c ec os z => no i s e os (by rw [h1, ec, z])
    cases s with
    | un => trivial
    | d x => exact h2
    | o xs =>
      obtain ⟨c, vs, e, h3, h4, h5, r⟩ := h2
      exact ⟨c, vs, e, h3, h4, by rw [upd_ne (ne c e rfl)]; exact h5, r⟩
    | b xs => exact h2
    | j cc ds => exact h2
    | t kvs =>
      obtain ⟨c, xs, e, h3, h4, h5, r⟩ := h2
      exact ⟨c, xs, e, h3, h4, by rw [upd_ne (ne c e rfl)]; exact h5, r⟩
theorem SI.unpin {a : Addr} {o : HO} (I : SI T B G0 (upd H0 a o) ρ σ G H) (h0 : H0 a = none) (hB : B ≠ some a) (hg0 : G0 a = none) (nt : NTb o) : SI T B G0 H0 ρ σ G H ∧ H a = some o ∧ G a = none ∧ ∀ (k : Nat) u, ρ[k]? = some u → u.own = true → σ[k]? ≠ some (some (.ref a)) := by
  have up : ∀ {b x}, H0 b = some x → upd H0 a o b = some x := fun {b x} e => by rw [upd_ne (fun z => by rw [z, h0] at e; cases e)]; exact e
  have dn : ∀ {b}, upd H0 a o b = none → H0 b = none := fun {b} e => by
    by_cases hb : b = a
    · rw [hb]; exact h0
    · rw [upd_ne hb] at e; exact e
  have ha : H a = some o := I.hh a o upd_same hB
  have hga : G a = none := by
    cases q : G a with
    | none => rfl
    | some z =>
      rcases I.nw a (by rw [q]; simp) with z | z | ⟨c, y, z⟩
      · exact absurd hg0 z
      · rw [upd_same] at z; cases z
      · have := I.gh a _ z
        rw [ha] at this
        cases this
        exact absurd rfl (nt.2 c y)
  refine ⟨⟨I.gg, I.gh, fun b x e n => I.hh b x (up e) n, fun b n => ?_, fun b e => ?_, I.ln, fun i s e n => ?_, I.ap, I.tb.1, fun p hp => ⟨(I.tb.2 p hp).1, dn (I.tb.2 p hp).2⟩⟩, ha, hga, fun k u e ou z => ?_⟩
  · rcases I.nw b n with z | z | z
    · exact .inl z
    · exact .inr (.inl (dn z))
    · exact .inr (.inr z)
  · obtain ⟨b1, b2, b3⟩ := I.bg b e
    have hb : b ≠ a := fun z => hB (by rw [← z]; exact e)
    rw [upd_ne hb] at b2
    exact ⟨b1, b2, b3⟩
  · obtain ⟨v, h1, h2⟩ := I.sl i s e n
    refine ⟨v, h1, ?_⟩
    cases s with
    | un => trivial
    | d x => exact h2
    | o xs =>
      obtain ⟨c, vs, e, h3, h4, h5, r⟩ := h2
      exact ⟨c, vs, e, h3, h4, dn h5, r⟩
    | b xs => exact h2
    | j cc ds => exact h2
    | t kvs =>
      obtain ⟨c, xs, e, h3, h4, h5, r⟩ := h2
      exact ⟨c, xs, e, h3, h4, dn h5, r⟩
  · obtain ⟨v, h1, h2⟩ := I.sl k u e (fun q => by subst q; cases ou)
    rw [z] at h1
    cases h1
    cases u with
    | un => cases ou
    | d x => cases ou
    | o xs =>
      obtain ⟨c, vs, e, h3, h4, h5, r⟩ := h2
      cases e
      rw [upd_same] at h5; cases h5
    | b xs =>
      obtain ⟨c, vs, e, h3, _⟩ := h2
      cases e
      exact hB h3
    | j cc ds =>
      obtain ⟨c, dx, fs, e, h3, _⟩ := h2
      cases e
      exact hB h3
    | t kvs =>
      obtain ⟨c, xs, e, h3, h4, h5, r⟩ := h2
      cases e
      rw [upd_same] at h5; cases h5
theorem XW.pin {c : Int} {x : D} {a : Addr} {o : HO} (w : XW T B H0 E c x) (h0 : H0 a = none) : XW T B (upd H0 a o) E c x := fun H' d v f n e r tt => w H' d v (fun b z q nb => f b z (by rw [upd_ne (fun y => by rw [y, h0] at q; cases q)]; exact q) nb) (by
  by_cases hd : d = a
  · rw [hd]; exact h0
  · rw [upd_ne hd] at n; exact n) e r tt
theorem SI.nob (I : SI T B G0 H0 ρ σ G H) {a : Addr} (h0 : H0 a = none) : B ≠ some a := fun z => (I.bg a z).2.1 h0
theorem SI.g0 (I : SI T B G0 H0 ρ σ G H) {a : Addr} (hg : G a = none) : G0 a = none := Same.none I.gg hg
/-! ### targets -/
def nmG (i : Nat) : D → Ev → Option Ev := fun x ρ => if i < ρ.length then some (ρ.set i (.d x)) else none
theorem dg_name (i : Nat) : Dg T [i] (gName i) (nmG i) := by
  intro B G0 H0 ρ σ G H Q v x I r
  unfold nmG
  split
  · rename_i e
    split at e
    · cases e
      rename_i hi
      intro q
      exact q _ G H (I.store (s := .d x) (by rw [← I.ln]; exact hi) r (fun z => by cases z)) (Same.refl _) (by rw [List.length_set]) fun k hk => List.getElem?_set_ne (fun z => hk (by rw [z]; exact List.mem_cons_self ..))
    · cases e
  · trivial
def Dgs (T : Kt) (ts : List Nat) (g : TGs) (f : List D → Ev → Option Ev) : Prop := ∀ B G0 H0 ρ σ G H (Q : L2.St → Hp → Prop) vs xs, SI T B G0 H0 ρ σ G H → RpL T G vs xs → match f xs ρ with
  | some ρ' => (∀ σ' G' H', SI T B G0 H0 ρ' σ' G' H' → Same G G' → σ'.length = σ.length → (∀ i : Nat, i ∉ ts → σ'[i]? = σ[i]?) → Q σ' H') → g vs σ H Q
  | none => True
def nilG : List D → Ev → Option Ev := fun xs ρ => match xs with
  | [] => some ρ
  | _ => none
def consG (f : D → Ev → Option Ev) (g : List D → Ev → Option Ev) : List D → Ev → Option Ev := fun xs ρ => match xs with
  | x :: xs => match f x ρ with
    | some ρ' => g xs ρ'
    | none => none
  | [] => none
def tupG (n : Nat) (g : List D → Ev → Option Ev) : D → Ev → Option Ev := fun x ρ => match x with
  | .tuple xs => if xs.length == n then g xs ρ else none
  | _ => none
def unlG (n : Nat) (g : List D → Ev → Option Ev) : D → Ev → Option Ev := fun x ρ => match x with
  | .tuple xs => if xs.length == n then g xs ρ else none
  | .list xs => if xs.length == n then g xs ρ else none
  | _ => none
theorem dgs_nil : Dgs T [] gNil nilG := by
  intro B G0 H0 ρ σ G H Q vs xs I r
  cases r with
  | nil => exact fun q => ⟨rfl, q σ G H I (Same.refl _) rfl fun _ _ => rfl⟩
  | cons _ _ => trivial
theorem dgs_cons {ts us : List Nat} {g : TG} {gs : TGs} {f : D → Ev → Option Ev} {fs : List D → Ev → Option Ev} (h1 : Dg T ts g f) (h2 : Dgs T us gs fs) : Dgs T (ts ++ us) (gCons g gs) (consG f fs) := by
  intro B G0 H0 ρ σ G H Q vs xs I r
  cases r with
  | nil => trivial
  | @cons v vs x xs hr r =>
    show match (match f x ρ with | some ρ' => fs xs ρ' | none => none) with | some ρ' => _ | none => _
    have a1 := fun Q' => h1 B G0 H0 ρ σ G H Q' v x I hr
    cases e1 : f x ρ with
    | none => trivial
    | some ρ1 =>
      rw [e1] at a1
      dsimp only
      cases e2 : fs xs ρ1 with
      | none => trivial
      | some ρ2 =>
        intro q
        refine ⟨v, vs, rfl, a1 _ fun σ1 G1 H1 I1 k1 l1 f1 => ?_⟩
        have a2 := h2 B G0 H0 ρ1 σ1 G1 H1 Q vs xs I1 (r.mono k1)
        rw [e2] at a2
        exact a2 fun σ2 G2 H2 I2 k2 l2 f2 => q σ2 G2 H2 I2 (k1.trans k2) (l2.trans l1) fun i hi => (f2 i fun z => hi (List.mem_append_right _ z)).trans (f1 i fun z => hi (List.mem_append_left _ z))
theorem dg_tup {ts : List Nat} {n : Nat} {gs : TGs} {fs : List D → Ev → Option Ev} (h : Dgs T ts gs fs) : Dg T ts (gTup T.K n gs) (tupG n fs) := by
  intro B G0 H0 ρ σ G H Q v x I r
  unfold tupG
  split
  · rename_i e
    split at e
    · rename_i xs
      split at e
      · rename_i hl
        cases r with
        | tup ha r =>
          intro q
          have a := h B G0 H0 ρ σ G H Q _ xs I r
          rw [e] at a
          exact ⟨_, _, rfl, SqT.of (I.gh _ _ ha), by rw [r.len]; exact beq_iff_eq.mp hl, a q⟩
      · cases e
    · cases e
  · trivial
/-! ### what is walked -/
def IterOk (T : Kt) (G : Hp) (J : It) (xs : List D) : Prop := ∀ G' H', Same G G' → Same G' H' → J.stop xs.length H' ∧ ∀ i, i < xs.length → J.go i H' ∧ ∀ v H2, J.yld i H' v H2 → ∃ G2 d, Al G' H' G2 H2 ∧ xs[i]? = some d ∧ Rp T G2 v d
abbrev rIt (T : Kt) : Rl (List D) It := fun _ _ _ G _ J xs => IterOk T G J xs
abbrev Di (T : Kt) (E : XK) (wi : TI) (f : M (List D)) : Prop := Dq T E (rIt T) wi f
def seqD : D → Option (List D)
  | .list xs => some xs
  | .tuple xs => some xs
  | PyData.dict [(PyData.none, PyData.list xs)] => some xs
  | _ => none
def itE (f : M Slot) : M (List D) := bd (sE f) fun x => lf (seqD x)
/-- over a list or a tuple -/
def iSeq (K : PySem.W.Frag) (tl : TE) : TI := fun σ H R => tl σ H fun x H1 => ∃ a, x = .ref a ∧ (((∃ xs, SqL K H1 a xs) ∧ R (Itl K a) H1) ∨ ((∃ xs, SqT K H1 a xs) ∧ R (Itt K a) H1))
theorem pi_seq {X : Cx} {tg l : Expr} {tl : TE} (K : PySem.W.Frag) (hl : PE X l tl) (hK : X.K = K := by rfl) : PI X tg l (iSeq K tl) := by
  subst hK
  refine ⟨fun pins s σ H R I h => ?_⟩
  refine thn (hl.run pins s σ H _ I h) fun v s1 ⟨x, H1, I1, r1, q1⟩ => ?_
  obtain ⟨a, e, ⟨⟨xs, hq⟩, q⟩ | ⟨⟨xs, hq⟩, q⟩⟩ := q1
  · subst e
    cases r1
    obtain ⟨its, rv, p, hz⟩ := I1.list hq
    refine wpAny_pyIter_list p.isList ?_
    refine ⟨s1.heap.objs.size, [s1.heap.objs.size], _, _, H1, rfl, I1.kept (t' := s1.toks) fun b o e => Heap.get?_push_of_some _ e, turn_list a _, ⟨_, Heap.get?_push_size _ rfl, rfl, rfl⟩, fun b hb => ?_, q⟩
    have e : b = s1.heap.objs.size := by simpa using hb
    subst e
    exact I1.fpOk (Nat.le_refl _) (I1.hok.fresh (Nat.le_refl _))
  · subst e
    cases r1
    obtain ⟨its, rv, p, hz⟩ := I1.tuple hq
    refine wpAny_pyIter_tuple (show s1.heap.IsTuple a its.toArray from p) ?_
    refine ⟨s1.heap.objs.size, [s1.heap.objs.size], _, _, H1, rfl, I1.kept (t' := s1.toks) fun b o e => Heap.get?_push_of_some _ e, turn_tuple a _, ⟨_, Heap.get?_push_size _ rfl, rfl, rfl⟩, fun b hb => ?_, q⟩
    have e : b = s1.heap.objs.size := by simpa using hb
    subst e
    exact I1.fpOk (Nat.le_refl _) (I1.hok.fresh (Nat.le_refl _))
theorem iter_list {K : PySem.W.Frag} {a : Addr} {vs : List V} {xs : List D} (h : ∀ G' H', Same G G' → Same G' H' → SqL K H' a vs) (r : RpL T G vs xs) : IterOk T G (Itl K a) xs := fun G' H' g1 g2 => by
  have hs := h G' H' g1 g2
  refine ⟨⟨vs, hs, by rw [r.len]; exact Nat.le_refl _⟩, fun i hi => ?_⟩
  obtain ⟨v, h1, h2⟩ := r.get (List.getElem?_eq_getElem hi)
  refine ⟨⟨vs, v, hs, h1⟩, fun w H2 y => ?_⟩
  obtain ⟨rfl, y⟩ := y
  have := y vs hs
  rw [h1] at this
  cases this
  exact ⟨G', xs[i], Al.refl g2, List.getElem?_eq_getElem hi, h2.mono g1⟩
theorem iter_tup {K : PySem.W.Frag} {a : Addr} {vs : List V} {xs : List D} (h : ∀ G' H', Same G G' → Same G' H' → SqT K H' a vs) (r : RpL T G vs xs) : IterOk T G (Itt K a) xs := fun G' H' g1 g2 => by
  have hs := h G' H' g1 g2
  refine ⟨⟨vs, hs, by rw [r.len]; exact Nat.le_refl _⟩, fun i hi => ?_⟩
  obtain ⟨v, h1, h2⟩ := r.get (List.getElem?_eq_getElem hi)
  refine ⟨⟨vs, v, hs, h1⟩, fun w H2 y => ?_⟩
  obtain ⟨rfl, y⟩ := y
  have := y vs hs
  rw [h1] at this
  cases this
  exact ⟨G', xs[i], Al.refl g2, List.getElem?_eq_getElem hi, h2.mono g1⟩
theorem di_seq {t : TE} {f : M Slot} (h : De T E t f) : Di T E (iSeq T.K t) (itE f) := by
  intro B G0 H0 ρ σ G H I
  refine Pt.bd (t := t σ) (u := fun x H1 (R : It → Hp → Prop) => ∃ a, x = .ref a ∧ (((∃ xs, SqL T.K H1 a xs) ∧ R (Itl T.K a) H1) ∨ ((∃ xs, SqT T.K H1 a xs) ∧ R (Itt T.K a) H1))) (dd_of h B G0 H0 ρ σ G H I) fun x ρ1 v G1 H1 _ I1 k1 r1 => ?_
  refine Pt.lf fun xs e => Pt.ok fun R q => ?_
  unfold seqD at e
  split at e
  · cases e
    cases r1 with
    | lst ha r => exact ⟨_, rfl, .inl ⟨⟨_, SqL.of (I1.gh _ _ ha)⟩, q _ G1 H1 I1 (Same.refl _) (iter_list (fun G' H' g1 g2 => SqL.of (g2 _ _ (g1 _ _ ha))) r)⟩⟩
  · cases e
    cases r1 with
    | tup ha r => exact ⟨_, rfl, .inr ⟨⟨_, SqT.of (I1.gh _ _ ha)⟩, q _ G1 H1 I1 (Same.refl _) (iter_tup (fun G' H' g1 g2 => SqT.of (g2 _ _ (g1 _ _ ha))) r)⟩⟩
  · cases e
    cases r1 with
    | scr ha r => exact ⟨_, rfl, .inl ⟨⟨_, sql_mono I1.gh ha⟩, q _ G1 H1 I1 (Same.refl _) (iter_list (fun G' H' g1 g2 => sql_mono g2 (sql_mono g1 ha)) r)⟩⟩
  · cases e
/-- range -/
def rngD (lo : Int) (n : Nat) : List D := (List.range n).map fun i => .int (lo + (i : Nat))
def rng1E (f : M (List D)) : M (List D) := bd f fun xs => match xs with
  | [.int j] => lf (if Nat.blt j.natAbs 4611686018427387904 then some (rngD 0 j.toNat) else none)
  | _ => fun _ => .no
def rng2E (f : M (List D)) : M (List D) := bd f fun xs => match xs with
  | [.int i, .int j] => lf (if Nat.blt i.natAbs 4611686018427387904 && Nat.blt j.natAbs 4611686018427387904 then some (rngD i (j - i).toNat) else none)
  | _ => fun _ => .no
theorem iter_rng {lo : Int} {n : Nat} : IterOk T G (Itr lo n) (rngD lo n) := fun G' H' g1 g2 => by
  have hl : (rngD lo n).length = n := by unfold rngD; rw [List.length_map, List.length_range]
  refine ⟨by show n ≤ (rngD lo n).length; omega, fun i hi => ⟨by show i < n; omega, fun v H2 y => ?_⟩⟩
  obtain ⟨rfl, rfl⟩ := y
  refine ⟨G', .int (lo + (i : Nat)), Al.refl g2, ?_, .int _⟩
  unfold rngD
  rw [List.getElem?_map, List.getElem?_range (by omega)]
  rfl
theorem rp1 {vs : List V} {x : D} (h : RpL T G vs [x]) : ∃ v, vs = [v] ∧ Rp T G v x := by
  cases h with
  | cons a r => cases r; exact ⟨_, rfl, a⟩
theorem rp2 {vs : List V} {x y : D} (h : RpL T G vs [x, y]) : ∃ v w, vs = [v, w] ∧ Rp T G v x ∧ Rp T G w y := by
  cases h with
  | cons a r =>
    obtain ⟨w, rfl, b⟩ := rp1 r
    exact ⟨_, w, rfl, a, b⟩
theorem di_rng1 {ta : TA} {f : M (List D)} (h : Da T E ta f) : Di T E (iRng1 ta) (rng1E f) := by
  intro B G0 H0 ρ σ G H I
  refine Pt.bd (t := ta σ) (u := fun vs H1 (R : It → Hp → Prop) => ∃ j : Int, vs = [.int j] ∧ -(2 ^ 62) ≤ j ∧ j < 2 ^ 62 ∧ R (Itr 0 j.toNat) H1) (h B G0 H0 ρ σ G H I) fun xs ρ1 vs G1 H1 _ I1 k1 r1 => ?_
  split
  · refine Pt.lf fun ys e => ?_
    split at e
    · rename_i hb
      cases e
      refine Pt.ok fun R q => ?_
      obtain ⟨v, rfl, h1⟩ := rp1 r1
      cases h1
      have := blt_lt hb
      exact ⟨_, rfl, by omega, by omega, q _ G1 H1 I1 (Same.refl _) iter_rng⟩
    · cases e
  · exact Pt.no
theorem di_rng2 {ta : TA} {f : M (List D)} (h : Da T E ta f) : Di T E (iRng2 ta) (rng2E f) := by
  intro B G0 H0 ρ σ G H I
  refine Pt.bd (t := ta σ) (u := fun vs H1 (R : It → Hp → Prop) => ∃ i j : Int, vs = [.int i, .int j] ∧ (-(2 ^ 62) ≤ i ∧ i < 2 ^ 62 ∧ -(2 ^ 62) ≤ j ∧ j < 2 ^ 62) ∧ R (Itr i (j - i).toNat) H1) (h B G0 H0 ρ σ G H I) fun xs ρ1 vs G1 H1 _ I1 k1 r1 => ?_
  split
  · refine Pt.lf fun ys e => ?_
    split at e
    · rename_i hb
      cases e
      refine Pt.ok fun R q => ?_
      obtain ⟨v, w, rfl, h1, h2⟩ := rp2 r1
      cases h1
      cases h2
      obtain ⟨b1, b2⟩ := Bool.and_eq_true_iff.mp hb
      have := blt_lt b1
      have := blt_lt b2
      exact ⟨_, _, rfl, ⟨by omega, by omega, by omega, by omega⟩, q _ G1 H1 I1 (Same.refl _) iter_rng⟩
    · cases e
  · exact Pt.no
/-- enumerate, zip -/
def enumD (xs : List D) : List D := (List.range xs.length).zipWith (fun i x => .tuple [.int (i : Nat), x]) xs
def zipD (xs ys : List D) : List D := xs.zipWith (fun x y => .tuple [x, y]) ys
def enumE (f : M (List D)) : M (List D) := bd f fun xs => match xs with
  | [.list xs] => ret (enumD xs)
  | _ => fun _ => .no
def zipE (f : M (List D)) : M (List D) := bd f fun xs => match xs with
  | [.list xs, .list ys] => ret (zipD xs ys)
  | [.tuple xs, .tuple ys] => ret (zipD xs ys)
  | _ => fun _ => .no
theorem iter_enum {K : PySem.W.Frag} {a : Addr} {vs : List V} {xs : List D} (ha : G a = some (.lst vs)) (r : RpL T G vs xs) : IterOk T G (Ite K a) (enumD xs) := fun G' H' g1 g2 => by
  have hs : SqL K H' a vs := SqL.of (g2 _ _ (g1 _ _ ha))
  have hl : (enumD xs).length = xs.length := by unfold enumD; rw [List.length_zipWith, List.length_range]; omega
  refine ⟨⟨vs, hs, by rw [hl, r.len]; exact Nat.le_refl _⟩, fun i hi => ?_⟩
  rw [hl] at hi
  obtain ⟨v, h1, h2⟩ := r.get (List.getElem?_eq_getElem hi)
  refine ⟨⟨vs, v, hs, h1⟩, fun w H2 y => ?_⟩
  obtain ⟨p, x, rfl, n, rfl, y⟩ := y
  have := y vs hs
  rw [h1] at this
  cases this
  have al := Al.new (o := .tup [.int (i : Nat), v]) g2 n
  refine ⟨_, .tuple [.int (i : Nat), xs[i]], al, ?_, .tup upd_same (.cons (.int _) (.cons ((h2.mono g1).mono al.gg) .nil))⟩
  unfold enumD
  rw [List.getElem?_zipWith, List.getElem?_range hi, List.getElem?_eq_getElem hi]
theorem iter_zip {K : PySem.W.Frag} {a b : Addr} {vs ws : List V} {xs ys : List D} (ha : G a = some (.lst vs)) (hb : G b = some (.lst ws)) (r : RpL T G vs xs) (r2 : RpL T G ws ys) : IterOk T G (Itz K a b) (zipD xs ys) := fun G' H' g1 g2 => by
  have hs : SqL K H' a vs := SqL.of (g2 _ _ (g1 _ _ ha))
  have hs2 : SqL K H' b ws := SqL.of (g2 _ _ (g1 _ _ hb))
  have hl : (zipD xs ys).length = min xs.length ys.length := by unfold zipD; rw [List.length_zipWith]
  have l1 := r.len
  have l2 := r2.len
  refine ⟨⟨vs, ws, hs, hs2, by omega⟩, fun i hi => ?_⟩
  have i1 : i < xs.length := by omega
  have i2 : i < ys.length := by omega
  obtain ⟨v, h1, h2⟩ := r.get (List.getElem?_eq_getElem i1)
  obtain ⟨v', h1', h2'⟩ := r2.get (List.getElem?_eq_getElem i2)
  refine ⟨⟨vs, ws, v, v', hs, hs2, h1, h1'⟩, fun w H2 y => ?_⟩
  obtain ⟨p, x, x', rfl, n, rfl, y, y'⟩ := y
  have := y vs hs
  rw [h1] at this
  cases this
  have := y' ws hs2
  rw [h1'] at this
  cases this
  have al := Al.new (o := .tup [v, v']) g2 n
  refine ⟨_, .tuple [xs[i], ys[i]], al, ?_, .tup upd_same (.cons ((h2.mono g1).mono al.gg) (.cons ((h2'.mono g1).mono al.gg) .nil))⟩
  unfold zipD
  rw [List.getElem?_zipWith, List.getElem?_eq_getElem i1, List.getElem?_eq_getElem i2]
theorem iter_zipT {K : PySem.W.Frag} {a b : Addr} {vs ws : List V} {xs ys : List D} (ha : G a = some (.tup vs)) (hb : G b = some (.tup ws)) (r : RpL T G vs xs) (r2 : RpL T G ws ys) : IterOk T G (RZ.ItzT K a b) (zipD xs ys) := fun G' H' g1 g2 => by
  have hs : SqT K H' a vs := SqT.of (g2 _ _ (g1 _ _ ha))
  have hs2 : SqT K H' b ws := SqT.of (g2 _ _ (g1 _ _ hb))
  have hl : (zipD xs ys).length = min xs.length ys.length := by unfold zipD; rw [List.length_zipWith]
  have l1 := r.len
  have l2 := r2.len
  refine ⟨⟨vs, ws, hs, hs2, by omega⟩, fun i hi => ?_⟩
  have i1 : i < xs.length := by omega
  have i2 : i < ys.length := by omega
  obtain ⟨v, h1, h2⟩ := r.get (List.getElem?_eq_getElem i1)
  obtain ⟨v', h1', h2'⟩ := r2.get (List.getElem?_eq_getElem i2)
  refine ⟨⟨vs, ws, v, v', hs, hs2, h1, h1'⟩, fun w H2 y => ?_⟩
  obtain ⟨p, x, x', rfl, n, rfl, y, y'⟩ := y
  have := y vs hs
  rw [h1] at this
  cases this
  have := y' ws hs2
  rw [h1'] at this
  cases this
  have al := Al.new (o := .tup [v, v']) g2 n
  refine ⟨_, .tuple [xs[i], ys[i]], al, ?_, .tup upd_same (.cons ((h2.mono g1).mono al.gg) (.cons ((h2'.mono g1).mono al.gg) .nil))⟩
  unfold zipD
  rw [List.getElem?_zipWith, List.getElem?_eq_getElem i1, List.getElem?_eq_getElem i2]
theorem di_enum {ta : TA} {f : M (List D)} (h : Da T E ta f) : Di T E (iEnum T.K ta) (enumE f) := by
  intro B G0 H0 ρ σ G H I
  refine Pt.bd (t := ta σ) (u := fun vs H1 (R : It → Hp → Prop) => ∃ a xs, vs = [.ref a] ∧ SqL T.K H1 a xs ∧ R (Ite T.K a) H1) (h B G0 H0 ρ σ G H I) fun xs ρ1 vs G1 H1 _ I1 k1 r1 => ?_
  split
  · refine Pt.ok fun R q => ?_
    obtain ⟨v, rfl, h1⟩ := rp1 r1
    cases h1 with
    | lst ha r => exact ⟨_, _, rfl, SqL.of (I1.gh _ _ ha), q _ G1 H1 I1 (Same.refl _) (iter_enum ha r)⟩
  · exact Pt.no
theorem di_zip {ta : TA} {f : M (List D)} (h : Da T E ta f) : Di T E (RZ.iZipA T.K ta) (zipE f) := by
  intro B G0 H0 ρ σ G H I
  refine Pt.bd (t := ta σ) (u := fun vs H1 (R : It → Hp → Prop) => ∃ a b xs ys, vs = [.ref a, .ref b] ∧ ((SqL T.K H1 a xs ∧ SqL T.K H1 b ys ∧ R (Itz T.K a b) H1) ∨ (SqT T.K H1 a xs ∧ SqT T.K H1 b ys ∧ R (RZ.ItzT T.K a b) H1))) (h B G0 H0 ρ σ G H I) fun xs ρ1 vs G1 H1 _ I1 k1 r1 => ?_
  split
  · refine Pt.ok fun R q => ?_
    obtain ⟨v, w, rfl, h1, h2⟩ := rp2 r1
    cases h1 with
    | lst ha r => cases h2 with
      | lst hb r2 => exact ⟨_, _, _, _, rfl, .inl ⟨SqL.of (I1.gh _ _ ha), SqL.of (I1.gh _ _ hb), q _ G1 H1 I1 (Same.refl _) (iter_zip ha hb r r2)⟩⟩
  · refine Pt.ok fun R q => ?_
    obtain ⟨v, w, rfl, h1, h2⟩ := rp2 r1
    cases h1 with
    | tup ha r => cases h2 with
      | tup hb r2 => exact ⟨_, _, _, _, rfl, .inr ⟨SqT.of (I1.gh _ _ ha), SqT.of (I1.gh _ _ hb), q _ G1 H1 I1 (Same.refl _) (iter_zipT ha hb r r2)⟩⟩
  · exact Pt.no
end
end DL
/-! NCStm2: statements, loops, comprehensions of the data layer. -/
namespace DL
open PySem PySem.Spec PyProof.Rows L2
section
variable {T : Kt} {B : Option Addr} {G0 H0 G H G' H' : Hp} {ρ : Ev} {σ : L2.St} {E : XK}
/-- a statement from here on does what r tells -/
def Ps (T : Kt) (E : XK) (B : Option Addr) (G0 H0 : Hp) (G : Hp) (u : Ends → Prop) (r : R (Out × Ev)) : Prop := ∀ Z : Ends, match r with
  | .ok (.nx, ρ') => (∀ σ' G' H', SI T B G0 H0 ρ' σ' G' H' → Same G G' → Z.nx σ' H') → u Z
  | .ok (.bk, ρ') => (∀ σ' G' H', SI T B G0 H0 ρ' σ' G' H' → Same G G' → Z.bk σ' H') → u Z
  | .ok (.ct, ρ') => (∀ σ' G' H', SI T B G0 H0 ρ' σ' G' H' → Same G G' → Z.ct σ' H') → u Z
  | .ok (.rt s, ρ') => (∀ v σ' G' H', SI T B G0 H0 ρ' σ' G' H' → Same G G' → VOk T H0 ρ' σ' G' H' v s → Z.rt v H') → u Z
  | .exc c x => XW T B H0 E c x → u Z
  | .no => True
theorem ds_iff {t : TS} {f : M Out} : Ds T E t f ↔ ∀ B G0 H0 ρ σ G H, SI T B G0 H0 ρ σ G H → Ps T E B G0 H0 G (fun Z => t Z σ H) (f ρ) := ⟨fun h B G0 H0 ρ σ G H I Z => h B G0 H0 ρ σ G H Z I, fun h B G0 H0 ρ σ G H Z I => h B G0 H0 ρ σ G H I Z⟩
theorem Ps.of {t : TS} {f : M Out} (h : Ds T E t f) (I : SI T B G0 H0 ρ σ G H) : Ps T E B G0 H0 G (fun Z => t Z σ H) (f ρ) := fun Z => h B G0 H0 ρ σ G H Z I
theorem Ps.no {u : Ends → Prop} : Ps T E B G0 H0 G u .no := fun _ => trivial
/-- an expression, then the rest -/
theorem Ps.bd {α β : Type} {Rel : Rl α β} {t : Hp → (β → Hp → Prop) → Prop} {u : β → Hp → Ends → Prop} {m : M α} {k : α → M Out} (hm : Pt T E Rel B G0 H0 σ G H t (m ρ))
    (hk : ∀ a ρ' b G' H', m ρ = .ok (a, ρ') → SI T B G0 H0 ρ' σ G' H' → Same G G' → Rel H0 ρ' σ G' H' b a → Ps T E B G0 H0 G' (u b H') (k a ρ')) : Ps T E B G0 H0 G (fun Z => t H fun b H1 => u b H1 Z) (bd m k ρ) := by
  intro Z
  unfold DL.bd
  cases e : m ρ with
  | no => trivial
  | exc c x =>
    intro w
    have h := hm fun b H1 => u b H1 Z
    rw [e] at h
    exact h w
  | ok z =>
    obtain ⟨a, ρ'⟩ := z
    have h := hm fun b H1 => u b H1 Z
    rw [e] at h
    have hk2 := fun b G' H' i s r => hk a ρ' b G' H' e i s r Z
    show match k a ρ' with
      | .ok (.nx, ρ') => _
      | .ok (.bk, ρ') => _
      | .ok (.ct, ρ') => _
      | .ok (.rt s, ρ') => _
      | .exc c x => _
      | .no => _
    cases e2 : k a ρ' with
    | no => trivial
    | exc c x =>
      intro w
      refine h fun b G' H' i s r => ?_
      have := hk2 b G' H' i s r
      rw [e2] at this
      exact this w
    | ok z2 =>
      obtain ⟨o, ρ2⟩ := z2
      cases o with
      | nx =>
        intro q
        refine h fun b G' H' i s r => ?_
        have := hk2 b G' H' i s r
        rw [e2] at this
        exact this fun σ2 G2 H2 i2 s2 => q σ2 G2 H2 i2 (s.trans s2)
      | bk =>
        intro q
        refine h fun b G' H' i s r => ?_
        have := hk2 b G' H' i s r
        rw [e2] at this
        exact this fun σ2 G2 H2 i2 s2 => q σ2 G2 H2 i2 (s.trans s2)
      | ct =>
        intro q
        refine h fun b G' H' i s r => ?_
        have := hk2 b G' H' i s r
        rw [e2] at this
        exact this fun σ2 G2 H2 i2 s2 => q σ2 G2 H2 i2 (s.trans s2)
      | rt s0 =>
        intro q
        refine h fun b G' H' i s r => ?_
        have := hk2 b G' H' i s r
        rw [e2] at this
        exact this fun v σ2 G2 H2 i2 s2 => q v σ2 G2 H2 i2 (s.trans s2)
/-! ### small statements -/
def nxM : M Out := ret .nx
def seqM (f g : M Out) : M Out := fun ρ => match f ρ with
  | .ok (.nx, ρ') => g ρ'
  | r => r
theorem ds_next : Ds T E tNext nxM := ds_iff.mpr fun B G0 H0 ρ σ G H I Z q => q σ G H I (Same.refl _)
theorem ds_break : Ds T E tBreak (ret .bk) := ds_iff.mpr fun B G0 H0 ρ σ G H I Z q => q σ G H I (Same.refl _)
theorem ds_cont : Ds T E tCont (ret .ct) := ds_iff.mpr fun B G0 H0 ρ σ G H I Z q => q σ G H I (Same.refl _)
theorem ds_never : Ds T E tNever (fun _ => .no) := ds_iff.mpr fun B G0 H0 ρ σ G H I Z => trivial
theorem ds_never' : Ds T E (fun _ _ _ => False) (fun _ => .no) := ds_iff.mpr fun B G0 H0 ρ σ G H I Z => trivial
theorem ds_seq {t u : TS} {f g : M Out} (ht : Ds T E t f) (hu : Ds T E u g) : Ds T E (tSeq t u) (seqM f g) := by
  refine ds_iff.mpr fun B G0 H0 ρ σ G H I Z => ?_
  have h := ht B G0 H0 ρ σ G H { Z with nx := u Z } I
  show match seqM f g ρ with | .ok (.nx, ρ') => _ | .ok (.bk, ρ') => _ | .ok (.ct, ρ') => _ | .ok (.rt s, ρ') => _ | .exc c x => _ | .no => _
  unfold seqM
  revert h
  cases f ρ with
  | no => exact fun h => h
  | exc c x => exact fun h => h
  | ok z =>
    obtain ⟨o, ρ1⟩ := z
    cases o with
    | bk => exact fun h => h
    | ct => exact fun h => h
    | rt s => exact fun h => h
    | nx =>
      intro h
      have hu2 := fun σ1 G1 H1 I1 => hu B G0 H0 ρ1 σ1 G1 H1 Z I1
      dsimp only
      revert hu2
      cases g ρ1 with
      | no => exact fun _ => trivial
      | exc c x => exact fun h2 w => h fun σ1 G1 H1 I1 k1 => h2 σ1 G1 H1 I1 w
      | ok z =>
        obtain ⟨o, ρ2⟩ := z
        cases o with
        | nx => exact fun h2 q => h fun σ1 G1 H1 I1 k1 => h2 σ1 G1 H1 I1 fun σ2 G2 H2 I2 k2 => q σ2 G2 H2 I2 (k1.trans k2)
        | bk => exact fun h2 q => h fun σ1 G1 H1 I1 k1 => h2 σ1 G1 H1 I1 fun σ2 G2 H2 I2 k2 => q σ2 G2 H2 I2 (k1.trans k2)
        | ct => exact fun h2 q => h fun σ1 G1 H1 I1 k1 => h2 σ1 G1 H1 I1 fun σ2 G2 H2 I2 k2 => q σ2 G2 H2 I2 (k1.trans k2)
        | rt s => exact fun h2 q => h fun σ1 G1 H1 I1 k1 => h2 σ1 G1 H1 I1 fun v σ2 G2 H2 I2 k2 => q v σ2 G2 H2 I2 (k1.trans k2)
def dropM (f : M Slot) : M Out := bd f fun _ => nxM
theorem ds_drop {te : TE} {f : M Slot} (h : De T E te f) : Ds T E (tDrop te) (dropM f) := by
  refine ds_iff.mpr fun B G0 H0 ρ σ G H I => ?_
  refine Ps.bd (t := te σ) (u := fun _ H1 Z => Z.nx σ H1) (h B G0 H0 ρ σ G H I) fun s ρ1 v G1 H1 _ I1 k1 r1 Z q => ?_
  exact q σ G1 H1 I1 (Same.refl _)
def retM (f : M Slot) : M Out := bd f fun s => ret (.rt s)
theorem ds_ret {te : TE} {f : M Slot} (h : De T E te f) : Ds T E (tRet te) (retM f) := by
  refine ds_iff.mpr fun B G0 H0 ρ σ G H I => ?_
  refine Ps.bd (t := te σ) (u := fun v H1 Z => Z.rt v H1) (h B G0 H0 ρ σ G H I) fun s ρ1 v G1 H1 _ I1 k1 r1 Z q => ?_
  exact q v σ G1 H1 I1 (Same.refl _) r1
def retN : M Out := ret (.rt (.d .none))
theorem ds_retN : Ds T E tRetN retN := ds_iff.mpr fun B G0 H0 ρ σ G H I Z q => q .non σ G H I (Same.refl _) (vok_d .non)
/-- a name that is not used any more -/
def vM (i : Nat) : M Slot := fun ρ => match ρ[i]? with
  | some (.d x) => .ok (.d x, ρ)
  | some (.o xs) => .ok (.o xs, ρ.set i .un)
  | some (.t kvs) => .ok (.t kvs, ρ.set i .un)
  | _ => .no
theorem de_move (i : Nat) : De T E (tVar i) (vM i) := by
  intro B G0 H0 ρ σ G H I
  have key : ∀ s, ρ[i]? = some s → s.own = true → (∀ v, SlotOk T B H0 G H v s → SlotOk T none H0 G H v s) → Pt T E (rV T) B G0 H0 σ G H (tVar i σ) (.ok (s, ρ.set i .un)) := fun s e os up => Pt.ok fun Q q => by
    obtain ⟨v, h1, h2⟩ := I.sl i s e (fun z => by subst z; cases os)
    refine ⟨v, h1, q v G H (I.forget i) (Same.refl _) ⟨up v h2, (fun z => by subst z; cases os), fun _ k u e1 ou z => ?_⟩⟩
    by_cases hk : k = i
    · subst hk
      rw [List.getElem?_set_self', e] at e1
      cases e1
      cases ou
    · rw [List.getElem?_set_ne (Ne.symm hk)] at e1
      exact I.ap k i u s v hk e1 e ou os z h1
  unfold vM
  cases e : ρ[i]? with
  | none => exact Pt.no
  | some s =>
    cases s with
    | un => exact Pt.no
    | d x =>
      refine Pt.ok fun Q q => ?_
      obtain ⟨v, h1, h2⟩ := I.sl i _ e (fun z => by cases z)
      exact ⟨v, h1, q v G H I (Same.refl _) (vok_d h2)⟩
    | o xs => exact key _ e rfl fun v h => h
    | b xs => exact Pt.no
    | j c ds => exact Pt.no
    | t kvs => exact key _ e rfl fun v h => h
def asgM (i : Nat) (f : M Slot) : M Out := bd f fun s ρ => if i < ρ.length then .ok (.nx, ρ.set i s) else .no
theorem slot_none {v : V} {s : Slot} (h : SlotOk T none H0 G H v s) : SlotOk T B H0 G H v s := by
  cases s with
  | un => trivial
  | d x => exact h
  | o xs => exact h
  | b xs => obtain ⟨a, vs, _, z, _⟩ := h; cases z
  | j c ds => obtain ⟨a, dx, fs, _, z, _⟩ := h; cases z
  | t kvs => exact h
theorem SI.put (I : SI T B G0 H0 ρ σ G H) {i : Nat} {v : V} {s : Slot} (hi : i < ρ.length) (r : VOk T H0 ρ σ G H v s) : SI T B G0 H0 (ρ.set i s) (σ.set i (some v)) G H :=
  I.store (by rw [← I.ln]; exact hi) (slot_none r.1) fun o k u _ e1 e2 => r.2.2 o k u e1 e2
theorem ds_asg {te : TE} {f : M Slot} (i : Nat) (h : De T E te f) : Ds T E (tAsg te (gName i)) (asgM i f) := by
  refine ds_iff.mpr fun B G0 H0 ρ σ G H I => ?_
  refine Ps.bd (t := te σ) (u := fun v H1 Z => Z.nx (σ.set i (some v)) H1) (h B G0 H0 ρ σ G H I) fun s ρ1 v G1 H1 _ I1 k1 r1 => ?_
  split
  · rename_i hi
    exact fun Z q => q _ G1 H1 (I1.put hi r1) (Same.refl _)
  · exact Ps.no
/-- to several names -/
def asgT (g : D → Ev → Option Ev) (f : M Slot) : M Out := bd (sE f) fun x ρ => match g x ρ with
  | some ρ' => .ok (.nx, ρ')
  | none => .no
theorem ds_asgT {ts : List Nat} {te : TE} {tg : TG} {f : M Slot} {g : D → Ev → Option Ev} (h : De T E te f) (hg : Dg T ts tg g) : Ds T E (tAsg te tg) (asgT g f) := by
  refine ds_iff.mpr fun B G0 H0 ρ σ G H I => ?_
  refine Ps.bd (t := te σ) (u := fun v H1 Z => tg v σ H1 Z.nx) (dd_of h B G0 H0 ρ σ G H I) fun x ρ1 v G1 H1 _ I1 k1 r1 => ?_
  intro Z
  have a := hg B G0 H0 ρ1 σ G1 H1 Z.nx v x I1 r1
  revert a
  cases g x ρ1 with
  | none => exact fun _ => trivial
  | some ρ2 => exact fun a q => a fun σ' G' H' I k _ _ => q σ' G' H' I k
def ifM (c : M Bool) (f g : M Out) : M Out := bd c fun b => if b then f else g
theorem ds_if {c : TT} {t u : TS} {fc : M Bool} {f g : M Out} (hc : Dt T E c fc) (ht : Ds T E t f) (hu : Ds T E u g) : Ds T E (tIfS c t u) (ifM fc f g) := by
  refine ds_iff.mpr fun B G0 H0 ρ σ G H I => ?_
  refine Ps.bd (t := c σ) (u := fun b H1 Z => if b = true then t Z σ H1 else u Z σ H1) (hc B G0 H0 ρ σ G H I) fun b ρ1 b' G1 H1 _ I1 k1 r1 => ?_
  cases r1
  cases b with
  | true => exact Ps.of ht I1
  | false => exact Ps.of hu I1
/-! ### while -/
def whileM (c : M Bool) (f : M Out) : Nat → M Out
  | 0 => fun _ => .no
  | n + 1 => fun ρ => match c ρ with
    | .ok (true, ρ1) => match f ρ1 with
      | .ok (.nx, ρ2) => whileM c f n ρ2
      | .ok (.ct, ρ2) => whileM c f n ρ2
      | .ok (.bk, ρ2) => .ok (.nx, ρ2)
      | .ok (.rt s, ρ2) => .ok (.rt s, ρ2)
      | .exc x y => .exc x y
      | .no => .no
    | .ok (false, ρ1) => .ok (.nx, ρ1)
    | .exc x y => .exc x y
    | .no => .no
def whlM (n : Ev → Nat) (c : M Bool) (f : M Out) : M Out := fun ρ => whileM c f (n ρ) ρ
/-- what a result asks of the ends -/
def Qof (T : Kt) (E : XK) (B : Option Addr) (G0 H0 G : Hp) (Z : Ends) : R (Out × Ev) → Prop
  | .ok (.nx, ρ') => ∀ σ' G' H', SI T B G0 H0 ρ' σ' G' H' → Same G G' → Z.nx σ' H'
  | .ok (.bk, ρ') => ∀ σ' G' H', SI T B G0 H0 ρ' σ' G' H' → Same G G' → Z.bk σ' H'
  | .ok (.ct, ρ') => ∀ σ' G' H', SI T B G0 H0 ρ' σ' G' H' → Same G G' → Z.ct σ' H'
  | .ok (.rt s, ρ') => ∀ v σ' G' H', SI T B G0 H0 ρ' σ' G' H' → Same G G' → VOk T H0 ρ' σ' G' H' v s → Z.rt v H'
  | .exc c x => XW T B H0 E c x
  | .no => False
theorem Ps.q {u : Ends → Prop} {r : R (Out × Ev)} : Ps T E B G0 H0 G u r ↔ ∀ Z, Qof T E B G0 H0 G Z r → u Z := by
  unfold Ps
  constructor
  · intro h Z q
    have h2 := h Z
    cases r with
    | no => exact q.elim
    | exc c x => exact h2 q
    | ok z =>
      obtain ⟨o, ρ'⟩ := z
      cases o <;> exact h2 q
  · intro h Z
    have h2 := h Z
    cases r with
    | no => trivial
    | exc c x => exact fun q => h2 q
    | ok z =>
      obtain ⟨o, ρ'⟩ := z
      cases o <;> exact fun q => h2 q
def Qp {α β : Type} (T : Kt) (E : XK) (Rel : Rl α β) (B : Option Addr) (G0 H0 : Hp) (σ : L2.St) (G : Hp) (Q : β → Hp → Prop) : R (α × Ev) → Prop
  | .ok (a, ρ') => ∀ b G' H', SI T B G0 H0 ρ' σ G' H' → Same G G' → Rel H0 ρ' σ G' H' b a → Q b H'
  | .exc c x => XW T B H0 E c x
  | .no => False
theorem Pt.q {α β : Type} {Rel : Rl α β} {u : Hp → (β → Hp → Prop) → Prop} {r : R (α × Ev)} : Pt T E Rel B G0 H0 σ G H u r ↔ ∀ Q, Qp T E Rel B G0 H0 σ G Q r → u H Q := by
  unfold Pt
  constructor
  · intro h Q q
    have h2 := h Q
    cases r with
    | no => exact q.elim
    | exc c x => exact h2 q
    | ok z => exact h2 q
  · intro h Q
    have h2 := h Q
    cases r with
    | no => trivial
    | exc c x => exact fun q => h2 q
    | ok z => exact fun q => h2 q
theorem ds_while {c : TT} {tb : TS} {fc : M Bool} {f : M Out} (n : Ev → Nat) (hc : Dt T E c fc) (hb : Ds T E tb f) : Ds T E (tWhile c tb) (whlM n fc f) := by
  refine ds_iff.mpr fun B G0 H0 ρ σ G H I => Ps.q.mpr fun Z q => ?_
  unfold whlM at q
  refine ⟨fun m σ' H' => ∃ ρ' G', SI T B G0 H0 ρ' σ' G' H' ∧ Same G G' ∧ Qof T E B G0 H0 G Z (whileM fc f m ρ'), ⟨n ρ, ρ, G, I, Same.refl _, q⟩, ?_⟩
  rintro m σ1 H1 ⟨ρ1, G1, I1, k1, q1⟩
  cases m with
  | zero => exact q1.elim
  | succ m =>
    unfold whileM at q1
    refine Pt.q.mp (hc B G0 H0 ρ1 σ1 G1 H1 I1) _ ?_
    cases e1 : fc ρ1 with
    | no => rw [e1] at q1; exact q1
    | exc x y => rw [e1] at q1; exact q1
    | ok z =>
      obtain ⟨b, ρ2⟩ := z
      rw [e1] at q1
      intro b' G2 H2 I2 k2 rb
      cases rb
      cases b with
      | false => exact q1 σ1 G2 H2 I2 (k1.trans k2)
      | true =>
        rw [if_pos rfl]
        refine ⟨fun σ' H' => ∃ ρ' G', SI T B G0 H0 ρ' σ' G' H' ∧ Same G G' ∧ Qof T E B G0 H0 G Z (whileM fc f m ρ'), fun σ' H' hN => ⟨m, Nat.lt_succ_self _, hN⟩, ?_⟩
        refine (Ps.q.mp (Ps.of hb I2)) _ ?_
        dsimp only at q1
        cases e3 : f ρ2 with
        | no => rw [e3] at q1; exact q1
        | exc x y => rw [e3] at q1; exact q1
        | ok z =>
          obtain ⟨o, ρ3⟩ := z
          rw [e3] at q1
          cases o with
          | nx => exact fun σ3 G3 H3 I3 k3 => ⟨ρ3, G3, I3, (k1.trans k2).trans k3, q1⟩
          | ct => exact fun σ3 G3 H3 I3 k3 => ⟨ρ3, G3, I3, (k1.trans k2).trans k3, q1⟩
          | bk => exact fun σ3 G3 H3 I3 k3 => q1 σ3 G3 H3 I3 ((k1.trans k2).trans k3)
          | rt s => exact fun v σ3 G3 H3 I3 k3 => q1 v σ3 G3 H3 I3 ((k1.trans k2).trans k3)
/-! ### for -/
def forL (g : D → Ev → Option Ev) (f : M Out) : List D → M Out
  | [] => fun ρ => .ok (.nx, ρ)
  | x :: xs => fun ρ => match g x ρ with
    | none => .no
    | some ρ1 => match f ρ1 with
      | .ok (.nx, ρ2) => forL g f xs ρ2
      | .ok (.ct, ρ2) => forL g f xs ρ2
      | .ok (.bk, ρ2) => .ok (.nx, ρ2)
      | .ok (.rt s, ρ2) => .ok (.rt s, ρ2)
      | .exc x y => .exc x y
      | .no => .no
def forM (w : M (List D)) (g : D → Ev → Option Ev) (f : M Out) : M Out := bd w fun xs => forL g f xs
theorem ds_for {ts : List Nat} {wi : TI} {tg : TG} {tb : TS} {w : M (List D)} {g : D → Ev → Option Ev} {f : M Out} (hw : Di T E wi w) (hg : Dg T ts tg g) (hb : Ds T E tb f) : Ds T E (tFor wi tg tb) (forM w g f) := by
  refine ds_iff.mpr fun B G0 H0 ρ σ G H I => ?_
  refine Ps.bd (t := wi σ) (u := fun J H1 Z => LoopP tg tb Z σ J H1) (hw B G0 H0 ρ σ G H I) fun xs ρ1 J G1 H1 _ I1 k1 it => Ps.q.mpr fun Z q => ?_
  refine ⟨fun i m σ' H' => m = xs.length - i ∧ i ≤ xs.length ∧ ∃ ρ' G', SI T B G0 H0 ρ' σ' G' H' ∧ Same G1 G' ∧ Qof T E B G0 H0 G1 Z (forL g f (xs.drop i) ρ'), ⟨xs.length, by simp, Nat.zero_le _, ρ1, G1, I1, Same.refl _, q⟩, ?_⟩
  rintro i m σ2 H2 ⟨rfl, hi, ρ2, G2, I2, k2, q2⟩
  obtain ⟨stop, go⟩ := it G2 H2 k2 I2.gh
  by_cases hlt : i < xs.length
  · obtain ⟨g1, y1⟩ := go i hlt
    refine .inr ⟨g1, fun σ' H' => ∃ ρ' G', SI T B G0 H0 ρ' σ' G' H' ∧ Same G1 G' ∧ Qof T E B G0 H0 G1 Z (forL g f (xs.drop (i + 1)) ρ'), fun σ' H' h => ⟨xs.length - (i + 1), by omega, rfl, hlt, h⟩, fun v H3 y => ?_⟩
    obtain ⟨G3, d, al, e, r⟩ := y1 v H3 y
    have ed : xs.drop i = d :: xs.drop (i + 1) := by
      rw [List.getElem?_eq_getElem hlt] at e
      cases e
      exact List.drop_eq_getElem_cons hlt
    rw [ed] at q2
    unfold forL at q2
    have I3 := I2.al al
    have hg2 := fun Q => hg B G0 H0 ρ2 σ2 G3 H3 Q v d I3 r
    revert q2
    cases eg : g d ρ2 with
    | none => exact fun q => q.elim
    | some ρ4 =>
      intro q2
      rw [eg] at hg2
      refine hg2 _ fun σ4 G4 H4 I4 k4 _ _ => ?_
      have k14 : Same G1 G4 := (k2.trans al.gg).trans k4
      refine (Ps.q.mp (Ps.of hb I4)) _ ?_
      dsimp only at q2
      revert q2
      cases e3 : f ρ4 with
      | no => exact fun q => q
      | exc x y => exact fun q => q
      | ok z =>
        obtain ⟨o, ρ5⟩ := z
        cases o with
        | nx => exact fun q2 σ5 G5 H5 I5 k5 => ⟨ρ5, G5, I5, k14.trans k5, q2⟩
        | ct => exact fun q2 σ5 G5 H5 I5 k5 => ⟨ρ5, G5, I5, k14.trans k5, q2⟩
        | bk => exact fun q2 σ5 G5 H5 I5 k5 => q2 σ5 G5 H5 I5 (k14.trans k5)
        | rt s => exact fun q2 v σ5 G5 H5 I5 k5 => q2 v σ5 G5 H5 I5 (k14.trans k5)
  · have e : i = xs.length := by omega
    subst e
    rw [List.drop_length] at q2
    exact .inl ⟨stop, q2 σ2 G2 H2 I2 k2⟩
end
end DL
/-! NCStm3: comprehensions, list methods, stores of the data layer. -/
namespace DL
open PySem PySem.Spec PyProof.Rows L2
section
variable {T : Kt} {B : Option Addr} {G0 H0 G H G' H' : Hp} {ρ : Ev} {σ : L2.St} {E : XK}
/-! ### comprehensions -/
def wipeE (ρ : Ev) : List Nat → Ev
  | [] => ρ
  | v :: vs => (wipeE ρ vs).set v .un
theorem SI.wipeE (I : SI T B G0 H0 ρ σ G H) : ∀ vs : List Nat, SI T B G0 H0 (wipeE ρ vs) σ G H
  | [] => I
  | v :: vs => (I.wipeE vs).forget v
theorem wipeE_un {s : Slot} {i : Nat} : ∀ {vs : List Nat}, i ∈ vs → (wipeE ρ vs)[i]? = some s → s = .un
  | v :: vs, hi, e => by
    unfold wipeE at e
    by_cases hv : i = v
    · subst hv
      rw [List.getElem?_set_self'] at e
      cases q : (wipeE ρ vs)[i]? with
      | none => rw [q] at e; cases e
      | some z => rw [q] at e; cases e; rfl
    · rw [List.getElem?_set_ne (Ne.symm hv)] at e
      rcases List.mem_cons.mp hi with z | z
      · exact absurd z hv
      · exact wipeE_un z e
theorem wipe_get {i : Nat} : ∀ {vs : List Nat}, i ∉ vs → (wipe σ vs)[i]? = σ[i]?
  | [], _ => rfl
  | v :: vs, hi => by
    unfold wipe
    rw [List.getElem?_set_ne (fun z => hi (by rw [z]; exact List.mem_cons_self ..))]
    exact wipe_get fun z => hi (List.mem_cons_of_mem _ z)
theorem SI.resig {σ' : L2.St} {vs : List Nat} (I : SI T B G0 H0 (DL.wipeE ρ vs) σ G H) (e : wipe σ' vs = wipe σ vs) : SI T B G0 H0 (DL.wipeE ρ vs) σ' G H := by
  have key : ∀ (i : Nat) s, (DL.wipeE ρ vs)[i]? = some s → s ≠ .un → σ'[i]? = σ[i]? := fun i s h n => by
    have hi : i ∉ vs := fun z => n (wipeE_un z h)
    rw [← wipe_get (σ := σ') hi, e, wipe_get hi]
  have nu : ∀ u : Slot, u.own = true → u ≠ .un := fun u h z => by subst z; cases h
  refine ⟨I.gg, I.gh, I.hh, I.nw, I.bg, ?_, fun i s h n => ?_, fun i k s u v ne e1 e2 o1 o2 s1 s2 => ?_, I.tb⟩
  · rw [I.ln, ← wipe_length σ vs, ← e, wipe_length]
  · rw [key i s h n]; exact I.sl i s h n
  · rw [key i s e1 (nu s o1)] at s1
    rw [key k u e2 (nu u o2)] at s2
    exact I.ap i k s u v ne e1 e2 o1 o2 s1 s2
theorem set_none_twice : ∀ (σ : L2.St) (vs : List Nat), wipe (wipe σ vs) vs = wipe σ vs := by
  intro σ vs
  refine List.ext_getElem? fun i => ?_
  by_cases hi : i ∈ vs
  · have key : ∀ (vs : List Nat) (σ : L2.St), i ∈ vs → (wipe σ vs)[i]? = if i < σ.length then some none else none := by
      intro vs
      induction vs with
      | nil => intro σ h; cases h
      | cons v vs ih =>
        intro σ h
        unfold wipe
        by_cases hv : i = v
        · subst hv
          rw [List.getElem?_set_self']
          have hl := wipe_length σ vs
          by_cases hlt : i < σ.length
          · rw [if_pos hlt, List.getElem?_eq_getElem (by omega)]; rfl
          · rw [if_neg hlt, List.getElem?_eq_none (by omega)]; rfl
        · rw [List.getElem?_set_ne (Ne.symm hv)]
          rcases List.mem_cons.mp h with z | z
          · exact absurd z hv
          · exact ih σ z
    rw [key vs _ hi, key vs _ hi, wipe_length]
  · rw [wipe_get hi]
/-- a thing in the hand is changed -/
theorem SI.wrFree (I : SI T B G0 H0 ρ σ G H) {a : Addr} {o : HO} (hg : G a = none) (h0 : H0 a = none) (no : ∀ (k : Nat) u, ρ[k]? = some u → u.own = true → σ[k]? ≠ some (some (.ref a))) (nt : ∀ u, H a = some u → NTb u) : SI T B G0 H0 ρ σ G (upd H a o) := by
  refine ⟨I.gg, fun b x q => ?_, fun b x q n => ?_, I.nw, fun b q => ?_, I.ln, fun k u q n => ?_, I.ap, (match q : H a with
    | none => tabs_updN I.tb.1 q
    | some u => tabs_upd I.tb.1 q (nt u q)), I.tb.2⟩
  · rw [upd_ne (fun z => by rw [z, hg] at q; cases q)]
    exact I.gh _ _ q
  · rw [upd_ne (fun z => by rw [z, h0] at q; cases q)]
    exact I.hh _ _ q n
  · obtain ⟨b1, b2, b3⟩ := I.bg b q
    refine ⟨b1, b2, ?_⟩
    by_cases hb : b = a
    · exact absurd (by rw [hb]; exact h0) b2
    · rw [upd_ne hb]; exact b3
  · obtain ⟨v, h1, h2⟩ := I.sl k u q n
    refine ⟨v, h1, ?_⟩
    have ne : ∀ c, v = .ref c → u.own = true → c ≠ a := fun c ec ou z => no k u q ou (by rw [h1, ec, z])
    cases u with
    | un => trivial
    | d x => exact h2
    | o xs =>
      obtain ⟨c, vs, e, h3, h4, h5, r⟩ := h2
      exact ⟨c, vs, e, by rw [upd_ne (ne c e rfl)]; exact h3, h4, h5, r⟩
    | b xs =>
      obtain ⟨c, vs, e, h3, h4, r⟩ := h2
      exact ⟨c, vs, e, h3, by rw [upd_ne (ne c e rfl)]; exact h4, r⟩
    | j cc ds =>
      obtain ⟨c, dx, fs, e, h3, ik, h4, h6, r⟩ := h2
      exact ⟨c, dx, fs, e, h3, ik, by rw [upd_ne (ne c e rfl)]; exact h4, h6, r⟩
    | t kvs =>
      obtain ⟨c, xs, e, h3, h4, h5, r⟩ := h2
      exact ⟨c, xs, e, by rw [upd_ne (ne c e rfl)]; exact h3, h4, h5, r⟩
def lcL (g : D → Ev → Option Ev) (ft : M Bool) (fe : M Slot) (vs : List Nat) : List D → M (List D)
  | [] => fun ρ => .ok ([], ρ)
  | x :: xs => fun ρ => match g x ρ with
    | none => .no
    | some ρ1 => match ft ρ1 with
      | .ok (true, ρ2) => match sE fe ρ2 with
        | .ok (y, ρ3) => match lcL g ft fe vs xs (wipeE ρ3 vs) with
          | .ok (ys, ρ4) => .ok (y :: ys, ρ4)
          | .exc c z => .exc c z
          | .no => .no
        | .exc c z => .exc c z
        | .no => .no
      | .ok (false, ρ2) => lcL g ft fe vs xs (wipeE ρ2 vs)
      | .exc c z => .exc c z
      | .no => .no
def lcE (w : M (List D)) (g : D → Ev → Option Ev) (ft : M Bool) (fe : M Slot) (vs : List Nat) : M Slot := bd w fun xs ρ => if Nat.ble xs.length 999999 then
    match lcL g ft fe vs xs (wipeE ρ vs) with
    | .ok (ys, ρ') => .ok (.o ys, ρ')
    | .exc c z => .exc c z
    | .no => .no
  else .no
/-- what is left of a comprehension, the first ones told -/
def catR (acc : List D) : R (List D × Ev) → R (Slot × Ev)
  | .ok (ys, ρ') => .ok (.o (acc ++ ys), ρ')
  | .exc c z => .exc c z
  | .no => .no
theorem wipe_eq {σ2 : L2.St} {vs : List Nat} (hl : σ2.length = σ.length) (h : ∀ i : Nat, i ∉ vs → σ2[i]? = σ[i]?) : wipe σ2 vs = wipe σ vs := by
  have key : ∀ (vs : List Nat) (σ : L2.St) (i : Nat), i ∈ vs → (wipe σ vs)[i]? = if i < σ.length then some none else none := by
    intro vs
    induction vs with
    | nil => intro σ i h; cases h
    | cons v vs ih =>
      intro σ i h
      unfold wipe
      by_cases hv : i = v
      · subst hv
        rw [List.getElem?_set_self']
        have hl := wipe_length σ vs
        by_cases hlt : i < σ.length
        · rw [if_pos hlt, List.getElem?_eq_getElem (by omega)]; rfl
        · rw [if_neg hlt, List.getElem?_eq_none (by omega)]; rfl
      · rw [List.getElem?_set_ne (Ne.symm hv)]
        rcases List.mem_cons.mp h with z | z
        · exact absurd z hv
        · exact ih σ i z
  refine List.ext_getElem? fun i => ?_
  by_cases hi : i ∈ vs
  · rw [key vs _ i hi, key vs _ i hi, hl]
  · rw [wipe_get hi, wipe_get hi, h i hi]
theorem lc_core {ts : List Nat} {tg : TG} {tt : TT} {te : TE} {g : D → Ev → Option Ev} {ft : M Bool} {fe : M Slot} {vs : List Nat} {J : It} {xs : List D} {Q : VK} {D1 : Addr} (hts : ∀ i ∈ ts, i ∈ vs) (hg : Dg T ts tg g) (ht : Dt T E tt ft) (he : De T E te fe)
    (it : IterOk T G J xs) (I : SI T B G0 H0 (wipeE ρ vs) σ G H) (n : H D1 = none) (hx : xs.length ≤ 999999) (q : Qp T E (rV T) B G0 H0 σ G Q (catR [] (lcL g ft fe vs xs (wipeE ρ vs)))) :
    ∃ W : Nat → Nat → Hp → Prop, (∃ m, W 0 m (upd H D1 (.lst []))) ∧ ∀ i m H, W i m H → (J.stop i H ∧ Q (.ref D1) H) ∨ (J.go i H ∧ ∃ Nx : Hp → Prop, (∀ H', Nx H' → ∃ m', m' < m ∧ W (i + 1) m' H') ∧ ∀ x H', J.yld i H x H' → tg x (wipe σ vs) H' fun σ2 H2 => wipe σ2 vs = wipe σ vs ∧ tt σ2 H2 fun b H3 =>
      if b = true then te σ2 H3 fun y H4 => ∃ acc, H4 D1 = some (.lst acc) ∧ acc.length < sizeLine ∧ Nx (upd H4 D1 (.lst (acc ++ [y]))) else Nx H3) := by
  have h0 : H0 D1 = none := I.h0 n
  have hB : B ≠ some D1 := I.nob h0
  have g0 : G0 D1 = none := I.g0 (Same.none I.gh n)
  let Inv : Nat → Hp → Prop := fun i H1 => ∃ ρ1 G1 accV accD, H1 D1 = some (.lst accV) ∧ G1 D1 = none ∧ SI T B G0 H0 (wipeE ρ1 vs) σ G1 H1 ∧ (∀ (k : Nat) u, (wipeE ρ1 vs)[k]? = some u → u.own = true → σ[k]? ≠ some (some (.ref D1))) ∧ Same G G1 ∧ RpL T G1 accV accD ∧ accD.length ≤ i ∧
    Qp T E (rV T) B G0 H0 σ G Q (catR accD (lcL g ft fe vs (xs.drop i) (wipeE ρ1 vs)))
  refine ⟨fun i m H1 => m = xs.length - i ∧ i ≤ xs.length ∧ Inv i H1, ⟨xs.length, by simp, Nat.zero_le _, ρ, G, [], [], upd_same, Same.none I.gh n, ?_, fun k u e o => I.noown n k u e o, Same.refl _, .nil, Nat.le_refl _, q⟩, ?_⟩
  · exact I.wrFree (Same.none I.gh n) h0 (fun k u e o => I.noown n k u e o) fun u z => by rw [n] at z; cases z
  rintro i m H1 ⟨rfl, hi, ρ1, G1, accV, accD, hD, gD, I1, no1, k1, r1, l1, q1⟩
  obtain ⟨stop, go⟩ := it G1 H1 k1 I1.gh
  by_cases hlt : i < xs.length
  · obtain ⟨go1, y1⟩ := go i hlt
    refine .inr ⟨go1, Inv (i + 1), fun H' h => ⟨xs.length - (i + 1), by omega, rfl, hlt, h⟩, fun v H2 y => ?_⟩
    obtain ⟨G2, d, al, e, r⟩ := y1 v H2 y
    have ed : xs.drop i = d :: xs.drop (i + 1) := by
      rw [List.getElem?_eq_getElem hlt] at e
      cases e
      exact List.drop_eq_getElem_cons hlt
    rw [ed] at q1
    unfold lcL at q1
    -- the list in the hand is kept
    have J2 : SI T B G0 (upd H0 D1 (.lst accV)) (wipeE ρ1 vs) (wipe σ vs) G2 H2 := ((I1.pin hD gD h0 no1 ntb_lst).al al).resig (set_none_twice σ vs)
    have hg2 := fun Q => hg B G0 (upd H0 D1 (.lst accV)) (wipeE ρ1 vs) (wipe σ vs) G2 H2 Q v d J2 r
    cases eg : g d (wipeE ρ1 vs) with
    | none => rw [eg] at q1; exact q1.elim
    | some ρ3 =>
      rw [eg] at q1 hg2
      refine hg2 _ fun σ3 G3 H3 J3 k3 ln3 f3 => ?_
      have w3 : wipe σ3 vs = wipe σ vs := by
        rw [← set_none_twice σ vs]
        exact wipe_eq ln3 fun i hi => f3 i fun z => hi (hts i z)
      refine ⟨w3, Pt.q.mp (ht B G0 (upd H0 D1 (.lst accV)) ρ3 σ3 G3 H3 J3) _ ?_⟩
      dsimp only at q1
      cases et : ft ρ3 with
      | no => rw [et] at q1; exact q1
      | exc c x => rw [et] at q1; exact XW.pin q1 h0
      | ok z =>
        obtain ⟨b, ρ4⟩ := z
        rw [et] at q1
        intro b' G4 H4 J4 k4 rb
        cases rb
        have k14 : Same G G4 := ((k1.trans al.gg).trans k3).trans k4
        cases b with
        | false =>
          rw [if_neg (by decide)]
          obtain ⟨J5, hD5, gD5, no5⟩ := ((J4.wipeE vs).resig (σ' := σ) w3.symm).unpin h0 hB g0 ntb_lst
          exact ⟨ρ4, G4, accV, accD, hD5, gD5, J5, no5, k14, r1.mono ((al.gg.trans k3).trans k4), Nat.le_succ_of_le l1, q1⟩
        | true =>
          rw [if_pos rfl]
          refine Pt.q.mp (dd_of he B G0 (upd H0 D1 (.lst accV)) ρ4 σ3 G4 H4 J4) _ ?_
          dsimp only at q1
          cases ee : sE fe ρ4 with
          | no => rw [ee] at q1; exact q1
          | exc c x => rw [ee] at q1; exact XW.pin q1 h0
          | ok z =>
            obtain ⟨yd, ρ5⟩ := z
            rw [ee] at q1
            intro yv G5 H5 J5 k5 ry
            obtain ⟨J6, hD6, gD6, no6⟩ := ((J5.wipeE vs).resig (σ' := σ) w3.symm).unpin h0 hB g0 ntb_lst
            refine ⟨accV, hD6, ?_, ρ5, G5, accV ++ [yv], accD ++ [yd], upd_same, gD6, J6.wrFree gD6 h0 no6 (fun u z => by rw [hD6] at z; cases z; exact ntb_lst), no6, k14.trans k5, (r1.mono (((al.gg.trans k3).trans k4).trans k5)).app (.cons ry .nil), ?_, ?_⟩
            · rw [r1.len]; exact len_lt (by omega)
            · rw [List.length_append]; exact Nat.succ_le_succ l1
            · dsimp only at q1
              cases el : lcL g ft fe vs (xs.drop (i + 1)) (wipeE ρ5 vs) with
              | no => rw [el] at q1; exact q1
              | exc c x => rw [el] at q1; exact q1
              | ok z =>
                obtain ⟨ys, ρ6⟩ := z
                rw [el] at q1
                show Qp T E (rV T) B G0 H0 σ G Q (.ok (.o (accD ++ [yd] ++ ys), ρ6))
                rw [List.append_assoc]
                exact q1
  · have e : i = xs.length := by omega
    subst e
    rw [List.drop_length] at q1
    refine .inl ⟨stop, ?_⟩
    have q2 : Qp T E (rV T) B G0 H0 σ G Q (.ok (.o (accD ++ []), wipeE ρ1 vs)) := q1
    rw [List.append_nil] at q2
    exact q2 (.ref D1) G1 H1 I1 k1 ⟨⟨D1, accV, rfl, hD, gD, h0, r1⟩, (fun z => by cases z), fun _ k u e o => no1 k u e o⟩
theorem de_lc {ts : List Nat} {wi : TI} {tg : TG} {tt : TT} {te : TE} {w : M (List D)} {g : D → Ev → Option Ev} {ft : M Bool} {fe : M Slot} {vs : List Nat} (hts : ∀ i ∈ ts, i ∈ vs) (hw : Di T E wi w) (hg : Dg T ts tg g) (ht : Dt T E tt ft) (he : De T E te fe) : De T E (tLc wi tg tt te vs) (lcE w g ft fe vs) := by
  intro B G0 H0 ρ σ G H I
  refine Pt.bd (t := wi σ) (u := fun J H1 (Q : VK) => LcP tg tt te vs σ Q J H1) (hw B G0 H0 ρ σ G H I) fun xs ρ1 J G1 H1 _ I1 k1 it => Pt.q.mpr fun Q q D1 n => ?_
  split at q
  · rename_i hx
    refine lc_core hts hg ht he it (I1.wipeE vs) n (Nat.le_of_ble_eq_true hx) ?_
    revert q
    cases lcL g ft fe vs xs (wipeE ρ1 vs) with
    | no => exact fun q => q
    | exc c x => exact fun q => q
    | ok z => exact fun q => q
  · exact q.elim
/-- no test -/
def yesM : M Bool := ret true
theorem dt_yes : Dt T E tYes yesM := by
  intro B G0 H0 ρ σ G H I
  exact Pt.ok fun Q q => q true G H I (Same.refl _) rfl
end
end DL
/-! NCFun: calls and defs of the data layer. -/
namespace DL
open PySem PySem.Spec PyProof.Rows L2
section
variable {T : Kt} {B : Option Addr} {G0 H0 G H G' H' : Hp} {ρ : Ev} {σ : L2.St} {E : XK}
/-! ### what a def promises -/
/-- arguments: data, at most one thing lent -/
inductive ArgOk (T : Kt) (G H : Hp) : Option Addr → List V → List Slot → Prop
  | nil : ArgOk T G H none [] []
  | d {B : Option Addr} {v : V} {x : D} {vs : List V} {as : List Slot} : Rp T G v x → ArgOk T G H B vs as → ArgOk T G H B (v :: vs) (.d x :: as)
  | b {a : Addr} {ws : List V} {xs : List D} {vs : List V} {as : List Slot} : H a = some (.lst ws) → G a = none → RpL T G ws xs → ArgOk T G H none vs as → ArgOk T G H (some a) (.ref a :: vs) (.b xs :: as)
  | j {a dx : Addr} {c : Int} {fs : List (Str × V)} {ds : List D} {vs : List V} {as : List Slot} : InsK T.K (He.ga T.K (clsN c)) → H a = some (.ins (He.ga T.K (clsN c)) dx fs) → G a = none → fs.map (·.1) = (clsF c).take ds.length → RpL T G (fs.map (·.2)) ds → ArgOk T G H none vs as → ArgOk T G H (some a) (.ref a :: vs) (.j c ds :: as)
/-- the thing lent, when it comes back -/
def BackOk (T : Kt) (B : Option Addr) (G H : Hp) : Slot → Prop
  | .b xs => ∃ a vs, B = some a ∧ G a = none ∧ H a = some (.lst vs) ∧ RpL T G vs xs
  | .j c ds => ∃ a dx fs, B = some a ∧ G a = none ∧ H a = some (.ins (He.ga T.K (clsN c)) dx fs) ∧ fs.map (·.1) = (clsF c).take ds.length ∧ RpL T G (fs.map (·.2)) ds
  | _ => True
abbrev Mir := List Slot → R (Slot × Slot)
/-- the heap without the tables -/
def stripT (T : Kt) (H : Hp) : Hp := fun a => if T.tbs.any (fun p => p.1 == a) then none else H a
theorem strip_tab {p : Addr × Str} (hp : p ∈ T.tbs) : stripT T H p.1 = none := by
  unfold stripT
  rw [if_pos (List.any_eq_true.mpr ⟨p, hp, by simp⟩)]
theorem strip_na {a : Addr} (n : Na T a) : stripT T H a = H a := by
  unfold stripT
  rw [if_neg (fun z => by
    obtain ⟨p, hp, e⟩ := List.any_eq_true.mp z
    exact n p hp (by simpa using (by simpa using e : p.1 = a).symm))]
theorem strip_some {a : Addr} {o : HO} (e : stripT T H a = some o) : H a = some o ∧ Na T a := by
  by_cases h : Na T a
  · rw [strip_na h] at e; exact ⟨e, h⟩
  · exfalso
    apply h
    intro p hp z
    rw [z, strip_tab hp] at e
    cases e
theorem strip_cases {a : Addr} (e : stripT T H a = none) : H a = none ∨ ∃ p ∈ T.tbs, a = p.1 := by
  by_cases h : Na T a
  · rw [strip_na h] at e; exact .inl e
  · refine .inr (Classical.byContradiction fun z => h fun p hp e => z ⟨p, hp, e⟩)
/-- a def with n parameters does what g tells -/
def dSp (T : Kt) (n : Nat) (g : Mir) : Sp := fun vs H Q E => vs.length = n ∧ LamX.Tabs T.tbs H ∧ ∃ G B as, Same G H ∧ (∀ p ∈ T.tbs, G p.1 = none) ∧ ArgOk T G H B vs as ∧ match g as with
  | .ok (s, s') => ∀ v G' H', Same G G' → Same G' H' → (∀ a o, H a = some o → B ≠ some a → Na T a → H' a = some o) → (∀ a, G' a ≠ none → G a ≠ none ∨ H a = none ∨ CodeAt (G' a)) → BackOk T B G' H' s' → RNew T H G' H' v s → LamX.Tabs T.tbs H' → Q v H'
  | .exc c x => XW T B (stripT T H) E c x
  | .no => False
theorem dSp.len {n : Nat} {g : Mir} (vs : List V) (H : Hp) (Q : VK) (E : XK) (h : dSp T n g vs H Q E) : vs.length = n := h.1
/-! ### a def's body -/
def backS : List Slot → List Slot → Slot
  | .d _ :: as, _ :: ρ => backS as ρ
  | .b _ :: _, .b xs :: _ => .b xs
  | .j _ _ :: _, .j c ds :: _ => .j c ds
  | _, _ => .un
def runB (f : M Out) (n : Nat) (as : List Slot) : R (Slot × Slot) := match f (as ++ List.replicate (n - as.length) .un) with
  | .ok (.nx, ρ') => .ok (.d .none, backS as ρ')
  | .ok (.rt s, ρ') => .ok (s, backS as ρ')
  | .ok (.bk, _) => .no
  | .ok (.ct, _) => .no
  | .exc c x => .exc c x
  | .no => .no
theorem ArgOk.len {vs : List V} {as : List Slot} (h : ArgOk T G H B vs as) : vs.length = as.length := by
  induction h with
  | nil => rfl
  | d _ _ ih => exact congrArg (· + 1) ih
  | b _ _ _ _ ih => exact congrArg (· + 1) ih
  | j _ _ _ _ _ _ ih => exact congrArg (· + 1) ih
theorem ArgOk.bg {vs : List V} {as : List Slot} (h : ArgOk T G H B vs as) : ∀ a, B = some a → G a = none ∧ ∃ o, H a = some o ∧ NTb o := by
  induction h with
  | nil => intro a z; cases z
  | d _ _ ih => exact ih
  | b h1 h2 _ _ _ => intro a z; cases z; exact ⟨h2, _, h1, ntb_lst⟩
  | j _ h1 h2 _ _ _ _ => intro a z; cases z; exact ⟨h2, _, h1, ntb_ins⟩
theorem ArgOk.sl {vs : List V} {as : List Slot} (h : ArgOk T G H B vs as) : ∀ (i : Nat) s, as[i]? = some s → ∃ v, vs[i]? = some v ∧ SlotOk T B H0 G H v s := by
  induction h with
  | nil => intro i s e; simp at e
  | @d B v x vs as r _ ih =>
    intro i s e
    cases i with
    | zero => simp at e; subst e; exact ⟨v, rfl, r⟩
    | succ i => exact ih i s (by simpa using e)
  | @b a ws xs vs as h1 h2 r h ih =>
    intro i s e
    cases i with
    | zero => simp at e; subst e; exact ⟨.ref a, rfl, a, ws, rfl, rfl, h1, r⟩
    | succ i =>
      obtain ⟨v, e1, e2⟩ := ih i s (by simpa using e)
      exact ⟨v, by simpa using e1, slot_none e2⟩
  | @j a dx c fs ds vs as ik h1 h2 h3 r h ih =>
    intro i s e
    cases i with
    | zero => simp at e; subst e; exact ⟨.ref a, rfl, a, dx, fs, rfl, rfl, ik, h1, h3, r⟩
    | succ i =>
      obtain ⟨v, e1, e2⟩ := ih i s (by simpa using e)
      exact ⟨v, by simpa using e1, slot_none e2⟩
theorem ArgOk.noown {vs : List V} {as : List Slot} (h : ArgOk T G H B vs as) : B = none → ∀ (i : Nat) s, as[i]? = some s → s.own = false := by
  induction h with
  | nil => intro _ i s e; simp at e
  | d _ _ ih =>
    intro z i s e
    cases i with
    | zero => simp at e; subst e; rfl
    | succ i => exact ih z i s (by simpa using e)
  | b _ _ _ _ _ => intro z; cases z
  | j _ _ _ _ _ _ _ => intro z; cases z
theorem ArgOk.one {vs : List V} {as : List Slot} (h : ArgOk T G H B vs as) : ∀ (i k : Nat) s u, as[i]? = some s → as[k]? = some u → s.own = true → u.own = true → i = k := by
  induction h with
  | nil => intro i k s u e; simp at e
  | d _ _ ih =>
    intro i k s u e1 e2 o1 o2
    cases i with
    | zero => simp at e1; subst e1; cases o1
    | succ i =>
      cases k with
      | zero => simp at e2; subst e2; cases o2
      | succ k => exact congrArg (· + 1) (ih i k s u (by simpa using e1) (by simpa using e2) o1 o2)
  | b _ _ _ h _ =>
    intro i k s u e1 e2 o1 o2
    cases i with
    | zero =>
      cases k with
      | zero => rfl
      | succ k => rw [h.noown rfl k u (by simpa using e2)] at o2; cases o2
    | succ i => rw [h.noown rfl i s (by simpa using e1)] at o1; cases o1
  | j _ _ _ _ _ h _ =>
    intro i k s u e1 e2 o1 o2
    cases i with
    | zero =>
      cases k with
      | zero => rfl
      | succ k => rw [h.noown rfl k u (by simpa using e2)] at o2; cases o2
    | succ i => rw [h.noown rfl i s (by simpa using e1)] at o1; cases o1
theorem app_rep {as : List Slot} {m : Nat} {i : Nat} {s : Slot} (e : (as ++ List.replicate m .un)[i]? = some s) : as[i]? = some s ∨ s = .un := by
  by_cases h : i < as.length
  · rw [List.getElem?_append_left h] at e; exact .inl e
  · rw [List.getElem?_append_right (by omega), List.getElem?_replicate] at e
    split at e
    · cases e; exact .inr rfl
    · cases e
theorem si_start {N : List Str} {vs : List V} {as : List Slot} (g : Same G H) (h : ArgOk T G H B vs as) (hn : vs.length ≤ N.length) (tt : LamX.Tabs T.tbs H) (gt : ∀ p ∈ T.tbs, G p.1 = none) : SI T B G (stripT T H) (as ++ List.replicate (N.length - as.length) .un) (L2.start N vs) G H := by
  have hl := h.len
  refine ⟨Same.refl _, g, fun _ _ e _ => (strip_some e).1, fun _ z => .inl z, fun a e => ?_, ?_, fun i s e n => ?_, fun i k s u v ne e1 e2 o1 o2 s1 s2 => ?_, tt, fun p hp => ⟨gt p hp, strip_tab hp⟩⟩
  · obtain ⟨b1, o, b2, b3⟩ := h.bg a e
    refine ⟨b1, ?_, o, b2, b3⟩
    rw [strip_na (na_of tt b2 b3), b2]
    simp
  · unfold L2.start
    rw [List.length_append, List.length_append, List.length_replicate, List.length_replicate, List.length_map]
    omega
  · rcases app_rep e with e | e
    · obtain ⟨v, h1, h2⟩ := h.sl i s e
      refine ⟨v, ?_, h2⟩
      unfold L2.start
      have hi : i < vs.length := (List.getElem?_eq_some_iff.mp h1).1
      rw [List.getElem?_append_left (by rw [List.length_map]; exact hi), List.getElem?_map, h1]
      rfl
    · exact absurd e n
  · rcases app_rep e1 with e1 | e1
    · rcases app_rep e2 with e2 | e2
      · exact ne (h.one i k s u e1 e2 o1 o2)
      · subst e2; cases o2
    · subst e1; cases o1
/-- at the end -/
theorem back_ok {vs : List V} {as : List Slot} {ρ' : Ev} {σ' : L2.St} (h : ArgOk T G H B vs as) (I : SI T B G H0 ρ' σ' G' H') : BackOk T B G' H' (backS as ρ') := by
  have key : ∀ (as : List Slot) (ρ1 : Ev), (∀ (i : Nat) s,  ρ1[i]? = some s → ∃ k : Nat, ρ'[k]? = some s) → BackOk T B G' H' (backS as ρ1) := by
    intro as
    induction as with
    | nil => intro ρ1 _; cases ρ1 <;> trivial
    | cons s as ih =>
      intro ρ1 hm
      cases ρ1 with
      | nil => cases s <;> trivial
      | cons t ρ1 =>
        cases s with
        | d x => exact ih ρ1 fun i s e => hm (i + 1) s (by simpa using e)
        | un => trivial
        | o _ => trivial
        | t _ => trivial
        | b _ =>
          cases t with
          | b xs =>
            obtain ⟨k, e⟩ := hm 0 (.b xs) rfl
            obtain ⟨v, _, a, ws, _, e2, h3, r⟩ := I.sl k _ e (fun z => by cases z)
            exact ⟨a, ws, e2, (I.bg a e2).1, h3, r⟩
          | un => trivial
          | d _ => trivial
          | o _ => trivial
          | j _ _ => trivial
          | t _ => trivial
        | j _ _ =>
          cases t with
          | j c ds =>
            obtain ⟨k, e⟩ := hm 0 (.j c ds) rfl
            obtain ⟨v, _, a, dx, fs, _, e2, _, h3, h4, r⟩ := I.sl k _ e (fun z => by cases z)
            exact ⟨a, dx, fs, e2, (I.bg a e2).1, h3, h4, r⟩
          | un => trivial
          | d _ => trivial
          | o _ => trivial
          | b _ => trivial
          | t _ => trivial
  exact key as ρ' fun i s e => ⟨i, e⟩
theorem ret_new {v : V} {s : Slot} (h : VOk T H0 ρ σ G' H' v s) : RNew T H0 G' H' v s := by
  obtain ⟨h1, h2, _⟩ := h
  cases s with
  | un => exact absurd rfl h2
  | d x => exact h1
  | o xs =>
    obtain ⟨a, vs, e, h3, h4, h5, r⟩ := h1
    exact ⟨a, vs, e, h5, h3, h4, r⟩
  | b xs => obtain ⟨a, vs, _, z, _⟩ := h1; cases z
  | j c ds => obtain ⟨a, dx, fs, _, z, _⟩ := h1; cases z
  | t kvs =>
    obtain ⟨a, xs, e, h3, h4, h5, r⟩ := h1
    exact ⟨a, xs, e, h5, h3, h4, r⟩
theorem RNew.unstrip {v : V} {s : Slot} (tt : LamX.Tabs T.tbs H') (h : RNew T (stripT T H) G' H' v s) : RNew T H G' H' v s := by
  cases s with
  | un => exact h
  | d x => exact h
  | o xs =>
    obtain ⟨p, vs, e, n, h1, r⟩ := h
    refine ⟨p, vs, e, ?_, h1, r⟩
    rw [strip_na (na_of tt h1 ntb_lst)] at n
    exact n
  | b xs => exact h
  | j c ds => exact h
  | t kvs =>
    obtain ⟨p, xs, e, n, h1, r⟩ := h
    obtain ⟨u, eu, nu⟩ := IsX.ntb h1
    refine ⟨p, xs, e, ?_, h1, r⟩
    rw [strip_na (na_of tt eu nu)] at n
    exact n
theorem nw_strip (I : SI T B G0 (stripT T H) ρ σ G' H') : ∀ a, G' a ≠ none → G0 a ≠ none ∨ H a = none ∨ CodeAt (G' a) := fun a n => by
  rcases I.nw a n with z | z | z
  · exact .inl z
  rotate_left
  · exact .inr (.inr z)
  · rcases strip_cases z with z | ⟨p, hp, rfl⟩
    · exact .inr (.inl z)
    · exact absurd (I.tb.2 p hp).1 n
theorem body_ok {t : TS} {f : M Out} {N : List Str} {n : Nat} {vs : List V} {Q : VK} (hb : Ds T E t f) (hn : n ≤ N.length) (h : dSp T n (runB f N.length) vs H Q E) : t { nx := fun _ H' => Q .non H', rt := Q } (L2.start N vs) H := by
  obtain ⟨hl, tt, G, B, as, g, gt, ha, q⟩ := h
  have I := si_start (N := N) g ha (by omega) tt gt
  refine Ps.q.mp (Ps.of hb I) _ ?_
  unfold runB at q
  revert q
  cases f (as ++ List.replicate (N.length - as.length) Slot.un) with
  | no => exact fun q => q
  | exc c x => exact fun q => q
  | ok z =>
    obtain ⟨o, ρ'⟩ := z
    cases o with
    | nx => exact fun q σ' G' H' I' k => q .non G' H' k I'.gh (fun a o e nb na => I'.hh a o (by rw [strip_na na]; exact e) nb) (nw_strip I') (back_ok ha I') .non I'.tb.1
    | bk => exact fun q => q.elim
    | ct => exact fun q => q.elim
    | rt s => exact fun q v σ' G' H' I' k r => q v G' H' k I'.gh (fun a o e nb na => I'.hh a o (by rw [strip_na na]; exact e) nb) (nw_strip I') (back_ok ha I') ((ret_new r).unstrip I'.tb.1) I'.tb.1
/-! ### calls -/
def callE (g : Mir) (f : M (List D)) : M Slot := bd f fun xs ρ => match g (xs.map Slot.d) with
  | .ok (s, _) => .ok (s, ρ)
  | .exc c x => .exc c x
  | .no => .no
theorem args_d : ∀ {vs : List V} {xs : List D}, RpL T G vs xs → ArgOk T G H none vs (xs.map Slot.d)
  | _, _, .nil => .nil
  | _, _, .cons h r => .d h (args_d r)
theorem SI.na0 (I : SI T B G0 H0 ρ σ G H) {a : Addr} {o : HO} (q : H0 a = some o) : Na T a := fun p hp z => by
  rw [z, (I.tb.2 p hp).2] at q
  cases q
theorem SI.h0s (I : SI T B G0 H0 ρ σ G H) {a : Addr} (n : stripT T H a = none) : H0 a = none := by
  rcases strip_cases n with z | ⟨p, hp, rfl⟩
  · exact I.h0 z
  · exact (I.tb.2 p hp).2
theorem SI.xcall (I : SI T B G0 H0 ρ σ G H) {c : Int} {x : D} (w : XW T B H0 E c x) : XW T none (stripT T H) E c x := fun H' d v f n e r tt => w H' d v (fun a o q nb => f a o (by rw [strip_na (I.na0 q)]; exact I.hh a o q nb) (fun z => by cases z)) (I.h0s n) e r tt
theorem no_new {a : Addr} {o : HO} (tt : LamX.Tabs T.tbs H) (k2 : Same G' H') (k3 : ∀ a o, H a = some o → Na T a → H' a = some o) (k4 : ∀ a, G' a ≠ none → G a ≠ none ∨ H a = none ∨ CodeAt (G' a)) (e : G a = none) (q : H a = some o) (nt : NTb o) : G' a = none := by
  cases z : G' a with
  | none => rfl
  | some u =>
    rcases k4 a (by rw [z]; simp) with y | y | ⟨c, x, y⟩
    · exact absurd e y
    · rw [q] at y; cases y
    · have h1 := k3 a o q (na_of tt q nt)
      rw [k2 a _ y] at h1
      cases h1
      exact absurd rfl (nt.2 c x)
theorem SlotOk.alT {v : V} {s : Slot} (tt : LamX.Tabs T.tbs H) (k1 : Same G G') (k2 : Same G' H') (k3 : ∀ a o, H a = some o → Na T a → H' a = some o) (k4 : ∀ a, G' a ≠ none → G a ≠ none ∨ H a = none ∨ CodeAt (G' a)) (h : SlotOk T B H0 G H v s) : SlotOk T B H0 G' H' v s := by
  have nn : ∀ {a o}, G a = none → H a = some o → NTb o → G' a = none := fun {a o} e q nt => no_new tt k2 k3 k4 e q nt
  cases s with
  | un => trivial
  | d x => exact Rp.mono k1 h
  | o xs =>
    obtain ⟨a, vs, e, h1, h2, h3, r⟩ := h
    exact ⟨a, vs, e, k3 _ _ h1 (na_of tt h1 ntb_lst), nn h2 h1 ntb_lst, h3, r.mono k1⟩
  | b xs =>
    obtain ⟨a, vs, e, h1, h2, r⟩ := h
    exact ⟨a, vs, e, h1, k3 _ _ h2 (na_of tt h2 ntb_lst), r.mono k1⟩
  | j c ds =>
    obtain ⟨a, dx, fs, e, h1, ik, h2, h4, r⟩ := h
    exact ⟨a, dx, fs, e, h1, ik, k3 _ _ h2 (na_of tt h2 ntb_ins), h4, r.mono k1⟩
  | t kvs =>
    obtain ⟨a, xs, e, h1, h2, h3, r⟩ := h
    obtain ⟨u, eu, nu⟩ := h1.ntb
    refine ⟨a, xs, e, ?_, nn h2 eu nu, h3, Paired.mono r fun _ _ z => z.mono k1⟩
    rw [k3 _ _ eu (na_of tt eu nu), ← eu]
    exact h1
/-- the tables may have changed -/
theorem SI.alT (I : SI T B G0 H0 ρ σ G H) (k1 : Same G G') (k2 : Same G' H') (k3 : ∀ a o, H a = some o → Na T a → H' a = some o) (k4 : ∀ a, G' a ≠ none → G a ≠ none ∨ H a = none ∨ CodeAt (G' a)) (tt : LamX.Tabs T.tbs H') : SI T B G0 H0 ρ σ G' H' := by
  refine ⟨I.gg.trans k1, k2, fun a o e n => k3 _ _ (I.hh a o e n) (I.na0 e), fun a h => ?_, fun a e => ?_, I.ln, fun i s e n => ?_, I.ap, tt, fun p hp => ⟨?_, (I.tb.2 p hp).2⟩⟩
  · rcases k4 a h with z | z | z
    · rcases I.nw a z with y | y | ⟨c, q, y⟩
      · exact .inl y
      · exact .inr (.inl y)
      · exact .inr (.inr ⟨c, q, k1 _ _ y⟩)
    · exact .inr (.inl (I.h0 z))
    · exact .inr (.inr z)
  · obtain ⟨b1, b2, o, b3, nt⟩ := I.bg a e
    exact ⟨no_new I.tb.1 k2 k3 k4 b1 b3 nt, b2, o, k3 _ _ b3 (na_of I.tb.1 b3 nt), nt⟩
  · obtain ⟨v, h1, h2⟩ := I.sl i s e n
    exact ⟨v, h1, h2.alT I.tb.1 k1 k2 k3 k4⟩
  · obtain ⟨ps, h1, _⟩ := I.tb.1 p hp
    cases z : G' p.1 with
    | none => rfl
    | some u =>
      rcases k4 p.1 (by rw [z]; simp) with y | y | ⟨c, x, y⟩
      · exact absurd (I.tb.2 p hp).1 y
      · rw [h1] at y; cases y
      · obtain ⟨ps2, h2, _⟩ := tt p hp
        rw [k2 _ _ y] at h2
        unfold LamX.CodeO at h2
        cases h2
theorem call_ok {n : Nat} {g : Mir} {vs : List V} {xs : List D} (hl : xs.length = n) (I : SI T B G0 H0 ρ σ G H) (r : RpL T G vs xs) : Pt T E (rV T) B G0 H0 σ G H (fun H (Q : VK) => dSp T n g vs H Q E) (match g (xs.map Slot.d) with
  | .ok (s, _) => .ok (s, ρ)
  | .exc c x => .exc c x
  | .no => .no) := by
  refine Pt.q.mpr fun Q q => ⟨by rw [r.len]; exact hl, I.tb.1, G, none, xs.map Slot.d, I.gh, fun p hp => (I.tb.2 p hp).1, args_d r, ?_⟩
  revert q
  cases g (xs.map Slot.d) with
  | no => exact fun q => q
  | exc c x => exact fun q => I.xcall q
  | ok z =>
    obtain ⟨s, s'⟩ := z
    intro q v G' H' k1 k2 k3 k4 _ rn tt
    exact q v G' H' (I.alT k1 k2 (fun a o e => k3 a o e (fun z => by cases z)) k4 tt) k1 (I.vok rn)
theorem de_call {n : Nat} {g : Mir} {t : TA} {f : M (List D)} (h : Da T E t f) (hn : ∀ ρ xs ρ', f ρ = .ok (xs, ρ') → xs.length = n) : De T E (tCall (dSp T n g) [] E t) (callE g f) := by
  intro B G0 H0 ρ σ G H I
  refine Pt.bd (t := t σ) (u := fun vs H1 (Q : VK) => dSp T n g (vs ++ []) H1 Q E) (h B G0 H0 ρ σ G H I) fun xs ρ1 vs G1 H1 e I1 k1 r1 => ?_
  rw [List.append_nil]
  exact call_ok (hn _ _ _ e) I1 r1
theorem de_call0 {g : Mir} : De T E (tCall (dSp T 0 g) [] E tNil) (callE g nilA) := de_call da_nil fun ρ xs ρ' e => by cases e; rfl
theorem len_nil : ∀ ρ xs ρ', nilA ρ = .ok (xs, ρ') → xs.length = 0 := fun ρ xs ρ' e => by cases e; rfl
theorem len_cons {f : M Slot} {g : M (List D)} {n : Nat} (h : ∀ ρ xs ρ', g ρ = .ok (xs, ρ') → xs.length = n) : ∀ ρ xs ρ', consA f g ρ = .ok (xs, ρ') → xs.length = n + 1 := fun ρ xs ρ' e => by
  unfold consA bd at e
  cases e1 : sE f ρ with
  | no => rw [e1] at e; cases e
  | exc c x => rw [e1] at e; cases e
  | ok z =>
    obtain ⟨x, ρ1⟩ := z
    rw [e1] at e
    dsimp only at e
    cases e2 : g ρ1 with
    | no => rw [e2] at e; cases e
    | exc c x => rw [e2] at e; cases e
    | ok z =>
      obtain ⟨ys, ρ2⟩ := z
      rw [e2] at e
      cases e
      exact congrArg (· + 1) (h _ _ _ e2)
/-! ### raise -/
def raiseM (c : Int) (f : M Slot) : M Out := bd (sE f) fun x _ => .exc c x
theorem ds_raise {te : TE} {f : M Slot} (c : Int) (h : De T E te f) : Ds T E (fun _ σ H => tMkA (He.ga T.K (excN c)) (NCLam.spInit (He.ga T.K (excN c)) (excF c)) (tCons te tNil) σ H fun cls d H' => E cls d H') (raiseM c f) := by
  refine ds_iff.mpr fun B G0 H0 ρ σ G H I => ?_
  refine Ps.bd (t := te σ) (u := fun v H1 _ => [v].length ≤ 1000 ∧ ∀ a, H1 a = none → NCLam.spInit (He.ga T.K (excN c)) (excF c) (.ref a :: [v]) (upd H1 a (exo a (He.ga T.K (excN c)) none))
    (fun v H2 => v = .non ∧ ((H2 a = some (exo a (He.ga T.K (excN c)) none) ∧ E (.ref (He.ga T.K (excN c))) none (del H2 a)) ∨ ∃ (d : Addr) (fs : List (Str × V)), H2 a = some (exo a (He.ga T.K (excN c)) (some d)) ∧ H2 d = some (exd d fs) ∧ H1 d = none ∧ E (.ref (He.ga T.K (excN c))) (some d) (upd (del H2 a) d (.xd fs)))) (fun _ _ _ => False)) (dd_of h B G0 H0 ρ σ G H I) fun x ρ1 v G1 H1 _ I1 k1 r1 => ?_
  intro Z w
  refine NCLam.raise_ok fun H' d s n e => ?_
  exact w H' d v (fun a o q nb => s a o (I1.hh a o q nb)) (I1.h0 n) e (r1.mono (I1.gh.trans s)) (I1.tb.1.ext s)
/-! ### fields -/
def fldE (c k : Int) (f : M Pv) : M Slot := bd f fun p ρ => match rdP ρ p with
  | some (PyData.dict [(PyData.int c', PyData.tuple ds)]) => if c' == c then lf ((ds[k.toNat]?).map Slot.d) ρ else .no
  | _ => .no
theorem lookup_at {v : V} {fn : Str} : ∀ {fs : List (Str × V)} {k : Nat}, (fs.map (·.1)).Nodup → (fs.map (·.1))[k]? = some fn → (fs.map (·.2))[k]? = some v → fs.lookup fn = some v
  | [], _, _, e, _ => by simp at e
  | p :: fs, 0, _, e1, e2 => by
    simp at e1 e2
    subst e1 e2
    obtain ⟨a, b⟩ := p
    simp [List.lookup]
  | p :: fs, k + 1, nd, e1, e2 => by
    obtain ⟨h1, h2⟩ := List.nodup_cons.mp nd
    simp at e1 e2
    obtain ⟨a, b⟩ := p
    have hm : fn ∈ fs.map (·.1) := List.mem_of_getElem? (by rw [List.getElem?_map]; simpa using e1)
    have ne : (fn == a) = false := by
      rw [beq_eq_false_iff_ne]
      intro z
      exact h1 (by rw [← z]; exact hm)
    simp only [List.lookup, ne]
    exact lookup_at h2 (by rw [List.getElem?_map]; simpa using e1) (by rw [List.getElem?_map]; simpa using e2)
theorem clsF_nd (c : Int) : (clsF c).Nodup := by
  unfold clsF
  split <;> decide +kernel
theorem de_fld {ta : TE} {f : M Pv} {fn : Str} (c k : Int) (hf : (clsF c)[k.toNat]? = some fn) (na : NoAttr T.K (He.ga T.K (clsN c)) fn) (h : Dk T E ta f) : De T E (tFld T.K ta fn) (fldE c k f) := by
  intro B G0 H0 ρ σ G H I
  refine Pt.bd (t := ta σ) (u := fun x H1 (Q : VK) => ∃ a C dx fs v, x = .ref a ∧ H1 a = some (.ins C dx fs) ∧ Cls T.K C ∧ NoAttr T.K C fn ∧ fs.lookup fn = some v ∧ Q v H1) (h B G0 H0 ρ σ G H I) fun p ρ1 v G1 H1 _ I1 k1 r1 => ?_
  split
  · rename_i c' ds e
    split
    · rename_i hc
      refine Pt.lf fun s es => Pt.ok fun Q q => ?_
      obtain ⟨x, ex, rfl⟩ := Option.map_eq_some_iff.mp es
      have hc' : c' = c := by simpa using hc
      subst hc'
      have key : ∀ (a dx : Addr) (fs : List (Str × V)), v = .ref a → InsK T.K (He.ga T.K (clsN c')) → H1 a = some (.ins (He.ga T.K (clsN c')) dx fs) → fs.map (·.1) = (clsF c').take ds.length → RpL T G1 (fs.map (·.2)) ds →
          ∃ a C dx fs w, v = .ref a ∧ H1 a = some (.ins C dx fs) ∧ Cls T.K C ∧ NoAttr T.K C fn ∧ fs.lookup fn = some w ∧ Q w H1 := fun a dx fs ev ik ha hm r => by
        obtain ⟨w, e1, e2⟩ := r.get ex
        have hk : k.toNat < ds.length := (List.getElem?_eq_some_iff.mp ex).1
        refine ⟨a, _, dx, fs, w, ev, ha, ik.cl, na, lookup_at (k := k.toNat) ?_ ?_ e1, q w G1 H1 I1 (Same.refl _) (vok_d e2)⟩
        · rw [hm]; exact (clsF_nd c').sublist (List.take_sublist _ _)
        · rw [hm, List.getElem?_take_of_lt hk]; exact hf
      rcases I1.pk r1 e with h2 | ⟨a, vs, xs, _, z, _⟩ | ⟨a, dx, c2, fs, ds2, ev, ee, ik, ha, hm, r⟩
      · cases h2 with
        | ins ik ha hm r =>
          refine key _ _ _ rfl ik (I1.gh _ _ ha) ?_ r
          have hl := r.len
          rw [List.length_map] at hl
          have hl2 : (clsF c').length = ds.length := by rw [← hm, List.length_map]; exact hl
          rw [hm, List.take_of_length_le (by omega)]
      · cases z
      · cases ee
        exact key a dx fs ev ik ha hm r
    · exact Pt.no
  · exact Pt.no
/-- self.f = e, the fields one after another -/
def sfldM (i : Nat) (c k : Int) (f : M Slot) : M Out := bd (sE f) fun x ρ => match ρ[i]? with
  | some (.j c' ds) => if (c' == c) && (ds.length == k.toNat) then .ok (.nx, ρ.set i (.j c (ds ++ [x]))) else .no
  | _ => .no
theorem putF_new {fn : Str} {v : V} : ∀ {fs : List (Str × V)}, fn ∉ fs.map (·.1) → putF fn v fs = fs ++ [(fn, v)]
  | [], _ => rfl
  | p :: fs, h => by
    obtain ⟨a, b⟩ := p
    have ne : a ≠ fn := fun z => h (by simp [z])
    unfold putF
    rw [if_neg ne, putF_new fun z => h (by simp only [List.map_cons, List.mem_cons]; exact .inr z)]
    rfl
theorem ds_fld {tv : TE} {f : M Slot} {fn : Str} (i : Nat) (c k : Int) (hf : (clsF c)[k.toNat]? = some fn) (na : NoAttr T.K (He.ga T.K (clsN c)) fn) (h : De T E tv f) : Ds T E (sFld T.K (tVar i) tv fn) (sfldM i c k f) := by
  refine ds_iff.mpr fun B G0 H0 ρ σ G H I => ?_
  refine Ps.bd (t := tv σ) (u := fun y H1 Z => tVar i σ H1 fun x H2 => ∃ a C dx fs, x = .ref a ∧ H2 a = some (.ins C dx fs) ∧ Cls T.K C ∧ NoAttr T.K C fn ∧ fs.length < 1000 ∧ Z.nx σ (upd H2 a (.ins C dx (putF fn y fs)))) (dd_of h B G0 H0 ρ σ G H I) fun x ρ1 v G1 H1 _ I1 k1 r1 => ?_
  split
  · rename_i c' ds e
    split
    · rename_i hc
      obtain ⟨hc1, hc2⟩ := Bool.and_eq_true_iff.mp hc
      have hc' : c' = c := by simpa using hc1
      have hk : ds.length = k.toNat := by simpa using hc2
      subst hc'
      intro Z q
      obtain ⟨w, h1, a, dx, fs, rfl, hB, ik, ha, hm, r⟩ := I1.sl i _ e (fun z => by cases z)
      have hl := r.len
      rw [List.length_map] at hl
      have hlt : k.toNat < (clsF c').length := (List.getElem?_eq_some_iff.mp hf).1
      have hc5 : (clsF c').length ≤ 5 := by unfold clsF; split <;> decide
      have hnew : fn ∉ fs.map (·.1) := by
        rw [hm]
        intro z
        have nd := clsF_nd c'
        obtain ⟨m, hm1, hm2⟩ := List.mem_iff_getElem.mp z
        rw [List.length_take] at hm1
        rw [List.getElem_take] at hm2
        have e1 : (clsF c')[k.toNat] = fn := by
          rw [List.getElem?_eq_getElem hlt] at hf
          exact Option.some.inj hf
        have := (List.getElem_inj nd).mp (hm2.trans e1.symm)
        omega
      refine ⟨.ref a, h1, a, _, dx, fs, rfl, ha, ik.cl, na, by omega, ?_⟩
      rw [putF_new hnew]
      refine q _ G1 _ (I1.wr e rfl h1 (I1.bg a hB).1 (.inl hB) (s' := .j c' (ds ++ [x])) ⟨a, dx, fs ++ [(fn, v)], rfl, hB, ik, upd_same, ?_, ?_⟩ rfl) (Same.refl _)
      · rw [List.map_append, hm, List.length_append, List.length_singleton, List.take_succ, hk, hf]
        rfl
      · rw [List.map_append]
        exact r.app (.cons r1 .nil)
    · exact Ps.no
  · exact Ps.no
end
end DL
/-! NCFun2: list methods, several names at once, things lent, objects made, of the data layer. -/
namespace DL
open PySem PySem.Spec PyProof.Rows L2
section
variable {T : Kt} {B : Option Addr} {G0 H0 G H G' H' : Hp} {ρ : Ev} {σ : L2.St} {E : XK}
/-! ### methods of lists -/
def Slot.isL : Slot → Bool
  | .o _ => true
  | .b _ => true
  | _ => false
/-- the list at a slot, and it again with other items -/
def lstS : Slot → Option (List D)
  | .o xs => some xs
  | .b xs => some xs
  | _ => none
def reS : Slot → List D → Slot
  | .b _, ys => .b ys
  | _, ys => .o ys
theorem SI.lst (I : SI T B G0 H0 ρ σ G H) {i : Nat} {s : Slot} {xs : List D} (e : ρ[i]? = some s) (l : lstS s = some xs) : ∃ a vs, σ[i]? = some (some (.ref a)) ∧ H a = some (.lst vs) ∧ G a = none ∧ (B = some a ∨ H0 a = none) ∧ RpL T G vs xs ∧
    ∀ ws ys, RpL T G ws ys → SI T B G0 H0 (ρ.set i (reS s ys)) σ G (upd H a (.lst ws)) := by
  cases s with
  | un => cases l
  | d x => cases l
  | o zs =>
    cases l
    obtain ⟨v, h1, a, vs, rfl, h2, h3, h4, r⟩ := I.sl i _ e (fun z => by cases z)
    exact ⟨a, vs, h1, h2, h3, .inr h4, r, fun ws ys r2 => I.wr e rfl h1 h3 (.inr h4) (s' := .o ys) ⟨a, ws, rfl, upd_same, h3, h4, r2⟩ rfl⟩
  | b zs =>
    cases l
    obtain ⟨v, h1, a, vs, rfl, hB, h2, r⟩ := I.sl i _ e (fun z => by cases z)
    exact ⟨a, vs, h1, h2, (I.bg a hB).1, .inl hB, r, fun ws ys r2 => I.wr e rfl h1 (I.bg a hB).1 (.inl hB) (s' := .b ys) ⟨a, ws, rfl, hB, upd_same, r2⟩ rfl⟩
  | j c ds => cases l
  | t kvs => cases l
/-- x.m(e) where m changes the list at the slot i: items and argument to items -/
def mtE (op : List D → D → Option (List D)) (i : Nat) (f : M Slot) : M Slot := fun ρ => match ρ[i]? with
  | some s0 => if s0.isL then bd (sE f) (fun x ρ => match ρ[i]? with
      | some s => match lstS s with
        | some xs => match op xs x with
          | some ys => .ok (.d .none, ρ.set i (reS s ys))
          | none => .no
        | none => .no
      | none => .no) ρ else .no
  | none => .no
theorem isL_lst {s : Slot} (h : s.isL = true) : ∃ xs, lstS s = some xs := by
  cases s <;> first | exact ⟨_, rfl⟩ | cases h
def MtS (T : Kt) (r : V → List V → Hp → VK → Prop) (op : List D → D → Option (List D)) : Prop := ∀ G H a vs xs w x ys (Q : VK), Same G H → H a = some (.lst vs) → RpL T G vs xs → Rp T G w x → op xs x = some ys → (∀ ws, RpL T G ws ys → Q .non (upd H a (.lst ws))) → r (.ref a) [w] H Q
theorem de_mt {r : V → List V → Hp → VK → Prop} {op : List D → D → Option (List D)} {te : TE} {f : M Slot} (i : Nat) (hr : MtS T r op) (h : De T E te f) : De T E (tBM T.K "list" r (tVar i) (tCons te tNil)) (mtE op i f) := by
  intro B G0 H0 ρ σ G H I
  unfold mtE
  cases e0 : ρ[i]? with
  | none => exact Pt.no
  | some s0 =>
    dsimp only
    split
    · rename_i hl
      obtain ⟨xs0, l0⟩ := isL_lst hl
      obtain ⟨a, vs0, h1, h2, _⟩ := I.lst e0 l0
      refine Pt.q.mpr fun Q q => ⟨.ref a, h1, .inl ⟨rfl, vs0, SqL.of h2⟩, ?_⟩
      refine Pt.q.mp (Pt.bd (T := T) (E := E) (B := B) (G0 := G0) (H0 := H0) (Rel2 := rV T) (t := te σ) (u := fun w H1 (Q : VK) => r (.ref a) [w] H1 Q) (dd_of h B G0 H0 ρ σ G H I) (k := fun x ρ => match ρ[i]? with
        | some s => match lstS s with
          | some xs => match op xs x with
            | some ys => .ok (.d .none, ρ.set i (reS s ys))
            | none => .no
          | none => .no
        | none => .no) fun x ρ1 w G1 H1 _ I1 k1 r1 => ?_) Q q
      cases e1 : ρ1[i]? with
      | none => exact Pt.no
      | some s =>
        dsimp only
        cases l1 : lstS s with
        | none => exact Pt.no
        | some xs =>
          dsimp only
          cases o1 : op xs x with
          | none => exact Pt.no
          | some ys =>
            refine Pt.ok fun Q q => ?_
            obtain ⟨a', vs, h3, h4, h5, _, r2, up⟩ := I1.lst e1 l1
            rw [h1] at h3
            cases h3
            exact hr G1 H1 a vs xs w x ys Q I1.gh h4 r2 r1 o1 fun ws rw => q _ G1 _ (up ws ys rw) (Same.refl _) (vok_d .non)
    · exact Pt.no
def opAppend (xs : List D) (x : D) : Option (List D) := if Nat.ble xs.length 999999 then some (xs ++ [x]) else none
theorem ms_append : MtS T rAppend opAppend := by
  intro G H a vs xs w x ys Q g h1 r rw e q
  unfold opAppend at e
  split at e
  · rename_i hl
    cases e
    have := Nat.le_of_ble_eq_true hl
    exact ⟨a, vs, w, rfl, rfl, h1, by rw [r.len]; exact len_lt (by omega), q _ (r.app (.cons rw .nil))⟩
  · cases e
def opExtend (xs : List D) : D → Option (List D)
  | .list ys => if lenOk (xs.length + ys.length) then some (xs ++ ys) else none
  | _ => none
theorem ms_extend : MtS T rExtend opExtend := by
  intro G H a vs xs w x ys Q g h1 r rw e q
  unfold opExtend at e
  split at e
  · split at e
    · rename_i hl
      cases e
      cases rw with
      | lst hb rb => exact ⟨a, _, vs, _, rfl, rfl, h1, g _ _ hb, by rw [r.len, rb.len]; exact lenOk_le hl, q _ (r.app rb)⟩
    · cases e
  · cases e
/-- x.pop() -/
def popE (i : Nat) : M Slot := fun ρ => match ρ[i]? with
  | some s => match lstS s with
    | some xs => match xs[xs.length - 1]? with
      | some y => .ok (.d y, ρ.set i (reS s xs.dropLast))
      | none => .no
    | none => .no
  | none => .no
theorem de_pop (i : Nat) : De T E (tBM0 T.K "list" rPop (tVar i)) (popE i) := by
  intro B G0 H0 ρ σ G H I
  unfold popE
  cases e : ρ[i]? with
  | none => exact Pt.no
  | some s =>
    dsimp only
    cases l : lstS s with
    | none => exact Pt.no
    | some xs =>
      dsimp only
      cases o : xs[xs.length - 1]? with
      | none => exact Pt.no
      | some y =>
        refine Pt.ok fun Q q => ?_
        obtain ⟨a, vs, h1, h2, h3, _, r, up⟩ := I.lst e l
        obtain ⟨w, h4, h5⟩ := r.get o
        exact ⟨.ref a, h1, .inl ⟨rfl, vs, SqL.of h2⟩, a, vs, w, rfl, rfl, h2, by rw [r.len]; exact h4, q _ G _ (up _ _ r.dropLast) (Same.refl _) (vok_d h5)⟩
/-- x.clear() -/
def clearE (i : Nat) : M Slot := fun ρ => match ρ[i]? with
  | some s => match lstS s with
    | some _ => .ok (.d .none, ρ.set i (reS s []))
    | none => .no
  | none => .no
theorem de_clear (i : Nat) : De T E (tBM0 T.K "list" rClear (tVar i)) (clearE i) := by
  intro B G0 H0 ρ σ G H I
  unfold clearE
  cases e : ρ[i]? with
  | none => exact Pt.no
  | some s =>
    dsimp only
    cases l : lstS s with
    | none => exact Pt.no
    | some xs =>
      refine Pt.ok fun Q q => ?_
      obtain ⟨a, vs, h1, h2, h3, _, r, up⟩ := I.lst e l
      exact ⟨.ref a, h1, .inl ⟨rfl, vs, SqL.of h2⟩, a, vs, rfl, rfl, h2, q _ G _ (up [] [] .nil) (Same.refl _) (vok_d .non)⟩
/-- x[k] = e -/
def ixPos (n : Nat) (k : Int) : Option Nat := if 0 ≤ k then (if k < n then some k.toNat else none) else if -(n : Int) ≤ k then some (k + n).toNat else none
def setK (i : Nat) (x : D) : Pv → M Out := fun p ρ => match rdP ρ p, ρ[i]? with
  | some (.int k), some s => match lstS s with
    | some xs => match ixPos xs.length k with
      | some m => .ok (.nx, ρ.set i (reS s (xs.set m x)))
      | none => .no
    | none => .no
  | _, _ => .no
def setM (i : Nat) (fk : M Pv) (f : M Slot) : M Out := bd (sE f) fun x ρ => match ρ[i]? with
  | some s0 => if s0.isL then bd fk (setK i x) ρ else .no
  | none => .no
theorem ds_set {te tk : TE} {f : M Slot} {fk : M Pv} (i : Nat) (h : De T E te f) (hk : Dk T E tk fk) : Ds T E (tAsg te (gSub (tVar i) tk rSetL)) (setM i fk f) := by
  refine ds_iff.mpr fun B G0 H0 ρ σ G H I => ?_
  refine Ps.bd (t := te σ) (u := fun w H1 Z => tVar i σ H1 fun o H2 => tk σ H2 fun k H3 => rSetL o k w H3 fun H4 => Z.nx σ H4) (dd_of h B G0 H0 ρ σ G H I) fun x ρ1 w G1 H1 _ I1 k1 r1 => ?_
  cases e0 : ρ1[i]? with
  | none => exact Ps.no
  | some s0 =>
    dsimp only
    split
    · rename_i hl
      obtain ⟨xs0, l0⟩ := isL_lst hl
      obtain ⟨a, vs0, h1, h2, _⟩ := I1.lst e0 l0
      refine Ps.q.mpr fun Z q => ⟨.ref a, h1, ?_⟩
      refine Ps.q.mp (Ps.bd (T := T) (E := E) (B := B) (G0 := G0) (H0 := H0) (t := tk σ) (u := fun k H3 Z => rSetL (.ref a) k w H3 fun H4 => Z.nx σ H4) (hk B G0 H0 ρ1 σ G1 H1 I1) (k := setK i x) fun p ρ2 kv G2 H2 _ I2 k2 r2 => ?_) Z q
      unfold setK
      split
      · rename_i k s e1 e2
        cases l : lstS s with
        | none => exact Ps.no
        | some xs =>
          dsimp only
          cases o : ixPos xs.length k with
          | none => exact Ps.no
          | some m =>
            intro Z q
            obtain ⟨a', vs, h3, h4, h5, _, r, up⟩ := I2.lst e2 l
            rw [h1] at h3
            cases h3
            exact ⟨a, vs, k, m, rfl, (I2.pk r2 e1).int, h4, by rw [r.len]; exact o, q σ G2 _ (up _ _ (r.set (r1.mono k2) m)) (Same.refl _)⟩
      · exact Ps.no
    · exact Ps.no
/-! ### several names at once -/
inductive VsOk (T : Kt) (H0 : Hp) (ρ : Ev) (σ : L2.St) (G H : Hp) : List V → List Slot → Prop
  | nil : VsOk T H0 ρ σ G H [] []
  | cons {v : V} {s : Slot} {vs : List V} {ss : List Slot} : VOk T H0 ρ σ G H v s → VsOk T H0 ρ σ G H vs ss → (s.own = true → ∀ (k : Nat) u, ss[k]? = some u → u.own = true → vs[k]? ≠ some v) → VsOk T H0 ρ σ G H (v :: vs) (s :: ss)
abbrev rVs (T : Kt) : Rl (List Slot) (List V) := fun H0 ρ σ G H vs ss => VsOk T H0 ρ σ G H vs ss
abbrev Dv (T : Kt) (E : XK) (t : TA) (f : M (List Slot)) : Prop := Dq T E (rVs T) t f
def nilV : M (List Slot) := ret []
def consV (f : M Slot) (g : M (List Slot)) : M (List Slot) := bd f fun s => bd g fun ss => ret (s :: ss)
theorem dv_nil : Dv T E tNil nilV := by
  intro B G0 H0 ρ σ G H I
  exact Pt.ok fun Q q => q [] G H I (Same.refl _) .nil
/-- an own thing in the hand -/
theorem own_thing {v : V} {s : Slot} (h : SlotOk T none H0 G H v s) (o : s.own = true) : ∃ a u, v = .ref a ∧ H a = some u ∧ G a = none ∧ H0 a = none ∧ NTb u := by
  cases s with
  | un => cases o
  | d x => cases o
  | o xs => obtain ⟨a, vs, e, h1, h2, h3, _⟩ := h; exact ⟨a, _, e, h1, h2, h3, ntb_lst⟩
  | b xs => obtain ⟨a, vs, _, z, _⟩ := h; cases z
  | j c ds => obtain ⟨a, dx, fs, _, z, _⟩ := h; cases z
  | t kvs =>
    obtain ⟨a, xs, e, h1, h2, h3, _⟩ := h
    obtain ⟨u, eu, nu⟩ := h1.ntb
    exact ⟨a, u, e, eu, h2, h3, nu⟩
theorem slot_keep {a : Addr} {s : Slot} (k : Same G G') (e : H' a = H a) (hg : G' a = none) (h : SlotOk T none H0 G H (.ref a) s) (o : s.own = true) : SlotOk T none H0 G' H' (.ref a) s := by
  cases s with
  | un => cases o
  | d x => cases o
  | o xs =>
    obtain ⟨b, vs, eb, h1, h2, h3, r⟩ := h
    cases eb
    exact ⟨a, vs, rfl, by rw [e]; exact h1, hg, h3, r.mono k⟩
  | b xs => obtain ⟨a, vs, _, z, _⟩ := h; cases z
  | j c ds => obtain ⟨a, dx, fs, _, z, _⟩ := h; cases z
  | t kvs =>
    obtain ⟨b, xs, eb, h1, h2, h3, r⟩ := h
    cases eb
    exact ⟨a, xs, rfl, by rw [e]; exact h1, hg, h3, Paired.mono r fun _ _ z => z.mono k⟩
theorem slot_unpin {a : Addr} {o : HO} {v : V} {s : Slot} (h0 : H0 a = none) (h : SlotOk T none (upd H0 a o) G H v s) : SlotOk T none H0 G H v s := by
  have dn : ∀ {b}, upd H0 a o b = none → H0 b = none := fun {b} e => by
    by_cases hb : b = a
    · rw [hb]; exact h0
    · rw [upd_ne hb] at e; exact e
  cases s with
  | un => trivial
  | d x => exact h
  | o xs => obtain ⟨b, vs, e, h1, h2, h3, r⟩ := h; exact ⟨b, vs, e, h1, h2, dn h3, r⟩
  | b xs => exact h
  | j c ds => exact h
  | t kvs => obtain ⟨b, xs, e, h1, h2, h3, r⟩ := h; exact ⟨b, xs, e, h1, h2, dn h3, r⟩
theorem vs_unpin {a : Addr} {o : HO} (h0 : H0 a = none) : ∀ {vs : List V} {ss : List Slot}, VsOk T (upd H0 a o) ρ σ G H vs ss → VsOk T H0 ρ σ G H vs ss ∧ ∀ (k : Nat) u, ss[k]? = some u → u.own = true → vs[k]? ≠ some (.ref a)
  | _, _, .nil => ⟨.nil, fun k u e => by simp at e⟩
  | _, _, .cons h r ap => by
    obtain ⟨r1, r2⟩ := vs_unpin h0 r
    refine ⟨.cons ⟨slot_unpin h0 h.1, h.2⟩ r1 ap, fun k u e ou z => ?_⟩
    cases k with
    | zero =>
      simp at e z
      subst e z
      obtain ⟨b, w, eb, _, _, h3, _⟩ := own_thing h.1 ou
      cases eb
      rw [upd_same] at h3
      cases h3
    | succ k => exact r2 k u (by simpa using e) ou (by simpa using z)
theorem dv_cons {t : TE} {u : TA} {f : M Slot} {g : M (List Slot)} (ht : De T E t f) (hu : Dv T E u g) : Dv T E (tCons t u) (consV f g) := by
  intro B G0 H0 ρ σ G H I
  refine Pt.bd (t := t σ) (u := fun x H1 (Q : List V → Hp → Prop) => u σ H1 fun xs H2 => Q (x :: xs) H2) (ht B G0 H0 ρ σ G H I) fun s ρ1 v G1 H1 _ I1 k1 r1 => ?_
  cases os : s.own with
  | false =>
    refine Pt.bd (t := u σ) (u := fun xs H2 (Q : List V → Hp → Prop) => Q (v :: xs) H2) (hu B G0 H0 ρ1 σ G1 H1 I1) fun ss ρ2 vs G2 H2 _ I2 k2 r2 => ?_
    refine Pt.ok fun Q q => q _ G2 H2 I2 (Same.refl _) (.cons ⟨?_, r1.2.1, fun z => by rw [os] at z; cases z⟩ r2 fun z => by rw [os] at z; cases z)
    cases s with
    | un => exact absurd rfl r1.2.1
    | d x => exact Rp.mono k2 r1.1
    | o xs => cases os
    | b xs => cases os
    | j c ds => cases os
    | t kvs => cases os
  | true =>
    obtain ⟨a, o, rfl, ha, hg, h0, nt⟩ := own_thing r1.1 os
    have J := I1.pin ha hg h0 (r1.2.2 os) nt
    refine Pt.q.mpr fun Q q => ?_
    refine Pt.q.mp (hu B G0 (upd H0 a o) ρ1 σ G1 H1 J) _ ?_
    unfold DL.bd at q
    cases e : g ρ1 with
    | no => rw [e] at q; exact q
    | exc c x => rw [e] at q; exact XW.pin q h0
    | ok z =>
      obtain ⟨ss, ρ2⟩ := z
      rw [e] at q
      intro vs G2 H2 J2 k2 r2
      obtain ⟨I2, ha2, hg2, no2⟩ := J2.unpin h0 (I1.nob h0) (I1.g0 hg) nt
      obtain ⟨r3, r4⟩ := vs_unpin h0 r2
      exact q _ G2 H2 I2 k2 (.cons ⟨slot_keep k2 (by rw [ha2, ha]) hg2 r1.1 os, r1.2.1, fun _ => no2⟩ r3 fun _ => r4)
theorem vs2 {vs : List V} {ss : List Slot} {s1 s2 : Slot} (h : VsOk T H0 ρ σ G H vs ss) (e : ss = [s1, s2]) : ∃ v w, vs = [v, w] ∧ VOk T H0 ρ σ G H v s1 ∧ VOk T H0 ρ σ G H w s2 ∧ (s1.own = true → s2.own = true → w ≠ v) := by
  subst e
  cases h with
  | cons h1 r ap =>
    cases r with
    | cons h2 r _ =>
      cases r
      exact ⟨_, _, rfl, h1, h2, fun o1 o2 z => ap o1 0 s2 rfl o2 (by rw [z]; rfl)⟩
/-- another result in the hand while a name is stored -/
theorem vok_put {i : Nat} {v w : V} {s u : Slot} (hi : i < σ.length) (h : VOk T H0 ρ σ G H w u) (ne : s.own = true → u.own = true → w ≠ v) : VOk T H0 (ρ.set i s) (σ.set i (some v)) G H w u := by
  refine ⟨h.1, h.2.1, fun ou k z e oz y => ?_⟩
  by_cases hk : k = i
  · subst hk
    rw [List.getElem?_set_self'] at e
    rw [List.getElem?_set_self hi] at y
    cases q : ρ[k]? with
    | none => rw [q] at e; cases e
    | some z0 =>
      rw [q] at e
      cases e
      cases y
      exact ne oz ou rfl
  · rw [List.getElem?_set_ne (Ne.symm hk)] at e y
    exact h.2.2 ou k z e oz y
def parM (i j : Nat) (f : M (List Slot)) : M Out := bd f fun ss ρ => match ss with
  | [s1, s2] => if i < ρ.length ∧ j < ρ.length then .ok (.nx, (ρ.set i s1).set j s2) else .no
  | _ => .no
theorem ds_par {ta : TA} {f : M (List Slot)} (i j : Nat) (h : Dv T E ta f) : Ds T E (tPar i j ta) (parM i j f) := by
  refine ds_iff.mpr fun B G0 H0 ρ σ G H I => ?_
  refine Ps.bd (t := ta σ) (u := fun vs H1 Z => ∃ v w, vs = [v, w] ∧ Z.nx ((σ.set i (some v)).set j (some w)) H1) (h B G0 H0 ρ σ G H I) fun ss ρ1 vs G1 H1 e0 I1 k1 r1 => ?_
  split
  · rename_i s1 s2
    split
    · rename_i hij
      intro Z q
      obtain ⟨v, w, rfl, h1, h2, ap⟩ := vs2 r1 rfl
      have J := I1.put hij.1 h1
      have h2' := vok_put (i := i) (v := v) (s := s1) (by rw [← I1.ln]; exact hij.1) h2 ap
      exact ⟨v, w, rfl, q _ G1 H1 (J.put (by rw [List.length_set]; exact hij.2) h2') (Same.refl _)⟩
    · exact Ps.no
  · exact Ps.no
theorem vs3 {vs : List V} {ss : List Slot} {s1 s2 s3 : Slot} (h : VsOk T H0 ρ σ G H vs ss) (e : ss = [s1, s2, s3]) : ∃ u v w, vs = [u, v, w] ∧ VOk T H0 ρ σ G H u s1 ∧ VOk T H0 ρ σ G H v s2 ∧ VOk T H0 ρ σ G H w s3 ∧ (s1.own = true → s2.own = true → v ≠ u) ∧ (s1.own = true → s3.own = true → w ≠ u) ∧ (s2.own = true → s3.own = true → w ≠ v) := by
  subst e
  cases h with
  | cons h1 r ap =>
    obtain ⟨v, w, rfl, h2, h3, ap2⟩ := vs2 r rfl
    exact ⟨_, v, w, rfl, h1, h2, h3, fun o1 o2 z => ap o1 0 s2 rfl o2 (by rw [z]; rfl), fun o1 o2 z => ap o1 1 s3 rfl o2 (by rw [z]; rfl), ap2⟩
def par3M (i j l : Nat) (f : M (List Slot)) : M Out := bd f fun ss ρ => match ss with
  | [s1, s2, s3] => if i < ρ.length ∧ j < ρ.length ∧ l < ρ.length then .ok (.nx, ((ρ.set i s1).set j s2).set l s3) else .no
  | _ => .no
theorem ds_par3 {ta : TA} {f : M (List Slot)} (i j l : Nat) (h : Dv T E ta f) : Ds T E (tPar3 i j l ta) (par3M i j l f) := by
  refine ds_iff.mpr fun B G0 H0 ρ σ G H I => ?_
  refine Ps.bd (t := ta σ) (u := fun vs H1 Z => ∃ u v w, vs = [u, v, w] ∧ Z.nx (((σ.set i (some u)).set j (some v)).set l (some w)) H1) (h B G0 H0 ρ σ G H I) fun ss ρ1 vs G1 H1 e0 I1 k1 r1 => ?_
  split
  · rename_i s1 s2 s3
    split
    · rename_i hij
      intro Z q
      obtain ⟨u, v, w, rfl, h1, h2, h3, ap1, ap2, ap3⟩ := vs3 r1 rfl
      have li : i < σ.length := by rw [← I1.ln]; exact hij.1
      have J := I1.put hij.1 h1
      have h2' := vok_put (i := i) (v := u) (s := s1) li h2 ap1
      have h3' := vok_put (i := i) (v := u) (s := s1) li h3 ap2
      have J2 := J.put (by rw [List.length_set]; exact hij.2.1) h2'
      have h3'' := vok_put (i := j) (v := v) (s := s2) (by rw [List.length_set, ← I1.ln]; exact hij.2.1) h3' ap3
      exact ⟨u, v, w, rfl, q _ G1 H1 (J2.put (by rw [List.length_set, List.length_set]; exact hij.2.2) h3'') (Same.refl _)⟩
    · exact Ps.no
  · exact Ps.no
/-! ### a name += e -/
def augM (i : Nat) (op : D → D → Option Slot) (f : M Slot) : M Out := fun ρ => match ρ[i]? with
  | some (.d x) => bd (sE f) (fun y ρ => match op x y with
    | some s => if i < ρ.length then .ok (.nx, ρ.set i s) else .no
    | none => .no) ρ
  | _ => .no
end
end DL
/-! NCFun3: things lent to defs, objects made, methods, keywords, of the data layer. -/
namespace DL
open PySem PySem.Spec PyProof.Rows L2
section
variable {T : Kt} {B : Option Addr} {G0 H0 G H G' H' : Hp} {ρ : Ev} {σ : L2.St} {E : XK}
/-! ### arguments, one of them a name that is lent -/
inductive Ag where
  | d (x : D)
  | r (i : Nat)
def AgOk (T : Kt) (σ : L2.St) (G : Hp) (v : V) : Ag → Prop
  | .d x => Rp T G v x
  | .r i => σ[i]? = some (some v)
abbrev rAg (T : Kt) : Rl (List Ag) (List V) := fun _ _ σ G _ vs as => Paired (AgOk T σ G) vs as
abbrev Dr (T : Kt) (E : XK) (t : TA) (f : M (List Ag)) : Prop := Dq T E (rAg T) t f
def nilR : M (List Ag) := ret []
def consR (f : M Slot) (g : M (List Ag)) : M (List Ag) := bd (sE f) fun x => bd g fun xs => ret (.d x :: xs)
def refR (i : Nat) (g : M (List Ag)) : M (List Ag) := bd (vK i) fun _ => bd g fun xs => ret (.r i :: xs)
theorem AgOk.mono {v : V} {a : Ag} (k : Same G G') (h : AgOk T σ G v a) : AgOk T σ G' v a := by
  cases a with
  | d x => exact Rp.mono k h
  | r i => exact h
theorem dr_nil : Dr T E tNil nilR := by
  intro B G0 H0 ρ σ G H I
  exact Pt.ok fun Q q => q [] G H I (Same.refl _) .nil
theorem dr_cons {t : TE} {u : TA} {f : M Slot} {g : M (List Ag)} (ht : De T E t f) (hu : Dr T E u g) : Dr T E (tCons t u) (consR f g) := by
  intro B G0 H0 ρ σ G H I
  refine Pt.bd (t := t σ) (u := fun x H1 (Q : List V → Hp → Prop) => u σ H1 fun xs H2 => Q (x :: xs) H2) (dd_of ht B G0 H0 ρ σ G H I) fun x ρ1 v G1 H1 _ I1 k1 r1 => ?_
  refine Pt.bd (t := u σ) (u := fun xs H2 (Q : List V → Hp → Prop) => Q (v :: xs) H2) (hu B G0 H0 ρ1 σ G1 H1 I1) fun xs ρ2 vs G2 H2 _ I2 k2 r2 => ?_
  exact Pt.ok fun Q q => q _ G2 H2 I2 (Same.refl _) (.cons (r1.mono k2) r2)
theorem dr_ref {u : TA} {g : M (List Ag)} (i : Nat) (hu : Dr T E u g) : Dr T E (tCons (tVar i) u) (refR i g) := by
  intro B G0 H0 ρ σ G H I
  refine Pt.bd (t := tVar i σ) (u := fun x H1 (Q : List V → Hp → Prop) => u σ H1 fun xs H2 => Q (x :: xs) H2) (dk_var i B G0 H0 ρ σ G H I) fun p ρ1 v G1 H1 e0 I1 k1 r1 => ?_
  have hp : σ[i]? = some (some v) := by
    unfold vK at e0
    split at e0
    · cases e0
    · cases e0
    · cases e0; exact r1
  refine Pt.bd (t := u σ) (u := fun xs H2 (Q : List V → Hp → Prop) => Q (v :: xs) H2) (hu B G0 H0 ρ1 σ G1 H1 I1) fun xs ρ2 vs G2 H2 _ I2 k2 r2 => ?_
  exact Pt.ok fun Q q => q _ G2 H2 I2 (Same.refl _) (.cons hp r2)
def lend : Slot → Option Slot
  | .o xs => some (.b xs)
  | .b xs => some (.b xs)
  | .j c ds => some (.j c ds)
  | _ => none
def give : Slot → Slot → Option Slot
  | .o _, .b xs => some (.o xs)
  | .b _, .b xs => some (.b xs)
  | .j c _, .j c' ds => if c == c' then some (.j c ds) else none
  | _, _ => none
def agsS (ρ : Ev) : List Ag → Option (List Slot × Option Nat)
  | [] => some ([], none)
  | .d x :: as => match agsS ρ as with
    | some (ss, r) => some (.d x :: ss, r)
    | none => none
  | .r i :: as => match agsS ρ as, ρ[i]? with
    | some (ss, none), some s => match lend s with
      | some l => some (l :: ss, some i)
      | none => none
    | _, _ => none
def lentE (g : Mir) (f : M (List Ag)) : M Slot := bd f fun as ρ => match agsS ρ as with
  | some (ss, none) => match g ss with
    | .ok (s, _) => .ok (s, ρ)
    | .exc c x => .exc c x
    | .no => .no
  | some (ss, some i) => match g ss, ρ[i]? with
    | .ok (s, s'), some s0 => match give s0 s' with
      | some z => .ok (s, ρ.set i z)
      | none => .no
    | .exc c x, _ => .exc c x
    | _, _ => .no
  | none => .no
theorem agsS_ok (I : SI T B G0 H0 ρ σ G H) : ∀ {vs : List V} {as : List Ag} {ss : List Slot} {r : Option Nat}, Paired (AgOk T σ G) vs as → agsS ρ as = some (ss, r) → (r = none ∧ ArgOk T G H none vs ss) ∨ ∃ i a s0, r = some i ∧ ρ[i]? = some s0 ∧ (∃ l, lend s0 = some l) ∧ σ[i]? = some (some (.ref a)) ∧ ArgOk T G H (some a) vs ss
  | _, _, _, _, .nil, e => by cases e; exact .inl ⟨rfl, .nil⟩
  | _, .d x :: as, ss, r, .cons h rest, e => by
    unfold agsS at e
    split at e
    · rename_i ss' r' e1
      cases e
      rcases agsS_ok I rest e1 with ⟨rfl, z⟩ | ⟨i, a, s0, er, h1, h2, h3, z⟩
      · exact .inl ⟨rfl, .d h z⟩
      · exact .inr ⟨i, a, s0, er, h1, h2, h3, .d h z⟩
    · cases e
  | _, .r i :: as, ss, r, .cons h rest, e => by
    unfold agsS at e
    split at e
    · rename_i ss' s0 e1 e2
      split at e
      · rename_i l el
        cases e
        rcases agsS_ok I rest e1 with ⟨_, z⟩ | ⟨i', a, s1, er, _⟩
        · obtain ⟨w, h1, h2⟩ := I.sl i s0 e2 (fun q => by subst q; cases el)
          have hw : σ[i]? = some (some _) := h
          rw [h1] at hw
          cases hw
          cases s0 with
          | un => cases el
          | d x => cases el
          | o xs =>
            cases el
            obtain ⟨a, ws, rfl, h3, h4, h5, r⟩ := h2
            exact .inr ⟨i, a, _, rfl, e2, ⟨_, rfl⟩, h1, .b h3 h4 r z⟩
          | b xs =>
            cases el
            obtain ⟨a, ws, rfl, hB, h3, r⟩ := h2
            exact .inr ⟨i, a, _, rfl, e2, ⟨_, rfl⟩, h1, .b h3 (I.bg a hB).1 r z⟩
          | j c ds =>
            cases el
            obtain ⟨a, dx, fs, rfl, hB, ik, h3, h4, r⟩ := h2
            exact .inr ⟨i, a, _, rfl, e2, ⟨_, rfl⟩, h1, .j ik h3 (I.bg a hB).1 h4 r z⟩
          | t kvs => cases el
        · cases er
      · cases e
    · cases e
/-- the thing lent comes back -/
theorem SI.back (I : SI T B G0 H0 ρ σ G H) {i : Nat} {a : Addr} {s0 s' z : Slot} (e : ρ[i]? = some s0) (hl : ∃ l, lend s0 = some l) (hσ : σ[i]? = some (some (.ref a))) (k1 : Same G G') (k2 : Same G' H') (k3 : ∀ b o, H b = some o → some a ≠ some b → Na T b → H' b = some o) (k4 : ∀ b, G' b ≠ none → G b ≠ none ∨ H b = none ∨ CodeAt (G' b)) (tt : LamX.Tabs T.tbs H')
    (bk : BackOk T (some a) G' H' s') (hg : give s0 s' = some z) : SI T B G0 H0 (ρ.set i z) σ G' H' := by
  obtain ⟨l, hl⟩ := hl
  have os : s0.own = true := by cases s0 <;> first | rfl | cases hl
  obtain ⟨w, h1, h2⟩ := I.sl i s0 e (fun q => by subst q; cases hl)
  rw [hσ] at h1
  cases h1
  obtain ⟨o0, ho0⟩ : ∃ o, H a = some o := by
    cases s0 with
    | un => cases hl
    | d x => cases hl
    | o xs => obtain ⟨b, vs, eb, h3, _⟩ := h2; cases eb; exact ⟨_, h3⟩
    | b xs => obtain ⟨b, vs, eb, _, h3, _⟩ := h2; cases eb; exact ⟨_, h3⟩
    | j c ds => obtain ⟨b, dx, fs, eb, _, _, h3, _⟩ := h2; cases eb; exact ⟨_, h3⟩
    | t kvs => cases hl
  have ga : G' a = none := by
    cases s' with
    | b xs => obtain ⟨b, vs, eb, h3, _⟩ := bk; cases eb; exact h3
    | j c ds => obtain ⟨b, dx, fs, eb, h3, _⟩ := bk; cases eb; exact h3
    | un => cases s0 <;> cases hg
    | d _ => cases s0 <;> cases hg
    | o _ => cases s0 <;> cases hg
    | t _ => cases s0 <;> cases hg
  have oT : ∃ o, H' a = some o ∧ NTb o := by
    cases s' with
    | b xs => obtain ⟨b, vs, eb, _, h3, _⟩ := bk; cases eb; exact ⟨_, h3, ntb_lst⟩
    | j c ds => obtain ⟨b, dx, fs, eb, _, h3, _⟩ := bk; cases eb; exact ⟨_, h3, ntb_ins⟩
    | un => cases s0 <;> cases hg
    | d _ => cases s0 <;> cases hg
    | o _ => cases s0 <;> cases hg
    | t _ => cases s0 <;> cases hg
  obtain ⟨oT, hoT, nT⟩ := oT
  have J := I.alT (G' := G') (H' := upd H' a o0) k1 (fun b o q => by
      rw [upd_ne (fun z => by rw [z, ga] at q; cases q)]; exact k2 b o q) (fun b o q na => by
      by_cases hb : b = a
      · rw [hb, upd_same]; rw [hb, ho0] at q; exact q
      · rw [upd_ne hb]; exact k3 b o q (fun z => hb (Option.some.inj z).symm) na) k4 (tabs_upd tt hoT nT)
  have eq : ∀ o, H' a = some o → upd (upd H' a o0) a o = H' := fun o q => by
    rw [upd_upd]
    funext b
    by_cases hb : b = a
    · rw [hb, upd_same, q]
    · rw [upd_ne hb]
  obtain ⟨w2, h3, h4⟩ := J.sl i s0 e (fun q => by subst q; cases hl)
  rw [hσ] at h3
  cases h3
  cases s0 with
  | un => cases hl
  | d x => cases hl
  | o xs =>
    cases s' with
    | b ys =>
      cases hg
      obtain ⟨b, vs, eb, _, hb, r⟩ := bk
      cases eb
      obtain ⟨b, vs0, eb, _, _, h0, _⟩ := h4
      cases eb
      have := J.wr e os hσ ga (.inr h0) (s' := .o ys) (o := .lst vs) ⟨a, vs, rfl, upd_same, ga, h0, r⟩ rfl
      rw [eq _ hb] at this
      exact this
    | un => cases hg
    | d _ => cases hg
    | o _ => cases hg
    | j _ _ => cases hg
    | t _ => cases hg
  | b xs =>
    cases s' with
    | b ys =>
      cases hg
      obtain ⟨b, vs, eb, _, hb, r⟩ := bk
      cases eb
      obtain ⟨b, vs0, eb, hB, _⟩ := h4
      cases eb
      have := J.wr e os hσ ga (.inl hB) (s' := .b ys) (o := .lst vs) ⟨a, vs, rfl, hB, upd_same, r⟩ rfl
      rw [eq _ hb] at this
      exact this
    | un => cases hg
    | d _ => cases hg
    | o _ => cases hg
    | j _ _ => cases hg
    | t _ => cases hg
  | j c ds =>
    cases s' with
    | j c' ds' =>
      have hg' : (if (c == c') = true then some (Slot.j c ds') else none) = some z := hg
      split at hg'
      · rename_i hc
        cases hg'
        have hc' : c = c' := by simpa using hc
        subst hc'
        obtain ⟨b, dx, fs, eb, _, hb, hm, r⟩ := bk
        cases eb
        obtain ⟨b, dx0, fs0, eb, hB, ik, _⟩ := h4
        cases eb
        have := J.wr e os hσ ga (.inl hB) (s' := .j c ds') (o := .ins _ dx fs) ⟨a, dx, fs, rfl, hB, ik, upd_same, hm, r⟩ rfl
        rw [eq _ hb] at this
        exact this
      · cases hg'
    | un => cases hg
    | d _ => cases hg
    | o _ => cases hg
    | b _ => cases hg
    | t _ => cases hg
  | t kvs => cases hl
theorem SI.xlent (I : SI T B G0 H0 ρ σ G H) {i : Nat} {a : Addr} {s0 : Slot} {c : Int} {x : D} (e : ρ[i]? = some s0) (hl : ∃ l, lend s0 = some l) (hσ : σ[i]? = some (some (.ref a))) (w : XW T B H0 E c x) : XW T (some a) (stripT T H) E c x := fun H' d v f n e' r tt => w H' d v (fun b o q nb => f b o (by rw [strip_na (I.na0 q)]; exact I.hh b o q nb) (fun z => by
    cases z
    obtain ⟨l, hl⟩ := hl
    obtain ⟨w, h1, h2⟩ := I.sl i s0 e (fun q => by subst q; cases hl)
    rw [hσ] at h1
    cases h1
    cases s0 with
    | un => cases hl
    | d x => cases hl
    | o xs => obtain ⟨b, vs, eb, _, _, h3, _⟩ := h2; cases eb; rw [q] at h3; cases h3
    | b xs => obtain ⟨b, vs, eb, h3, _⟩ := h2; cases eb; exact nb h3
    | j c ds => obtain ⟨b, dx, fs, eb, h3, _⟩ := h2; cases eb; exact nb h3
    | t kvs => cases hl)) (I.h0s n) e' r tt
theorem noown_al {u : V} {s : Slot} (I : SI T B G0 H0 ρ σ G H) (J : SI T B G0 H0 (ρ.set i z) σ G' H') (e : ρ[i]? = some s0) (o0 : s0.own = true) (rn : RNew T H G' H' u s) : VOk T H0 (ρ.set i z) σ G' H' u s := by
  refine ⟨(I.vok rn).1, (I.vok rn).2.1, fun os k y ek oy q => ?_⟩
  have hu : ∃ p, u = .ref p ∧ H p = none := by
    cases s with
    | un => exact rn.elim
    | d x => cases os
    | o xs => obtain ⟨p, vs, e, n, _⟩ := rn; exact ⟨p, e, n⟩
    | b xs => exact rn.elim
    | j c ds => exact rn.elim
    | t kvs => obtain ⟨p, xs, e, n, _⟩ := rn; exact ⟨p, e, n⟩
  obtain ⟨p, rfl, n⟩ := hu
  by_cases hk : k = i
  · subst hk
    exact I.noown n k s0 e o0 q
  · rw [List.getElem?_set_ne (Ne.symm hk)] at ek
    exact I.noown n k y ek oy q
theorem lent_ok {n : Nat} {g : Mir} {vs : List V} {as : List Ag} (hl : vs.length = n) (I : SI T B G0 H0 ρ σ G H) (r : Paired (AgOk T σ G) vs as) : Pt T E (rV T) B G0 H0 σ G H (fun H (Q : VK) => dSp T n g vs H Q E) (match agsS ρ as with
  | some (ss, none) => match g ss with
    | .ok (s, _) => .ok (s, ρ)
    | .exc c x => .exc c x
    | .no => .no
  | some (ss, some i) => match g ss, ρ[i]? with
    | .ok (s, s'), some s0 => match give s0 s' with
      | some z => .ok (s, ρ.set i z)
      | none => .no
    | .exc c x, _ => .exc c x
    | _, _ => .no
  | none => .no) := by
  cases ea : agsS ρ as with
  | none => exact Pt.no
  | some z =>
    obtain ⟨ss, ri⟩ := z
    rcases agsS_ok I r ea with ⟨rfl, ha⟩ | ⟨i, a, s0, rfl, e0, hle, hσ, ha⟩
    · refine Pt.q.mpr fun Q q => ⟨hl, I.tb.1, G, none, ss, I.gh, fun p hp => (I.tb.2 p hp).1, ha, ?_⟩
      revert q
      dsimp only
      cases g ss with
      | no => exact fun q => q
      | exc c x => exact fun q => I.xcall q
      | ok z =>
        obtain ⟨s, s'⟩ := z
        intro q v G' H' k1 k2 k3 k4 _ rn tt
        exact q v G' H' (I.alT k1 k2 (fun a o e => k3 a o e (fun z => by cases z)) k4 tt) k1 (I.vok rn)
    · refine Pt.q.mpr fun Q q => ⟨hl, I.tb.1, G, some a, ss, I.gh, fun p hp => (I.tb.2 p hp).1, ha, ?_⟩
      revert q
      dsimp only
      rw [e0]
      cases g ss with
      | no => exact fun q => q
      | exc c x => exact fun q => I.xlent e0 hle hσ q
      | ok z =>
        obtain ⟨s, s'⟩ := z
        dsimp only
        cases eg : give s0 s' with
        | none => exact fun q => q.elim
        | some z =>
          intro q v G' H' k1 k2 k3 k4 bk rn tt
          have J := I.back e0 hle hσ k1 k2 k3 k4 tt bk eg
          refine q v G' H' J k1 (noown_al I J e0 ?_ rn)
          obtain ⟨l, hl⟩ := hle
          cases s0 <;> first | rfl | cases hl
theorem de_lent {n : Nat} {g : Mir} {t : TA} {f : M (List Ag)} (h : Dr T E t f) (hn : ∀ ρ xs ρ', f ρ = .ok (xs, ρ') → xs.length = n) : De T E (tCall (dSp T n g) [] E t) (lentE g f) := by
  intro B G0 H0 ρ σ G H I
  refine Pt.bd (t := t σ) (u := fun vs H1 (Q : VK) => dSp T n g (vs ++ []) H1 Q E) (h B G0 H0 ρ σ G H I) fun as ρ1 vs G1 H1 e I1 k1 r1 => ?_
  rw [List.append_nil]
  refine lent_ok ?_ I1 r1
  rw [Paired.length r1]
  exact hn _ _ _ e
theorem lenR_nil : ∀ ρ xs ρ', nilR ρ = .ok (xs, ρ') → xs.length = 0 := fun ρ xs ρ' e => by cases e; rfl
theorem lenR_cons {f : M Slot} {g : M (List Ag)} {n : Nat} (h : ∀ ρ xs ρ', g ρ = .ok (xs, ρ') → xs.length = n) : ∀ ρ xs ρ', consR f g ρ = .ok (xs, ρ') → xs.length = n + 1 := fun ρ xs ρ' e => by
  unfold consR bd at e
  cases e1 : sE f ρ with
  | no => rw [e1] at e; cases e
  | exc c x => rw [e1] at e; cases e
  | ok z =>
    obtain ⟨x, ρ1⟩ := z
    rw [e1] at e
    dsimp only at e
    cases e2 : g ρ1 with
    | no => rw [e2] at e; cases e
    | exc c x => rw [e2] at e; cases e
    | ok z =>
      obtain ⟨ys, ρ2⟩ := z
      rw [e2] at e
      cases e
      exact congrArg (· + 1) (h _ _ _ e2)
theorem lenR_ref {i : Nat} {g : M (List Ag)} {n : Nat} (h : ∀ ρ xs ρ', g ρ = .ok (xs, ρ') → xs.length = n) : ∀ ρ xs ρ', refR i g ρ = .ok (xs, ρ') → xs.length = n + 1 := fun ρ xs ρ' e => by
  unfold refR bd at e
  cases e1 : vK i ρ with
  | no => rw [e1] at e; cases e
  | exc c x => rw [e1] at e; cases e
  | ok z =>
    obtain ⟨x, ρ1⟩ := z
    rw [e1] at e
    dsimp only at e
    cases e2 : g ρ1 with
    | no => rw [e2] at e; cases e
    | exc c x => rw [e2] at e; cases e
    | ok z =>
      obtain ⟨ys, ρ2⟩ := z
      rw [e2] at e
      cases e
      exact congrArg (· + 1) (h _ _ _ e2)
end
end DL
/-! NCDict: dicts with keys that are tuples, any values, of the data layer. -/
namespace DL
open PySem PySem.Spec PyProof.Rows L2
/-! ### keys -/
mutual
theorem key_is {T : Kt} {G H : Hp} {h : Heap} (ok : HOk T.P T.w H h) (g : Same G H) : ∀ {v : V} {d : D}, Rp T G v d → ∀ {k : NestedKey} {u : Value}, nk d = some k → RelV v u → NestedIs h k u
  | _, _, .non, k, u, e, r => by cases e; cases (show u = Value.none from r); exact .none
  | _, _, .bl b, k, u, e, r => by cases e; cases (show u = Value.bool b from r); exact .bool rfl
  | _, _, .int i, k, u, e, r => by
    cases e
    obtain ⟨t, rfl⟩ := r
    exact .int i t
  | _, _, .str x, k, u, e, r => by
    cases e
    obtain ⟨t, rfl⟩ := r
    exact .text x t
  | _, _, .lst _ _, k, u, e, r => by cases e
  | _, .tuple ds, .tup (a := a) (vs := vs) ha rr, k, u, e, r => by
    cases (show u = Value.ref a from r)
    unfold nk at e
    split at e
    · rename_i ks e1
      cases e
      obtain ⟨_, its, rv, o, h1, h2, n, h3⟩ := (show ObjOk T.P T.w H h a (.tup vs) from ok a _ (g _ _ ha))
      exact .tup h1 h2 h3 (by simpa using keys_is ok g rr e1 rv)
    · cases e
  | _, _, .ins _ _ _ _, k, u, e, r => by cases e
  | _, _, .fn _ _, k, u, e, r => by cases e
  | _, _, .scr _ _, k, u, e, r => by cases e
  | _, _, .dct _, k, u, e, r => by cases e
  | _, _, .tab _ _, k, u, e, r => by cases e
theorem keys_is {T : Kt} {G H : Hp} {h : Heap} (ok : HOk T.P T.w H h) (g : Same G H) : ∀ {vs : List V} {ds : List D}, RpL T G vs ds → ∀ {ks : List NestedKey} {us : List Value}, nkL ds = some ks → Vals vs us → NestedAll h ks us
  | _, _, .nil, ks, us, e, r => by
    cases e
    cases r
    exact .nil
  | _, d :: ds, .cons hd rr, ks, us, e, r => by
    unfold nkL at e
    split at e
    · rename_i k ks' e1 e2
      cases e
      cases r with
      | cons r1 r2 => exact .cons (key_is ok g hd e1 r1) (keys_is ok g rr e2 r2)
    · cases e
end
/-- the key k stands at b -/
def KeyX (T : Kt) (H : Hp) (k : NestedKey) (b : Addr) : Prop := ∃ G d, Same G H ∧ Rp T G (.ref b) d ∧ keyD d = some k
theorem keyD_nk {d : D} {k : NestedKey} (e : keyD d = some k) : nk d = some k ∧ k.depth ≤ 8 := by
  unfold keyD at e
  split at e
  · split at e
    · rename_i ds ks e1
      split at e
      · rename_i hd
        cases e
        exact ⟨by unfold nk; rw [e1], hd⟩
      · cases e
    · cases e
  · cases e
theorem KeyX.is {T : Kt} {H : Hp} {h : Heap} {k : NestedKey} {b : Addr} (ok : HOk T.P T.w H h) (e : KeyX T H k b) : (nestedKind T.P T.w).is h k b := by
  obtain ⟨G, d, g, r, e⟩ := e
  obtain ⟨e1, e2⟩ := keyD_nk e
  exact ⟨key_is ok g r e1 rfl, e2⟩
theorem KeyX.mono {T : Kt} {H H' : Hp} {k : NestedKey} {b : Addr} (h : KeyX T H k b) (s : ∀ G, Same G H → ∃ G', Same G G' ∧ Same G' H') : KeyX T H' k b := by
  obtain ⟨G, d, g, r, e⟩ := h
  obtain ⟨G', g1, g2⟩ := s G g
  exact ⟨G', d, g2, r.mono g1, e⟩
/-! ### entries -/
def ents (xs : List XEnt) (vs : List Value) : List (NestedKey × Addr × Value) := (xs.zip vs).map fun z => (z.1.1, z.1.2.1, z.2)
theorem ents_keys {xs : List XEnt} {vs : List Value} (hl : xs.length = vs.length) : (ents xs vs).map (·.1) = xs.map (·.1) := by
  unfold ents
  rw [List.map_map]
  have : ((fun x : NestedKey × Addr × Value => x.1) ∘ fun z : XEnt × Value => (z.1.1, z.1.2.1, z.2)) = (fun x : XEnt => x.1) ∘ Prod.fst := rfl
  rw [this, ← List.map_map, List.map_fst_zip (by omega)]
theorem ents_length {xs : List XEnt} {vs : List Value} (hl : xs.length = vs.length) : (ents xs vs).length = xs.length := by
  unfold ents
  rw [List.length_map, List.length_zip]
  omega
def hasX (xs : List XEnt) (k : NestedKey) : Bool := xs.any fun x => decide (x.1 = k)
def putX (xs : List XEnt) (k : NestedKey) (a : Addr) (v : V) : List XEnt := if hasX xs k then xs.map (fun x => if x.1 = k then (x.1, x.2.1, v) else x) else xs ++ [(k, a, v)]
theorem at_ents (k : NestedKey) : ∀ {xs : List XEnt} {vs : List Value}, xs.length = vs.length → (atKey (ents xs vs) k).isSome = hasX xs k
  | [], _, _ => rfl
  | x :: xs, [], h => by simp at h
  | x :: xs, v :: vs, h => by
    have ih := at_ents k (xs := xs) (vs := vs) (by simpa using h)
    unfold atKey ents hasX at *
    rw [List.zip_cons_cons, List.map_cons, List.find?_cons, List.any_cons]
    by_cases e : x.1 = k
    · simp [e]
    · simp only [e, decide_false, Bool.false_or]
      exact ih
theorem get_ents {k : NestedKey} : ∀ {xs : List XEnt} {vs : List Value} {x : XEnt}, Vals (xs.map (·.2.2)) vs → xs.find? (fun x => decide (x.1 = k)) = some x → ∃ p, atKey (ents xs vs) k = some p ∧ RelV x.2.2 p.2
  | [], _, _, _, e => by simp at e
  | y :: xs, [], x, r, e => by cases r
  | y :: xs, v :: vs, x, r, e => by
    cases r with
    | cons r1 r2 =>
      unfold atKey ents
      rw [List.zip_cons_cons, List.map_cons, List.find?_cons]
      rw [List.find?_cons] at e
      by_cases c : y.1 = k
      · simp only [c, decide_true] at e ⊢
        cases e
        exact ⟨_, rfl, r1⟩
      · simp only [c, decide_false] at e ⊢
        obtain ⟨p, h1, h2⟩ := get_ents r2 e
        exact ⟨p, h1, h2⟩
theorem stored_ents {k : NestedKey} {a : Addr} {w : V} {u : Value} (ru : RelV w u) : ∀ {xs : List XEnt} {vs : List Value}, Vals (xs.map (·.2.2)) vs → ∃ vs', Vals ((putX xs k a w).map (·.2.2)) vs' ∧ storedH (ents xs vs) k a u = ents (putX xs k a w) vs' := by
  intro xs vs r
  have hl : xs.length = vs.length := by rw [← r.length, List.length_map]
  unfold storedH putX
  rw [at_ents k hl]
  split
  · have key : ∀ {xs : List XEnt} {vs : List Value}, Vals (xs.map (·.2.2)) vs → ∃ vs', Vals ((xs.map fun x => if x.1 = k then (x.1, x.2.1, w) else x).map (·.2.2)) vs' ∧ (ents xs vs).map (putAt k u) = ents (xs.map fun x => if x.1 = k then (x.1, x.2.1, w) else x) vs' := by
      intro xs
      induction xs with
      | nil => intro vs r; cases r; exact ⟨[], .nil, rfl⟩
      | cons x xs ih =>
        intro vs r
        cases r with
        | cons r1 r2 =>
          rename_i v vs
          obtain ⟨vs', h1, h2⟩ := ih r2
          by_cases c : x.1 = k
          · refine ⟨u :: vs', ?_, ?_⟩
            · rw [List.map_cons, List.map_cons, if_pos c]
              exact .cons ru h1
            · unfold ents at h2 ⊢
              rw [List.zip_cons_cons, List.map_cons, List.map_cons, List.map_cons, List.zip_cons_cons, List.map_cons, h2, if_pos c]
              unfold putAt
              rw [if_pos c]
          · refine ⟨v :: vs', ?_, ?_⟩
            · rw [List.map_cons, List.map_cons, if_neg c]
              exact .cons r1 h1
            · unfold ents at h2 ⊢
              rw [List.zip_cons_cons, List.map_cons, List.map_cons, List.map_cons, List.zip_cons_cons, List.map_cons, h2, if_neg c]
              unfold putAt
              rw [if_neg c]
    exact key r
  · refine ⟨vs ++ [u], ?_, ?_⟩
    · rw [List.map_append]
      exact r.append (.cons ru .nil)
    · unfold ents
      rw [List.zip_append hl, List.map_append]
      rfl
theorem putX_length {xs : List XEnt} {k : NestedKey} {a : Addr} {v : V} : (putX xs k a v).length ≤ xs.length + 1 := by
  unfold putX
  split
  · rw [List.length_map]; omega
  · rw [List.length_append]; exact Nat.le_refl _
section
variable {T : Kt} {H : Hp} {h : Heap} {a : Addr} {xs : List XEnt}
theorem isx_of (ok : HOk T.P T.w H h) (d : IsX T a xs (H a)) (hk : ∀ x ∈ xs, KeyX T H x.1 x.2.1) : (a == sysModules) = false ∧ xs.length ≤ sizeLine ∧ ∃ vs, Vals (xs.map (·.2.2)) vs ∧ h.DictOfH (nestedKind T.P T.w) a (ents xs vs) := by
  obtain ⟨o, e⟩ := d
  obtain ⟨⟨h1, hd, hz, vs, rv, es, ep, h2, h3, h4, h5⟩, _⟩ := (show ObjOk T.P T.w H h a (DictX T.P T.w a o xs) from ok a _ e)
  have hl : xs.length = vs.length := by rw [← rv.length, List.length_map]
  refine ⟨hd, hz, vs, rv, o, es, ep, h1, h2, h3, h4, fun x hx => ?_, by rw [ents_keys hl]; exact h5⟩
  unfold ents at hx
  obtain ⟨z, hz, rfl⟩ := List.mem_map.mp hx
  exact (hk z.1 (List.of_mem_zip hz).1).is ok
theorem isx_mut (d : IsX T a xs (H a)) : Mut (H a) := by
  obtain ⟨o, e⟩ := d
  rw [e]
  exact True.intro
theorem tabX_stay {P : Program} {w : World} {o : Obj} {g1 g2 : Heap} (t : TabX P w a o xs g1) (st : ∀ o, g1.get? a = some o → g2.get? a = some o) : TabX P w a o xs g2 := ⟨st _ t.1, t.2⟩
end
/-! ### the rules -/
def tXIn (T : Kt) (neg : Bool) (ty td : TE) : TE := fun σ H Q => ty σ H fun y H1 => td σ H1 fun x H2 => ∃ a b k xs, x = .ref a ∧ y = .ref b ∧ KeyX T H2 k b ∧ IsX T a xs (H2 a) ∧ (∀ z ∈ xs, KeyX T H2 z.1 z.2.1) ∧ Q (.bl (if neg then !hasX xs k else hasX xs k)) H2
def sXPut (T : Kt) (td ty tv : TE) : TS := fun D σ H => tv σ H fun v H1 => td σ H1 fun x H2 => ty σ H2 fun y H3 => ∃ a b k xs, x = .ref a ∧ y = .ref b ∧ KeyX T H3 k b ∧ IsX T a xs (H3 a) ∧ (∀ z ∈ xs, KeyX T H3 z.1 z.2.1) ∧ xs.length < sizeLine ∧
  ∀ ob, D.nx σ (upd H3 a (DictX T.P T.w a ob (putX xs k b v)))
def tXGet (T : Kt) (td ty : TE) : TE := fun σ H Q => td σ H fun x H1 => ty σ H1 fun y H2 => ∃ a b k xs z, x = .ref a ∧ y = .ref b ∧ KeyX T H2 k b ∧ IsX T a xs (H2 a) ∧ (∀ z ∈ xs, KeyX T H2 z.1 z.2.1) ∧ xs.find? (fun x => decide (x.1 = k)) = some z ∧ Q z.2.2 H2
section
variable {X : Cx} {T : Kt} {o i e value : Expr} {pos pos' tpos : Pos} {td ty tv : TE}
theorem pc_xin (hu : X.A.units + 64 < cLine) (hi : PE X i ty) (ho : PE X o td) (hP : X.prog = T.P := by rfl) (hw : X.w = T.w := by rfl) : PC X .In i o (tXIn T false ty td) := by
  refine ⟨fun pins s σ H Q I h => ?_⟩
  refine thn (hi.run pins s σ H _ I h) fun iv s1 ⟨y, H1, I1, ry, q1⟩ => thn (ho.run pins s1 σ H1 _ I1 q1) fun u s2 ⟨x, H2, I2, rx, a, b, k, xs, ex, ey, hk, d, hks, q2⟩ => ?_
  subst ex ey
  obtain rfl : u = Value.ref a := rx
  obtain rfl : iv = Value.ref b := ry
  have ok := I2.hok
  rw [hP, hw] at ok ⊢
  obtain ⟨hd, hz, vs, rv, dd⟩ := isx_of ok d hks
  have hl : xs.length = vs.length := by rw [← rv.length, List.length_map]
  refine wpAny_in_heap (NCNest.room8 hu) (hk.is ok) hd dd ?_
  rw [at_ents k hl]
  exact ⟨.bl (hasX xs k), H2, I2.tok _, rfl, q2⟩
theorem pc_xnotin (hu : X.A.units + 64 < cLine) (hi : PE X i ty) (ho : PE X o td) (hP : X.prog = T.P := by rfl) (hw : X.w = T.w := by rfl) : PC X .NotIn i o (tXIn T true ty td) := by
  refine ⟨fun pins s σ H Q I h => ?_⟩
  refine thn (hi.run pins s σ H _ I h) fun iv s1 ⟨y, H1, I1, ry, q1⟩ => thn (ho.run pins s1 σ H1 _ I1 q1) fun u s2 ⟨x, H2, I2, rx, a, b, k, xs, ex, ey, hk, d, hks, q2⟩ => ?_
  subst ex ey
  obtain rfl : u = Value.ref a := rx
  obtain rfl : iv = Value.ref b := ry
  have ok := I2.hok
  rw [hP, hw] at ok ⊢
  obtain ⟨hd, hz, vs, rv, dd⟩ := isx_of ok d hks
  have hl : xs.length = vs.length := by rw [← rv.length, List.length_map]
  refine wpAny_notIn_heap (NCNest.room8 hu) (hk.is ok) hd dd ?_
  rw [at_ents k hl]
  exact ⟨.bl (!hasX xs k), H2, I2.tok _, rfl, q2⟩
theorem ps_xput (hu : X.A.units + 64 < cLine) (ho : PE X o td) (hi : PE X i ty) (hv : PE X value tv) (hs : swapsWith value (some (.Subscript o i pos')) pos.line X.env = pure false) (hP : X.prog = T.P := by rfl) (hw : X.w = T.w := by rfl) :
    PS X (.Assign [.Subscript o i pos'] value pos) (sXPut T td ty tv) := by
  refine ⟨fun pins s σ H D I h => ?_⟩
  refine wpAny_Assign_Subscript (thn (hv.run pins s σ H _ I h) fun r s1 ⟨v, H1, I1, rv, q1⟩ => thn (ho.run pins s1 σ H1 _ I1 q1) fun u s2 ⟨x, H2, I2, rx, q2⟩ => thn (hi.run pins s2 σ H2 _ I2 q2) fun iv s3 ⟨y, H3, I3, ry, a, b, k, xs, ex, ey, hk, d, hks, hl, q3⟩ => ?_) hs
  subst ex ey
  obtain rfl : u = Value.ref a := rx
  obtain rfl : iv = Value.ref b := ry
  have ok : HOk T.P T.w H3 s3.heap := by rw [← hP, ← hw]; exact I3.hok
  obtain ⟨hd, hz, vs, rvs, dd⟩ := isx_of ok d hks
  have hl1 : xs.length = vs.length := by rw [← rvs.length, List.length_map]
  have hz2 : (ents xs vs).length ≤ sizeLine := by rw [ents_length hl1]; exact hz
  obtain ⟨vs', rv', est⟩ := stored_ents (k := k) (a := b) rv rvs
  have main : wpAny (model T.P T.w) X.A (setItem (.ref a) (.ref b) r) (fun _ => SP X pins D .next) X.xe s3 := by
    refine wpAny_setItem_heap (hsz := hz2) (NCNest.room8 hu) (hk.is ok) dd fun h' dd' hsb => ?_
    rw [est] at dd'
    obtain ⟨q, es, ep, hq, h2, h3, h4, _, h5⟩ := dd'
    have hl3 : (putX xs k b v).length = vs'.length := by rw [← rv'.length, List.length_map]
    rw [ents_keys hl3] at h5
    have hl2 : (putX xs k b v).length ≤ sizeLine := by have := putX_length (xs := xs) (k := k) (a := b) (v := v); omega
    have new : ObjOk X.prog X.w (upd H3 a (DictX T.P T.w a q (putX xs k b v))) h' a (DictX T.P T.w a q (putX xs k b v)) := ⟨⟨hq, hd, hl2, vs', rv', es, ep, h2, h3, h4, h5⟩, ⟨q, hq⟩, fun g1 g2 t st => tabX_stay t st⟩
    exact ⟨σ, _, d_write I3 (isx_mut d) hsb ⟨q, hq⟩ new, q3 q⟩
  rw [hP, hw]
  exact main
/-- {} -/
def tDNewX (T : Kt) : TE := fun _ H Q => ∀ p o, H p = none → Q (.ref p) (upd H p (DictX T.P T.w p o []))
theorem pe_dnewX {pos : Pos} : PE X (.Dict [] [] pos) (tDNewX T) := ⟨fun pins s σ H Q I h =>
  wpAny_Dict_empty ⟨.ref s.heap.objs.size, _, I.laid (a := s.heap.objs.size) (o := DictX T.P T.w s.heap.objs.size _ []) (t' := s.toks) (fun _ _ q => Heap.get?_push_of_some _ q) (Nat.le_refl _) ⟨⟨Heap.get?_push_size _ rfl, beq_eq_false_iff_ne.mpr (Ne.symm (Nat.ne_of_lt I.big)), Nat.zero_le _, [], .nil, #[], 0, ⟨rfl, rfl, rfl⟩, rfl, rfl, List.nodup_nil⟩, ⟨_, Heap.get?_push_size _ rfl⟩, fun g1 g2 t st => tabX_stay t st⟩, rfl, h _ _ (I.hok.fresh (Nat.le_refl _))⟩⟩
end
end DL
/-! NCDict2: dicts of the data layer: sorted(d), the rules by data. -/
namespace DL
open PySem PySem.Spec PyProof.Rows L2
theorem items_keysX {es : Array DictEntry} {ys : List (NestedKey × Addr × Value)} {acc : Array Value} (hs : es.size = ys.length) (hk : ∀ i (hi : i < es.size), ∃ y, ys[i]? = some y ∧ es[i].key = Value.ref y.2.1) (h : ItemsOf (fun i v => ∃ hi : i < es.size, v = es[i].key) acc es.size) : acc.toList = ys.map fun x => Value.ref x.2.1 := by
  refine List.ext_getElem? fun i => ?_
  rw [Array.getElem?_toList]
  by_cases hi : i < es.size
  · have hi2 : i < acc.size := by rw [h.1]; exact hi
    obtain ⟨hi3, e⟩ := h.2 i _ (Array.getElem?_eq_getElem hi2)
    obtain ⟨y, hy, hk⟩ := hk i hi
    rw [Array.getElem?_eq_getElem hi2, e, hk, List.getElem?_map, hy]
    rfl
  · have h1 : acc[i]? = none := by rw [Array.getElem?_eq_none]; rw [h.1]; omega
    rw [h1, List.getElem?_map, List.getElem?_eq_none (by omega)]
    rfl
/-- sorted(d): the keys, sorted -/
def rSortedX (T : Kt) : List V → Hp → VK → Prop := fun vs H Q => ∃ (a : Addr) (xs : List XEnt) (ds : List D), vs = [V.ref a] ∧ IsX T a xs (H a) ∧ (∀ z ∈ xs, KeyX T H z.1 z.2.1) ∧ DpAll T.K H (xs.map fun x => V.ref x.2.1) ds ∧ W.AllAlike ds ∧ W.Sortable ds ∧ (∀ d ∈ ds, d.depth ≤ 20) ∧
  ∀ (zs : List (V × D)) p, zs.Perm ((xs.map fun x => V.ref x.2.1).zip ds) → zs.Pairwise (fun a b => ltD b.2 a.2 = false) → H p = none → Q (.ref p) (upd H p (.lst (zs.map (·.1))))
theorem vals_refs : ∀ as : List Addr, Vals (as.map V.ref) (as.map Value.ref)
  | [] => .nil
  | a :: as => .cons rfl (vals_refs as)
theorem merge_srt (bs : List (V × D)) : (bs.mergeSort (W.dataLe false fun b : V × D => b.2)).Pairwise (fun a b => ltD b.2 a.2 = false) := by
  refine (List.pairwise_mergeSort (le := W.dataLe false fun b : V × D => b.2) (fun a b c h1 h2 => ?_) (fun a b => ?_) _).imp fun {a b} h => ?_
  · have h1' : (!ltD b.2 a.2) = true := h1
    have h2' : (!ltD c.2 b.2) = true := h2
    show (!ltD c.2 a.2) = true
    rw [ltD_trans (by simpa using h1') (by simpa using h2')]
    rfl
  · show (!ltD b.2 a.2 || !ltD a.2 b.2) = true
    cases h : ltD b.2 a.2 with
    | false => rfl
    | true => rw [ltD_asym h]; rfl
  · have h' : (!ltD b.2 a.2) = true := h
    simpa using h'
theorem each_out {h : Heap} {a : Addr} (ha : ∀ o, h.get? a = some o → False) : ∀ {us : List Value} {xs : List V} {ds : List D} {as : List Addr}, ReadsAll h us ds as → xs.length = ds.length → W.EachIs (fun u (b : V × D) => ∃ as, Reads h u b.2 as) us (xs.zip ds)
  := fun r e => each_zip2 r e
section
variable {X : Cx} {T : Kt}
theorem cr_sortedX (hc : X.calm = true) (hu : X.A.units + 64 < cLine) (hP : X.prog = T.P := by rfl) (hw : X.w = T.w := by rfl) (hK : X.K = T.K := by rfl) : CallR X (.builtin "sorted") (rSortedX T) := by
  intro pins s σ H vs us Q I r h
  obtain ⟨a, xs, ds, rfl, d, hks, dp, hal, hso, hdp, q⟩ := h
  obtain ⟨u, rfl, ru⟩ := vals1 r
  obtain rfl : u = Value.ref a := ru
  have ok : HOk T.P T.w H s.heap := by rw [← hP, ← hw]; exact I.hok
  obtain ⟨hd, hz, vs, rvs, dd⟩ := isx_of ok d hks
  have hl1 : xs.length = vs.length := by rw [← rvs.length, List.length_map]
  obtain ⟨es, ep, hraw, hsz, hent⟩ := dd.raw
  have hn : es.size ≤ sizeLine := by rw [hsz, ents_length hl1]; exact hz
  refine Calls.call_function_entry PyProof.Rows.kind_sorted PyProof.Rows.plain_sorted PyProof.Rows.entry_sorted (PyProof.Rows.args_sorted1 _) ?_
  unfold Builtin.«sorted»
  refine wpAny_bind (m := checkCount "sorted" 1 1 _) (wpAny_pure ?_)
  refine wpAny_bind (PySem.W.kdu_collect (A := X.A.in1) (KdlSrc.rawDict (es := es) (ep := ep) hd) (I.ok.hd hc) hraw hn fun h' tk acc hk hacc => ?_)
  have hacc2 := items_keysX hsz (fun i hi => by
    obtain ⟨y, h1, h2, _⟩ := hent i hi
    exact ⟨y, h1, h2⟩) hacc
  have I1 : Inv X pins σ H { s with heap := h', toks := tk } := I.kept hk
  have hkeys : (ents xs vs).map (fun x => Value.ref x.2.1) = (xs.map fun x => x.2.1).map Value.ref := by
    unfold ents
    rw [List.map_map]
    have : ((fun x : NestedKey × Addr × Value => Value.ref x.2.1) ∘ fun z : XEnt × Value => (z.1.1, z.1.2.1, z.2)) = (fun x : XEnt => Value.ref x.2.1) ∘ Prod.fst := rfl
    rw [this, ← List.map_map, List.map_fst_zip (by omega), List.map_map]
    rfl
  rw [hacc2, hkeys]
  have hvk : Vals (xs.map fun x => V.ref x.2.1) ((xs.map fun x => x.2.1).map Value.ref) := by
    have := vals_refs (xs.map fun x => x.2.1)
    rw [List.map_map] at this
    exact this
  generalize hits : (xs.map fun x => x.2.1).map Value.ref = its at hvk ⊢
  have hlen : its.length = xs.length := by rw [← hits]; simp
  have hL : its.length ≤ sizeLine := by omega
  refine wpAny_bind (wpAny_newList ?_ hL)
  have hoL : (h'.push (seqObj "list" its.toArray 0)).get? h'.objs.size = some (seqObj "list" its.toArray 0) := Heap.get?_push_size _ rfl
  show wpAny _ _ _ _ _ { s with heap := h'.push (seqObj "list" its.toArray 0), toks := tk }
  have dp1 : DpAll X.K H (xs.map fun x => V.ref x.2.1) ds := by rw [hK]; exact dp
  obtain ⟨as, rd⟩ := L2.Dp.readsAll I1 ds _ its dp1 hvk
  have hlen2 := dpall_len dp
  have em : ((xs.map fun x => V.ref x.2.1).zip ds).map (·.2) = ds := List.map_snd_zip (by omega)
  have er : W.EachIs (fun u (b : V × D) => ∃ as, Reads (W.sortingHeap (h'.push (seqObj "list" its.toArray 0)) h'.objs.size its) u b.2 as) its ((xs.map fun x => V.ref x.2.1).zip ds) := by
    refine (each_zip2 rd hlen2).mono fun v b ⟨as, r⟩ => ⟨as, PyProof.Rows.Reads.keeps (fun c o e => W.sortingHeap_old (Nat.ne_of_lt (Heap.lt_size e)) (Heap.get?_push_of_some _ e)) r⟩
  have S := W.SortsAt.data (prog := X.prog) (w := X.w) (A := X.A.in1.in1) (s := { s with heap := W.sortingHeap (h'.push (seqObj "list" its.toArray 0)) h'.objs.size its, toks := tk }) (W.each_map (R := fun v d => ∃ as, Reads (W.sortingHeap (h'.push (seqObj "list" its.toArray 0)) h'.objs.size its) v d as) (fun b : V × D => b.2) er) (by rw [em]; exact hal) (by rw [em]; exact hso) (fun d hd => by
    rw [em] at hd
    have := hdp d hd
    show X.A.units + 1 + 1 + d.depth < cLine
    omega)
  refine wpAny_bind (wpAny_holding (wpAny_call_entry PyProof.Rows.slot_list_sort ⟨_, hoL, rfl⟩ PyProof.Rows.entry_list_sort
    (W.list_sort_vals (s := { s with heap := h'.push (seqObj "list" its.toArray 0), toks := tk }) hoL S hL ⟨_, rfl, ?_⟩) (PyProof.Rows.args_list_sort _)))
  have hev := W.sortVals_data (h' := W.sortingHeap (h'.push (seqObj "list" its.toArray 0)) h'.objs.size its) (R := fun u (b : V × D) => RelV b.1 u) (enc := fun b : V × D => b.2) false (each_zip (R := fun u b => RelV b u) hvk hlen2) er (by rw [em]; exact hal)
  have hp : (((xs.map fun x => V.ref x.2.1).zip ds).mergeSort (W.dataLe false fun b : V × D => b.2)).Perm ((xs.map fun x => V.ref x.2.1).zip ds) := List.mergeSort_perm _ _
  have hsrt := merge_srt ((xs.map fun x => V.ref x.2.1).zip ds)
  have hln : (W.sortVals (W.dataKind (W.sortingHeap (h'.push (seqObj "list" its.toArray 0)) h'.objs.size its) (((xs.map fun x => V.ref x.2.1).zip ds).map (·.2))) false its its).length = its.length := W.sortVals_length false rfl
  generalize W.sortVals _ false its its = out at hev hln ⊢
  generalize ((xs.map fun x => V.ref x.2.1).zip ds).mergeSort (W.dataLe false fun b : V × D => b.2) = zs at hev hp hsrt
  have hv := vals_each hev
  obtain ⟨e', he'⟩ := PyProof.Rows.sortedHeap_at (vs := its) (out := out.toArray) hoL
  refine wpAny_pure ⟨_, rfl, .ref h'.objs.size, upd H h'.objs.size (.lst (zs.map (·.1))), I1.laid (t' := tk) (fun b u e => ?_) (Nat.le_refl _)
    (show ObjOk X.prog X.w _ _ _ (.lst (zs.map (·.1))) from ⟨by rw [hv.length, hln]; exact hL, out, e', hv, he'⟩), rfl, q zs _ hp hsrt (I1.hok.fresh (Nat.le_refl _))⟩
  have hb : b < h'.objs.size := Heap.lt_size e
  rw [PyProof.Rows.sortedHeap_old (Nat.ne_of_lt hb) (by rw [size_push']; exact Nat.lt_succ_of_lt hb)]
  exact Heap.get?_push_of_some _ e
end
/-! ### by data -/
section
variable {T : Kt} {B : Option Addr} {G0 H0 G H G' H' : Hp} {ρ : Ev} {σ : L2.St} {E : XK}
def hasD (kvs : List (D × D)) (k : NestedKey) : Bool := kvs.any fun p => decide (keyD p.1 = some k)
def putD (kvs : List (D × D)) (x : D) (k : NestedKey) (v : D) : List (D × D) := if hasD kvs k then kvs.map (fun p => if keyD p.1 = some k then (p.1, v) else p) else kvs ++ [(x, v)]
def getD (kvs : List (D × D)) (k : NestedKey) : Option D := (kvs.find? fun p => decide (keyD p.1 = some k)).map (·.2)
theorem has_eq (k : NestedKey) : ∀ {xs : List XEnt} {kvs : List (D × D)}, Paired (EntX T G) xs kvs → hasX xs k = hasD kvs k
  | _, _, .nil => rfl
  | x :: xs, p :: kvs, .cons h r => by
    have ih := has_eq k r
    unfold hasX hasD at *
    rw [List.any_cons, List.any_cons, ih, h.1]
    congr 1
    by_cases e : x.1 = k
    · rw [e]; simp
    · rw [decide_eq_false e, decide_eq_false fun z => e (Option.some.inj z)]
theorem put_map {k : NestedKey} {v : V} {y : D} (ry : Rp T G v y) : ∀ {xs : List XEnt} {kvs : List (D × D)}, Paired (EntX T G) xs kvs → Paired (EntX T G) (xs.map fun x => if x.1 = k then (x.1, x.2.1, v) else x) (kvs.map fun p => if keyD p.1 = some k then (p.1, y) else p)
  | _, _, .nil => .nil
  | z :: xs, p :: kvs, .cons h1 r => by
    refine .cons ?_ (put_map ry r)
    show EntX T G (if z.1 = k then (z.1, z.2.1, v) else z) (if keyD p.1 = some k then (p.1, y) else p)
    by_cases c : z.1 = k
    · rw [if_pos c, if_pos (by rw [h1.1, c])]
      exact ⟨h1.1, h1.2.1, ry⟩
    · rw [if_neg c, if_neg (fun q => c (by rw [h1.1] at q; exact Option.some.inj q))]
      exact h1
theorem put_app {z : XEnt} {p : D × D} (h0 : EntX T G z p) : ∀ {xs : List XEnt} {kvs : List (D × D)}, Paired (EntX T G) xs kvs → Paired (EntX T G) (xs ++ [z]) (kvs ++ [p])
  | _, _, .nil => .cons h0 .nil
  | _, _, .cons h1 r => .cons h1 (put_app h0 r)
theorem put_ent {k : NestedKey} {b : Addr} {v : V} {x y : D} (hk : keyD x = some k) (rx : Rp T G (.ref b) x) (ry : Rp T G v y) {xs : List XEnt} {kvs : List (D × D)} (h : Paired (EntX T G) xs kvs) : Paired (EntX T G) (putX xs k b v) (putD kvs x k y) := by
  unfold putX putD
  rw [has_eq k h]
  split
  · exact put_map ry h
  · exact put_app ⟨hk, rx, ry⟩ h
theorem get_ent {k : NestedKey} {y : D} : ∀ {xs : List XEnt} {kvs : List (D × D)}, Paired (EntX T G) xs kvs → getD kvs k = some y → ∃ z, xs.find? (fun x => decide (x.1 = k)) = some z ∧ Rp T G z.2.2 y
  | _, _, .nil, e => by simp [getD] at e
  | x :: xs, p :: kvs, .cons h r, e => by
    unfold getD at e
    rw [List.find?_cons] at e
    rw [List.find?_cons]
    by_cases c : x.1 = k
    · have c2 : keyD p.1 = some k := by rw [h.1, c]
      simp only [c, c2, decide_true, Option.map_some, Option.some.injEq] at e ⊢
      exact ⟨x, rfl, by rw [← e]; exact h.2.2⟩
    · have c2 : ¬ keyD p.1 = some k := fun q => c (by rw [h.1] at q; exact Option.some.inj q)
      simp only [c, c2, decide_false] at e ⊢
      exact get_ent r e
theorem ent_keys (g : Same G H) : ∀ {xs : List XEnt} {kvs : List (D × D)}, Paired (EntX T G) xs kvs → ∀ z ∈ xs, KeyX T H z.1 z.2.1
  | _, _, .nil, z, hz => by cases hz
  | _, _, .cons h r, z, hz => by
    rcases List.mem_cons.mp hz with rfl | hz
    · exact ⟨G, _, g, h.2.1, h.1⟩
    · exact ent_keys g r z hz
theorem ent_rp : ∀ {xs : List XEnt} {kvs : List (D × D)}, Paired (EntX T G) xs kvs → RpL T G (xs.map fun x => V.ref x.2.1) (kvs.map (·.1))
  | _, _, .nil => .nil
  | _, _, .cons h r => .cons h.2.1 (ent_rp r)
/-- {} -/
def dnewE : M Slot := ret (.t [])
theorem de_dnew : De T E (tDNewX T) dnewE := by
  intro B G0 H0 ρ σ G H I
  refine Pt.ok fun Q q => ?_
  show ∀ p o, H p = none → Q (.ref p) (upd H p (DictX T.P T.w p o []))
  intro p o n
  have al := Al.newO (o := DictX T.P T.w p o []) I.gh n
  exact q _ G _ (I.al al) (Same.refl _) (I.vok (s := .t []) ⟨p, [], rfl, n, ⟨o, upd_same⟩, Same.none I.gh n, .nil⟩)
/-- x in d, x not in d, d a name -/
def ngB (neg b : Bool) : Bool := if neg then !b else b
/-- the entries of a dict that is data -/
def unTab : List D → Option (List (D × D))
  | [] => some []
  | .tuple [k, v] :: ts => (unTab ts).map fun r => (k, v) :: r
  | _ => none
theorem unTab_map : ∀ kvs : List (D × D), unTab (kvs.map fun p => .tuple [p.1, p.2]) = some kvs
  | [] => rfl
  | p :: kvs => by
    show (unTab (kvs.map fun p => .tuple [p.1, p.2])).map _ = _
    rw [unTab_map kvs]
    rfl
theorem Rp.tabOf {v : V} {ts : List D} (h : Rp T G v (.dict [(.none, .tuple ts)])) : ∃ a xs kvs, v = .ref a ∧ unTab ts = some kvs ∧ IsX T a xs (G a) ∧ RpK T G xs kvs := by
  generalize hx : (PyData.dict [(PyData.none, PyData.tuple ts)]) = x at h
  cases h with
  | tab h1 h2 =>
    rename_i a xs kvs
    injection hx with hx
    injection hx with hx
    injection hx with _ hx
    injection hx with hx
    exact ⟨a, xs, kvs, rfl, by rw [hx]; exact unTab_map kvs, h1, h2⟩
  | non => cases hx
  | bl b => cases hx
  | int i => cases hx
  | str x => cases hx
  | lst _ _ => cases hx
  | tup _ _ => cases hx
  | ins _ _ _ _ => cases hx
  | fn _ _ => cases hx
  | scr _ _ => cases hx
  | dct _ => cases hx
def xinE (neg : Bool) (i : Nat) (fk : M Pv) : M Slot := bd fk fun p ρ => match rdP ρ p, ρ[i]? with
  | some x, some (.t kvs) => match keyD x with
    | some k => .ok (.d (.bool (ngB neg (hasD kvs k))), ρ)
    | none => .no
  | some x, some (.d (PyData.dict [(PyData.none, PyData.tuple ts)])) => match keyD x, unTab ts with
    | some k, some kvs => .ok (.d (.bool (ngB neg (hasD kvs k))), ρ)
    | _, _ => .no
  | _, _ => .no
theorem key_dat {x : D} {k : NestedKey} (h : keyD x = some k) : datB x = true := by
  unfold keyD at h
  split at h
  · rfl
  · cases h
theorem Rp.ref_of {v : V} {x : D} {k : NestedKey} (h : Rp T G v x) (hk : keyD x = some k) : ∃ b, v = .ref b := by
  cases h with
  | tup h r => exact ⟨_, rfl⟩
  | non => cases hk
  | bl b => cases hk
  | int i => cases hk
  | str x => cases hk
  | lst h r => cases hk
  | ins _ _ _ _ => cases hk
  | fn _ _ => cases hk
  | scr _ _ => cases hk
  | dct _ => cases hk
  | tab _ _ => cases hk
theorem de_xin {ty : TE} {fk : M Pv} (neg : Bool) (i : Nat) (h : Dk T E ty fk) : De T E (tXIn T neg ty (tVar i)) (xinE neg i fk) := by
  intro B G0 H0 ρ σ G H I
  refine Pt.bd (t := ty σ) (u := fun y H1 (Q : VK) => tVar i σ H1 fun x H2 => ∃ a b k xs, x = .ref a ∧ y = .ref b ∧ KeyX T H2 k b ∧ IsX T a xs (H2 a) ∧ (∀ z ∈ xs, KeyX T H2 z.1 z.2.1) ∧ Q (.bl (ngB neg (hasX xs k))) H2) (h B G0 H0 ρ σ G H I) fun p ρ1 v G1 H1 e0 I1 k1 r1 => ?_
  split
  · rename_i x kvs e1 e2
    cases ek : keyD x with
    | none => exact Pt.no
    | some k =>
      refine Pt.ok fun Q q => ?_
      have rx := (I1.pk r1 e1).dat (key_dat ek)
      obtain ⟨b, rfl⟩ := rx.ref_of ek
      obtain ⟨w, h1, a, xs, rfl, h2, h3, h4, r⟩ := I1.sl i _ e2 (fun z => by cases z)
      refine ⟨_, h1, a, b, k, xs, rfl, rfl, ⟨G1, x, I1.gh, rx, ek⟩, h2, ent_keys I1.gh r, ?_⟩
      rw [has_eq k r]
      exact q _ G1 H1 I1 (Same.refl _) (vok_d (.bl _))
  · rename_i x ts e1 e2
    split
    · rename_i k kvs ek eu
      refine Pt.ok fun Q q => ?_
      have rx := (I1.pk r1 e1).dat (key_dat ek)
      obtain ⟨b, rfl⟩ := rx.ref_of ek
      obtain ⟨w, h1, h2⟩ := I1.sl i _ e2 (fun z => by cases z)
      obtain ⟨a, xs, kvs', rfl, eu', h3, r⟩ := Rp.tabOf h2
      rw [eu] at eu'
      cases eu'
      refine ⟨_, h1, a, b, k, xs, rfl, rfl, ⟨G1, x, I1.gh, rx, ek⟩, h3.up I1.gh, ent_keys I1.gh r.paired, ?_⟩
      rw [has_eq k r.paired]
      exact q _ G1 H1 I1 (Same.refl _) (vok_d (.bl _))
    · exact Pt.no
  · exact Pt.no
/-- d[x] = e -/
def xputM (i : Nat) (fk : M Pv) (f : M Slot) : M Out := bd (sE f) fun y ρ0 => match ρ0[i]? with
  | some (.t _) => bd fk (fun p ρ => match rdP ρ p, ρ[i]? with
    | some x, some (.t kvs) => match keyD x with
      | some k => if Nat.ble kvs.length 999999 then .ok (.nx, ρ.set i (.t (putD kvs x k y))) else .no
      | none => .no
    | _, _ => .no) ρ0
  | _ => .no
theorem paired_len {α β : Type} {F : α → β → Prop} : ∀ {xs : List α} {ys : List β}, Paired F xs ys → xs.length = ys.length
  | _, _, .nil => rfl
  | _, _, .cons _ r => congrArg (· + 1) (paired_len r)
theorem ds_xput {tv ty : TE} {f : M Slot} {fk : M Pv} (i : Nat) (hv : De T E tv f) (hk : Dk T E ty fk) : Ds T E (sXPut T (tVar i) ty tv) (xputM i fk f) := by
  refine ds_iff.mpr fun B G0 H0 ρ σ G H I => ?_
  refine Ps.bd (t := tv σ) (u := fun v H1 Z => tVar i σ H1 fun x H2 => ty σ H2 fun y H3 => ∃ a b k xs, x = .ref a ∧ y = .ref b ∧ KeyX T H3 k b ∧ IsX T a xs (H3 a) ∧ (∀ z ∈ xs, KeyX T H3 z.1 z.2.1) ∧ xs.length < sizeLine ∧ ∀ ob, Z.nx σ (upd H3 a (DictX T.P T.w a ob (putX xs k b v)))) (dd_of hv B G0 H0 ρ σ G H I) fun y ρ1 v G1 H1 e0 I1 k1 r1 => ?_
  split
  · rename_i kvs0 e2
    obtain ⟨w0, h1, a, xs0, rfl, _⟩ := I1.sl i _ e2 (fun z => by cases z)
    refine Ps.q.mpr fun Z q => ⟨.ref a, h1, ?_⟩
    refine Ps.q.mp (Ps.bd (T := T) (E := E) (B := B) (G0 := G0) (H0 := H0) (t := ty σ) (u := fun yv H3 Z => ∃ a' b k xs, V.ref a = .ref a' ∧ yv = .ref b ∧ KeyX T H3 k b ∧ IsX T a' xs (H3 a') ∧ (∀ z ∈ xs, KeyX T H3 z.1 z.2.1) ∧ xs.length < sizeLine ∧ ∀ ob, Z.nx σ (upd H3 a' (DictX T.P T.w a' ob (putX xs k b v)))) (hk B G0 H0 ρ1 σ G1 H1 I1) (k := fun p ρ => match rdP ρ p, ρ[i]? with
      | some x, some (.t kvs) => match keyD x with
        | some k => if Nat.ble kvs.length 999999 then .ok (.nx, ρ.set i (.t (putD kvs x k y))) else .no
        | none => .no
      | _, _ => .no) fun p ρ2 yv G2 H2 e4 I2 k2 r2 => ?_) Z q
    split
    · rename_i x kvs e5 e6
      cases ek : keyD x with
      | none => exact Ps.no
      | some k =>
        dsimp only
        split
        · rename_i hl
          intro Z q
          have rx := (I2.pk r2 e5).dat (key_dat ek)
          obtain ⟨b, rfl⟩ := rx.ref_of ek
          obtain ⟨w, h2, a', xs, rfl, h3, h4, h5, r⟩ := I2.sl i _ e6 (fun z => by cases z)
          rw [h1] at h2
          cases h2
          have := Nat.le_of_ble_eq_true hl
          refine ⟨a, b, k, xs, rfl, rfl, ⟨G2, x, I2.gh, rx, ek⟩, h3, ent_keys I2.gh r, by rw [paired_len r]; exact len_lt (by omega), fun ob => ?_⟩
          exact q σ G2 _ (I2.wr e6 rfl h1 h4 (.inr h5) (s' := .t (putD kvs x k y)) ⟨a, _, rfl, ⟨ob, upd_same⟩, h4, h5, put_ent ek rx (r1.mono k2) r⟩ rfl) (Same.refl _)
        · exact Ps.no
    · exact Ps.no
  · exact Ps.no
/-- sorted(d), d a name -/
def xsortE (i : Nat) : M Slot := fun ρ => match ρ[i]? with
  | some (.t kvs) => if sortOk (kvs.map (·.1)) then .ok (.o (sortD (kvs.map (·.1))), ρ) else .no
  | _ => .no
theorem de_xsort (i : Nat) : De T E (tCB (rSortedX T) (tCons (tVar i) tNil)) (xsortE i) := by
  intro B G0 H0 ρ σ G H I
  unfold xsortE
  split
  · rename_i kvs e
    split
    · rename_i ok
      refine Pt.ok fun Q q => ?_
      obtain ⟨w, h1, a, xs, rfl, h2, h3, h4, r⟩ := I.sl i _ e (fun z => by cases z)
      obtain ⟨al, so, dp⟩ := sortOk_ok ok
      have rr := ent_rp r
      refine ⟨.ref a, h1, a, xs, kvs.map (·.1), rfl, h2, ent_keys I.gh r, rr.dp I.gh (lay_all fun d hd => (dp d hd).2), al, so, fun d hd => (dp d hd).1, fun zs p hp hs n => ?_⟩
      have em : ((xs.map fun x => V.ref x.2.1).zip (kvs.map (·.1))).map (·.2) = kvs.map (·.1) := List.map_snd_zip (by rw [rr.len]; omega)
      have ez : zs.map (·.2) = sortD (kvs.map (·.1)) := sortD_uniq al (by rw [← em]; exact hp.map _) (List.pairwise_map.mpr hs)
      have rz := rp_zip fun b hb => zip_rp rr b (hp.mem_iff.mp hb)
      rw [ez] at rz
      have al2 := Al.newO (o := .lst (zs.map (·.1))) I.gh n
      exact q _ G _ (I.al al2) (Same.refl _) (I.vok (s := .o (sortD (kvs.map (·.1)))) ⟨p, _, rfl, n, upd_same, Same.none I.gh n, rz⟩)
    · exact Pt.no
  · exact Pt.no
end
end DL
/-! NCFun4: objects made, methods, keywords of the data layer. -/
namespace DL
open PySem PySem.Spec PyProof.Rows L2
section
variable {T : Kt} {B : Option Addr} {G0 H0 G H G' H' : Hp} {ρ : Ev} {σ : L2.St} {E : XK}
theorem u65 {k : Nat} {A : Around} (r : Room k A) : A.units + 65 < cLine := by
  have := r.un
  omega
theorem passE {X : Cx} {E : XK} : Passes CX0 X E := fun _ _ _ _ _ _ _ h => h.elim
/-! ### a tuple or a list to several names -/
def gSq (K : PySem.W.Frag) (n : Nat) (t : TGs) : TG := fun v σ H Q => gTup K n t v σ H Q ∨ gUnl K n t v σ H Q
theorem pg_sq {X : Cx} {pos : Pos} {es : List Expr} {k : Nat} {t : TGs} {n : Nat} (K : PySem.W.Frag) (hc : X.calm = true) (h : PGs X es t)
    (hn : (assignEach es X.env).length = n := by rfl) (hst : (assignEach es X.env).findIdx? (·.1) = none := by rfl) (hK : X.K = K := by rfl) : PG X (.Tuple es k pos) (gSq K n t) := by
  subst hK
  refine ⟨fun pins s σ H v u Q I r hw => ?_⟩
  rcases hw with hw | hw
  · exact (pg_tup hc h hn hst).run pins s σ H v u Q I r hw
  · exact (pg_unl hc h hn hst).run pins s σ H v u Q I r hw
theorem dg_sq {ts : List Nat} {n : Nat} {gs : TGs} {fs : List D → Ev → Option Ev} (h : Dgs T ts gs fs) : Dg T ts (gSq T.K n gs) (unlG n fs) := by
  intro B G0 H0 ρ σ G H Q v x I r
  unfold unlG
  split
  · rename_i e
    split at e
    · rename_i xs
      split at e
      · rename_i hl
        cases r with
        | tup ha r =>
          intro q
          have a := h B G0 H0 ρ σ G H Q _ xs I r
          rw [e] at a
          exact .inl ⟨_, _, rfl, SqT.of (I.gh _ _ ha), by rw [r.len]; exact beq_iff_eq.mp hl, a q⟩
      · cases e
    · rename_i xs
      split at e
      · rename_i hl
        cases r with
        | lst ha r =>
          intro q
          have a := h B G0 H0 ρ σ G H Q _ xs I r
          rw [e] at a
          exact .inr ⟨_, _, rfl, SqL.of (I.gh _ _ ha), by rw [r.len]; exact beq_iff_eq.mp hl, a q⟩
      · cases e
    · cases e
  · trivial
/-! ### x, y, .. = e, f, .. by a tuple -/
def gNames : List Nat → TGs
  | [] => gNil
  | i :: is => gCons (gName i) (gNames is)
def putsE : Ev → List Nat → List Slot → Option Ev
  | ρ, [], [] => some ρ
  | ρ, i :: is, s :: ss => if i < ρ.length then putsE (ρ.set i s) is ss else none
  | _, _, _ => none
theorem vs_put {i : Nat} {v : V} {s : Slot} (hi : i < σ.length) : ∀ {vs : List V} {ss : List Slot}, VsOk T H0 ρ σ G H vs ss → (s.own = true → ∀ (k : Nat) u, ss[k]? = some u → u.own = true → vs[k]? ≠ some v) → VsOk T H0 (ρ.set i s) (σ.set i (some v)) G H vs ss
  | _, _, .nil, _ => .nil
  | _, _, .cons h r ap, ne => .cons (vok_put hi h fun o1 o2 z => ne o1 0 _ rfl o2 (by rw [z]; rfl)) (vs_put hi r fun o1 k u e o2 z => ne o1 (k + 1) u (by simpa using e) o2 (by simpa using z)) ap
theorem names_ok {Q : L2.St → Hp → Prop} : ∀ {is : List Nat} {ρ ρ' : Ev} {σ : L2.St} {vs : List V} {ss : List Slot}, SI T B G0 H0 ρ σ G H → VsOk T H0 ρ σ G H vs ss → putsE ρ is ss = some ρ' → (∀ σ', SI T B G0 H0 ρ' σ' G H → Q σ' H) → gNames is vs σ H Q
  | [], ρ, ρ', σ, _, _, I, .nil, e, q => by cases e; exact ⟨rfl, q σ I⟩
  | [], ρ, ρ', σ, _, _, I, .cons _ _ _, e, q => by cases e
  | i :: is, ρ, ρ', σ, _, _, I, .nil, e, q => by cases e
  | i :: is, ρ, ρ', σ, _, _, I, .cons (v := v) (vs := vs) h r ap, e, q => by
    unfold putsE at e
    split at e
    · rename_i hi
      exact ⟨v, vs, rfl, names_ok (I.put hi h) (vs_put (by rw [← I.ln]; exact hi) r ap) e q⟩
    · cases e
theorem vs_al {G1 H1 : Hp} (k : Al G H G1 H1) : ∀ {vs : List V} {ss : List Slot}, VsOk T H0 ρ σ G H vs ss → VsOk T H0 ρ σ G1 H1 vs ss
  | _, _, .nil => .nil
  | _, _, .cons h r ap => .cons ⟨h.1.al k, h.2⟩ (vs_al k r) ap
theorem vs_len : ∀ {vs : List V} {ss : List Slot}, VsOk T H0 ρ σ G H vs ss → vs.length = ss.length
  | _, _, .nil => rfl
  | _, _, .cons _ r _ => congrArg (· + 1) (vs_len r)
def parN (is : List Nat) (f : M (List Slot)) : M Out := bd f fun ss ρ => if Nat.ble ss.length 1000 then match putsE ρ is ss with
  | some ρ' => .ok (.nx, ρ')
  | none => .no else .no
theorem puts_len : ∀ {is : List Nat} {ρ ρ' : Ev} {ss : List Slot}, putsE ρ is ss = some ρ' → ss.length = is.length
  | [], ρ, ρ', [], _ => rfl
  | [], ρ, ρ', _ :: _, e => by cases e
  | _ :: _, ρ, ρ', [], e => by cases e
  | i :: is, ρ, ρ', s :: ss, e => by
    unfold putsE at e
    split at e
    · exact congrArg (· + 1) (puts_len e)
    · cases e
theorem ds_parT {ta : TA} {f : M (List Slot)} (is : List Nat) (h : Dv T E ta f) : Ds T E (tAsg (tTup ta) (gSq T.K is.length (gNames is))) (parN is f) := by
  refine ds_iff.mpr fun B G0 H0 ρ σ G H I => ?_
  refine Ps.bd (t := ta σ) (u := fun xs H1 Z => xs.length ≤ sizeLine ∧ ∀ p, H1 p = none → gSq T.K is.length (gNames is) (.ref p) σ (upd H1 p (.tup xs)) Z.nx) (h B G0 H0 ρ σ G H I) fun ss ρ1 vs G1 H1 e0 I1 k1 r1 => ?_
  split
  · rename_i hl
    cases e : putsE ρ1 is ss with
    | none => exact Ps.no
    | some ρ2 =>
      intro Z q
      have hv := vs_len r1
      refine ⟨by rw [hv]; exact len_le (Nat.le_trans (Nat.le_of_ble_eq_true hl) (by decide)), fun p n => ?_⟩
      have al := Al.newO (o := .tup vs) I1.gh n
      exact .inl ⟨p, vs, rfl, SqT.of upd_same, by rw [hv, puts_len e], names_ok (I1.al al) (vs_al al r1) e fun σ' J => q σ' G1 _ J (Same.refl _)⟩
  · exact Ps.no
/-! ### C(..) -/
def makeE (c : Int) (g : Mir) (f : M (List D)) : M Slot := bd f fun xs ρ => match g (.j c [] :: xs.map Slot.d) with
  | .ok (.d .none, .j c' ds) => if (c' == c) && (ds.length == (clsF c).length) then .ok (.d (dIns c ds), ρ) else .no
  | .exc e x => .exc e x
  | _ => .no
theorem de_make {n : Nat} {g : Mir} {t : TA} {f : M (List D)} (c : Int) (ik : InsK T.K (He.ga T.K (clsN c))) (h : Da T E t f) (hn : ∀ ρ xs ρ', f ρ = .ok (xs, ρ') → xs.length = n) : De T E (tMake (He.ga T.K (clsN c)) (dSp T (n + 1) g) [] E t) (makeE c g f) := by
  intro B G0 H0 ρ σ G H I
  refine Pt.bd (t := t σ) (u := fun vs H1 (Q : VK) => ∀ x dx, H1 x = none → H1 dx = none → dx ≠ x → dSp T (n + 1) g (.ref x :: (vs ++ [])) (upd (upd H1 dx (.own x)) x (.ins (He.ga T.K (clsN c)) dx [])) (fun v H2 => v = .non ∧ Q (.ref x) H2) E) (h B G0 H0 ρ σ G H I) fun xs ρ1 vs G1 H1 e0 I1 k1 r1 => ?_
  refine Pt.q.mpr fun Q q x dx nx ndx ne => ?_
  rw [List.append_nil]
  have hs1 : Same H1 (upd (upd H1 dx (.own x)) x (.ins (He.ga T.K (clsN c)) dx [])) := fun b o e => by
    rw [upd_ne (fun z => by rw [z, nx] at e; cases e), upd_ne (fun z => by rw [z, ndx] at e; cases e)]
    exact e
  have back : ∀ b, (upd (upd H1 dx (.own x)) x (.ins (He.ga T.K (clsN c)) dx [])) b = none → H1 b = none := fun b e => Same.none hs1 e
  refine ⟨by rw [List.length_cons, r1.len, hn _ _ _ e0], I1.tb.1.ext hs1, G1, some x, .j c [] :: xs.map Slot.d, I1.gh.trans hs1, fun p hp => (I1.tb.2 p hp).1, .j (dx := dx) (fs := []) ik upd_same (Same.none I1.gh nx) (by simp) .nil (args_d r1), ?_⟩
  revert q
  cases g (.j c [] :: xs.map Slot.d) with
  | no => exact fun q => q
  | exc e y => exact fun q H' d v f nd e' r tt => q H' d v (fun b o hb nb => f b o (by rw [strip_na (I1.na0 hb)]; exact hs1 b o (I1.hh b o hb nb)) (fun z => by
      cases z
      have h1 := I1.hh x o hb nb
      rw [nx] at h1
      cases h1)) (by
      rcases strip_cases nd with z | ⟨p, hp, rfl⟩
      · exact I1.h0 (back d z)
      · exact (I1.tb.2 p hp).2) e' r tt
  | ok z =>
    obtain ⟨s, s'⟩ := z
    dsimp only
    split
    · rename_i c' ds heq
      cases heq
      split
      · rename_i hc
        obtain ⟨hc1, hc2⟩ := Bool.and_eq_true_iff.mp hc
        have ec : c' = c := by simpa using hc1
        have el : ds.length = (clsF c).length := by simpa using hc2
        subst ec
        intro q v G' H' k1 k2 k3 k4 bk rn tt
        cases rn
        obtain ⟨a, dx', fs, ea, ga, ha, hm, r⟩ := bk
        cases ea
        rw [el, List.take_of_length_le (Nat.le_refl _)] at hm
        have kk : Same G' (upd G' x (.ins (He.ga T.K (clsN c')) dx' fs)) := same_new ga
        have J : SI T B G0 H0 ρ1 σ (upd G' x (.ins (He.ga T.K (clsN c')) dx' fs)) H' := by
          refine I1.alT (k1.trans kk) (fun b o e => ?_) (fun b o e na => k3 b o (hs1 b o e) (fun z => by cases z; rw [nx] at e; cases e) na) (fun b n => ?_) tt
          · by_cases hb : b = x
            · rw [hb, upd_same] at e; rw [hb, ha]; exact e
            · rw [upd_ne hb] at e; exact k2 b o e
          · by_cases hb : b = x
            · rw [hb]; exact .inr (.inl nx)
            · rw [upd_ne hb] at n ⊢
              rcases k4 b n with z | z | z
              · exact .inl z
              · exact .inr (.inl (back b z))
              · exact .inr (.inr z)
        exact ⟨rfl, q _ _ H' J (k1.trans kk) (vok_d (.ins ik upd_same hm (r.mono kk)))⟩
      · exact fun q => q.elim
    · rename_i heq; cases heq
    · exact fun q => q.elim
/-! ### o.m(..) -/
def lentK (g : Mir) (as : List Ag) : M Slot := fun ρ => match agsS ρ as with
  | some (ss, none) => match g ss with
    | .ok (s, _) => .ok (s, ρ)
    | .exc c x => .exc c x
    | .no => .no
  | some (ss, some i) => match g ss, ρ[i]? with
    | .ok (s, s'), some s0 => match give s0 s' with
      | some z => .ok (s, ρ.set i z)
      | none => .no
    | .exc c x, _ => .exc c x
    | _, _ => .no
  | none => .no
def agOf (ρ : Ev) : Pv → Ag
  | .d x => .d x
  | .s i => match ρ[i]? with
    | some (.d x) => .d x
    | _ => .r i
theorem SI.agOf (I : SI T B G0 H0 ρ σ G H) {v : V} {p : Pv} (h : POk T σ G v p) : AgOk T σ G v (agOf ρ p) := by
  cases p with
  | d x => exact h
  | s i =>
    unfold DL.agOf
    split
    · rename_i j e0
      cases e0
    · rename_i j e0
      cases e0
      split
      · rename_i x e
        obtain ⟨w, h1, h2⟩ := I.sl i _ e (fun z => by cases z)
        have h' : σ[i]? = some (some v) := h
        rw [h1] at h'
        cases h'
        exact h2
      · exact h
theorem ag_d : ∀ {vs : List V} {xs : List D}, RpL T G vs xs → Paired (AgOk T σ G) vs (xs.map Ag.d)
  | _, _, .nil => .nil
  | _, _, .cons h r => .cons h (ag_d r)
def methE (c : Int) (g : Mir) (fr : M Pv) (fa : M (List D)) : M Slot := bd fr fun p ρ => match rdP ρ p with
  | some (PyData.dict [(PyData.int c', PyData.tuple _)]) => if c' == c then bd fa (fun xs ρ => lentK g (agOf ρ p :: xs.map Ag.d) ρ) ρ else .no
  | _ => .no
theorem lookup_no {m : Str} : ∀ {fs : List (Str × V)}, m ∉ fs.map (·.1) → fs.lookup m = none
  | [], _ => rfl
  | p :: fs, h => by
    obtain ⟨a, b⟩ := p
    have ne : (m == a) = false := beq_eq_false_iff_ne.mpr fun z => h (by simp [z])
    simp only [List.lookup, ne]
    exact lookup_no fun z => h (by simp only [List.map_cons, List.mem_cons]; exact .inr z)
theorem ins_at {c : Int} {v : V} {ds : List D} (g : Same G H) (h : Pk T G H v (dIns c ds)) : ∃ a dx fs, v = .ref a ∧ H a = some (.ins (He.ga T.K (clsN c)) dx fs) ∧ ∀ m, m ∉ clsF c → fs.lookup m = none := by
  rcases h with h | ⟨a, vs, xs, _, z, _⟩ | ⟨a, dx, c2, fs, ds2, ev, ee, ik, ha, hm, r⟩
  · cases h with
    | ins ik ha hm r => exact ⟨_, _, _, rfl, g _ _ ha, fun m hn => lookup_no (by rw [hm]; exact hn)⟩
  · cases z
  · cases ee
    exact ⟨a, dx, fs, ev, ha, fun m hn => lookup_no (by rw [hm]; exact fun z => hn (List.mem_of_mem_take z))⟩
theorem de_meth {n : Nat} {m : Str} {g : Mir} {ta : TE} {t : TA} {fr : M Pv} {fa : M (List D)} (c : Int) (hm : m ∉ clsF c) (hr : Dk T E ta fr) (h : Da T E t fa) (hn : ∀ ρ xs ρ', fa ρ = .ok (xs, ρ') → xs.length = n) : De T E (tMeth (He.ga T.K (clsN c)) m (dSp T (n + 1) g) [] E ta t) (methE c g fr fa) := by
  intro B G0 H0 ρ σ G H I
  refine Pt.bd (t := ta σ) (u := fun x H1 (Q : VK) => ∃ a dx fs, x = .ref a ∧ H1 a = some (.ins (He.ga T.K (clsN c)) dx fs) ∧ fs.lookup m = none ∧ t σ H1 fun vs H2 => dSp T (n + 1) g (x :: (vs ++ [])) H2 Q E) (hr B G0 H0 ρ σ G H I) fun p ρ1 v G1 H1 e0 I1 k1 r1 => ?_
  split
  · rename_i c' ds e
    split
    · rename_i hc
      have ec : c' = c := by simpa using hc
      subst ec
      obtain ⟨a, dx, fs, ev, ha, hl⟩ := ins_at I1.gh (I1.pk r1 e)
      refine Pt.q.mpr fun Q q => ⟨a, dx, fs, ev, ha, hl m hm, ?_⟩
      refine Pt.q.mp (Pt.bd (T := T) (E := E) (B := B) (G0 := G0) (H0 := H0) (Rel2 := rV T) (t := t σ) (u := fun vs H2 (Q : VK) => dSp T (n + 1) g (v :: (vs ++ [])) H2 Q E) (h B G0 H0 ρ1 σ G1 H1 I1) (k := fun xs ρ => lentK g (agOf ρ p :: xs.map Ag.d) ρ) fun xs ρ2 vs G2 H2 e2 I2 k2 r2 => ?_) Q q
      rw [List.append_nil]
      exact lent_ok (by rw [List.length_cons, r2.len, hn _ _ _ e2]) I2 (.cons (I2.agOf (r1.mono k2)) (ag_d r2))
    · exact Pt.no
  · exact Pt.no
/-! ### f(x, k = y) -/
theorem perm_rp {vs : List V} {xs : List D} (r : RpL T G vs xs) : ∀ ix : List Nat, RpL T G (permL ix vs) (permL ix xs)
  | [] => .nil
  | i :: is => by
    have ih := perm_rp r is
    unfold permL at ih ⊢
    rw [List.filterMap_cons, List.filterMap_cons]
    cases e : xs[i]? with
    | none =>
      have : vs[i]? = none := by
        rw [List.getElem?_eq_none_iff] at e ⊢
        rw [r.len]
        exact e
      rw [this]
      exact ih
    | some x =>
      obtain ⟨v, e2, r2⟩ := r.get e
      rw [e2]
      exact .cons r2 ih
def callN (ix : List Nat) (g : Mir) (f fk : M (List D)) : M Slot := bd f fun xs => bd fk fun ys ρ => match g ((permL ix (xs ++ ys)).map Slot.d) with
  | .ok (s, _) => .ok (s, ρ)
  | .exc c x => .exc c x
  | .no => .no
theorem de_callN {n m p : Nat} {ix : List Nat} {g : Mir} {t tk : TA} {f fk : M (List D)} (h : Da T E t f) (hk : Da T E tk fk) (hn : ∀ ρ xs ρ', f ρ = .ok (xs, ρ') → xs.length = n) (hm : ∀ ρ xs ρ', fk ρ = .ok (xs, ρ') → xs.length = m) (hp : ∀ zs : List D, zs.length = n + m → (permL ix zs).length = p) :
    De T E (tCallN n m (dSp T p g) (fun us ws => permL ix (us ++ ws)) E t tk) (callN ix g f fk) := by
  intro B G0 H0 ρ σ G H I
  refine Pt.bd (t := t σ) (u := fun vs H1 (Q : VK) => tk σ H1 fun zs H2 => vs.length = n ∧ zs.length = m ∧ dSp T p g (permL ix (vs ++ zs)) H2 Q E) (h B G0 H0 ρ σ G H I) fun xs ρ1 vs G1 H1 e1 I1 k1 r1 => ?_
  refine Pt.bd (t := tk σ) (u := fun zs H2 (Q : VK) => vs.length = n ∧ zs.length = m ∧ dSp T p g (permL ix (vs ++ zs)) H2 Q E) (hk B G0 H0 ρ1 σ G1 H1 I1) fun ys ρ2 zs G2 H2 e2 I2 k2 r2 => ?_
  have l1 := hn _ _ _ e1
  have l2 := hm _ _ _ e2
  have rr := perm_rp ((r1.mono k2).app r2) ix
  refine Pt.q.mpr fun Q q => ⟨by rw [RpL.len r1]; exact l1, by rw [RpL.len r2]; exact l2, ?_⟩
  exact Pt.q.mp (call_ok (n := p) (g := g) (E := E) (hp _ (by rw [List.length_append]; omega)) I2 rr) Q q
end
end DL
/-! NCSaid: a lambda handed straight to a def that tells what its call raises. -/
namespace DL
open PySem PySem.Spec PyProof.Rows L2 LamX NCLam
/-- all but the tables W stay -/
def NotT (W : List (Addr × Str)) (H H' : Hp) : Prop := ∀ b o, H b = some o → (∀ p ∈ W, b ≠ p.1) → H' b = some o
section
variable {X : Cx} {pins : List (Addr × Obj)} {σ : L2.St} {H : Hp} {s : Shared}
/-- the lambda is made, its defaults being there -/
theorem lam_makeT {T : List (Addr × Str)} {c P : Addr} {params : Arguments} {body : Expr} {scope : Scope} {pos : Pos} {dV : Value} {E : Value → Shared → Prop} {Q : Value → Shared → Prop} (I : Inv X pins σ H s) (TB : TabB X.base X.mg c P) (hco : X.env.code = .ref c)
    (hm : (P, X.env.qual ++ "<lambda>") ∈ T) (hu : ∀ p ∈ T, p.1 = P → p.2 = X.env.qual ++ "<lambda>") (hT : Tabs T H) (hf : ∀ y ∈ scope.names, y.2 = .free → ∃ c, X.env.cells.lookup y.1 = some c)
    (h : ∀ (f c' : Addr) (H1 : Hp) (s' : Shared), Inv X pins σ H1 s' → NotT T H H1 → ExtN H H1 → Tabs T H1 → H f = none → H1 f = some (LamO f (X.env.qual ++ "<lambda>") params body scope (cloFrom X.env.cells scope.names []) dV c') → H1 c' = some (CodeO c' (X.env.qual ++ "<lambda>")) → Q (.ref f) s') :
    wpAny (model X.prog X.w) X.A (makeTail "<lambda>" (X.env.qual ++ "<lambda>") params (.expr body) scope X.env dV .none none pos pos.line) Q E s := by
  obtain ⟨ps, hP, ht, ha⟩ := hT _ hm
  have bP : s.heap.BuiltinsAt X.mg P := TB.bm.keeps I.bk
  have hP' : s.heap.get? P = some { cls := .none, data := .fields ps } := I.hok P _ hP
  cases hc : codeAmong pos ps.toList with
  | none =>
    refine tailN (closure_ok hf) I.ok.glob (I.mod.glob.keeps I.bk) hco (TB.code.keeps I.bk) hP' ht hc TB.gP bP fun c' ctv h' tk x1 x2 x3 x4 x5 => ?_
    obtain ⟨c2, oc, vs, t, e2, y1, y2, y3⟩ := x4
    cases e2
    have nC : H c' = none := I.hok.fresh x2
    have sz : s.heap.objs.size ≤ h'.objs.size := Nat.le_trans x2 (Nat.le_of_lt x3)
    have I1 := inv_table (t' := tk) (more := #[rawInt pos.line, rawInt pos.col, .ref c']) (h' := h') I hP x1 x5 x2 ⟨oc, vs, t, y1, y2, y3⟩
    have hE : ExtN H (upd (upd H P (.tbl (ps ++ #[rawInt pos.line, rawInt pos.col, .ref c']))) c' (CodeO c' (X.env.qual ++ "<lambda>"))) := fun b o e n => by
      rw [upd_ne (ne_of_none e nC), upd_ne (fun z => n ps (Option.some.inj (e.symm.trans (by rw [z]; exact hP))))]
      exact e
    have hN : NotT T H (upd (upd H P (.tbl (ps ++ #[rawInt pos.line, rawInt pos.col, .ref c']))) c' (CodeO c' (X.env.qual ++ "<lambda>"))) := fun b o e n => by
      rw [upd_ne (ne_of_none e nC), upd_ne (n _ hm)]
      exact e
    have tN := tabs_new (pos := pos) hT hP ht ha hu nC hE
    have I2 := I1.laid (a := h'.objs.size) (o := LamO h'.objs.size (X.env.qual ++ "<lambda>") params body scope (cloFrom X.env.cells scope.names []) dV c') (t' := tk) (h' := h'.push (objL (X.env.qual ++ "<lambda>") params body scope (cloFrom X.env.cells scope.names []) dV ((X.mg "__name__").getD .none) c' ctv))
      (fun b u e => Heap.get?_push_of_some _ e) (Nat.le_refl _) ⟨⟨_, _, Heap.get?_push_size _ rfl⟩, ⟨_, Heap.get?_push_size _ rfl⟩, fun h1 h2 ⟨pm, ct, z⟩ st => ⟨pm, ct, st _ z⟩⟩
    have nF := I1.hok.fresh (a := h'.objs.size) (Nat.le_refl _)
    have same := same_new (o := LamO h'.objs.size (X.env.qual ++ "<lambda>") params body scope (cloFrom X.env.cells scope.names []) dV c') nF
    exact h h'.objs.size c' _ _ I2 (fun b o e n => same _ _ (hN b o e n)) (hE.trans (.of same)) (tN.ext same) (I.hok.fresh sz) upd_same (same _ _ upd_same)
  | some cv =>
    obtain ⟨c', rfl, hco'⟩ := ha pos cv hc
    refine tailH (closure_ok hf) I.ok.glob (I.mod.glob.keeps I.bk) hco (TB.code.keeps I.bk) hP' ht hc bP fun ctv h' tk x1 x2 => ?_
    have I2 := I.laid (a := h'.objs.size) (o := LamO h'.objs.size (X.env.qual ++ "<lambda>") params body scope (cloFrom X.env.cells scope.names []) dV c') (t' := tk) (h' := h'.push (objL (X.env.qual ++ "<lambda>") params body scope (cloFrom X.env.cells scope.names []) dV ((X.mg "__name__").getD .none) c' ctv))
      (fun b u e => Heap.get?_push_of_some _ (x1 b u e)) x2 ⟨⟨_, _, Heap.get?_push_size _ rfl⟩, ⟨_, Heap.get?_push_size _ rfl⟩, fun h1 h2 ⟨pm, ct, z⟩ st => ⟨pm, ct, st _ z⟩⟩
    have nF := I.hok.fresh x2
    have same := same_new (o := LamO h'.objs.size (X.env.qual ++ "<lambda>") params body scope (cloFrom X.env.cells scope.names []) dV c') nF
    exact h h'.objs.size c' _ _ I2 (fun b o e _ => same _ _ e) (.of same) (hT.ext same) nF upd_same (same _ _ hco')
end
/-- as IsLam, its defaults being new behind H -/
def IsLamN (X : Cx) (params : Arguments) (body : Expr) (scope : Scope) (dvs : List V) (H H1 : Hp) (f : Addr) : Prop := ∃ (c' : Addr) (dV : Value), H1 f = some (LamO f (X.env.qual ++ "<lambda>") params body scope (cloFrom X.env.cells scope.names []) dV c') ∧
  H1 c' = some (CodeO c' (X.env.qual ++ "<lambda>")) ∧ ((dvs = [] ∧ dV = .none) ∨ ∃ T, dvs ≠ [] ∧ dV = .ref T ∧ H1 T = some (.tup dvs) ∧ H T = none)
theorem IsLamN.lam {X : Cx} {params : Arguments} {body : Expr} {scope : Scope} {dvs : List V} {H H1 : Hp} {f : Addr} (h : IsLamN X params body scope dvs H H1 f) : IsLam X params body scope dvs H1 f := by
  obtain ⟨c', dV, h1, h2, h3⟩ := h
  refine ⟨c', dV, h1, h2, ?_⟩
  rcases h3 with h3 | ⟨T, h3, h4, h5, _⟩
  · exact .inl h3
  · exact .inr ⟨T, h3, h4, h5⟩
def tLamT (T : List (Addr × Str)) (X : Cx) (params : Arguments) (body : Expr) (scope : Scope) (dvs : List V) : TE := fun _ H Q => Tabs T H ∧ ∀ f H1, NotT T H H1 → ExtN H H1 → Tabs T H1 → H f = none → IsLamN X params body scope dvs H H1 f → Q (.ref f) H1
section
variable {X : Cx} {params : Arguments} {body : Expr} {scope : Scope} {pos : Pos} {T : List (Addr × Str)} {c P : Addr}
/-- lambda: body -/
theorem pe_lamT (TB : TabB X.base X.mg c P) (hco : X.env.code = .ref c) (hm : (P, X.env.qual ++ "<lambda>") ∈ T) (hu : ∀ p ∈ T, p.1 = P → p.2 = X.env.qual ++ "<lambda>") (L : LamN X.N X.env.scope scope) (hdef : defaultsOf params X.env = ([], [])) : PE X (.Lambda params body scope pos) (tLamT T X params body scope []) := by
  refine ⟨fun pins s σ H Q I h => PySem.W.kla_eval hdef ?_⟩
  rw [makeFunction_eq]
  simp only [List.zip_nil_right, List.filterMap_nil, List.isEmpty_nil, if_true, pure_bind]
  exact lam_makeT I TB hco hm hu h.1 (L.has I.ok) fun f c' H1 s' I1 en e t n h1 h2 => ⟨.ref f, H1, I1, rfl, h.2 f H1 en e t n ⟨c', .none, h1, h2, .inl ⟨rfl, rfl⟩⟩⟩
/-- lambda x=i: body -/
theorem pe_lamTD {i : Int} {j : Nat} {dp : Pos} (TB : TabB X.base X.mg c P) (hco : X.env.code = .ref c) (hm : (P, X.env.qual ++ "<lambda>") ∈ T) (hu : ∀ p ∈ T, p.1 = P → p.2 = X.env.qual ++ "<lambda>") (L : LamN X.N X.env.scope scope) (hdef : defaultsOf params X.env = ([eval (.Constant (.int i) j dp) X.env], [])) : PE X (.Lambda params body scope pos) (tLamT T X params body scope [.int i]) := by
  refine ⟨fun pins s σ H Q I h => ?_⟩
  show wpAny _ _ (do
    let (d, kd) := defaultsOf params X.env
    let dv ← evalAll d
    let kdv ← holding dv (evalAllOpt kd)
    makeFunction "<lambda>" (X.env.qual ++ "<lambda>") params (.expr body) scope X.env dv kdv [] pos pos.line) _ _ _
  rw [hdef]
  show wpAny _ _ (evalAll [eval (.Constant (.int i) j dp) X.env] >>= fun dv => holding dv (evalAllOpt []) >>= fun kdv => makeFunction "<lambda>" (X.env.qual ++ "<lambda>") params (.expr body) scope X.env dv kdv [] pos pos.line) _ _ _
  refine wpAny_bind ?_
  show wpAny _ _ (eval (.Constant (.int i) j dp) X.env >>= fun v => holding [v] (evalAll []) >>= fun r => pure (v :: r)) _ _ _
  refine wpAny_bind (wpAny_Constant_int (wpAny_bind (wpAny_holding (wpAny_pure (wpAny_pure ?_)))))
  refine wpAny_bind (wpAny_holding (wpAny_pure ?_))
  rw [makeFunction_eq]
  simp only [List.zip_nil_right, List.filterMap_nil, List.isEmpty_nil, List.isEmpty_cons, Bool.false_eq_true, if_false, if_true, pure_bind]
  refine wpAny_bind (wpAny_newTextTuple ?_)
  have n0 := I.hok.fresh (a := s.heap.objs.size) (Nat.le_refl _)
  have e0 := same_new (o := .tup [.int i]) n0
  have I1 := (I.tok (s.toks + 1)).laid (a := s.heap.objs.size) (o := .tup [.int i]) (t' := s.toks + 1) (h' := s.heap.push { cls := .type "tuple", data := .seq [Value.int i s.toks].toArray }) (fun b u e => Heap.get?_push_of_some _ e) (Nat.le_refl _)
    ⟨len_le (n := 1) (by decide), [Value.int i s.toks], .cons ⟨_, rfl⟩ .nil, _, Heap.get?_push_size _ rfl, rfl, _, rfl⟩
  refine lam_makeT I1 TB hco hm hu (h.1.ext e0) (L.has I.ok) fun f c' H1 s' I2 en e t n h1 h2 => ⟨.ref f, H1, I2, rfl, h.2 f H1 (fun b o q n => en b o (e0 _ _ q) n) ((ExtN.of e0).trans e) t ?_ ⟨c', _, h1, h2, .inr ⟨_, (fun z => by cases z), rfl, e _ _ upd_same (fun _ z => by cases z), n0⟩⟩⟩
  by_cases hf : f = s.heap.objs.size
  · rw [hf]
    exact n0
  · rw [upd_ne hf] at n
    exact n
end

section
variable {T : Kt} {B : Option Addr} {G0 H0 G H G' H' : Hp} {ρ : Ev} {σ : L2.St} {E : XK}
/-! ### all own lists become data -/
def frz1 (ρ : Ev) (i : Nat) : Ev := match ρ[i]? with
  | some (.o xs) => ρ.set i (.d (.list xs))
  | _ => ρ
def frzE (ρ : Ev) : Ev := (List.range ρ.length).foldl frz1 ρ
theorem SI.frz1 (I : SI T B G0 H0 ρ σ G H) (i : Nat) : ∃ G', SI T B G0 H0 (frz1 ρ i) σ G' H ∧ Same G G' := by
  unfold DL.frz1
  split
  · rename_i xs e
    obtain ⟨v, h1, a, vs, rfl, h2, h3, h4, r⟩ := I.sl i _ e (fun z => by cases z)
    have F := I.forget i
    have ap : ∀ (k : Nat) u, (ρ.set i .un)[k]? = some u → u.own = true → σ[k]? ≠ some (some (.ref a)) := fun k u e1 o z => by
      by_cases hk : k = i
      · subst hk
        rw [List.getElem?_set_self', e] at e1
        cases e1
        cases o
      · rw [List.getElem?_set_ne (Ne.symm hk)] at e1
        exact I.ap k i u _ (.ref a) hk e1 e o rfl z h1
    obtain ⟨J, k⟩ := F.freeze h2 h4 ap h3 ntb_lst
    have r2 : Rp T (upd G a (.lst vs)) (.ref a) (.list xs) := .lst upd_same (r.mono k)
    have J2 := J.slot (s := .d (.list xs)) h1 r2 (fun z => by cases z)
    rw [List.set_set] at J2
    exact ⟨_, J2, k⟩
  · exact ⟨G, I, Same.refl _⟩
theorem SI.frzE (I : SI T B G0 H0 ρ σ G H) : ∃ G', SI T B G0 H0 (frzE ρ) σ G' H ∧ Same G G' := by
  have key : ∀ (l : List Nat) (ρ : Ev) (G : Hp), SI T B G0 H0 ρ σ G H → ∃ G', SI T B G0 H0 (l.foldl DL.frz1 ρ) σ G' H ∧ Same G G' := by
    intro l
    induction l with
    | nil => exact fun ρ G I => ⟨G, I, Same.refl _⟩
    | cons i l ih =>
      intro ρ G I
      obtain ⟨G1, I1, k1⟩ := I.frz1 i
      obtain ⟨G2, I2, k2⟩ := ih _ G1 I1
      exact ⟨G2, I2, k1.trans k2⟩
  exact key _ ρ G I
def hid1 : Slot → Slot
  | .d x => .d x
  | _ => .un
/-- the lambda's body sees data alone -/
theorem SI.inner (I : SI T B G0 H0 ρ σ G H) : SI T none G (stripT T H) (ρ.map hid1) σ G H := by
  have get : ∀ (i : Nat) s, (ρ.map hid1)[i]? = some s → s ≠ .un → ∃ x, s = .d x ∧ ρ[i]? = some (.d x) := fun i s e n => by
    rw [List.getElem?_map] at e
    cases q : ρ[i]? with
    | none => rw [q] at e; cases e
    | some u =>
      rw [q] at e
      cases e
      cases u with
      | d x => exact ⟨x, rfl, rfl⟩
      | un => exact absurd rfl n
      | o _ => exact absurd rfl n
      | b _ => exact absurd rfl n
      | j _ _ => exact absurd rfl n
      | t _ => exact absurd rfl n
  refine ⟨Same.refl _, I.gh, fun _ _ e _ => (strip_some e).1, fun _ z => .inl z, fun a e => (by cases e), by rw [List.length_map]; exact I.ln, fun i s e n => ?_, fun i k s u v ne e1 e2 o1 o2 s1 s2 => ?_, I.tb.1, fun p hp => ⟨(I.tb.2 p hp).1, strip_tab hp⟩⟩
  · obtain ⟨x, rfl, e2⟩ := get i s e n
    obtain ⟨v, h1, h2⟩ := I.sl i _ e2 (fun z => by cases z)
    exact ⟨v, h1, h2⟩
  · obtain ⟨x, rfl, _⟩ := get i s e1 (fun z => by subst z; cases o1)
    cases o1
def atomD : D → Bool
  | .none => true
  | .bool _ => true
  | .int _ => true
  | .str _ => true
  | _ => false
theorem Rp.atom {v : V} {x : D} (h : Rp T G v x) (a : atomD x = true) : Rp T G' v x := by
  cases h with
  | non => exact .non
  | bl b => exact .bl b
  | int i => exact .int i
  | str x => exact .str x
  | lst _ _ => cases a
  | tup _ _ => cases a
  | ins _ _ _ _ => cases a
  | fn k _ => cases a
  | scr _ _ => cases a
  | dct _ => cases a
  | tab _ _ => cases a
/-- what the def makes of an error: sE its wish, hd what it tells -/
def SaidOk (T : Kt) (sE : VK → XK) (hd : Int → D → Option D) : Prop := ∀ (Q : VK) c x y H' d v G, hd c x = some y → H' d = some (.xd [(excF c, v)]) → Rp T G v x → Same G H' → (∀ u G2 H2, Al G H' G2 H2 → Rp T G2 u y → Q u H2) → sE Q (.ref (He.ga T.K (excN c))) (some d) H'
def saidR (hd : Int → D → Option D) : R (Slot × Ev) → Option D
  | .ok _ => some .none
  | .exc c x => if atomD x then hd c x else none
  | .no => none
def saidM (hd : Int → D → Option D) (mb : M Slot) : M Slot := fun ρ => match saidR hd (mb ((frzE ρ).map hid1)) with
  | some y => .ok (.d y, frzE ρ)
  | none => .no
/-- the call of one lambda, from the maker's slots -/
theorem said_one {tb : TE} {sE : VK → XK} {hd : Int → D → Option D} {mb : M Slot} {y : D} {Q : VK} (hh : SaidOk T sE hd) (hb : De T (sE Q) tb mb) (I : SI T B G0 H0 ρ σ G H) (hy : saidR hd (mb (ρ.map hid1)) = some y)
    (q : ∀ u G' H', SI T B G0 H0 ρ σ G' H' → Same G G' → Rp T G' u y → NotT T.tbs H H' → Q u H') : tb σ H (fun _ H1 => Q .non H1) := by
  refine Pt.q.mp (hb none G (stripT T H) _ σ G H I.inner) (fun _ H1 => Q .non H1) ?_
  revert hy
  cases mb (ρ.map hid1) with
  | no => exact fun hy => by cases hy
  | ok z =>
    intro hy b G' H' J' k' _
    cases hy
    exact q .non G' H' (I.alT k' J'.gh (fun a o e na => J'.hh a o (by rw [strip_na na]; exact e) (fun z => by cases z)) (nw_strip J') J'.tb.1) k' .non (fun a o e na => J'.hh a o (by rw [strip_na na]; exact e) (fun z => by cases z))
  | exc c x =>
    intro hy H' d v f n e r tt
    unfold saidR at hy
    dsimp only at hy
    split at hy
    · rename_i ha
      have k3 : ∀ a o, H a = some o → Na T a → H' a = some o := fun a o e na => f a o (by rw [strip_na na]; exact e) (fun z => by cases z)
      have gh : Same G H' := fun a o e => k3 a o (I.gh a o e) fun p hp z => by rw [z, (I.tb.2 p hp).1] at e; cases e
      refine hh Q c x y H' d v G hy e (r.atom ha) gh fun u G2 H2 al ru => ?_
      have J := (I.alT (Same.refl _) gh k3 (fun a h => .inl h) tt).al al
      exact q u G2 H2 J al.gg ru fun a o e na => al.hh _ _ (k3 a o e na)
    · cases hy
theorem de_said {X : Cx} {params : Arguments} {body : Expr} {scope : Scope} {dvs : List V} {tb : XK → TE} {spT : (Addr → XK → Hp → VK → Prop) → Sp} {sE : VK → XK} {hd : Int → D → Option D} {mb : M Slot}
    (hs : ∀ (al : Addr → XK → Hp → VK → Prop) f H Q E, al f (sE Q) H (fun _ H1 => Q .non H1) → spT al [.ref f] H Q E) (hh : SaidOk T sE hd) (hb : ∀ E', De T E' (tb E') mb) :
    De T E (fun σ H Q => tCons (tLamT T.tbs X params body scope dvs) tNil σ H fun vs H1 => spT (tlLam X params body scope dvs tb σ) vs H1 Q (fun _ _ _ => False)) (saidM hd mb) := by
  intro B G0 H0 ρ σ G H I
  obtain ⟨Gf, If, kf⟩ := I.frzE
  unfold saidM
  cases hy : saidR hd (mb ((frzE ρ).map hid1)) with
  | none => exact Pt.no
  | some y =>
    refine Pt.q.mpr fun Q q => ⟨If.tb.1, fun f H1 k _ t1 n il => hs _ f H1 Q _ ⟨il.lam, ?_⟩⟩
    have gh : Same Gf H1 := fun a o e => k a o (If.gh a o e) fun p hp z => by rw [z, (If.tb.2 p hp).1] at e; cases e
    have I1 := If.alT (Same.refl _) gh k (fun a h => .inl h) t1
    exact said_one hh (hb _) I1 hy fun u G' H' J k' r _ => q u G' H' J (kf.trans k') (vok_d r)
end
end DL
/-! NCSaid2: lambdas as data; defs that make them. -/
namespace DL
open PySem PySem.Spec PyProof.Rows L2 LamX NCLam
/-! ### another meaning of the defs and lambdas that are values -/
abbrev Kt.withF (T : Kt) (F : Int → Hp → Addr → Prop) : Kt := ⟨T.K, F, T.P, T.w, T.tbs⟩
section
variable {T : Kt} {B : Option Addr} {G0 H0 G H G' H' : Hp} {ρ : Ev} {σ : L2.St} {E : XK} {F : Int → Hp → Addr → Prop}
mutual
theorem Rp.toF (hF : ∀ k G a, T.isF k G a → F k G a) : ∀ {v : V} {d : D}, Rp T G v d → Rp (T.withF F) G v d
  | _, _, .non => .non
  | _, _, .bl b => .bl b
  | _, _, .int i => .int i
  | _, _, .str x => .str x
  | _, _, .lst h r => .lst h (RpL.toF hF r)
  | _, _, .tup h r => .tup h (RpL.toF hF r)
  | _, _, .ins i h1 e r => .ins i h1 e (RpL.toF hF r)
  | _, _, .fn n h => .fn n fun G2 k2 => hF _ _ _ (h G2 k2)
  | _, _, .scr h r => .scr h (RpL.toF hF r)
  | _, _, .dct h => .dct h
  | _, _, .tab h r => .tab h (RpK.toF hF r)
theorem RpL.toF (hF : ∀ k G a, T.isF k G a → F k G a) : ∀ {vs : List V} {ds : List D}, RpL T G vs ds → RpL (T.withF F) G vs ds
  | _, _, .nil => .nil
  | _, _, .cons h r => .cons (Rp.toF hF h) (RpL.toF hF r)
theorem RpK.toF (hF : ∀ k G a, T.isF k G a → F k G a) : ∀ {xs : List XEnt} {ps : List (D × D)}, RpK T G xs ps → RpK (T.withF F) G xs ps
  | _, _, .nil => .nil
  | _, _, .cons e h1 h2 r => .cons e (Rp.toF hF h1) (Rp.toF hF h2) (RpK.toF hF r)
end
theorem ArgOk.toF (hF : ∀ k G a, T.isF k G a → F k G a) {vs : List V} {as : List Slot} (h : ArgOk T G H B vs as) : ArgOk (T.withF F) G H B vs as := by
  induction h with
  | nil => exact .nil
  | d h _ ih => exact .d (h.toF hF) ih
  | b h1 h2 r _ ih => exact .b h1 h2 (r.toF hF) ih
  | j ik h1 h2 h3 r _ ih => exact .j ik h1 h2 h3 (r.toF hF) ih
theorem Rp.atomF {v : V} {x : D} (h : Rp (T.withF F) G v x) (a : atomD x = true) : Rp T G v x := by
  cases h with
  | non => exact .non
  | bl b => exact .bl b
  | int i => exact .int i
  | str x => exact .str x
  | lst _ _ => cases a
  | tup _ _ => cases a
  | ins _ _ _ _ => cases a
  | fn k _ => cases a
  | scr _ _ => cases a
  | dct _ => cases a
  | tab _ _ => cases a
theorem RpL.atomF : ∀ {vs : List V} {xs : List D}, RpL (T.withF F) G vs xs → xs.all atomD = true → RpL T G vs xs
  | _, _, .nil, _ => .nil
  | _, _, .cons h r, a => by
    rw [List.all_cons, Bool.and_eq_true] at a
    exact .cons (h.atomF a.1) (r.atomF a.2)
def backA : Slot → Bool
  | .un => true
  | .b xs => xs.all atomD
  | _ => false
theorem BackOk.atomF {s : Slot} (h : BackOk (T.withF F) B G H s) (a : backA s = true) : BackOk T B G H s := by
  cases s with
  | un => trivial
  | d _ => cases a
  | o _ => cases a
  | b xs =>
    obtain ⟨b, vs, e, h1, h2, r⟩ := h
    exact ⟨b, vs, e, h1, h2, r.atomF a⟩
  | j _ _ => cases a
  | t _ => cases a
/-- a def that makes lambdas: its result is plain -/
def runA (f : M Out) (n : Nat) (as : List Slot) : R (Slot × Slot) := match runB f n as with
  | .ok (.d x, s') => if atomD x && backA s' then .ok (.d x, s') else .no
  | _ => .no
theorem body_okL {t : TS} {f : M Out} {N : List Str} {n : Nat} {vs : List V} {Q : VK} (hF : ∀ k G a, T.isF k G a → F k G a) (hb : Ds (T.withF F) E t f) (hn : n ≤ N.length) (h : dSp T n (runA f N.length) vs H Q E) : t { nx := fun _ H' => Q .non H', rt := Q } (L2.start N vs) H := by
  refine body_ok (T := T.withF F) (n := n) hb hn ?_
  obtain ⟨hl, tt, G, B, as, g, gt, ha, q⟩ := h
  refine ⟨hl, tt, G, B, as, g, gt, ha.toF hF, ?_⟩
  unfold runA at q
  revert q
  cases runB f N.length as with
  | no => exact fun q => q
  | exc c x => exact fun q => q.elim
  | ok z =>
    obtain ⟨s, s'⟩ := z
    cases s with
    | d x =>
      by_cases hc : (atomD x && backA s') = true
      · obtain ⟨h1, h2⟩ := Bool.and_eq_true_iff.mp hc
        show (match (if (atomD x && backA s') = true then R.ok (Slot.d x, s') else R.no) with | .ok (s, s') => _ | .exc c x => _ | .no => _) → _
        rw [if_pos hc]
        intro q v G' H' k1 k2 k3 k4 bk rn tt
        exact q v G' H' k1 k2 k3 k4 (bk.atomF h2) (Rp.atomF rn h1) tt
      · show (match (if (atomD x && backA s') = true then R.ok (Slot.d x, s') else R.no) with | .ok (s, s') => _ | .exc c x => _ | .no => _) → _
        rw [if_neg hc]
        exact fun q => q.elim
    | un => exact fun q => q.elim
    | o _ => exact fun q => q.elim
    | b _ => exact fun q => q.elim
    | j _ _ => exact fun q => q.elim
    | t _ => exact fun q => q.elim
/-! ### a lambda as data -/
theorem de_lam {X : Cx} {params : Arguments} {body : Expr} {scope : Scope} {dvs : List V} (k : Int) (hi : ∀ G a, IsLam X params body scope dvs G a → T.isF k G a) : De T E (tLamT T.tbs X params body scope dvs) (cE (dFn k)) := by
  intro B G0 H0 ρ σ G H I
  refine Pt.ok fun Q q => ⟨I.tb.1, fun f H1 k3 en t1 n il => ?_⟩
  obtain ⟨c', dV, h1, h2, h3⟩ := il
  let W : Addr → Prop := fun a => a = f ∨ a = c' ∨ dV = .ref a
  let G1 : Hp := fun a => open Classical in if W a then H1 a else G a
  have up : ∀ a o, G a = some o → H1 a = some o := fun a o e => k3 a o (I.gh a o e) fun p hp z => by rw [z, (I.tb.2 p hp).1] at e; cases e
  have inW : ∀ {a}, W a → G1 a = H1 a := fun {a} h => by show (if W a then H1 a else G a) = H1 a; rw [if_pos h]
  have outW : ∀ {a}, ¬ W a → G1 a = G a := fun {a} h => by show (if W a then H1 a else G a) = G a; rw [if_neg h]
  have k1 : Same G G1 := fun a o e => by
    by_cases h : W a
    · rw [inW h]; exact up a o e
    · rw [outW h]; exact e
  have k2 : Same G1 H1 := fun a o e => by
    by_cases h : W a
    · rw [inW h] at e; exact e
    · rw [outW h] at e; exact up a o e
  have k4 : ∀ a, G1 a ≠ none → G a ≠ none ∨ H a = none ∨ CodeAt (G1 a) := fun a na => by
    by_cases h : W a
    · rcases h with h | h | h
      · rw [h]; exact .inr (.inl n)
      · refine .inr (.inr ⟨c', X.env.qual ++ "<lambda>", ?_⟩)
        rw [h, inW (.inr (.inl rfl))]
        exact h2
      · rcases h3 with ⟨_, z⟩ | ⟨T', _, z, _, h4⟩
        · rw [z] at h; cases h
        · rw [z] at h; cases h; exact .inr (.inl h4)
    · rw [outW h] at na; exact .inl na
  refine q (.ref f) G1 H1 (I.alT k1 k2 k3 k4 t1) k1 (vok_d (.fn k fun G2 kk => hi G2 f ⟨c', dV, kk _ _ ?_, kk _ _ ?_, ?_⟩))
  · rw [inW (.inl rfl)]; exact h1
  · rw [inW (.inr (.inl rfl))]; exact h2
  · rcases h3 with z | ⟨T', z0, z1, z2, _⟩
    · exact .inl z
    · exact .inr ⟨T', z0, z1, kk _ _ (by rw [inW (.inr (.inr z1))]; exact z2)⟩
/-- a new empty dict as data -/
theorem de_dct : De T E tDNewT (cE dDct) := by
  intro B G0 H0 ρ σ G H I
  refine Pt.ok fun Q q p n => ?_
  have al := Al.new (o := .dT []) I.gh n
  exact q (.ref p) _ _ (I.al al) al.gg (vok_d (.dct upd_same))
/-- nothing is raised here -/
def noX {α : Type} (f : M α) : M α := fun ρ => match f ρ with
  | .exc _ _ => .no
  | .ok z => .ok z
  | .no => .no
theorem dq_noX {α β : Type} {Rel : Rl α β} {t : L2.St → Hp → (β → Hp → Prop) → Prop} {f : M α} (h : Dq T (fun _ _ _ => False) Rel t f) : Dq T E Rel t (noX f) := by
  intro B G0 H0 ρ σ G H I
  have := h B G0 H0 ρ σ G H I
  unfold noX
  revert this
  cases f ρ with
  | no => exact fun _ _ => trivial
  | exc c x => exact fun _ _ => trivial
  | ok z => exact fun h => h
/-! ### several lambdas handed to a def that asks that all of them raise the same -/
def isFalse : Option Slot → Bool
  | some (.d (.bool false)) => true
  | _ => false
theorem isFalse_eq {s : Option Slot} (h : isFalse s = true) : s = some (.d (.bool false)) := by
  unfold isFalse at h
  split at h
  · rfl
  · cases h
def allSp (T : Kt) (sE : VK → XK) (al : Addr → XK → Hp → VK → Prop) : Sp := fun vs H Q _ => ∃ (l : Addr) (fs : List Addr) (wv : V) (w : D) (Iv : Hp → Prop), vs = [.ref l, wv] ∧ fs.length ≤ 1000 ∧ Iv H ∧
  (∀ H1 H2, Iv H1 → Same H1 H2 → Iv H2) ∧ (∀ H', Iv H' → LamX.Tabs T.tbs H' ∧ H' l = some (.lst (fs.map V.ref))) ∧
  (∀ f ∈ fs, ∀ H' (Q' : VK), Iv H' → (∀ u H2, Iv H2 → NotT T.tbs H' H2 → (∃ G2 y, Same G2 H2 ∧ Rp T G2 u y ∧ Rp T G2 wv w ∧ opNe y w = some (.d (.bool false))) → Q' u H2) → al f (sE Q') H' (fun _ H1 => Q' .non H1)) ∧
  ∀ H', Iv H' → Q (.bl true) H'
def LamK (T : Kt) (tl : L2.St → Addr → XK → Hp → VK → Prop) (k : Int) (mb : M Slot) : Prop := ∃ tb : XK → TE, (∀ E', De T E' (tb E') mb) ∧ ∀ σ f E G H Q, T.isF k G f → Same G H → tb E σ H Q → tl σ f E H Q
def lamY (hd : Int → D → Option D) (tab : Int → Option (M Slot)) (ρ : Ev) (w : D) : D → Bool
  | PyData.dict [(PyData.none, PyData.int k)] => match tab k with
    | some mb => match saidR hd (mb ρ) with
      | some y => isFalse (opNe y w)
      | none => false
    | none => false
  | _ => false
def allM (hd : Int → D → Option D) (tab : Int → Option (M Slot)) (fa : M (List D)) : M Slot := bd fa fun xs ρ => match xs with
  | [.list ds, w] => if Nat.ble ds.length 1000 && ds.all (lamY hd tab ((frzE ρ).map hid1) w) then .ok (.d (.bool true), frzE ρ) else .no
  | _ => .no
theorem lams_at {hd : Int → D → Option D} {tab : Int → Option (M Slot)} {w : D} : ∀ {ws : List V} {ds : List D}, RpL T G ws ds → ds.all (lamY hd tab ρ w) = true → ∃ fs : List Addr, ws = fs.map V.ref ∧ fs.length = ds.length ∧
    ∀ f ∈ fs, ∃ k mb y, (∀ G', Same G G' → T.isF k G' f) ∧ tab k = some mb ∧ saidR hd (mb ρ) = some y ∧ opNe y w = some (.d (.bool false))
  | _, _, .nil, _ => ⟨[], rfl, rfl, fun f h => by cases h⟩
  | _, _, .cons (v := v) (d := d) h r, a => by
    rw [List.all_cons, Bool.and_eq_true] at a
    obtain ⟨fs, e, l, hf⟩ := lams_at r a.2
    have a1 := a.1
    unfold lamY at a1
    split at a1
    · rename_i k
      split at a1
      · rename_i mb em
        split at a1
        · rename_i y ey
          cases h with
          | fn k h =>
            rename_i f
            refine ⟨f :: fs, by rw [e]; rfl, by rw [List.length_cons, List.length_cons, l], fun g hg => ?_⟩
            rcases List.mem_cons.mp hg with rfl | hg
            · exact ⟨k, mb, y, h, em, ey, isFalse_eq a1⟩
            · exact hf g hg
        · cases a1
      · cases a1
    · cases a1
theorem de_all {tl : L2.St → Addr → XK → Hp → VK → Prop} {sE : VK → XK} {hd : Int → D → Option D} {tab : Int → Option (M Slot)} {ta : TA} {fa : M (List D)} (ha : Da T E ta fa) (hh : SaidOk T sE hd) (hl : ∀ k mb, tab k = some mb → LamK T tl k mb) :
    De T E (fun σ H Q => ta σ H fun vs H1 => allSp T sE (tl σ) vs H1 Q (fun _ _ _ => False)) (allM hd tab fa) := by
  intro B G0 H0 ρ σ G H I
  refine Pt.bd (t := ta σ) (u := fun vs H1 (Q : VK) => allSp T sE (tl σ) vs H1 Q (fun _ _ _ => False)) (ha B G0 H0 ρ σ G H I) fun xs ρ1 vs G1 H1 e I1 k1 r1 => ?_
  split
  · rename_i ds w
    split
    · rename_i hc
      obtain ⟨hc1, hc2⟩ := Bool.and_eq_true_iff.mp hc
      cases r1 with
      | cons h1 r1 =>
        cases r1 with
        | cons h2 r1 =>
          cases r1
          cases h1 with
          | lst hl1 r2 =>
            rename_i l ws
            obtain ⟨Gf, If, kf⟩ := I1.frzE
            obtain ⟨fs, rfl, lf, hf⟩ := lams_at r2 hc2
            refine Pt.q.mpr fun Q q => ⟨l, fs, _, w, fun H' => ∃ G', SI T B G0 H0 (frzE ρ1) σ G' H' ∧ Same Gf G', rfl, by rw [lf]; exact Nat.le_of_ble_eq_true hc1, ⟨Gf, If, Same.refl _⟩, fun Ha Hb ⟨G', J, kk⟩ s => ⟨G', J.al ⟨Same.refl _, s, J.gh.trans s, fun _ h => .inl h⟩, kk⟩, fun H' ⟨G', J, kk⟩ => ⟨J.tb.1, J.gh _ _ (kk _ _ (kf _ _ hl1))⟩, fun f hm H' Q' ⟨G', J, kk⟩ wish => ?_, fun H' ⟨G', J, kk⟩ => q (.bl true) G' H' J (kf.trans kk) (vok_d (.bl true))⟩
            obtain ⟨k, mb, y, hk, em, ey, en⟩ := hf f hm
            obtain ⟨tb, hb, ht⟩ := hl k mb em
            refine ht σ f (sE Q') G' H' _ (hk G' (kf.trans kk)) J.gh (said_one hh (hb _) J ey fun u G2 H2 J2 k2 r nt => ?_)
            exact wish u H2 ⟨G2, J2, kk.trans k2⟩ nt ⟨G2, y, J2.gh, r, h2.mono ((kf.trans kk).trans k2), en⟩
    · exact Pt.no
  · exact Pt.no
end
end DL
namespace DL
open PySem PySem.Spec PyProof.Rows L2 LamX NCLam
/-- room for a def's own lambdas -/
theorem exF (F : Int → Hp → Addr → Prop) (lo : Int) (ls : List (Hp → Addr → Prop)) (hF : ∀ k G a, F k G a → lo + ls.length ≤ k) : ∃ F' : Int → Hp → Addr → Prop, (∀ k G a, F k G a → F' k G a) ∧ (∀ k G a, F' k G a → lo ≤ k) ∧ ∀ (i : Nat) p, ls[i]? = some p → ∀ G a, p G a ↔ F' (lo + i) G a := by
  refine ⟨fun k G a => F k G a ∨ ∃ (i : Nat) (p : Hp → Addr → Prop), k = lo + i ∧ ls[i]? = some p ∧ p G a, fun k G a h => .inl h, fun k G a h => ?_, fun i p e G a => ⟨fun h => .inr ⟨i, p, rfl, e, h⟩, fun h => ?_⟩⟩
  · rcases h with h | ⟨i, p, rfl, _⟩
    · have := hF k G a h
      omega
    · omega
  · rcases h with h | ⟨j, p', e1, e2, h⟩
    · have := hF _ G a h
      have hi : i < ls.length := (List.getElem?_eq_some_iff.mp e).1
      omega
    · have : i = j := by omega
      subst this
      rw [e] at e2
      cases e2
      exact h
def lookL (l : List (Int × M Slot)) (k : Int) : Option (M Slot) := match l with
  | [] => none
  | p :: l => if p.1 == k then some p.2 else lookL l k
def AllK (T : Kt) (tl : L2.St → Addr → XK → Hp → VK → Prop) (l : List (Int × M Slot)) : Prop := ∀ p ∈ l, LamK T tl p.1 p.2
theorem allK_nil {T : Kt} {tl : L2.St → Addr → XK → Hp → VK → Prop} : AllK T tl [] := fun p h => by cases h
theorem allK_cons {T : Kt} {tl : L2.St → Addr → XK → Hp → VK → Prop} {k : Int} {mb : M Slot} {l : List (Int × M Slot)} (h : LamK T tl k mb) (r : AllK T tl l) : AllK T tl ((k, mb) :: l) := fun p hp => by
  rcases List.mem_cons.mp hp with rfl | hp
  · exact h
  · exact r p hp
theorem AllK.at {T : Kt} {tl : L2.St → Addr → XK → Hp → VK → Prop} {l : List (Int × M Slot)} (h : AllK T tl l) : ∀ k mb, lookL l k = some mb → LamK T tl k mb := by
  induction l with
  | nil => intro k mb e; cases e
  | cons p l ih =>
    intro k mb e
    unfold lookL at e
    split at e
    · rename_i hk
      cases e
      have : p.1 = k := by simpa using hk
      rw [← this]
      exact h p (List.mem_cons_self ..)
    · exact ih (fun q hq => h q (List.mem_cons_of_mem _ hq)) k mb e
def isTrue : R (Out × Ev) → Bool
  | .ok (.rt (.d (.bool true)), _) => true
  | _ => false
/-- a law that does not look at its script -/
theorem law_okU {T : Kt} {E : XK} {H : Hp} {t : TS} {f : M Out} {N : List Str} {vs : List V} {Q : VK} (hb : Ds T E t f) (tt : LamX.Tabs T.tbs H) (hn : vs.length ≤ N.length) (hr : isTrue (f (List.replicate N.length .un)) = true) (q : ∀ H', Q (.bl true) H') : t { nx := fun _ H' => Q .non H', rt := Q } (L2.start N vs) H := by
  have I : SI T none (fun _ => none) (stripT T H) (List.replicate N.length .un) (L2.start N vs) (fun _ => none) H := by
    have un : ∀ (i : Nat) s, (List.replicate N.length Slot.un)[i]? = some s → s = .un := fun i s e => by
      rw [List.getElem?_replicate] at e
      split at e
      · cases e; rfl
      · cases e
    refine ⟨Same.refl _, fun _ _ e => (by cases e), fun _ _ e _ => (strip_some e).1, fun _ z => absurd rfl z, fun a e => (by cases e), ?_, fun i s e n => absurd (un i s e) n, fun i k s u v ne e1 e2 o1 o2 s1 s2 => ?_, tt, fun p hp => ⟨rfl, strip_tab hp⟩⟩
    · unfold L2.start
      rw [List.length_append, List.length_replicate, List.length_map, List.length_replicate]
      omega
    · rw [un i s e1] at o1; cases o1
  refine Ps.q.mp (Ps.of hb I) _ ?_
  revert hr
  cases f (List.replicate N.length Slot.un) with
  | no => exact fun z => by cases z
  | exc c x => exact fun z => by cases z
  | ok z =>
    obtain ⟨o, ρ'⟩ := z
    cases o with
    | nx => exact fun z => by cases z
    | bk => exact fun z => by cases z
    | ct => exact fun z => by cases z
    | rt s =>
      cases s with
      | d x =>
        cases x with
        | bool b =>
          cases b with
          | true =>
            intro _ v σ' G' H' I' k r
            have r1 : Rp T G' v (.bool true) := r.1
            cases r1
            exact q H'
          | false => exact fun z => by cases z
        | none => exact fun z => by cases z
        | int _ => exact fun z => by cases z
        | str _ => exact fun z => by cases z
        | list _ => exact fun z => by cases z
        | tuple _ => exact fun z => by cases z
        | dict _ => exact fun z => by cases z
      | un => exact fun z => by cases z
      | o _ => exact fun z => by cases z
      | b _ => exact fun z => by cases z
      | j _ _ => exact fun z => by cases z
      | t _ => exact fun z => by cases z
end DL
/-! NCSaid3: defs as values, called by a local name; a new list lent for one call. -/
namespace DL
open PySem PySem.Spec PyProof.Rows L2 LamX NCLam
section
variable {T : Kt} {B : Option Addr} {G0 H0 G H G' H' : Hp} {ρ : Ev} {σ : L2.St} {E : XK}
def fnR (l : List (Addr × Sp)) (f : Addr) (sp : Sp) : Prop := (f, sp) ∈ l
def lookM (l : List (Int × Mir)) (k : Int) : Option Mir := match l with
  | [] => none
  | p :: l => if p.1 == k then some p.2 else lookM l k
theorem lookM_mem {l : List (Int × Mir)} {k : Int} {g : Mir} (e : lookM l k = some g) : (k, g) ∈ l := by
  induction l with
  | nil => cases e
  | cons p l ih =>
    unfold lookM at e
    split at e
    · rename_i hk
      cases e
      have : p.1 = k := by simpa using hk
      rw [← this]
      exact List.mem_cons_self ..
    · exact List.mem_cons_of_mem _ (ih e)
def callF (i : Nat) (tab : Int → Option Mir) (fa : M (List D)) : M Slot := fun ρ => match ρ[i]? with
  | some (.d (PyData.dict [(PyData.none, PyData.int k)])) => match tab k with
    | some g => callE g fa ρ
    | none => .no
  | _ => .no
theorem de_callF {R : Addr → Sp → Prop} {tab : Int → Option Mir} {n : Nat} {t : TA} {f : M (List D)} (i : Nat) (hR : ∀ k g, tab k = some g → ∀ G a, T.isF k G a → R a (dSp T n g)) (h : Da T E t f) (hn : ∀ ρ xs ρ', f ρ = .ok (xs, ρ') → xs.length = n) : De T E (tCallR i R E t) (callF i tab f) := by
  intro B G0 H0 ρ σ G H I
  unfold callF
  split
  · rename_i k e
    split
    · rename_i g eg
      obtain ⟨v, h1, r⟩ := I.sl i _ e (fun z => by cases z)
      have r : Rp T G v (dFn k) := r
      cases r with
      | fn k hk =>
        rename_i a
        refine Pt.q.mpr fun Q q => ⟨a, dSp T n g, h1, hR k g eg G a (hk G (Same.refl _)), ?_⟩
        have := Pt.q.mp (de_call (g := g) h hn B G0 H0 ρ σ G H I) Q q
        have e0 : (fun (vs : List V) (H1 : Hp) => dSp T n g (vs ++ []) H1 Q E) = fun vs H1 => dSp T n g vs H1 Q E := by
          funext vs H1
          rw [List.append_nil]
        have this : t σ H (fun vs H1 => dSp T n g (vs ++ []) H1 Q E) := this
        rw [e0] at this
        exact this
    · exact Pt.no
  · exact Pt.no
/-- f(e, ..): a new list is lent for the call -/
def tmpE (g : Mir) (f0 : M Slot) (fa : M (List D)) : M Slot := bd f0 fun s => match s with
  | .o ys => bd fa fun xs ρ => match g (.b ys :: xs.map Slot.d) with
    | .ok (r, .b _) => .ok (r, ρ)
    | .exc c x => .exc c x
    | _ => .no
  | _ => fun _ => .no
theorem de_tmp {n : Nat} {g : Mir} {t0 : TE} {t : TA} {f0 : M Slot} {fa : M (List D)} (h0 : De T E t0 f0) (ha : Da T E t fa) (hn : ∀ ρ xs ρ', fa ρ = .ok (xs, ρ') → xs.length = n) : De T E (tCall (dSp T (n + 1) g) [] E (tCons t0 t)) (tmpE g f0 fa) := by
  intro B G0 H0 ρ σ G H I
  refine Pt.bd (t := t0 σ) (u := fun v H1 (Q : VK) => t σ H1 fun vs H2 => dSp T (n + 1) g ((v :: vs) ++ []) H2 Q E) (h0 B G0 H0 ρ σ G H I) fun s ρ1 v G1 H1 _ I1 k1 r1 => ?_
  cases s with
  | un => exact Pt.no
  | d _ => exact Pt.no
  | b _ => exact Pt.no
  | j _ _ => exact Pt.no
  | t _ => exact Pt.no
  | o ys =>
    obtain ⟨⟨a, vs0, rfl, h1, h2, h3, r⟩, _, no⟩ := r1
    have J := I1.pin h1 h2 h3 (no rfl) ntb_lst
    refine Pt.q.mpr fun Q q => ?_
    refine Pt.q.mp (ha B G0 (upd H0 a (.lst vs0)) ρ1 σ G1 H1 J) _ ?_
    dsimp only at q
    unfold DL.bd at q
    cases e : fa ρ1 with
    | no => rw [e] at q; exact q
    | exc c x => rw [e] at q; exact XW.pin q h3
    | ok z =>
      obtain ⟨xs, ρ2⟩ := z
      rw [e] at q
      intro vs G2 H2 J2 k2 r2
      obtain ⟨I2, ha2, hg2, no2⟩ := J2.unpin h3 (I1.nob h3) (I1.g0 h2) ntb_lst
      rw [List.append_nil]
      refine ⟨by rw [List.length_cons, r2.len, hn _ _ _ e], I2.tb.1, G2, some a, .b ys :: xs.map Slot.d, I2.gh, fun p hp => (I2.tb.2 p hp).1, .b ha2 hg2 (r.mono k2) (args_d r2), ?_⟩
      revert q
      dsimp only
      cases g (.b ys :: xs.map Slot.d) with
      | no => exact fun q => q
      | exc c x => exact fun q H' d v f n e' r' tt => q H' d v (fun b o qb nb => f b o (by rw [strip_na (I2.na0 qb)]; exact I2.hh b o qb nb) (fun z => by cases z; rw [h3] at qb; cases qb)) (I2.h0s n) e' r' tt
      | ok z =>
        obtain ⟨s, s'⟩ := z
        cases s' with
        | un => exact fun q => q.elim
        | d _ => exact fun q => q.elim
        | o _ => exact fun q => q.elim
        | j _ _ => exact fun q => q.elim
        | t _ => exact fun q => q.elim
        | b ws =>
          intro q v G' H' k1' k2' k3' k4' bk rn tt
          obtain ⟨a', vs', ea, ga, ha', r'⟩ := bk
          cases ea
          have J3 := I2.alT (G' := G') (H' := upd H' a (.lst vs0)) k1' (fun b o q => by
              rw [upd_ne (fun z => by rw [z, ga] at q; cases q)]; exact k2' b o q) (fun b o q na => by
              by_cases hb : b = a
              · rw [hb, upd_same]; rw [hb, ha2] at q; exact q
              · rw [upd_ne hb]; exact k3' b o q (fun z => hb (Option.some.inj z).symm) na) k4' (tabs_upd tt ha' ntb_lst)
          have J4 := J3.wrFree (a := a) (o := .lst vs') ga h3 no2 (fun u z => by rw [upd_same] at z; cases z; exact ntb_lst)
          have eq : upd (upd H' a (.lst vs0)) a (.lst vs') = H' := by
            rw [upd_upd]
            funext b
            by_cases hb : b = a
            · rw [hb, upd_same, ha']
            · rw [upd_ne hb]
          rw [eq] at J4
          exact q v G' H' J4 (k2.trans k1') (I2.vok rn)
/-! ### a law that looks at its script -/
theorem rpl_ints : ∀ ns : List Int, RpL T G (ns.map V.int) (ns.map PyData.int)
  | [] => .nil
  | n :: ns => .cons (.int n) (rpl_ints ns)
theorem true_end {t : TS} {f : M Out} {Q : VK} (hb : Ds T E t f) (I : SI T B G0 H0 ρ σ G H) (hr : isTrue (f ρ) = true) (q : ∀ H', Q (.bl true) H') : t { nx := fun _ H' => Q .non H', rt := Q } σ H := by
  refine Ps.q.mp (Ps.of hb I) _ ?_
  revert hr
  cases f ρ with
  | no => exact fun z => by cases z
  | exc c x => exact fun z => by cases z
  | ok z =>
    obtain ⟨o, ρ'⟩ := z
    cases o with
    | nx => exact fun z => by cases z
    | bk => exact fun z => by cases z
    | ct => exact fun z => by cases z
    | rt s =>
      cases s with
      | d x =>
        cases x with
        | bool b =>
          cases b with
          | true =>
            intro _ v σ' G' H' I' k r
            have r1 : Rp T G' v (.bool true) := r.1
            cases r1
            exact q H'
          | false => exact fun z => by cases z
        | none => exact fun z => by cases z
        | int _ => exact fun z => by cases z
        | str _ => exact fun z => by cases z
        | list _ => exact fun z => by cases z
        | tuple _ => exact fun z => by cases z
        | dict _ => exact fun z => by cases z
      | un => exact fun z => by cases z
      | o _ => exact fun z => by cases z
      | b _ => exact fun z => by cases z
      | j _ _ => exact fun z => by cases z
      | t _ => exact fun z => by cases z
theorem law_okS {t : TS} {f : M Out} {N : List Str} {a : Addr} {ns : List Int} {Q : VK} (hb : Ds T E t f) (tt : LamX.Tabs T.tbs H) (hS : SqL T.K H a (ns.map V.int)) (m : Nat) (hn : N.length = m + 1) (hr : isTrue (f (.d (dScr (ns.map PyData.int)) :: List.replicate m .un)) = true) (q : ∀ H', Q (.bl true) H') : t { nx := fun _ H' => Q .non H', rt := Q } (L2.start N [.ref a]) H := by
  obtain ⟨G, gS, gH, gt⟩ : ∃ G : Hp, SqL T.K G a (ns.map V.int) ∧ Same G H ∧ ∀ p ∈ T.tbs, G p.1 = none := by
    have one : ∀ o : HO, H a = some o → (∀ ps, o ≠ .tbl ps) → ∃ G : Hp, G a = some o ∧ Same G H ∧ ∀ p ∈ T.tbs, G p.1 = none := fun o h nt => by
      refine ⟨upd (fun _ => none) a o, upd_same, fun b x e => ?_, fun p hp => ?_⟩
      · by_cases hb : b = a
        · rw [hb, upd_same] at e; rw [hb, h]; exact e
        · rw [upd_ne hb] at e; cases e
      · have na : p.1 ≠ a := fun z => by
          obtain ⟨ps, h1, _⟩ := tt p hp
          rw [z, h] at h1
          cases h1
          exact nt _ rfl
        rw [upd_ne na]
    rcases hS with (h | ⟨o, h⟩) | h
    · obtain ⟨G, g1, g2, g3⟩ := one _ h (fun ps z => by cases z)
      exact ⟨G, .inl (.inl g1), g2, g3⟩
    · obtain ⟨G, g1, g2, g3⟩ := one _ h (fun ps z => by cases z)
      exact ⟨G, .inl (.inr ⟨o, g1⟩), g2, g3⟩
    · exact ⟨fun _ => none, .inr h, fun b x e => (by cases e), fun p hp => rfl⟩
  have st : L2.start N [.ref a] = some (.ref a) :: List.replicate m none := by
    unfold L2.start
    rw [hn]
    rfl
  rw [st]
  have un : ∀ (i : Nat) s, (Slot.d (dScr (ns.map PyData.int)) :: List.replicate m Slot.un)[i]? = some s → s ≠ .un → i = 0 ∧ s = .d (dScr (ns.map PyData.int)) := fun i s e n => by
    cases i with
    | zero => simp at e; exact ⟨rfl, e.symm⟩
    | succ i =>
      rw [List.getElem?_cons_succ, List.getElem?_replicate] at e
      split at e
      · cases e; exact absurd rfl n
      · cases e
  have I : SI T none G (stripT T H) (.d (dScr (ns.map PyData.int)) :: List.replicate m .un) (some (.ref a) :: List.replicate m none) G H := by
    refine ⟨Same.refl _, gH, fun _ _ e _ => (strip_some e).1, fun _ z => .inl z, fun a e => (by cases e), by simp, fun i s e n => ?_, fun i k s u v ne e1 e2 o1 o2 s1 s2 => ?_, tt, fun p hp => ⟨gt p hp, strip_tab hp⟩⟩
    · obtain ⟨rfl, rfl⟩ := un i s e n
      exact ⟨.ref a, rfl, .scr gS (rpl_ints ns)⟩
    · obtain ⟨_, rfl⟩ := un i s e1 (fun z => by subst z; cases o1)
      cases o1
  exact true_end hb I hr q
/-- as f; it is not run before the slots are known (a closed call would be run by the elaborator) -/
def stk {α : Type} (f : M α) : M α := fun ρ => match ρ with
  | [] => f []
  | s :: r => f (s :: r)
theorem stk_eq {α : Type} (f : M α) (ρ : Ev) : stk f ρ = f ρ := by cases ρ <;> rfl
theorem dq_stk {α β : Type} {Rel : Rl α β} {t : L2.St → Hp → (β → Hp → Prop) → Prop} {f : M α} (h : Dq T E Rel t f) : Dq T E Rel t (stk f) := by
  intro B G0 H0 ρ σ G H I
  rw [stk_eq]
  exact h B G0 H0 ρ σ G H I
/-- calls without arguments, not run before the slots are known -/
def callS (g : Mir) : M Slot := stk (callE g nilA)
theorem de_callS {g : Mir} : De T E (tCall (dSp T 0 g) [] E tNil) (callS g) := dq_stk (de_call da_nil len_nil)
def makeS (c : Int) (g : Mir) : M Slot := stk (makeE c g nilA)
theorem de_makeS {g : Mir} (c : Int) (ik : InsK T.K (He.ga T.K (clsN c))) : De T E (tMake (He.ga T.K (clsN c)) (dSp T 1 g) [] E tNil) (makeS c g) := dq_stk (de_make c ik da_nil len_nil)
end
end DL
/-! NCBlk: lambdas made inside a comprehension. -/
namespace DL
open PySem PySem.Spec PyProof.Rows L2 LamX NCLam
/-- calling what stands at f, at a state behind that of s and H0 -/
def ActsU (P : Program) (w : World) (K : PySem.W.Frag) (mg : Str → Option Value) (base : Heap) (fs : List Addr) (H0 : Hp) (s0 : Shared) (k : Nat) (f : Addr) (t : XK → Hp → VK → Prop) : Prop :=
  ∀ (A : Around) (outer : List Env) (s : Shared) (H : Hp) (Q : VK) (E : XK), Room k A → Env0 P w K mg base A outer s H → Un fs [] H0 H s0.heap s.heap → t E H Q → PySem.W.FnAt f s.heap ∧ codeAny (model P w) A (.call (.ref f) ⟨[], []⟩) (CR (L2.CX P w) outer P w H s Q E) s
section
variable {X : Cx} {pins : List (Addr × Obj)} {σ : L2.St} {H HZ : Hp} {s s1 : Shared}
theorem lam_startU {A : Around} {outer : List Env} {E : XK} {scope : Scope} {f c' : Addr} {h₁ : Heap} {tk : Nat} {m0 : Str → Option Value} (I : Inv X pins σ H s) (L : LamN X.N X.env.scope scope) (e0 : Env0 X.prog X.w X.K X.mg X.base A outer s1 HZ) (hd : A.handled = none) (un : Un (frs X.stack) [] H HZ s.heap s1.heap)
    (hns : h₁.Ns s1.heap.objs.size m0) (kp : ∀ b o, s1.heap.get? b = some o → h₁.get? b = some o) : Inv (NCLam.lamCx X X.base A outer s1 HZ E scope f c') [] σ HZ { s1 with heap := h₁, toks := tk } := by
  have hfree := L.has I.ok
  have cm : ∀ {y c}, (cloFrom X.env.cells scope.names []).lookup y = some c → X.env.cells.lookup y = some c := fun {y c} e => by
    rcases cloFrom_mem (PySem.mem_of_lookup e) with z | ⟨h1, h2⟩
    · cases z
    · obtain ⟨c1, hc⟩ := hfree _ h1 rfl
      have hc : X.env.cells.lookup y = some c1 := hc
      rw [show c = c1 from by rw [h2, hc] <;> rfl]
      exact hc
  have look : ∀ {y}, scope.names.lookup y = some .free → ∃ c, (cloFrom X.env.cells scope.names []).lookup y = some c := fun {y} hl => mem_lookup (cloFrom_has (cells := X.env.cells) (acc := []) (show (y, NameKind.free) ∈ scope.names from PySem.mem_of_lookup hl))
  have cellK : ∀ {y : Str} {c : Addr} {v : Option Value}, X.env.cells.lookup y = some c → s.heap.IsCell c v → h₁.IsCell c v ∧ HZ c = none := fun {y c v} e ⟨o, ho, hdt⟩ => by
    obtain ⟨sl, q1⟩ := un.any ho (I.freeC y c e) (by simp)
    exact ⟨⟨_, kp _ _ q1, hdt⟩, un.free c o ho (I.freeC y c e) (by simp)⟩
  have noA : ∀ b : Addr, b ∉ (NCLam.lamCx X X.base A outer s1 HZ E scope f c').ex := fun b z => absurd (show b ∈ ([] : List Addr) from z) (by simp)
  refine ⟨⟨e0.mod, L.kind, rfl, rfl, Nat.le_refl _, fun y z c e1 e2 => I.ok.inj y z c (cm e1) (cm e2), fun y hy => ?_, fun y c z _ => ?_, fun _ => hd, Around.frames_deeper e0.frames, .inr ⟨rfl, rfl⟩, fun b z => absurd z (noA b), e0.bs, e0.bsz, fun b _ _ => noA b,
      fun b z => absurd z (noA b), e0.funs, e0.frf⟩,
    rfl, e0.bare, Un.kept kp, ⟨_, hns, fun i y v e1 e2 e3 => ?_⟩, fun y c e => ?_, e0.hok.fresh (Nat.le_refl _), fun y c e => ?_, fun q hq => absurd (show q ∈ ([] : List (Addr × Obj)) ++ [] from hq) (by simp), e0.hok.kept kp, I.len⟩
  · have hy : scope.names.lookup y = some .cell ∨ scope.names.lookup y = some .free := hy
    rcases hy with hy | hy
    · exact absurd rfl (L.own _ (PySem.mem_of_lookup hy)).2
    · exact look hy
  · have z : false = true := z
    cases z
  · have e3 : Vis scope y := e3
    have e1 : X.N[i]? = some y := e1
    rcases e3 with k | k | k
    · exact absurd (List.mem_of_getElem? e1) ((L.own _ (PySem.mem_of_lookup k)).1 rfl)
    · exact absurd rfl (L.own _ (PySem.mem_of_lookup k)).2
    · obtain ⟨m, hn, hl⟩ := I.loc
      have hvis : Vis X.env.scope y := (L.free _ (PySem.mem_of_lookup k) rfl).elim (fun k => .inr (.inl k)) (fun k => .inr (.inr k))
      obtain ⟨w', r, q⟩ := hl i y v e1 e2 hvis
      obtain ⟨c2, h2⟩ := look k
      refine ⟨w', r, .inr ⟨.inr k, c2, h2, ?_⟩⟩
      have c1 := cm h2
      rcases q with ⟨k', _⟩ | ⟨_, c3, e', z⟩
      · have k' : X.env.scope.names.lookup y = some .local := k'
        rcases L.free _ (PySem.mem_of_lookup k) rfl with k2 | k2 <;> rw [show X.env.scope.names.lookup y = _ from k2] at k' <;> cases k'
      · rw [c1] at e'
        cases e'
        exact (cellK c1 z).1
  · obtain ⟨w', z⟩ := I.cell y c (cm e)
    exact ⟨w', (cellK (cm e) z).1⟩
  · obtain ⟨v, z⟩ := I.cell y c (cm e)
    exact (cellK (cm e) z).2
/-- the lambda at f, called behind the maker's state -/
theorem act_lamU {params : Arguments} {body : Expr} {scope : Scope} {dvs : List V} {k : Nat} {f : Addr} {t : XK → TE} (I : Inv X pins σ H s) (L : LamN X.N X.env.scope scope)
    (hbind : ∀ (c' : Addr) (dV pm ctv : Value) (s1 : Shared) (HZ : Hp), HOk X.prog X.w HZ s1.heap → ((dvs = [] ∧ dV = .none) ∨ ∃ T, dvs ≠ [] ∧ dV = .ref T ∧ HZ T = some (.tup dvs)) → ∃ binds : List (Str × Value), BindsTo s1 (fnL (X.env.qual ++ "<lambda>") params body scope (cloFrom X.env.cells scope.names []) dV pm c' ctv) ⟨[], []⟩ binds ∧ ∀ y ∈ binds, scope.names.lookup y.1 = some .local)
    (hbody : ∀ (B : Heap) (A : Around) (outer : List Env) (s : Shared) (H : Hp) (E : XK) (f c' : Addr), Room k (A.deeper (lamEnv X scope s.heap.objs.size f c')) → PE (NCLam.lamCx X B A outer s H E scope f c') body (t E)) :
    ActsU X.prog X.w X.K X.mg X.base (frs X.stack) H s (k + 1) f (fun E HZ Q => IsLam X params body scope dvs HZ f ∧ t E σ HZ Q) := by
  intro A outer s1 HZ Q E hr e0 un ⟨⟨c', dV, h1, h2, h3⟩, ht⟩
  obtain ⟨⟨pm, ctv, of1⟩, _, _⟩ := e0.hok f _ h1
  obtain ⟨⟨oc, vs, tq, hoc, hdc, hvc⟩, _, _⟩ := e0.hok c' _ h2
  obtain ⟨binds, hB, hloc⟩ := hbind c' dV pm ctv s1 HZ e0.hok h3
  refine ⟨⟨_, _, _, _, of1⟩, PySem.W.kla_callFunE hr.depth of1 rfl L.co L.gen rfl ⟨c', oc, vs, tq, rfl, hoc, hdc, hvc⟩ (hB _ _ _ _ ?_)⟩
  refine wpAny_newFunctionEnv (fun y hy => (L.own y hy).2) hloc (fun h₁ hns hsb => ?_) L.kind
  have kp : ∀ b o, s1.heap.get? b = some o → h₁.get? b = some o := fun b o e => hsb.extBut b o (Nat.ne_of_lt (Heap.lt_size e)) (Heap.get?_push_of_some _ e)
  have lim : s1.heap.NoLimit := e0.mod.nolimit.keeps fun b o e => (e0.bs b o e).1
  refine ⟨lim.fresh _ hsb, ?_⟩
  have J : Inv (NCLam.lamCx X X.base A outer s1 HZ E scope f c') [] σ HZ { s1 with heap := h₁, toks := s1.toks + binds.length } := lam_startU I L e0 hr.hd un hns kp
  show codeAny _ _ (.expr body (lamEnv X scope s1.heap.objs.size f c')) _ _
  refine PySem.W.kla_codeExpr (wpAny_mono ((hbody _ A outer s1 HZ E f c' (hr.deeper _)).run [] _ _ HZ Q J ht) (fun v s' hq => ?_) fun e s' hq => hq)
  obtain ⟨w', H', J', rv, q⟩ := hq
  exact ⟨w', H', J'.os, J'.bare, J'.base, J'.hok, rv, q⟩
def ActingU (X : Cx) (k : Nat) (tl : L2.St → Addr → XK → Hp → VK → Prop) : Prop := ∀ pins σ H s, Inv X pins σ H s → ∀ f, ActsU X.prog X.w X.K X.mg X.base (frs X.stack) H s k f (tl σ f)
theorem acting0U {params : Arguments} {body : Expr} {scope : Scope} {k : Nat} {t : XK → TE} (L : LamN X.N X.env.scope scope)
    (hb : ∀ (c' : Addr) (pm ctv : Value), bindArgs (fnL (X.env.qual ++ "<lambda>") params body scope (cloFrom X.env.cells scope.names []) .none pm c' ctv) ⟨[], []⟩ = pure [])
    (hbody : ∀ (B : Heap) (A : Around) (outer : List Env) (s : Shared) (H : Hp) (E : XK) (f c' : Addr), Room k (A.deeper (lamEnv X scope s.heap.objs.size f c')) → PE (NCLam.lamCx X B A outer s H E scope f c') body (t E)) : ActingU X (k + 1) (tlLam X params body scope [] t) := fun pins σ H s I f => by
  refine act_lamU I L (fun c' dV pm ctv s1 HZ hok hd => ?_) hbody
  rcases hd with ⟨_, rfl⟩ | ⟨T, z, _⟩
  · exact ⟨[], .of_eq (hb c' pm ctv), fun y hy => by cases hy⟩
  · exact absurd rfl z
/-- a(), in the def that got it -/
theorem pe_actU {W : WX} {kk i : Nat} {a : Str} {p1 p2 : Pos} {al : Addr → XK → Hp → VK → Prop} (ha : ∀ f, ActsU X.prog X.w X.K X.mg X.base X.fs X.H_0 X.s_0 kk f (al f)) (hex : X.ex = []) (hr : Room kk X.A) (tk : Takes X W) (hN : X.N[i]? = some a) (hv : Vis X.env.scope a) (hd : (a == ("__debug__" : Str)) = false := by decide) (hcd : (a == ("__classdict__" : Str)) = false := by decide) :
    PE X (.Call (.Name a p1) [] [] p2) (fun σ H Q => ∃ (f : Addr) (E : XK), σ[i]? = some (some (V.ref f)) ∧ (∀ cls d H', E cls d H' → W cls d σ H') ∧ al f E H Q) := by
  refine ⟨fun pins s σ H Q I h => ?_⟩
  obtain ⟨f, E, hs, hW, ht⟩ := h
  refine wpAny_Call_Name_kw (thn ((pe_var (pos := p1) (i := i) hN hv hd hcd).run pins s σ H (fun v H1 => v = .ref f ∧ H1 = H) I ⟨.ref f, hs, rfl, rfl⟩) fun u s1 ⟨v, H1, I1, r1, q1⟩ => ?_)
  obtain ⟨rfl, rfl⟩ := q1
  obtain rfl : u = Value.ref f := r1
  have un := I1.base
  rw [hex] at un
  obtain ⟨fa, rc⟩ := ha f X.A X.stack s1 H1 Q E hr I1.env0 un ht
  refine PySem.W.callWith_F0 fa (wpAny_call (codeAny_mono rc fun r s' hq => ?_))
  cases r with
  | error e => exact tk e s' (XE.of_call I1 hW hq)
  | ok fl =>
    cases fl with
    | ret u => exact I1.after hq
    | next => exact False.elim hq
    | brk => exact False.elim hq
    | cont => exact False.elim hq
/-- g(e), what it is handed being called there; g's body is told of the very state -/
theorem pe_callU {qual : Str} {prm : Arguments} {bdy : List Stmt} {scp : Scope} {dvs : List V} {kws : List (Str × V)} {N : List Str} {k kk : Nat} {g : Addr} {fd : FuncData} {ps : List Str} {x : Str} {p pos : Pos} {e : Expr} {es : List Expr} {ta : TA} {tl : L2.St → Addr → XK → Hp → VK → Prop} {spT : (Addr → XK → Hp → VK → Prop) → Sp} (ha : ActingU X kk tl)
    (F : FunD X.K x qual prm bdy scp dvs kws g fd) (S : FnScope N ps scp) (len : ∀ al vs H Q E, spT al vs H Q E → vs.length = ps.length)
    (hbody : ∀ (al : Addr → XK → Hp → VK → Prop) (cdv : Value) (A : Around) (outer : List Env) (s : Shared) (H : Hp) (vs : List V) (Q : VK) (E : XK), (∀ f, ActsU X.prog X.w X.K X.mg X.base (frs outer) H s kk f (al f)) → Room k (A.deeper (envOfC qual scp s.heap.objs.size g cdv)) → spT al vs H Q E →
      ∃ t, PSs (cxOf CX0 X.prog X.w X.K X.mg X.base N qual scp g cdv A outer s H E) bdy t ∧ t { nx := fun _ H' => Q .non H', rt := Q } (start N vs) H)
    (hr : Room (k + 1) X.A) (hg : Gl X x) (hm : X.mg x = some (.ref g)) (hb : Binds X.K fd ps []) (hargs : PA X (e :: es) ta)
    (hdb : (x == ("__debug__" : Str)) = false := by decide) (he : starEach (e :: es) X.env = (false, eval e X.env) :: starEach es X.env := by rfl) (hpl : (backTo pos (starEach es X.env)).any (·.1) = false := by rfl) :
    PE X (.Call (.Name x p) (e :: es) [] pos) (fun σ H Q => ta σ H fun vs H1 => spT (tl σ) vs H1 Q (fun _ _ _ => False)) := by
  obtain ⟨oc, od, dV, kV, doc, pm, an, cdv, ct, osl, rfl, lk, hcd, _, _⟩ := F.ex
  refine ⟨fun pins s σ H Q I h => ?_⟩
  refine wpAny_Call_Name_kw (ld_glob I hg hm ?_ hdb)
  refine PySem.W.callWith_K (h₀ := X.base) I.ok.mod.kin F.kp (thn (hargs.run pos pins s σ H _ I h) fun us s1 ⟨vs, H1, I1, r, q⟩ => ⟨I1.kIn, ?_⟩) he hpl
  have hv := len _ _ _ _ _ q
  have hl : us.length = ps.length := by rw [← r.length]; exact hv
  refine wpAny_call (codeAny_mono (run_ofS (CX := CX0) (Q := Q) (E := fun _ _ _ => False) lk hcd S hr I1.env0 (by have z := hb s1 us I1.kIn (by rw [List.append_nil]; exact hl); rw [List.append_nil] at z; exact z) r hv fun hr' => hbody (tl σ) cdv X.A X.stack s1 H1 vs Q _ (ha pins σ H1 s1 I1) hr' q) fun r s' hq => ?_)
  cases r with
  | error e => exact (show False from hq).elim
  | ok fl =>
    cases fl with
    | ret u => exact I1.after hq
    | next => exact False.elim hq
    | brk => exact False.elim hq
    | cont => exact False.elim hq
end
/-! ### a reading that may not hang on the block -/
theorem pe_every {ι : Type} {X : ι → Cx} {e : Expr} {t : ι → TE} (h : ∀ i, PE (X i) e (t i)) (i : ι) : PE (X i) e (fun σ H Q => ∀ i, t i σ H Q) := ⟨fun pins s σ H Q I q => (h i).run pins s σ H Q I (q i)⟩
theorem de_every {ι : Type} {T : Kt} {E : XK} {t : ι → TE} {f : M Slot} (h : ∀ i, De T E (t i) f) : De T E (fun σ H Q => ∀ i, t i σ H Q) f := by
  intro B G0 H0 ρ σ G H I Q
  have h' := fun i => h i B G0 H0 ρ σ G H I Q
  revert h'
  cases f ρ with
  | no => exact fun _ => trivial
  | exc c x => exact fun h' w i => h' i w
  | ok z => exact fun h' w i => h' i w
/-- the letters of a block -/
structure Ltr where
  s : Shared
  H : Hp
  C : Addr
  cl : List (Str × Addr)
  fp : List Addr
abbrev Ltr.cx (l : Ltr) (X : Cx) (scope : Scope) : Cx := X.blk l.s l.H scope (compEnvC scope l.cl l.C X.env) l.fp
def compS : Expr → Scope
  | .ListComp _ _ s _ => s
  | _ => NCLam.lamS NCLam.noE
end DL
/-! NCPur: plain facts for mirrors of the laws' own draws. -/
namespace DL
open PySem
theorem mulOk_left {i j : Int} (h : i.natAbs < 18446744073709551616) : mulOk i j = true := by
  unfold mulOk
  rw [show Nat.blt i.natAbs 18446744073709551616 = true from Nat.ble_eq_true_of_le h]
  rfl
theorem mulOk_right {i j : Int} (h : j.natAbs < 18446744073709551616) : mulOk i j = true := by
  unfold mulOk
  rw [show Nat.blt j.natAbs 18446744073709551616 = true from Nat.ble_eq_true_of_le h, Bool.or_true]
  rfl
theorem powOk_small {i : Int} {j : Int} (h : i.natAbs < 18446744073709551616) (h0 : 0 ≤ j) (h1 : j ≤ 1000) : powOk i j = true := by
  have b : Builtin.Int.intBits i ≤ 64 := by
    unfold Builtin.Int.intBits
    split
    · omega
    · have : i.natAbs.log2 < 64 := (Nat.log2_lt (by rename_i hz; intro e; apply hz; simp; omega)).mpr (by omega)
      omega
  have h2 : (Builtin.Int.intBits i : Int) * j ≤ 64 * 1000 := Int.mul_le_mul (by omega) h1 h0 (by decide)
  unfold powOk
  rw [decide_eq_true h0, decide_eq_true (show (Builtin.Int.intBits i : Int) * j ≤ 134217728 by omega)]
  rfl
theorem fmod_in {x m : Int} (h : 0 < m) : 0 ≤ x.fmod m ∧ x.fmod m < m := ⟨Int.fmod_nonneg_of_pos _ h, Int.fmod_lt_of_pos _ h⟩
theorem fdiv_in {x m : Int} (h : 0 < m) (hx : 0 ≤ x) : 0 ≤ x.fdiv m ∧ x.fdiv m ≤ x := by
  rw [Int.fdiv_eq_ediv_of_nonneg _ (Int.le_of_lt h)]
  exact ⟨Int.ediv_nonneg hx (Int.le_of_lt h), Int.ediv_le_self _ hx⟩
theorem log2_ok {m : Int} (h : m.natAbs < 1000000) : m.natAbs.log2 < 9000 := by
  by_cases z : m.natAbs = 0
  · rw [z]; decide
  · exact (Nat.log2_lt z).mpr (Nat.lt_of_lt_of_le h (Nat.le_trans (show 1000000 ≤ 2 ^ 20 by decide) (Nat.pow_le_pow_right (by decide) (by decide))))
/-! ### pieces of a run -/
def isNx : R (Out × Ev) → Bool
  | .ok (.nx, _) => true
  | _ => false
def evOf : R (Out × Ev) → Ev
  | .ok (_, ρ) => ρ
  | _ => []
theorem seq_nx {f g : M Out} {ρ : Ev} (h : isNx (f ρ) = true) : seqM f g ρ = g (evOf (f ρ)) := by
  unfold seqM
  revert h
  cases f ρ with
  | no => exact fun z => by cases z
  | exc c x => exact fun z => by cases z
  | ok z =>
    obtain ⟨o, ρ'⟩ := z
    cases o with
    | nx => exact fun _ => rfl
    | bk => exact fun z => by cases z
    | ct => exact fun z => by cases z
    | rt s => exact fun z => by cases z
theorem seq_of {f g : M Out} {ρ ρ' : Ev} (h : f ρ = .ok (.nx, ρ')) : seqM f g ρ = g ρ' := by
  unfold seqM
  rw [h]
/-- what a def that makes lambdas does with its end -/
def postA (as : List Slot) : R (Out × Ev) → R (Slot × Slot)
  | .ok (.nx, ρ') => if backA (backS as ρ') then .ok (.d .none, backS as ρ') else .no
  | .ok (.rt (.d x), ρ') => if atomD x && backA (backS as ρ') then .ok (.d x, backS as ρ') else .no
  | _ => .no
theorem runA_post {f : M Out} {n : Nat} {as : List Slot} : runA f n as = postA as (f (as ++ List.replicate (n - as.length) .un)) := by
  unfold runA runB
  cases f (as ++ List.replicate (n - as.length) .un) with
  | no => rfl
  | exc c x => rfl
  | ok z =>
    obtain ⟨o, ρ'⟩ := z
    cases o with
    | nx => rfl
    | bk => rfl
    | ct => rfl
    | rt s => cases s <;> rfl
/-- True, and the list that was lent comes back -/
def okT : R (Slot × Slot) → Bool
  | .ok (.d (.bool true), .b _) => true
  | _ => false
theorem okT_eq {r : R (Slot × Slot)} (h : okT r = true) : ∃ ys, r = .ok (.d (.bool true), .b ys) := by
  unfold okT at h
  split at h
  · exact ⟨_, rfl⟩
  · cases h
/-! ### loops -/
theorem forL_all {g : D → Ev → Option Ev} {f : M Out} {Iv : Ev → Prop} : ∀ {xs : List D} {ρ : Ev}, Iv ρ → (∀ x ∈ xs, ∀ ρ, Iv ρ → ∃ ρ1 ρ2, g x ρ = some ρ1 ∧ f ρ1 = .ok (.nx, ρ2) ∧ Iv ρ2) → ∃ ρ', forL g f xs ρ = .ok (.nx, ρ') ∧ Iv ρ'
  | [], ρ, h, _ => ⟨ρ, rfl, h⟩
  | x :: xs, ρ, h, hs => by
    obtain ⟨ρ1, ρ2, e1, e2, h2⟩ := hs x (List.mem_cons_self ..) ρ h
    obtain ⟨ρ', e3, h3⟩ := forL_all h2 fun y hy => hs y (List.mem_cons_of_mem _ hy)
    refine ⟨ρ', ?_, h3⟩
    show (match g x ρ with | none => _ | some ρ1 => _) = _
    rw [e1]
    show (match f ρ1 with | .ok (.nx, ρ2) => _ | .ok (.ct, ρ2) => _ | .ok (.bk, ρ2) => _ | .ok (.rt s, ρ2) => _ | .exc c x => _ | .no => _) = _
    rw [e2]
    exact e3
theorem cutD_map {α β : Type} (f : α → β) (xs : List α) (lo hi : Option Int) : cutD (xs.map f) lo hi = (cutD xs lo hi).map f := by
  unfold cutD
  rw [List.length_map, List.map_take, List.map_drop]
theorem cutD_len {α : Type} (xs : List α) (lo hi : Option Int) : (cutD xs lo hi).length ≤ xs.length := by
  unfold cutD
  rw [List.length_take, List.length_drop]
  omega
end DL
/-! NCMore: list(range(..)), a dict display with one tuple as its key. -/
namespace DL
open PySem PySem.Spec PyProof.Rows L2
/-! ### list(range(..)) -/
def rRng : List V → Hp → VK → Prop := fun vs H Q => (∃ j, vs = [V.int j] ∧ ∀ p, H p = none → Q (.ref p) (upd H p (.rng 0 j))) ∨ ∃ i j, vs = [V.int i, V.int j] ∧ ∀ p, H p = none → Q (.ref p) (upd H p (.rng i j))
theorem cr_range1 {X : Cx} : CallR X (.type "range") (fun vs H Q => ∃ j, vs = [V.int j] ∧ ∀ p, H p = none → Q (.ref p) (upd H p (.rng 0 j))) := by
  intro pins s σ H vs us Q I r h
  obtain ⟨j, rfl, q⟩ := h
  obtain ⟨u, rfl, t, rfl⟩ := vals1 r
  exact call_range_1 ⟨.ref s.heap.objs.size, upd H s.heap.objs.size (.rng 0 j), I.laid (t' := s.toks + 1 + 1) (fun b o e => Heap.get?_push_of_some _ e) (Nat.le_refl _) ⟨_, _, _, Heap.get?_push_size _ rfl⟩, rfl, q _ (I.hok.fresh (Nat.le_refl _))⟩
theorem cr_rng {X : Cx} : CallR X (.type "range") rRng := CallR.or cr_range1 cr_range2
def rngV (lo : Int) (n : Nat) : List V := (List.range n).map fun (k : Nat) => V.int (lo + (k : Int))
def rLR : List V → Hp → VK → Prop := fun xs H Q => ∃ p lo hi, xs = [V.ref p] ∧ H p = some (.rng lo hi) ∧ (-(2 ^ 62) ≤ lo ∧ lo < 2 ^ 62 ∧ -(2 ^ 62) ≤ hi ∧ hi < 2 ^ 62) ∧ (hi - lo).toNat ≤ 1000000 ∧ ∀ l, H l = none → Q (.ref l) (upd H l (.lst (rngV lo (hi - lo).toNat)))
theorem vals_rng {lo : Int} : ∀ (l : List Value) (i : Nat), (∀ (j : Nat) v, l[j]? = some v → ∃ t, v = Value.int (lo + ((i + j : Nat) : Int)) t) → Vals ((List.range' i l.length).map fun (k : Nat) => V.int (lo + (k : Int))) l
  | [], _, _ => .nil
  | v :: l, i, h => by
    obtain ⟨t, e⟩ := h 0 v rfl
    refine .cons ⟨t, by rw [e]; rfl⟩ (vals_rng l (i + 1) fun j w e => ?_)
    obtain ⟨t, q⟩ := h (j + 1) w (by simpa using e)
    exact ⟨t, by rw [q]; congr 2; omega⟩
theorem call_list_rng {X : Cx} (hc : X.calm = true) : CallR X (.type "list") rLR := by
  intro pins s σ H xs us Q I r h
  obtain ⟨p, lo, hi, rfl, hp, ⟨b1, b2, b3, b4⟩, hn, q⟩ := h
  obtain ⟨u, rfl, rx⟩ := vals1 r
  cases rx
  obtain ⟨t, u, v, hr⟩ := I.hok p _ hp
  refine call_list_range (n := (hi - lo).toNat) (I.ok.hd hc) hr (small_one b1 b2 b3 b4) (by rw [rangeSize_one]; split <;> omega) (Nat.le_trans hn (by decide)) fun h' tk acc' c' kp e it => ?_
  have it2 := vals_rng (lo := lo) acc'.toList 0 (fun j v e => by
    obtain ⟨t, q⟩ := it.2 j v (by simpa using e)
    exact ⟨t, by rw [q, Nat.zero_add, Int.mul_one]⟩)
  rw [Array.length_toList, it.1, ← List.range_eq_range'] at it2
  refine ⟨.ref s.heap.objs.size, _, I.laid (t' := tk) (o := .lst (rngV lo (hi - lo).toNat)) kp (Nat.le_refl _) ⟨by unfold rngV; rw [List.length_map, List.length_range]; exact len_le hn, acc'.toList, c', it2, ?_⟩, rfl, q _ (I.hok.fresh (Nat.le_refl _))⟩
  rw [Array.toArray_toList]
  exact e
section
variable {T : Kt} {B : Option Addr} {G0 H0 G H G' H' : Hp} {ρ : Ev} {σ : L2.St} {E : XK}
def rngOk (lo hi : Int) : Bool := Nat.blt lo.natAbs 1000000 && Nat.blt hi.natAbs 1000000 && Nat.ble (hi - lo).toNat 1000000
def lrE (fa : M (List D)) : M Slot := bd fa fun xs ρ => match xs with
  | [.int j] => if rngOk 0 j then .ok (.o (rngD 0 (j - 0).toNat), ρ) else .no
  | [.int i, .int j] => if rngOk i j then .ok (.o (rngD i (j - i).toNat), ρ) else .no
  | _ => .no
theorem rpl_rng {lo : Int} : ∀ l : List Nat, RpL T G (l.map fun (k : Nat) => V.int (lo + (k : Int))) (l.map fun (k : Nat) => PyData.int (lo + (k : Int)))
  | [] => .nil
  | k :: l => .cons (.int _) (rpl_rng l)
theorem lr_one (I : SI T B G0 H0 ρ σ G H) {lo hi : Int} {Q : VK} (ok : rngOk lo hi = true) (q : ∀ b G' H', SI T B G0 H0 ρ σ G' H' → Same G G' → VOk T H0 ρ σ G' H' b (.o (rngD lo (hi - lo).toNat)) → Q b H') (p : Addr) (n : H p = none) : rLR [.ref p] (upd H p (.rng lo hi)) Q := by
  unfold rngOk at ok
  obtain ⟨ok, h3⟩ := Bool.and_eq_true_iff.mp ok
  obtain ⟨h1, h2⟩ := Bool.and_eq_true_iff.mp ok
  have h1 := blt_lt h1
  have h2 := blt_lt h2
  refine ⟨p, lo, hi, rfl, upd_same, ⟨by omega, by omega, by omega, by omega⟩, Nat.le_of_ble_eq_true h3, fun l nl => ?_⟩
  have a1 := Al.newO (o := .rng lo hi) I.gh n
  have I1 := I.al a1
  have a2 := Al.newO (o := .lst (rngV lo (hi - lo).toNat)) I1.gh nl
  refine q _ G _ (I1.al a2) (Same.refl _) (I1.vok (G' := G) (H' := upd (upd H p (.rng lo hi)) l (.lst (rngV lo (hi - lo).toNat))) ⟨l, _, rfl, nl, upd_same, Same.none I1.gh nl, ?_⟩)
  unfold rngV rngD
  exact rpl_rng _
theorem de_lrng {ta : TA} {fa : M (List D)} (h : Da T E ta fa) : De T E (tCB rLR (tCons (tCB rRng ta) tNil)) (lrE fa) := by
  intro B G0 H0 ρ σ G H I
  refine Pt.bd (t := ta σ) (u := fun vs H1 (Q : VK) => rRng vs H1 fun x H2 => rLR [x] H2 Q) (h B G0 H0 ρ σ G H I) fun xs ρ1 vs G1 H1 e0 I1 k1 r1 => ?_
  clear e0
  split
  · rename_i j
    split
    · rename_i ok
      cases r1 with
      | cons h1 r1 =>
        cases r1
        cases h1
        exact Pt.ok fun Q q => .inl ⟨j, rfl, fun p n => lr_one I1 ok q p n⟩
    · exact Pt.no
  · rename_i i j
    split
    · rename_i ok
      cases r1 with
      | cons h1 r1 =>
        cases r1 with
        | cons h2 r1 =>
          cases r1
          cases h1
          cases h2
          exact Pt.ok fun Q q => .inr ⟨i, j, rfl, fun p n => lr_one I1 ok q p n⟩
    · exact Pt.no
  · exact Pt.no
end
theorem pt_truthK {X : Cx} {a : Expr} {ta : TE} (K : PySem.W.Frag) (ha : PE X a ta) (he : ∀ whole, PySem.isTrue a X.env whole = (do let v ← whole; standAt a.pos; holding [v] (truthy v))) (hK : X.K = K := by rfl) :
    PT X a (fun σ H Q => ta σ H fun x H' => ∃ k, TruV K x H' k ∧ Q k H') := by
  subst hK
  exact pt_truth ha he
/-! ### {(i, ..): v} -/
/-- the display {k: v}, its key a tuple -/
def tDispT (tk tv : TE) : TE := fun σ H Q => ∀ p, H p = none → tk σ (upd H p (.dT [])) fun x H1 => tv σ H1 fun y H2 => H2 p = some (.dT []) ∧ ∃ b ks, x = V.ref b ∧ H2 b = some (.tup (ks.map kV)) ∧ Q (.ref p) (upd H2 p (.dT [(ks, y)]))
theorem pe_dispT {X : Cx} {pos : Pos} {k v : Expr} {tk tv : TE} (hu : X.A.units + 64 < cLine) (hk : PE X k tk) (hv : PE X v tv) : PE X (.Dict [some k] [v] pos) (tDispT tk tv) := by
  refine ⟨fun pins s σ H Q I q => ?_⟩
  have hn := I.hok.fresh (Nat.le_refl s.heap.objs.size)
  have I1 := I.laid (a := s.heap.objs.size) (o := .dT []) (h' := s.heap.push { cls := .type "dict", data := .dict #[] }) (t' := s.toks) (fun _ _ q => Heap.get?_push_of_some _ q) (Nat.le_refl _) (dt_empty s.heap I.big)
  refine wpAny_Dict_any rfl rfl (by simp) (by show 1 ≤ 15; decide) (thn ((pps_cons (pos := pos) hk hv pps_nil).run pins _ σ _ (fun ps H2 => ∃ x y, ps = [(x, y)] ∧ H2 s.heap.objs.size = some (.dT []) ∧ ∃ b ks, x = V.ref b ∧ H2 b = some (.tup (ks.map kV)) ∧ Q (.ref s.heap.objs.size) (upd H2 s.heap.objs.size (.dT [(ks, y)]))) I1 ?_) fun ws s2 ⟨ps, H2, I2, rel, x, y, e, hp, b, ks, ex, hb, q2⟩ => ?_)
  · show tk σ _ fun x H1 => tv σ H1 fun y H2 => _
    have := q _ hn
    have e0 : (fun (x : V) (H1 : Hp) => tv σ H1 fun (y : V) (H2 : Hp) => H2 s.heap.objs.size = some (.dT []) ∧ ∃ b ks, x = V.ref b ∧ H2 b = some (.tup (ks.map kV)) ∧ Q (.ref s.heap.objs.size) (upd H2 s.heap.objs.size (.dT [(ks, y)]))) = fun x H1 => tv σ H1 fun y H2 => tPairs [] σ H2 fun ps H3 => ∃ x' y', (x, y) :: ps = [(x', y')] ∧ H3 s.heap.objs.size = some (.dT []) ∧ ∃ b ks, x' = V.ref b ∧ H3 b = some (.tup (ks.map kV)) ∧ Q (.ref s.heap.objs.size) (upd H3 s.heap.objs.size (.dT [(ks, y')])) := by
      funext x H1
      congr 1
      funext y H2
      refine propext ⟨fun h => ⟨x, y, rfl, h⟩, fun ⟨x', y', e, h⟩ => ?_⟩
      cases e
      exact h
    rw [e0] at this
    exact this
  · subst e ex
    cases rel with
    | @cons _ w _ _ hw rr =>
      cases rr
      obtain ⟨w1, w2⟩ := w
      obtain ⟨hw1, hw2⟩ := hw
      cases (show w1 = Value.ref b from hw1)
      obtain ⟨z, hd, xs, rel, dd⟩ := L2.dt_of I2.hok hp
      cases rel
      refine wpAny_storeAllH (knd := tupleKind (mixKind X.prog X.w)) (show (tupleKind (mixKind X.prog X.w)).room X.A from Nat.lt_of_le_of_lt (Nat.le_add_right _ _) hu) [(.ref b, w2)] [(ks, b, w2)] [] s2 _ ⟨rfl, rfl, key_of I2.hok hb, trivial⟩ dd (len_le (n := 1) (by decide)) fun h' tk' dd' hs => ?_
      obtain ⟨o, es, ep, hq, h2, h3, h4, _, h5⟩ := dd'
      refine ⟨.ref s.heap.objs.size, _, d_write (ob := .dT [(ks, y)]) I2 (by rw [hp]; exact True.intro) hs ⟨o, hq⟩ ⟨len_le (n := 1) (by decide), hd, _, .cons ⟨rfl, ?_, hw2⟩ .nil, o, es, ep, hq, h2, h3, h4, h5⟩, rfl, q2⟩
      rw [upd_ne (ne_of hb hp (fun z => nomatch z))]
      exact hb
section
variable {T : Kt} {B : Option Addr} {G0 H0 G H G' H' : Hp} {ρ : Ev} {σ : L2.St} {E : XK}
/-- {(i, j): v} -/
theorem de_dispT {i j v : Int} : De T E (tDispT (tTup (tCons (tC (.int i)) (tCons (tC (.int j)) tNil))) (tC (.int v))) (cE dDct) := by
  intro B G0 H0 ρ σ G H I
  refine Pt.ok fun Q q p n => ⟨len_le (n := 2) (by decide), fun b nb => ?_⟩
  have pb : p ≠ b := fun z => by rw [z, upd_same] at nb; cases nb
  refine ⟨by rw [upd_ne pb]; exact upd_same, b, [.inl i, .inl j], rfl, upd_same, ?_⟩
  have nb2 : H b = none := by rw [upd_ne (Ne.symm pb)] at nb; exact nb
  have a1 := Al.newO (o := .tup [.int i, .int j]) I.gh nb2
  have I1 := I.al a1
  have np : (upd H b (.tup [V.int i, V.int j])) p = none := by rw [upd_ne pb]; exact n
  have a2 := Al.new (o := .dT [([.inl i, .inl j], V.int v)]) I1.gh np
  have e : upd (upd (upd H p (.dT [])) b (.tup [.int i, .int j])) p (.dT [([.inl i, .inl j], .int v)]) = upd (upd H b (.tup [.int i, .int j])) p (.dT [([.inl i, .inl j], .int v)]) := by
    funext a
    by_cases h1 : a = p
    · rw [h1, upd_same, upd_same]
    · rw [upd_ne h1, upd_ne h1]
      by_cases h2 : a = b
      · rw [h2, upd_same, upd_same]
      · rw [upd_ne h2, upd_ne h2, upd_ne h1]
  have J := q (.ref p) _ _ (I1.al a2) a2.gg (vok_d (.dct upd_same))
  rw [← e] at J
  exact J
end
end DL
/-! NCTab: dict([..]), dicts handed on as data. -/
namespace DL
open PySem PySem.Spec PyProof.Rows L2
def putAllX (xs es : List XEnt) : List XEnt := es.foldl (fun acc e => putX acc e.1 e.2.1 e.2.2) xs
theorem storedAll_ents : ∀ {es : List XEnt} {us : List Value}, Vals (es.map (·.2.2)) us → ∀ {xs : List XEnt} {vs : List Value}, Vals (xs.map (·.2.2)) vs → ∃ vs', Vals ((putAllX xs es).map (·.2.2)) vs' ∧ storedAllH (ents xs vs) (ents es us) = ents (putAllX xs es) vs'
  | [], us, r, xs, vs, rx => by cases r; exact ⟨vs, rx, rfl⟩
  | e :: es, _, .cons r1 r2, xs, vs, rx => by
    obtain ⟨vs1, h1, h2⟩ := stored_ents (k := e.1) (a := e.2.1) r1 rx
    obtain ⟨vs2, h3, h4⟩ := storedAll_ents r2 h1
    refine ⟨vs2, h3, ?_⟩
    show storedAllH (storedH (ents xs vs) e.1 e.2.1 _) (ents es _) = _
    rw [h2]
    exact h4
theorem putAllX_len : ∀ {es xs : List XEnt}, (putAllX xs es).length ≤ xs.length + es.length
  | [], xs => Nat.le_refl _
  | e :: es, xs => by
    have h1 := putAllX_len (es := es) (xs := putX xs e.1 e.2.1 e.2.2)
    have h2 := putX_length (xs := xs) (k := e.1) (a := e.2.1) (v := e.2.2)
    show (putAllX (putX xs e.1 e.2.1 e.2.2) es).length ≤ _
    rw [List.length_cons]
    omega
/-- dict of a list of pairs -/
def rDictX (T : Kt) : List V → Hp → VK → Prop := fun vs H Q => ∃ (l : Addr) (ts : List Addr) (es : List XEnt), vs = [V.ref l] ∧ SqL T.K H l (ts.map V.ref) ∧ Paired (fun (t : Addr) (e : XEnt) => SqT T.K H t [V.ref e.2.1, e.2.2] ∧ KeyX T H e.1 e.2.1) ts es ∧
  ∀ p o, H p = none → Q (.ref p) (upd H p (DictX T.P T.w p o (putAllX [] es)))
theorem vals_back' : ∀ {ts : List Addr} {us : List Value}, Vals (ts.map V.ref) us → us = ts.map Value.ref
  | [], _, .nil => rfl
  | t :: ts, _, .cons (b := u) r1 r2 => by
    obtain rfl : u = Value.ref t := r1
    rw [vals_back' r2]
    rfl
section
variable {X : Cx} {T : Kt} {pins : List (Addr × Obj)} {σ : L2.St} {H : Hp} {s : Shared}
theorem pairs_at (I : Inv X pins σ H s) (hK : X.K = T.K) : ∀ {ts : List Addr} {es : List XEnt}, Paired (fun (t : Addr) (e : XEnt) => SqT T.K H t [V.ref e.2.1, e.2.2] ∧ KeyX T H e.1 e.2.1) ts es →
    ∃ us, Vals (es.map (·.2.2)) us ∧ ∀ (j : Nat) k v, ((es.zip us).map fun z => (Value.ref z.1.2.1, z.2))[j]? = some (k, v) → ∃ t, ts[j]? = some t ∧ PairAt s.heap t k v
  | _, _, .nil => ⟨[], .nil, fun j k v e => by simp at e⟩
  | t :: ts, e :: es, .cons h r => by
    obtain ⟨us, r1, h1⟩ := pairs_at I hK r
    obtain ⟨its, r2, pl, _⟩ := I.tuple (a := t) (xs := [V.ref e.2.1, e.2.2]) (by rw [hK]; exact h.1)
    cases r2 with
    | @cons _ u1 _ _ q1 r3 =>
      cases r3 with
      | @cons _ u2 _ _ q2 r4 =>
        cases r4
        obtain rfl : u1 = Value.ref e.2.1 := q1
        refine ⟨u2 :: us, .cons q2 r1, fun j k v ej => ?_⟩
        cases j with
        | zero =>
          simp at ej
          obtain ⟨rfl, rfl⟩ := ej
          exact ⟨t, rfl, .inl pl⟩
        | succ j =>
          obtain ⟨t', e1, e2⟩ := h1 j k v (by simpa using ej)
          exact ⟨t', by simpa using e1, e2⟩
theorem cr_dictX (hc : X.calm = true) (hu : X.A.units + 64 < cLine) (hP : X.prog = T.P := by rfl) (hw : X.w = T.w := by rfl) (hK : X.K = T.K := by rfl) : CallR X (.type "dict") (rDictX T) := by
  intro pins s σ H vs us Q I r h
  obtain ⟨l, ts, es, rfl, hl, hp, q⟩ := h
  obtain ⟨u, rfl, ru⟩ := vals1 r
  obtain rfl : u = Value.ref l := ru
  obtain ⟨its, rits, pl, hz⟩ := I.list (a := l) (xs := ts.map V.ref) (by rw [hK]; exact hl)
  have e0 := vals_back' rits
  subst e0
  obtain ⟨ws, rw_, hpairs⟩ := pairs_at I hK hp
  have hlw : es.length = ws.length := by rw [← rw_.length, List.length_map]
  have hte : ts.length = es.length := Paired.length hp
  have ok : HOk T.P T.w H s.heap := by rw [← hP, ← hw]; exact I.hok
  have hkey : ∀ h', HOk T.P T.w H h' → ∀ x ∈ ents es ws, (nestedKind T.P T.w).is h' x.1 x.2.1 := fun h' ok' x hx => by
    unfold ents at hx
    obtain ⟨z, hz, rfl⟩ := List.mem_map.mp hx
    have hm := (List.of_mem_zip hz).1
    have all : ∀ {ts : List Addr} {es : List XEnt}, Paired (fun (t : Addr) (e : XEnt) => SqT T.K H t [V.ref e.2.1, e.2.2] ∧ KeyX T H e.1 e.2.1) ts es → ∀ e ∈ es, KeyX T H e.1 e.2.1 := by
      intro ts es q
      induction q with
      | nil => intro e he; cases he
      | cons h _ ih =>
        intro e he
        rcases List.mem_cons.mp he with rfl | he
        · exact h.2
        · exact ih e he
    exact (all hp z.1 hm).is ok'
  have main : wpAny (model T.P T.w) X.A (call (.type "dict") [.ref l]) (EP X pins σ Q) X.xe s := by
    refine call_dict_pairsH (knd := nestedKind T.P T.w) (ps := ents es ws) (PairArg.list l (ts.map Value.ref).toArray (fun j => ts.getD j 0) ((es.zip ws).map fun z => (Value.ref z.1.2.1, z.2))) (I.ok.hd hc) (show X.A.units + 1 + 1 + 8 < cLine by omega) ⟨pl, ?_, fun j k v e => ?_⟩ ⟨?_, fun i key v e => ?_⟩ (fun h' kp x hx => hkey h' (ok.kept fun b o e => kp b o (Nat.ne_of_lt (Heap.lt_size e)) (by simp) e) x hx) ?_ fun h' tk dd kp => ?_
    · simp [hte, hlw]
    · obtain ⟨t, e1, e2⟩ := hpairs j k v e
      refine ⟨?_, ?_⟩
      · simp only [List.getElem?_toArray, List.getElem?_map, List.getD_eq_getElem?_getD, e1]
        rfl
      · show PairAt s.heap (ts.getD j 0) k v
        rw [List.getD_eq_getElem?_getD, e1]
        exact e2
    · simp [ents, hlw]
    · have e : ((es.zip ws).map fun z => (Value.ref z.1.2.1, z.2))[i]? = some (key, v) := e
      rw [List.getElem?_map] at e
      obtain ⟨z, h1, h2⟩ := Option.map_eq_some_iff.mp e
      cases h2
      exact ⟨z.1.1, z.1.2.1, by unfold ents; rw [List.getElem?_map, h1]; rfl, rfl⟩
    · rw [List.length_map] at hz
      simp only [List.length_map, List.length_zip]
      omega
    · obtain ⟨vs', rv', est⟩ := storedAll_ents rw_ (xs := []) (vs := []) .nil
      have e0 : (ents ([] : List XEnt) []) = [] := rfl
      rw [e0] at est
      rw [est] at dd
      obtain ⟨o, es1, ep, h1, h2, h3, h4, _, h5⟩ := dd
      have hl3 : (putAllX [] es).length = vs'.length := by rw [← rv'.length, List.length_map]
      rw [ents_keys hl3] at h5
      have hl2 : (putAllX [] es).length ≤ sizeLine := by
        have := putAllX_len (es := es) (xs := [])
        rw [List.length_map] at hz
        rw [List.length_nil] at this
        omega
      refine ⟨.ref s.heap.objs.size, _, I.laid (t' := tk) (o := DictX T.P T.w s.heap.objs.size o (putAllX [] es)) (fun b o e => kp b o (by simp) e) (Nat.le_refl _) ⟨⟨h1, beq_eq_false_iff_ne.mpr (Ne.symm (Nat.ne_of_lt I.big)), hl2, vs', rv', es1, ep, h2, h3, h4, h5⟩, ⟨o, h1⟩, fun g1 g2 t st => tabX_stay t st⟩, rfl, q _ _ (I.hok.fresh (Nat.le_refl _))⟩
  rw [← hP, ← hw] at main
  exact main
end
/-! ### by data -/
section
variable {T : Kt} {B : Option Addr} {G0 H0 G H G' H' : Hp} {ρ : Ev} {σ : L2.St} {E : XK}
def putAllD : List (D × D) → List (D × D) → List (D × D)
  | kvs, [] => kvs
  | kvs, p :: ps => match keyD p.1 with
    | some k => putAllD (putD kvs p.1 k p.2) ps
    | none => putAllD kvs ps
def entsOf : List D → Option (List (D × D))
  | [] => some []
  | .tuple [k, v] :: ts => match keyD k, entsOf ts with
    | some _, some ps => some ((k, v) :: ps)
    | _, _ => none
  | _ => none
theorem putAll_ent : ∀ {es : List XEnt} {ps : List (D × D)}, Paired (EntX T G) es ps → ∀ {xs : List XEnt} {kvs : List (D × D)}, Paired (EntX T G) xs kvs → Paired (EntX T G) (putAllX xs es) (putAllD kvs ps)
  | _, _, .nil, _, _, h => h
  | e :: es, p :: ps, .cons h1 r, xs, kvs, h => by
    unfold putAllD
    rw [h1.1]
    exact putAll_ent r (put_ent h1.1 h1.2.1 h1.2.2 h)
theorem ents_at (g : Same G H) : ∀ {vs : List V} {ts : List D} {ps : List (D × D)}, RpL T G vs ts → entsOf ts = some ps → ∃ (as : List Addr) (es : List XEnt), vs = as.map V.ref ∧ Paired (fun (t : Addr) (e : XEnt) => SqT T.K H t [V.ref e.2.1, e.2.2] ∧ KeyX T H e.1 e.2.1) as es ∧ Paired (EntX T G) es ps
  | _, _, _, .nil, e => by cases e; exact ⟨[], [], rfl, .nil, .nil⟩
  | v :: vs, t :: ts, ps, .cons h r, e => by
    unfold entsOf at e
    split at e
    · rename_i z
      cases z
    · rename_i k x ts' z
      cases z
      split at e
      · rename_i kk ps' e1 e2
        cases e
        obtain ⟨as, es, rfl, h1, h2⟩ := ents_at g r e2
        cases h with
        | tup ha rr =>
          rename_i a ws
          cases rr with
          | cons q1 rr =>
            cases rr with
            | cons q2 rr =>
              cases rr
              obtain ⟨b, rfl⟩ := q1.ref_of e1
              exact ⟨a :: as, (kk, b, _) :: es, rfl, .cons ⟨SqT.of (g _ _ ha), G, k, g, q1, e1⟩ h1, .cons ⟨e1, q1, q2⟩ h2⟩
      · cases e
    · cases e
/-- dict(e) -/
def dictE (f : M Slot) : M Slot := bd (sE f) fun x ρ => match x with
  | .list ts => match entsOf ts with
    | some ps => .ok (.t (putAllD [] ps), ρ)
    | none => .no
  | _ => .no
theorem de_dict {t : TE} {f : M Slot} (h : De T E t f) : De T E (tCB (rDictX T) (tCons t tNil)) (dictE f) := by
  intro B G0 H0 ρ σ G H I
  refine Pt.bd (t := t σ) (u := fun v H1 (Q : VK) => rDictX T [v] H1 Q) (dd_of h B G0 H0 ρ σ G H I) fun x ρ1 v G1 H1 e0 I1 k1 r1 => ?_
  clear e0
  split
  · rename_i ts
    cases ep : entsOf ts with
    | none => exact Pt.no
    | some ps =>
      cases r1 with
      | lst ha rr =>
        rename_i a vs
        obtain ⟨as, es, rfl, h1, h2⟩ := ents_at I1.gh rr ep
        refine Pt.ok fun Q q => ⟨a, as, es, rfl, SqL.of (I1.gh _ _ ha), h1, fun p o n => ?_⟩
        have al := Al.newO (o := DictX T.P T.w p o (putAllX [] es)) I1.gh n
        exact q _ G1 _ (I1.al al) (Same.refl _) (I1.vok (s := .t (putAllD [] ps)) ⟨p, putAllX [] es, rfl, n, ⟨o, upd_same⟩, Same.none I1.gh n, putAll_ent h2 .nil⟩)
  · exact Pt.no
end
/-! ### loops over a dict -/
def Itx (T : Kt) (d : Addr) (o : Obj) (xs : List XEnt) : It where
  go := fun i H => H d = some (DictX T.P T.w d o xs) ∧ i < xs.length
  yld := fun i H x H' => H' = H ∧ ∃ e, xs[i]? = some e ∧ x = V.ref e.2.1
  stop := fun i H => H d = some (DictX T.P T.w d o xs) ∧ xs.length ≤ i
theorem dx_at {T : Kt} {H : Hp} {h : Heap} {d : Addr} {o : Obj} {xs : List XEnt} (ok : HOk T.P T.w H h) (e : H d = some (DictX T.P T.w d o xs)) : (d == sysModules) = false ∧ h.get? d = some o ∧ o.ExactDict ∧ ∃ (es : Array DictEntry) (ep : Nat), o.data = .dict es ep ∧ es.size = xs.length ∧
    ∀ (i : Nat) x, xs[i]? = some x → ∃ en, es[i]? = some en ∧ en.key = .ref x.2.1 := by
  obtain ⟨⟨h1, hd, hz, vs, rv, es, ep, h2, h3, h4, h5⟩, _⟩ := (show ObjOk T.P T.w H h d (DictX T.P T.w d o xs) from ok d _ e)
  have hl : xs.length = vs.length := by rw [← rv.length, List.length_map]
  have hs : es.size = xs.length := by
    rw [← Array.length_toList, h4, List.length_map, List.length_map, List.length_zip]
    omega
  refine ⟨hd, h1, h2, es, ep, h3, hs, fun i x hx => ?_⟩
  have hi : i < xs.length := (List.getElem?_eq_some_iff.mp hx).1
  obtain ⟨v, hv⟩ : ∃ v, vs[i]? = some v := ⟨vs[i]'(by omega), List.getElem?_eq_getElem (by omega)⟩
  have hzip : (xs.zip vs)[i]? = some (x, v) := by rw [List.getElem?_zip_eq_some]; exact ⟨hx, hv⟩
  refine ⟨entryOfKey (nestedKind T.P T.w) (x.1, x.2.1, v), ?_, rfl⟩
  rw [← Array.getElem?_toList, h4, List.getElem?_map, List.getElem?_map, hzip]
  rfl
theorem turn_keysX {T : Kt} {K : PySem.W.Frag} {tg : Expr} {d : Addr} {o : Obj} {xs : List XEnt} {es : Array DictEntry} {ep : Nat} (it : Addr) (hod : o.data = .dict es ep) : Turn T.P T.w K tg (Itx T d o xs) [it] it (fun i h => h.IsKeyIter it d i xs.length ep) where
  mem := by simp
  obj := fun i h st b hb => by
    obtain rfl : b = it := by simpa using hb
    obtain ⟨oi, e, c, dd⟩ := st
    exact ⟨oi, e, fun v z => by rw [dd] at z; cases z⟩
  keep := fun i h h' st k => st.at fun oi e => k it (by simp) oi e
  item := by
    intro X hP hw hK hc i pins s σ H E I hf st hg
    obtain ⟨hd, hi⟩ := hg
    obtain ⟨f0, f1, f2, f3, f4, f5⟩ := hf it (by simp)
    have ok : HOk T.P T.w H s.heap := by rw [← hP, ← hw]; exact I.hok
    obtain ⟨hs, hgd, hx, es', ep', hdt, hsz, ent⟩ := dx_at ok hd
    obtain ⟨rfl, rfl⟩ := dict_ep hod hdt
    obtain ⟨e, he⟩ : ∃ e, xs[i]? = some e := ⟨xs[i], List.getElem?_eq_getElem hi⟩
    obtain ⟨en, hen, hkey⟩ := ent i e he
    refine next_key_item st hgd hdt hsz hen fun h' st' sb => ?_
    have I1 : Inv X pins σ H { s with heap := h' } := I.turned (t' := s.toks) (fun b ob hb q => (sb.2 b hb).trans q) f0 f1 f3 f4 f5
    obtain ⟨oi, q, c, dd⟩ := id st'
    exact ⟨en.key, rfl, go_of (s := { s with heap := h' }) q c dd (by decide) ⟨.ref e.2.1, H, I1, hkey, ⟨rfl, e, he, rfl⟩, st', fun b hb => (hf b hb).1⟩⟩
  done := by
    intro X hP hw hK hc i pins s σ H E I hf st hg
    obtain ⟨hd, hi⟩ := hg
    obtain ⟨f0, f1, f2, f3, f4, f5⟩ := hf it (by simp)
    have ok : HOk T.P T.w H s.heap := by rw [← hP, ← hw]; exact I.hok
    obtain ⟨hs, hgd, hx, es', ep', hdt, hsz, ent⟩ := dx_at ok hd
    obtain ⟨rfl, rfl⟩ := dict_ep hod hdt
    exact next_key_end (I.ok.hd hc) st hgd hdt hsz hi fun h' eb => ⟨rfl, I.turned (t' := s.toks) (fun b ob hb q => eb b ob hb q) f0 f1 f3 f4 f5⟩
  self := fun A i s Q E st h => wpAny_pyIter_keyiter st h
def iDictX (T : Kt) (td : TE) : TI := fun σ H R => td σ H fun x H1 => ∃ d o xs, x = V.ref d ∧ H1 d = some (DictX T.P T.w d o xs) ∧ R (Itx T d o xs) H1
theorem pi_dictX {X : Cx} {T : Kt} {tg e : Expr} {td : TE} (he : PE X e td) (hP : X.prog = T.P := by rfl) (hw : X.w = T.w := by rfl) : PI X tg e (iDictX T td) := by
  refine ⟨fun pins s σ H R I h => ?_⟩
  refine thn (he.run pins s σ H _ I h) fun u s1 ⟨x, H1, I1, rx, d, o, xs, ex, hd, q⟩ => ?_
  subst ex
  obtain rfl : u = Value.ref d := rx
  have ok : HOk T.P T.w H1 s1.heap := by rw [← hP, ← hw]; exact I1.hok
  obtain ⟨hs, hgd, hx, es, ep, hdt, hsz, ent⟩ := dx_at ok hd
  have tu : Turn X.prog X.w X.K tg (Itx T d o xs) [s1.heap.objs.size] s1.heap.objs.size (fun i h => h.IsKeyIter s1.heap.objs.size d i xs.length ep) := by
    rw [hP, hw]
    exact turn_keysX _ hdt
  refine iter_keys hs hgd hx hdt (pi_one (tk := s1.toks) I1 _ tu ⟨_, Heap.get?_push_size _ rfl, rfl, ?_⟩ q)
  rw [hsz] <;> rfl
section
variable {T : Kt} {B : Option Addr} {G0 H0 G H G' H' : Hp} {ρ : Ev} {σ : L2.St} {E : XK}
def keysT : D → Option (List D)
  | PyData.dict [(PyData.none, PyData.tuple ts)] => (unTab ts).map fun kvs => kvs.map (·.1)
  | _ => none
def dkE (f : M Slot) : M (List D) := bd (sE f) fun x => lf (keysT x)
theorem ent_get : ∀ {xs : List XEnt} {kvs : List (D × D)} {i : Nat} {e : XEnt}, RpK T G xs kvs → xs[i]? = some e → ∃ d, (kvs.map (·.1))[i]? = some d ∧ Rp T G (.ref e.2.1) d
  | _, _, i, _, .nil, h => by simp at h
  | _, _, 0, e, .cons e1 h1 h2 r, h => by
    simp at h
    subst h
    exact ⟨_, rfl, h1⟩
  | _, _, i + 1, e, .cons e1 h1 h2 r, h => by
    obtain ⟨d, q1, q2⟩ := ent_get (i := i) r (by simpa using h)
    exact ⟨d, by simpa using q1, q2⟩
theorem rpk_len : ∀ {xs : List XEnt} {kvs : List (D × D)}, RpK T G xs kvs → xs.length = kvs.length
  | _, _, .nil => rfl
  | _, _, .cons _ _ _ r => congrArg (· + 1) (rpk_len r)
theorem iter_dict {a : Addr} {o : Obj} {xs : List XEnt} {kvs : List (D × D)} (h : G a = some (DictX T.P T.w a o xs)) (r : RpK T G xs kvs) : IterOk T G (Itx T a o xs) (kvs.map (·.1)) := fun G' H' g1 g2 => by
  have hl := rpk_len r
  refine ⟨⟨g2 _ _ (g1 _ _ h), by rw [List.length_map]; omega⟩, fun i hi => ?_⟩
  rw [List.length_map] at hi
  refine ⟨⟨g2 _ _ (g1 _ _ h), by omega⟩, fun w H2 y => ?_⟩
  obtain ⟨rfl, e, he, rfl⟩ := y
  obtain ⟨d, q1, q2⟩ := ent_get r he
  exact ⟨G', d, Al.refl g2, q1, q2.mono g1⟩
theorem di_dict {t : TE} {f : M Slot} (h : De T E t f) : Di T E (iDictX T t) (dkE f) := by
  intro B G0 H0 ρ σ G H I
  refine Pt.bd (t := t σ) (u := fun x H1 (R : It → Hp → Prop) => ∃ d o xs, x = V.ref d ∧ H1 d = some (DictX T.P T.w d o xs) ∧ R (Itx T d o xs) H1) (dd_of h B G0 H0 ρ σ G H I) fun x ρ1 v G1 H1 _ I1 k1 r1 => ?_
  refine Pt.lf fun xs e => Pt.ok fun R q => ?_
  unfold keysT at e
  split at e
  · rename_i ts
    obtain ⟨a, ys, kvs, rfl, eu, ⟨o, h1⟩, r⟩ := Rp.tabOf r1
    rw [eu] at e
    cases e
    exact ⟨a, o, ys, rfl, I1.gh _ _ h1, q _ G1 H1 I1 (Same.refl _) (iter_dict h1 r)⟩
  · cases e
/-! ### len(d) -/
def rLenX (T : Kt) : List V → Hp → VK → Prop := fun vs H Q => ∃ (a : Addr) (xs : List XEnt), vs = [V.ref a] ∧ IsX T a xs (H a) ∧ (∀ z ∈ xs, KeyX T H z.1 z.2.1) ∧ Q (.int xs.length) H
theorem cr_lenX {X : Cx} (hP : X.prog = T.P := by rfl) (hw : X.w = T.w := by rfl) : CallR X (.builtin "len") (rLenX T) := by
  intro pins s σ H vs us Q I r h
  obtain ⟨a, xs, rfl, d, hks, q⟩ := h
  obtain ⟨u, rfl, ru⟩ := vals1 r
  obtain rfl : u = Value.ref a := ru
  have ok : HOk T.P T.w H s.heap := by rw [← hP, ← hw]; exact I.hok
  obtain ⟨hd, hz, vs, rv, dd⟩ := isx_of ok d hks
  have hl : xs.length = vs.length := by rw [← rv.length, List.length_map]
  have hn := line63
  rw [hP, hw]
  refine call_len_dictH hd dd (by rw [ents_length hl]; omega) ?_
  exact ⟨.int xs.length, H, I.tok _, ⟨_, by rw [ents_length hl]⟩, q⟩
def xlenE (i : Nat) : M Slot := fun ρ => match ρ[i]? with
  | some (.t kvs) => .ok (.d (.int kvs.length), ρ)
  | some (.d (PyData.dict [(PyData.none, PyData.tuple ts)])) => match unTab ts with
    | some kvs => .ok (.d (.int kvs.length), ρ)
    | none => .no
  | _ => .no
theorem de_xlen (i : Nat) : De T E (tCB (rLenX T) (tCons (tVar i) tNil)) (xlenE i) := by
  intro B G0 H0 ρ σ G H I
  unfold xlenE
  split
  · rename_i kvs e
    refine Pt.ok fun Q q => ?_
    obtain ⟨w, h1, a, xs, rfl, h2, h3, h4, r⟩ := I.sl i _ e (fun z => by cases z)
    refine ⟨.ref a, h1, a, xs, rfl, h2, ent_keys I.gh r, ?_⟩
    rw [paired_len r]
    exact q _ G H I (Same.refl _) (vok_d (.int _))
  · rename_i ts e
    split
    · rename_i kvs eu
      refine Pt.ok fun Q q => ?_
      obtain ⟨w, h1, h2⟩ := I.sl i _ e (fun z => by cases z)
      obtain ⟨a, xs, kvs', rfl, eu', h3, r⟩ := Rp.tabOf h2
      rw [eu] at eu'
      cases eu'
      refine ⟨.ref a, h1, a, xs, rfl, h3.up I.gh, ent_keys I.gh r.paired, ?_⟩
      rw [rpk_len r]
      exact q _ G H I (Same.refl _) (vok_d (.int _))
    · exact Pt.no
  · exact Pt.no
end
/-! ### b is True, d is None, what is never come to -/
section
variable {T : Kt} {B : Option Addr} {G0 H0 G H G' H' : Hp} {ρ : Ev} {σ : L2.St} {E : XK}
def opIsB : D → D → Option Slot
  | .bool b, .bool c => some (.d (.bool (b == c)))
  | _, _ => none
def opNotB : D → D → Option Slot
  | .bool b, .bool c => some (.d (.bool (b != c)))
  | _, _ => none
def rNotB : R2 := fun x y H Q => ∃ b c : Bool, x = .bl b ∧ y = .bl c ∧ Q (.bl (b != c)) H
theorem op_notB {X : Cx} : OpR X (compareOp .IsNot) rNotB := by
  intro pins s σ H x y v u Q I rx ry h
  obtain ⟨b, c, rfl, rfl, q⟩ := h
  cases rx
  cases ry
  refine wpAny_isNot_plain rfl (fin_bl I q ?_)
  cases b <;> cases c <;> rfl
theorem os_isB : OpS T NCKw.rIsB opIsB := by
  intro G H v w x y s Q g hv hw e q
  unfold opIsB at e
  split at e
  · cases e
    exact ⟨_, _, hv.bl, hw.bl, q _ G H (Al.refl g) (.bl _)⟩
  · cases e
theorem os_notB : OpS T rNotB opNotB := by
  intro G H v w x y s Q g hv hw e q
  unfold opNotB at e
  split at e
  · cases e
    exact ⟨_, _, hv.bl, hw.bl, q _ G H (Al.refl g) (.bl _)⟩
  · cases e
/-- a name that may hold a dict: is it None -/
def xisN (neg : Bool) (i : Nat) : M Slot := fun ρ => match ρ[i]? with
  | some (.d x) => .ok (.d (.bool (ngB neg (isNone x))), ρ)
  | some (.t _) => .ok (.d (.bool neg), ρ)
  | _ => .no
theorem de_xisN (i : Nat) : De T E (tOp rIsN (tVar i) (tC .non)) (xisN false i) := by
  intro B G0 H0 ρ σ G H I
  unfold xisN
  split
  · rename_i x e
    refine Pt.ok fun Q q => ?_
    obtain ⟨v, h1, h2⟩ := I.sl i _ e (fun z => by cases z)
    refine ⟨v, h1, rfl, ?_⟩
    rw [non_dec (T := T) (G := G) (H := H) (.inl h2)]
    exact q _ G H I (Same.refl _) (vok_d (.bl _))
  · rename_i kvs e
    refine Pt.ok fun Q q => ?_
    obtain ⟨v, h1, a, xs, rfl, _⟩ := I.sl i _ e (fun z => by cases z)
    exact ⟨.ref a, h1, rfl, q _ G H I (Same.refl _) (vok_d (.bl _))⟩
  · exact Pt.no
theorem de_xnotN (i : Nat) : De T E (tOp rNotN (tVar i) (tC .non)) (xisN true i) := by
  intro B G0 H0 ρ σ G H I
  unfold xisN
  split
  · rename_i x e
    refine Pt.ok fun Q q => ?_
    obtain ⟨v, h1, h2⟩ := I.sl i _ e (fun z => by cases z)
    refine ⟨v, h1, rfl, ?_⟩
    rw [non_dec (T := T) (G := G) (H := H) (.inl h2)]
    exact q _ G H I (Same.refl _) (vok_d (.bl _))
  · rename_i kvs e
    refine Pt.ok fun Q q => ?_
    obtain ⟨v, h1, a, xs, rfl, _⟩ := I.sl i _ e (fun z => by cases z)
    exact ⟨.ref a, h1, rfl, q _ G H I (Same.refl _) (vok_d (.bl _))⟩
  · exact Pt.no
theorem de_never : De T E (fun _ _ _ => False) (fun _ => .no) := fun B G0 H0 ρ σ G H I => Pt.no
theorem dt_never : Dt T E (fun _ _ _ => False) (fun _ => .no) := fun B G0 H0 ρ σ G H I => Pt.no
theorem pt_never {X : Cx} {e : Expr} : PT X e (fun _ _ _ => False) := ⟨fun _ _ _ _ _ _ h => h.elim⟩
end
end DL
/-! NCClo: lambdas that leave the def that made them. -/
namespace DL
open PySem PySem.Spec PyProof.Rows L2 LamX NCLam
/-- the cell at c holds v -/
def CellO (c : Addr) (v : V) : HO := .ext fun h => ∃ u, RelV v u ∧ h.IsCell c (some u)
theorem cellO_ok {P : Program} {w : World} {H : Hp} {h : Heap} {c : Addr} {v : V} {u : Value} (r : RelV v u) (e : h.IsCell c (some u)) : ObjOk P w H h c (CellO c v) := by
  refine ⟨⟨u, r, e⟩, let ⟨o, ho, _⟩ := e; ⟨o, ho⟩, fun h1 h2 ⟨u1, r1, o, ho, hd⟩ st => ⟨u1, r1, o, st o ho, hd⟩⟩
/-- statements that end by a return; the slots are told there -/
structure PSr (X : Cx) (st : List Stmt) (t : L2.St → Hp → (V → L2.St → Hp → Prop) → Prop) : Prop where
  go : ∀ (pins : List (Addr × Obj)) (s : Shared) (σ : L2.St) (H : Hp) (R : V → L2.St → Hp → Prop), Inv X pins σ H s → t σ H R → wpAny (model X.prog X.w) X.A (execs st X.env) (fun fl s' => match fl with
    | .ret u => ∃ v σ' H', Inv X pins σ' H' s' ∧ RelV v u ∧ R v σ' H'
    | _ => False) X.xe s
section
variable {X : Cx} {st : Stmt} {rest : List Stmt} {e : Expr} {pos : Pos}
theorem psr_ret {te : TE} (he : PE X e te) : PSr X [.Return (some e) pos] (fun σ H R => te σ H fun v H' => R v σ H') := by
  refine ⟨fun pins s σ H R I h => wpAny_execs_cons (wpAny_Return_some (thn (he.run pins s σ H _ I h) fun v s1 hq => ?_))⟩
  obtain ⟨x, H1, I1, r1, q1⟩ := hq
  exact ⟨x, σ, H1, I1, r1, q1⟩
theorem psr_cons {t : TS} {u : L2.St → Hp → (V → L2.St → Hp → Prop) → Prop} (h1 : PS X st t) (h2 : PSr X rest u) : PSr X (st :: rest) (fun σ H R => t { nx := fun σ' H' => u σ' H' R, rt := fun _ _ => False } σ H) := by
  refine ⟨fun pins s σ H R I h => wpAny_execs_cons (thn (h1.run pins s σ H _ I h) fun f s1 q => ?_)⟩
  cases f with
  | next =>
    obtain ⟨σ1, H1, I1, q1⟩ := q
    exact h2.go pins s1 σ1 H1 R I1 q1
  | ret v =>
    obtain ⟨_, _, _, _, _, z⟩ := q
    exact z.elim
  | brk =>
    obtain ⟨_, _, _, z⟩ := q
    exact z.elim
  | cont =>
    obtain ⟨_, _, _, z⟩ := q
    exact z.elim
end
/-- a def whose parameter y is captured by what it returns: its cell is told of -/
theorem fun_okR {P : Program} {w : World} {K : PySem.W.Frag} {mg : Str → Option Value} {base : Heap} {x qual : Str} {params : Arguments} {body : List Stmt} {scope : Scope} {dvs : List V} {kws : List (Str × V)} {f : Addr} {fd : FuncData} {N : List Str} {k i : Nat} {y : Str} {sp : Sp} {p : He.Defn}
    (F : FunD K x qual params body scope dvs kws f fd) (hf : f = He.fAd K p) (S : FnScope N [y] scope) (hN : N[i]? = some y) (hy : scope.names.lookup y = some .cell) (len : ∀ vs H Q E, sp vs H Q E → vs.length = 1)
    (hbody : ∀ (A : Around) (outer : List Env) (s : Shared) (H : Hp) (vs : List V) (Q : VK) (E : XK) (c : Addr), Room k (A.deeper (envOfC qual scope s.heap.objs.size f (.ref (He.codeOf K p)))) → sp vs H Q E → (cellsFrom (s.heap.objs.size + 1) scope.names []).lookup y = some c →
      ∃ t, PSr (cxOf CX0 P w K mg base N qual scope f (.ref (He.codeOf K p)) A outer s H E) body t ∧ t (start N vs) H (fun v σ H' => ∃ w0, σ[i]? = some (some w0) ∧ (H' c = none → Q v (upd H' c (CellO c w0))))) : FnOk P w K mg base CX0 (k + 1) f fd [y] sp := by
  obtain ⟨oc, od, dV, kV, doc, pm, an, cdv, ct, osl, rfl, lk, hcd, _, _⟩ := F.ex
  obtain ⟨cc, rfl⟩ := He.codeIn_ref hcd
  have ec : He.codeOf K p = cc := He.codeOf_eq (hf ▸ lk) rfl
  rw [ec] at hbody
  refine ⟨len, fun A outer s H args us vs Q E hr e0 hb r hsp => ?_⟩
  have kin : K.In s.heap := e0.mod.kin.keeps fun b o z => (e0.bs b o z).1
  have nol : s.heap.NoLimit := e0.mod.nolimit.keeps fun b o z => (e0.bs b o z).1
  obtain ⟨c, hc⟩ : ∃ c, (cellsFrom (s.heap.objs.size + 1) scope.names []).lookup y = some c := Option.isSome_iff_exists.mp (PySem.W.cellsFrom_some _ _ _ (.inl hy))
  refine codeAny_call_function hr.depth (kin _ _ lk) rfl S.co S.gen rfl (PySem.W.codeRec_of kin hcd) (hb _ _ _ _ (wpAny_newFunctionEnv_cells S.kind (fun z hz => ?_) fun env he s1 ic => ?_))
  · obtain ⟨n, v⟩ := z
    have hn : n = y := by simpa using (List.of_mem_zip hz).1
    subst hn
    exact .inr ⟨hy, by rw [hc]; rfl⟩
  · subst he
    refine ⟨nol.keeps ic.toInCall.keep, codeAny_func ?_⟩
    obtain ⟨t, ht, hq⟩ := hbody A outer s H vs Q E c (hr.deeper _) hsp hc
    have I0 := inv_start (CX := CX0) (mg := mg) (E := E) S hr.hd e0 (len _ _ _ _ hsp) r ic
    refine wpAny_mono (ht.go [] s1 _ H _ I0 hq) (fun fl s' hs => ?_) fun e s' hs => hs
    cases fl with
    | next => exact hs.elim
    | brk => exact hs.elim
    | cont => exact hs.elim
    | ret u =>
      obtain ⟨v, σ', H', J, rv, w0, hw, q⟩ := hs
      have hcl : (cxOf CX0 P w K mg base N qual scope f (.ref cc) A outer s H E).env.cells.lookup y = some c := hc
      have hcn : H' c = none := J.freeC y c hcl
      obtain ⟨m, hm, hloc⟩ := J.loc
      obtain ⟨u0, ru, lk0⟩ := hloc i y w0 hN hw (.inr (.inl hy))
      have hic : s'.heap.IsCell c (some u0) := by
        rcases lk0 with ⟨kk, _⟩ | ⟨_, c2, h2, h3⟩
        · have kk : scope.names.lookup y = some .local := kk
          rw [hy] at kk
          cases kk
        · rw [hcl] at h2
          cases h2
          exact h3
      refine ⟨v, upd H' c (CellO c w0), J.os, J.bare, ?_, ?_, rv, q hcn⟩
      · have hlt : s.heap.objs.size ≤ c := J.ok.cab y c rfl hcl
        have hn : H c = none := e0.hok.fresh hlt
        have ne : ∀ b o, H b = some o → b ≠ c := fun b o z q => by rw [q, hn] at z; cases z
        have ne2 : ∀ b o, s.heap.get? b = some o → b ≠ c := fun b o z q => absurd (Heap.lt_size z) (by rw [q]; exact Nat.not_lt.mpr hlt)
        have un := J.base
        exact ⟨un.keep, un.slot, fun b o z n nx => by rw [upd_ne (ne2 b o z)]; exact un.free b o z n nx, un.there, fun b xs z => by rw [upd_ne (ne b _ z)]; exact un.tups b xs z, fun b o q z => by rw [upd_ne (ne b _ z)]; exact un.frzs b o q z, fun b ps z => by rw [upd_ne (ne b _ z)]; exact un.tbls b ps z⟩
      · have ne : ∀ b o, H' b = some o → b ≠ c := fun b o z q => by rw [q, hcn] at z; cases z
        intro b o z
        by_cases hb : b = c
        · rw [hb, upd_same] at z
          cases z
          rw [hb]
          exact cellO_ok ru hic
        · rw [upd_ne hb] at z
          exact (J.hok b o z).stay (fun _ _ _ q => q) (fun _ q => by rw [upd_ne (ne _ _ q)]; exact q) fun _ _ q => by rw [upd_ne (ne _ _ q)]; exact q
end DL
/-! NCClo2: the call of a lambda whose only captured name is held by a cell of the base. -/
namespace DL
open PySem PySem.Spec PyProof.Rows L2 LamX NCLam
/-- what a lambda of the maker X may lean on: its one cell is in the base -/
structure Clo (X : Cx) (B : Heap) (y : Str) (c : Addr) (v : V) (σ : L2.St) : Prop where
  cells : X.env.cells = [(y, c)]
  cell : ∃ u, B.IsCell c (some u) ∧ RelV v u
  slots : ∀ (i : Nat) (x : Str) (w : V), X.N[i]? = some x → σ[i]? = some (some w) → x = y ∧ w = v
  len : σ.length = X.N.length
section
variable {X : Cx} {B : Heap} {y : Str} {c : Addr} {v : V} {σ : L2.St} {HZ : Hp} {s1 : Shared}
theorem lam_startC {A : Around} {outer : List Env} {E : XK} {scope : Scope} {f c' : Addr} {h₁ : Heap} {tk : Nat} {m0 : Str → Option Value} (I : Clo X B y c v σ) (hf : ∀ x ∈ scope.names, x.2 = .free → x.1 = y) (L : LamN X.N X.env.scope scope) (e0 : Env0 X.prog X.w X.K X.mg B A outer s1 HZ) (hd : A.handled = none)
    (hns : h₁.Ns s1.heap.objs.size m0) (kp : ∀ b o, s1.heap.get? b = some o → h₁.get? b = some o) : Inv (NCLam.lamCx X B A outer s1 HZ E scope f c') [] σ HZ { s1 with heap := h₁, toks := tk } := by
  have hy1 : X.env.cells.lookup y = some c := by rw [I.cells]; simp [List.lookup]
  have cm : ∀ {z d}, (cloFrom X.env.cells scope.names []).lookup z = some d → z = y ∧ d = c := fun {z d} e => by
    rcases cloFrom_mem (PySem.mem_of_lookup e) with q | ⟨h1, h2⟩
    · cases q
    · have e1 : z = y := hf _ h1 rfl
      refine ⟨e1, ?_⟩
      rw [h2]
      show (X.env.cells.lookup z).getD _ = c
      rw [e1, hy1]
      rfl
  have look : ∀ {z}, scope.names.lookup z = some .free → ∃ d, (cloFrom X.env.cells scope.names []).lookup z = some d := fun {z} hl => mem_lookup (cloFrom_has (cells := X.env.cells) (acc := []) (show (z, NameKind.free) ∈ scope.names from PySem.mem_of_lookup hl))
  obtain ⟨u, ⟨o, ho, hdt⟩, rv⟩ := I.cell
  obtain ⟨q1, q2⟩ := e0.bs c o ho
  have hic : h₁.IsCell c (some u) := ⟨o, kp _ _ q1, hdt⟩
  have noA : ∀ b : Addr, b ∉ (NCLam.lamCx X B A outer s1 HZ E scope f c').ex := fun b z => absurd (show b ∈ ([] : List Addr) from z) (by simp)
  refine ⟨⟨e0.mod, L.kind, rfl, rfl, Nat.le_refl _, fun a z d e1 e2 => (cm e1).1.trans (cm e2).1.symm, fun z hz => ?_, fun z d q _ => ?_, fun _ => hd, Around.frames_deeper e0.frames, .inr ⟨rfl, rfl⟩, fun b z => absurd z (noA b), e0.bs, e0.bsz, fun b _ _ => noA b,
      fun b z => absurd z (noA b), e0.funs, e0.frf⟩,
    rfl, e0.bare, Un.kept kp, ⟨_, hns, fun i z w e1 e2 e3 => ?_⟩, fun z d e => ?_, e0.hok.fresh (Nat.le_refl _), fun z d e => ?_, fun q hq => absurd (show q ∈ ([] : List (Addr × Obj)) ++ [] from hq) (by simp), e0.hok.kept kp, I.len⟩
  · have hz : scope.names.lookup z = some .cell ∨ scope.names.lookup z = some .free := hz
    rcases hz with hz | hz
    · exact absurd rfl (L.own _ (PySem.mem_of_lookup hz)).2
    · exact look hz
  · have q : false = true := q
    cases q
  · have e3 : Vis scope z := e3
    have e1 : X.N[i]? = some z := e1
    rcases e3 with k | k | k
    · exact absurd (List.mem_of_getElem? e1) ((L.own _ (PySem.mem_of_lookup k)).1 rfl)
    · exact absurd rfl (L.own _ (PySem.mem_of_lookup k)).2
    · obtain ⟨c2, h2⟩ := look k
      refine ⟨u, ?_, .inr ⟨.inr k, c2, h2, ?_⟩⟩
      · rw [(I.slots i z w e1 e2).2]
        exact rv
      · rw [(cm h2).2]
        exact hic
  · rw [(cm e).2]
    exact ⟨_, hic⟩
  · rw [(cm e).2]
    exact q2
theorem act_lamC {params : Arguments} {body : Expr} {scope : Scope} {dvs : List V} {k : Nat} {f : Addr} {t : XK → TE} (I : Clo X B y c v σ) (hf : ∀ x ∈ scope.names, x.2 = .free → x.1 = y) (L : LamN X.N X.env.scope scope)
    (hbind : ∀ (c' : Addr) (dV pm ctv : Value) (s1 : Shared) (HZ : Hp), HOk X.prog X.w HZ s1.heap → ((dvs = [] ∧ dV = .none) ∨ ∃ T, dvs ≠ [] ∧ dV = .ref T ∧ HZ T = some (.tup dvs)) → ∃ binds : List (Str × Value), BindsTo s1 (fnL (X.env.qual ++ "<lambda>") params body scope (cloFrom X.env.cells scope.names []) dV pm c' ctv) ⟨[], []⟩ binds ∧ ∀ y ∈ binds, scope.names.lookup y.1 = some .local)
    (hbody : ∀ (B : Heap) (A : Around) (outer : List Env) (s : Shared) (H : Hp) (E : XK) (f c' : Addr), Room k (A.deeper (lamEnv X scope s.heap.objs.size f c')) → PE (NCLam.lamCx X B A outer s H E scope f c') body (t E)) :
    Acts X.prog X.w X.K X.mg B (k + 1) f (fun E HZ Q => IsLam X params body scope dvs HZ f ∧ t E σ HZ Q) := by
  intro A outer s1 HZ Q E hr e0 ⟨⟨c', dV, h1, h2, h3⟩, ht⟩
  obtain ⟨⟨pm, ctv, of1⟩, _, _⟩ := e0.hok f _ h1
  obtain ⟨⟨oc, vs, tq, hoc, hdc, hvc⟩, _, _⟩ := e0.hok c' _ h2
  obtain ⟨binds, hB, hloc⟩ := hbind c' dV pm ctv s1 HZ e0.hok h3
  refine ⟨⟨_, _, _, _, of1⟩, PySem.W.kla_callFunE hr.depth of1 rfl L.co L.gen rfl ⟨c', oc, vs, tq, rfl, hoc, hdc, hvc⟩ (hB _ _ _ _ ?_)⟩
  refine wpAny_newFunctionEnv (fun y hy => (L.own y hy).2) hloc (fun h₁ hns hsb => ?_) L.kind
  have kp : ∀ b o, s1.heap.get? b = some o → h₁.get? b = some o := fun b o e => hsb.extBut b o (Nat.ne_of_lt (Heap.lt_size e)) (Heap.get?_push_of_some _ e)
  have lim : s1.heap.NoLimit := e0.mod.nolimit.keeps fun b o e => (e0.bs b o e).1
  refine ⟨lim.fresh _ hsb, ?_⟩
  have J : Inv (NCLam.lamCx X B A outer s1 HZ E scope f c') [] σ HZ { s1 with heap := h₁, toks := s1.toks + binds.length } := lam_startC I hf L e0 hr.hd hns kp
  show codeAny _ _ (.expr body (lamEnv X scope s1.heap.objs.size f c')) _ _
  refine PySem.W.kla_codeExpr (wpAny_mono ((hbody _ A outer s1 HZ E f c' (hr.deeper _)).run [] _ _ HZ Q J ht) (fun v s' hq => ?_) fun e s' hq => hq)
  obtain ⟨w', H', J', rv, q⟩ := hq
  exact ⟨w', H', J'.os, J'.bare, J'.base, J'.hok, rv, q⟩
/-- what may be called, the maker being gone -/
def ActingC (X : Cx) (y : Str) (k : Nat) (tl : L2.St → Addr → XK → Hp → VK → Prop) : Prop := ∀ B c v σ, Clo X B y c v σ → ∀ f, Acts X.prog X.w X.K X.mg B k f (tl σ f)
theorem actingC_or {k : Nat} {a b : L2.St → Addr → XK → Hp → VK → Prop} (ha : ActingC X y k a) (hb : ActingC X y k b) : ActingC X y k (fun σ f E H Q => a σ f E H Q ∨ b σ f E H Q) := fun B c v σ I f A outer s1 HZ Q E hr e0 h => h.elim (ha B c v σ I f A outer s1 HZ Q E hr e0) (hb B c v σ I f A outer s1 HZ Q E hr e0)
theorem acting0C {params : Arguments} {body : Expr} {scope : Scope} {k : Nat} {t : XK → TE} (hf : ∀ x ∈ scope.names, x.2 = .free → x.1 = y) (L : LamN X.N X.env.scope scope)
    (hb : ∀ (c' : Addr) (pm ctv : Value), bindArgs (fnL (X.env.qual ++ "<lambda>") params body scope (cloFrom X.env.cells scope.names []) .none pm c' ctv) ⟨[], []⟩ = pure [])
    (hbody : ∀ (B : Heap) (A : Around) (outer : List Env) (s : Shared) (H : Hp) (E : XK) (f c' : Addr), Room k (A.deeper (lamEnv X scope s.heap.objs.size f c')) → PE (NCLam.lamCx X B A outer s H E scope f c') body (t E)) : ActingC X y (k + 1) (tlLam X params body scope [] t) := fun B c v σ I f => by
  refine act_lamC I hf L (fun c' dV pm ctv s1 HZ hok hd => ?_) hbody
  rcases hd with ⟨_, rfl⟩ | ⟨T, z, _⟩
  · exact ⟨[], .of_eq (hb c' pm ctv), fun y hy => by cases hy⟩
  · exact absurd rfl z
theorem acting1C {params : Arguments} {body : Expr} {scope : Scope} {k : Nat} {i : Int} {x : Str} {t : XK → TE} (hf : ∀ x ∈ scope.names, x.2 = .free → x.1 = y) (L : LamN X.N X.env.scope scope) (hx : scope.names.lookup x = some .local)
    (hb : ∀ (c' T : Addr) (pm ctv u : Value), ∃ kk : Option (Array Value) → Sem (List (Str × Value)), bindArgs (fnL (X.env.qual ++ "<lambda>") params body scope (cloFrom X.env.cells scope.names []) (.ref T) pm c' ctv) ⟨[], []⟩ = seqItems? (.ref T) >>= kk ∧ kk (some #[u]) = pure [(x, u)])
    (hbody : ∀ (B : Heap) (A : Around) (outer : List Env) (s : Shared) (H : Hp) (E : XK) (f c' : Addr), Room k (A.deeper (lamEnv X scope s.heap.objs.size f c')) → PE (NCLam.lamCx X B A outer s H E scope f c') body (t E)) : ActingC X y (k + 1) (tlLam X params body scope [.int i] t) := fun B c v σ I f => by
  refine act_lamC I hf L (fun c' dV pm ctv s1 HZ hok hd => ?_) hbody
  rcases hd with ⟨z, _⟩ | ⟨T, _, rfl, hT⟩
  · cases z
  · obtain ⟨_, its, r, o, ho, _, n, hs⟩ := hok T _ hT
    cases r with
    | @cons _ u _ _ r1 r2 =>
      cases r2
      obtain ⟨kk, b1, b2⟩ := hb c' T pm ctv u
      refine ⟨[(x, u)], .of_defaults (T := T) (k := kk) rfl ho hs b1 b2, fun y hy => ?_⟩
      rw [List.mem_singleton.mp hy]
      exact hx
end
section
variable {X : Cx} {pins : List (Addr × Obj)} {σ : L2.St} {H : Hp} {s : Shared}
/-- a cell is told of no more -/
theorem inv_drop {c : Addr} {v : V} (I : Inv X pins σ H s) (hc : H c = some (CellO c v)) : Inv X pins σ (del H c) s := by
  have ne : ∀ b o, H b = some o → (∀ z, o ≠ .ext z) → b ≠ c := fun b o e n q => by
    rw [q, hc] at e
    exact n _ (Option.some.inj e).symm
  have dn : ∀ b, H b = none → del H c b = none := fun b e => by
    by_cases hb : b = c
    · rw [hb, del_same]
    · rw [del_ne hb]; exact e
  refine ⟨I.ok, I.os, I.bare, ?_, I.loc, I.cell, dn _ I.free, fun x d e => dn _ (I.freeC x d e), fun p hp => ?_, ?_, I.len⟩
  · have un := I.base
    refine ⟨un.keep, un.slot, fun b o z n nx => dn _ (un.free b o z n nx), un.there, fun b xs z => ?_, fun b o q z => ?_, fun b ps z => ?_⟩
    · rw [del_ne (ne _ _ (un.tups b xs z) fun _ q => by cases q)]; exact un.tups b xs z
    · rw [del_ne (ne _ _ (un.frzs b o q z) fun _ q => by cases q)]; exact un.frzs b o q z
    · obtain ⟨more, e⟩ := un.tbls b ps z
      exact ⟨more, by rw [del_ne (ne _ _ e fun _ q => by cases q)]; exact e⟩
  · obtain ⟨h1, h2, h3⟩ := I.pin p hp
    exact ⟨h1, dn _ h2, h3⟩
  · intro b o e
    have hb : b ≠ c := fun q => by rw [q, del_same] at e; cases e
    rw [del_ne hb] at e
    exact (I.hok b o e).stay (fun _ _ _ q => q) (fun d q => by rw [del_ne (ne _ _ q fun _ q => by cases q)]; exact q) fun d xs q => by rw [del_ne (ne _ _ q fun _ q => by cases q)]; exact q
/-- g(e, ..), handed lambdas whose maker is gone: mk tells of the maker, its cell and what it holds -/
theorem pe_callC {k kk : Nat} {g : Addr} {fd : FuncData} {ps : List Str} {x : Str} {p pos : Pos} {e : Expr} {es : List Expr} {ta : TA} {mk : Cx → Addr → V → L2.St → Prop} {tl : Cx → L2.St → Addr → XK → Hp → VK → Prop} {spT : (Addr → XK → Hp → VK → Prop) → Sp}
    (ha : ∀ X' c v τ, mk X' c v τ → ∀ B, (∃ u, B.IsCell c (some u) ∧ RelV v u) → ∀ f, Acts X.prog X.w X.K X.mg B kk f (tl X' τ f))
    (F : ∀ (base : Heap) (al : Addr → XK → Hp → VK → Prop), (∀ f, Acts X.prog X.w X.K X.mg base kk f (al f)) → FnOk X.prog X.w X.K X.mg base CX0 k g fd ps (spT al)) (hr : Room k X.A) (hg : Gl X x) (hm : X.mg x = some (.ref g)) (hk : PySem.W.keepIn X.K (.ref g) = true) (hb : Binds X.K fd ps []) (hargs : PA X (e :: es) ta)
    (hdb : (x == ("__debug__" : Str)) = false := by decide) (he : starEach (e :: es) X.env = (false, eval e X.env) :: starEach es X.env := by rfl) (hpl : (backTo pos (starEach es X.env)).any (·.1) = false := by rfl) :
    PE X (.Call (.Name x p) (e :: es) [] pos) (fun σ H Q => ta σ H fun vs H1 => ∃ X' c v τ, mk X' c v τ ∧ H1 c = some (CellO c v) ∧ spT (tl X' τ) vs (del H1 c) Q (fun _ _ _ => False)) := by
  refine ⟨fun pins s σ H Q I h => ?_⟩
  refine wpAny_Call_Name_kw (ld_glob I hg hm ?_ hdb)
  refine PySem.W.callWith_K (h₀ := X.base) I.ok.mod.kin hk (thn (hargs.run pos pins s σ H _ I h) fun us s1 ⟨vs, H1, I1, r, q⟩ => ⟨I1.kIn, ?_⟩) he hpl
  obtain ⟨X', c, v, τ, hmk, hc, q⟩ := q
  obtain ⟨⟨u, ru, o, ho, hdt⟩, _, _⟩ := I1.hok c _ hc
  have nf : c ∉ frs X.stack := fun z => by
    have := I1.stkFree c z
    rw [hc] at this
    cases this
  have I2 := inv_drop I1 hc
  have F1 := F (baseAt X (del H1 c) s1) (tl X' τ) (ha X' c v τ hmk _ ⟨u, ⟨o, baseAt_get ho del_same nf, hdt⟩, ru⟩)
  have hl : us.length = ps.length := by rw [← r.length]; exact F1.len _ _ _ _ q
  refine wpAny_call (codeAny_mono (F1.run X.A X.stack s1 (del H1 c) ⟨us, []⟩ us vs Q (fun _ _ _ => False) hr (env0_at I2) (by have z := hb s1 us I1.kIn (by rw [List.append_nil]; exact hl); rw [List.append_nil] at z; exact z) r q) fun r s' hq => ?_)
  cases r with
  | error e => exact (show False from hq).elim
  | ok fl =>
    cases fl with
    | ret u => exact I2.after hq
    | next => exact False.elim hq
    | brk => exact False.elim hq
    | cont => exact False.elim hq
end
end DL
/-! NCClo3: a def that returns lambdas over its parameter, over the data layer; its call handed straight to a def that calls them. -/
namespace DL
open PySem PySem.Spec PyProof.Rows L2 LamX NCLam
/-! ### data without defs and lambdas -/
def isFnD : D → D → Bool
  | .none, .int _ => true
  | _, _ => false
mutual
def noF : D → Bool
  | .list ds => noFL ds
  | .tuple ds => noFL ds
  | .dict kvs => noFK kvs
  | .none => true
  | .bool _ => true
  | .int _ => true
  | .str _ => true
def noFL : List D → Bool
  | [] => true
  | d :: ds => noF d && noFL ds
def noFK : List (D × D) → Bool
  | [] => true
  | (a, b) :: r => !isFnD a b && noF b && noFK r
end
section
variable {T : Kt} {B : Option Addr} {G0 H0 G H G' H' : Hp} {ρ : Ev} {σ : L2.St} {E : XK} {F : Int → Hp → Addr → Prop}
theorem noFK_one {a b : D} (h : noFK [(a, b)] = true) : isFnD a b = false ∧ noF b = true := by
  have e : noFK [(a, b)] = (!isFnD a b && noF b && noFK []) := rfl
  rw [e, Bool.and_eq_true, Bool.and_eq_true] at h
  exact ⟨by simpa using h.1.1, h.1.2⟩
theorem noFL_cons {d : D} {ds : List D} (h : noFL (d :: ds) = true) : noF d = true ∧ noFL ds = true := by
  have e : noFL (d :: ds) = (noF d && noFL ds) := rfl
  rw [e, Bool.and_eq_true] at h
  exact h
mutual
theorem Rp.backF : ∀ {v : V} {d : D}, Rp (T.withF F) G v d → noF d = true → Rp T G v d
  | _, _, .non, _ => .non
  | _, _, .bl b, _ => .bl b
  | _, _, .int i, _ => .int i
  | _, _, .str x, _ => .str x
  | _, _, .lst h r, n => .lst h (RpL.backF r n)
  | _, _, .tup h r, n => .tup h (RpL.backF r n)
  | _, _, .ins i h1 e r, n => .ins i h1 e (RpL.backF r (noFK_one n).2)
  | _, _, .fn k h, n => by
    have := (noFK_one n).1
    cases this
  | _, _, .scr h r, n => .scr h (RpL.backF r (noFK_one n).2)
  | _, _, .dct h, _ => .dct h
  | _, _, .tab h r, n => .tab h (RpK.backF r (noFK_one n).2)
theorem RpL.backF : ∀ {vs : List V} {ds : List D}, RpL (T.withF F) G vs ds → noFL ds = true → RpL T G vs ds
  | _, _, .nil, _ => .nil
  | _, _, .cons h r, n => .cons (Rp.backF h (noFL_cons n).1) (RpL.backF r (noFL_cons n).2)
theorem RpK.backF : ∀ {xs : List XEnt} {ps : List (D × D)}, RpK (T.withF F) G xs ps → noFL (ps.map fun p => PyData.tuple [p.1, p.2]) = true → RpK T G xs ps
  | _, _, .nil, _ => .nil
  | _, _, .cons e h1 h2 r, n => .cons e (Rp.backF h1 (noFL_cons (noFL_cons n).1).1) (Rp.backF h2 (noFL_cons (noFL_cons (noFL_cons n).1).2).1) (RpK.backF r (noFL_cons n).2)
end
/-! ### statements that end by a return -/
def Dsr (T : Kt) (E : XK) (u : L2.St → Hp → (V → L2.St → Hp → Prop) → Prop) (f : M Out) : Prop := ∀ B G0 H0 ρ σ G H (R : V → L2.St → Hp → Prop) s ρ', SI T B G0 H0 ρ σ G H → f ρ = .ok (.rt s, ρ') → (∀ v σ' G' H', SI T B G0 H0 ρ' σ' G' H' → Same G G' → VOk T H0 ρ' σ' G' H' v s → R v σ' H') → u σ H R
def seqR (f g : M Out) : M Out := fun ρ => match f ρ with
  | .ok (.nx, ρ') => g ρ'
  | _ => .no
theorem dsr_ret {te : TE} {fe : M Slot} (h : De T E te fe) : Dsr T E (fun σ H R => te σ H fun v H' => R v σ H') (retM fe) := by
  intro B G0 H0 ρ σ G H R s ρ' I e q
  have hq := h B G0 H0 ρ σ G H I (fun v H' => R v σ H')
  unfold retM DL.bd at e
  revert e hq
  cases fe ρ with
  | no => exact fun e => by cases e
  | exc c x => exact fun e => by cases e
  | ok z =>
    obtain ⟨a, ρ1⟩ := z
    intro e hq
    cases e
    exact hq fun b G' H' I' k r => q b σ G' H' I' k r
theorem dsr_cons {t : TS} {u : L2.St → Hp → (V → L2.St → Hp → Prop) → Prop} {f g : M Out} (h1 : Ds T E t f) (h2 : Dsr T E u g) : Dsr T E (fun σ H R => t { nx := fun σ' H' => u σ' H' R, rt := fun _ _ => False } σ H) (seqR f g) := by
  intro B G0 H0 ρ σ G H R s ρ' I e q
  have hq := Ps.q.mp (Ps.of h1 I) { nx := fun σ' H' => u σ' H' R, rt := fun _ _ => False }
  unfold seqR at e
  refine hq ?_
  revert e
  cases f ρ with
  | no => exact fun e => by cases e
  | exc c x => exact fun e => by cases e
  | ok z =>
    obtain ⟨o, ρ1⟩ := z
    cases o with
    | bk => exact fun e => by cases e
    | ct => exact fun e => by cases e
    | rt _ => exact fun e => by cases e
    | nx =>
      intro e σ' G' H' I' k
      exact h2 B G0 H0 ρ1 σ' G' H' R s ρ' I' e fun v σ2 G2 H2 I2 k2 r => q v σ2 G2 H2 I2 (k.trans k2) r
theorem _root_.DL.PSr.nox {X : Cx} {st : List Stmt} {t : L2.St → Hp → (V → L2.St → Hp → Prop) → Prop} (h : PSr X.nox st t) : PSr X st t := ⟨fun pins s σ H R I hw =>
  wpAny_mono (h.go pins s σ H R (I.wish _) hw) (fun _ _ q => by
    revert q
    split
    · exact fun ⟨v, σ', H', J, r, q⟩ => ⟨v, σ', H', J.unwish, r, q⟩
    · exact fun z => z) fun _ _ z => False.elim z⟩
/-! ### the def that returns its lambdas -/
theorem ntb_cell {c : Addr} {v : V} : NTb (CellO c v) := ⟨fun _ z => (by unfold CellO at z; cases z), fun c' q z => by
  unfold CellO LamX.CodeO at z
  injection z with z
  let o : Obj := { cls := .none, data := .fields #[.none, .str q 0] }
  let h : Heap := { objs := (Array.replicate (c + c' + 1) o) }
  have hg : ∀ b, b < c + c' + 1 → h.get? b = some o := fun b hb => by
    have e : h.objs[b]? = some o := by show (Array.replicate (c + c' + 1) o)[b]? = some o; simp [hb]
    unfold Heap.get?
    rw [e]
  have z := congrFun z h
  have y : ∃ u, RelV v u ∧ h.IsCell c (some u) := by
    rw [z]
    exact ⟨o, _, 0, hg c' (Nat.lt_succ_of_le (Nat.le_add_left c' c)), rfl, rfl⟩
  obtain ⟨_, _, o2, h1, h2⟩ := y
  rw [hg c (Nat.lt_succ_of_le (Nat.le_add_right c c'))] at h1
  rw [← Option.some.inj h1] at h2
  cases h2⟩
/-- mk: what is told of the maker; ls: its lambdas -/
def clSp (T : Kt) (mk : Cx → Addr → V → Prop) (ls : List (Cx → Hp → Addr → Prop)) : Sp := fun vs H Q _ => ∃ v, vs = [v] ∧ LamX.Tabs T.tbs H ∧ ∃ G x, Same G H ∧ (∀ p ∈ T.tbs, G p.1 = none) ∧ Rp T G v x ∧ noF x = true ∧
  ∀ X' c w0 L fs G' H', Same G G' → Same G' H' → (∀ a o, H a = some o → Na T a → H' a = some o) → (∀ a, G' a ≠ none → G a ≠ none ∨ H a = none ∨ CodeAt (G' a)) → mk X' c w0 → H c = none → H' c = some (CellO c w0) → G' c = none → Rp T G' w0 x →
    H' L = some (.lst (fs.map V.ref)) → L ≠ c → Paired (fun f p => p X' G' f) fs ls → LamX.Tabs T.tbs H' → Q (.ref L) H'
theorem clSp_len {T : Kt} {mk : Cx → Addr → V → Prop} {ls : List (Cx → Hp → Addr → Prop)} (vs : List V) (H : Hp) (Q : VK) (E : XK) (h : clSp T mk ls vs H Q E) : vs.length = 1 := by
  obtain ⟨v, rfl, _⟩ := h
  rfl
theorem fns_of {X' : Cx} {ks : List Int} {ls : List (Cx → Hp → Addr → Prop)} (hp : Paired (fun k p => ∀ a, F k G a → p X' G a) ks ls) : ∀ {vs : List V}, RpL (T.withF F) G vs (ks.map fun k => dFn k) → ∃ fs : List Addr, vs = fs.map V.ref ∧ Paired (fun f p => p X' G f) fs ls := by
  induction hp with
  | nil =>
    intro vs r
    cases r
    exact ⟨[], rfl, .nil⟩
  | cons h _ ih =>
    intro vs r
    cases r with
    | cons h1 r =>
      cases h1 with
      | fn k hk =>
        rename_i a
        obtain ⟨fs, e, q⟩ := ih r
        exact ⟨a :: fs, by rw [e]; rfl, .cons (h a (hk G (Same.refl _))) q⟩
theorem calls_end {mk : Cx → Addr → V → Prop} {ls : List (Cx → Hp → Addr → Prop)} {X' : Cx} {c : Addr} {u : L2.St → Hp → (V → L2.St → Hp → Prop) → Prop} {f : M Out} {N : List Str} {ks : List Int} {vs : List V} {Q : VK} {E' : XK} (hF : ∀ k G a, T.isF k G a → F k G a) (hb : Dsr (T.withF F) E u f) (hn : 1 ≤ N.length)
    (hf : ∀ x, ∃ ρ', f (.d x :: List.replicate (N.length - 1) .un) = .ok (.rt (.o (ks.map fun k => dFn k)), .d x :: ρ')) (hl : ∀ G, Paired (fun k p => ∀ a, F k G a → p X' G a) ks ls) (hm : ∀ w0, mk X' c w0) (h : clSp T mk ls vs H Q E') :
    u (L2.start N vs) H (fun v σ H' => ∃ w0, σ[0]? = some (some w0) ∧ (H' c = none → Q v (upd H' c (CellO c w0)))) := by
  obtain ⟨v, rfl, tt, G, x, g, gt, r, nf, q⟩ := h
  have I := si_start (T := T.withF F) (B := none) (N := N) (vs := [v]) (as := [.d x]) g (.d (r.toF hF) .nil) hn tt gt
  obtain ⟨ρ', e⟩ := hf x
  refine hb none G _ _ _ G H _ _ _ I e fun u σ' G' H' J k rv => ?_
  obtain ⟨⟨L, vs, rfl, h1, h2, h3, rl⟩, _, no⟩ := rv
  obtain ⟨w0, hw, rw0⟩ := J.sl 0 (.d x) rfl (fun z => by cases z)
  refine ⟨w0, hw, fun hc => ?_⟩
  obtain ⟨fs, rfl, hp⟩ := fns_of (T := T) (hl G') rl
  have k3 : ∀ a o, H a = some o → Na T a → H' a = some o := fun a o e na => J.hh a o ((strip_na (T := T.withF F) na).trans e) (fun z => by cases z)
  have hcH : H c = none := by
    cases z : H c with
    | none => rfl
    | some o =>
      have na : Na T c := fun p hp zz => by
        obtain ⟨ps, y, _⟩ := J.tb.1 p hp
        rw [← zz, hc] at y
        cases y
      rw [k3 c o z na] at hc
      cases hc
  have ne : ∀ a o, H' a = some o → a ≠ c := fun a o e z => by rw [z, hc] at e; cases e
  have gc : G' c = none := Same.none J.gh hc
  refine q X' c w0 L fs G' _ k (fun a o e => ?_) (fun a o e na => ?_) (nw_strip J) (hm w0) hcH upd_same gc (Rp.backF rw0 nf) ?_ (ne _ _ h1) hp (tabs_updN J.tb.1 hc)
  · rw [upd_ne (ne _ _ (J.gh _ _ e))]
    exact J.gh _ _ e
  · rw [upd_ne (ne _ _ (k3 _ _ e na))]
    exact k3 _ _ e na
  · rw [upd_ne (ne _ _ h1)]
    exact h1
/-! ### its call, handed on -/
/-- a lambda and what its body does -/
def CKs (T : Kt) (tl : Cx → L2.St → Addr → XK → Hp → VK → Prop) (cs : List ((Cx → Hp → Addr → Prop) × M Slot)) : Prop := ∀ p ∈ cs, ∃ tb : XK → TE, (∀ E', De T E' (tb E') p.2) ∧ ∀ X' τ f E G H Q, p.1 X' G f → Same G H → tb E τ H Q → tl X' τ f E H Q
theorem cks_nil {T : Kt} {tl : Cx → L2.St → Addr → XK → Hp → VK → Prop} : CKs T tl [] := fun p h => by cases h
theorem cks_cons {T : Kt} {tl : Cx → L2.St → Addr → XK → Hp → VK → Prop} {p : (Cx → Hp → Addr → Prop) × M Slot} {l : List ((Cx → Hp → Addr → Prop) × M Slot)} {tb : XK → TE} (h1 : ∀ E', De T E' (tb E') p.2) (h2 : ∀ X' τ f E G H Q, p.1 X' G f → Same G H → tb E τ H Q → tl X' τ f E H Q) (r : CKs T tl l) : CKs T tl (p :: l) := fun q hq => by
  rcases List.mem_cons.mp hq with rfl | hq
  · exact ⟨tb, h1, h2⟩
  · exact r q hq
def saysC (hd : Int → D → Option D) (n : Nat) (x w : D) (mb : M Slot) : Bool := match saidR hd (mb (.d x :: List.replicate n .un)) with
  | some y => isFalse (opNe y w)
  | none => false
def allC (hd : Int → D → Option D) (n : Nat) (ms : List (M Slot)) (fa fw : M (List D)) : M Slot := fun ρ => match fa ((frzE ρ).map hid1) with
  | .ok ([x], ρ1) => match fw (ρ1.map hid1) with
    | .ok ([w], _) => if noF x && ms.all (saysC hd n x w) then .ok (.d (.bool true), ρ) else .no
    | _ => .no
  | _ => .no
theorem paired_mem {α β : Type} {R : α → β → Prop} {xs : List α} {ys : List β} (h : Paired R xs ys) : ∀ x ∈ xs, ∃ y ∈ ys, R x y := by
  induction h with
  | nil => exact fun x h => by cases h
  | cons h _ ih =>
    intro x hx
    rcases List.mem_cons.mp hx with rfl | hx
    · exact ⟨_, List.mem_cons_self, h⟩
    · obtain ⟨y, hy, r⟩ := ih x hx
      exact ⟨y, List.mem_cons_of_mem _ hy, r⟩
theorem allC_cases {hd : Int → D → Option D} {n : Nat} {ms : List (M Slot)} {fa fw : M (List D)} : allC hd n ms fa fw ρ = .no ∨ ∃ x ρ1 w ρ3, fa ((frzE ρ).map hid1) = .ok ([x], ρ1) ∧ fw (ρ1.map hid1) = .ok ([w], ρ3) ∧ noF x = true ∧ ms.all (saysC hd n x w) = true ∧ allC hd n ms fa fw ρ = .ok (.d (.bool true), ρ) := by
  unfold allC
  split
  · rename_i x ρ1 ea
    split
    · rename_i w ρ3 ew
      split
      · rename_i hc
        obtain ⟨h1, h2⟩ := Bool.and_eq_true_iff.mp hc
        exact .inr ⟨x, ρ1, w, ρ3, ea, ew, h1, h2, rfl⟩
      · exact .inl rfl
    · exact .inl rfl
  · exact .inl rfl
theorem de_allC {mk : Cx → Addr → V → Prop} {tl : Cx → L2.St → Addr → XK → Hp → VK → Prop} {sE : VK → XK} {hd : Int → D → Option D} {N : List Str} {n : Nat} (cs : List ((Cx → Hp → Addr → Prop) × M Slot)) {ta tw : TA} {fa fw : M (List D)} {E0 : XK} (hcl : cs.length ≤ 1000) (ha : Da T E ta fa) (hw : Da T E tw fw) (hh : SaidOk T sE hd) (hN : N.length = n + 1) (hl : CKs T tl cs)
    (hmono : ∀ p ∈ cs, ∀ X' G G' f, p.1 X' G f → Same G G' → p.1 X' G' f) :
    De T E (fun σ H Q => (tCons (tCall (clSp T mk (cs.map (·.1))) [] E0 ta) tw) σ H fun vs H1 => ∃ X' c v τ, (mk X' c v ∧ τ = L2.start N [v]) ∧ H1 c = some (CellO c v) ∧ allSp T sE (tl X' τ) vs (del H1 c) Q (fun _ _ _ => False)) (allC hd n (cs.map (·.2)) fa fw) := by
  intro B G0 H0 ρ σ G H I
  rcases allC_cases (hd := hd) (n := n) (ms := cs.map (·.2)) (fa := fa) (fw := fw) (ρ := ρ) with e | ⟨x, ρ1, w, ρ3, ea, ew, nf, hs, e⟩
  · rw [e]; exact Pt.no
  rw [e]
  obtain ⟨Gf, If, kf⟩ := I.frzE
  have J0 := If.inner
  refine Pt.q.mpr fun Q q => ?_
  have hA := ha none Gf _ _ σ Gf H J0 
  rw [ea] at hA
  refine hA _ fun vs G1 H1 J1 k1 r1 => ?_
  cases r1 with
  | cons rx r1 =>
    cases r1
    rename_i v
    refine ⟨v, rfl, J1.tb.1, G1, x, J1.gh, fun p hp => (J1.tb.2 p hp).1, rx, nf, fun X' c w0 L fs G2 H2 k2 gh2 hh2 nw2 hm hc1 hc2 gc rw0 hL hLc hp tt2 => ?_⟩
    have J2 := (J1.alT k2 gh2 hh2 nw2 tt2).inner
    have hW := hw none G2 _ _ σ G2 H2 J2
    rw [ew] at hW
    refine hW _ fun ws G3 H3 J3 k3 r3 => ?_
    cases r3 with
    | cons rw' r3 =>
      cases r3
      rename_i wv
      have na2 : Na T c := na_of tt2 hc2 ntb_cell
      have keep3 : ∀ a o, H2 a = some o → Na T a → H3 a = some o := fun a o e na => J3.hh a o (by rw [strip_na na]; exact e) (fun z => by cases z)
      have keep1 : ∀ a o, H a = some o → Na T a → H1 a = some o := fun a o e na => J1.hh a o (by rw [strip_na na]; exact e) (fun z => by cases z)
      have hc3 : H3 c = some (CellO c w0) := keep3 _ _ hc2 na2
      have g3c : G3 c = none := by
        cases z : G3 c with
        | none => rfl
        | some o =>
          rcases J3.nw c (by rw [z]; simp) with y | y | ⟨c', q', y⟩
          · exact absurd gc y
          · rw [strip_na na2, hc2] at y; cases y
          · have := J3.gh _ _ y
            rw [hc3] at this
            exact absurd (Option.some.inj this) (ntb_cell.2 _ _)
      have neG : ∀ a o, G3 a = some o → a ≠ c := fun a o e z => by rw [z, g3c] at e; cases e
      have hLn : Na T L := na_of tt2 hL ntb_lst
      have tb3 : LamX.Tabs T.tbs (del H3 c) := fun p hp => by
        obtain ⟨ps, h1, h2, h3⟩ := J3.tb.1 p hp
        refine ⟨ps, by rw [del_ne (fun z => na2 p hp z.symm)]; exact h1, h2, fun pos cv hcv => ?_⟩
        obtain ⟨c', e1, e2⟩ := h3 pos cv hcv
        refine ⟨c', e1, ?_⟩
        rw [del_ne (fun z => ntb_cell.2 _ _ (Option.some.inj (hc3.symm.trans (by rw [← z]; exact e2))))]
        exact e2
      have gh4 : Same G3 (del H3 c) := fun a o e => by rw [del_ne (neG _ _ e)]; exact J3.gh _ _ e
      refine ⟨X', c, w0, L2.start N [w0], ⟨hm, rfl⟩, hc3, L, fs, wv, w, fun H' => ∃ G', Same G3 G' ∧ Same G' H' ∧ (∀ p ∈ T.tbs, G' p.1 = none) ∧ LamX.Tabs T.tbs H' ∧ (∀ a o, del H3 c a = some o → Na T a → H' a = some o), rfl, by rw [paired_len hp, List.length_map]; exact hcl, ⟨G3, Same.refl _, gh4, fun p hp => (J3.tb.2 p hp).1, tb3, fun a o e _ => e⟩, fun Ha Hb ⟨G', a1, a2, a3, a4, a5⟩ s => ⟨G', a1, a2.trans s, a3, a4.ext s, fun a o e na => s _ _ (a5 a o e na)⟩, fun H' ⟨G', a1, a2, a3, a4, a5⟩ => ⟨a4, a5 _ _ (by rw [del_ne hLc]; exact keep3 _ _ hL hLn) hLn⟩, fun f hf H' Q' ⟨G', a1, a2, a3, a4, a5⟩ wish => ?_, fun H' ⟨G', a1, a2, a3, a4, a5⟩ => ?_⟩
      · obtain ⟨p, hpm, hpf⟩ := paired_mem hp f hf
        obtain ⟨pp, hpp, rfl⟩ := List.mem_map.mp hpm
        obtain ⟨tb, hb, ht⟩ := hl pp hpp
        have hsay := List.all_eq_true.mp hs pp.2 (List.mem_map.mpr ⟨pp, hpp, rfl⟩)
        unfold saysC at hsay
        split at hsay
        · rename_i y ey
          have I0 : SI T none G' (stripT T H') (.d x :: List.replicate n .un) (L2.start N [w0]) G' H' := by
            have := si_start (T := T) (B := none) (N := N) (vs := [w0]) (as := [.d x]) a2 (.d (rw0.mono ((k3.trans a1))) .nil) (by show 1 ≤ N.length; omega) a4 a3
            have en : N.length - ([.d x] : List Slot).length = n := by rw [hN]; rfl
            rw [en] at this
            exact this
          have em : (Slot.d x :: List.replicate n Slot.un).map hid1 = Slot.d x :: List.replicate n Slot.un := by
            rw [List.map_cons, List.map_replicate]
            rfl
          refine ht X' _ f (sE Q') G' H' _ (hmono pp hpp X' _ _ f hpf (k3.trans a1)) a2 (said_one hh (hb _) I0 (by rw [em]; exact ey) fun u G4 H4 J4 k4 r4 nt => ?_)
          refine wish u H4 ⟨G4, a1.trans k4, J4.gh, fun p hp => (J4.tb.2 p hp).1, J4.tb.1, fun a o e na => nt a o (a5 a o e na) na⟩ nt ⟨G4, y, J4.gh, r4, rw'.mono (a1.trans k4), isFalse_eq hsay⟩
        · cases hsay
      · have k3' : ∀ a o, H a = some o → Na T a → H' a = some o := fun a o e na => by
          have e1 := keep1 a o e na
          have ne : a ≠ c := fun z => by rw [z, hc1] at e1; cases e1
          exact a5 a o (by rw [del_ne ne]; exact keep3 a o (hh2 a o e1 na) na) na
        refine q (.bl true) G H' (I.alT (Same.refl _) (fun a o e => k3' a o (I.gh a o e) fun p hp z => by rw [z, (I.tb.2 p hp).1] at e; cases e) k3' (fun a h => .inl h) a4) (Same.refl _) (vok_d (.bl true))
end
end DL
/-! NCTmp: methods of a new list that is then dropped: f(..).clear(), f(..).append(None). -/
namespace DL
open PySem PySem.Spec PyProof.Rows L2
section
variable {T : Kt} {B : Option Addr} {G0 H0 G H G' H' : Hp} {ρ : Ev} {σ : L2.St} {E : XK}
def tmpO (f : M Slot) : M Slot := bd f fun s => match s with
  | .o _ => ret (.d .none)
  | _ => fun _ => .no
theorem de_tclear {te : TE} {f : M Slot} (h : De T E te f) : De T E (tBM0 T.K "list" rClear te) (tmpO f) := by
  intro B G0 H0 ρ σ G H I
  refine Pt.bd (t := te σ) (u := fun x H1 (Q : VK) => _) (h B G0 H0 ρ σ G H I) fun s ρ1 v G1 H1 _ I1 k1 r1 => ?_
  cases s with
  | un => exact Pt.no
  | d _ => exact Pt.no
  | b _ => exact Pt.no
  | j _ _ => exact Pt.no
  | t _ => exact Pt.no
  | o ys =>
    obtain ⟨⟨a, vs0, rfl, h1, h2, h3, r⟩, _, no⟩ := r1
    refine Pt.ok fun Q q => ?_
    exact ⟨.inl ⟨rfl, vs0, SqL.of h1⟩, a, vs0, rfl, rfl, h1, q .non G1 _ (I1.wrFree h2 h3 (no rfl) fun u z => by rw [h1] at z; cases z; exact ntb_lst) (Same.refl _) (vok_d .non)⟩
def tmpA (f : M Slot) : M Slot := bd f fun s => match s with
  | .o xs => match opAppend xs .none with
    | some _ => ret (.d .none)
    | none => fun _ => .no
  | _ => fun _ => .no
theorem de_tappend {te : TE} {f : M Slot} (h : De T E te f) : De T E (tBM T.K "list" rAppend te (tCons (tC .non) tNil)) (tmpA f) := by
  intro B G0 H0 ρ σ G H I
  refine Pt.bd (t := te σ) (u := fun x H1 (Q : VK) => tyV T.K "list" x H1 ∧ rAppend x [.non] H1 Q) (h B G0 H0 ρ σ G H I) fun s ρ1 v G1 H1 _ I1 k1 r1 => ?_
  cases s with
  | un => exact Pt.no
  | d _ => exact Pt.no
  | b _ => exact Pt.no
  | j _ _ => exact Pt.no
  | t _ => exact Pt.no
  | o ys =>
    obtain ⟨⟨a, vs0, rfl, h1, h2, h3, r⟩, _, no⟩ := r1
    dsimp only
    cases e : opAppend ys .none with
    | none => exact Pt.no
    | some zs =>
      refine Pt.ok fun Q q => ?_
      refine ⟨.inl ⟨rfl, vs0, SqL.of h1⟩, ms_append G1 H1 a vs0 ys .non .none zs Q I1.gh h1 r .non e fun ws _ => ?_⟩
      exact q .non G1 _ (I1.wrFree h2 h3 (no rfl) fun u z => by rw [h1] at z; cases z; exact ntb_lst) (Same.refl _) (vok_d .non)
end
end DL
/-! NCOwn: f(e), e a new list of pairs: what comes back, a list of pairs, is one's own. -/
namespace DL
open PySem PySem.Spec PyProof.Rows L2
section
variable {T : Kt} {B : Option Addr} {G0 H0 G H G' H' : Hp} {ρ : Ev} {σ : L2.St} {E : XK}
/-- the tuples of a heap -/
def tupsOf (G : Hp) : Hp := fun a => match G a with
  | some (.tup vs) => some (.tup vs)
  | _ => none
theorem tupsOf_some {a : Addr} {o : HO} (h : tupsOf G a = some o) : ∃ vs, G a = some (.tup vs) ∧ o = .tup vs := by
  unfold tupsOf at h
  split at h
  · rename_i vs e
    cases h
    exact ⟨vs, e, rfl⟩
  · cases h
theorem tupsOf_tup {a : Addr} {vs : List V} (h : G a = some (.tup vs)) : tupsOf G a = some (.tup vs) := by
  unfold tupsOf; rw [h]
theorem pairs_in {K : Hp} (hk : ∀ a vs, G a = some (.tup vs) → K a = some (.tup vs)) : ∀ {vs : List V} {xs : List D}, RpL T G vs xs → xs.all pairI = true → RpL T K vs xs
  | _, _, .nil, _ => .nil
  | _, _, .cons (d := d) h r, a => by
    rw [List.all_cons, Bool.and_eq_true] at a
    refine .cons ?_ (pairs_in hk r a.2)
    obtain ⟨i, j, rfl⟩ := pairI_is a.1
    cases h with
    | tup h1 r1 =>
      cases r1 with
      | cons q1 r1 =>
        cases r1 with
        | cons q2 r1 =>
          cases r1
          cases q1
          cases q2
          exact .tup (hk _ _ h1) (.cons (.int i) (.cons (.int j) .nil))
def ownE (g : Mir) (f0 : M Slot) : M Slot := bd f0 fun s => match s with
  | .o ys => fun ρ => match g [.d (.list ys)] with
    | .ok (.d (.list zs), _) => if ys.all pairI && zs.all pairI then .ok (.o zs, ρ) else .no
    | .ok (.o zs, _) => if ys.all pairI && zs.all pairI then .ok (.o zs, ρ) else .no
    | _ => .no
  | _ => fun _ => .no
theorem own_cases (g : Mir) (ys : List D) (ρ : Ev) : (match g [.d (.list ys)] with | .ok (.d (.list zs), _) => if ys.all pairI && zs.all pairI then R.ok (Slot.o zs, ρ) else .no | .ok (.o zs, _) => if ys.all pairI && zs.all pairI then R.ok (Slot.o zs, ρ) else .no | _ => .no) = .no ∨
    ∃ zs s', (g [.d (.list ys)] = .ok (.d (.list zs), s') ∨ g [.d (.list ys)] = .ok (.o zs, s')) ∧ (match g [.d (.list ys)] with | .ok (.d (.list zs), _) => if ys.all pairI && zs.all pairI then R.ok (Slot.o zs, ρ) else .no | .ok (.o zs, _) => if ys.all pairI && zs.all pairI then R.ok (Slot.o zs, ρ) else .no | _ => .no) = R.ok (Slot.o zs, ρ) ∧ ys.all pairI = true ∧ zs.all pairI = true := by
  split
  · rename_i zs s' e
    split
    · rename_i hc
      obtain ⟨h1, h2⟩ := Bool.and_eq_true_iff.mp hc
      exact .inr ⟨zs, s', .inl e, rfl, h1, h2⟩
    · exact .inl rfl
  · rename_i zs s' e
    split
    · rename_i hc
      obtain ⟨h1, h2⟩ := Bool.and_eq_true_iff.mp hc
      exact .inr ⟨zs, s', .inr e, rfl, h1, h2⟩
    · exact .inl rfl
  · exact .inl rfl
theorem de_own {g : Mir} {t0 : TE} {f0 : M Slot} (h0 : De T E t0 f0) : De T E (tCall (dSp T 1 g) [] E (tCons t0 tNil)) (ownE g f0) := by
  intro B G0 H0 ρ σ G H I
  refine Pt.bd (t := t0 σ) (u := fun v H1 (Q : VK) => dSp T 1 g ([v] ++ []) H1 Q E) (h0 B G0 H0 ρ σ G H I) fun s ρ1 v G1 H1 _ I1 k1 r1 => ?_
  cases s with
  | un => exact Pt.no
  | d _ => exact Pt.no
  | b _ => exact Pt.no
  | j _ _ => exact Pt.no
  | t _ => exact Pt.no
  | o ys =>
    obtain ⟨⟨b, vs0, rfl, h1, h2, h3, r⟩, _, no⟩ := r1
    rcases own_cases g ys ρ1 with e0 | ⟨zs, s', e0, e1, py, pz⟩
    · show Pt T E (rV T) B G0 H0 σ G1 H1 _ (match g [.d (.list ys)] with | .ok (.d (.list zs), _) => if ys.all pairI && zs.all pairI then .ok (.o zs, ρ1) else .no | .ok (.o zs, _) => if ys.all pairI && zs.all pairI then .ok (.o zs, ρ1) else .no | _ => .no)
      rw [e0]; exact Pt.no
    show Pt T E (rV T) B G0 H0 σ G1 H1 _ (match g [.d (.list ys)] with | .ok (.d (.list zs), _) => if ys.all pairI && zs.all pairI then .ok (.o zs, ρ1) else .no | .ok (.o zs, _) => if ys.all pairI && zs.all pairI then .ok (.o zs, ρ1) else .no | _ => .no)
    rw [e1]
    refine Pt.q.mpr fun Q q => ?_
    have q : ∀ v G' H', SI T B G0 H0 ρ1 σ G' H' → Same G1 G' → VOk T H0 ρ1 σ G' H' v (.o zs) → Q v H' := q
    -- what the callee sees as frozen: the tuples, and the list
    let Gc : Hp := upd (tupsOf G1) b (.lst vs0)
    have gcH : Same Gc H1 := fun a o e => by
      by_cases hb : a = b
      · rw [hb, show Gc b = some (.lst vs0) from upd_same] at e; cases e; rw [hb]; exact h1
      · rw [show Gc a = tupsOf G1 a from upd_ne hb] at e
        obtain ⟨ws, e1, rfl⟩ := tupsOf_some e
        exact I1.gh _ _ e1
    have gcT : ∀ p ∈ T.tbs, Gc p.1 = none := fun p hp => by
      have nb : p.1 ≠ b := Ne.symm (na_of I1.tb.1 h1 ntb_lst p hp)
      show upd (tupsOf G1) b (.lst vs0) p.1 = none
      rw [upd_ne nb]
      unfold tupsOf
      rw [(I1.tb.2 p hp).1]
    have tin : ∀ a ws, G1 a = some (.tup ws) → Gc a = some (.tup ws) := fun a ws e => by
      have nb : a ≠ b := fun z => by rw [z, h2] at e; cases e
      show upd (tupsOf G1) b (.lst vs0) a = _
      rw [upd_ne nb]
      exact tupsOf_tup e
    -- back: the caller's frozen part, and the callee's tuples
    have back : ∀ (zs : List D) (G' H' : Hp) (a : Addr) (ws : List V), Same Gc G' → Same G' H' → (∀ x o, H1 x = some o → Na T x → H' x = some o) → (∀ x, G' x ≠ none → Gc x ≠ none ∨ H1 x = none ∨ CodeAt (G' x)) → LamX.Tabs T.tbs H' → (a = b ∨ H1 a = none) → H' a = some (.lst ws) → RpL T G' ws zs → zs.all pairI = true →
        ∃ G2, SI T B G0 H0 ρ1 σ G2 H' ∧ Same G1 G2 ∧ VOk T H0 ρ1 σ G2 H' (.ref a) (.o zs) := fun zs G' H' a ws kg kh k3 k4 tt ha hl rz pz => by
      let G2 : Hp := fun x => match G1 x with
        | some o => some o
        | none => if x = a then none else tupsOf G' x
      have g2l : ∀ {x o}, G1 x = some o → G2 x = some o := fun {x o} e => by show (match G1 x with | some o => some o | none => _) = _; rw [e]
      have g2r : ∀ {x o}, G2 x = some o → G1 x = some o ∨ (G1 x = none ∧ x ≠ a ∧ tupsOf G' x = some o) := fun {x o} e => by
        have e : (match G1 x with | some o => some o | none => if x = a then none else tupsOf G' x) = some o := e
        cases z : G1 x with
        | some u => rw [z] at e; exact .inl e
        | none =>
          rw [z] at e
          by_cases hx : x = a
          · rw [if_pos hx] at e; cases e
          · rw [if_neg hx] at e; exact .inr ⟨rfl, hx, e⟩
      have g1a : G1 a = none := by
        rcases ha with ha | ha
        · rw [ha]; exact h2
        · exact Same.none I1.gh ha
      have kk2 : Same G2 H' := fun x o e => by
        rcases g2r e with e | ⟨_, _, e⟩
        · exact k3 x o (I1.gh _ _ e) fun p hp z => by rw [z, (I1.tb.2 p hp).1] at e; cases e
        · obtain ⟨ws', e1, rfl⟩ := tupsOf_some e
          exact kh _ _ e1
      have kk4 : ∀ x, G2 x ≠ none → G1 x ≠ none ∨ H1 x = none ∨ CodeAt (G2 x) := fun x n => by
        cases z : G2 x with
        | none => exact absurd z n
        | some o =>
          rcases g2r z with e | ⟨e0, hx, e⟩
          · exact .inl (by rw [e]; simp)
          · obtain ⟨ws', e1, rfl⟩ := tupsOf_some e
            rcases k4 x (by rw [e1]; simp) with y | y | ⟨c, q', y⟩
            · exfalso
              by_cases hb : x = b
              · have : G' b = some (.lst vs0) := kg _ _ upd_same
                rw [hb, this] at e1; cases e1
              · apply y
                show upd (tupsOf G1) b (.lst vs0) x = none
                rw [upd_ne hb]
                unfold tupsOf
                rw [e0]
            · exact .inr (.inl y)
            · rw [e1] at y
              unfold LamX.CodeO at y
              cases y
      have J := I1.alT (G' := G2) (fun x o e => g2l e) kk2 k3 kk4 tt
      have h0a : H0 a = none := by
        rcases ha with ha | ha
        · rw [ha]; exact h3
        · exact I1.h0 ha
      have g2a : G2 a = none := by
        show (match G1 a with | some o => some o | none => if a = a then none else tupsOf G' a) = none
        rw [g1a]
        simp
      refine ⟨G2, J, fun x o e => g2l e, ⟨⟨a, ws, rfl, hl, g2a, h0a, pairs_in (fun x us e => ?_) rz pz⟩, (fun z => by cases z), fun _ i u e o => ?_⟩⟩
      · cases z : G1 x with
        | some o =>
          have : G2 x = some o := g2l z
          rw [this]
          have e3 := kk2 _ _ this
          rw [kh _ _ e] at e3
          rw [← e3]
        | none =>
          have hx : x ≠ a := fun y => by
            rw [y] at e
            have := kh _ _ e
            rw [hl] at this
            cases this
          show (match G1 x with | some o => some o | none => if x = a then none else tupsOf G' x) = _
          rw [z]
          dsimp only
          rw [if_neg hx]
          exact tupsOf_tup e
      · rcases ha with ha | ha
        · rw [ha]; exact no rfl i u e o
        · intro y
          obtain ⟨v', e1, e2⟩ := I1.sl i u e (fun z => by subst z; cases o)
          rw [y] at e1
          cases e1
          obtain ⟨o', e3, _⟩ := slot_nt e2 o
          rw [ha] at e3
          cases e3
    refine ⟨rfl, I1.tb.1, Gc, none, [.d (.list ys)], gcH, gcT, ?_, ?_⟩
    · exact .d (.lst (show Gc b = some (.lst vs0) from upd_same) (pairs_in tin r py)) .nil
    · rcases e0 with e0 | e0
      · rw [e0]
        intro v G' H' kg kh k3 k4 _ rn tt
        have rn : Rp T G' v (.list zs) := rn
        cases rn with
        | lst ga rz =>
          rename_i a ws
          have ha : a = b ∨ H1 a = none := by
            rcases k4 a (by rw [ga]; simp) with y | y | ⟨c, q', y⟩
            · by_cases hb : a = b
              · exact .inl hb
              · exfalso
                apply y
                show upd (tupsOf G1) b (.lst vs0) a = none
                rw [upd_ne hb]
                cases z : tupsOf G1 a with
                | none => rfl
                | some o =>
                  obtain ⟨us, e2, rfl⟩ := tupsOf_some z
                  have := kg _ _ (tin a us e2)
                  rw [ga] at this
                  cases this
            · exact .inr y
            · rw [ga] at y
              unfold LamX.CodeO at y
              cases y
          obtain ⟨G2, J, kk, vk⟩ := back zs G' H' a ws kg kh (fun x o e na => k3 x o e (fun z => by cases z) na) k4 tt ha (kh _ _ ga) rz pz
          exact q _ G2 H' J kk vk
      · rw [e0]
        intro v G' H' kg kh k3 k4 _ rn tt
        obtain ⟨a, ws, rfl, na, hl, _, rz⟩ := rn
        obtain ⟨G2, J, kk, vk⟩ := back zs G' H' a ws kg kh (fun x o e na => k3 x o e (fun z => by cases z) na) k4 tt (.inr na) hl rz pz
        exact q _ G2 H' J kk vk
end
end DL
/-! NCTup: tuples of any kind: t + u, t[lo:hi], t[::-1], t * 2. -/
namespace NCTup
open PySem PySem.Spec PyProof.Rows L2 HT
section
variable {prog : Program} {w : World} {A : Around} {E : Value → Shared → Prop} {s : Shared}
theorem adjust_rev (n : Nat) : Builtin.Slice.sliceAdjust none none (-1) (n : Int) = ((n : Int) - 1, -1) := by
  unfold Builtin.Slice.sliceAdjust
  rfl
theorem places_rev (n : Nat) : Builtin.Slice.slicePlaces ((n : Int) - 1) (-1) (-1) = n := by
  unfold Builtin.Slice.slicePlaces
  have h1 : ¬ ((-1 : Int) > 0) := by omega
  have h2 : (- -1 : Int) = 1 := by decide
  simp only [h1, if_false, h2, Int.ediv_one]
  split <;> omega
theorem applied_rev {sl : Addr} {vl vu vs : Value} {n : Nat} {Q : Int × Int × Nat → Shared → Prop} (hs : s.heap.IsSliceOf sl vl vu vs) (pl : IsPart vl none) (pu : IsPart vu none) (ps : IsPart vs (some (-1)))
    (h : Q ((n : Int) - 1, -1, n) s) : wpAny (model prog w) A (Builtin.Slice.sliceApplied (.ref sl) (pure (n : Int))) Q E s := by
  obtain ⟨os, hos, hcs, hds⟩ := id hs
  unfold Builtin.Slice.sliceApplied Builtin.Slice.sliceFields
  refine wpAny_bind (wpAny_bind (wpAny_field hos hds (x := vl) rfl (wpAny_bind (wpAny_field hos hds (x := vu) rfl (wpAny_bind (wpAny_field hos hds (x := vs) rfl (wpAny_pure ?_)))))))
  refine wpAny_bind (slicePart_ ps ?_)
  show wpAny _ _ (if ((-1 : Int) == 0) = true then _ else _) _ _ s
  rw [if_neg (by decide)]
  refine wpAny_bind (slicePart_ pl (wpAny_bind (slicePart_ pu (wpAny_bind (wpAny_pure ?_)))))
  show wpAny _ _ (match Builtin.Slice.sliceAdjust none none (-1) (n : Int) with | (lo, hi) => pure (lo, (-1 : Int), Builtin.Slice.slicePlaces lo hi (-1))) _ _ s
  rw [adjust_rev n]
  show wpAny _ _ (pure ((n : Int) - 1, (-1 : Int), Builtin.Slice.slicePlaces ((n : Int) - 1) (-1) (-1))) _ _ s
  rw [places_rev]
  exact wpAny_pure h
theorem fm_congr {α β : Type} {f g : α → Option β} : ∀ {l : List α}, (∀ x ∈ l, f x = g x) → l.filterMap f = l.filterMap g
  | [], _ => rfl
  | a :: l, h => by
    rw [List.filterMap_cons, List.filterMap_cons, h a (List.mem_cons_self ..), fm_congr fun x hx => h x (List.mem_cons_of_mem _ hx)]
theorem pick_rev (xs : Array Value) : ((List.range xs.size).filterMap fun (m : Nat) => xs[(((xs.size : Nat) : Int) - 1 + (m : Int) * (-1)).toNat]?).toArray = xs.toList.reverse.toArray := by
  have e : ((List.range xs.size).filterMap fun (m : Nat) => xs[(((xs.size : Nat) : Int) - 1 + (m : Int) * (-1)).toNat]?) = ((List.range xs.size).map fun k => xs.size - 1 - k).filterMap (xs[·]?) := by
    rw [List.filterMap_map]
    refine fm_congr fun m hm => ?_
    have := List.mem_range.mp hm
    have : (((xs.size : Nat) : Int) - 1 + (m : Int) * (-1)).toNat = xs.size - 1 - m := by omega
    show xs[_]? = xs[xs.size - 1 - m]?
    rw [this]
  rw [e, PySem.W.krv_range, List.filterMap_reverse, PySem.W.krv_all]
theorem getItem_tuple_rev {t sl : Addr} {items : Array Value} {vl vu vs : Value} {Q : Value → Shared → Prop} (ht : IsTup s.heap t items) (hs : s.heap.IsSliceOf sl vl vu vs) (pl : IsPart vl none) (pu : IsPart vu none) (ps : IsPart vs (some (-1)))
    (h : Q (.ref s.heap.objs.size) { s with heap := s.heap.push { cls := .type "tuple", data := .seq items.toList.reverse.toArray } })
    (hsz : items.size ≤ sizeLine) : wpAny (model prog w) A (getItem (.ref t) (.ref sl)) Q E s := by
  have htake : sizeOk (.seq items.toList.reverse.toArray) := by
    show items.toList.reverse.toArray.size ≤ sizeLine
    rw [List.size_toArray, List.length_reverse, Array.length_toList]
    exact hsz
  obtain ⟨os, hos, hcs, hds⟩ := id hs
  have hTs : s.TypeIs (.ref sl) "slice" := ⟨os, hos, hcs⟩
  unfold getItem
  try with_reducible refine wpAny_holding ?_
  first | refine wpAny_bind (wpAny_pure ?_) | skip
  refine wpAny_bind (wpAny_sequenceKey ht.typeIs (by decide) ?_)
  refine wpAny_bind (wpAny_callSpecial?_slot (name := Str.ofString "__getitem__") ht.typeIs PyProof.Rows.slot_tuple_getitem
    (wpAny_call_entry PyProof.Rows.slot_tuple_getitem ht.typeIs entry_tuple_getitem ?_ (args_tuple_getitem _ _)))
  show wpAny _ _ (Builtin.Tuple.tupleItemsOf (.ref t) >>= _) _ _ s
  refine wpAny_bind (tupleItemsOf_ ht ?_)
  refine wpAny_bind (wpAny_typeOf hTs ?_)
  rw [if_pos (by decide)]
  refine wpAny_bind (applied_rev hs pl pu ps ?_)
  have hno : ¬ ((((items.size : Nat) : Int) - 1 == 0 && (-1 : Int) == 1 && items.size == items.size) = true) := by
    intro q
    rw [Bool.and_eq_true, Bool.and_eq_true] at q
    exact absurd q.1.2 (by decide)
  show wpAny _ _ (if (((items.size : Nat) : Int) - 1 == 0 && (-1 : Int) == 1 && items.size == items.size) = true then _ else _) _ _ s
  rw [if_neg hno, pick_rev]
  first
    | exact wpAny_bind (m := Builtin.Tuple.tupleExact _) (wpAny_newObj_type (wpAny_pure ⟨_, rfl, wpAny_pure h⟩) htake)
    | exact wpAny_bind (m := Builtin.Tuple.tupleExact _) (wpAny_newObj_type (wpAny_bind (wpAny_pure (wpAny_pure ⟨_, rfl, wpAny_pure h⟩))) htake)
    | exact wpAny_bind (wpAny_bind (m := Builtin.Tuple.tupleExact _) (wpAny_newObj_type (wpAny_pure (wpAny_pure ⟨_, rfl, wpAny_pure h⟩)) htake))
    | exact wpAny_bind (wpAny_bind (m := Builtin.Tuple.tupleExact _) (wpAny_newObj_type (wpAny_pure ⟨_, rfl, wpAny_pure h⟩) htake))
end
def tRevT (K : PySem.W.Frag) (te : TE) : TE := fun σ H Q => te σ H fun x H1 => ∃ a xs, x = .ref a ∧ SqT K H1 a xs ∧ ∀ p, H1 p = none → Q (.ref p) (upd H1 p (.tup xs.reverse))
theorem pe_revT {X : Cx} {e : Expr} {te : TE} {k : Nat} {p1 p2 p3 pos : Pos} (he : PE X e te) : PE X (.Subscript e (.Slice none none (some (.UnaryOp .USub (.Constant (.int 1) k p1) p2)) p3) pos) (tRevT X.K te) := by
  refine ⟨fun pins s σ H Q I h => ?_⟩
  refine Subscript_ (thn (he.run pins s σ H _ I h) fun v s1 ⟨x, H1, I1, r1, q1⟩ => ?_)
  obtain ⟨a, xs, ex, hx, q⟩ := q1
  subst ex
  cases r1
  have hst : PO X (some (.UnaryOp .USub (.Constant (.int 1) k p1) p2)) (tPart (tUn (rU fun i => .int (-i)) (tC (.int 1)))) := po_some (pe_un un_neg pe_int)
  refine wpAny_Slice (thn (po_none.run pins s1 σ H1 (fun o H2 => o = none ∧ H2 = H1) I1 ⟨rfl, rfl⟩) fun vl s2 ⟨l, H2, I2, pl, el, e2⟩ => ?_)
  subst el e2
  refine thn (po_none.run pins s2 σ H2 (fun o H3 => o = none ∧ H3 = H2) I2 ⟨rfl, rfl⟩) fun vu s3 ⟨u, H3, I3, pu, eu, e3⟩ => ?_
  subst eu e3
  refine thn (hst.run pins s3 σ H3 (fun o H4 => o = some (-1) ∧ H4 = H3) I3 ⟨1, rfl, -1, rfl, rfl, rfl⟩) fun vs s4 ⟨o, H4, I4, ps, eo, e4⟩ => ?_
  subst eo e4
  have I5 : Inv X pins σ H4 { s4 with heap := s4.heap.push { cls := .type "slice", data := .fields #[vl, vu, vs] } } := I4.kept (t' := s4.toks) fun b ob q => Heap.get?_push_of_some _ q
  obtain ⟨its, r, ht, hz⟩ := I5.tuple hx
  have hlen := r.length
  show wpAny (model X.prog X.w) X.A (subscriptTail e (.Slice none none (some (.UnaryOp .USub (.Constant (.int 1) k p1) p2)) p3) (.ref a) (.ref s4.heap.objs.size)) (EP X pins σ Q) X.xe { s4 with heap := s4.heap.push { cls := .type "slice", data := .fields #[vl, vu, vs] } }
  refine tail_any (ops := [.ref a, .ref s4.heap.objs.size]) ht.typeIs (PyProof.Rows.slot_tuple_getitem.lookup) ?_ (by with_unfolding_all rfl)
  refine getItem_tuple_rev ht (Heap.IsSliceOf.new _ vl vu vs) pl pu ps ?_ (by rw [List.size_toArray]; omega)
  refine ⟨.ref _, _, I5.laid (t' := s4.toks) (o := .tup xs.reverse) (fun b ob q => Heap.get?_push_of_some _ q) (Nat.le_refl _) ?_, rfl, q _ (I5.hok.fresh (Nat.le_refl _))⟩
  exact ⟨by rw [List.length_reverse]; exact hz, _, r.reverse, IsTup.new _ _⟩
end NCTup
namespace DL
open PySem PySem.Spec PyProof.Rows L2
section
variable {T : Kt} {B : Option Addr} {G0 H0 G H G' H' : Hp} {ρ : Ev} {σ : L2.St} {E : XK}
def opRvT : D → Option Slot
  | .tuple xs => some (.d (.tuple xs.reverse))
  | _ => none
theorem us_rvT : UnS T (fun x H Q => ∃ a xs, x = .ref a ∧ SqT T.K H a xs ∧ ∀ p, H p = none → Q (.ref p) (upd H p (.tup xs.reverse))) opRvT := by
  intro G H v x s Q g hv e q
  unfold opRvT at e
  split at e
  · cases e
    obtain ⟨a, vs, rfl, h1, h2, r⟩ := hv.tup g
    exact ⟨a, vs, rfl, SqT.of h1, fun p n => q _ _ _ (Al.new g n) (.tup upd_same (r.rev.mono (Al.new g n).gg))⟩
  · cases e
theorem de_rvT {te : TE} {f : M Pv} (he : Dk T E te f) : De T E (NCTup.tRevT T.K te) (op1 opRvT f) := de_un (r := fun x H Q => ∃ a xs, x = .ref a ∧ SqT T.K H a xs ∧ ∀ p, H p = none → Q (.ref p) (upd H p (.tup xs.reverse))) (ta := te) us_rvT he
theorem pe_rvT {X : Cx} {e : Expr} {te : TE} {k : Nat} {p1 p2 p3 pos : Pos} (K : PySem.W.Frag) (he : PE X e te) (h : X.K = K := by rfl) : PE X (.Subscript e (.Slice none none (some (.UnaryOp .USub (.Constant (.int 1) k p1) p2)) p3) pos) (NCTup.tRevT K te) := by subst h; exact NCTup.pe_revT he
/-- t + u -/
def opCat : D → D → Option Slot
  | .tuple xs, .tuple ys => if lenOk (xs.length + ys.length) then some (.d (.tuple (xs ++ ys))) else none
  | _, _ => none
theorem op_catU {X : Cx} (K : PySem.W.Frag) (h : X.K = K := by rfl) : OpR X (binaryOp .Add) (rCatA K) := by subst h; exact op_catA
theorem os_cat : OpS T (rCatA T.K) opCat := by
  intro G H v w x y s Q g hv hw e q
  unfold opCat at e
  split at e
  · rename_i xs ys
    split at e
    · rename_i hl
      cases e
      obtain ⟨a, vs, rfl, h1, g1, r1⟩ := hv.tup g
      obtain ⟨b, ws, rfl, h2, g2, r2⟩ := hw.tup g
      refine ⟨a, b, vs, ws, rfl, rfl, SqT.of h1, SqT.of h2, ?_, fun z => ?_, fun _ z => ?_, fun _ _ p n => ?_⟩
      · rw [r1.len, r2.len]; exact lenOk_le hl
      · subst z
        cases r1
        exact q _ G H (Al.refl g) (.tup g2 r2)
      · subst z
        cases r2
        rw [List.append_nil] at q
        exact q _ G H (Al.refl g) (.tup g1 r1)
      · exact q _ _ _ (Al.new g n) (.tup upd_same ((r1.app r2).mono (Al.new g n).gg))
    · cases e
  · cases e
/-- t[lo:hi] -/
def opSlT (lo hi : Option Int) : D → Option Slot
  | .tuple xs => some (.d (.tuple (cutD xs lo hi)))
  | _ => none
theorem sl_A {X : Cx} (K : PySem.W.Frag) (h : X.K = K := by rfl) : SlR X (rSlA K) := by subst h; exact sl_tupA
def slTE (f : M Pv) (l h : M (Option Int)) : M Slot := bd f fun p => bd l fun lo => bd h fun hi ρ => match rdP ρ p with
  | some x => lf (opSlT lo hi x) ρ
  | none => .no
theorem cut_whole {xs : List D} {lo hi : Option Int} (h : HT.sIx xs.length 0 lo = 0 ∧ HT.sIx xs.length xs.length hi = xs.length) : cutD xs lo hi = xs := by
  unfold cutD
  rw [h.1, h.2]
  simp
theorem slT_ok {lo hi : Option Int} {v : V} {x : D} {s : Slot} {Q : VK} (g : Same G H) (hv : Pk T G H v x) (e : opSlT lo hi x = some s) (q : ∀ u G' H', Al G H G' H' → RNew T H G' H' u s → Q u H') : rSlA T.K v lo hi H Q := by
  unfold opSlT at e
  split at e
  · cases e
    obtain ⟨a, vs, rfl, h1, h2, r⟩ := hv.tup g
    refine ⟨a, vs, rfl, SqT.of h1, fun z => ?_, fun _ p n => q _ _ _ (Al.new g n) (.tup upd_same ((cut_rp r lo hi).mono (Al.new g n).gg))⟩
    rw [r.len] at z
    rw [cut_whole z] at q
    exact q _ G H (Al.refl g) (.tup h2 r)
  · cases e
theorem de_slT {te : TE} {tl th : TO} {f : M Pv} {l h : M (Option Int)} (he : Dk T E te f) (hl : Do T E tl l) (hh : Do T E th h) : De T E (tSl (rSlA T.K) te tl th) (slTE f l h) := by
  intro B G0 H0 ρ σ G H I
  refine Pt.bd (t := te σ) (u := fun x H1 (Q : VK) => tl σ H1 fun l H2 => th σ H2 fun u H3 => rSlA T.K x l u H3 Q) (he B G0 H0 ρ σ G H I) fun p ρ1 v G1 H1 _ I1 k1 r1 => ?_
  refine Pt.bd (t := tl σ) (u := fun l H2 (Q : VK) => th σ H2 fun u H3 => rSlA T.K v l u H3 Q) (hl B G0 H0 ρ1 σ G1 H1 I1) fun lo ρ2 w G2 H2 _ I2 k2 r2 => ?_
  cases r2
  refine Pt.bd (t := th σ) (u := fun u H3 (Q : VK) => rSlA T.K v lo u H3 Q) (hh B G0 H0 ρ2 σ G2 H2 I2) fun hi ρ3 w G3 H3 _ I3 k3 r3 => ?_
  cases r3
  have r1' : POk T σ G3 v p := (r1.mono k2).mono k3
  cases e1 : rdP ρ3 p with
  | none => exact Pt.no
  | some x =>
    refine Pt.lf fun s e => Pt.ok fun Q q => ?_
    exact slT_ok I3.gh (I3.pk r1' e1) e fun u G' H' al rn => q u G' H' (I3.al al) al.gg (I3.vok rn)
/-- t * 2 -/
def opRepT : D → D → Option Slot
  | .tuple (x :: xs), .int k => if Nat.ble 2 k.toNat && (Nat.ble k.toNat 1000 && Nat.ble (x :: xs).length 1000) then some (.d (.tuple (List.replicate k.toNat (x :: xs)).flatten)) else none
  | _, _ => none
theorem op_repU {X : Cx} (K : PySem.W.Frag) (h : X.K = K := by rfl) : OpR X (binaryOp .Mult) (rRepT K) := by subst h; exact op_repT
theorem rpl_rep {vs : List V} {xs : List D} (r : RpL T G vs xs) : ∀ n : Nat, RpL T G (List.replicate n vs).flatten (List.replicate n xs).flatten
  | 0 => .nil
  | n + 1 => by
    rw [List.replicate_succ, List.replicate_succ, List.flatten_cons, List.flatten_cons]
    exact r.app (rpl_rep r n)
theorem os_repT : OpS T (rRepT T.K) opRepT := by
  intro G H v w x y s Q g hv hw e q
  unfold opRepT at e
  split at e
  · rename_i x0 xs k
    split at e
    · rename_i hl
      cases e
      obtain ⟨l1, l23⟩ := Bool.and_eq_true_iff.mp hl
      obtain ⟨l2, l3⟩ := Bool.and_eq_true_iff.mp l23
      have l1 := Nat.le_of_ble_eq_true l1
      have l2 := Nat.le_of_ble_eq_true l2
      have l3 := Nat.le_of_ble_eq_true l3
      obtain ⟨a, vs, rfl, h1, g1, r1⟩ := hv.tup g
      refine ⟨a, k, vs, rfl, hw.int, SqT.of h1, fun z => ?_, by omega, by omega, by rw [r1.len]; exact l3, fun p n => ?_⟩
      · subst z; cases r1
      · exact q _ _ _ (Al.new g n) (.tup upd_same ((rpl_rep r1 _).mono (Al.new g n).gg))
    · cases e
  · cases e
end
end DL
/-! NCGet: d[k] read, d a dict that is data (a parameter), k a tuple. -/
namespace DL
open PySem PySem.Spec PyProof.Rows L2
def rIxX (T : Kt) : R2 := fun x y H Q => ∃ a b k xs z, x = .ref a ∧ y = .ref b ∧ KeyX T H k b ∧ IsX T a xs (H a) ∧ (∀ z ∈ xs, KeyX T H z.1 z.2.1) ∧ xs.find? (fun x => decide (x.1 = k)) = some z ∧ Q z.2.2 H
theorem ix_X {X : Cx} {T : Kt} (hu : X.A.units + 64 < cLine) (hP : X.prog = T.P := by rfl) (hw : X.w = T.w := by rfl) : IxR X (rIxX T) := by
  intro value slice pins s σ H x y v u Q I rx ry h hs
  obtain ⟨a, b, k, xs, z, rfl, rfl, hk, d, hks, hf, q⟩ := h
  obtain rfl : v = Value.ref a := rx
  obtain rfl : u = Value.ref b := ry
  have ok := I.hok
  rw [hP, hw] at ok ⊢
  obtain ⟨hd, hz, vs, rv, dd⟩ := isx_of ok d hks
  obtain ⟨p, hp, rp⟩ := get_ents rv hf
  exact tail_any dd.typeIs slot_dict_getitem.lookup (wpAny_getItem_heap (NCNest.room8 hu) (hk.is ok) dd hp ⟨z.2.2, H, I.tok _, rp, q⟩) hs
section
variable {T : Kt} {B : Option Addr} {G0 H0 G H G' H' : Hp} {ρ : Ev} {σ : L2.St} {E : XK}
def findD : List (D × D) → NestedKey → Option D
  | [], _ => none
  | p :: kvs, k => if decide (keyD p.1 = some k) then some p.2 else findD kvs k
def opXIx : D → D → Option Slot
  | PyData.dict [(PyData.none, PyData.tuple ts)], y => match keyD y, unTab ts with
    | some k, some kvs => (findD kvs k).map Slot.d
    | _, _ => none
  | _, _ => none
theorem find_rp {k : NestedKey} : ∀ {xs : List XEnt} {kvs : List (D × D)} {y : D}, RpK T G xs kvs → findD kvs k = some y → ∃ z, xs.find? (fun x => decide (x.1 = k)) = some z ∧ Rp T G z.2.2 y
  | _, _, _, .nil, e => by cases e
  | x :: xs, p :: kvs, y, .cons e1 r1 r2 rr, e => by
    unfold findD at e
    rw [e1] at e
    by_cases h : x.1 = k
    · rw [if_pos (by simp [h])] at e
      cases e
      exact ⟨x, by rw [List.find?_cons, decide_eq_true h], r2⟩
    · rw [if_neg (by simp [h])] at e
      obtain ⟨z, h1, h2⟩ := find_rp rr e
      exact ⟨z, by rw [List.find?_cons, decide_eq_false h]; exact h1, h2⟩
theorem os_xix : OpS T (rIxX T) opXIx := by
  intro G H v w x y s Q g hv hw e q
  unfold opXIx at e
  split at e
  · rename_i ts
    split at e
    · rename_i k kvs ek eu
      cases ef : findD kvs k with
      | none => rw [ef] at e; cases e
      | some y1 =>
        rw [ef] at e
        cases e
        have rv : Rp T G v (PyData.dict [(PyData.none, PyData.tuple ts)]) := by
          rcases hv with h | ⟨a, vs, zs, _, e2, _⟩ | ⟨a, dx, c, fs, ds, _, e2, _⟩
          · exact h
          · cases e2
          · cases e2
        have rw' : Rp T G w y := hw.dat (key_dat ek)
        obtain ⟨b, rfl⟩ := rw'.ref_of ek
        obtain ⟨a, xs, kvs', rfl, eu', h3, r⟩ := Rp.tabOf rv
        rw [eu] at eu'
        cases eu'
        obtain ⟨z, h1, h2⟩ := find_rp r ef
        exact ⟨a, b, k, xs, z, rfl, rfl, ⟨G, y, g, rw', ek⟩, h3.up g, ent_keys g r.paired, h1, q _ G H (Al.refl g) h2⟩
    · cases e
  · cases e
end
end DL
/-! NCLay: a def that makes lambdas and tells a list of plain things. -/
namespace DL
open PySem PySem.Spec PyProof.Rows L2
section
variable {T : Kt} {F : Int → Hp → Addr → Prop} {B : Option Addr} {G0 H0 G H G' H' : Hp} {ρ : Ev} {σ : L2.St} {E : XK}
mutual
theorem Rp.layF : ∀ {v : V} {d : D}, Rp (T.withF F) G v d → d.canLay0 = true → Rp T G v d
  | _, _, .non, _ => .non
  | _, _, .bl b, _ => .bl b
  | _, _, .int i, _ => .int i
  | _, _, .str x, _ => .str x
  | _, _, .lst h r, c => .lst h (RpL.layF r c)
  | _, _, .tup h r, c => .tup h (RpL.layF r c)
  | _, _, .ins _ _ _ _, c => by cases c
  | _, _, .fn _ _, c => by cases c
  | _, _, .scr _ _, c => by cases c
  | _, _, .dct _, c => by cases c
  | _, _, .tab _ _, c => by cases c
theorem RpL.layF : ∀ {vs : List V} {ds : List D}, RpL (T.withF F) G vs ds → PyData.canLayAll0 ds = true → RpL T G vs ds
  | _, _, .nil, _ => .nil
  | _, d :: ds, .cons h r, c => by
    have c2 : (d.canLay0 && PyData.canLayAll0 ds) = true := c
    obtain ⟨c3, c4⟩ := Bool.and_eq_true_iff.mp c2
    exact .cons (Rp.layF h c3) (RpL.layF r c4)
end
/-- its result is plain, or a list of plain things -/
def runL (f : M Out) (n : Nat) (as : List Slot) : R (Slot × Slot) := match runB f n as with
  | .ok (.d x, s') => if x.canLay0 && backA s' then .ok (.d x, s') else .no
  | .ok (.o xs, s') => if PyData.canLayAll0 xs && backA s' then .ok (.o xs, s') else .no
  | _ => .no
theorem body_okLL {t : TS} {f : M Out} {N : List Str} {n : Nat} {vs : List V} {Q : VK} (hF : ∀ k G a, T.isF k G a → F k G a) (hb : Ds (T.withF F) E t f) (hn : n ≤ N.length) (h : dSp T n (runL f N.length) vs H Q E) : t { nx := fun _ H' => Q .non H', rt := Q } (L2.start N vs) H := by
  refine body_ok (T := T.withF F) (n := n) hb hn ?_
  obtain ⟨hl, tt, G, B, as, g, gt, ha, q⟩ := h
  refine ⟨hl, tt, G, B, as, g, gt, ha.toF hF, ?_⟩
  unfold runL at q
  revert q
  cases runB f N.length as with
  | no => exact fun q => q
  | exc c x => exact fun q => q.elim
  | ok z =>
    obtain ⟨s, s'⟩ := z
    cases s with
    | d x =>
      by_cases hc : (x.canLay0 && backA s') = true
      · obtain ⟨h1, h2⟩ := Bool.and_eq_true_iff.mp hc
        show (match (if (x.canLay0 && backA s') = true then R.ok (Slot.d x, s') else R.no) with | .ok (s, s') => _ | .exc c x => _ | .no => _) → _
        rw [if_pos hc]
        intro q v G' H' k1 k2 k3 k4 bk rn tt
        exact q v G' H' k1 k2 k3 k4 (bk.atomF h2) (Rp.layF rn h1) tt
      · show (match (if (x.canLay0 && backA s') = true then R.ok (Slot.d x, s') else R.no) with | .ok (s, s') => _ | .exc c x => _ | .no => _) → _
        rw [if_neg hc]
        exact fun q => q.elim
    | o xs =>
      by_cases hc : (PyData.canLayAll0 xs && backA s') = true
      · obtain ⟨h1, h2⟩ := Bool.and_eq_true_iff.mp hc
        show (match (if (PyData.canLayAll0 xs && backA s') = true then R.ok (Slot.o xs, s') else R.no) with | .ok (s, s') => _ | .exc c x => _ | .no => _) → _
        rw [if_pos hc]
        intro q v G' H' k1 k2 k3 k4 bk rn tt
        obtain ⟨p, vs, e1, e2, e3, e4, r⟩ := rn
        exact q v G' H' k1 k2 k3 k4 (bk.atomF h2) ⟨p, vs, e1, e2, e3, e4, RpL.layF r h1⟩ tt
      · show (match (if (PyData.canLayAll0 xs && backA s') = true then R.ok (Slot.o xs, s') else R.no) with | .ok (s, s') => _ | .exc c x => _ | .no => _) → _
        rw [if_neg hc]
        exact fun q => q.elim
    | un => exact fun q => q.elim
    | b _ => exact fun q => q.elim
    | j _ _ => exact fun q => q.elim
    | t _ => exact fun q => q.elim
/-- t < u of tuples of ints -/
def opLtT : D → D → Option Slot
  | .tuple xs, .tuple ys => match intsD xs, intsD ys with
    | some ns, some ms => some (.d (.bool (HT.lexLt ns ms)))
    | _, _ => none
  | _, _ => none
theorem op_ltU {X : Cx} (K : PySem.W.Frag) (hu : X.A.units + 64 < cLine) (h : X.K = K := by rfl) : OpR X (compareOp .Lt) (rLtT K) := by subst h; exact op_ltT (by omega)
theorem os_ltT : OpS T (rLtT T.K) opLtT := by
  intro G H v w x y s Q g hv hw e q
  unfold opLtT at e
  split at e
  · rename_i xs ys
    split at e
    · rename_i ns ms e1 e2
      cases e
      obtain ⟨a, vs, rfl, h1, g1, r1⟩ := hv.tup g
      obtain ⟨b, ws, rfl, h2, g2, r2⟩ := hw.tup g
      have v1 := ints_vs r1 e1
      have v2 := ints_vs r2 e2
      subst v1 v2
      exact ⟨a, b, ns, ms, rfl, rfl, SqT.of h1, SqT.of h2, q _ G H (Al.refl g) (.bl _)⟩
    · cases e
  · cases e
end
end DL
open PySem PySem.Spec PyProof.Rows L2
local macro_rules | `(tactic| walk_at "mul") => `(tactic| first | exact mulL (by omega) (by omega) | exact mulR (by omega) (by omega) | exact mulL (by decide) (by decide) | exact mulR (by decide) (by decide))
local macro_rules | `(tactic| walk_at "r1") => `(tactic| first
  | with_reducible refine g_seq ?_ | with_reducible refine g_next ?_ | with_reducible refine g_ret ?_ | with_reducible refine g_asg ?_ | with_reducible refine g_name ?_ | with_reducible refine g_drop ?_ | with_reducible refine g_ifS ?_ | with_reducible refine g_par ?_ | with_reducible refine g_par3 ?_
  | ((with_reducible refine g_var (v := ?v) ?h ?_); (case h => exact rfl))
  | with_reducible refine g_c ?_ | with_reducible refine g_op ?_ | with_reducible refine g_un ?_ | with_reducible refine g_I0 ?_ | with_reducible refine g_U ?_
  | with_reducible refine g_eqI ?_ | with_reducible refine g_neI ?_ | with_reducible refine g_eqB ?_ | with_reducible refine g_neB ?_
  | with_reducible refine g_cons ?_ | with_reducible refine g_nil ?_ | with_reducible refine g_tup ?_ | with_reducible refine g_lst ?_ | with_reducible refine g_cb ?_ | with_reducible refine g_call ?_ | with_reducible refine g_callN ?_
  | with_reducible refine g_yes ?_ | with_reducible refine g_test ?_ | with_reducible refine g_tb ?_ | with_reducible refine g_bl ?_ | with_reducible refine g_and ?_ | with_reducible refine g_or ?_ | with_reducible refine g_not ?_ | with_reducible refine g_if ?_
  | with_reducible refine g_chain ?_ | with_reducible refine g_andV ?_ | with_reducible refine g_orV ?_ | with_reducible refine g_notV ?_ | with_reducible refine g_sub ?_ | with_reducible refine g_sl ?_ | with_reducible refine g_consG ?_ | with_reducible refine g_nilG ?_
  | with_reducible refine g_for ?_ | with_reducible refine g_lc ?_ | with_reducible refine g_rng1 ?_ | with_reducible refine g_rng2 ?_ | with_reducible refine g_ilist ?_ | with_reducible refine g_itup ?_ | with_reducible refine g_ikeys ?_ | with_reducible refine g_intI ?_ | with_reducible refine g_intB ?_ | with_reducible refine g_abs ?_ | with_reducible refine g_min2 ?_ | with_reducible refine g_max2 ?_ | with_reducible refine g_po ?_ | with_reducible refine g_pon ?_ | with_reducible refine g_int1 ?_
  | ((with_reducible refine g_lenL (xs := ?xs) ?h ?_); (case h => assumption))
  | ((with_reducible refine g_lenT (xs := ?xs) ?h ?_); (case h => assumption))
  | ((with_reducible refine g_mod ?h ?_); (case h => first | decide | omega))
  | ((with_reducible refine g_div ?h ?h2 ?_); (case h => first | decide | omega); (case h2 => first | decide | omega))
  | ((with_reducible refine g_pow ?h ?_); (case h => first | exact ⟨by decide, by decide, by decide⟩ | exact pow_ok (by omega) (by omega) (by omega) (by omega)))
  | ((with_reducible refine g_tupG (xs := ?xs) ?h ?n ?_); (case h => assumption); (case n => exact rfl))
  | ((with_reducible refine g_unl (xs := ?xs) ?h ?n ?_); (case h => assumption); (case n => exact rfl))
  | ((with_reducible refine g_mul ?h ?_); (case h => walk_at "mul"))
  | ((with_reducible refine g_mulA ?h ?_); (case h => first | exact mulW (by assumption) (by assumption) | exact .inl (by walk_at "mul")))
  | ((with_reducible refine g_divA ?h ?_); (case h => first | exact divW (by assumption) (by assumption) | exact divB (by omega) (by omega) | exact ⟨by decide, by decide⟩))
  | ((with_reducible refine g_powA ?h ?_); (case h => first | exact powW (by assumption) | exact powS (by decide) (by decide) (by decide)))
  | with_reducible refine g_max3 ?_ | with_reducible refine g_ceI ?_ | with_reducible refine g_osA ?_ | with_reducible refine g_mkA ?_
  | ((with_reducible refine g_ixT (v := ?v) (xs := ?xs) ?h ?a ?_); (case h => assumption); (case a => exact rfl))
  | ((with_reducible refine g_ixL (v := ?v) (xs := ?xs) ?h ?a ?_); (case h => assumption); (case a => exact rfl)))
local macro_rules | `(tactic| walk_at "rd") => `(tactic| repeat walk_at "r1")
local macro_rules | `(tactic| walk_at "nm") => `(tactic| try dsimp only [List.set_cons_zero, List.set_cons_succ])
namespace NC
abbrev P0 : Program := PySem.Challenge.pw_nearcells_k21_what_building_refuses
abbrev top (i : Nat) : Stmt := P0.main.body.getD i (.Pass ⟨0, 0, 0, 0⟩)
def mkD (g nm : Str) (i : Nat) : He.DefD := ⟨(g, none), nm, nm, defArgs (top i), defBody (top i), defScope (top i), [], []⟩
abbrev FnP (K : PySem.W.Frag) (x : Str) (st : Stmt) (f : Addr) (fd : FuncData) : Prop := FunD K x x (defArgs st) (defBody st) (defScope st) [] [] f fd
def initOf : Stmt → Stmt
  | .ClassDef (body := b) .. => b.headD (.Pass ⟨0, 0, 0, 0⟩)
  | s => s
abbrev ini (i : Nat) : Stmt := initOf (top i)
def mkI (C q : Str) (i : Nat) : He.DefD := ⟨(C, some "__init__"), "__init__", q, defArgs (ini i), defBody (ini i), defScope (ini i), [], []⟩
def methOf (j : Nat) : Stmt → Stmt
  | .ClassDef (body := b) .. => b.getD j (.Pass ⟨0, 0, 0, 0⟩)
  | s => s
abbrev mth (i j : Nat) : Stmt := methOf j (top i)
def mkM (C m q : Str) (i j : Nat) : He.DefD := ⟨(C, some m), m, q, defArgs (mth i j), defBody (mth i j), defScope (mth i j), [], []⟩
def fns : List He.DefD := [mkD "is_integer" "is_integer" 8,
  mkD "is_between" "is_between" 9,
  mkD "sign" "sign" 10,
  mkD "is_site" "is_site" 14,
  mkD "check_sites" "check_sites" 16,
  mkD "turn" "turn" 18,
  mkD "power" "power" 19,
  mkD "inside" "inside" 20,
  mkD "border_of" "border_of" 22,
  mkD "chain_of" "chain_of" 23,
  mkD "face_left" "face_left" 24,
  mkD "turned_left" "turned_left" 25,
  mkD "sides_of" "sides_of" 26,
  mkD "faces_of" "faces_of" 27,
  mkD "is_corners" "is_corners" 30,
  mkD "check_triangles" "check_triangles" 31,
  mkD "facing" "facing" 32,
  mkD "is_filling" "is_filling" 33,
  mkD "checked" "checked" 39,
  mkD "is_wrong" "is_wrong" 40,
  mkD "wrong_in" "wrong_in" 41,
  mkD "triangles_in" "triangles_in" 42,
  mkD "can_flip" "can_flip" 43,
  mkD "wrong_edges" "wrong_edges" 45,
  mkD "is_pair" "is_pair" 46,
  mkD "flipped" "flipped" 47,
  mkD "straightened" "straightened" 48,
  mkD "placed" "placed" 49,
  mkD "volume" "volume" 50,
  mkD "steps" "steps" 51,
  mkD "_law_purse" "_law_purse" 57,
  mkD "_law_coin" "_law_coin" 58,
  mkD "_law_pick" "_law_pick" 59,
  mkD "_law_deep" "_law_deep" 62,
  mkD "_law_said" "_law_said" 60,
  mkD "_law_all_say" "_law_all_say" 61,
  mkD "_law_sites_right" "_law_sites_right" 63,
  mkD "_law_triangles_right" "_law_triangles_right" 64,
  mkD "law" "law" 65,
  mkI "InvalidSites" "InvalidSites.__init__" 3,
  mkI "InvalidBound" "InvalidBound.__init__" 5,
  mkI "InvalidTriangles" "InvalidTriangles.__init__" 4,
  mkM "Subdivision" "__init__" "Subdivision.__init__" 29 0,
  mkM "Subdivision" "pairs_joined" "Subdivision.pairs_joined" 29 2,
  mkM "Desk" "__init__" "Desk.__init__" 55 0]
def fas : List He.Fa := [.glo "is_integer", .glo "is_between", .glo "sign", .glo "is_site", .glo "check_sites", .glo "turn", .glo "power", .glo "inside", .glo "border_of", .glo "chain_of", .glo "face_left", .glo "turned_left", .glo "sides_of", .glo "faces_of", .glo "is_corners", .glo "check_triangles", .glo "facing", .glo "is_filling", .glo "checked", .glo "is_wrong", .glo "wrong_in", .glo "triangles_in", .glo "can_flip", .glo "wrong_edges", .glo "is_pair", .glo "flipped", .glo "straightened", .glo "placed", .glo "volume", .glo "steps", .glo "_law_purse", .glo "_law_coin", .glo "_law_pick", .glo "_law_deep", .glo "_law_said", .glo "_law_all_say", .glo "_law_sites_right", .glo "_law_triangles_right", .glo "law", .int "MOST_COORDINATE" 1000000, .int "MOST_SITES" 200, .free "isinstance", .free "int", .free "bool", .free "tuple", .free "list", .free "dict", .free "len", .free "all", .free "range", .free "max", .free "min", .free "abs", .free "enumerate", .free "sorted", .free "zip", .free "sum", .glo "CellError", .glo "InvalidSites", .glo "InvalidBound", .glo "InvalidTriangles", .meth "InvalidSites" "__init__", .meth "InvalidBound" "__init__", .meth "InvalidTriangles" "__init__", .noat "InvalidSites" "at", .noat "InvalidBound" "argument", .noat "InvalidTriangles" "at", .exm "InvalidSites" "InvalidSites" true, .exm "InvalidTriangles" "InvalidSites" false, .exm "InvalidTriangles" "InvalidTriangles" true, .exm "InvalidBound" "InvalidSites" false, .exm "InvalidBound" "InvalidTriangles" false, .exm "InvalidBound" "InvalidBound" true, .glo "Subdivision", .cls "Subdivision", .mkr "Subdivision", .meth "Subdivision" "__init__", .meth "Subdivision" "pairs_joined", .noat "Subdivision" "kept", .noat "Subdivision" "border", .noat "Subdivision" "is_row", .noat "Subdivision" "polygons", .noat "Subdivision" "joined", .glo "Desk", .cls "Desk", .mkr "Desk", .meth "Desk" "__init__", .noat "Desk" "present", .noat "Desk" "past", .noat "Desk" "later", .noat "Desk" "shown", .noat "Desk" "last_change"]
structure Tops (K : PySem.W.Frag) (mg : Str → Option Value) where
  fd_is_integer : FuncData
  F_is_integer : FnP K "is_integer" (top 8) (He.ga K "is_integer") fd_is_integer
  g_is_integer : mg "is_integer" = some (.ref (He.ga K "is_integer"))
  fd_is_between : FuncData
  F_is_between : FnP K "is_between" (top 9) (He.ga K "is_between") fd_is_between
  g_is_between : mg "is_between" = some (.ref (He.ga K "is_between"))
  fd_sign : FuncData
  F_sign : FnP K "sign" (top 10) (He.ga K "sign") fd_sign
  g_sign : mg "sign" = some (.ref (He.ga K "sign"))
  fd_is_site : FuncData
  F_is_site : FnP K "is_site" (top 14) (He.ga K "is_site") fd_is_site
  g_is_site : mg "is_site" = some (.ref (He.ga K "is_site"))
  fd_check_sites : FuncData
  F_check_sites : FnP K "check_sites" (top 16) (He.ga K "check_sites") fd_check_sites
  g_check_sites : mg "check_sites" = some (.ref (He.ga K "check_sites"))
  fd_turn : FuncData
  F_turn : FnP K "turn" (top 18) (He.ga K "turn") fd_turn
  g_turn : mg "turn" = some (.ref (He.ga K "turn"))
  fd_power : FuncData
  F_power : FnP K "power" (top 19) (He.ga K "power") fd_power
  g_power : mg "power" = some (.ref (He.ga K "power"))
  fd_inside : FuncData
  F_inside : FnP K "inside" (top 20) (He.ga K "inside") fd_inside
  g_inside : mg "inside" = some (.ref (He.ga K "inside"))
  fd_border_of : FuncData
  F_border_of : FnP K "border_of" (top 22) (He.ga K "border_of") fd_border_of
  g_border_of : mg "border_of" = some (.ref (He.ga K "border_of"))
  fd_chain_of : FuncData
  F_chain_of : FnP K "chain_of" (top 23) (He.ga K "chain_of") fd_chain_of
  g_chain_of : mg "chain_of" = some (.ref (He.ga K "chain_of"))
  fd_face_left : FuncData
  F_face_left : FnP K "face_left" (top 24) (He.ga K "face_left") fd_face_left
  g_face_left : mg "face_left" = some (.ref (He.ga K "face_left"))
  fd_turned_left : FuncData
  F_turned_left : FnP K "turned_left" (top 25) (He.ga K "turned_left") fd_turned_left
  g_turned_left : mg "turned_left" = some (.ref (He.ga K "turned_left"))
  fd_sides_of : FuncData
  F_sides_of : FnP K "sides_of" (top 26) (He.ga K "sides_of") fd_sides_of
  g_sides_of : mg "sides_of" = some (.ref (He.ga K "sides_of"))
  fd_faces_of : FuncData
  F_faces_of : FnP K "faces_of" (top 27) (He.ga K "faces_of") fd_faces_of
  g_faces_of : mg "faces_of" = some (.ref (He.ga K "faces_of"))
  fd_is_corners : FuncData
  F_is_corners : FnP K "is_corners" (top 30) (He.ga K "is_corners") fd_is_corners
  g_is_corners : mg "is_corners" = some (.ref (He.ga K "is_corners"))
  fd_check_triangles : FuncData
  F_check_triangles : FnP K "check_triangles" (top 31) (He.ga K "check_triangles") fd_check_triangles
  g_check_triangles : mg "check_triangles" = some (.ref (He.ga K "check_triangles"))
  fd_facing : FuncData
  F_facing : FnP K "facing" (top 32) (He.ga K "facing") fd_facing
  g_facing : mg "facing" = some (.ref (He.ga K "facing"))
  fd_is_filling : FuncData
  F_is_filling : FnP K "is_filling" (top 33) (He.ga K "is_filling") fd_is_filling
  g_is_filling : mg "is_filling" = some (.ref (He.ga K "is_filling"))
  fd_checked : FuncData
  F_checked : FnP K "checked" (top 39) (He.ga K "checked") fd_checked
  g_checked : mg "checked" = some (.ref (He.ga K "checked"))
  fd_is_wrong : FuncData
  F_is_wrong : FnP K "is_wrong" (top 40) (He.ga K "is_wrong") fd_is_wrong
  g_is_wrong : mg "is_wrong" = some (.ref (He.ga K "is_wrong"))
  fd_wrong_in : FuncData
  F_wrong_in : FnP K "wrong_in" (top 41) (He.ga K "wrong_in") fd_wrong_in
  g_wrong_in : mg "wrong_in" = some (.ref (He.ga K "wrong_in"))
  fd_triangles_in : FuncData
  F_triangles_in : FnP K "triangles_in" (top 42) (He.ga K "triangles_in") fd_triangles_in
  g_triangles_in : mg "triangles_in" = some (.ref (He.ga K "triangles_in"))
  fd_can_flip : FuncData
  F_can_flip : FnP K "can_flip" (top 43) (He.ga K "can_flip") fd_can_flip
  g_can_flip : mg "can_flip" = some (.ref (He.ga K "can_flip"))
  fd_wrong_edges : FuncData
  F_wrong_edges : FnP K "wrong_edges" (top 45) (He.ga K "wrong_edges") fd_wrong_edges
  g_wrong_edges : mg "wrong_edges" = some (.ref (He.ga K "wrong_edges"))
  fd_is_pair : FuncData
  F_is_pair : FnP K "is_pair" (top 46) (He.ga K "is_pair") fd_is_pair
  g_is_pair : mg "is_pair" = some (.ref (He.ga K "is_pair"))
  fd_flipped : FuncData
  F_flipped : FnP K "flipped" (top 47) (He.ga K "flipped") fd_flipped
  g_flipped : mg "flipped" = some (.ref (He.ga K "flipped"))
  fd_straightened : FuncData
  F_straightened : FnP K "straightened" (top 48) (He.ga K "straightened") fd_straightened
  g_straightened : mg "straightened" = some (.ref (He.ga K "straightened"))
  fd_placed : FuncData
  F_placed : FnP K "placed" (top 49) (He.ga K "placed") fd_placed
  g_placed : mg "placed" = some (.ref (He.ga K "placed"))
  fd_volume : FuncData
  F_volume : FnP K "volume" (top 50) (He.ga K "volume") fd_volume
  g_volume : mg "volume" = some (.ref (He.ga K "volume"))
  fd_steps : FuncData
  F_steps : FnP K "steps" (top 51) (He.ga K "steps") fd_steps
  g_steps : mg "steps" = some (.ref (He.ga K "steps"))
  fd_law_purse : FuncData
  F_law_purse : FnP K "_law_purse" (top 57) (He.ga K "_law_purse") fd_law_purse
  g_law_purse : mg "_law_purse" = some (.ref (He.ga K "_law_purse"))
  fd_law_coin : FuncData
  F_law_coin : FnP K "_law_coin" (top 58) (He.ga K "_law_coin") fd_law_coin
  g_law_coin : mg "_law_coin" = some (.ref (He.ga K "_law_coin"))
  fd_law_pick : FuncData
  F_law_pick : FnP K "_law_pick" (top 59) (He.ga K "_law_pick") fd_law_pick
  g_law_pick : mg "_law_pick" = some (.ref (He.ga K "_law_pick"))
  fd_law_deep : FuncData
  F_law_deep : FnP K "_law_deep" (top 62) (He.ga K "_law_deep") fd_law_deep
  g_law_deep : mg "_law_deep" = some (.ref (He.ga K "_law_deep"))
  fd_law_said : FuncData
  F_law_said : FnP K "_law_said" (top 60) (He.ga K "_law_said") fd_law_said
  g_law_said : mg "_law_said" = some (.ref (He.ga K "_law_said"))
  fd_law_all_say : FuncData
  F_law_all_say : FnP K "_law_all_say" (top 61) (He.ga K "_law_all_say") fd_law_all_say
  g_law_all_say : mg "_law_all_say" = some (.ref (He.ga K "_law_all_say"))
  fd_law_sites_right : FuncData
  F_law_sites_right : FnP K "_law_sites_right" (top 63) (He.ga K "_law_sites_right") fd_law_sites_right
  g_law_sites_right : mg "_law_sites_right" = some (.ref (He.ga K "_law_sites_right"))
  fd_law_triangles_right : FuncData
  F_law_triangles_right : FnP K "_law_triangles_right" (top 64) (He.ga K "_law_triangles_right") fd_law_triangles_right
  g_law_triangles_right : mg "_law_triangles_right" = some (.ref (He.ga K "_law_triangles_right"))
  fd_law : FuncData
  F_law : FnP K "law" (top 65) (He.ga K "law") fd_law
  g_law : mg "law" = some (.ref (He.ga K "law"))
  t_MOST_COORDINATE : Tok
  c_MOST_COORDINATE : mg "MOST_COORDINATE" = some (.int 1000000 t_MOST_COORDINATE)
  t_MOST_SITES : Tok
  c_MOST_SITES : mg "MOST_SITES" = some (.int 200 t_MOST_SITES)
  m_isinstance : mg "isinstance" = none
  m_int : mg "int" = none
  m_bool : mg "bool" = none
  m_tuple : mg "tuple" = none
  m_list : mg "list" = none
  m_dict : mg "dict" = none
  m_len : mg "len" = none
  m_all : mg "all" = none
  m_range : mg "range" = none
  m_max : mg "max" = none
  m_min : mg "min" = none
  m_abs : mg "abs" = none
  m_enumerate : mg "enumerate" = none
  m_sorted : mg "sorted" = none
  m_zip : mg "zip" = none
  m_sum : mg "sum" = none
  g_CellError : mg "CellError" = some (.ref (He.ga K "CellError"))
  B_CellError : BaseA K (He.ga K "CellError")
  fd_InvalidSites_init : FuncData
  F_InvalidSites_init : FunD K "__init__" "InvalidSites.__init__" (defArgs (ini 3)) (defBody (ini 3)) (defScope (ini 3)) [] [] (He.ma K (He.ga K "InvalidSites") "__init__") fd_InvalidSites_init
  g_InvalidSites : mg "InvalidSites" = some (.ref (He.ga K "InvalidSites"))
  i_InvalidSites : PySem.W.findIn K (.ref (He.ga K "InvalidSites")) "__init__" = some (some (.ref (He.ma K (He.ga K "InvalidSites") "__init__")))
  t_InvalidSites : PySem.W.typeIn K (.ref (He.ma K (He.ga K "InvalidSites") "__init__")) = some (.type "function")
  X_InvalidSites : OexA K (He.ga K "InvalidSites")
  C_InvalidSites : ExcC K (He.ga K "InvalidSites")
  k_InvalidSites : PySem.W.kitOne K (.ref (He.ga K "InvalidSites")) (.ref (He.ga K "CellError")) = some true
  n_InvalidSites_at : PySem.W.findIn K (.ref (He.ga K "InvalidSites")) "at" = some none
  fd_InvalidBound_init : FuncData
  F_InvalidBound_init : FunD K "__init__" "InvalidBound.__init__" (defArgs (ini 5)) (defBody (ini 5)) (defScope (ini 5)) [] [] (He.ma K (He.ga K "InvalidBound") "__init__") fd_InvalidBound_init
  g_InvalidBound : mg "InvalidBound" = some (.ref (He.ga K "InvalidBound"))
  i_InvalidBound : PySem.W.findIn K (.ref (He.ga K "InvalidBound")) "__init__" = some (some (.ref (He.ma K (He.ga K "InvalidBound") "__init__")))
  t_InvalidBound : PySem.W.typeIn K (.ref (He.ma K (He.ga K "InvalidBound") "__init__")) = some (.type "function")
  X_InvalidBound : OexA K (He.ga K "InvalidBound")
  C_InvalidBound : ExcC K (He.ga K "InvalidBound")
  k_InvalidBound : PySem.W.kitOne K (.ref (He.ga K "InvalidBound")) (.ref (He.ga K "CellError")) = some true
  n_InvalidBound_argument : PySem.W.findIn K (.ref (He.ga K "InvalidBound")) "argument" = some none
  fd_InvalidTriangles_init : FuncData
  F_InvalidTriangles_init : FunD K "__init__" "InvalidTriangles.__init__" (defArgs (ini 4)) (defBody (ini 4)) (defScope (ini 4)) [] [] (He.ma K (He.ga K "InvalidTriangles") "__init__") fd_InvalidTriangles_init
  g_InvalidTriangles : mg "InvalidTriangles" = some (.ref (He.ga K "InvalidTriangles"))
  i_InvalidTriangles : PySem.W.findIn K (.ref (He.ga K "InvalidTriangles")) "__init__" = some (some (.ref (He.ma K (He.ga K "InvalidTriangles") "__init__")))
  t_InvalidTriangles : PySem.W.typeIn K (.ref (He.ma K (He.ga K "InvalidTriangles") "__init__")) = some (.type "function")
  X_InvalidTriangles : OexA K (He.ga K "InvalidTriangles")
  C_InvalidTriangles : ExcC K (He.ga K "InvalidTriangles")
  k_InvalidTriangles : PySem.W.kitOne K (.ref (He.ga K "InvalidTriangles")) (.ref (He.ga K "CellError")) = some true
  n_InvalidTriangles_at : PySem.W.findIn K (.ref (He.ga K "InvalidTriangles")) "at" = some none
  t_law_all_say_law_sites_right : (He.cT K ("_law_all_say", none)).2 ≠ (He.cT K ("_law_sites_right", none)).2
  t_law_all_say_law_triangles_right : (He.cT K ("_law_all_say", none)).2 ≠ (He.cT K ("_law_triangles_right", none)).2
  t_law_all_say_law : (He.cT K ("_law_all_say", none)).2 ≠ (He.cT K ("law", none)).2
  t_law_sites_right_law_triangles_right : (He.cT K ("_law_sites_right", none)).2 ≠ (He.cT K ("_law_triangles_right", none)).2
  t_law_sites_right_law : (He.cT K ("_law_sites_right", none)).2 ≠ (He.cT K ("law", none)).2
  t_law_triangles_right_law : (He.cT K ("_law_triangles_right", none)).2 ≠ (He.cT K ("law", none)).2
  ik_Subdivision : DL.InsK K (He.ga K "Subdivision")
  ik_Desk : DL.InsK K (He.ga K "Desk")
  e_InvalidSites_InvalidSites : PySem.W.exmOne K (.ref (He.ga K "InvalidSites")) (.ref (He.ga K "InvalidSites")) = some true
  e_InvalidTriangles_InvalidSites : PySem.W.exmOne K (.ref (He.ga K "InvalidTriangles")) (.ref (He.ga K "InvalidSites")) = some false
  e_InvalidTriangles_InvalidTriangles : PySem.W.exmOne K (.ref (He.ga K "InvalidTriangles")) (.ref (He.ga K "InvalidTriangles")) = some true
  e_InvalidBound_InvalidSites : PySem.W.exmOne K (.ref (He.ga K "InvalidBound")) (.ref (He.ga K "InvalidSites")) = some false
  e_InvalidBound_InvalidTriangles : PySem.W.exmOne K (.ref (He.ga K "InvalidBound")) (.ref (He.ga K "InvalidTriangles")) = some false
  e_InvalidBound_InvalidBound : PySem.W.exmOne K (.ref (He.ga K "InvalidBound")) (.ref (He.ga K "InvalidBound")) = some true
  fd_Subdivision_init : FuncData
  F_Subdivision_init : FunD K "__init__" "Subdivision.__init__" (defArgs (mth 29 0)) (defBody (mth 29 0)) (defScope (mth 29 0)) [] [] (He.ma K (He.ga K "Subdivision") "__init__") fd_Subdivision_init
  me_Subdivision_init : Meth K (He.ga K "Subdivision") "__init__" (He.ma K (He.ga K "Subdivision") "__init__")
  fd_Subdivision_pairs_joined : FuncData
  F_Subdivision_pairs_joined : FunD K "pairs_joined" "Subdivision.pairs_joined" (defArgs (mth 29 2)) (defBody (mth 29 2)) (defScope (mth 29 2)) [] [] (He.ma K (He.ga K "Subdivision") "pairs_joined") fd_Subdivision_pairs_joined
  me_Subdivision_pairs_joined : Meth K (He.ga K "Subdivision") "pairs_joined" (He.ma K (He.ga K "Subdivision") "pairs_joined")
  fd_Desk_init : FuncData
  F_Desk_init : FunD K "__init__" "Desk.__init__" (defArgs (mth 55 0)) (defBody (mth 55 0)) (defScope (mth 55 0)) [] [] (He.ma K (He.ga K "Desk") "__init__") fd_Desk_init
  me_Desk_init : Meth K (He.ga K "Desk") "__init__" (He.ma K (He.ga K "Desk") "__init__")
  g_Subdivision : mg "Subdivision" = some (.ref (He.ga K "Subdivision"))
  cl_Subdivision : Cls K (He.ga K "Subdivision")
  M_Subdivision : Mk K (He.ga K "Subdivision") (He.ma K (He.ga K "Subdivision") "__init__")
  no_Subdivision_kept : NoAttr K (He.ga K "Subdivision") "kept"
  no_Subdivision_border : NoAttr K (He.ga K "Subdivision") "border"
  no_Subdivision_is_row : NoAttr K (He.ga K "Subdivision") "is_row"
  no_Subdivision_polygons : NoAttr K (He.ga K "Subdivision") "polygons"
  no_Subdivision_joined : NoAttr K (He.ga K "Subdivision") "joined"
  g_Desk : mg "Desk" = some (.ref (He.ga K "Desk"))
  cl_Desk : Cls K (He.ga K "Desk")
  M_Desk : Mk K (He.ga K "Desk") (He.ma K (He.ga K "Desk") "__init__")
  no_Desk_present : NoAttr K (He.ga K "Desk") "present"
  no_Desk_past : NoAttr K (He.ga K "Desk") "past"
  no_Desk_later : NoAttr K (He.ga K "Desk") "later"
  no_Desk_shown : NoAttr K (He.ga K "Desk") "shown"
  no_Desk_last_change : NoAttr K (He.ga K "Desk") "last_change"
abbrev exF : PySem.W.Frag → Bool := fun K => baseAB K (He.ga K "CellError") && (oexAB K (He.ga K "InvalidSites") && (oexAB K (He.ga K "InvalidBound") && (oexAB K (He.ga K "InvalidTriangles") && (excCB K (He.ga K "InvalidSites") && (excCB K (He.ga K "InvalidBound") && (excCB K (He.ga K "InvalidTriangles") && (kitEB K (He.ga K "InvalidSites") (He.ga K "CellError") true && (kitEB K (He.ga K "InvalidBound") (He.ga K "CellError") true && (kitEB K (He.ga K "InvalidTriangles") (He.ga K "CellError") true && (decide ((He.cT K ("_law_all_say", none)).2 ≠ (He.cT K ("_law_sites_right", none)).2) && (decide ((He.cT K ("_law_all_say", none)).2 ≠ (He.cT K ("_law_triangles_right", none)).2) && (decide ((He.cT K ("_law_all_say", none)).2 ≠ (He.cT K ("law", none)).2) && (decide ((He.cT K ("_law_sites_right", none)).2 ≠ (He.cT K ("_law_triangles_right", none)).2) && (decide ((He.cT K ("_law_sites_right", none)).2 ≠ (He.cT K ("law", none)).2) && (decide ((He.cT K ("_law_triangles_right", none)).2 ≠ (He.cT K ("law", none)).2) && (((He.Fa.cls "Subdivision").ok K && DL.insKB K (He.ga K "Subdivision")) && (((He.Fa.cls "Desk").ok K && DL.insKB K (He.ga K "Desk")))))))))))))))))))
theorem tops {K : PySem.W.Frag} {h : Heap} {mg : Str → Option Value} (X : K.In h) (G : h.Ns mainGlobals mg) (c : He.SaysD fas fns K) (m : exF K = true) : Nonempty (Tops K mg) := by
  obtain ⟨fd0, F0⟩ := c.def_ 0 rfl
  obtain ⟨fd1, F1⟩ := c.def_ 1 rfl
  obtain ⟨fd2, F2⟩ := c.def_ 2 rfl
  obtain ⟨fd3, F3⟩ := c.def_ 3 rfl
  obtain ⟨fd4, F4⟩ := c.def_ 4 rfl
  obtain ⟨fd5, F5⟩ := c.def_ 5 rfl
  obtain ⟨fd6, F6⟩ := c.def_ 6 rfl
  obtain ⟨fd7, F7⟩ := c.def_ 7 rfl
  obtain ⟨fd8, F8⟩ := c.def_ 8 rfl
  obtain ⟨fd9, F9⟩ := c.def_ 9 rfl
  obtain ⟨fd10, F10⟩ := c.def_ 10 rfl
  obtain ⟨fd11, F11⟩ := c.def_ 11 rfl
  obtain ⟨fd12, F12⟩ := c.def_ 12 rfl
  obtain ⟨fd13, F13⟩ := c.def_ 13 rfl
  obtain ⟨fd14, F14⟩ := c.def_ 14 rfl
  obtain ⟨fd15, F15⟩ := c.def_ 15 rfl
  obtain ⟨fd16, F16⟩ := c.def_ 16 rfl
  obtain ⟨fd17, F17⟩ := c.def_ 17 rfl
  obtain ⟨fd18, F18⟩ := c.def_ 18 rfl
  obtain ⟨fd19, F19⟩ := c.def_ 19 rfl
  obtain ⟨fd20, F20⟩ := c.def_ 20 rfl
  obtain ⟨fd21, F21⟩ := c.def_ 21 rfl
  obtain ⟨fd22, F22⟩ := c.def_ 22 rfl
  obtain ⟨fd23, F23⟩ := c.def_ 23 rfl
  obtain ⟨fd24, F24⟩ := c.def_ 24 rfl
  obtain ⟨fd25, F25⟩ := c.def_ 25 rfl
  obtain ⟨fd26, F26⟩ := c.def_ 26 rfl
  obtain ⟨fd27, F27⟩ := c.def_ 27 rfl
  obtain ⟨fd28, F28⟩ := c.def_ 28 rfl
  obtain ⟨fd29, F29⟩ := c.def_ 29 rfl
  obtain ⟨fd30, F30⟩ := c.def_ 30 rfl
  obtain ⟨fd31, F31⟩ := c.def_ 31 rfl
  obtain ⟨fd32, F32⟩ := c.def_ 32 rfl
  obtain ⟨fd33, F33⟩ := c.def_ 33 rfl
  obtain ⟨fd34, F34⟩ := c.def_ 34 rfl
  obtain ⟨fd35, F35⟩ := c.def_ 35 rfl
  obtain ⟨fd36, F36⟩ := c.def_ 36 rfl
  obtain ⟨fd37, F37⟩ := c.def_ 37 rfl
  obtain ⟨fd38, F38⟩ := c.def_ 38 rfl
  obtain ⟨t0, c0⟩ := He.int_ok X G (c.fact 39 rfl)
  obtain ⟨t1, c1⟩ := He.int_ok X G (c.fact 40 rfl)
  obtain ⟨mB, m⟩ := Bool.and_eq_true_iff.mp m
  obtain ⟨mX0, m⟩ := Bool.and_eq_true_iff.mp m
  obtain ⟨mX1, m⟩ := Bool.and_eq_true_iff.mp m
  obtain ⟨mX2, m⟩ := Bool.and_eq_true_iff.mp m
  obtain ⟨mC0, m⟩ := Bool.and_eq_true_iff.mp m
  obtain ⟨mC1, m⟩ := Bool.and_eq_true_iff.mp m
  obtain ⟨mC2, m⟩ := Bool.and_eq_true_iff.mp m
  obtain ⟨mK0, m⟩ := Bool.and_eq_true_iff.mp m
  obtain ⟨mK1, m⟩ := Bool.and_eq_true_iff.mp m
  obtain ⟨mK2, m⟩ := Bool.and_eq_true_iff.mp m
  obtain ⟨mT0, m⟩ := Bool.and_eq_true_iff.mp m
  obtain ⟨mT1, m⟩ := Bool.and_eq_true_iff.mp m
  obtain ⟨mT2, m⟩ := Bool.and_eq_true_iff.mp m
  obtain ⟨mT3, m⟩ := Bool.and_eq_true_iff.mp m
  obtain ⟨mT4, m⟩ := Bool.and_eq_true_iff.mp m
  obtain ⟨mT5, m⟩ := Bool.and_eq_true_iff.mp m
  obtain ⟨mE0, m⟩ := Bool.and_eq_true_iff.mp m
  have mE1 := m
  obtain ⟨fdI0, FI0⟩ := c.def_ 39 rfl
  obtain ⟨ia0, ib0⟩ := Bool.and_eq_true_iff.mp (show ((He.Fa.meth "InvalidSites" "__init__").ok K = true) from c.fact 61 rfl)
  obtain ⟨fdI1, FI1⟩ := c.def_ 40 rfl
  obtain ⟨ia1, ib1⟩ := Bool.and_eq_true_iff.mp (show ((He.Fa.meth "InvalidBound" "__init__").ok K = true) from c.fact 62 rfl)
  obtain ⟨fdI2, FI2⟩ := c.def_ 41 rfl
  obtain ⟨ia2, ib2⟩ := Bool.and_eq_true_iff.mp (show ((He.Fa.meth "InvalidTriangles" "__init__").ok K = true) from c.fact 63 rfl)
  obtain ⟨fdM0, FM0⟩ := c.def_ 42 rfl
  obtain ⟨fdM1, FM1⟩ := c.def_ 43 rfl
  obtain ⟨fdM2, FM2⟩ := c.def_ 44 rfl
  exact ⟨{ fd_is_integer := fd0, F_is_integer := F0, g_is_integer := He.glo_ok X G (c.fact 0 rfl), fd_is_between := fd1, F_is_between := F1, g_is_between := He.glo_ok X G (c.fact 1 rfl), fd_sign := fd2, F_sign := F2, g_sign := He.glo_ok X G (c.fact 2 rfl), fd_is_site := fd3, F_is_site := F3, g_is_site := He.glo_ok X G (c.fact 3 rfl), fd_check_sites := fd4, F_check_sites := F4, g_check_sites := He.glo_ok X G (c.fact 4 rfl), fd_turn := fd5, F_turn := F5, g_turn := He.glo_ok X G (c.fact 5 rfl), fd_power := fd6, F_power := F6, g_power := He.glo_ok X G (c.fact 6 rfl), fd_inside := fd7, F_inside := F7, g_inside := He.glo_ok X G (c.fact 7 rfl), fd_border_of := fd8, F_border_of := F8, g_border_of := He.glo_ok X G (c.fact 8 rfl), fd_chain_of := fd9, F_chain_of := F9, g_chain_of := He.glo_ok X G (c.fact 9 rfl), fd_face_left := fd10, F_face_left := F10, g_face_left := He.glo_ok X G (c.fact 10 rfl), fd_turned_left := fd11, F_turned_left := F11, g_turned_left := He.glo_ok X G (c.fact 11 rfl), fd_sides_of := fd12, F_sides_of := F12, g_sides_of := He.glo_ok X G (c.fact 12 rfl), fd_faces_of := fd13, F_faces_of := F13, g_faces_of := He.glo_ok X G (c.fact 13 rfl), fd_is_corners := fd14, F_is_corners := F14, g_is_corners := He.glo_ok X G (c.fact 14 rfl), fd_check_triangles := fd15, F_check_triangles := F15, g_check_triangles := He.glo_ok X G (c.fact 15 rfl), fd_facing := fd16, F_facing := F16, g_facing := He.glo_ok X G (c.fact 16 rfl), fd_is_filling := fd17, F_is_filling := F17, g_is_filling := He.glo_ok X G (c.fact 17 rfl), fd_checked := fd18, F_checked := F18, g_checked := He.glo_ok X G (c.fact 18 rfl), fd_is_wrong := fd19, F_is_wrong := F19, g_is_wrong := He.glo_ok X G (c.fact 19 rfl), fd_wrong_in := fd20, F_wrong_in := F20, g_wrong_in := He.glo_ok X G (c.fact 20 rfl), fd_triangles_in := fd21, F_triangles_in := F21, g_triangles_in := He.glo_ok X G (c.fact 21 rfl), fd_can_flip := fd22, F_can_flip := F22, g_can_flip := He.glo_ok X G (c.fact 22 rfl), fd_wrong_edges := fd23, F_wrong_edges := F23, g_wrong_edges := He.glo_ok X G (c.fact 23 rfl), fd_is_pair := fd24, F_is_pair := F24, g_is_pair := He.glo_ok X G (c.fact 24 rfl), fd_flipped := fd25, F_flipped := F25, g_flipped := He.glo_ok X G (c.fact 25 rfl), fd_straightened := fd26, F_straightened := F26, g_straightened := He.glo_ok X G (c.fact 26 rfl), fd_placed := fd27, F_placed := F27, g_placed := He.glo_ok X G (c.fact 27 rfl), fd_volume := fd28, F_volume := F28, g_volume := He.glo_ok X G (c.fact 28 rfl), fd_steps := fd29, F_steps := F29, g_steps := He.glo_ok X G (c.fact 29 rfl), fd_law_purse := fd30, F_law_purse := F30, g_law_purse := He.glo_ok X G (c.fact 30 rfl), fd_law_coin := fd31, F_law_coin := F31, g_law_coin := He.glo_ok X G (c.fact 31 rfl), fd_law_pick := fd32, F_law_pick := F32, g_law_pick := He.glo_ok X G (c.fact 32 rfl), fd_law_deep := fd33, F_law_deep := F33, g_law_deep := He.glo_ok X G (c.fact 33 rfl), fd_law_said := fd34, F_law_said := F34, g_law_said := He.glo_ok X G (c.fact 34 rfl), fd_law_all_say := fd35, F_law_all_say := F35, g_law_all_say := He.glo_ok X G (c.fact 35 rfl), fd_law_sites_right := fd36, F_law_sites_right := F36, g_law_sites_right := He.glo_ok X G (c.fact 36 rfl), fd_law_triangles_right := fd37, F_law_triangles_right := F37, g_law_triangles_right := He.glo_ok X G (c.fact 37 rfl), fd_law := fd38, F_law := F38, g_law := He.glo_ok X G (c.fact 38 rfl), t_MOST_COORDINATE := t0, c_MOST_COORDINATE := c0, t_MOST_SITES := t1, c_MOST_SITES := c1, m_isinstance := He.free_ok X G (c.fact 41 rfl), m_int := He.free_ok X G (c.fact 42 rfl), m_bool := He.free_ok X G (c.fact 43 rfl), m_tuple := He.free_ok X G (c.fact 44 rfl), m_list := He.free_ok X G (c.fact 45 rfl), m_dict := He.free_ok X G (c.fact 46 rfl), m_len := He.free_ok X G (c.fact 47 rfl), m_all := He.free_ok X G (c.fact 48 rfl), m_range := He.free_ok X G (c.fact 49 rfl), m_max := He.free_ok X G (c.fact 50 rfl), m_min := He.free_ok X G (c.fact 51 rfl), m_abs := He.free_ok X G (c.fact 52 rfl), m_enumerate := He.free_ok X G (c.fact 53 rfl), m_sorted := He.free_ok X G (c.fact 54 rfl), m_zip := He.free_ok X G (c.fact 55 rfl), m_sum := He.free_ok X G (c.fact 56 rfl), g_CellError := He.glo_ok X G (c.fact 57 rfl), B_CellError := baseAB_ok mB, fd_InvalidSites_init := fdI0, F_InvalidSites_init := FI0, g_InvalidSites := He.glo_ok X G (c.fact 58 rfl), i_InvalidSites := He.eqO_ok ia0, t_InvalidSites := beq_iff_eq.mp (Bool.and_eq_true_iff.mp ib0).1, X_InvalidSites := oexAB_ok mX0, C_InvalidSites := excCB_ok mC0, k_InvalidSites := kitEB_ok mK0, fd_InvalidBound_init := fdI1, F_InvalidBound_init := FI1, g_InvalidBound := He.glo_ok X G (c.fact 59 rfl), i_InvalidBound := He.eqO_ok ia1, t_InvalidBound := beq_iff_eq.mp (Bool.and_eq_true_iff.mp ib1).1, X_InvalidBound := oexAB_ok mX1, C_InvalidBound := excCB_ok mC1, k_InvalidBound := kitEB_ok mK1, fd_InvalidTriangles_init := fdI2, F_InvalidTriangles_init := FI2, g_InvalidTriangles := He.glo_ok X G (c.fact 60 rfl), i_InvalidTriangles := He.eqO_ok ia2, t_InvalidTriangles := beq_iff_eq.mp (Bool.and_eq_true_iff.mp ib2).1, X_InvalidTriangles := oexAB_ok mX2, C_InvalidTriangles := excCB_ok mC2, k_InvalidTriangles := kitEB_ok mK2, n_InvalidSites_at := He.noat_ok (c.fact 64 rfl), n_InvalidBound_argument := He.noat_ok (c.fact 65 rfl), n_InvalidTriangles_at := He.noat_ok (c.fact 66 rfl), ik_Subdivision := DL.insKB_ok (He.cls_ok (Bool.and_eq_true_iff.mp mE0).1) (Bool.and_eq_true_iff.mp mE0).2, ik_Desk := DL.insKB_ok (He.cls_ok (Bool.and_eq_true_iff.mp mE1).1) (Bool.and_eq_true_iff.mp mE1).2, t_law_all_say_law_sites_right := of_decide_eq_true mT0, t_law_all_say_law_triangles_right := of_decide_eq_true mT1, t_law_all_say_law := of_decide_eq_true mT2, t_law_sites_right_law_triangles_right := of_decide_eq_true mT3, t_law_sites_right_law := of_decide_eq_true mT4, t_law_triangles_right_law := of_decide_eq_true mT5, e_InvalidSites_InvalidSites := He.exm_ok (c.fact 67 rfl), e_InvalidTriangles_InvalidSites := He.exm_ok (c.fact 68 rfl), e_InvalidTriangles_InvalidTriangles := He.exm_ok (c.fact 69 rfl), e_InvalidBound_InvalidSites := He.exm_ok (c.fact 70 rfl), e_InvalidBound_InvalidTriangles := He.exm_ok (c.fact 71 rfl), e_InvalidBound_InvalidBound := He.exm_ok (c.fact 72 rfl), fd_Subdivision_init := fdM0, F_Subdivision_init := FM0, fd_Subdivision_pairs_joined := fdM1, F_Subdivision_pairs_joined := FM1, fd_Desk_init := fdM2, F_Desk_init := FM2, g_Subdivision := He.glo_ok X G (c.fact 73 rfl), cl_Subdivision := He.cls_ok (c.fact 74 rfl), M_Subdivision := He.mkr_ok (c.fact 75 rfl), me_Subdivision_init := He.meth_ok (c.fact 76 rfl), me_Subdivision_pairs_joined := He.meth_ok (c.fact 77 rfl), no_Subdivision_kept := He.noat_ok (c.fact 78 rfl), no_Subdivision_border := He.noat_ok (c.fact 79 rfl), no_Subdivision_is_row := He.noat_ok (c.fact 80 rfl), no_Subdivision_polygons := He.noat_ok (c.fact 81 rfl), no_Subdivision_joined := He.noat_ok (c.fact 82 rfl), g_Desk := He.glo_ok X G (c.fact 83 rfl), cl_Desk := He.cls_ok (c.fact 84 rfl), M_Desk := He.mkr_ok (c.fact 85 rfl), me_Desk_init := He.meth_ok (c.fact 86 rfl), no_Desk_present := He.noat_ok (c.fact 87 rfl), no_Desk_past := He.noat_ok (c.fact 88 rfl), no_Desk_later := He.noat_ok (c.fact 89 rfl), no_Desk_shown := He.noat_ok (c.fact 90 rfl), no_Desk_last_change := He.noat_ok (c.fact 91 rfl) }⟩
abbrev R0 : PySem.W.OpenRow := PySem.W.OpenLaw.row PySem.Challenge.rw_nearcells_k21_what_building_refuses
abbrev hk : PySem.W.Hook := NCHook.hook 4 fas fns [] [("_law_all_say", none), ("_law_sites_right", none), ("_law_triangles_right", none), ("law", none)] exF
def ob (s : PySem.W.SharedT) : He.AlX := NCHook.ob 4 fas fns [] [("_law_all_say", none), ("_law_sites_right", none), ("_law_triangles_right", none), ("law", none)] exF (HandSHeadRun.getT s)
theorem ob_eq (s : PySem.W.SharedT) : ob s = hk.obs s.abs := NCHook.ob_eq (HandSHeadRun.getT_eq s)
def loose0 : List PySem.Str := ["_wall", "CellError", "InvalidSites", "InvalidTriangles", "InvalidBound", "InvalidCall", "is_integer", "is_between", "sign", "MOST_COORDINATE", "MOST_SITES", "is_site", "check_site", "check_sites", "turn", "power", "inside", "border_of", "chain_of", "face_left", "turned_left", "sides_of", "faces_of", "fan_of", "Subdivision", "is_corners", "check_triangles", "facing", "is_filling", "is_flat"]
def loose1 : List PySem.Str := ["seen_of", "told", "checked", "is_wrong", "wrong_in", "triangles_in", "can_flip", "flip_in", "wrong_edges", "is_pair", "flipped", "straightened", "placed", "volume", "steps", "drawn", "only", "Desk", "_law_purse", "_law_coin", "_law_pick", "_law_said", "_law_all_say", "_law_deep", "_law_sites_right", "_law_triangles_right"]
abbrev loose : List PySem.Str := loose0 ++ loose1
theorem run (w : World) : HandSHeadRun.RunEq R0 (PySem.W.view R0.prog [65]) hk ob 4000 loose w := by
  intro os
  kernel_rfl
abbrev N_is_integer : List Str := ["value"]
abbrev P_is_integer : List Str := ["value"]
theorem sc_is_integer : FnScope N_is_integer P_is_integer (defScope (top 8)) := ⟨rfl, rfl, rfl, by decide +kernel, rfl, by decide +kernel, by decide +kernel⟩
theorem st_is_integer (x0 : V) : L2.start N_is_integer [x0] = [some x0] := rfl
theorem b_is_integer {K : PySem.W.Frag} {mg : Str → Option Value} (T : Tops K mg) : Binds K T.fd_is_integer P_is_integer [] := T.F_is_integer.bindsN fun _ _ _ _ _ _ us hl => match us, hl with | [_], _ => rfl
abbrev N_is_between : List Str := ["value", "low", "high"]
abbrev P_is_between : List Str := ["value", "low", "high"]
theorem sc_is_between : FnScope N_is_between P_is_between (defScope (top 9)) := ⟨rfl, rfl, rfl, by decide +kernel, rfl, by decide +kernel, by decide +kernel⟩
theorem st_is_between (x0 : V) (x1 : V) (x2 : V) : L2.start N_is_between [x0, x1, x2] = [some x0, some x1, some x2] := rfl
theorem b_is_between {K : PySem.W.Frag} {mg : Str → Option Value} (T : Tops K mg) : Binds K T.fd_is_between P_is_between [] := T.F_is_between.bindsN fun _ _ _ _ _ _ us hl => match us, hl with | [_, _, _], _ => rfl
abbrev N_sign : List Str := ["value"]
abbrev P_sign : List Str := ["value"]
theorem sc_sign : FnScope N_sign P_sign (defScope (top 10)) := ⟨rfl, rfl, rfl, by decide +kernel, rfl, by decide +kernel, by decide +kernel⟩
theorem st_sign (x0 : V) : L2.start N_sign [x0] = [some x0] := rfl
theorem b_sign {K : PySem.W.Frag} {mg : Str → Option Value} (T : Tops K mg) : Binds K T.fd_sign P_sign [] := T.F_sign.bindsN fun _ _ _ _ _ _ us hl => match us, hl with | [_], _ => rfl
abbrev N_is_site : List Str := ["value", "one"]
abbrev P_is_site : List Str := ["value"]
theorem sc_is_site : FnScope N_is_site P_is_site (defScope (top 14)) := ⟨rfl, rfl, rfl, by decide +kernel, rfl, by decide +kernel, by decide +kernel⟩
theorem st_is_site (x0 : V) : L2.start N_is_site [x0] = [some x0, none] := rfl
theorem b_is_site {K : PySem.W.Frag} {mg : Str → Option Value} (T : Tops K mg) : Binds K T.fd_is_site P_is_site [] := T.F_is_site.bindsN fun _ _ _ _ _ _ us hl => match us, hl with | [_], _ => rfl
abbrev N_check_sites : List Str := ["value", "known", "at", "item"]
abbrev P_check_sites : List Str := ["value"]
theorem sc_check_sites : FnScope N_check_sites P_check_sites (defScope (top 16)) := ⟨rfl, rfl, rfl, by decide +kernel, rfl, by decide +kernel, by decide +kernel⟩
theorem st_check_sites (x0 : V) : L2.start N_check_sites [x0] = [some x0, none, none, none] := rfl
theorem b_check_sites {K : PySem.W.Frag} {mg : Str → Option Value} (T : Tops K mg) : Binds K T.fd_check_sites P_check_sites [] := T.F_check_sites.bindsN fun _ _ _ _ _ _ us hl => match us, hl with | [_], _ => rfl
abbrev N_turn : List Str := ["a", "b", "c"]
abbrev P_turn : List Str := ["a", "b", "c"]
theorem sc_turn : FnScope N_turn P_turn (defScope (top 18)) := ⟨rfl, rfl, rfl, by decide +kernel, rfl, by decide +kernel, by decide +kernel⟩
theorem st_turn (x0 : V) (x1 : V) (x2 : V) : L2.start N_turn [x0, x1, x2] = [some x0, some x1, some x2] := rfl
theorem b_turn {K : PySem.W.Frag} {mg : Str → Option Value} (T : Tops K mg) : Binds K T.fd_turn P_turn [] := T.F_turn.bindsN fun _ _ _ _ _ _ us hl => match us, hl with | [_, _, _], _ => rfl
abbrev N_power : List Str := ["a", "b", "c", "d", "rows", "ax", "ay", "bx", "by", "cx", "cy", "lifts", "one", "x", "y"]
abbrev P_power : List Str := ["a", "b", "c", "d"]
theorem sc_power : FnScope N_power P_power (defScope (top 19)) := ⟨rfl, rfl, rfl, by decide +kernel, rfl, by decide +kernel, by decide +kernel⟩
theorem st_power (x0 : V) (x1 : V) (x2 : V) (x3 : V) : L2.start N_power [x0, x1, x2, x3] = [some x0, some x1, some x2, some x3, none, none, none, none, none, none, none, none, none, none, none] := rfl
theorem b_power {K : PySem.W.Frag} {mg : Str → Option Value} (T : Tops K mg) : Binds K T.fd_power P_power [] := T.F_power.bindsN fun _ _ _ _ _ _ us hl => match us, hl with | [_, _, _, _], _ => rfl
abbrev N_inside : List Str := ["a", "b", "c", "d"]
abbrev P_inside : List Str := ["a", "b", "c", "d"]
theorem sc_inside : FnScope N_inside P_inside (defScope (top 20)) := ⟨rfl, rfl, rfl, by decide +kernel, rfl, by decide +kernel, by decide +kernel⟩
theorem st_inside (x0 : V) (x1 : V) (x2 : V) (x3 : V) : L2.start N_inside [x0, x1, x2, x3] = [some x0, some x1, some x2, some x3] := rfl
theorem b_inside {K : PySem.W.Frag} {mg : Str → Option Value} (T : Tops K mg) : Binds K T.fd_inside P_inside [] := T.F_inside.bindsN fun _ _ _ _ _ _ us hl => match us, hl with | [_, _, _, _], _ => rfl
abbrev N_border_of : List Str := ["sites", "lower", "upper"]
abbrev P_border_of : List Str := ["sites"]
theorem sc_border_of : FnScope N_border_of P_border_of (defScope (top 22)) := ⟨rfl, rfl, rfl, by decide +kernel, rfl, by decide +kernel, by decide +kernel⟩
theorem st_border_of (x0 : V) : L2.start N_border_of [x0] = [some x0, none, none] := rfl
theorem b_border_of {K : PySem.W.Frag} {mg : Str → Option Value} (T : Tops K mg) : Binds K T.fd_border_of P_border_of [] := T.F_border_of.bindsN fun _ _ _ _ _ _ us hl => match us, hl with | [_], _ => rfl
abbrev N_chain_of : List Str := ["sites", "found", "site"]
abbrev P_chain_of : List Str := ["sites"]
theorem sc_chain_of : FnScope N_chain_of P_chain_of (defScope (top 23)) := ⟨rfl, rfl, rfl, by decide +kernel, rfl, by decide +kernel, by decide +kernel⟩
theorem st_chain_of (x0 : V) : L2.start N_chain_of [x0] = [some x0, none, none] := rfl
theorem b_chain_of {K : PySem.W.Frag} {mg : Str → Option Value} (T : Tops K mg) : Binds K T.fd_chain_of P_chain_of [] := T.F_chain_of.bindsN fun _ _ _ _ _ _ us hl => match us, hl with | [_], _ => rfl
abbrev N_face_left : List Str := ["sites", "a", "b", "best", "site", "corners"]
abbrev P_face_left : List Str := ["sites", "a", "b"]
theorem sc_face_left : FnScope N_face_left P_face_left (defScope (top 24)) := ⟨rfl, rfl, rfl, by decide +kernel, rfl, by decide +kernel, by decide +kernel⟩
theorem st_face_left (x0 : V) (x1 : V) (x2 : V) : L2.start N_face_left [x0, x1, x2] = [some x0, some x1, some x2, none, none, none] := rfl
theorem b_face_left {K : PySem.W.Frag} {mg : Str → Option Value} (T : Tops K mg) : Binds K T.fd_face_left P_face_left [] := T.F_face_left.bindsN fun _ _ _ _ _ _ us hl => match us, hl with | [_, _, _], _ => rfl
abbrev N_turned_left : List Str := ["corners", "rest", "first", "last", "lower", "upper", "site"]
abbrev P_turned_left : List Str := ["corners"]
theorem sc_turned_left : FnScope N_turned_left P_turned_left (defScope (top 25)) := ⟨rfl, rfl, rfl, by decide +kernel, rfl, by decide +kernel, by decide +kernel⟩
theorem st_turned_left (x0 : V) : L2.start N_turned_left [x0] = [some x0, none, none, none, none, none, none] := rfl
theorem b_turned_left {K : PySem.W.Frag} {mg : Str → Option Value} (T : Tops K mg) : Binds K T.fd_turned_left P_turned_left [] := T.F_turned_left.bindsN fun _ _ _ _ _ _ us hl => match us, hl with | [_], _ => rfl
abbrev N_sides_of : List Str := ["corners", "at"]
abbrev P_sides_of : List Str := ["corners"]
theorem sc_sides_of : FnScope N_sides_of P_sides_of (defScope (top 26)) := ⟨rfl, rfl, rfl, by decide +kernel, rfl, by decide +kernel, by decide +kernel⟩
theorem st_sides_of (x0 : V) : L2.start N_sides_of [x0] = [some x0, none] := rfl
theorem b_sides_of {K : PySem.W.Frag} {mg : Str → Option Value} (T : Tops K mg) : Binds K T.fd_sides_of P_sides_of [] := T.F_sides_of.bindsN fun _ _ _ _ _ _ us hl => match us, hl with | [_], _ => rfl
abbrev N_faces_of : List Str := ["sites", "border", "found", "known", "waiting", "a", "b", "face", "side", "at"]
abbrev P_faces_of : List Str := ["sites"]
theorem sc_faces_of : FnScope N_faces_of P_faces_of (defScope (top 27)) := ⟨rfl, rfl, rfl, by decide +kernel, rfl, by decide +kernel, by decide +kernel⟩
theorem st_faces_of (x0 : V) : L2.start N_faces_of [x0] = [some x0, none, none, none, none, none, none, none, none, none] := rfl
theorem b_faces_of {K : PySem.W.Frag} {mg : Str → Option Value} (T : Tops K mg) : Binds K T.fd_faces_of P_faces_of [] := T.F_faces_of.bindsN fun _ _ _ _ _ _ us hl => match us, hl with | [_], _ => rfl
abbrev N_is_corners : List Str := ["known", "value", "one"]
abbrev P_is_corners : List Str := ["known", "value"]
theorem sc_is_corners : FnScope N_is_corners P_is_corners (defScope (top 30)) := ⟨rfl, rfl, rfl, by decide +kernel, rfl, by decide +kernel, by decide +kernel⟩
theorem st_is_corners (x0 : V) (x1 : V) : L2.start N_is_corners [x0, x1] = [some x0, some x1, none] := rfl
theorem b_is_corners {K : PySem.W.Frag} {mg : Str → Option Value} (T : Tops K mg) : Binds K T.fd_is_corners P_is_corners [] := T.F_is_corners.bindsN fun _ _ _ _ _ _ us hl => match us, hl with | [_, _], _ => rfl
abbrev N_check_triangles : List Str := ["sites", "triangles", "known", "at", "item", "site"]
abbrev P_check_triangles : List Str := ["sites", "triangles"]
theorem sc_check_triangles : FnScope N_check_triangles P_check_triangles (defScope (top 31)) := ⟨rfl, rfl, rfl, by decide +kernel, rfl, by decide +kernel, by decide +kernel⟩
theorem st_check_triangles (x0 : V) (x1 : V) : L2.start N_check_triangles [x0, x1] = [some x0, some x1, none, none, none, none] := rfl
theorem b_check_triangles {K : PySem.W.Frag} {mg : Str → Option Value} (T : Tops K mg) : Binds K T.fd_check_triangles P_check_triangles [] := T.F_check_triangles.bindsN fun _ _ _ _ _ _ us hl => match us, hl with | [_, _], _ => rfl
abbrev N_facing : List Str := ["triangles", "found", "a", "b", "c", "side"]
abbrev P_facing : List Str := ["triangles"]
theorem sc_facing : FnScope N_facing P_facing (defScope (top 32)) := ⟨rfl, rfl, rfl, by decide +kernel, rfl, by decide +kernel, by decide +kernel⟩
theorem st_facing (x0 : V) : L2.start N_facing [x0] = [some x0, none, none, none, none, none] := rfl
theorem b_facing {K : PySem.W.Frag} {mg : Str → Option Value} (T : Tops K mg) : Binds K T.fd_facing P_facing [] := T.F_facing.bindsN fun _ _ _ _ _ _ us hl => match us, hl with | [_], _ => rfl
abbrev N_is_filling : List Str := ["sites", "triangles", "row", "border", "found", "hull", "used", "at", "side", "site"]
abbrev P_is_filling : List Str := ["sites", "triangles"]
theorem sc_is_filling : FnScope N_is_filling P_is_filling (defScope (top 33)) := ⟨rfl, rfl, rfl, by decide +kernel, rfl, by decide +kernel, by decide +kernel⟩
theorem st_is_filling (x0 : V) (x1 : V) : L2.start N_is_filling [x0, x1] = [some x0, some x1, none, none, none, none, none, none, none, none] := rfl
theorem b_is_filling {K : PySem.W.Frag} {mg : Str → Option Value} (T : Tops K mg) : Binds K T.fd_is_filling P_is_filling [] := T.F_is_filling.bindsN fun _ _ _ _ _ _ us hl => match us, hl with | [_, _], _ => rfl
abbrev N_checked : List Str := ["sites", "triangles"]
abbrev P_checked : List Str := ["sites", "triangles"]
theorem sc_checked : FnScope N_checked P_checked (defScope (top 39)) := ⟨rfl, rfl, rfl, by decide +kernel, rfl, by decide +kernel, by decide +kernel⟩
theorem st_checked (x0 : V) (x1 : V) : L2.start N_checked [x0, x1] = [some x0, some x1] := rfl
theorem b_checked {K : PySem.W.Frag} {mg : Str → Option Value} (T : Tops K mg) : Binds K T.fd_checked P_checked [] := T.F_checked.bindsN fun _ _ _ _ _ _ us hl => match us, hl with | [_, _], _ => rfl
abbrev N_is_wrong : List Str := ["found", "a", "b"]
abbrev P_is_wrong : List Str := ["found", "a", "b"]
theorem sc_is_wrong : FnScope N_is_wrong P_is_wrong (defScope (top 40)) := ⟨rfl, rfl, rfl, by decide +kernel, rfl, by decide +kernel, by decide +kernel⟩
theorem st_is_wrong (x0 : V) (x1 : V) (x2 : V) : L2.start N_is_wrong [x0, x1, x2] = [some x0, some x1, some x2] := rfl
theorem b_is_wrong {K : PySem.W.Frag} {mg : Str → Option Value} (T : Tops K mg) : Binds K T.fd_is_wrong P_is_wrong [] := T.F_is_wrong.bindsN fun _ _ _ _ _ _ us hl => match us, hl with | [_, _, _], _ => rfl
abbrev N_wrong_in : List Str := ["found", "a", "b"]
abbrev P_wrong_in : List Str := ["found"]
theorem sc_wrong_in : FnScope N_wrong_in P_wrong_in (defScope (top 41)) := ⟨rfl, rfl, rfl, by decide +kernel, rfl, by decide +kernel, by decide +kernel⟩
theorem st_wrong_in (x0 : V) : L2.start N_wrong_in [x0] = [some x0, none, none] := rfl
theorem b_wrong_in {K : PySem.W.Frag} {mg : Str → Option Value} (T : Tops K mg) : Binds K T.fd_wrong_in P_wrong_in [] := T.F_wrong_in.bindsN fun _ _ _ _ _ _ us hl => match us, hl with | [_], _ => rfl
abbrev N_triangles_in : List Str := ["found", "a", "b"]
abbrev P_triangles_in : List Str := ["found"]
theorem sc_triangles_in : FnScope N_triangles_in P_triangles_in (defScope (top 42)) := ⟨rfl, rfl, rfl, by decide +kernel, rfl, by decide +kernel, by decide +kernel⟩
theorem st_triangles_in (x0 : V) : L2.start N_triangles_in [x0] = [some x0, none, none] := rfl
theorem b_triangles_in {K : PySem.W.Frag} {mg : Str → Option Value} (T : Tops K mg) : Binds K T.fd_triangles_in P_triangles_in [] := T.F_triangles_in.bindsN fun _ _ _ _ _ _ us hl => match us, hl with | [_], _ => rfl
abbrev N_can_flip : List Str := ["found", "a", "b", "c", "d"]
abbrev P_can_flip : List Str := ["found", "a", "b"]
theorem sc_can_flip : FnScope N_can_flip P_can_flip (defScope (top 43)) := ⟨rfl, rfl, rfl, by decide +kernel, rfl, by decide +kernel, by decide +kernel⟩
theorem st_can_flip (x0 : V) (x1 : V) (x2 : V) : L2.start N_can_flip [x0, x1, x2] = [some x0, some x1, some x2, none, none] := rfl
theorem b_can_flip {K : PySem.W.Frag} {mg : Str → Option Value} (T : Tops K mg) : Binds K T.fd_can_flip P_can_flip [] := T.F_can_flip.bindsN fun _ _ _ _ _ _ us hl => match us, hl with | [_, _, _], _ => rfl
abbrev N_wrong_edges : List Str := ["sites", "triangles"]
abbrev P_wrong_edges : List Str := ["sites", "triangles"]
theorem sc_wrong_edges : FnScope N_wrong_edges P_wrong_edges (defScope (top 45)) := ⟨rfl, rfl, rfl, by decide +kernel, rfl, by decide +kernel, by decide +kernel⟩
theorem st_wrong_edges (x0 : V) (x1 : V) : L2.start N_wrong_edges [x0, x1] = [some x0, some x1] := rfl
theorem b_wrong_edges {K : PySem.W.Frag} {mg : Str → Option Value} (T : Tops K mg) : Binds K T.fd_wrong_edges P_wrong_edges [] := T.F_wrong_edges.bindsN fun _ _ _ _ _ _ us hl => match us, hl with | [_, _], _ => rfl
abbrev N_is_pair : List Str := ["value", "one"]
abbrev P_is_pair : List Str := ["value"]
theorem sc_is_pair : FnScope N_is_pair P_is_pair (defScope (top 46)) := ⟨rfl, rfl, rfl, by decide +kernel, rfl, by decide +kernel, by decide +kernel⟩
theorem st_is_pair (x0 : V) : L2.start N_is_pair [x0] = [some x0, none] := rfl
theorem b_is_pair {K : PySem.W.Frag} {mg : Str → Option Value} (T : Tops K mg) : Binds K T.fd_is_pair P_is_pair [] := T.F_is_pair.bindsN fun _ _ _ _ _ _ us hl => match us, hl with | [_], _ => rfl
abbrev N_flipped : List Str := ["sites", "triangles", "edge", "found"]
abbrev P_flipped : List Str := ["sites", "triangles", "edge"]
theorem sc_flipped : FnScope N_flipped P_flipped (defScope (top 47)) := ⟨rfl, rfl, rfl, by decide +kernel, rfl, by decide +kernel, by decide +kernel⟩
theorem st_flipped (x0 : V) (x1 : V) (x2 : V) : L2.start N_flipped [x0, x1, x2] = [some x0, some x1, some x2, none] := rfl
theorem b_flipped {K : PySem.W.Frag} {mg : Str → Option Value} (T : Tops K mg) : Binds K T.fd_flipped P_flipped [] := T.F_flipped.bindsN fun _ _ _ _ _ _ us hl => match us, hl with | [_, _, _], _ => rfl
abbrev N_straightened : List Str := ["sites", "triangles", "found", "flips", "waiting", "a", "b", "c", "d", "one", "other", "edge"]
abbrev P_straightened : List Str := ["sites", "triangles"]
theorem sc_straightened : FnScope N_straightened P_straightened (defScope (top 48)) := ⟨rfl, rfl, rfl, by decide +kernel, rfl, by decide +kernel, by decide +kernel⟩
theorem st_straightened (x0 : V) (x1 : V) : L2.start N_straightened [x0, x1] = [some x0, some x1, none, none, none, none, none, none, none, none, none, none] := rfl
theorem b_straightened {K : PySem.W.Frag} {mg : Str → Option Value} (T : Tops K mg) : Binds K T.fd_straightened P_straightened [] := T.F_straightened.bindsN fun _ _ _ _ _ _ us hl => match us, hl with | [_, _], _ => rfl
abbrev N_placed : List Str := ["sites", "row", "found", "at", "a", "b"]
abbrev P_placed : List Str := ["sites"]
theorem sc_placed : FnScope N_placed P_placed (defScope (top 49)) := ⟨rfl, rfl, rfl, by decide +kernel, rfl, by decide +kernel, by decide +kernel⟩
theorem st_placed (x0 : V) : L2.start N_placed [x0] = [some x0, none, none, none, none, none] := rfl
theorem b_placed {K : PySem.W.Frag} {mg : Str → Option Value} (T : Tops K mg) : Binds K T.fd_placed P_placed [] := T.F_placed.bindsN fun _ _ _ _ _ _ us hl => match us, hl with | [_], _ => rfl
abbrev N_volume : List Str := ["sites", "triangles", "found", "corners", "lifts", "x", "y"]
abbrev P_volume : List Str := ["sites", "triangles"]
theorem sc_volume : FnScope N_volume P_volume (defScope (top 50)) := ⟨rfl, rfl, rfl, by decide +kernel, rfl, by decide +kernel, by decide +kernel⟩
theorem st_volume (x0 : V) (x1 : V) : L2.start N_volume [x0, x1] = [some x0, some x1, none, none, none, none, none] := rfl
theorem b_volume {K : PySem.W.Frag} {mg : Str → Option Value} (T : Tops K mg) : Binds K T.fd_volume P_volume [] := T.F_volume.bindsN fun _ _ _ _ _ _ us hl => match us, hl with | [_, _], _ => rfl
abbrev N_steps : List Str := ["order", "edges", "found", "at", "later", "before", "behind", "gone", "edge"]
abbrev P_steps : List Str := ["order"]
theorem sc_steps : FnScope N_steps P_steps (defScope (top 51)) := ⟨rfl, rfl, rfl, by decide +kernel, rfl, by decide +kernel, by decide +kernel⟩
theorem st_steps (x0 : V) : L2.start N_steps [x0] = [some x0, none, none, none, none, none, none, none, none] := rfl
theorem b_steps {K : PySem.W.Frag} {mg : Str → Option Value} (T : Tops K mg) : Binds K T.fd_steps P_steps [] := T.F_steps.bindsN fun _ _ _ _ _ _ us hl => match us, hl with | [_], _ => rfl
abbrev N_law_purse : List Str := ["_law_figure"]
abbrev P_law_purse : List Str := ["_law_figure"]
theorem sc_law_purse : FnScope N_law_purse P_law_purse (defScope (top 57)) := ⟨rfl, rfl, rfl, by decide +kernel, rfl, by decide +kernel, by decide +kernel⟩
theorem st_law_purse (x0 : V) : L2.start N_law_purse [x0] = [some x0] := rfl
theorem b_law_purse {K : PySem.W.Frag} {mg : Str → Option Value} (T : Tops K mg) : Binds K T.fd_law_purse P_law_purse [] := T.F_law_purse.bindsN fun _ _ _ _ _ _ us hl => match us, hl with | [_], _ => rfl
abbrev N_law_coin : List Str := ["_law_purse_here", "_law_many", "_law_got_so", "_law_hashed"]
abbrev P_law_coin : List Str := ["_law_purse_here", "_law_many"]
theorem sc_law_coin : FnScope N_law_coin P_law_coin (defScope (top 58)) := ⟨rfl, rfl, rfl, by decide +kernel, rfl, by decide +kernel, by decide +kernel⟩
theorem st_law_coin (x0 : V) (x1 : V) : L2.start N_law_coin [x0, x1] = [some x0, some x1, none, none] := rfl
theorem b_law_coin {K : PySem.W.Frag} {mg : Str → Option Value} (T : Tops K mg) : Binds K T.fd_law_coin P_law_coin [] := T.F_law_coin.bindsN fun _ _ _ _ _ _ us hl => match us, hl with | [_, _], _ => rfl
abbrev N_law_pick : List Str := ["_law_purse_here", "_law_some"]
abbrev P_law_pick : List Str := ["_law_purse_here", "_law_some"]
theorem sc_law_pick : FnScope N_law_pick P_law_pick (defScope (top 59)) := ⟨rfl, rfl, rfl, by decide +kernel, rfl, by decide +kernel, by decide +kernel⟩
theorem st_law_pick (x0 : V) (x1 : V) : L2.start N_law_pick [x0, x1] = [some x0, some x1] := rfl
theorem b_law_pick {K : PySem.W.Frag} {mg : Str → Option Value} (T : Tops K mg) : Binds K T.fd_law_pick P_law_pick [] := T.F_law_pick.bindsN fun _ _ _ _ _ _ us hl => match us, hl with | [_, _], _ => rfl
abbrev N_law_deep : List Str := ["_law_found", "_law_turn_so"]
abbrev P_law_deep : List Str := []
theorem sc_law_deep : FnScope N_law_deep P_law_deep (defScope (top 62)) := ⟨rfl, rfl, rfl, by decide +kernel, rfl, by decide +kernel, by decide +kernel⟩
theorem st_law_deep : L2.start N_law_deep [] = [none, none] := rfl
theorem b_law_deep {K : PySem.W.Frag} {mg : Str → Option Value} (T : Tops K mg) : Binds K T.fd_law_deep P_law_deep [] := T.F_law_deep.bindsN fun _ _ _ _ _ _ us hl => match us, hl with | [], _ => rfl
abbrev N_law_said : List Str := ["_law_ask", "e"]
abbrev P_law_said : List Str := ["_law_ask"]
theorem sc_law_said : FnScope N_law_said P_law_said (defScope (top 60)) := ⟨rfl, rfl, rfl, by decide +kernel, rfl, by decide +kernel, by decide +kernel⟩
theorem st_law_said (x0 : V) : L2.start N_law_said [x0] = [some x0, none] := rfl
theorem b_law_said {K : PySem.W.Frag} {mg : Str → Option Value} (T : Tops K mg) : Binds K T.fd_law_said P_law_said [] := T.F_law_said.bindsN fun _ _ _ _ _ _ us hl => match us, hl with | [_], _ => rfl
abbrev N_law_all_say : List Str := ["_law_sites_so", "_law_figures", "_law_found", "_law_ask"]
abbrev P_law_all_say : List Str := ["_law_sites_so", "_law_figures"]
theorem sc_law_all_say : FnScope N_law_all_say P_law_all_say (defScope (top 61)) := ⟨rfl, rfl, rfl, by decide +kernel, rfl, by decide +kernel, by decide +kernel⟩
theorem st_law_all_say (x0 : V) (x1 : V) : L2.start N_law_all_say [x0, x1] = [some x0, some x1, none, none] := rfl
theorem b_law_all_say {K : PySem.W.Frag} {mg : Str → Option Value} (T : Tops K mg) : Binds K T.fd_law_all_say P_law_all_say [] := T.F_law_all_say.bindsN fun _ _ _ _ _ _ us hl => match us, hl with | [_, _], _ => rfl
abbrev N_law_sites_right : List Str := ["_law_rows_so", "_law_at", "_law_some", "_law_ask"]
abbrev P_law_sites_right : List Str := []
theorem sc_law_sites_right : FnScope N_law_sites_right P_law_sites_right (defScope (top 63)) := ⟨rfl, rfl, rfl, by decide +kernel, rfl, by decide +kernel, by decide +kernel⟩
theorem st_law_sites_right : L2.start N_law_sites_right [] = [none, none, none, none] := rfl
theorem b_law_sites_right {K : PySem.W.Frag} {mg : Str → Option Value} (T : Tops K mg) : Binds K T.fd_law_sites_right P_law_sites_right [] := T.F_law_sites_right.bindsN fun _ _ _ _ _ _ us hl => match us, hl with | [], _ => rfl
abbrev N_law_triangles_right : List Str := ["_law_purse_here", "_law_a", "_law_b", "_law_at", "_law_some", "_law_deep_here", "_law_odd", "_law_rows_so", "_law_handed", "_law_place", "_law_edge_so", "_law_four_so", "_law_good"]
abbrev P_law_triangles_right : List Str := ["_law_purse_here"]
theorem sc_law_triangles_right : FnScope N_law_triangles_right P_law_triangles_right (defScope (top 64)) := ⟨rfl, rfl, rfl, by decide +kernel, rfl, by decide +kernel, by decide +kernel⟩
theorem st_law_triangles_right (x0 : V) : L2.start N_law_triangles_right [x0] = [some x0, none, none, none, none, none, none, none, none, none, none, none, none] := rfl
theorem b_law_triangles_right {K : PySem.W.Frag} {mg : Str → Option Value} (T : Tops K mg) : Binds K T.fd_law_triangles_right P_law_triangles_right [] := T.F_law_triangles_right.bindsN fun _ _ _ _ _ _ us hl => match us, hl with | [_], _ => rfl
abbrev N_law : List Str := ["_law_script", "_law_figure", "_law_purse_here", "_law_turn_so", "_law_flat_so"]
abbrev P_law : List Str := ["_law_script"]
theorem sc_law : FnScope N_law P_law (defScope (top 65)) := ⟨rfl, rfl, rfl, by decide +kernel, rfl, by decide +kernel, by decide +kernel⟩
theorem st_law (x0 : V) : L2.start N_law [x0] = [some x0, none, none, none, none] := rfl
theorem b_law {K : PySem.W.Frag} {mg : Str → Option Value} (T : Tops K mg) : Binds K T.fd_law P_law [] := T.F_law.bindsN fun _ _ _ _ _ _ us hl => match us, hl with | [_], _ => rfl
abbrev N_InvalidSites_init : List Str := ["self", "at"]
abbrev P_InvalidSites_init : List Str := ["self", "at"]
theorem sc_InvalidSites_init : FnScope N_InvalidSites_init P_InvalidSites_init (defScope (ini 3)) := ⟨rfl, rfl, rfl, by decide +kernel, rfl, by decide +kernel, by decide +kernel⟩
theorem st_InvalidSites_init (x0 : V) (x1 : V) : L2.start N_InvalidSites_init [x0, x1] = [some x0, some x1] := rfl
theorem b_InvalidSites_init {K : PySem.W.Frag} {mg : Str → Option Value} (T : Tops K mg) : Binds K T.fd_InvalidSites_init P_InvalidSites_init [] := T.F_InvalidSites_init.bindsN fun _ _ _ _ _ _ us hl => match us, hl with | [_, _], _ => rfl
abbrev N_InvalidBound_init : List Str := ["self", "argument"]
abbrev P_InvalidBound_init : List Str := ["self", "argument"]
theorem sc_InvalidBound_init : FnScope N_InvalidBound_init P_InvalidBound_init (defScope (ini 5)) := ⟨rfl, rfl, rfl, by decide +kernel, rfl, by decide +kernel, by decide +kernel⟩
theorem st_InvalidBound_init (x0 : V) (x1 : V) : L2.start N_InvalidBound_init [x0, x1] = [some x0, some x1] := rfl
theorem b_InvalidBound_init {K : PySem.W.Frag} {mg : Str → Option Value} (T : Tops K mg) : Binds K T.fd_InvalidBound_init P_InvalidBound_init [] := T.F_InvalidBound_init.bindsN fun _ _ _ _ _ _ us hl => match us, hl with | [_, _], _ => rfl
abbrev N_InvalidTriangles_init : List Str := ["self", "at"]
abbrev P_InvalidTriangles_init : List Str := ["self", "at"]
theorem sc_InvalidTriangles_init : FnScope N_InvalidTriangles_init P_InvalidTriangles_init (defScope (ini 4)) := ⟨rfl, rfl, rfl, by decide +kernel, rfl, by decide +kernel, by decide +kernel⟩
theorem st_InvalidTriangles_init (x0 : V) (x1 : V) : L2.start N_InvalidTriangles_init [x0, x1] = [some x0, some x1] := rfl
theorem b_InvalidTriangles_init {K : PySem.W.Frag} {mg : Str → Option Value} (T : Tops K mg) : Binds K T.fd_InvalidTriangles_init P_InvalidTriangles_init [] := T.F_InvalidTriangles_init.bindsN fun _ _ _ _ _ _ us hl => match us, hl with | [_, _], _ => rfl
abbrev N_Subdivision_init : List Str := ["self", "sites", "row", "site"]
abbrev P_Subdivision_init : List Str := ["self", "sites"]
theorem sc_Subdivision_init : FnScope N_Subdivision_init P_Subdivision_init (defScope (mth 29 0)) := ⟨rfl, rfl, rfl, by decide +kernel, rfl, by decide +kernel, by decide +kernel⟩
theorem st_Subdivision_init (x0 : V) (x1 : V) : L2.start N_Subdivision_init [x0, x1] = [some x0, some x1, none, none] := rfl
theorem b_Subdivision_init {K : PySem.W.Frag} {mg : Str → Option Value} (T : Tops K mg) : Binds K T.fd_Subdivision_init P_Subdivision_init [] := T.F_Subdivision_init.bindsN fun _ _ _ _ _ _ us hl => match us, hl with | [_, _], _ => rfl
abbrev N_Subdivision_pairs_joined : List Str := ["self", "found", "a", "b", "face"]
abbrev P_Subdivision_pairs_joined : List Str := ["self"]
theorem sc_Subdivision_pairs_joined : FnScope N_Subdivision_pairs_joined P_Subdivision_pairs_joined (defScope (mth 29 2)) := ⟨rfl, rfl, rfl, by decide +kernel, rfl, by decide +kernel, by decide +kernel⟩
theorem st_Subdivision_pairs_joined (x0 : V) : L2.start N_Subdivision_pairs_joined [x0] = [some x0, none, none, none, none] := rfl
theorem b_Subdivision_pairs_joined {K : PySem.W.Frag} {mg : Str → Option Value} (T : Tops K mg) : Binds K T.fd_Subdivision_pairs_joined P_Subdivision_pairs_joined [] := T.F_Subdivision_pairs_joined.bindsN fun _ _ _ _ _ _ us hl => match us, hl with | [_], _ => rfl
abbrev N_Desk_init : List Str := ["self"]
abbrev P_Desk_init : List Str := ["self"]
theorem sc_Desk_init : FnScope N_Desk_init P_Desk_init (defScope (mth 55 0)) := ⟨rfl, rfl, rfl, by decide +kernel, rfl, by decide +kernel, by decide +kernel⟩
theorem st_Desk_init (x0 : V) : L2.start N_Desk_init [x0] = [some x0] := rfl
theorem b_Desk_init {K : PySem.W.Frag} {mg : Str → Option Value} (T : Tops K mg) : Binds K T.fd_Desk_init P_Desk_init [] := T.F_Desk_init.bindsN fun _ _ _ _ _ _ us hl => match us, hl with | [_], _ => rfl
abbrev kt (K : PySem.W.Frag) (P : Program) (w : World) (W : List (Addr × Str)) (F : Int → Hp → Addr → Prop) : DL.Kt := ⟨K, F, P, w, W⟩

end NC
namespace NC
section
variable {P : Program} {w : World} {K : PySem.W.Frag} {mg : Str → Option Value} {base : Heap} {W : List (Addr × Str)} {F : Int → Hp → Addr → Prop}
theorem ok_InvalidSites_init (T : Tops K mg) : FnOk P w K mg base CX0 1 (He.ma K (He.ga K "InvalidSites") "__init__") T.fd_InvalidSites_init P_InvalidSites_init (NCLam.spInit (He.ga K "InvalidSites") "at") := by
  refine T.F_InvalidSites_init.ok sc_InvalidSites_init (fun vs H Q E h => ?_) (fun cdv A outer s H vs Q E hr h => ?_)
  · obtain ⟨a, v, rfl, ha, q⟩ := h
    rfl
  · obtain ⟨a, v, rfl, ha, q⟩ := h
    refine ⟨_, PSs.nox ((pss_cons (ps_expr (pe_ceinit T.B_CellError (by rfl) T.g_CellError (pa_cons (pv 0) (pa_cons pe_str pa_nil))))
       (pss_one (ps_osA (pv 0) (pv 1))))), ?_⟩
    rw [st_InvalidSites_init]
    walk_at "rd"
    refine ⟨a, He.ga K "InvalidSites", [V.str "invalid sites"], rfl, by decide, T.X_InvalidSites, ha, ?_⟩
    walk_at "rd"
    exact ⟨a, _, rfl, T.X_InvalidSites, T.n_InvalidSites_at, ha, fun dx nd ne => q dx nd ne⟩
theorem ok_InvalidBound_init (T : Tops K mg) : FnOk P w K mg base CX0 1 (He.ma K (He.ga K "InvalidBound") "__init__") T.fd_InvalidBound_init P_InvalidBound_init (NCLam.spInit (He.ga K "InvalidBound") "argument") := by
  refine T.F_InvalidBound_init.ok sc_InvalidBound_init (fun vs H Q E h => ?_) (fun cdv A outer s H vs Q E hr h => ?_)
  · obtain ⟨a, v, rfl, ha, q⟩ := h
    rfl
  · obtain ⟨a, v, rfl, ha, q⟩ := h
    refine ⟨_, PSs.nox ((pss_cons (ps_expr (pe_ceinit T.B_CellError (by rfl) T.g_CellError (pa_cons (pv 0) (pa_cons pe_str pa_nil))))
       (pss_one (ps_osA (pv 0) (pv 1))))), ?_⟩
    rw [st_InvalidBound_init]
    walk_at "rd"
    refine ⟨a, He.ga K "InvalidBound", [V.str "invalid bound"], rfl, by decide, T.X_InvalidBound, ha, ?_⟩
    walk_at "rd"
    exact ⟨a, _, rfl, T.X_InvalidBound, T.n_InvalidBound_argument, ha, fun dx nd ne => q dx nd ne⟩
theorem ok_InvalidTriangles_init (T : Tops K mg) : FnOk P w K mg base CX0 1 (He.ma K (He.ga K "InvalidTriangles") "__init__") T.fd_InvalidTriangles_init P_InvalidTriangles_init (NCLam.spInit (He.ga K "InvalidTriangles") "at") := by
  refine T.F_InvalidTriangles_init.ok sc_InvalidTriangles_init (fun vs H Q E h => ?_) (fun cdv A outer s H vs Q E hr h => ?_)
  · obtain ⟨a, v, rfl, ha, q⟩ := h
    rfl
  · obtain ⟨a, v, rfl, ha, q⟩ := h
    refine ⟨_, PSs.nox ((pss_cons (ps_expr (pe_ceinit T.B_CellError (by rfl) T.g_CellError (pa_cons (pv 0) (pa_cons pe_str pa_nil))))
       (pss_one (ps_osA (pv 0) (pv 1))))), ?_⟩
    rw [st_InvalidTriangles_init]
    walk_at "rd"
    refine ⟨a, He.ga K "InvalidTriangles", [V.str "invalid triangles"], rfl, by decide, T.X_InvalidTriangles, ha, ?_⟩
    walk_at "rd"
    exact ⟨a, _, rfl, T.X_InvalidTriangles, T.n_InvalidTriangles_at, ha, fun dx nd ne => q dx nd ne⟩

end

end NC
namespace NC
section
variable {P : Program} {w : World} {K : PySem.W.Frag} {mg : Str → Option Value} {base : Heap} {W : List (Addr × Str)} {F : Int → Hp → Addr → Prop}
def bod_is_integer : DL.M DL.Out := (DL.retM (DL.andV (DL.isiE .int (DL.vK 0)) (DL.notV (DL.isiE .bool (DL.vK 0)))))
def mir_is_integer : DL.Mir := DL.runB bod_is_integer 1
theorem ok_is_integer (T : Tops K mg) : FnOk P w K mg base CX0 1 (He.ga K "is_integer") T.fd_is_integer P_is_integer (DL.dSp (kt K P w W F) 1 mir_is_integer) := by
  refine T.F_is_integer.ok sc_is_integer (fun vs H Q E h => h.1) (fun cdv A outer s H vs Q E hr h => ?_)
  refine ⟨_, PSs.nox ((pss_one (ps_ret (pe_and (pe_callB (call_isiK0 K) (by rfl) T.m_isinstance (by decide +kernel) (pa_cons (pv 0) (pa_cons (pe_bltn (v := .ty (DL.Ty.nm .int)) rfl T.m_int (by decide +kernel) rfl) pa_nil))) (pe_one (pe_not (pe_callB (call_isiK0 K) (by rfl) T.m_isinstance (by decide +kernel) (pa_cons (pv 0) (pa_cons (pe_bltn (v := .ty (DL.Ty.nm .bool)) rfl T.m_bool (by decide +kernel) rfl) pa_nil))))))))), ?_⟩
  exact DL.body_ok (T := kt K P w W F) (E := E) (f := bod_is_integer) (N := N_is_integer) (n := 1) ((DL.ds_ret (DL.de_and (DL.de_isi .int (DL.dk_var 0)) (DL.de_not (DL.de_isi .bool (DL.dk_var 0)))))) (by decide) h

def bod_is_between : DL.M DL.Out := (DL.retM (DL.andV (DL.callE mir_is_integer (DL.consA (DL.vE 0) DL.nilA)) (DL.chn DL.opLe DL.opLe (DL.vK 1) (DL.vK 0) (DL.vK 2))))
def mir_is_between : DL.Mir := DL.runB bod_is_between 3
theorem ok_is_between (T : Tops K mg) : FnOk P w K mg base CX0 2 (He.ga K "is_between") T.fd_is_between P_is_between (DL.dSp (kt K P w W F) 3 mir_is_between) := by
  refine T.F_is_between.ok sc_is_between (fun vs H Q E h => h.1) (fun cdv A outer s H vs Q E hr h => ?_)
  refine ⟨_, PSs.nox ((pss_one (ps_ret (pe_and (pe_call (ok_is_integer (P := P) (w := w) (W := W) (F := F) T) (hr.mono (by decide)) (by rfl) T.g_is_integer T.F_is_integer.kp (b_is_integer T) .nil (DL.passE (E := E)) (pa_cons (pv 0) pa_nil)) (pe_one (pe_chain op_le op_le (pv 1) (pv 0) (pv 2))))))), ?_⟩
  exact DL.body_ok (T := kt K P w W F) (E := E) (f := bod_is_between) (N := N_is_between) (n := 3) ((DL.ds_ret (DL.de_and (DL.de_call (DL.da_cons (DL.de_var 0) DL.da_nil) (DL.len_cons DL.len_nil)) (DL.de_chain DL.os_le DL.os_le (DL.dk_var 1) (DL.dk_var 0) (DL.dk_var 2))))) (by decide) h

def bod_sign : DL.M DL.Out := (DL.retM (DL.op2 DL.opSub (DL.kE (DL.cbE DL.opInt (DL.consP (DL.kE (DL.op2 DL.opGt (DL.vK 0) (DL.kE (DL.cE (.int 0))))) DL.nilP))) (DL.kE (DL.cbE DL.opInt (DL.consP (DL.kE (DL.op2 DL.opLt (DL.vK 0) (DL.kE (DL.cE (.int 0))))) DL.nilP)))))
def mir_sign : DL.Mir := DL.runB bod_sign 1
theorem ok_sign (T : Tops K mg) : FnOk P w K mg base CX0 1 (He.ga K "sign") T.fd_sign P_sign (DL.dSp (kt K P w W F) 1 mir_sign) := by
  refine T.F_sign.ok sc_sign (fun vs H Q E h => h.1) (fun cdv A outer s H vs Q E hr h => ?_)
  refine ⟨_, PSs.nox ((pss_one (ps_ret (pe_op op_sub (pe_callTy call_intN (by rfl) T.m_int (by decide +kernel) (pa_cons (pe_cmpR op_gt (pv 0) pe_int (nomark _)) pa_nil)) (pe_callTy call_intN (by rfl) T.m_int (by decide +kernel) (pa_cons (pe_cmpR op_lt (pv 0) pe_int (nomark _)) pa_nil)))))), ?_⟩
  exact DL.body_ok (T := kt K P w W F) (E := E) (f := bod_sign) (N := N_sign) (n := 1) ((DL.ds_ret (DL.de_op DL.os_sub (DL.dk_of (DL.de_cb DL.cs_int (DL.dp_cons (DL.dk_of (DL.de_op DL.os_gt (DL.dk_var 0) (DL.dk_of (DL.de_c fun _ => .int 0)))) DL.dp_nil))) (DL.dk_of (DL.de_cb DL.cs_int (DL.dp_cons (DL.dk_of (DL.de_op DL.os_lt (DL.dk_var 0) (DL.dk_of (DL.de_c fun _ => .int 0)))) DL.dp_nil)))))) (by decide) h

def bod_is_site : DL.M DL.Out := (DL.seqM (DL.ifM (DL.orM (DL.notM (DL.trE (DL.kE (DL.isiE .tuple (DL.vK 0))))) (DL.tE (DL.op2 DL.opNe (DL.kE (DL.cbE DL.opLen (DL.consP (DL.vK 0) DL.nilP))) (DL.kE (DL.cE (.int 2))))))
 (DL.retM (DL.cE (.bool false)))
 DL.nxM)
 (DL.retM (DL.cbE DL.opAll (DL.consP (DL.kE (DL.lcE (DL.itE (DL.vE 0)) (DL.nmG 1) DL.yesM (DL.callE mir_is_between (DL.consA (DL.vE 1) (DL.consA (DL.op2 DL.opSub (DL.kE (DL.cE (.int 0))) (DL.kE (DL.cE (.int 1000000)))) (DL.consA (DL.cE (.int 1000000)) DL.nilA)))) [1])) DL.nilP))))
def mir_is_site : DL.Mir := DL.runB bod_is_site 2
theorem ok_is_site (T : Tops K mg) : FnOk P w K mg base CX0 3 (He.ga K "is_site") T.fd_is_site P_is_site (DL.dSp (kt K P w W F) 1 mir_is_site) := by
  refine T.F_is_site.ok sc_is_site (fun vs H Q E h => h.1) (fun cdv A outer s H vs Q E hr h => ?_)
  refine ⟨_, PSs.nox ((pss_cons (ps_if (PW.pt (pw_or (pt_not (pt_truth (pe_callB (call_isiK0 K) (by rfl) T.m_isinstance (by decide +kernel) (pa_cons (pv 0) (pa_cons (pe_bltn (v := .ty (DL.Ty.nm .tuple)) rfl T.m_tuple (by decide +kernel) rfl) pa_nil))) (by intro _; rfl))) (pw_or1 (pt_cmpR (DL.op_neU K hr.units) (pe_callB (DL.call_lenU K) (by rfl) T.m_len (by decide +kernel) (pa_cons (pv 0) pa_nil)) pe_int (nomark _)))))
       (pss_one (ps_ret pe_bl))
       pss_nil)
       (pss_one (ps_ret (pe_callB (cr_allK K rfl) (by rfl) T.m_all (by decide +kernel) (pa_cons (pe_lc (own := [("one", 1)]) (g := gName 1) (tt := tYes) rfl sc_is_site.nd (DL.pi_seq K (pv 0)) (blkOk_by (own := [("one", 1)]) (N := N_is_site) (sc := defScope (top 14)) (by decide +kernel)) (fun _ _ _ _ _ => (pg_name (i := 1) sc_is_site.nd rfl (.inl rfl))) (fun _ _ _ _ _ => pts_nil) (fun bs bH bC bcl bfp => (pe_call (ok_is_between (P := P) (w := w) (W := W) (F := F) T) (hr.mono (by decide)) (by rfl) T.g_is_between T.F_is_between.kp (b_is_between T) .nil (DL.passE (E := E)) (pa_cons (pv 1) (pa_cons (pe_op op_sub pe_int (pe_glob (v := .int 1000000) rfl T.c_MOST_COORDINATE ⟨_, rfl⟩)) (pa_cons (pe_glob (v := .int 1000000) rfl T.c_MOST_COORDINATE ⟨_, rfl⟩) pa_nil)))))) pa_nil)))))), ?_⟩
  exact DL.body_ok (T := kt K P w W F) (E := E) (f := bod_is_site) (N := N_is_site) (n := 1) ((DL.ds_seq (DL.ds_if (DL.dt_or (DL.dt_not (DL.dt_truth (DL.dk_of (DL.de_isi .tuple (DL.dk_var 0))))) (DL.dt_of' (DL.de_op DL.os_ne (DL.dk_of (DL.de_cb DL.cs_len (DL.dp_cons (DL.dk_var 0) DL.dp_nil))) (DL.dk_of (DL.de_c fun _ => .int 2)))))
       (DL.ds_ret (DL.de_c fun _ => .bl false))
       DL.ds_next)
       (DL.ds_ret (DL.de_cb DL.cs_all (DL.dp_cons (DL.dk_of (DL.de_lc (vs := [1]) (by decide) (DL.di_seq (DL.de_var 0)) (DL.dg_name 1) DL.dt_yes (DL.de_call (DL.da_cons (DL.de_var 1) (DL.da_cons (DL.de_op DL.os_sub (DL.dk_of (DL.de_c fun _ => .int 0)) (DL.dk_of (DL.de_c fun _ => .int 1000000))) (DL.da_cons (DL.de_c fun _ => .int 1000000) DL.da_nil))) (DL.len_cons (DL.len_cons (DL.len_cons DL.len_nil)))))) DL.dp_nil))))) (by decide) h

def bod_check_sites : DL.M DL.Out := (DL.seqM (DL.ifM (DL.notM (DL.trE (DL.kE (DL.isiE .list (DL.vK 0)))))
 (DL.raiseM 0 (DL.op1 DL.opNeg (DL.kE (DL.cE (.int 1)))))
 DL.nxM)
 (DL.seqM (DL.ifM (DL.tE (DL.op2 DL.opEq (DL.vK 0) (DL.kE (DL.lstE DL.nilA))))
 (DL.raiseM 0 (DL.cE (.int 0)))
 DL.nxM)
 (DL.seqM (DL.asgM 1 DL.dnewE)
 (DL.forM (DL.enumE (DL.consA (DL.slE (DL.vK 0) DL.noO (DL.someO (DL.kE (DL.op2 DL.opAdd (DL.kE (DL.cE (.int 200))) (DL.kE (DL.cE (.int 1))))))) DL.nilA)) (DL.unlG 2 (DL.consG (DL.nmG 2) (DL.consG (DL.nmG 3) DL.nilG)))
 (DL.seqM (DL.ifM (DL.orM (DL.tE (DL.op2 DL.opEq (DL.vK 2) (DL.kE (DL.cE (.int 200))))) (DL.orM (DL.notM (DL.trE (DL.kE (DL.callE mir_is_site (DL.consA (DL.vE 3) DL.nilA))))) (DL.tE (DL.xinE false 1 (DL.vK 3)))))
 (DL.raiseM 0 (DL.vE 2))
 DL.nxM)
 (DL.xputM 1 (DL.vK 3) (DL.cE (.bool true))))))))
def mir_check_sites : DL.Mir := DL.runB bod_check_sites 4
theorem okx_check_sites (T : Tops K mg) : FnOk P w K mg base (L2.CX P w) 4 (He.ga K "check_sites") T.fd_check_sites P_check_sites (DL.dSp (kt K P w W F) 1 mir_check_sites) := by
  refine T.F_check_sites.ok sc_check_sites (fun vs H Q E h => h.1) (fun cdv A outer s H vs Q E hr h => ?_)
  refine ⟨_, (pss_cons (ps_if (pt_not (pt_truth (pe_callB (call_isiK0 K) (by rfl) T.m_isinstance (by decide +kernel) (pa_cons (pv 0) (pa_cons (pe_bltn (v := .ty (DL.Ty.nm .list)) rfl T.m_list (by decide +kernel) rfl) pa_nil))) (by intro _; rfl)))
       (pss_one (ps_raise rfl (takes_of rfl rfl rfl rfl) (pmk_oexA T.X_InvalidSites T.i_InvalidSites T.t_InvalidSites (ok_InvalidSites_init T) (hr.mono (by decide)) (b_InvalidSites_init T) pass0 (by rfl) T.g_InvalidSites (pa_cons (pe_un un_neg pe_int) pa_nil))))
       pss_nil)
       (pss_cons (ps_if (pt_cmpR (DL.op_eqU K hr.units) (pv 0) (pe_lst pa_nil) (nomark _))
       (pss_one (ps_raise rfl (takes_of rfl rfl rfl rfl) (pmk_oexA T.X_InvalidSites T.i_InvalidSites T.t_InvalidSites (ok_InvalidSites_init T) (hr.mono (by decide)) (b_InvalidSites_init T) pass0 (by rfl) T.g_InvalidSites (pa_cons pe_int pa_nil))))
       pss_nil)
       (pss_cons (ps_set (i := 1) sc_check_sites.nd rfl (.inl rfl) (DL.pe_dnewX (T := kt K P w W F)))
       (pss_one (ps_for (passes_of rfl) rfl (pi_enum (by rfl) T.m_enumerate (pa_cons (pe_slice (DL.sl_U K) (pv 0) po_none (po_some (pe_op (DL.op_addU K) (pe_glob (v := .int 200) rfl T.c_MOST_SITES ⟨_, rfl⟩) pe_int))) pa_nil)) (DL.pg_sq K rfl (pgs_cons (pg_name (i := 2) sc_check_sites.nd rfl (.inl rfl)) (pgs_cons (pg_name (i := 3) sc_check_sites.nd rfl (.inl rfl)) pgs_nil)))
       (pss_cons (ps_if (PW.pt (pw_or (pt_cmpR (DL.op_eqU K hr.units) (pv 2) (pe_glob (v := .int 200) rfl T.c_MOST_SITES ⟨_, rfl⟩) (nomark _)) (pw_or (pt_not (pt_truth (pe_call (ok_is_site (P := P) (w := w) (W := W) (F := F) T) (hr.mono (by decide)) (by rfl) T.g_is_site T.F_is_site.kp (b_is_site T) .nil (DL.passE (E := E)) (pa_cons (pv 3) pa_nil)) (by intro _; rfl))) (pw_or1 (pt_cmp (DL.pc_xin (T := kt K P w W F) hr.units (pv 3) (pv 1)) rfl)))))
       (pss_one (ps_raise rfl (takes_of rfl rfl rfl rfl) (pmk_oexA T.X_InvalidSites T.i_InvalidSites T.t_InvalidSites (ok_InvalidSites_init T) (hr.mono (by decide)) (b_InvalidSites_init T) pass0 (by rfl) T.g_InvalidSites (pa_cons (pv 2) pa_nil))))
       pss_nil)
       (pss_one (DL.ps_xput (T := kt K P w W F) hr.units (pv 1) (pv 3) pe_bl rfl)))))))), ?_⟩
  exact DL.body_ok (T := kt K P w W F) (E := E) (f := bod_check_sites) (N := N_check_sites) (n := 1) ((DL.ds_seq (DL.ds_if (DL.dt_not (DL.dt_truth (DL.dk_of (DL.de_isi .list (DL.dk_var 0)))))
       (DL.ds_raise 0 (DL.de_neg (DL.dk_of (DL.de_c fun _ => .int 1))))
       DL.ds_next)
       (DL.ds_seq (DL.ds_if (DL.dt_of' (DL.de_op DL.os_eq (DL.dk_var 0) (DL.dk_of (DL.de_lst DL.da_nil))))
       (DL.ds_raise 0 (DL.de_c fun _ => .int 0))
       DL.ds_next)
       (DL.ds_seq (DL.ds_asg 1 DL.de_dnew)
       (DL.ds_for (DL.di_enum (DL.da_cons (DL.de_sl (DL.dk_var 0) DL.do_none (DL.do_some (DL.dk_of (DL.de_op DL.os_add (DL.dk_of (DL.de_c fun _ => .int 200)) (DL.dk_of (DL.de_c fun _ => .int 1)))))) DL.da_nil)) (DL.dg_sq (n := 2) (DL.dgs_cons (DL.dg_name 2) (DL.dgs_cons (DL.dg_name 3) DL.dgs_nil)))
       (DL.ds_seq (DL.ds_if (DL.dt_or (DL.dt_of' (DL.de_op DL.os_eq (DL.dk_var 2) (DL.dk_of (DL.de_c fun _ => .int 200)))) (DL.dt_or (DL.dt_not (DL.dt_truth (DL.dk_of (DL.de_call (DL.da_cons (DL.de_var 3) DL.da_nil) (DL.len_cons DL.len_nil))))) (DL.dt_of (DL.de_xin false 1 (DL.dk_var 3)))))
       (DL.ds_raise 0 (DL.de_var 2))
       DL.ds_next)
       (DL.ds_xput 1 (DL.de_c fun _ => .bl true) (DL.dk_var 3)))))))) (by decide) h

def bod_turn : DL.M DL.Out := (DL.retM (DL.op2 DL.opSub (DL.kE (DL.op2 DL.opMul (DL.kE (DL.op2 DL.opSub (DL.kE (DL.op2 DL.opIx (DL.vK 1) (DL.kE (DL.cE (.int 0))))) (DL.kE (DL.op2 DL.opIx (DL.vK 0) (DL.kE (DL.cE (.int 0))))))) (DL.kE (DL.op2 DL.opSub (DL.kE (DL.op2 DL.opIx (DL.vK 2) (DL.kE (DL.cE (.int 1))))) (DL.kE (DL.op2 DL.opIx (DL.vK 0) (DL.kE (DL.cE (.int 1))))))))) (DL.kE (DL.op2 DL.opMul (DL.kE (DL.op2 DL.opSub (DL.kE (DL.op2 DL.opIx (DL.vK 1) (DL.kE (DL.cE (.int 1))))) (DL.kE (DL.op2 DL.opIx (DL.vK 0) (DL.kE (DL.cE (.int 1))))))) (DL.kE (DL.op2 DL.opSub (DL.kE (DL.op2 DL.opIx (DL.vK 2) (DL.kE (DL.cE (.int 0))))) (DL.kE (DL.op2 DL.opIx (DL.vK 0) (DL.kE (DL.cE (.int 0)))))))))))
def mir_turn : DL.Mir := DL.runB bod_turn 3
theorem ok_turn (T : Tops K mg) : FnOk P w K mg base CX0 1 (He.ga K "turn") T.fd_turn P_turn (DL.dSp (kt K P w W F) 3 mir_turn) := by
  refine T.F_turn.ok sc_turn (fun vs H Q E h => h.1) (fun cdv A outer s H vs Q E hr h => ?_)
  refine ⟨_, PSs.nox ((pss_one (ps_ret (pe_op op_sub (pe_op DL.op_mulU (pe_op op_sub (pe_ix (DL.ix_U K) (pv 1) pe_int (fun _ _ => rfl)) (pe_ix (DL.ix_U K) (pv 0) pe_int (fun _ _ => rfl))) (pe_op op_sub (pe_ix (DL.ix_U K) (pv 2) pe_int (fun _ _ => rfl)) (pe_ix (DL.ix_U K) (pv 0) pe_int (fun _ _ => rfl)))) (pe_op DL.op_mulU (pe_op op_sub (pe_ix (DL.ix_U K) (pv 1) pe_int (fun _ _ => rfl)) (pe_ix (DL.ix_U K) (pv 0) pe_int (fun _ _ => rfl))) (pe_op op_sub (pe_ix (DL.ix_U K) (pv 2) pe_int (fun _ _ => rfl)) (pe_ix (DL.ix_U K) (pv 0) pe_int (fun _ _ => rfl)))))))), ?_⟩
  exact DL.body_ok (T := kt K P w W F) (E := E) (f := bod_turn) (N := N_turn) (n := 3) ((DL.ds_ret (DL.de_op DL.os_sub (DL.dk_of (DL.de_op DL.os_mul (DL.dk_of (DL.de_op DL.os_sub (DL.dk_of (DL.de_op DL.os_ix (DL.dk_var 1) (DL.dk_of (DL.de_c fun _ => .int 0)))) (DL.dk_of (DL.de_op DL.os_ix (DL.dk_var 0) (DL.dk_of (DL.de_c fun _ => .int 0)))))) (DL.dk_of (DL.de_op DL.os_sub (DL.dk_of (DL.de_op DL.os_ix (DL.dk_var 2) (DL.dk_of (DL.de_c fun _ => .int 1)))) (DL.dk_of (DL.de_op DL.os_ix (DL.dk_var 0) (DL.dk_of (DL.de_c fun _ => .int 1)))))))) (DL.dk_of (DL.de_op DL.os_mul (DL.dk_of (DL.de_op DL.os_sub (DL.dk_of (DL.de_op DL.os_ix (DL.dk_var 1) (DL.dk_of (DL.de_c fun _ => .int 1)))) (DL.dk_of (DL.de_op DL.os_ix (DL.dk_var 0) (DL.dk_of (DL.de_c fun _ => .int 1)))))) (DL.dk_of (DL.de_op DL.os_sub (DL.dk_of (DL.de_op DL.os_ix (DL.dk_var 2) (DL.dk_of (DL.de_c fun _ => .int 0)))) (DL.dk_of (DL.de_op DL.os_ix (DL.dk_var 0) (DL.dk_of (DL.de_c fun _ => .int 0))))))))))) (by decide) h

def bod_power : DL.M DL.Out := (DL.seqM (DL.asgM 4 (DL.lcE (DL.itE (DL.tupE (DL.consA (DL.vE 0) (DL.consA (DL.vE 1) (DL.consA (DL.vE 2) DL.nilA))))) (DL.nmG 12) DL.yesM (DL.tupE (DL.consA (DL.op2 DL.opSub (DL.kE (DL.op2 DL.opIx (DL.vK 12) (DL.kE (DL.cE (.int 0))))) (DL.kE (DL.op2 DL.opIx (DL.vK 3) (DL.kE (DL.cE (.int 0)))))) (DL.consA (DL.op2 DL.opSub (DL.kE (DL.op2 DL.opIx (DL.vK 12) (DL.kE (DL.cE (.int 1))))) (DL.kE (DL.op2 DL.opIx (DL.vK 3) (DL.kE (DL.cE (.int 1)))))) DL.nilA))) [12]))
 (DL.seqM (DL.asgT (DL.unlG 3 (DL.consG (DL.unlG 2 (DL.consG (DL.nmG 5) (DL.consG (DL.nmG 6) DL.nilG))) (DL.consG (DL.unlG 2 (DL.consG (DL.nmG 7) (DL.consG (DL.nmG 8) DL.nilG))) (DL.consG (DL.unlG 2 (DL.consG (DL.nmG 9) (DL.consG (DL.nmG 10) DL.nilG))) DL.nilG)))) (DL.vE 4))
 (DL.seqM (DL.asgM 11 (DL.lcE (DL.itE (DL.vE 4)) (DL.unlG 2 (DL.consG (DL.nmG 13) (DL.consG (DL.nmG 14) DL.nilG))) DL.yesM (DL.op2 DL.opAdd (DL.kE (DL.op2 DL.opMul (DL.vK 13) (DL.vK 13))) (DL.kE (DL.op2 DL.opMul (DL.vK 14) (DL.vK 14)))) [13, 14]))
 (DL.retM (DL.op2 DL.opAdd (DL.kE (DL.op2 DL.opSub (DL.kE (DL.op2 DL.opMul (DL.kE (DL.op2 DL.opIx (DL.vK 11) (DL.kE (DL.cE (.int 0))))) (DL.kE (DL.op2 DL.opSub (DL.kE (DL.op2 DL.opMul (DL.vK 7) (DL.vK 10))) (DL.kE (DL.op2 DL.opMul (DL.vK 9) (DL.vK 8))))))) (DL.kE (DL.op2 DL.opMul (DL.kE (DL.op2 DL.opIx (DL.vK 11) (DL.kE (DL.cE (.int 1))))) (DL.kE (DL.op2 DL.opSub (DL.kE (DL.op2 DL.opMul (DL.vK 5) (DL.vK 10))) (DL.kE (DL.op2 DL.opMul (DL.vK 9) (DL.vK 6))))))))) (DL.kE (DL.op2 DL.opMul (DL.kE (DL.op2 DL.opIx (DL.vK 11) (DL.kE (DL.cE (.int 2))))) (DL.kE (DL.op2 DL.opSub (DL.kE (DL.op2 DL.opMul (DL.vK 5) (DL.vK 8))) (DL.kE (DL.op2 DL.opMul (DL.vK 7) (DL.vK 6))))))))))))
def mir_power : DL.Mir := DL.runB bod_power 15
theorem ok_power (T : Tops K mg) : FnOk P w K mg base CX0 1 (He.ga K "power") T.fd_power P_power (DL.dSp (kt K P w W F) 4 mir_power) := by
  refine T.F_power.ok sc_power (fun vs H Q E h => h.1) (fun cdv A outer s H vs Q E hr h => ?_)
  refine ⟨_, PSs.nox ((pss_cons (ps_setLc (i := 4) (own := [("one", 12)]) (g := gName 12) (tt := tYes) rfl sc_power.nd rfl rfl (sw_true rfl rfl rfl (by decide +kernel)) (DL.pi_seq K (pe_tup (pa_cons (pv 0) (pa_cons (pv 1) (pa_cons (pv 2) pa_nil))))) (blkOk_by (own := [("one", 12)]) (N := N_power) (sc := defScope (top 19)) (by decide +kernel)) (fun _ _ _ _ _ => (pg_name (i := 12) sc_power.nd rfl (.inl rfl))) (fun _ _ _ _ _ => pts_nil) (fun bs bH bC bcl bfp => (pe_tup (pa_cons (pe_op op_sub (pe_ix (DL.ix_U K) (pv 12) pe_int (fun _ _ => rfl)) (pe_ix (DL.ix_U K) (pv 3) pe_int (fun _ _ => rfl))) (pa_cons (pe_op op_sub (pe_ix (DL.ix_U K) (pv 12) pe_int (fun _ _ => rfl)) (pe_ix (DL.ix_U K) (pv 3) pe_int (fun _ _ => rfl))) pa_nil)))))
       (pss_cons (ps_asg (pv 4) (DL.pg_sq K rfl (pgs_cons (DL.pg_sq K rfl (pgs_cons (pg_name (i := 5) sc_power.nd rfl (.inl rfl)) (pgs_cons (pg_name (i := 6) sc_power.nd rfl (.inl rfl)) pgs_nil))) (pgs_cons (DL.pg_sq K rfl (pgs_cons (pg_name (i := 7) sc_power.nd rfl (.inl rfl)) (pgs_cons (pg_name (i := 8) sc_power.nd rfl (.inl rfl)) pgs_nil))) (pgs_cons (DL.pg_sq K rfl (pgs_cons (pg_name (i := 9) sc_power.nd rfl (.inl rfl)) (pgs_cons (pg_name (i := 10) sc_power.nd rfl (.inl rfl)) pgs_nil))) pgs_nil)))))
       (pss_cons (ps_setLc (i := 11) (own := [("x", 13), ("y", 14)]) (g := DL.gSq K 2 (gCons (gName 13) (gCons (gName 14) gNil))) (tt := tYes) rfl sc_power.nd rfl rfl (sw_true rfl rfl rfl (by decide +kernel)) (DL.pi_seq K (pv 4)) (blkOk_by (own := [("x", 13), ("y", 14)]) (N := N_power) (sc := defScope (top 19)) (by decide +kernel)) (fun _ _ _ _ _ => (by exact (DL.pg_sq K rfl (pgs_cons (pg_name (i := 13) sc_power.nd rfl (.inl rfl)) (pgs_cons (pg_name (i := 14) sc_power.nd rfl (.inl rfl)) pgs_nil))))) (fun _ _ _ _ _ => pts_nil) (fun bs bH bC bcl bfp => (pe_op (DL.op_addU K) (pe_op DL.op_mulU (pv 13) (pv 13)) (pe_op DL.op_mulU (pv 14) (pv 14)))))
       (pss_one (ps_ret (pe_op (DL.op_addU K) (pe_op op_sub (pe_op DL.op_mulU (pe_ix (DL.ix_U K) (pv 11) pe_int (fun _ _ => rfl)) (pe_op op_sub (pe_op DL.op_mulU (pv 7) (pv 10)) (pe_op DL.op_mulU (pv 9) (pv 8)))) (pe_op DL.op_mulU (pe_ix (DL.ix_U K) (pv 11) pe_int (fun _ _ => rfl)) (pe_op op_sub (pe_op DL.op_mulU (pv 5) (pv 10)) (pe_op DL.op_mulU (pv 9) (pv 6))))) (pe_op DL.op_mulU (pe_ix (DL.ix_U K) (pv 11) pe_int (fun _ _ => rfl)) (pe_op op_sub (pe_op DL.op_mulU (pv 5) (pv 8)) (pe_op DL.op_mulU (pv 7) (pv 6))))))))))), ?_⟩
  exact DL.body_ok (T := kt K P w W F) (E := E) (f := bod_power) (N := N_power) (n := 4) ((DL.ds_seq (DL.ds_asg 4 (DL.de_lc (vs := [12]) (by decide) (DL.di_seq (DL.de_tup (DL.da_cons (DL.de_var 0) (DL.da_cons (DL.de_var 1) (DL.da_cons (DL.de_var 2) DL.da_nil))))) (DL.dg_name 12) DL.dt_yes (DL.de_tup (DL.da_cons (DL.de_op DL.os_sub (DL.dk_of (DL.de_op DL.os_ix (DL.dk_var 12) (DL.dk_of (DL.de_c fun _ => .int 0)))) (DL.dk_of (DL.de_op DL.os_ix (DL.dk_var 3) (DL.dk_of (DL.de_c fun _ => .int 0))))) (DL.da_cons (DL.de_op DL.os_sub (DL.dk_of (DL.de_op DL.os_ix (DL.dk_var 12) (DL.dk_of (DL.de_c fun _ => .int 1)))) (DL.dk_of (DL.de_op DL.os_ix (DL.dk_var 3) (DL.dk_of (DL.de_c fun _ => .int 1))))) DL.da_nil)))))
       (DL.ds_seq (DL.ds_asgT (DL.de_var 4) (DL.dg_sq (n := 3) (DL.dgs_cons (DL.dg_sq (n := 2) (DL.dgs_cons (DL.dg_name 5) (DL.dgs_cons (DL.dg_name 6) DL.dgs_nil))) (DL.dgs_cons (DL.dg_sq (n := 2) (DL.dgs_cons (DL.dg_name 7) (DL.dgs_cons (DL.dg_name 8) DL.dgs_nil))) (DL.dgs_cons (DL.dg_sq (n := 2) (DL.dgs_cons (DL.dg_name 9) (DL.dgs_cons (DL.dg_name 10) DL.dgs_nil))) DL.dgs_nil)))))
       (DL.ds_seq (DL.ds_asg 11 (DL.de_lc (vs := [13, 14]) (by decide) (DL.di_seq (DL.de_var 4)) (DL.dg_sq (n := 2) (DL.dgs_cons (DL.dg_name 13) (DL.dgs_cons (DL.dg_name 14) DL.dgs_nil))) DL.dt_yes (DL.de_op DL.os_add (DL.dk_of (DL.de_op DL.os_mul (DL.dk_var 13) (DL.dk_var 13))) (DL.dk_of (DL.de_op DL.os_mul (DL.dk_var 14) (DL.dk_var 14))))))
       (DL.ds_ret (DL.de_op DL.os_add (DL.dk_of (DL.de_op DL.os_sub (DL.dk_of (DL.de_op DL.os_mul (DL.dk_of (DL.de_op DL.os_ix (DL.dk_var 11) (DL.dk_of (DL.de_c fun _ => .int 0)))) (DL.dk_of (DL.de_op DL.os_sub (DL.dk_of (DL.de_op DL.os_mul (DL.dk_var 7) (DL.dk_var 10))) (DL.dk_of (DL.de_op DL.os_mul (DL.dk_var 9) (DL.dk_var 8))))))) (DL.dk_of (DL.de_op DL.os_mul (DL.dk_of (DL.de_op DL.os_ix (DL.dk_var 11) (DL.dk_of (DL.de_c fun _ => .int 1)))) (DL.dk_of (DL.de_op DL.os_sub (DL.dk_of (DL.de_op DL.os_mul (DL.dk_var 5) (DL.dk_var 10))) (DL.dk_of (DL.de_op DL.os_mul (DL.dk_var 9) (DL.dk_var 6))))))))) (DL.dk_of (DL.de_op DL.os_mul (DL.dk_of (DL.de_op DL.os_ix (DL.dk_var 11) (DL.dk_of (DL.de_c fun _ => .int 2)))) (DL.dk_of (DL.de_op DL.os_sub (DL.dk_of (DL.de_op DL.os_mul (DL.dk_var 5) (DL.dk_var 8))) (DL.dk_of (DL.de_op DL.os_mul (DL.dk_var 7) (DL.dk_var 6))))))))))))) (by decide) h

def bod_inside : DL.M DL.Out := (DL.retM (DL.op2 DL.opMul (DL.kE (DL.callE mir_sign (DL.consA (DL.callE mir_power (DL.consA (DL.vE 0) (DL.consA (DL.vE 1) (DL.consA (DL.vE 2) (DL.consA (DL.vE 3) DL.nilA))))) DL.nilA))) (DL.kE (DL.callE mir_sign (DL.consA (DL.callE mir_turn (DL.consA (DL.vE 0) (DL.consA (DL.vE 1) (DL.consA (DL.vE 2) DL.nilA)))) DL.nilA)))))
def mir_inside : DL.Mir := DL.runB bod_inside 4
theorem ok_inside (T : Tops K mg) : FnOk P w K mg base CX0 2 (He.ga K "inside") T.fd_inside P_inside (DL.dSp (kt K P w W F) 4 mir_inside) := by
  refine T.F_inside.ok sc_inside (fun vs H Q E h => h.1) (fun cdv A outer s H vs Q E hr h => ?_)
  refine ⟨_, PSs.nox ((pss_one (ps_ret (pe_op DL.op_mulU (pe_call (ok_sign (P := P) (w := w) (W := W) (F := F) T) (hr.mono (by decide)) (by rfl) T.g_sign T.F_sign.kp (b_sign T) .nil (DL.passE (E := E)) (pa_cons (pe_call (ok_power (P := P) (w := w) (W := W) (F := F) T) (hr.mono (by decide)) (by rfl) T.g_power T.F_power.kp (b_power T) .nil (DL.passE (E := E)) (pa_cons (pv 0) (pa_cons (pv 1) (pa_cons (pv 2) (pa_cons (pv 3) pa_nil))))) pa_nil)) (pe_call (ok_sign (P := P) (w := w) (W := W) (F := F) T) (hr.mono (by decide)) (by rfl) T.g_sign T.F_sign.kp (b_sign T) .nil (DL.passE (E := E)) (pa_cons (pe_call (ok_turn (P := P) (w := w) (W := W) (F := F) T) (hr.mono (by decide)) (by rfl) T.g_turn T.F_turn.kp (b_turn T) .nil (DL.passE (E := E)) (pa_cons (pv 0) (pa_cons (pv 1) (pa_cons (pv 2) pa_nil)))) pa_nil)))))), ?_⟩
  exact DL.body_ok (T := kt K P w W F) (E := E) (f := bod_inside) (N := N_inside) (n := 4) ((DL.ds_ret (DL.de_op DL.os_mul (DL.dk_of (DL.de_call (DL.da_cons (DL.de_call (DL.da_cons (DL.de_var 0) (DL.da_cons (DL.de_var 1) (DL.da_cons (DL.de_var 2) (DL.da_cons (DL.de_var 3) DL.da_nil)))) (DL.len_cons (DL.len_cons (DL.len_cons (DL.len_cons DL.len_nil))))) DL.da_nil) (DL.len_cons DL.len_nil))) (DL.dk_of (DL.de_call (DL.da_cons (DL.de_call (DL.da_cons (DL.de_var 0) (DL.da_cons (DL.de_var 1) (DL.da_cons (DL.de_var 2) DL.da_nil))) (DL.len_cons (DL.len_cons (DL.len_cons DL.len_nil)))) DL.da_nil) (DL.len_cons DL.len_nil)))))) (by decide) h

end

end NC
namespace NC
section
variable {P : Program} {w : World} {K : PySem.W.Frag} {mg : Str → Option Value} {base : Heap} {W : List (Addr × Str)} {F : Int → Hp → Addr → Prop}
def bod_chain_of : DL.M DL.Out := (DL.seqM (DL.asgM 1 (DL.lstE DL.nilA))
 (DL.seqM (DL.forM (DL.itE (DL.vE 0)) (DL.nmG 2)
 (DL.seqM (DL.whlM (fun _ => 1000000) (DL.andM (DL.tE (DL.op2 DL.opGt (DL.kE (DL.cbE DL.opLen (DL.consP (DL.vK 1) DL.nilP))) (DL.kE (DL.cE (.int 1))))) (DL.tE (DL.op2 DL.opLt (DL.kE (DL.callE mir_turn (DL.consA (DL.op2 DL.opIx (DL.vK 1) (DL.kE (DL.op1 DL.opNeg (DL.kE (DL.cE (.int 2)))))) (DL.consA (DL.op2 DL.opIx (DL.vK 1) (DL.kE (DL.op1 DL.opNeg (DL.kE (DL.cE (.int 1)))))) (DL.consA (DL.vE 2) DL.nilA))))) (DL.kE (DL.cE (.int 0))))))
 (DL.dropM (DL.popE 1)))
 (DL.dropM (DL.mtE DL.opAppend 1 (DL.vE 2)))))
 (DL.retM (DL.vM 1))))
def mir_chain_of : DL.Mir := DL.runB bod_chain_of 3
theorem ok_chain_of (T : Tops K mg) : FnOk P w K mg base CX0 2 (He.ga K "chain_of") T.fd_chain_of P_chain_of (DL.dSp (kt K P w W F) 1 mir_chain_of) := by
  refine T.F_chain_of.ok sc_chain_of (fun vs H Q E h => h.1) (fun cdv A outer s H vs Q E hr h => ?_)
  refine ⟨_, PSs.nox ((pss_cons (ps_set (i := 1) sc_chain_of.nd rfl (.inl rfl) (pe_lst pa_nil))
       (pss_cons (ps_for PassesOwn.never rfl (DL.pi_seq K (pv 0)) (pg_name (i := 2) sc_chain_of.nd rfl (.inl rfl))
       (pss_cons (ps_while PassesOwn.never (PW.pt (pw_and (pt_cmpR op_gt (pe_callB (DL.call_lenU K) (by rfl) T.m_len (by decide +kernel) (pa_cons (pv 1) pa_nil)) pe_int (nomark _)) (pw_and1 (pt_cmpR op_lt (pe_call (ok_turn (P := P) (w := w) (W := W) (F := F) T) (hr.mono (by decide)) (by rfl) T.g_turn T.F_turn.kp (b_turn T) .nil (DL.passE (E := E)) (pa_cons (pe_ix (DL.ix_U K) (pv 1) (pe_un un_neg pe_int) (fun _ _ => rfl)) (pa_cons (pe_ix (DL.ix_U K) (pv 1) (pe_un un_neg pe_int) (fun _ _ => rfl)) (pa_cons (pv 2) pa_nil)))) pe_int (nomark _)))))
       (pss_one (ps_expr (pe_bm0 PySem.F.plainAttrs_list PySem.F.slot_list_pop PySem.F.type_list_pop mt_pop (pv 1)))))
       (pss_one (ps_expr (pe_bm PySem.F.plainAttrs_list PySem.F.slot_list_append PySem.F.type_list_append mt_append (pv 1) (pa_cons (pv 2) pa_nil))))))
       (pss_one (ps_ret (pv 1)))))), ?_⟩
  exact DL.body_ok (T := kt K P w W F) (E := E) (f := bod_chain_of) (N := N_chain_of) (n := 1) ((DL.ds_seq (DL.ds_asg 1 (DL.de_lst DL.da_nil))
       (DL.ds_seq (DL.ds_for (DL.di_seq (DL.de_var 0)) (DL.dg_name 2)
       (DL.ds_seq (DL.ds_while (fun _ => 1000000) (DL.dt_and (DL.dt_of' (DL.de_op DL.os_gt (DL.dk_of (DL.de_cb DL.cs_len (DL.dp_cons (DL.dk_var 1) DL.dp_nil))) (DL.dk_of (DL.de_c fun _ => .int 1)))) (DL.dt_of' (DL.de_op DL.os_lt (DL.dk_of (DL.de_call (DL.da_cons (DL.de_op DL.os_ix (DL.dk_var 1) (DL.dk_of (DL.de_neg (DL.dk_of (DL.de_c fun _ => .int 2))))) (DL.da_cons (DL.de_op DL.os_ix (DL.dk_var 1) (DL.dk_of (DL.de_neg (DL.dk_of (DL.de_c fun _ => .int 1))))) (DL.da_cons (DL.de_var 2) DL.da_nil))) (DL.len_cons (DL.len_cons (DL.len_cons DL.len_nil))))) (DL.dk_of (DL.de_c fun _ => .int 0)))))
       (DL.ds_drop (DL.de_pop 1)))
       (DL.ds_drop (DL.de_mt 1 DL.ms_append (DL.de_var 2)))))
       (DL.ds_ret (DL.de_move 1))))) (by decide) h

def bod_border_of : DL.M DL.Out := (DL.seqM (DL.parM 1 2 (DL.consV (DL.callE mir_chain_of (DL.consA (DL.vE 0) DL.nilA)) (DL.consV (DL.callE mir_chain_of (DL.consA (DL.op1 DL.opRv (DL.vK 0)) DL.nilA)) DL.nilV)))
 (DL.seqM (DL.ifM (DL.andM (DL.tE (DL.op2 DL.opEq (DL.kE (DL.cbE DL.opLen (DL.consP (DL.vK 1) DL.nilP))) (DL.kE (DL.cbE DL.opLen (DL.consP (DL.vK 0) DL.nilP))))) (DL.tE (DL.op2 DL.opEq (DL.vK 1) (DL.kE (DL.op1 DL.opRv (DL.vK 2))))))
 (DL.retM (DL.vM 0))
 DL.nxM)
 (DL.retM (DL.op2 DL.opAdd (DL.kE (DL.slE (DL.vK 1) DL.noO (DL.someO (DL.kE (DL.op1 DL.opNeg (DL.kE (DL.cE (.int 1)))))))) (DL.kE (DL.slE (DL.vK 2) DL.noO (DL.someO (DL.kE (DL.op1 DL.opNeg (DL.kE (DL.cE (.int 1))))))))))))
def mir_border_of : DL.Mir := DL.runB bod_border_of 3
theorem ok_border_of (T : Tops K mg) : FnOk P w K mg base CX0 3 (He.ga K "border_of") T.fd_border_of P_border_of (DL.dSp (kt K P w W F) 1 mir_border_of) := by
  refine T.F_border_of.ok sc_border_of (fun vs H Q E h => h.1) (fun cdv A outer s H vs Q E hr h => ?_)
  refine ⟨_, PSs.nox ((pss_cons (ps_par (i := 1) (j := 2) (by rfl) sc_border_of.nd rfl rfl (by decide) rfl rfl (pa_cons (pe_call (ok_chain_of (P := P) (w := w) (W := W) (F := F) T) (hr.mono (by decide)) (by rfl) T.g_chain_of T.F_chain_of.kp (b_chain_of T) .nil (DL.passE (E := E)) (pa_cons (pv 0) pa_nil)) (pa_cons (pe_call (ok_chain_of (P := P) (w := w) (W := W) (F := F) T) (hr.mono (by decide)) (by rfl) T.g_chain_of T.F_chain_of.kp (b_chain_of T) .nil (DL.passE (E := E)) (pa_cons (NCNest.pe_rv (pv 0)) pa_nil)) pa_nil)) (by rfl))
       (pss_cons (ps_if (PW.pt (pw_and (pt_cmpR (DL.op_eqU K hr.units) (pe_callB (DL.call_lenU K) (by rfl) T.m_len (by decide +kernel) (pa_cons (pv 1) pa_nil)) (pe_callB (DL.call_lenU K) (by rfl) T.m_len (by decide +kernel) (pa_cons (pv 0) pa_nil)) (nomark _)) (pw_and1 (pt_cmpR (DL.op_eqU K hr.units) (pv 1) (NCNest.pe_rv (pv 2)) (nomark _)))))
       (pss_one (ps_ret (pv 0)))
       pss_nil)
       (pss_one (ps_ret (pe_op (DL.op_addU K) (pe_slice (DL.sl_U K) (pv 1) po_none (po_some (pe_un un_neg pe_int))) (pe_slice (DL.sl_U K) (pv 2) po_none (po_some (pe_un un_neg pe_int))))))))), ?_⟩
  exact DL.body_ok (T := kt K P w W F) (E := E) (f := bod_border_of) (N := N_border_of) (n := 1) ((DL.ds_seq (DL.ds_par 1 2 (DL.dv_cons (DL.de_call (DL.da_cons (DL.de_var 0) DL.da_nil) (DL.len_cons DL.len_nil)) (DL.dv_cons (DL.de_call (DL.da_cons (DL.de_rv (DL.dk_var 0)) DL.da_nil) (DL.len_cons DL.len_nil)) DL.dv_nil)))
       (DL.ds_seq (DL.ds_if (DL.dt_and (DL.dt_of' (DL.de_op DL.os_eq (DL.dk_of (DL.de_cb DL.cs_len (DL.dp_cons (DL.dk_var 1) DL.dp_nil))) (DL.dk_of (DL.de_cb DL.cs_len (DL.dp_cons (DL.dk_var 0) DL.dp_nil))))) (DL.dt_of' (DL.de_op DL.os_eq (DL.dk_var 1) (DL.dk_of (DL.de_rv (DL.dk_var 2))))))
       (DL.ds_ret (DL.de_move 0))
       DL.ds_next)
       (DL.ds_ret (DL.de_op DL.os_add (DL.dk_of (DL.de_sl (DL.dk_var 1) DL.do_none (DL.do_some (DL.dk_of (DL.de_neg (DL.dk_of (DL.de_c fun _ => .int 1))))))) (DL.dk_of (DL.de_sl (DL.dk_var 2) DL.do_none (DL.do_some (DL.dk_of (DL.de_neg (DL.dk_of (DL.de_c fun _ => .int 1)))))))))))) (by decide) h

def bod_turned_left : DL.M DL.Out := (DL.seqM (DL.asgM 1 (DL.cbE DL.opSorted (DL.consP (DL.vK 0) DL.nilP)))
 (DL.seqM (DL.parN [2, 3] (DL.consV (DL.op2 DL.opIx (DL.vK 1) (DL.kE (DL.cE (.int 0)))) (DL.consV (DL.op2 DL.opIx (DL.vK 1) (DL.kE (DL.op1 DL.opNeg (DL.kE (DL.cE (.int 1)))))) DL.nilV)))
 (DL.seqM (DL.asgM 4 (DL.lcE (DL.itE (DL.slE (DL.vK 1) (DL.someO (DL.kE (DL.cE (.int 1)))) (DL.someO (DL.kE (DL.op1 DL.opNeg (DL.kE (DL.cE (.int 1)))))))) (DL.nmG 6) (DL.tE (DL.op2 DL.opLt (DL.kE (DL.callE mir_turn (DL.consA (DL.vE 2) (DL.consA (DL.vE 3) (DL.consA (DL.vE 6) DL.nilA))))) (DL.kE (DL.cE (.int 0))))) (DL.vE 6) [6]))
 (DL.seqM (DL.asgM 5 (DL.lcE (DL.itE (DL.slE (DL.vK 1) (DL.someO (DL.kE (DL.cE (.int 1)))) (DL.someO (DL.kE (DL.op1 DL.opNeg (DL.kE (DL.cE (.int 1)))))))) (DL.nmG 6) (DL.tE (DL.op2 DL.opGt (DL.kE (DL.callE mir_turn (DL.consA (DL.vE 2) (DL.consA (DL.vE 3) (DL.consA (DL.vE 6) DL.nilA))))) (DL.kE (DL.cE (.int 0))))) (DL.vE 6) [6]))
 (DL.retM (DL.op2 DL.opAdd (DL.kE (DL.op2 DL.opAdd (DL.kE (DL.op2 DL.opAdd (DL.kE (DL.lstE (DL.consA (DL.vE 2) DL.nilA))) (DL.vK 4))) (DL.kE (DL.lstE (DL.consA (DL.vE 3) DL.nilA))))) (DL.kE (DL.op1 DL.opRv (DL.vK 5)))))))))
def mir_turned_left : DL.Mir := DL.runB bod_turned_left 7
theorem ok_turned_left (T : Tops K mg) : FnOk P w K mg base CX0 2 (He.ga K "turned_left") T.fd_turned_left P_turned_left (DL.dSp (kt K P w W F) 1 mir_turned_left) := by
  refine T.F_turned_left.ok sc_turned_left (fun vs H Q E h => h.1) (fun cdv A outer s H vs Q E hr h => ?_)
  refine ⟨_, PSs.nox ((pss_cons (ps_set (i := 1) sc_turned_left.nd rfl (.inl rfl) (pe_callB (DL.cr_srt K hr.units) (by rfl) T.m_sorted (by decide +kernel) (pa_cons (pv 0) pa_nil)))
       (pss_cons (ps_asg (pe_tup (pa_cons (pe_ix (DL.ix_U K) (pv 1) pe_int (fun _ _ => rfl)) (pa_cons (pe_ix (DL.ix_U K) (pv 1) (pe_un un_neg pe_int) (fun _ _ => rfl)) pa_nil))) (DL.pg_sq K rfl (pgs_cons (pg_name (i := 2) sc_turned_left.nd rfl (.inr rfl)) (pgs_cons (pg_name (i := 3) sc_turned_left.nd rfl (.inr rfl)) pgs_nil))))
       (pss_cons (ps_setLc (i := 4) (own := [("site", 6)]) (g := gName 6) rfl sc_turned_left.nd rfl rfl (sw_true rfl rfl rfl (by decide +kernel)) (DL.pi_seq K (pe_slice (DL.sl_U K) (pv 1) (po_some pe_int) (po_some (pe_un un_neg pe_int)))) (blkOk_by (own := [("site", 6)]) (N := N_turned_left) (sc := defScope (top 25)) (by decide +kernel)) (fun _ _ _ _ _ => (pg_name (i := 6) sc_turned_left.nd rfl (.inl rfl))) (fun _ _ _ _ _ => (pts_one (pt_cmpR op_lt (pe_call (ok_turn (P := P) (w := w) (W := W) (F := F) T) (hr.mono (by decide)) (by rfl) T.g_turn T.F_turn.kp (b_turn T) .nil (DL.passE (E := E)) (pa_cons (pv 2) (pa_cons (pv 3) (pa_cons (pv 6) pa_nil)))) pe_int (nomark _)))) (fun bs bH bC bcl bfp => (pv 6)))
       (pss_cons (ps_setLc (i := 5) (own := [("site", 6)]) (g := gName 6) rfl sc_turned_left.nd rfl rfl (sw_true rfl rfl rfl (by decide +kernel)) (DL.pi_seq K (pe_slice (DL.sl_U K) (pv 1) (po_some pe_int) (po_some (pe_un un_neg pe_int)))) (blkOk_by (own := [("site", 6)]) (N := N_turned_left) (sc := defScope (top 25)) (by decide +kernel)) (fun _ _ _ _ _ => (pg_name (i := 6) sc_turned_left.nd rfl (.inl rfl))) (fun _ _ _ _ _ => (pts_one (pt_cmpR op_gt (pe_call (ok_turn (P := P) (w := w) (W := W) (F := F) T) (hr.mono (by decide)) (by rfl) T.g_turn T.F_turn.kp (b_turn T) .nil (DL.passE (E := E)) (pa_cons (pv 2) (pa_cons (pv 3) (pa_cons (pv 6) pa_nil)))) pe_int (nomark _)))) (fun bs bH bC bcl bfp => (pv 6)))
       (pss_one (ps_ret (pe_op (DL.op_addU K) (pe_op (DL.op_addU K) (pe_op (DL.op_addU K) (pe_lst (pa_cons (pv 2) pa_nil)) (pv 4)) (pe_lst (pa_cons (pv 3) pa_nil))) (NCNest.pe_rv (pv 5)))))))))), ?_⟩
  exact DL.body_ok (T := kt K P w W F) (E := E) (f := bod_turned_left) (N := N_turned_left) (n := 1) ((DL.ds_seq (DL.ds_asg 1 (DL.de_cb DL.cs_sorted (DL.dp_cons (DL.dk_var 0) DL.dp_nil)))
       (DL.ds_seq (DL.ds_parT [2, 3] (DL.dv_cons (DL.de_op DL.os_ix (DL.dk_var 1) (DL.dk_of (DL.de_c fun _ => .int 0))) (DL.dv_cons (DL.de_op DL.os_ix (DL.dk_var 1) (DL.dk_of (DL.de_neg (DL.dk_of (DL.de_c fun _ => .int 1))))) DL.dv_nil)))
       (DL.ds_seq (DL.ds_asg 4 (DL.de_lc (vs := [6]) (by decide) (DL.di_seq (DL.de_sl (DL.dk_var 1) (DL.do_some (DL.dk_of (DL.de_c fun _ => .int 1))) (DL.do_some (DL.dk_of (DL.de_neg (DL.dk_of (DL.de_c fun _ => .int 1))))))) (DL.dg_name 6) (DL.dt_of' (DL.de_op DL.os_lt (DL.dk_of (DL.de_call (DL.da_cons (DL.de_var 2) (DL.da_cons (DL.de_var 3) (DL.da_cons (DL.de_var 6) DL.da_nil))) (DL.len_cons (DL.len_cons (DL.len_cons DL.len_nil))))) (DL.dk_of (DL.de_c fun _ => .int 0)))) (DL.de_var 6)))
       (DL.ds_seq (DL.ds_asg 5 (DL.de_lc (vs := [6]) (by decide) (DL.di_seq (DL.de_sl (DL.dk_var 1) (DL.do_some (DL.dk_of (DL.de_c fun _ => .int 1))) (DL.do_some (DL.dk_of (DL.de_neg (DL.dk_of (DL.de_c fun _ => .int 1))))))) (DL.dg_name 6) (DL.dt_of' (DL.de_op DL.os_gt (DL.dk_of (DL.de_call (DL.da_cons (DL.de_var 2) (DL.da_cons (DL.de_var 3) (DL.da_cons (DL.de_var 6) DL.da_nil))) (DL.len_cons (DL.len_cons (DL.len_cons DL.len_nil))))) (DL.dk_of (DL.de_c fun _ => .int 0)))) (DL.de_var 6)))
       (DL.ds_ret (DL.de_op DL.os_add (DL.dk_of (DL.de_op DL.os_add (DL.dk_of (DL.de_op DL.os_add (DL.dk_of (DL.de_lst (DL.da_cons (DL.de_var 2) DL.da_nil))) (DL.dk_var 4))) (DL.dk_of (DL.de_lst (DL.da_cons (DL.de_var 3) DL.da_nil))))) (DL.dk_of (DL.de_rv (DL.dk_var 5)))))))))) (by decide) h

def bod_face_left : DL.M DL.Out := (DL.seqM (DL.asgM 3 (DL.cE .none))
 (DL.seqM (DL.forM (DL.itE (DL.vE 0)) (DL.nmG 4)
 (DL.ifM (DL.andM (DL.tE (DL.op2 DL.opGt (DL.kE (DL.callE mir_turn (DL.consA (DL.vE 1) (DL.consA (DL.vE 2) (DL.consA (DL.vE 4) DL.nilA))))) (DL.kE (DL.cE (.int 0))))) (DL.orM (DL.tE (DL.op2 DL.opIsN (DL.vK 3) (DL.kE (DL.cE .none)))) (DL.tE (DL.op2 DL.opGt (DL.kE (DL.callE mir_inside (DL.consA (DL.vE 1) (DL.consA (DL.vE 2) (DL.consA (DL.vE 3) (DL.consA (DL.vE 4) DL.nilA)))))) (DL.kE (DL.cE (.int 0)))))))
 (DL.asgM 3 (DL.vE 4))
 DL.nxM))
 (DL.seqM (DL.ifM (DL.tE (DL.op2 DL.opIsN (DL.vK 3) (DL.kE (DL.cE .none))))
 (DL.retM (DL.cE .none))
 DL.nxM)
 (DL.seqM (DL.asgM 5 (DL.op2 DL.opAdd (DL.kE (DL.lstE (DL.consA (DL.vE 1) (DL.consA (DL.vE 2) DL.nilA)))) (DL.kE (DL.lcE (DL.itE (DL.vE 0)) (DL.nmG 4) (DL.andM (DL.tE (DL.op2 DL.opGt (DL.kE (DL.callE mir_turn (DL.consA (DL.vE 1) (DL.consA (DL.vE 2) (DL.consA (DL.vE 4) DL.nilA))))) (DL.kE (DL.cE (.int 0))))) (DL.tE (DL.op2 DL.opEq (DL.kE (DL.callE mir_inside (DL.consA (DL.vE 1) (DL.consA (DL.vE 2) (DL.consA (DL.vE 3) (DL.consA (DL.vE 4) DL.nilA)))))) (DL.kE (DL.cE (.int 0)))))) (DL.vE 4) [4]))))
 (DL.retM (DL.callE mir_turned_left (DL.consA (DL.vE 5) DL.nilA)))))))
def mir_face_left : DL.Mir := DL.runB bod_face_left 6
theorem ok_face_left (T : Tops K mg) : FnOk P w K mg base CX0 3 (He.ga K "face_left") T.fd_face_left P_face_left (DL.dSp (kt K P w W F) 3 mir_face_left) := by
  refine T.F_face_left.ok sc_face_left (fun vs H Q E h => h.1) (fun cdv A outer s H vs Q E hr h => ?_)
  refine ⟨_, PSs.nox ((pss_cons (ps_set (i := 3) sc_face_left.nd rfl (.inr rfl) pe_non)
       (pss_cons (ps_for PassesOwn.never rfl (DL.pi_seq K (pv 0)) (pg_name (i := 4) sc_face_left.nd rfl (.inl rfl))
       (pss_one (ps_if (PW.pt (pw_and (pt_cmpR op_gt (pe_call (ok_turn (P := P) (w := w) (W := W) (F := F) T) (hr.mono (by decide)) (by rfl) T.g_turn T.F_turn.kp (b_turn T) .nil (DL.passE (E := E)) (pa_cons (pv 1) (pa_cons (pv 2) (pa_cons (pv 4) pa_nil)))) pe_int (nomark _)) (pw_and1 (PW.pt (pw_or (pt_cmpR DL.op_isNU (pv 3) pe_non (nomark _)) (pw_or1 (pt_cmpR op_gt (pe_call (ok_inside (P := P) (w := w) (W := W) (F := F) T) (hr.mono (by decide)) (by rfl) T.g_inside T.F_inside.kp (b_inside T) .nil (DL.passE (E := E)) (pa_cons (pv 1) (pa_cons (pv 2) (pa_cons (pv 3) (pa_cons (pv 4) pa_nil))))) pe_int (nomark _))))))))
       (pss_one (ps_set (i := 3) sc_face_left.nd rfl (.inr rfl) (pv 4)))
       pss_nil)))
       (pss_cons (ps_if (pt_cmpR DL.op_isNU (pv 3) pe_non (nomark _))
       (pss_one (ps_ret pe_non))
       pss_nil)
       (pss_cons (ps_set (i := 5) sc_face_left.nd rfl (.inl rfl) (pe_op (DL.op_addU K) (pe_lst (pa_cons (pv 1) (pa_cons (pv 2) pa_nil))) (pe_lc (own := [("site", 4)]) (g := gName 4) rfl sc_face_left.nd (DL.pi_seq K (pv 0)) (blkOk_by (own := [("site", 4)]) (N := N_face_left) (sc := defScope (top 24)) (by decide +kernel)) (fun _ _ _ _ _ => (pg_name (i := 4) sc_face_left.nd rfl (.inl rfl))) (fun _ _ _ _ _ => (pts_one (PW.pt (pw_and (pt_cmpR op_gt (pe_call (ok_turn (P := P) (w := w) (W := W) (F := F) T) (hr.mono (by decide)) (by rfl) T.g_turn T.F_turn.kp (b_turn T) .nil (DL.passE (E := E)) (pa_cons (pv 1) (pa_cons (pv 2) (pa_cons (pv 4) pa_nil)))) pe_int (nomark _)) (pw_and1 (pt_cmpR (DL.op_eqU K hr.units) (pe_call (ok_inside (P := P) (w := w) (W := W) (F := F) T) (hr.mono (by decide)) (by rfl) T.g_inside T.F_inside.kp (b_inside T) .nil (DL.passE (E := E)) (pa_cons (pv 1) (pa_cons (pv 2) (pa_cons (pv 3) (pa_cons (pv 4) pa_nil))))) pe_int (nomark _))))))) (fun bs bH bC bcl bfp => (pv 4)))))
       (pss_one (ps_ret (pe_call (ok_turned_left (P := P) (w := w) (W := W) (F := F) T) (hr.mono (by decide)) (by rfl) T.g_turned_left T.F_turned_left.kp (b_turned_left T) .nil (DL.passE (E := E)) (pa_cons (pv 5) pa_nil))))))))), ?_⟩
  exact DL.body_ok (T := kt K P w W F) (E := E) (f := bod_face_left) (N := N_face_left) (n := 3) ((DL.ds_seq (DL.ds_asg 3 (DL.de_c fun _ => .non))
       (DL.ds_seq (DL.ds_for (DL.di_seq (DL.de_var 0)) (DL.dg_name 4)
       (DL.ds_if (DL.dt_and (DL.dt_of' (DL.de_op DL.os_gt (DL.dk_of (DL.de_call (DL.da_cons (DL.de_var 1) (DL.da_cons (DL.de_var 2) (DL.da_cons (DL.de_var 4) DL.da_nil))) (DL.len_cons (DL.len_cons (DL.len_cons DL.len_nil))))) (DL.dk_of (DL.de_c fun _ => .int 0)))) (DL.dt_or (DL.dt_of' (DL.de_op DL.os_isN (DL.dk_var 3) (DL.dk_of (DL.de_c fun _ => .non)))) (DL.dt_of' (DL.de_op DL.os_gt (DL.dk_of (DL.de_call (DL.da_cons (DL.de_var 1) (DL.da_cons (DL.de_var 2) (DL.da_cons (DL.de_var 3) (DL.da_cons (DL.de_var 4) DL.da_nil)))) (DL.len_cons (DL.len_cons (DL.len_cons (DL.len_cons DL.len_nil)))))) (DL.dk_of (DL.de_c fun _ => .int 0))))))
       (DL.ds_asg 3 (DL.de_var 4))
       DL.ds_next))
       (DL.ds_seq (DL.ds_if (DL.dt_of' (DL.de_op DL.os_isN (DL.dk_var 3) (DL.dk_of (DL.de_c fun _ => .non))))
       (DL.ds_ret (DL.de_c fun _ => .non))
       DL.ds_next)
       (DL.ds_seq (DL.ds_asg 5 (DL.de_op DL.os_add (DL.dk_of (DL.de_lst (DL.da_cons (DL.de_var 1) (DL.da_cons (DL.de_var 2) DL.da_nil)))) (DL.dk_of (DL.de_lc (vs := [4]) (by decide) (DL.di_seq (DL.de_var 0)) (DL.dg_name 4) (DL.dt_and (DL.dt_of' (DL.de_op DL.os_gt (DL.dk_of (DL.de_call (DL.da_cons (DL.de_var 1) (DL.da_cons (DL.de_var 2) (DL.da_cons (DL.de_var 4) DL.da_nil))) (DL.len_cons (DL.len_cons (DL.len_cons DL.len_nil))))) (DL.dk_of (DL.de_c fun _ => .int 0)))) (DL.dt_of' (DL.de_op DL.os_eq (DL.dk_of (DL.de_call (DL.da_cons (DL.de_var 1) (DL.da_cons (DL.de_var 2) (DL.da_cons (DL.de_var 3) (DL.da_cons (DL.de_var 4) DL.da_nil)))) (DL.len_cons (DL.len_cons (DL.len_cons (DL.len_cons DL.len_nil)))))) (DL.dk_of (DL.de_c fun _ => .int 0))))) (DL.de_var 4)))))
       (DL.ds_ret (DL.de_call (DL.da_cons (DL.de_var 5) DL.da_nil) (DL.len_cons DL.len_nil)))))))) (by decide) h

def bod_sides_of : DL.M DL.Out := (DL.retM (DL.lcE (DL.rng1E (DL.consA (DL.cbE DL.opLen (DL.consP (DL.vK 0) DL.nilP)) DL.nilA)) (DL.nmG 1) DL.yesM (DL.tupE (DL.consA (DL.op2 DL.opIx (DL.vK 0) (DL.kE (DL.op2 DL.opSub (DL.vK 1) (DL.kE (DL.cE (.int 1)))))) (DL.consA (DL.op2 DL.opIx (DL.vK 0) (DL.vK 1)) DL.nilA))) [1]))
def mir_sides_of : DL.Mir := DL.runB bod_sides_of 2
theorem ok_sides_of (T : Tops K mg) : FnOk P w K mg base CX0 1 (He.ga K "sides_of") T.fd_sides_of P_sides_of (DL.dSp (kt K P w W F) 1 mir_sides_of) := by
  refine T.F_sides_of.ok sc_sides_of (fun vs H Q E h => h.1) (fun cdv A outer s H vs Q E hr h => ?_)
  refine ⟨_, PSs.nox ((pss_one (ps_ret (pe_lc (own := [("at", 1)]) (g := gName 1) (tt := tYes) rfl sc_sides_of.nd (pi_range1 (by rfl) T.m_range (pa_cons (pe_callB (DL.call_lenU K) (by rfl) T.m_len (by decide +kernel) (pa_cons (pv 0) pa_nil)) pa_nil)) (blkOk_by (own := [("at", 1)]) (N := N_sides_of) (sc := defScope (top 26)) (by decide +kernel)) (fun _ _ _ _ _ => (pg_name (i := 1) sc_sides_of.nd rfl (.inl rfl))) (fun _ _ _ _ _ => pts_nil) (fun bs bH bC bcl bfp => (pe_tup (pa_cons (pe_ix (DL.ix_U K) (pv 0) (pe_op op_sub (pv 1) pe_int) (fun _ _ => rfl)) (pa_cons (pe_ix (DL.ix_U K) (pv 0) (pv 1) (fun _ _ => rfl)) pa_nil)))))))), ?_⟩
  exact DL.body_ok (T := kt K P w W F) (E := E) (f := bod_sides_of) (N := N_sides_of) (n := 1) ((DL.ds_ret (DL.de_lc (vs := [1]) (by decide) (DL.di_rng1 (DL.da_cons (DL.de_cb DL.cs_len (DL.dp_cons (DL.dk_var 0) DL.dp_nil)) DL.da_nil)) (DL.dg_name 1) DL.dt_yes (DL.de_tup (DL.da_cons (DL.de_op DL.os_ix (DL.dk_var 0) (DL.dk_of (DL.de_op DL.os_sub (DL.dk_var 1) (DL.dk_of (DL.de_c fun _ => .int 1))))) (DL.da_cons (DL.de_op DL.os_ix (DL.dk_var 0) (DL.dk_var 1)) DL.da_nil)))))) (by decide) h

def bod_faces_of : DL.M DL.Out := (DL.seqM (DL.parN [1, 2, 3] (DL.consV (DL.callE mir_border_of (DL.consA (DL.vE 0) DL.nilA)) (DL.consV (DL.lstE DL.nilA) (DL.consV DL.dnewE DL.nilV))))
 (DL.seqM (DL.asgM 4 (DL.lcE (DL.rng1E (DL.consA (DL.cbE DL.opLen (DL.consP (DL.vK 1) DL.nilP)) DL.nilA)) (DL.nmG 9) DL.yesM (DL.tupE (DL.consA (DL.op2 DL.opIx (DL.vK 1) (DL.kE (DL.op2 DL.opSub (DL.vK 9) (DL.kE (DL.cE (.int 1)))))) (DL.consA (DL.op2 DL.opIx (DL.vK 1) (DL.vK 9)) DL.nilA))) [9]))
 (DL.seqM (DL.whlM (fun _ => 1000000) (DL.tE (DL.op2 DL.opNe (DL.vK 4) (DL.kE (DL.lstE DL.nilA))))
 (DL.seqM (DL.asgT (DL.unlG 2 (DL.consG (DL.nmG 5) (DL.consG (DL.nmG 6) DL.nilG))) (DL.popE 4))
 (DL.ifM (DL.tE (DL.xinE true 3 (DL.kE (DL.tupE (DL.consA (DL.vE 5) (DL.consA (DL.vE 6) DL.nilA))))))
 (DL.seqM (DL.asgM 7 (DL.callE mir_face_left (DL.consA (DL.vE 0) (DL.consA (DL.vE 5) (DL.consA (DL.vE 6) DL.nilA)))))
 (DL.seqM (DL.ifM (DL.tE (DL.op2 DL.opNotN (DL.vK 7) (DL.kE (DL.cE .none))))
 (DL.seqM (DL.dropM (DL.mtE DL.opAppend 2 (DL.vE 7)))
 (DL.forM (DL.itE (DL.callE mir_sides_of (DL.consA (DL.vE 7) DL.nilA))) (DL.nmG 8)
 (DL.seqM (DL.xputM 3 (DL.vK 8) (DL.cE (.bool true)))
 (DL.dropM (DL.mtE DL.opAppend 4 (DL.tupE (DL.consA (DL.op2 DL.opIx (DL.vK 8) (DL.kE (DL.cE (.int 1)))) (DL.consA (DL.op2 DL.opIx (DL.vK 8) (DL.kE (DL.cE (.int 0)))) DL.nilA))))))))
 DL.nxM)
 (DL.xputM 3 (DL.kE (DL.tupE (DL.consA (DL.vE 5) (DL.consA (DL.vE 6) DL.nilA)))) (DL.cE (.bool true)))))
 DL.nxM)))
 (DL.retM (DL.cbE DL.opSorted (DL.consP (DL.vK 2) DL.nilP))))))
def mir_faces_of : DL.Mir := DL.runB bod_faces_of 10
theorem ok_faces_of (T : Tops K mg) : FnOk P w K mg base CX0 4 (He.ga K "faces_of") T.fd_faces_of P_faces_of (DL.dSp (kt K P w W F) 1 mir_faces_of) := by
  refine T.F_faces_of.ok sc_faces_of (fun vs H Q E h => h.1) (fun cdv A outer s H vs Q E hr h => ?_)
  refine ⟨_, PSs.nox ((pss_cons (ps_asg (pe_tup (pa_cons (pe_call (ok_border_of (P := P) (w := w) (W := W) (F := F) T) (hr.mono (by decide)) (by rfl) T.g_border_of T.F_border_of.kp (b_border_of T) .nil (DL.passE (E := E)) (pa_cons (pv 0) pa_nil)) (pa_cons (pe_lst pa_nil) (pa_cons (DL.pe_dnewX (T := kt K P w W F)) pa_nil)))) (DL.pg_sq K rfl (pgs_cons (pg_name (i := 1) sc_faces_of.nd rfl (.inr rfl)) (pgs_cons (pg_name (i := 2) sc_faces_of.nd rfl (.inl rfl)) (pgs_cons (pg_name (i := 3) sc_faces_of.nd rfl (.inl rfl)) pgs_nil)))))
       (pss_cons (ps_setLc (i := 4) (own := [("at", 9)]) (g := gName 9) (tt := tYes) rfl sc_faces_of.nd rfl rfl (sw_true rfl rfl rfl (by decide +kernel)) (pi_range1 (by rfl) T.m_range (pa_cons (pe_callB (DL.call_lenU K) (by rfl) T.m_len (by decide +kernel) (pa_cons (pv 1) pa_nil)) pa_nil)) (blkOk_by (own := [("at", 9)]) (N := N_faces_of) (sc := defScope (top 27)) (by decide +kernel)) (fun _ _ _ _ _ => (pg_name (i := 9) sc_faces_of.nd rfl (.inl rfl))) (fun _ _ _ _ _ => pts_nil) (fun bs bH bC bcl bfp => (pe_tup (pa_cons (pe_ix (DL.ix_U K) (pv 1) (pe_op op_sub (pv 9) pe_int) (fun _ _ => rfl)) (pa_cons (pe_ix (DL.ix_U K) (pv 1) (pv 9) (fun _ _ => rfl)) pa_nil)))))
       (pss_cons (ps_while PassesOwn.never (pt_cmpR (DL.op_neU K hr.units) (pv 4) (pe_lst pa_nil) (nomark _))
       (pss_cons (ps_asg (pe_bm0 PySem.F.plainAttrs_list PySem.F.slot_list_pop PySem.F.type_list_pop mt_pop (pv 4)) (DL.pg_sq K rfl (pgs_cons (pg_name (i := 5) sc_faces_of.nd rfl (.inl rfl)) (pgs_cons (pg_name (i := 6) sc_faces_of.nd rfl (.inl rfl)) pgs_nil))))
       (pss_one (ps_if (pt_cmp (DL.pc_xnotin (T := kt K P w W F) hr.units (pe_tup (pa_cons (pv 5) (pa_cons (pv 6) pa_nil))) (pv 3)) rfl)
       (pss_cons (ps_set (i := 7) sc_faces_of.nd rfl (.inl rfl) (pe_call (ok_face_left (P := P) (w := w) (W := W) (F := F) T) (hr.mono (by decide)) (by rfl) T.g_face_left T.F_face_left.kp (b_face_left T) .nil (DL.passE (E := E)) (pa_cons (pv 0) (pa_cons (pv 5) (pa_cons (pv 6) pa_nil)))))
       (pss_cons (ps_if (pt_cmpR DL.op_notNU (pv 7) pe_non (nomark _))
       (pss_cons (ps_expr (pe_bm PySem.F.plainAttrs_list PySem.F.slot_list_append PySem.F.type_list_append mt_append (pv 2) (pa_cons (pv 7) pa_nil)))
       (pss_one (ps_for PassesOwn.never rfl (DL.pi_seq K (pe_call (ok_sides_of (P := P) (w := w) (W := W) (F := F) T) (hr.mono (by decide)) (by rfl) T.g_sides_of T.F_sides_of.kp (b_sides_of T) .nil (DL.passE (E := E)) (pa_cons (pv 7) pa_nil))) (pg_name (i := 8) sc_faces_of.nd rfl (.inl rfl))
       (pss_cons (DL.ps_xput (T := kt K P w W F) hr.units (pv 3) (pv 8) pe_bl rfl)
       (pss_one (ps_expr (pe_bm PySem.F.plainAttrs_list PySem.F.slot_list_append PySem.F.type_list_append mt_append (pv 4) (pa_cons (pe_tup (pa_cons (pe_ix (DL.ix_U K) (pv 8) pe_int (fun _ _ => rfl)) (pa_cons (pe_ix (DL.ix_U K) (pv 8) pe_int (fun _ _ => rfl)) pa_nil))) pa_nil))))))))
       pss_nil)
       (pss_one (DL.ps_xput (T := kt K P w W F) hr.units (pv 3) (pe_tup (pa_cons (pv 5) (pa_cons (pv 6) pa_nil))) pe_bl rfl))))
       pss_nil))))
       (pss_one (ps_ret (pe_callB (DL.cr_srt K hr.units) (by rfl) T.m_sorted (by decide +kernel) (pa_cons (pv 2) pa_nil)))))))), ?_⟩
  exact DL.body_ok (T := kt K P w W F) (E := E) (f := bod_faces_of) (N := N_faces_of) (n := 1) ((DL.ds_seq (DL.ds_parT [1, 2, 3] (DL.dv_cons (DL.de_call (DL.da_cons (DL.de_var 0) DL.da_nil) (DL.len_cons DL.len_nil)) (DL.dv_cons (DL.de_lst DL.da_nil) (DL.dv_cons DL.de_dnew DL.dv_nil))))
       (DL.ds_seq (DL.ds_asg 4 (DL.de_lc (vs := [9]) (by decide) (DL.di_rng1 (DL.da_cons (DL.de_cb DL.cs_len (DL.dp_cons (DL.dk_var 1) DL.dp_nil)) DL.da_nil)) (DL.dg_name 9) DL.dt_yes (DL.de_tup (DL.da_cons (DL.de_op DL.os_ix (DL.dk_var 1) (DL.dk_of (DL.de_op DL.os_sub (DL.dk_var 9) (DL.dk_of (DL.de_c fun _ => .int 1))))) (DL.da_cons (DL.de_op DL.os_ix (DL.dk_var 1) (DL.dk_var 9)) DL.da_nil)))))
       (DL.ds_seq (DL.ds_while (fun _ => 1000000) (DL.dt_of' (DL.de_op DL.os_ne (DL.dk_var 4) (DL.dk_of (DL.de_lst DL.da_nil))))
       (DL.ds_seq (DL.ds_asgT (DL.de_pop 4) (DL.dg_sq (n := 2) (DL.dgs_cons (DL.dg_name 5) (DL.dgs_cons (DL.dg_name 6) DL.dgs_nil))))
       (DL.ds_if (DL.dt_of (DL.de_xin true 3 (DL.dk_of (DL.de_tup (DL.da_cons (DL.de_var 5) (DL.da_cons (DL.de_var 6) DL.da_nil))))))
       (DL.ds_seq (DL.ds_asg 7 (DL.de_call (DL.da_cons (DL.de_var 0) (DL.da_cons (DL.de_var 5) (DL.da_cons (DL.de_var 6) DL.da_nil))) (DL.len_cons (DL.len_cons (DL.len_cons DL.len_nil)))))
       (DL.ds_seq (DL.ds_if (DL.dt_of' (DL.de_op DL.os_notN (DL.dk_var 7) (DL.dk_of (DL.de_c fun _ => .non))))
       (DL.ds_seq (DL.ds_drop (DL.de_mt 2 DL.ms_append (DL.de_var 7)))
       (DL.ds_for (DL.di_seq (DL.de_call (DL.da_cons (DL.de_var 7) DL.da_nil) (DL.len_cons DL.len_nil))) (DL.dg_name 8)
       (DL.ds_seq (DL.ds_xput 3 (DL.de_c fun _ => .bl true) (DL.dk_var 8))
       (DL.ds_drop (DL.de_mt 4 DL.ms_append (DL.de_tup (DL.da_cons (DL.de_op DL.os_ix (DL.dk_var 8) (DL.dk_of (DL.de_c fun _ => .int 1))) (DL.da_cons (DL.de_op DL.os_ix (DL.dk_var 8) (DL.dk_of (DL.de_c fun _ => .int 0))) DL.da_nil))))))))
       DL.ds_next)
       (DL.ds_xput 3 (DL.de_c fun _ => .bl true) (DL.dk_of (DL.de_tup (DL.da_cons (DL.de_var 5) (DL.da_cons (DL.de_var 6) DL.da_nil)))))))
       DL.ds_next)))
       (DL.ds_ret (DL.de_cb DL.cs_sorted (DL.dp_cons (DL.dk_var 2) DL.dp_nil))))))) (by decide) h

def bod_is_corners : DL.M DL.Out := (DL.seqM (DL.ifM (DL.orM (DL.notM (DL.trE (DL.kE (DL.isiE .tuple (DL.vK 1))))) (DL.tE (DL.op2 DL.opNe (DL.kE (DL.cbE DL.opLen (DL.consP (DL.vK 1) DL.nilP))) (DL.kE (DL.cE (.int 3))))))
 (DL.retM (DL.cE (.bool false)))
 DL.nxM)
 (DL.seqM (DL.ifM (DL.notM (DL.trE (DL.kE (DL.cbE DL.opAll (DL.consP (DL.kE (DL.lcE (DL.itE (DL.vE 1)) (DL.nmG 2) DL.yesM (DL.andV (DL.callE mir_is_site (DL.consA (DL.vE 2) DL.nilA)) (DL.xinE false 0 (DL.vK 2))) [2])) DL.nilP)))))
 (DL.retM (DL.cE (.bool false)))
 DL.nxM)
 (DL.retM (DL.op2 DL.opNe (DL.kE (DL.callE mir_turn (DL.consA (DL.op2 DL.opIx (DL.vK 1) (DL.kE (DL.cE (.int 0)))) (DL.consA (DL.op2 DL.opIx (DL.vK 1) (DL.kE (DL.cE (.int 1)))) (DL.consA (DL.op2 DL.opIx (DL.vK 1) (DL.kE (DL.cE (.int 2)))) DL.nilA))))) (DL.kE (DL.cE (.int 0)))))))
def mir_is_corners : DL.Mir := DL.runB bod_is_corners 3
theorem ok_is_corners (T : Tops K mg) : FnOk P w K mg base CX0 4 (He.ga K "is_corners") T.fd_is_corners P_is_corners (DL.dSp (kt K P w W F) 2 mir_is_corners) := by
  refine T.F_is_corners.ok sc_is_corners (fun vs H Q E h => h.1) (fun cdv A outer s H vs Q E hr h => ?_)
  refine ⟨_, PSs.nox ((pss_cons (ps_if (PW.pt (pw_or (pt_not (pt_truth (pe_callB (call_isiK0 K) (by rfl) T.m_isinstance (by decide +kernel) (pa_cons (pv 1) (pa_cons (pe_bltn (v := .ty (DL.Ty.nm .tuple)) rfl T.m_tuple (by decide +kernel) rfl) pa_nil))) (by intro _; rfl))) (pw_or1 (pt_cmpR (DL.op_neU K hr.units) (pe_callB (DL.call_lenU K) (by rfl) T.m_len (by decide +kernel) (pa_cons (pv 1) pa_nil)) pe_int (nomark _)))))
       (pss_one (ps_ret pe_bl))
       pss_nil)
       (pss_cons (ps_if (pt_not (pt_truth (pe_callB (cr_allK K rfl) (by rfl) T.m_all (by decide +kernel) (pa_cons (pe_lc (own := [("one", 2)]) (g := gName 2) (tt := tYes) rfl sc_is_corners.nd (DL.pi_seq K (pv 1)) (blkOk_by (own := [("one", 2)]) (N := N_is_corners) (sc := defScope (top 30)) (by decide +kernel)) (fun _ _ _ _ _ => (pg_name (i := 2) sc_is_corners.nd rfl (.inl rfl))) (fun _ _ _ _ _ => pts_nil) (fun bs bH bC bcl bfp => (pe_and (pe_call (ok_is_site (P := P) (w := w) (W := W) (F := F) T) (hr.mono (by decide)) (by rfl) T.g_is_site T.F_is_site.kp (b_is_site T) .nil (DL.passE (E := E)) (pa_cons (pv 2) pa_nil)) (pe_one (pe_cmp (DL.pc_xin (T := kt K P w W F) hr.units (pv 2) (pv 0)) rfl))))) pa_nil)) (by intro _; rfl)))
       (pss_one (ps_ret pe_bl))
       pss_nil)
       (pss_one (ps_ret (pe_cmpR (DL.op_neU K hr.units) (pe_call (ok_turn (P := P) (w := w) (W := W) (F := F) T) (hr.mono (by decide)) (by rfl) T.g_turn T.F_turn.kp (b_turn T) .nil (DL.passE (E := E)) (pa_cons (pe_ix (DL.ix_U K) (pv 1) pe_int (fun _ _ => rfl)) (pa_cons (pe_ix (DL.ix_U K) (pv 1) pe_int (fun _ _ => rfl)) (pa_cons (pe_ix (DL.ix_U K) (pv 1) pe_int (fun _ _ => rfl)) pa_nil)))) pe_int (nomark _))))))), ?_⟩
  exact DL.body_ok (T := kt K P w W F) (E := E) (f := bod_is_corners) (N := N_is_corners) (n := 2) ((DL.ds_seq (DL.ds_if (DL.dt_or (DL.dt_not (DL.dt_truth (DL.dk_of (DL.de_isi .tuple (DL.dk_var 1))))) (DL.dt_of' (DL.de_op DL.os_ne (DL.dk_of (DL.de_cb DL.cs_len (DL.dp_cons (DL.dk_var 1) DL.dp_nil))) (DL.dk_of (DL.de_c fun _ => .int 3)))))
       (DL.ds_ret (DL.de_c fun _ => .bl false))
       DL.ds_next)
       (DL.ds_seq (DL.ds_if (DL.dt_not (DL.dt_truth (DL.dk_of (DL.de_cb DL.cs_all (DL.dp_cons (DL.dk_of (DL.de_lc (vs := [2]) (by decide) (DL.di_seq (DL.de_var 1)) (DL.dg_name 2) DL.dt_yes (DL.de_and (DL.de_call (DL.da_cons (DL.de_var 2) DL.da_nil) (DL.len_cons DL.len_nil)) (DL.de_xin false 0 (DL.dk_var 2))))) DL.dp_nil)))))
       (DL.ds_ret (DL.de_c fun _ => .bl false))
       DL.ds_next)
       (DL.ds_ret (DL.de_op DL.os_ne (DL.dk_of (DL.de_call (DL.da_cons (DL.de_op DL.os_ix (DL.dk_var 1) (DL.dk_of (DL.de_c fun _ => .int 0))) (DL.da_cons (DL.de_op DL.os_ix (DL.dk_var 1) (DL.dk_of (DL.de_c fun _ => .int 1))) (DL.da_cons (DL.de_op DL.os_ix (DL.dk_var 1) (DL.dk_of (DL.de_c fun _ => .int 2))) DL.da_nil))) (DL.len_cons (DL.len_cons (DL.len_cons DL.len_nil))))) (DL.dk_of (DL.de_c fun _ => .int 0))))))) (by decide) h

def bod_check_triangles : DL.M DL.Out := (DL.seqM (DL.ifM (DL.notM (DL.trE (DL.kE (DL.isiE .list (DL.vK 1)))))
 (DL.raiseM 2 (DL.op1 DL.opNeg (DL.kE (DL.cE (.int 1)))))
 DL.nxM)
 (DL.seqM (DL.asgM 2 (DL.dictE (DL.lcE (DL.itE (DL.vE 0)) (DL.nmG 5) DL.yesM (DL.tupE (DL.consA (DL.vE 5) (DL.consA (DL.cE (.bool true)) DL.nilA))) [5])))
 (DL.forM (DL.enumE (DL.consA (DL.vE 1) DL.nilA)) (DL.unlG 2 (DL.consG (DL.nmG 3) (DL.consG (DL.nmG 4) DL.nilG)))
 (DL.ifM (DL.notM (DL.trE (DL.kE (DL.callE mir_is_corners (DL.consA (DL.vE 2) (DL.consA (DL.vE 4) DL.nilA))))))
 (DL.raiseM 2 (DL.vE 3))
 DL.nxM))))
def mir_check_triangles : DL.Mir := DL.runB bod_check_triangles 6
theorem okx_check_triangles (T : Tops K mg) : FnOk P w K mg base (L2.CX P w) 5 (He.ga K "check_triangles") T.fd_check_triangles P_check_triangles (DL.dSp (kt K P w W F) 2 mir_check_triangles) := by
  refine T.F_check_triangles.ok sc_check_triangles (fun vs H Q E h => h.1) (fun cdv A outer s H vs Q E hr h => ?_)
  refine ⟨_, (pss_cons (ps_if (pt_not (pt_truth (pe_callB (call_isiK0 K) (by rfl) T.m_isinstance (by decide +kernel) (pa_cons (pv 1) (pa_cons (pe_bltn (v := .ty (DL.Ty.nm .list)) rfl T.m_list (by decide +kernel) rfl) pa_nil))) (by intro _; rfl)))
       (pss_one (ps_raise rfl (takes_of rfl rfl rfl rfl) (pmk_oexA T.X_InvalidTriangles T.i_InvalidTriangles T.t_InvalidTriangles (ok_InvalidTriangles_init T) (hr.mono (by decide)) (b_InvalidTriangles_init T) pass0 (by rfl) T.g_InvalidTriangles (pa_cons (pe_un un_neg pe_int) pa_nil))))
       pss_nil)
       (pss_cons (ps_set (i := 2) sc_check_triangles.nd rfl (.inl rfl) (pe_callTy (DL.cr_dictX (T := kt K P w W F) rfl hr.units) (by rfl) T.m_dict (by decide +kernel) (pa_cons (pe_lc (own := [("site", 5)]) (g := gName 5) (tt := tYes) rfl sc_check_triangles.nd (DL.pi_seq K (pv 0)) (blkOk_by (own := [("site", 5)]) (N := N_check_triangles) (sc := defScope (top 31)) (by decide +kernel)) (fun _ _ _ _ _ => (pg_name (i := 5) sc_check_triangles.nd rfl (.inl rfl))) (fun _ _ _ _ _ => pts_nil) (fun bs bH bC bcl bfp => (pe_tup (pa_cons (pv 5) (pa_cons pe_bl pa_nil))))) pa_nil)))
       (pss_one (ps_for (passes_of rfl) rfl (pi_enum (by rfl) T.m_enumerate (pa_cons (pv 1) pa_nil)) (DL.pg_sq K rfl (pgs_cons (pg_name (i := 3) sc_check_triangles.nd rfl (.inl rfl)) (pgs_cons (pg_name (i := 4) sc_check_triangles.nd rfl (.inl rfl)) pgs_nil)))
       (pss_one (ps_if (pt_not (pt_truth (pe_call (ok_is_corners (P := P) (w := w) (W := W) (F := F) T) (hr.mono (by decide)) (by rfl) T.g_is_corners T.F_is_corners.kp (b_is_corners T) .nil (DL.passE (E := E)) (pa_cons (pv 2) (pa_cons (pv 4) pa_nil))) (by intro _; rfl)))
       (pss_one (ps_raise rfl (takes_of rfl rfl rfl rfl) (pmk_oexA T.X_InvalidTriangles T.i_InvalidTriangles T.t_InvalidTriangles (ok_InvalidTriangles_init T) (hr.mono (by decide)) (b_InvalidTriangles_init T) pass0 (by rfl) T.g_InvalidTriangles (pa_cons (pv 3) pa_nil))))
       pss_nil)))))), ?_⟩
  exact DL.body_ok (T := kt K P w W F) (E := E) (f := bod_check_triangles) (N := N_check_triangles) (n := 2) ((DL.ds_seq (DL.ds_if (DL.dt_not (DL.dt_truth (DL.dk_of (DL.de_isi .list (DL.dk_var 1)))))
       (DL.ds_raise 2 (DL.de_neg (DL.dk_of (DL.de_c fun _ => .int 1))))
       DL.ds_next)
       (DL.ds_seq (DL.ds_asg 2 (DL.de_dict (DL.de_lc (vs := [5]) (by decide) (DL.di_seq (DL.de_var 0)) (DL.dg_name 5) DL.dt_yes (DL.de_tup (DL.da_cons (DL.de_var 5) (DL.da_cons (DL.de_c fun _ => .bl true) DL.da_nil))))))
       (DL.ds_for (DL.di_enum (DL.da_cons (DL.de_var 1) DL.da_nil)) (DL.dg_sq (n := 2) (DL.dgs_cons (DL.dg_name 3) (DL.dgs_cons (DL.dg_name 4) DL.dgs_nil)))
       (DL.ds_if (DL.dt_not (DL.dt_truth (DL.dk_of (DL.de_call (DL.da_cons (DL.de_var 2) (DL.da_cons (DL.de_var 4) DL.da_nil)) (DL.len_cons (DL.len_cons DL.len_nil))))))
       (DL.ds_raise 2 (DL.de_var 3))
       DL.ds_next))))) (by decide) h

end

end NC
namespace NC
section
variable {P : Program} {w : World} {K : PySem.W.Frag} {mg : Str → Option Value} {base : Heap} {W : List (Addr × Str)} {F : Int → Hp → Addr → Prop}
def bod_facing : DL.M DL.Out := (DL.seqM (DL.asgM 1 DL.dnewE)
 (DL.seqM (DL.forM (DL.itE (DL.vE 0)) (DL.unlG 3 (DL.consG (DL.nmG 2) (DL.consG (DL.nmG 3) (DL.consG (DL.nmG 4) DL.nilG))))
 (DL.seqM (DL.ifM (DL.tE (DL.op2 DL.opLt (DL.kE (DL.callE mir_turn (DL.consA (DL.vE 2) (DL.consA (DL.vE 3) (DL.consA (DL.vE 4) DL.nilA))))) (DL.kE (DL.cE (.int 0)))))
 (DL.parM 2 3 (DL.consV (DL.vE 3) (DL.consV (DL.vE 2) DL.nilV)))
 DL.nxM)
 (DL.forM (DL.itE (DL.lstE (DL.consA (DL.tupE (DL.consA (DL.vE 2) (DL.consA (DL.vE 3) (DL.consA (DL.vE 4) DL.nilA)))) (DL.consA (DL.tupE (DL.consA (DL.vE 3) (DL.consA (DL.vE 4) (DL.consA (DL.vE 2) DL.nilA)))) (DL.consA (DL.tupE (DL.consA (DL.vE 4) (DL.consA (DL.vE 2) (DL.consA (DL.vE 3) DL.nilA)))) DL.nilA))))) (DL.nmG 5)
 (DL.seqM (DL.ifM (DL.tE (DL.xinE false 1 (DL.kE (DL.slE (DL.vK 5) DL.noO (DL.someO (DL.kE (DL.cE (.int 2))))))))
 (DL.retM (DL.cE .none))
 DL.nxM)
 (DL.xputM 1 (DL.kE (DL.slE (DL.vK 5) DL.noO (DL.someO (DL.kE (DL.cE (.int 2)))))) (DL.op2 DL.opIx (DL.vK 5) (DL.kE (DL.cE (.int 2)))))))))
 (DL.retM (DL.vM 1))))
def mir_facing : DL.Mir := DL.runB bod_facing 6
theorem ok_facing (T : Tops K mg) : FnOk P w K mg base CX0 2 (He.ga K "facing") T.fd_facing P_facing (DL.dSp (kt K P w W F) 1 mir_facing) := by
  refine T.F_facing.ok sc_facing (fun vs H Q E h => h.1) (fun cdv A outer s H vs Q E hr h => ?_)
  refine ⟨_, PSs.nox ((pss_cons (ps_set (i := 1) sc_facing.nd rfl (.inl rfl) (DL.pe_dnewX (T := kt K P w W F)))
       (pss_cons (ps_for PassesOwn.never rfl (DL.pi_seq K (pv 0)) (DL.pg_sq K rfl (pgs_cons (pg_name (i := 2) sc_facing.nd rfl (.inl rfl)) (pgs_cons (pg_name (i := 3) sc_facing.nd rfl (.inl rfl)) (pgs_cons (pg_name (i := 4) sc_facing.nd rfl (.inl rfl)) pgs_nil))))
       (pss_cons (ps_if (pt_cmpR op_lt (pe_call (ok_turn (P := P) (w := w) (W := W) (F := F) T) (hr.mono (by decide)) (by rfl) T.g_turn T.F_turn.kp (b_turn T) .nil (DL.passE (E := E)) (pa_cons (pv 2) (pa_cons (pv 3) (pa_cons (pv 4) pa_nil)))) pe_int (nomark _))
       (pss_one (ps_par (i := 2) (j := 3) (by rfl) sc_facing.nd rfl rfl (by decide) rfl rfl (pa_cons (pv 3) (pa_cons (pv 2) pa_nil)) (by rfl)))
       pss_nil)
       (pss_one (ps_for PassesOwn.never rfl (DL.pi_seq K (pe_lst (pa_cons (pe_tup (pa_cons (pv 2) (pa_cons (pv 3) (pa_cons (pv 4) pa_nil)))) (pa_cons (pe_tup (pa_cons (pv 3) (pa_cons (pv 4) (pa_cons (pv 2) pa_nil)))) (pa_cons (pe_tup (pa_cons (pv 4) (pa_cons (pv 2) (pa_cons (pv 3) pa_nil)))) pa_nil))))) (pg_name (i := 5) sc_facing.nd rfl (.inl rfl))
       (pss_cons (ps_if (pt_cmp (DL.pc_xin (T := kt K P w W F) hr.units (pe_slice (DL.sl_U K) (pv 5) po_none (po_some pe_int)) (pv 1)) rfl)
       (pss_one (ps_ret pe_non))
       pss_nil)
       (pss_one (DL.ps_xput (T := kt K P w W F) hr.units (pv 1) (pe_slice (DL.sl_U K) (pv 5) po_none (po_some pe_int)) (pe_ix (DL.ix_U K) (pv 5) pe_int (fun _ _ => rfl)) rfl)))))))
       (pss_one (ps_ret (pv 1)))))), ?_⟩
  exact DL.body_ok (T := kt K P w W F) (E := E) (f := bod_facing) (N := N_facing) (n := 1) ((DL.ds_seq (DL.ds_asg 1 DL.de_dnew)
       (DL.ds_seq (DL.ds_for (DL.di_seq (DL.de_var 0)) (DL.dg_sq (n := 3) (DL.dgs_cons (DL.dg_name 2) (DL.dgs_cons (DL.dg_name 3) (DL.dgs_cons (DL.dg_name 4) DL.dgs_nil))))
       (DL.ds_seq (DL.ds_if (DL.dt_of' (DL.de_op DL.os_lt (DL.dk_of (DL.de_call (DL.da_cons (DL.de_var 2) (DL.da_cons (DL.de_var 3) (DL.da_cons (DL.de_var 4) DL.da_nil))) (DL.len_cons (DL.len_cons (DL.len_cons DL.len_nil))))) (DL.dk_of (DL.de_c fun _ => .int 0))))
       (DL.ds_par 2 3 (DL.dv_cons (DL.de_var 3) (DL.dv_cons (DL.de_var 2) DL.dv_nil)))
       DL.ds_next)
       (DL.ds_for (DL.di_seq (DL.de_lst (DL.da_cons (DL.de_tup (DL.da_cons (DL.de_var 2) (DL.da_cons (DL.de_var 3) (DL.da_cons (DL.de_var 4) DL.da_nil)))) (DL.da_cons (DL.de_tup (DL.da_cons (DL.de_var 3) (DL.da_cons (DL.de_var 4) (DL.da_cons (DL.de_var 2) DL.da_nil)))) (DL.da_cons (DL.de_tup (DL.da_cons (DL.de_var 4) (DL.da_cons (DL.de_var 2) (DL.da_cons (DL.de_var 3) DL.da_nil)))) DL.da_nil))))) (DL.dg_name 5)
       (DL.ds_seq (DL.ds_if (DL.dt_of (DL.de_xin false 1 (DL.dk_of (DL.de_sl (DL.dk_var 5) DL.do_none (DL.do_some (DL.dk_of (DL.de_c fun _ => .int 2)))))))
       (DL.ds_ret (DL.de_c fun _ => .non))
       DL.ds_next)
       (DL.ds_xput 1 (DL.de_op DL.os_ix (DL.dk_var 5) (DL.dk_of (DL.de_c fun _ => .int 2))) (DL.dk_of (DL.de_sl (DL.dk_var 5) DL.do_none (DL.do_some (DL.dk_of (DL.de_c fun _ => .int 2))))))))))
       (DL.ds_ret (DL.de_move 1))))) (by decide) h

def bod_is_filling : DL.M DL.Out := (DL.seqM (DL.asgM 2 (DL.cbE DL.opSorted (DL.consP (DL.vK 0) DL.nilP)))
 (DL.seqM (DL.ifM (DL.orM (DL.tE (DL.op2 DL.opLt (DL.kE (DL.cbE DL.opLen (DL.consP (DL.vK 2) DL.nilP))) (DL.kE (DL.cE (.int 3))))) (DL.trE (DL.kE (DL.cbE DL.opAll (DL.consP (DL.kE (DL.lcE (DL.itE (DL.vE 2)) (DL.nmG 9) DL.yesM (DL.op2 DL.opEq (DL.kE (DL.callE mir_turn (DL.consA (DL.op2 DL.opIx (DL.vK 2) (DL.kE (DL.cE (.int 0)))) (DL.consA (DL.op2 DL.opIx (DL.vK 2) (DL.kE (DL.op1 DL.opNeg (DL.kE (DL.cE (.int 1)))))) (DL.consA (DL.vE 9) DL.nilA))))) (DL.kE (DL.cE (.int 0)))) [9])) DL.nilP)))))
 (DL.retM (DL.op2 DL.opEq (DL.vK 1) (DL.kE (DL.lstE DL.nilA))))
 DL.nxM)
 (DL.seqM (DL.parN [3, 4] (DL.consV (DL.callE mir_border_of (DL.consA (DL.vE 2) DL.nilA)) (DL.consV (DL.callE mir_facing (DL.consA (DL.vE 1) DL.nilA)) DL.nilV)))
 (DL.seqM (DL.ifM (DL.tE (DL.xisN false 4))
 (DL.retM (DL.cE (.bool false)))
 DL.nxM)
 (DL.seqM (DL.asgM 5 (DL.dictE (DL.lcE (DL.rng1E (DL.consA (DL.cbE DL.opLen (DL.consP (DL.vK 3) DL.nilP)) DL.nilA)) (DL.nmG 7) DL.yesM (DL.tupE (DL.consA (DL.tupE (DL.consA (DL.op2 DL.opIx (DL.vK 3) (DL.kE (DL.op2 DL.opSub (DL.vK 7) (DL.kE (DL.cE (.int 1)))))) (DL.consA (DL.op2 DL.opIx (DL.vK 3) (DL.vK 7)) DL.nilA))) (DL.consA (DL.cE (.bool true)) DL.nilA))) [7])))
 (DL.seqM (DL.asgM 6 (DL.dictE (DL.lcE (DL.dkE (DL.vE 4)) (DL.nmG 8) DL.yesM (DL.tupE (DL.consA (DL.op2 DL.opIx (DL.vK 8) (DL.kE (DL.cE (.int 0)))) (DL.consA (DL.cE (.bool true)) DL.nilA))) [8])))
 (DL.seqM (DL.ifM (DL.orM (DL.tE (DL.op2 DL.opNe (DL.kE (DL.xlenE 6)) (DL.kE (DL.cbE DL.opLen (DL.consP (DL.vK 2) DL.nilP))))) (DL.notM (DL.trE (DL.kE (DL.cbE DL.opAll (DL.consP (DL.kE (DL.lcE (DL.dkE (DL.vE 5)) (DL.nmG 8) DL.yesM (DL.andV (DL.xinE false 4 (DL.vK 8)) (DL.xinE true 4 (DL.kE (DL.op1 DL.opRvT (DL.vK 8))))) [8])) DL.nilP))))))
 (DL.retM (DL.cE (.bool false)))
 DL.nxM)
 (DL.retM (DL.cbE DL.opAll (DL.consP (DL.kE (DL.lcE (DL.dkE (DL.vE 4)) (DL.nmG 8) DL.yesM (DL.orV (DL.xinE false 5 (DL.vK 8)) (DL.xinE false 4 (DL.kE (DL.op1 DL.opRvT (DL.vK 8))))) [8])) DL.nilP))))))))))
def mir_is_filling : DL.Mir := DL.runB bod_is_filling 10
theorem ok_is_filling (T : Tops K mg) : FnOk P w K mg base CX0 4 (He.ga K "is_filling") T.fd_is_filling P_is_filling (DL.dSp (kt K P w W F) 2 mir_is_filling) := by
  refine T.F_is_filling.ok sc_is_filling (fun vs H Q E h => h.1) (fun cdv A outer s H vs Q E hr h => ?_)
  refine ⟨_, PSs.nox ((pss_cons (ps_set (i := 2) sc_is_filling.nd rfl (.inr rfl) (pe_callB (DL.cr_srt K hr.units) (by rfl) T.m_sorted (by decide +kernel) (pa_cons (pv 0) pa_nil)))
       (pss_cons (ps_if (PW.pt (pw_or (pt_cmpR op_lt (pe_callB (DL.call_lenU K) (by rfl) T.m_len (by decide +kernel) (pa_cons (pv 2) pa_nil)) pe_int (nomark _)) (pw_or1 (pt_truth (pe_callB (cr_allK K rfl) (by rfl) T.m_all (by decide +kernel) (pa_cons (pe_lc (own := [("site", 9)]) (g := gName 9) (tt := tYes) rfl sc_is_filling.nd (DL.pi_seq K (pv 2)) (blkOk_by (own := [("site", 9)]) (N := N_is_filling) (sc := defScope (top 33)) (by decide +kernel)) (fun _ _ _ _ _ => (pg_name (i := 9) sc_is_filling.nd rfl (.inl rfl))) (fun _ _ _ _ _ => pts_nil) (fun bs bH bC bcl bfp => (pe_cmpR (DL.op_eqU K hr.units) (pe_call (ok_turn (P := P) (w := w) (W := W) (F := F) T) (hr.mono (by decide)) (by rfl) T.g_turn T.F_turn.kp (b_turn T) .nil (DL.passE (E := E)) (pa_cons (pe_ix (DL.ix_U K) (pv 2) pe_int (fun _ _ => rfl)) (pa_cons (pe_ix (DL.ix_U K) (pv 2) (pe_un un_neg pe_int) (fun _ _ => rfl)) (pa_cons (pv 9) pa_nil)))) pe_int (nomark _)))) pa_nil)) (by intro _; rfl)))))
       (pss_one (ps_ret (pe_cmpR (DL.op_eqU K hr.units) (pv 1) (pe_lst pa_nil) (nomark _))))
       pss_nil)
       (pss_cons (ps_asg (pe_tup (pa_cons (pe_call (ok_border_of (P := P) (w := w) (W := W) (F := F) T) (hr.mono (by decide)) (by rfl) T.g_border_of T.F_border_of.kp (b_border_of T) .nil (DL.passE (E := E)) (pa_cons (pv 2) pa_nil)) (pa_cons (pe_call (ok_facing (P := P) (w := w) (W := W) (F := F) T) (hr.mono (by decide)) (by rfl) T.g_facing T.F_facing.kp (b_facing T) .nil (DL.passE (E := E)) (pa_cons (pv 1) pa_nil)) pa_nil))) (DL.pg_sq K rfl (pgs_cons (pg_name (i := 3) sc_is_filling.nd rfl (.inr rfl)) (pgs_cons (pg_name (i := 4) sc_is_filling.nd rfl (.inr rfl)) pgs_nil))))
       (pss_cons (ps_if (pt_cmpR DL.op_isNU (pv 4) pe_non (nomark _))
       (pss_one (ps_ret pe_bl))
       pss_nil)
       (pss_cons (ps_set (i := 5) sc_is_filling.nd rfl (.inr rfl) (pe_callTy (DL.cr_dictX (T := kt K P w W F) rfl hr.units) (by rfl) T.m_dict (by decide +kernel) (pa_cons (pe_lc (own := [("at", 7)]) (g := gName 7) (tt := tYes) rfl sc_is_filling.nd (pi_range1 (by rfl) T.m_range (pa_cons (pe_callB (DL.call_lenU K) (by rfl) T.m_len (by decide +kernel) (pa_cons (pv 3) pa_nil)) pa_nil)) (blkOk_by (own := [("at", 7)]) (N := N_is_filling) (sc := defScope (top 33)) (by decide +kernel)) (fun _ _ _ _ _ => (pg_name (i := 7) sc_is_filling.nd rfl (.inl rfl))) (fun _ _ _ _ _ => pts_nil) (fun bs bH bC bcl bfp => (pe_tup (pa_cons (pe_tup (pa_cons (pe_ix (DL.ix_U K) (pv 3) (pe_op op_sub (pv 7) pe_int) (fun _ _ => rfl)) (pa_cons (pe_ix (DL.ix_U K) (pv 3) (pv 7) (fun _ _ => rfl)) pa_nil))) (pa_cons pe_bl pa_nil))))) pa_nil)))
       (pss_cons (ps_set (i := 6) sc_is_filling.nd rfl (.inl rfl) (pe_callTy (DL.cr_dictX (T := kt K P w W F) rfl hr.units) (by rfl) T.m_dict (by decide +kernel) (pa_cons (pe_lc (own := [("side", 8)]) (g := gName 8) (tt := tYes) rfl sc_is_filling.nd (DL.pi_dictX (T := kt K P w W F) (pv 4)) (blkOk_by (own := [("side", 8)]) (N := N_is_filling) (sc := defScope (top 33)) (by decide +kernel)) (fun _ _ _ _ _ => (pg_name (i := 8) sc_is_filling.nd rfl (.inl rfl))) (fun _ _ _ _ _ => pts_nil) (fun bs bH bC bcl bfp => (pe_tup (pa_cons (pe_ix (DL.ix_U K) (pv 8) pe_int (fun _ _ => rfl)) (pa_cons pe_bl pa_nil))))) pa_nil)))
       (pss_cons (ps_if (PW.pt (pw_or (pt_cmpR (DL.op_neU K hr.units) (pe_callB (DL.cr_lenX (T := kt K P w W F)) (by rfl) T.m_len (by decide +kernel) (pa_cons (pv 6) pa_nil)) (pe_callB (DL.call_lenU K) (by rfl) T.m_len (by decide +kernel) (pa_cons (pv 2) pa_nil)) (nomark _)) (pw_or1 (pt_not (pt_truth (pe_callB (cr_allK K rfl) (by rfl) T.m_all (by decide +kernel) (pa_cons (pe_lc (own := [("side", 8)]) (g := gName 8) (tt := tYes) rfl sc_is_filling.nd (DL.pi_dictX (T := kt K P w W F) (pv 5)) (blkOk_by (own := [("side", 8)]) (N := N_is_filling) (sc := defScope (top 33)) (by decide +kernel)) (fun _ _ _ _ _ => (pg_name (i := 8) sc_is_filling.nd rfl (.inl rfl))) (fun _ _ _ _ _ => pts_nil) (fun bs bH bC bcl bfp => (pe_and (pe_cmp (DL.pc_xin (T := kt K P w W F) hr.units (pv 8) (pv 4)) rfl) (pe_one (pe_cmp (DL.pc_xnotin (T := kt K P w W F) hr.units (DL.pe_rvT K (pv 8)) (pv 4)) rfl))))) pa_nil)) (by intro _; rfl))))))
       (pss_one (ps_ret pe_bl))
       pss_nil)
       (pss_one (ps_ret (pe_callB (cr_allK K rfl) (by rfl) T.m_all (by decide +kernel) (pa_cons (pe_lc (own := [("side", 8)]) (g := gName 8) (tt := tYes) rfl sc_is_filling.nd (DL.pi_dictX (T := kt K P w W F) (pv 4)) (blkOk_by (own := [("side", 8)]) (N := N_is_filling) (sc := defScope (top 33)) (by decide +kernel)) (fun _ _ _ _ _ => (pg_name (i := 8) sc_is_filling.nd rfl (.inl rfl))) (fun _ _ _ _ _ => pts_nil) (fun bs bH bC bcl bfp => (pe_or (pe_cmp (DL.pc_xin (T := kt K P w W F) hr.units (pv 8) (pv 5)) rfl) (pe_one (pe_cmp (DL.pc_xin (T := kt K P w W F) hr.units (DL.pe_rvT K (pv 8)) (pv 4)) rfl))))) pa_nil)))))))))))), ?_⟩
  exact DL.body_ok (T := kt K P w W F) (E := E) (f := bod_is_filling) (N := N_is_filling) (n := 2) ((DL.ds_seq (DL.ds_asg 2 (DL.de_cb DL.cs_sorted (DL.dp_cons (DL.dk_var 0) DL.dp_nil)))
       (DL.ds_seq (DL.ds_if (DL.dt_or (DL.dt_of' (DL.de_op DL.os_lt (DL.dk_of (DL.de_cb DL.cs_len (DL.dp_cons (DL.dk_var 2) DL.dp_nil))) (DL.dk_of (DL.de_c fun _ => .int 3)))) (DL.dt_truth (DL.dk_of (DL.de_cb DL.cs_all (DL.dp_cons (DL.dk_of (DL.de_lc (vs := [9]) (by decide) (DL.di_seq (DL.de_var 2)) (DL.dg_name 9) DL.dt_yes (DL.de_op DL.os_eq (DL.dk_of (DL.de_call (DL.da_cons (DL.de_op DL.os_ix (DL.dk_var 2) (DL.dk_of (DL.de_c fun _ => .int 0))) (DL.da_cons (DL.de_op DL.os_ix (DL.dk_var 2) (DL.dk_of (DL.de_neg (DL.dk_of (DL.de_c fun _ => .int 1))))) (DL.da_cons (DL.de_var 9) DL.da_nil))) (DL.len_cons (DL.len_cons (DL.len_cons DL.len_nil))))) (DL.dk_of (DL.de_c fun _ => .int 0))))) DL.dp_nil)))))
       (DL.ds_ret (DL.de_op DL.os_eq (DL.dk_var 1) (DL.dk_of (DL.de_lst DL.da_nil))))
       DL.ds_next)
       (DL.ds_seq (DL.ds_parT [3, 4] (DL.dv_cons (DL.de_call (DL.da_cons (DL.de_var 2) DL.da_nil) (DL.len_cons DL.len_nil)) (DL.dv_cons (DL.de_call (DL.da_cons (DL.de_var 1) DL.da_nil) (DL.len_cons DL.len_nil)) DL.dv_nil)))
       (DL.ds_seq (DL.ds_if (DL.dt_of' (DL.de_xisN 4))
       (DL.ds_ret (DL.de_c fun _ => .bl false))
       DL.ds_next)
       (DL.ds_seq (DL.ds_asg 5 (DL.de_dict (DL.de_lc (vs := [7]) (by decide) (DL.di_rng1 (DL.da_cons (DL.de_cb DL.cs_len (DL.dp_cons (DL.dk_var 3) DL.dp_nil)) DL.da_nil)) (DL.dg_name 7) DL.dt_yes (DL.de_tup (DL.da_cons (DL.de_tup (DL.da_cons (DL.de_op DL.os_ix (DL.dk_var 3) (DL.dk_of (DL.de_op DL.os_sub (DL.dk_var 7) (DL.dk_of (DL.de_c fun _ => .int 1))))) (DL.da_cons (DL.de_op DL.os_ix (DL.dk_var 3) (DL.dk_var 7)) DL.da_nil))) (DL.da_cons (DL.de_c fun _ => .bl true) DL.da_nil))))))
       (DL.ds_seq (DL.ds_asg 6 (DL.de_dict (DL.de_lc (vs := [8]) (by decide) (DL.di_dict (DL.de_var 4)) (DL.dg_name 8) DL.dt_yes (DL.de_tup (DL.da_cons (DL.de_op DL.os_ix (DL.dk_var 8) (DL.dk_of (DL.de_c fun _ => .int 0))) (DL.da_cons (DL.de_c fun _ => .bl true) DL.da_nil))))))
       (DL.ds_seq (DL.ds_if (DL.dt_or (DL.dt_of' (DL.de_op DL.os_ne (DL.dk_of (DL.de_xlen 6)) (DL.dk_of (DL.de_cb DL.cs_len (DL.dp_cons (DL.dk_var 2) DL.dp_nil))))) (DL.dt_not (DL.dt_truth (DL.dk_of (DL.de_cb DL.cs_all (DL.dp_cons (DL.dk_of (DL.de_lc (vs := [8]) (by decide) (DL.di_dict (DL.de_var 5)) (DL.dg_name 8) DL.dt_yes (DL.de_and (DL.de_xin false 4 (DL.dk_var 8)) (DL.de_xin true 4 (DL.dk_of (DL.de_rvT (DL.dk_var 8))))))) DL.dp_nil))))))
       (DL.ds_ret (DL.de_c fun _ => .bl false))
       DL.ds_next)
       (DL.ds_ret (DL.de_cb DL.cs_all (DL.dp_cons (DL.dk_of (DL.de_lc (vs := [8]) (by decide) (DL.di_dict (DL.de_var 4)) (DL.dg_name 8) DL.dt_yes (DL.de_or (DL.de_xin false 5 (DL.dk_var 8)) (DL.de_xin false 4 (DL.dk_of (DL.de_rvT (DL.dk_var 8))))))) DL.dp_nil))))))))))) (by decide) h

def bod_checked : DL.M DL.Out := (DL.seqM (DL.dropM (DL.callE mir_check_sites (DL.consA (DL.vE 0) DL.nilA)))
 (DL.seqM (DL.dropM (DL.callE mir_check_triangles (DL.consA (DL.vE 0) (DL.consA (DL.vE 1) DL.nilA))))
 (DL.seqM (DL.ifM (DL.notM (DL.trE (DL.kE (DL.callE mir_is_filling (DL.consA (DL.vE 0) (DL.consA (DL.vE 1) DL.nilA))))))
 (DL.raiseM 2 (DL.cbE DL.opLen (DL.consP (DL.vK 1) DL.nilP)))
 DL.nxM)
 (DL.retM (DL.callE mir_facing (DL.consA (DL.vE 1) DL.nilA))))))
def mir_checked : DL.Mir := DL.runB bod_checked 2
theorem okx_checked (T : Tops K mg) : FnOk P w K mg base (L2.CX P w) 6 (He.ga K "checked") T.fd_checked P_checked (DL.dSp (kt K P w W F) 2 mir_checked) := by
  refine T.F_checked.ok sc_checked (fun vs H Q E h => h.1) (fun cdv A outer s H vs Q E hr h => ?_)
  refine ⟨_, (pss_cons (ps_expr (pe_call (okx_check_sites (P := P) (w := w) (W := W) (F := F) T) (hr.mono (by decide)) (by rfl) T.g_check_sites T.F_check_sites.kp (b_check_sites T) .nil (passes_call (takes_of rfl rfl rfl rfl) (fun _ _ _ _ h => h)) (pa_cons (pv 0) pa_nil)))
       (pss_cons (ps_expr (pe_call (okx_check_triangles (P := P) (w := w) (W := W) (F := F) T) (hr.mono (by decide)) (by rfl) T.g_check_triangles T.F_check_triangles.kp (b_check_triangles T) .nil (passes_call (takes_of rfl rfl rfl rfl) (fun _ _ _ _ h => h)) (pa_cons (pv 0) (pa_cons (pv 1) pa_nil))))
       (pss_cons (ps_if (pt_not (pt_truth (pe_call (ok_is_filling (P := P) (w := w) (W := W) (F := F) T) (hr.mono (by decide)) (by rfl) T.g_is_filling T.F_is_filling.kp (b_is_filling T) .nil (DL.passE (E := E)) (pa_cons (pv 0) (pa_cons (pv 1) pa_nil))) (by intro _; rfl)))
       (pss_one (ps_raise rfl (takes_of rfl rfl rfl rfl) (pmk_oexA T.X_InvalidTriangles T.i_InvalidTriangles T.t_InvalidTriangles (ok_InvalidTriangles_init T) (hr.mono (by decide)) (b_InvalidTriangles_init T) pass0 (by rfl) T.g_InvalidTriangles (pa_cons (pe_callB (DL.call_lenU K) (by rfl) T.m_len (by decide +kernel) (pa_cons (pv 1) pa_nil)) pa_nil))))
       pss_nil)
       (pss_one (ps_ret (pe_call (ok_facing (P := P) (w := w) (W := W) (F := F) T) (hr.mono (by decide)) (by rfl) T.g_facing T.F_facing.kp (b_facing T) .nil (DL.passE (E := E)) (pa_cons (pv 1) pa_nil))))))), ?_⟩
  exact DL.body_ok (T := kt K P w W F) (E := E) (f := bod_checked) (N := N_checked) (n := 2) ((DL.ds_seq (DL.ds_drop (DL.de_call (DL.da_cons (DL.de_var 0) DL.da_nil) (DL.len_cons DL.len_nil)))
       (DL.ds_seq (DL.ds_drop (DL.de_call (DL.da_cons (DL.de_var 0) (DL.da_cons (DL.de_var 1) DL.da_nil)) (DL.len_cons (DL.len_cons DL.len_nil))))
       (DL.ds_seq (DL.ds_if (DL.dt_not (DL.dt_truth (DL.dk_of (DL.de_call (DL.da_cons (DL.de_var 0) (DL.da_cons (DL.de_var 1) DL.da_nil)) (DL.len_cons (DL.len_cons DL.len_nil))))))
       (DL.ds_raise 2 (DL.de_cb DL.cs_len (DL.dp_cons (DL.dk_var 1) DL.dp_nil)))
       DL.ds_next)
       (DL.ds_ret (DL.de_call (DL.da_cons (DL.de_var 1) DL.da_nil) (DL.len_cons DL.len_nil))))))) (by decide) h

def bod_is_wrong : DL.M DL.Out := (DL.seqM (DL.ifM (DL.orM (DL.tE (DL.xinE true 0 (DL.kE (DL.tupE (DL.consA (DL.vE 1) (DL.consA (DL.vE 2) DL.nilA)))))) (DL.tE (DL.xinE true 0 (DL.kE (DL.tupE (DL.consA (DL.vE 2) (DL.consA (DL.vE 1) DL.nilA)))))))
 (DL.retM (DL.cE (.bool false)))
 DL.nxM)
 (DL.retM (DL.op2 DL.opGt (DL.kE (DL.callE mir_inside (DL.consA (DL.vE 1) (DL.consA (DL.vE 2) (DL.consA (DL.op2 DL.opXIx (DL.vK 0) (DL.kE (DL.tupE (DL.consA (DL.vE 1) (DL.consA (DL.vE 2) DL.nilA))))) (DL.consA (DL.op2 DL.opXIx (DL.vK 0) (DL.kE (DL.tupE (DL.consA (DL.vE 2) (DL.consA (DL.vE 1) DL.nilA))))) DL.nilA)))))) (DL.kE (DL.cE (.int 0))))))
def mir_is_wrong : DL.Mir := DL.runB bod_is_wrong 3
theorem ok_is_wrong (T : Tops K mg) : FnOk P w K mg base CX0 3 (He.ga K "is_wrong") T.fd_is_wrong P_is_wrong (DL.dSp (kt K P w W F) 3 mir_is_wrong) := by
  refine T.F_is_wrong.ok sc_is_wrong (fun vs H Q E h => h.1) (fun cdv A outer s H vs Q E hr h => ?_)
  refine ⟨_, PSs.nox ((pss_cons (ps_if (PW.pt (pw_or (pt_cmp (DL.pc_xnotin (T := kt K P w W F) hr.units (pe_tup (pa_cons (pv 1) (pa_cons (pv 2) pa_nil))) (pv 0)) rfl) (pw_or1 (pt_cmp (DL.pc_xnotin (T := kt K P w W F) hr.units (pe_tup (pa_cons (pv 2) (pa_cons (pv 1) pa_nil))) (pv 0)) rfl))))
       (pss_one (ps_ret pe_bl))
       pss_nil)
       (pss_one (ps_ret (pe_cmpR op_gt (pe_call (ok_inside (P := P) (w := w) (W := W) (F := F) T) (hr.mono (by decide)) (by rfl) T.g_inside T.F_inside.kp (b_inside T) .nil (DL.passE (E := E)) (pa_cons (pv 1) (pa_cons (pv 2) (pa_cons (pe_ix (DL.ix_X (T := kt K P w W F) hr.units) (pv 0) (pe_tup (pa_cons (pv 1) (pa_cons (pv 2) pa_nil))) (fun _ _ => rfl)) (pa_cons (pe_ix (DL.ix_X (T := kt K P w W F) hr.units) (pv 0) (pe_tup (pa_cons (pv 2) (pa_cons (pv 1) pa_nil))) (fun _ _ => rfl)) pa_nil))))) pe_int (nomark _)))))), ?_⟩
  exact DL.body_ok (T := kt K P w W F) (E := E) (f := bod_is_wrong) (N := N_is_wrong) (n := 3) ((DL.ds_seq (DL.ds_if (DL.dt_or (DL.dt_of (DL.de_xin true 0 (DL.dk_of (DL.de_tup (DL.da_cons (DL.de_var 1) (DL.da_cons (DL.de_var 2) DL.da_nil)))))) (DL.dt_of (DL.de_xin true 0 (DL.dk_of (DL.de_tup (DL.da_cons (DL.de_var 2) (DL.da_cons (DL.de_var 1) DL.da_nil)))))))
       (DL.ds_ret (DL.de_c fun _ => .bl false))
       DL.ds_next)
       (DL.ds_ret (DL.de_op DL.os_gt (DL.dk_of (DL.de_call (DL.da_cons (DL.de_var 1) (DL.da_cons (DL.de_var 2) (DL.da_cons (DL.de_op DL.os_xix (DL.dk_var 0) (DL.dk_of (DL.de_tup (DL.da_cons (DL.de_var 1) (DL.da_cons (DL.de_var 2) DL.da_nil))))) (DL.da_cons (DL.de_op DL.os_xix (DL.dk_var 0) (DL.dk_of (DL.de_tup (DL.da_cons (DL.de_var 2) (DL.da_cons (DL.de_var 1) DL.da_nil))))) DL.da_nil)))) (DL.len_cons (DL.len_cons (DL.len_cons (DL.len_cons DL.len_nil)))))) (DL.dk_of (DL.de_c fun _ => .int 0)))))) (by decide) h

def bod_wrong_in : DL.M DL.Out := (DL.retM (DL.cbE DL.opSorted (DL.consP (DL.kE (DL.lcE (DL.dkE (DL.vE 0)) (DL.unlG 2 (DL.consG (DL.nmG 1) (DL.consG (DL.nmG 2) DL.nilG))) (DL.andM (DL.tE (DL.op2 DL.opLtT (DL.vK 1) (DL.vK 2))) (DL.trE (DL.kE (DL.callE mir_is_wrong (DL.consA (DL.vE 0) (DL.consA (DL.vE 1) (DL.consA (DL.vE 2) DL.nilA))))))) (DL.tupE (DL.consA (DL.vE 1) (DL.consA (DL.vE 2) DL.nilA))) [1, 2])) DL.nilP)))
def mir_wrong_in : DL.Mir := DL.runB bod_wrong_in 3
theorem ok_wrong_in (T : Tops K mg) : FnOk P w K mg base CX0 4 (He.ga K "wrong_in") T.fd_wrong_in P_wrong_in (DL.dSp (kt K P w W F) 1 mir_wrong_in) := by
  refine T.F_wrong_in.ok sc_wrong_in (fun vs H Q E h => h.1) (fun cdv A outer s H vs Q E hr h => ?_)
  refine ⟨_, PSs.nox ((pss_one (ps_ret (pe_callB (DL.cr_srt K hr.units) (by rfl) T.m_sorted (by decide +kernel) (pa_cons (pe_lc (own := [("a", 1), ("b", 2)]) (g := DL.gSq K 2 (gCons (gName 1) (gCons (gName 2) gNil))) rfl sc_wrong_in.nd (DL.pi_dictX (T := kt K P w W F) (pv 0)) (blkOk_by (own := [("a", 1), ("b", 2)]) (N := N_wrong_in) (sc := defScope (top 41)) (by decide +kernel)) (fun _ _ _ _ _ => (by exact (DL.pg_sq K rfl (pgs_cons (pg_name (i := 1) sc_wrong_in.nd rfl (.inl rfl)) (pgs_cons (pg_name (i := 2) sc_wrong_in.nd rfl (.inl rfl)) pgs_nil))))) (fun _ _ _ _ _ => (pts_one (PW.pt (pw_and (pt_cmpR (DL.op_ltU K hr.units) (pv 1) (pv 2) (nomark _)) (pw_and1 (DL.pt_truthK K (pe_call (ok_is_wrong (P := P) (w := w) (W := W) (F := F) T) (hr.mono (by decide)) (by rfl) T.g_is_wrong T.F_is_wrong.kp (b_is_wrong T) .nil (DL.passE (E := E)) (pa_cons (pv 0) (pa_cons (pv 1) (pa_cons (pv 2) pa_nil)))) (by intro _; rfl))))))) (fun bs bH bC bcl bfp => (pe_tup (pa_cons (pv 1) (pa_cons (pv 2) pa_nil))))) pa_nil))))), ?_⟩
  exact DL.body_ok (T := kt K P w W F) (E := E) (f := bod_wrong_in) (N := N_wrong_in) (n := 1) ((DL.ds_ret (DL.de_cb DL.cs_sorted (DL.dp_cons (DL.dk_of (DL.de_lc (vs := [1, 2]) (by decide) (DL.di_dict (DL.de_var 0)) (DL.dg_sq (n := 2) (DL.dgs_cons (DL.dg_name 1) (DL.dgs_cons (DL.dg_name 2) DL.dgs_nil))) (DL.dt_and (DL.dt_of' (DL.de_op DL.os_ltT (DL.dk_var 1) (DL.dk_var 2))) (DL.dt_truth (DL.dk_of (DL.de_call (DL.da_cons (DL.de_var 0) (DL.da_cons (DL.de_var 1) (DL.da_cons (DL.de_var 2) DL.da_nil))) (DL.len_cons (DL.len_cons (DL.len_cons DL.len_nil))))))) (DL.de_tup (DL.da_cons (DL.de_var 1) (DL.da_cons (DL.de_var 2) DL.da_nil))))) DL.dp_nil)))) (by decide) h

def bod_triangles_in : DL.M DL.Out := (DL.retM (DL.cbE DL.opSorted (DL.consP (DL.kE (DL.lcE (DL.dkE (DL.vE 0)) (DL.unlG 2 (DL.consG (DL.nmG 1) (DL.consG (DL.nmG 2) DL.nilG))) (DL.andM (DL.tE (DL.op2 DL.opLtT (DL.vK 1) (DL.vK 2))) (DL.tE (DL.op2 DL.opLtT (DL.vK 1) (DL.kE (DL.op2 DL.opXIx (DL.vK 0) (DL.kE (DL.tupE (DL.consA (DL.vE 1) (DL.consA (DL.vE 2) DL.nilA))))))))) (DL.tupE (DL.consA (DL.vE 1) (DL.consA (DL.vE 2) (DL.consA (DL.op2 DL.opXIx (DL.vK 0) (DL.kE (DL.tupE (DL.consA (DL.vE 1) (DL.consA (DL.vE 2) DL.nilA))))) DL.nilA)))) [1, 2])) DL.nilP)))
def mir_triangles_in : DL.Mir := DL.runB bod_triangles_in 3
theorem ok_triangles_in (T : Tops K mg) : FnOk P w K mg base CX0 1 (He.ga K "triangles_in") T.fd_triangles_in P_triangles_in (DL.dSp (kt K P w W F) 1 mir_triangles_in) := by
  refine T.F_triangles_in.ok sc_triangles_in (fun vs H Q E h => h.1) (fun cdv A outer s H vs Q E hr h => ?_)
  refine ⟨_, PSs.nox ((pss_one (ps_ret (pe_callB (DL.cr_srt K hr.units) (by rfl) T.m_sorted (by decide +kernel) (pa_cons (pe_lc (own := [("a", 1), ("b", 2)]) (g := DL.gSq K 2 (gCons (gName 1) (gCons (gName 2) gNil))) rfl sc_triangles_in.nd (DL.pi_dictX (T := kt K P w W F) (pv 0)) (blkOk_by (own := [("a", 1), ("b", 2)]) (N := N_triangles_in) (sc := defScope (top 42)) (by decide +kernel)) (fun _ _ _ _ _ => (by exact (DL.pg_sq K rfl (pgs_cons (pg_name (i := 1) sc_triangles_in.nd rfl (.inl rfl)) (pgs_cons (pg_name (i := 2) sc_triangles_in.nd rfl (.inl rfl)) pgs_nil))))) (fun _ _ _ _ _ => (pts_one (PW.pt (pw_and (pt_cmpR (DL.op_ltU K hr.units) (pv 1) (pv 2) (nomark _)) (pw_and1 (pt_cmpR (DL.op_ltU K hr.units) (pv 1) (pe_ix (DL.ix_X (T := kt K P w W F) hr.units) (pv 0) (pe_tup (pa_cons (pv 1) (pa_cons (pv 2) pa_nil))) (fun _ _ => rfl)) (nomark _))))))) (fun bs bH bC bcl bfp => (pe_tup (pa_cons (pv 1) (pa_cons (pv 2) (pa_cons (pe_ix (DL.ix_X (T := kt K P w W F) hr.units) (pv 0) (pe_tup (pa_cons (pv 1) (pa_cons (pv 2) pa_nil))) (fun _ _ => rfl)) pa_nil)))))) pa_nil))))), ?_⟩
  exact DL.body_ok (T := kt K P w W F) (E := E) (f := bod_triangles_in) (N := N_triangles_in) (n := 1) ((DL.ds_ret (DL.de_cb DL.cs_sorted (DL.dp_cons (DL.dk_of (DL.de_lc (vs := [1, 2]) (by decide) (DL.di_dict (DL.de_var 0)) (DL.dg_sq (n := 2) (DL.dgs_cons (DL.dg_name 1) (DL.dgs_cons (DL.dg_name 2) DL.dgs_nil))) (DL.dt_and (DL.dt_of' (DL.de_op DL.os_ltT (DL.dk_var 1) (DL.dk_var 2))) (DL.dt_of' (DL.de_op DL.os_ltT (DL.dk_var 1) (DL.dk_of (DL.de_op DL.os_xix (DL.dk_var 0) (DL.dk_of (DL.de_tup (DL.da_cons (DL.de_var 1) (DL.da_cons (DL.de_var 2) DL.da_nil))))))))) (DL.de_tup (DL.da_cons (DL.de_var 1) (DL.da_cons (DL.de_var 2) (DL.da_cons (DL.de_op DL.os_xix (DL.dk_var 0) (DL.dk_of (DL.de_tup (DL.da_cons (DL.de_var 1) (DL.da_cons (DL.de_var 2) DL.da_nil))))) DL.da_nil)))))) DL.dp_nil)))) (by decide) h

def bod_can_flip : DL.M DL.Out := (DL.seqM (DL.ifM (DL.orM (DL.tE (DL.xinE true 0 (DL.kE (DL.tupE (DL.consA (DL.vE 1) (DL.consA (DL.vE 2) DL.nilA)))))) (DL.tE (DL.xinE true 0 (DL.kE (DL.tupE (DL.consA (DL.vE 2) (DL.consA (DL.vE 1) DL.nilA)))))))
 (DL.retM (DL.cE (.bool false)))
 DL.nxM)
 (DL.seqM (DL.parM 3 4 (DL.consV (DL.op2 DL.opXIx (DL.vK 0) (DL.kE (DL.tupE (DL.consA (DL.vE 1) (DL.consA (DL.vE 2) DL.nilA))))) (DL.consV (DL.op2 DL.opXIx (DL.vK 0) (DL.kE (DL.tupE (DL.consA (DL.vE 2) (DL.consA (DL.vE 1) DL.nilA))))) DL.nilV)))
 (DL.retM (DL.chn DL.opLt DL.opLt (DL.kE (DL.callE mir_turn (DL.consA (DL.vE 4) (DL.consA (DL.vE 1) (DL.consA (DL.vE 3) DL.nilA))))) (DL.kE (DL.cE (.int 0))) (DL.kE (DL.callE mir_turn (DL.consA (DL.vE 4) (DL.consA (DL.vE 2) (DL.consA (DL.vE 3) DL.nilA)))))))))
def mir_can_flip : DL.Mir := DL.runB bod_can_flip 5
theorem ok_can_flip (T : Tops K mg) : FnOk P w K mg base CX0 2 (He.ga K "can_flip") T.fd_can_flip P_can_flip (DL.dSp (kt K P w W F) 3 mir_can_flip) := by
  refine T.F_can_flip.ok sc_can_flip (fun vs H Q E h => h.1) (fun cdv A outer s H vs Q E hr h => ?_)
  refine ⟨_, PSs.nox ((pss_cons (ps_if (PW.pt (pw_or (pt_cmp (DL.pc_xnotin (T := kt K P w W F) hr.units (pe_tup (pa_cons (pv 1) (pa_cons (pv 2) pa_nil))) (pv 0)) rfl) (pw_or1 (pt_cmp (DL.pc_xnotin (T := kt K P w W F) hr.units (pe_tup (pa_cons (pv 2) (pa_cons (pv 1) pa_nil))) (pv 0)) rfl))))
       (pss_one (ps_ret pe_bl))
       pss_nil)
       (pss_cons (ps_par (i := 3) (j := 4) (by rfl) sc_can_flip.nd rfl rfl (by decide) rfl rfl (pa_cons (pe_ix (DL.ix_X (T := kt K P w W F) hr.units) (pv 0) (pe_tup (pa_cons (pv 1) (pa_cons (pv 2) pa_nil))) (fun _ _ => rfl)) (pa_cons (pe_ix (DL.ix_X (T := kt K P w W F) hr.units) (pv 0) (pe_tup (pa_cons (pv 2) (pa_cons (pv 1) pa_nil))) (fun _ _ => rfl)) pa_nil)) (by rfl))
       (pss_one (ps_ret (pe_chain op_lt op_lt (pe_call (ok_turn (P := P) (w := w) (W := W) (F := F) T) (hr.mono (by decide)) (by rfl) T.g_turn T.F_turn.kp (b_turn T) .nil (DL.passE (E := E)) (pa_cons (pv 4) (pa_cons (pv 1) (pa_cons (pv 3) pa_nil)))) pe_int (pe_call (ok_turn (P := P) (w := w) (W := W) (F := F) T) (hr.mono (by decide)) (by rfl) T.g_turn T.F_turn.kp (b_turn T) .nil (DL.passE (E := E)) (pa_cons (pv 4) (pa_cons (pv 2) (pa_cons (pv 3) pa_nil)))))))))), ?_⟩
  exact DL.body_ok (T := kt K P w W F) (E := E) (f := bod_can_flip) (N := N_can_flip) (n := 3) ((DL.ds_seq (DL.ds_if (DL.dt_or (DL.dt_of (DL.de_xin true 0 (DL.dk_of (DL.de_tup (DL.da_cons (DL.de_var 1) (DL.da_cons (DL.de_var 2) DL.da_nil)))))) (DL.dt_of (DL.de_xin true 0 (DL.dk_of (DL.de_tup (DL.da_cons (DL.de_var 2) (DL.da_cons (DL.de_var 1) DL.da_nil)))))))
       (DL.ds_ret (DL.de_c fun _ => .bl false))
       DL.ds_next)
       (DL.ds_seq (DL.ds_par 3 4 (DL.dv_cons (DL.de_op DL.os_xix (DL.dk_var 0) (DL.dk_of (DL.de_tup (DL.da_cons (DL.de_var 1) (DL.da_cons (DL.de_var 2) DL.da_nil))))) (DL.dv_cons (DL.de_op DL.os_xix (DL.dk_var 0) (DL.dk_of (DL.de_tup (DL.da_cons (DL.de_var 2) (DL.da_cons (DL.de_var 1) DL.da_nil))))) DL.dv_nil)))
       (DL.ds_ret (DL.de_chain DL.os_lt DL.os_lt (DL.dk_of (DL.de_call (DL.da_cons (DL.de_var 4) (DL.da_cons (DL.de_var 1) (DL.da_cons (DL.de_var 3) DL.da_nil))) (DL.len_cons (DL.len_cons (DL.len_cons DL.len_nil))))) (DL.dk_of (DL.de_c fun _ => .int 0)) (DL.dk_of (DL.de_call (DL.da_cons (DL.de_var 4) (DL.da_cons (DL.de_var 2) (DL.da_cons (DL.de_var 3) DL.da_nil))) (DL.len_cons (DL.len_cons (DL.len_cons DL.len_nil)))))))))) (by decide) h

def bod_wrong_edges : DL.M DL.Out := (DL.retM (DL.callE mir_wrong_in (DL.consA (DL.callE mir_checked (DL.consA (DL.vE 0) (DL.consA (DL.vE 1) DL.nilA))) DL.nilA)))
def mir_wrong_edges : DL.Mir := DL.runB bod_wrong_edges 2
theorem okx_wrong_edges (T : Tops K mg) : FnOk P w K mg base (L2.CX P w) 7 (He.ga K "wrong_edges") T.fd_wrong_edges P_wrong_edges (DL.dSp (kt K P w W F) 2 mir_wrong_edges) := by
  refine T.F_wrong_edges.ok sc_wrong_edges (fun vs H Q E h => h.1) (fun cdv A outer s H vs Q E hr h => ?_)
  refine ⟨_, (pss_one (ps_ret (pe_call (ok_wrong_in (P := P) (w := w) (W := W) (F := F) T) (hr.mono (by decide)) (by rfl) T.g_wrong_in T.F_wrong_in.kp (b_wrong_in T) .nil (DL.passE (E := E)) (pa_cons (pe_call (okx_checked (P := P) (w := w) (W := W) (F := F) T) (hr.mono (by decide)) (by rfl) T.g_checked T.F_checked.kp (b_checked T) .nil (passes_call (takes_of rfl rfl rfl rfl) (fun _ _ _ _ h => h)) (pa_cons (pv 0) (pa_cons (pv 1) pa_nil))) pa_nil)))), ?_⟩
  exact DL.body_ok (T := kt K P w W F) (E := E) (f := bod_wrong_edges) (N := N_wrong_edges) (n := 2) ((DL.ds_ret (DL.de_call (DL.da_cons (DL.de_call (DL.da_cons (DL.de_var 0) (DL.da_cons (DL.de_var 1) DL.da_nil)) (DL.len_cons (DL.len_cons DL.len_nil))) DL.da_nil) (DL.len_cons DL.len_nil)))) (by decide) h

end

end NC
namespace NC
section
variable {P : Program} {w : World} {K : PySem.W.Frag} {mg : Str → Option Value} {base : Heap} {W : List (Addr × Str)} {F : Int → Hp → Addr → Prop}
def bod_is_pair : DL.M DL.Out := (DL.seqM (DL.ifM (DL.orM (DL.notM (DL.trE (DL.kE (DL.isiE .tuple (DL.vK 0))))) (DL.orM (DL.tE (DL.op2 DL.opNe (DL.kE (DL.cbE DL.opLen (DL.consP (DL.vK 0) DL.nilP))) (DL.kE (DL.cE (.int 2))))) (DL.notM (DL.trE (DL.kE (DL.cbE DL.opAll (DL.consP (DL.kE (DL.lcE (DL.itE (DL.vE 0)) (DL.nmG 1) DL.yesM (DL.callE mir_is_site (DL.consA (DL.vE 1) DL.nilA)) [1])) DL.nilP)))))))
 (DL.retM (DL.cE (.bool false)))
 DL.nxM)
 (DL.retM (DL.op2 DL.opLtT (DL.kE (DL.op2 DL.opIx (DL.vK 0) (DL.kE (DL.cE (.int 0))))) (DL.kE (DL.op2 DL.opIx (DL.vK 0) (DL.kE (DL.cE (.int 1))))))))
def mir_is_pair : DL.Mir := DL.runB bod_is_pair 2
theorem ok_is_pair (T : Tops K mg) : FnOk P w K mg base CX0 4 (He.ga K "is_pair") T.fd_is_pair P_is_pair (DL.dSp (kt K P w W F) 1 mir_is_pair) := by
  refine T.F_is_pair.ok sc_is_pair (fun vs H Q E h => h.1) (fun cdv A outer s H vs Q E hr h => ?_)
  refine ⟨_, PSs.nox ((pss_cons (ps_if (PW.pt (pw_or (pt_not (pt_truth (pe_callB (call_isiK0 K) (by rfl) T.m_isinstance (by decide +kernel) (pa_cons (pv 0) (pa_cons (pe_bltn (v := .ty (DL.Ty.nm .tuple)) rfl T.m_tuple (by decide +kernel) rfl) pa_nil))) (by intro _; rfl))) (pw_or (pt_cmpR (DL.op_neU K hr.units) (pe_callB (DL.call_lenU K) (by rfl) T.m_len (by decide +kernel) (pa_cons (pv 0) pa_nil)) pe_int (nomark _)) (pw_or1 (pt_not (pt_truth (pe_callB (cr_allK K rfl) (by rfl) T.m_all (by decide +kernel) (pa_cons (pe_lc (own := [("one", 1)]) (g := gName 1) (tt := tYes) rfl sc_is_pair.nd (DL.pi_seq K (pv 0)) (blkOk_by (own := [("one", 1)]) (N := N_is_pair) (sc := defScope (top 46)) (by decide +kernel)) (fun _ _ _ _ _ => (pg_name (i := 1) sc_is_pair.nd rfl (.inl rfl))) (fun _ _ _ _ _ => pts_nil) (fun bs bH bC bcl bfp => (pe_call (ok_is_site (P := P) (w := w) (W := W) (F := F) T) (hr.mono (by decide)) (by rfl) T.g_is_site T.F_is_site.kp (b_is_site T) .nil (DL.passE (E := E)) (pa_cons (pv 1) pa_nil)))) pa_nil)) (by intro _; rfl)))))))
       (pss_one (ps_ret pe_bl))
       pss_nil)
       (pss_one (ps_ret (pe_cmpR (DL.op_ltU K hr.units) (pe_ix (DL.ix_U K) (pv 0) pe_int (fun _ _ => rfl)) (pe_ix (DL.ix_U K) (pv 0) pe_int (fun _ _ => rfl)) (nomark _)))))), ?_⟩
  exact DL.body_ok (T := kt K P w W F) (E := E) (f := bod_is_pair) (N := N_is_pair) (n := 1) ((DL.ds_seq (DL.ds_if (DL.dt_or (DL.dt_not (DL.dt_truth (DL.dk_of (DL.de_isi .tuple (DL.dk_var 0))))) (DL.dt_or (DL.dt_of' (DL.de_op DL.os_ne (DL.dk_of (DL.de_cb DL.cs_len (DL.dp_cons (DL.dk_var 0) DL.dp_nil))) (DL.dk_of (DL.de_c fun _ => .int 2)))) (DL.dt_not (DL.dt_truth (DL.dk_of (DL.de_cb DL.cs_all (DL.dp_cons (DL.dk_of (DL.de_lc (vs := [1]) (by decide) (DL.di_seq (DL.de_var 0)) (DL.dg_name 1) DL.dt_yes (DL.de_call (DL.da_cons (DL.de_var 1) DL.da_nil) (DL.len_cons DL.len_nil)))) DL.dp_nil)))))))
       (DL.ds_ret (DL.de_c fun _ => .bl false))
       DL.ds_next)
       (DL.ds_ret (DL.de_op DL.os_ltT (DL.dk_of (DL.de_op DL.os_ix (DL.dk_var 0) (DL.dk_of (DL.de_c fun _ => .int 0)))) (DL.dk_of (DL.de_op DL.os_ix (DL.dk_var 0) (DL.dk_of (DL.de_c fun _ => .int 1)))))))) (by decide) h

def bod_flipped : DL.M DL.Out := (DL.seqM (DL.asgM 3 (DL.callE mir_checked (DL.consA (DL.vE 0) (DL.consA (DL.vE 1) DL.nilA))))
 (DL.seqM (DL.ifM (DL.orM (DL.notM (DL.trE (DL.kE (DL.callE mir_is_pair (DL.consA (DL.vE 2) DL.nilA))))) (DL.notM (DL.trE (DL.kE (DL.callE mir_can_flip (DL.consA (DL.vE 3) (DL.consA (DL.op2 DL.opIx (DL.vK 2) (DL.kE (DL.cE (.int 0)))) (DL.consA (DL.op2 DL.opIx (DL.vK 2) (DL.kE (DL.cE (.int 1)))) DL.nilA))))))))
 (DL.raiseM 1 (DL.cE (.str "edge")))
 DL.nxM)
 (DL.seqM (fun _ => .no)
 (fun _ => .no))))
def mir_flipped : DL.Mir := DL.runB bod_flipped 4
theorem okx_flipped (T : Tops K mg) : FnOk P w K mg base (L2.CX P w) 7 (He.ga K "flipped") T.fd_flipped P_flipped (DL.dSp (kt K P w W F) 3 mir_flipped) := by
  refine T.F_flipped.ok sc_flipped (fun vs H Q E h => h.1) (fun cdv A outer s H vs Q E hr h => ?_)
  refine ⟨_, (pss_cons (ps_set (i := 3) sc_flipped.nd rfl (.inl rfl) (pe_call (okx_checked (P := P) (w := w) (W := W) (F := F) T) (hr.mono (by decide)) (by rfl) T.g_checked T.F_checked.kp (b_checked T) .nil (passes_call (takes_of rfl rfl rfl rfl) (fun _ _ _ _ h => h)) (pa_cons (pv 0) (pa_cons (pv 1) pa_nil))))
       (pss_cons (ps_if (PW.pt (pw_or (pt_not (pt_truth (pe_call (ok_is_pair (P := P) (w := w) (W := W) (F := F) T) (hr.mono (by decide)) (by rfl) T.g_is_pair T.F_is_pair.kp (b_is_pair T) .nil (DL.passE (E := E)) (pa_cons (pv 2) pa_nil)) (by intro _; rfl))) (pw_or1 (pt_not (pt_truth (pe_call (ok_can_flip (P := P) (w := w) (W := W) (F := F) T) (hr.mono (by decide)) (by rfl) T.g_can_flip T.F_can_flip.kp (b_can_flip T) .nil (DL.passE (E := E)) (pa_cons (pv 3) (pa_cons (pe_ix (DL.ix_U K) (pv 2) pe_int (fun _ _ => rfl)) (pa_cons (pe_ix (DL.ix_U K) (pv 2) pe_int (fun _ _ => rfl)) pa_nil)))) (by intro _; rfl))))))
       (pss_one (ps_raise rfl (takes_of rfl rfl rfl rfl) (pmk_oexA T.X_InvalidBound T.i_InvalidBound T.t_InvalidBound (ok_InvalidBound_init T) (hr.mono (by decide)) (b_InvalidBound_init T) pass0 (by rfl) T.g_InvalidBound (pa_cons pe_str pa_nil))))
       pss_nil)
       (pss_cons NCNest.ps_never
       (pss_one NCNest.ps_never)))), ?_⟩
  exact DL.body_ok (T := kt K P w W F) (E := E) (f := bod_flipped) (N := N_flipped) (n := 3) ((DL.ds_seq (DL.ds_asg 3 (DL.de_call (DL.da_cons (DL.de_var 0) (DL.da_cons (DL.de_var 1) DL.da_nil)) (DL.len_cons (DL.len_cons DL.len_nil))))
       (DL.ds_seq (DL.ds_if (DL.dt_or (DL.dt_not (DL.dt_truth (DL.dk_of (DL.de_call (DL.da_cons (DL.de_var 2) DL.da_nil) (DL.len_cons DL.len_nil))))) (DL.dt_not (DL.dt_truth (DL.dk_of (DL.de_call (DL.da_cons (DL.de_var 3) (DL.da_cons (DL.de_op DL.os_ix (DL.dk_var 2) (DL.dk_of (DL.de_c fun _ => .int 0))) (DL.da_cons (DL.de_op DL.os_ix (DL.dk_var 2) (DL.dk_of (DL.de_c fun _ => .int 1))) DL.da_nil))) (DL.len_cons (DL.len_cons (DL.len_cons DL.len_nil))))))))
       (DL.ds_raise 1 (DL.de_c fun _ => .str "edge"))
       DL.ds_next)
       (DL.ds_seq DL.ds_never'
       DL.ds_never')))) (by decide) h

def bod_straightened : DL.M DL.Out := (DL.seqM (DL.parM 2 3 (DL.consV (DL.callE mir_checked (DL.consA (DL.vE 0) (DL.consA (DL.vE 1) DL.nilA))) (DL.consV (DL.lstE DL.nilA) DL.nilV)))
 (DL.seqM (DL.asgM 4 (DL.dictE (DL.lcE (DL.itE (DL.callE mir_wrong_in (DL.consA (DL.vE 2) DL.nilA))) (DL.nmG 11) DL.yesM (DL.tupE (DL.consA (DL.vE 11) (DL.consA (DL.cE (.bool true)) DL.nilA))) [11])))
 (DL.seqM (DL.whlM (fun _ => 1000000) (DL.tE (DL.op2 DL.opGt (DL.kE (DL.xlenE 4)) (DL.kE (DL.cE (.int 0)))))
 (DL.seqM (fun _ => .no)
 (DL.seqM (fun _ => .no)
 (DL.seqM (fun _ => .no)
 (DL.seqM (fun _ => .no)
 (DL.seqM (fun _ => .no)
 (fun _ => .no)))))))
 (DL.retM (DL.tupE (DL.consA (DL.vE 3) (DL.consA (DL.callE mir_triangles_in (DL.consA (DL.vE 2) DL.nilA)) DL.nilA)))))))
def mir_straightened : DL.Mir := DL.runB bod_straightened 12
theorem okx_straightened (T : Tops K mg) : FnOk P w K mg base (L2.CX P w) 7 (He.ga K "straightened") T.fd_straightened P_straightened (DL.dSp (kt K P w W F) 2 mir_straightened) := by
  refine T.F_straightened.ok sc_straightened (fun vs H Q E h => h.1) (fun cdv A outer s H vs Q E hr h => ?_)
  refine ⟨_, (pss_cons (ps_par (i := 2) (j := 3) (by rfl) sc_straightened.nd rfl rfl (by decide) rfl rfl (pa_cons (pe_call (okx_checked (P := P) (w := w) (W := W) (F := F) T) (hr.mono (by decide)) (by rfl) T.g_checked T.F_checked.kp (b_checked T) .nil (passes_call (takes_of rfl rfl rfl rfl) (fun _ _ _ _ h => h)) (pa_cons (pv 0) (pa_cons (pv 1) pa_nil))) (pa_cons (pe_lst pa_nil) pa_nil)) (by rfl))
       (pss_cons (ps_set (i := 4) sc_straightened.nd rfl (.inl rfl) (pe_callTy (DL.cr_dictX (T := kt K P w W F) rfl hr.units) (by rfl) T.m_dict (by decide +kernel) (pa_cons (pe_lc (own := [("edge", 11)]) (g := gName 11) (tt := tYes) rfl sc_straightened.nd (DL.pi_seq K (pe_call (ok_wrong_in (P := P) (w := w) (W := W) (F := F) T) (hr.mono (by decide)) (by rfl) T.g_wrong_in T.F_wrong_in.kp (b_wrong_in T) .nil (DL.passE (E := E)) (pa_cons (pv 2) pa_nil))) (blkOk_by (own := [("edge", 11)]) (N := N_straightened) (sc := defScope (top 48)) (by decide +kernel)) (fun _ _ _ _ _ => (pg_name (i := 11) sc_straightened.nd rfl (.inl rfl))) (fun _ _ _ _ _ => pts_nil) (fun bs bH bC bcl bfp => (pe_tup (pa_cons (pv 11) (pa_cons pe_bl pa_nil))))) pa_nil)))
       (pss_cons (ps_while (passes_of rfl) (pt_cmpR op_gt (pe_callB (DL.cr_lenX (T := kt K P w W F)) (by rfl) T.m_len (by decide +kernel) (pa_cons (pv 4) pa_nil)) pe_int (nomark _))
       (pss_cons NCNest.ps_never
       (pss_cons NCNest.ps_never
       (pss_cons NCNest.ps_never
       (pss_cons NCNest.ps_never
       (pss_cons NCNest.ps_never
       (pss_one NCNest.ps_never)))))))
       (pss_one (ps_ret (pe_tup (pa_cons (pv 3) (pa_cons (pe_call (ok_triangles_in (P := P) (w := w) (W := W) (F := F) T) (hr.mono (by decide)) (by rfl) T.g_triangles_in T.F_triangles_in.kp (b_triangles_in T) .nil (DL.passE (E := E)) (pa_cons (pv 2) pa_nil)) pa_nil)))))))), ?_⟩
  exact DL.body_ok (T := kt K P w W F) (E := E) (f := bod_straightened) (N := N_straightened) (n := 2) ((DL.ds_seq (DL.ds_par 2 3 (DL.dv_cons (DL.de_call (DL.da_cons (DL.de_var 0) (DL.da_cons (DL.de_var 1) DL.da_nil)) (DL.len_cons (DL.len_cons DL.len_nil))) (DL.dv_cons (DL.de_lst DL.da_nil) DL.dv_nil)))
       (DL.ds_seq (DL.ds_asg 4 (DL.de_dict (DL.de_lc (vs := [11]) (by decide) (DL.di_seq (DL.de_call (DL.da_cons (DL.de_var 2) DL.da_nil) (DL.len_cons DL.len_nil))) (DL.dg_name 11) DL.dt_yes (DL.de_tup (DL.da_cons (DL.de_var 11) (DL.da_cons (DL.de_c fun _ => .bl true) DL.da_nil))))))
       (DL.ds_seq (DL.ds_while (fun _ => 1000000) (DL.dt_of' (DL.de_op DL.os_gt (DL.dk_of (DL.de_xlen 4)) (DL.dk_of (DL.de_c fun _ => .int 0))))
       (DL.ds_seq DL.ds_never'
       (DL.ds_seq DL.ds_never'
       (DL.ds_seq DL.ds_never'
       (DL.ds_seq DL.ds_never'
       (DL.ds_seq DL.ds_never'
       DL.ds_never'))))))
       (DL.ds_ret (DL.de_tup (DL.da_cons (DL.de_var 3) (DL.da_cons (DL.de_call (DL.da_cons (DL.de_var 2) DL.da_nil) (DL.len_cons DL.len_nil)) DL.da_nil)))))))) (by decide) h

def bod_placed : DL.M DL.Out := (DL.seqM (DL.dropM (DL.callE mir_check_sites (DL.consA (DL.vE 0) DL.nilA)))
 (DL.seqM (fun _ => .no)
 (DL.seqM (fun _ => .no)
 (fun _ => .no))))
def mir_placed : DL.Mir := DL.runB bod_placed 6
theorem okx_placed (T : Tops K mg) : FnOk P w K mg base (L2.CX P w) 5 (He.ga K "placed") T.fd_placed P_placed (DL.dSp (kt K P w W F) 1 mir_placed) := by
  refine T.F_placed.ok sc_placed (fun vs H Q E h => h.1) (fun cdv A outer s H vs Q E hr h => ?_)
  refine ⟨_, (pss_cons (ps_expr (pe_call (okx_check_sites (P := P) (w := w) (W := W) (F := F) T) (hr.mono (by decide)) (by rfl) T.g_check_sites T.F_check_sites.kp (b_check_sites T) .nil (passes_call (takes_of rfl rfl rfl rfl) (fun _ _ _ _ h => h)) (pa_cons (pv 0) pa_nil)))
       (pss_cons NCNest.ps_never
       (pss_cons NCNest.ps_never
       (pss_one NCNest.ps_never)))), ?_⟩
  exact DL.body_ok (T := kt K P w W F) (E := E) (f := bod_placed) (N := N_placed) (n := 1) ((DL.ds_seq (DL.ds_drop (DL.de_call (DL.da_cons (DL.de_var 0) DL.da_nil) (DL.len_cons DL.len_nil)))
       (DL.ds_seq DL.ds_never'
       (DL.ds_seq DL.ds_never'
       DL.ds_never')))) (by decide) h

def bod_volume : DL.M DL.Out := (DL.seqM (DL.dropM (DL.callE mir_checked (DL.consA (DL.vE 0) (DL.consA (DL.vE 1) DL.nilA))))
 (DL.seqM (DL.asgM 2 (DL.cE (.int 0)))
 (DL.seqM (DL.forM (DL.itE (DL.vE 1)) (DL.nmG 3)
 (DL.seqM (DL.asgM 4 (DL.cbE DL.opSum (DL.consP (DL.kE (DL.lcE (DL.itE (DL.vE 3)) (DL.unlG 2 (DL.consG (DL.nmG 5) (DL.consG (DL.nmG 6) DL.nilG))) DL.yesM (DL.op2 DL.opAdd (DL.kE (DL.op2 DL.opMul (DL.vK 5) (DL.vK 5))) (DL.kE (DL.op2 DL.opMul (DL.vK 6) (DL.vK 6)))) [5, 6])) DL.nilP)))
 (DL.asgM 2 (DL.op2 DL.opAdd (DL.vK 2) (DL.kE (DL.op2 DL.opMul (DL.kE (DL.cbE DL.opAbs (DL.consP (DL.kE (DL.callE mir_turn (DL.consA (DL.op2 DL.opIx (DL.vK 3) (DL.kE (DL.cE (.int 0)))) (DL.consA (DL.op2 DL.opIx (DL.vK 3) (DL.kE (DL.cE (.int 1)))) (DL.consA (DL.op2 DL.opIx (DL.vK 3) (DL.kE (DL.cE (.int 2)))) DL.nilA))))) DL.nilP))) (DL.vK 4)))))))
 (DL.retM (DL.vM 2)))))
def mir_volume : DL.Mir := DL.runB bod_volume 7
theorem okx_volume (T : Tops K mg) : FnOk P w K mg base (L2.CX P w) 7 (He.ga K "volume") T.fd_volume P_volume (DL.dSp (kt K P w W F) 2 mir_volume) := by
  refine T.F_volume.ok sc_volume (fun vs H Q E h => h.1) (fun cdv A outer s H vs Q E hr h => ?_)
  refine ⟨_, (pss_cons (ps_expr (pe_call (okx_checked (P := P) (w := w) (W := W) (F := F) T) (hr.mono (by decide)) (by rfl) T.g_checked T.F_checked.kp (b_checked T) .nil (passes_call (takes_of rfl rfl rfl rfl) (fun _ _ _ _ h => h)) (pa_cons (pv 0) (pa_cons (pv 1) pa_nil))))
       (pss_cons (ps_set (i := 2) sc_volume.nd rfl (.inl rfl) pe_int)
       (pss_cons (ps_for (passes_of rfl) rfl (DL.pi_seq K (pv 1)) (pg_name (i := 3) sc_volume.nd rfl (.inl rfl))
       (pss_cons (ps_set (i := 4) sc_volume.nd rfl (.inl rfl) (pe_callB (cr_sumK K rfl) (by rfl) T.m_sum (by decide +kernel) (pa_cons (pe_lc (own := [("x", 5), ("y", 6)]) (g := DL.gSq K 2 (gCons (gName 5) (gCons (gName 6) gNil))) (tt := tYes) rfl sc_volume.nd (DL.pi_seq K (pv 3)) (blkOk_by (own := [("x", 5), ("y", 6)]) (N := N_volume) (sc := defScope (top 50)) (by decide +kernel)) (fun _ _ _ _ _ => (by exact (DL.pg_sq K rfl (pgs_cons (pg_name (i := 5) sc_volume.nd rfl (.inl rfl)) (pgs_cons (pg_name (i := 6) sc_volume.nd rfl (.inl rfl)) pgs_nil))))) (fun _ _ _ _ _ => pts_nil) (fun bs bH bC bcl bfp => (pe_op (DL.op_addU K) (pe_op DL.op_mulU (pv 5) (pv 5)) (pe_op DL.op_mulU (pv 6) (pv 6))))) pa_nil)))
       (pss_one (ps_set (i := 2) sc_volume.nd rfl (.inl rfl) (pe_op (DL.op_addU K) (pv 2) (pe_op DL.op_mulU (pe_callB call_absN (by rfl) T.m_abs (by decide +kernel) (pa_cons (pe_call (ok_turn (P := P) (w := w) (W := W) (F := F) T) (hr.mono (by decide)) (by rfl) T.g_turn T.F_turn.kp (b_turn T) .nil (DL.passE (E := E)) (pa_cons (pe_ix (DL.ix_U K) (pv 3) pe_int (fun _ _ => rfl)) (pa_cons (pe_ix (DL.ix_U K) (pv 3) pe_int (fun _ _ => rfl)) (pa_cons (pe_ix (DL.ix_U K) (pv 3) pe_int (fun _ _ => rfl)) pa_nil)))) pa_nil)) (pv 4)))))))
       (pss_one (ps_ret (pv 2)))))), ?_⟩
  exact DL.body_ok (T := kt K P w W F) (E := E) (f := bod_volume) (N := N_volume) (n := 2) ((DL.ds_seq (DL.ds_drop (DL.de_call (DL.da_cons (DL.de_var 0) (DL.da_cons (DL.de_var 1) DL.da_nil)) (DL.len_cons (DL.len_cons DL.len_nil))))
       (DL.ds_seq (DL.ds_asg 2 (DL.de_c fun _ => .int 0))
       (DL.ds_seq (DL.ds_for (DL.di_seq (DL.de_var 1)) (DL.dg_name 3)
       (DL.ds_seq (DL.ds_asg 4 (DL.de_cb DL.cs_sum (DL.dp_cons (DL.dk_of (DL.de_lc (vs := [5, 6]) (by decide) (DL.di_seq (DL.de_var 3)) (DL.dg_sq (n := 2) (DL.dgs_cons (DL.dg_name 5) (DL.dgs_cons (DL.dg_name 6) DL.dgs_nil))) DL.dt_yes (DL.de_op DL.os_add (DL.dk_of (DL.de_op DL.os_mul (DL.dk_var 5) (DL.dk_var 5))) (DL.dk_of (DL.de_op DL.os_mul (DL.dk_var 6) (DL.dk_var 6)))))) DL.dp_nil)))
       (DL.ds_asg 2 (DL.de_op DL.os_add (DL.dk_var 2) (DL.dk_of (DL.de_op DL.os_mul (DL.dk_of (DL.de_cb DL.cs_abs (DL.dp_cons (DL.dk_of (DL.de_call (DL.da_cons (DL.de_op DL.os_ix (DL.dk_var 3) (DL.dk_of (DL.de_c fun _ => .int 0))) (DL.da_cons (DL.de_op DL.os_ix (DL.dk_var 3) (DL.dk_of (DL.de_c fun _ => .int 1))) (DL.da_cons (DL.de_op DL.os_ix (DL.dk_var 3) (DL.dk_of (DL.de_c fun _ => .int 2))) DL.da_nil))) (DL.len_cons (DL.len_cons (DL.len_cons DL.len_nil))))) DL.dp_nil))) (DL.dk_var 4)))))))
       (DL.ds_ret (DL.de_move 2)))))) (by decide) h

def bod_steps : DL.M DL.Out := (DL.seqM (DL.dropM (DL.callE mir_check_sites (DL.consA (DL.vE 0) DL.nilA)))
 (DL.seqM (fun _ => .no)
 (DL.seqM (fun _ => .no)
 (fun _ => .no))))
def mir_steps : DL.Mir := DL.runB bod_steps 9
theorem okx_steps (T : Tops K mg) : FnOk P w K mg base (L2.CX P w) 5 (He.ga K "steps") T.fd_steps P_steps (DL.dSp (kt K P w W F) 1 mir_steps) := by
  refine T.F_steps.ok sc_steps (fun vs H Q E h => h.1) (fun cdv A outer s H vs Q E hr h => ?_)
  refine ⟨_, (pss_cons (ps_expr (pe_call (okx_check_sites (P := P) (w := w) (W := W) (F := F) T) (hr.mono (by decide)) (by rfl) T.g_check_sites T.F_check_sites.kp (b_check_sites T) .nil (passes_call (takes_of rfl rfl rfl rfl) (fun _ _ _ _ h => h)) (pa_cons (pv 0) pa_nil)))
       (pss_cons NCNest.ps_never
       (pss_cons NCNest.ps_never
       (pss_one NCNest.ps_never)))), ?_⟩
  exact DL.body_ok (T := kt K P w W F) (E := E) (f := bod_steps) (N := N_steps) (n := 1) ((DL.ds_seq (DL.ds_drop (DL.de_call (DL.da_cons (DL.de_var 0) DL.da_nil) (DL.len_cons DL.len_nil)))
       (DL.ds_seq DL.ds_never'
       (DL.ds_seq DL.ds_never'
       DL.ds_never')))) (by decide) h

def bod_law_purse : DL.M DL.Out := (DL.retM (DL.lstE (DL.consA (DL.op2 DL.opMul (DL.kE (DL.cbE DL.opAbs (DL.consP (DL.vK 0) DL.nilP))) (DL.kE (DL.cbE DL.opInt (DL.consP (DL.kE (DL.op2 DL.opGe (DL.kE (DL.cbE DL.opAbs (DL.consP (DL.vK 0) DL.nilP))) (DL.kE (DL.op2 DL.opPow (DL.kE (DL.cE (.int 10))) (DL.kE (DL.cE (.int 18))))))) DL.nilP)))) (DL.consA (DL.op2 DL.opMod (DL.kE (DL.cbE DL.opInt (DL.consP (DL.vK 0) DL.nilP))) (DL.kE (DL.cE (.int 2147483563)))) (DL.consA (DL.cE (.int 3)) DL.nilA)))))
def mir_law_purse : DL.Mir := DL.runB bod_law_purse 1
theorem ok_law_purse (T : Tops K mg) : FnOk P w K mg base CX0 1 (He.ga K "_law_purse") T.fd_law_purse P_law_purse (DL.dSp (kt K P w W F) 1 mir_law_purse) := by
  refine T.F_law_purse.ok sc_law_purse (fun vs H Q E h => h.1) (fun cdv A outer s H vs Q E hr h => ?_)
  refine ⟨_, PSs.nox ((pss_one (ps_ret (pe_lst (pa_cons (pe_op DL.op_mulU (pe_callB call_absN (by rfl) T.m_abs (by decide +kernel) (pa_cons (pv 0) pa_nil)) (pe_callTy call_intN (by rfl) T.m_int (by decide +kernel) (pa_cons (pe_cmpR op_ge (pe_callB call_absN (by rfl) T.m_abs (by decide +kernel) (pa_cons (pv 0) pa_nil)) (pe_op op_powA pe_int pe_int) (nomark _)) pa_nil))) (pa_cons (pe_op op_modN (pe_callTy call_intN (by rfl) T.m_int (by decide +kernel) (pa_cons (pv 0) pa_nil)) pe_int) (pa_cons pe_int pa_nil))))))), ?_⟩
  exact DL.body_ok (T := kt K P w W F) (E := E) (f := bod_law_purse) (N := N_law_purse) (n := 1) ((DL.ds_ret (DL.de_lst (DL.da_cons (DL.de_op DL.os_mul (DL.dk_of (DL.de_cb DL.cs_abs (DL.dp_cons (DL.dk_var 0) DL.dp_nil))) (DL.dk_of (DL.de_cb DL.cs_int (DL.dp_cons (DL.dk_of (DL.de_op DL.os_ge (DL.dk_of (DL.de_cb DL.cs_abs (DL.dp_cons (DL.dk_var 0) DL.dp_nil))) (DL.dk_of (DL.de_op DL.os_pow (DL.dk_of (DL.de_c fun _ => .int 10)) (DL.dk_of (DL.de_c fun _ => .int 18)))))) DL.dp_nil)))) (DL.da_cons (DL.de_op DL.os_mod (DL.dk_of (DL.de_cb DL.cs_int (DL.dp_cons (DL.dk_var 0) DL.dp_nil))) (DL.dk_of (DL.de_c fun _ => .int 2147483563))) (DL.da_cons (DL.de_c fun _ => .int 3) DL.da_nil)))))) (by decide) h

def bod_law_coin : DL.M DL.Out := (DL.seqM (DL.ifM (DL.tE (DL.op2 DL.opGt (DL.kE (DL.op2 DL.opIx (DL.vK 0) (DL.kE (DL.cE (.int 0))))) (DL.kE (DL.cE (.int 0)))))
 (DL.seqM (DL.asgM 2 (DL.op2 DL.opMod (DL.kE (DL.cbE DL.opInt (DL.consP (DL.kE (DL.op2 DL.opIx (DL.vK 0) (DL.kE (DL.cE (.int 0))))) DL.nilP))) (DL.vK 1)))
 (DL.seqM (DL.setM 0 (DL.kE (DL.cE (.int 0))) (DL.op2 DL.opDiv (DL.kE (DL.op2 DL.opIx (DL.vK 0) (DL.kE (DL.cE (.int 0))))) (DL.vK 1)))
 (DL.retM (DL.vM 2))))
 DL.nxM)
 (DL.seqM (DL.setM 0 (DL.kE (DL.cE (.int 2))) (DL.op2 DL.opAdd (DL.kE (DL.op2 DL.opIx (DL.vK 0) (DL.kE (DL.cE (.int 2))))) (DL.kE (DL.cE (.int 1)))))
 (DL.seqM (DL.asgM 3 (DL.op2 DL.opMod (DL.kE (DL.cbE DL.opInt (DL.consP (DL.kE (DL.op2 DL.opPow (DL.kE (DL.op2 DL.opAdd (DL.kE (DL.op2 DL.opAdd (DL.kE (DL.op2 DL.opIx (DL.vK 0) (DL.kE (DL.cE (.int 1))))) (DL.kE (DL.op2 DL.opMul (DL.kE (DL.cE (.int 70001))) (DL.kE (DL.op2 DL.opIx (DL.vK 0) (DL.kE (DL.cE (.int 2))))))))) (DL.kE (DL.cE (.int 7))))) (DL.kE (DL.cE (.int 3))))) DL.nilP))) (DL.kE (DL.cE (.int 2147483587)))))
 (DL.seqM (DL.asgM 3 (DL.op2 DL.opMod (DL.kE (DL.cbE DL.opInt (DL.consP (DL.kE (DL.op2 DL.opMul (DL.kE (DL.op2 DL.opAdd (DL.vK 3) (DL.kE (DL.op2 DL.opMul (DL.kE (DL.cE (.int 11))) (DL.kE (DL.op2 DL.opIx (DL.vK 0) (DL.kE (DL.cE (.int 2))))))))) (DL.kE (DL.op2 DL.opAdd (DL.kE (DL.op2 DL.opDiv (DL.vK 3) (DL.kE (DL.cE (.int 1009))))) (DL.kE (DL.cE (.int 48611))))))) DL.nilP))) (DL.kE (DL.cE (.int 2147483549)))))
 (DL.retM (DL.op2 DL.opMod (DL.kE (DL.cbE DL.opInt (DL.consP (DL.kE (DL.op2 DL.opDiv (DL.kE (DL.op2 DL.opMod (DL.kE (DL.cbE DL.opInt (DL.consP (DL.kE (DL.op2 DL.opMul (DL.vK 3) (DL.kE (DL.op2 DL.opAdd (DL.kE (DL.op2 DL.opDiv (DL.vK 3) (DL.kE (DL.cE (.int 2027))))) (DL.kE (DL.cE (.int 69621))))))) DL.nilP))) (DL.kE (DL.cE (.int 2147483543))))) (DL.kE (DL.cE (.int 5))))) DL.nilP))) (DL.vK 1)))))))
def mir_law_coin : DL.Mir := DL.runB bod_law_coin 4
theorem ok_law_coin (T : Tops K mg) : FnOk P w K mg base CX0 1 (He.ga K "_law_coin") T.fd_law_coin P_law_coin (DL.dSp (kt K P w W F) 2 mir_law_coin) := by
  refine T.F_law_coin.ok sc_law_coin (fun vs H Q E h => h.1) (fun cdv A outer s H vs Q E hr h => ?_)
  refine ⟨_, PSs.nox ((pss_cons (ps_if (pt_cmpR op_gt (pe_ix (DL.ix_U K) (pv 0) pe_int (fun _ _ => rfl)) pe_int (nomark _))
       (pss_cons (ps_set (i := 2) sc_law_coin.nd rfl (.inl rfl) (pe_op op_modN (pe_callTy call_intN (by rfl) T.m_int (by decide +kernel) (pa_cons (pe_ix (DL.ix_U K) (pv 0) pe_int (fun _ _ => rfl)) pa_nil)) (pv 1)))
       (pss_cons (ps_asg (pe_op op_fdivA (pe_ix (DL.ix_U K) (pv 0) pe_int (fun _ _ => rfl)) (pv 1)) (pg_sub (pv 0) pe_int set_list))
       (pss_one (ps_ret (pv 2)))))
       pss_nil)
       (pss_cons (ps_asg (pe_op (DL.op_addU K) (pe_ix (DL.ix_U K) (pv 0) pe_int (fun _ _ => rfl)) pe_int) (pg_sub (pv 0) pe_int set_list))
       (pss_cons (ps_set (i := 3) sc_law_coin.nd rfl (.inl rfl) (pe_op op_modN (pe_callTy call_intN (by rfl) T.m_int (by decide +kernel) (pa_cons (pe_op op_powA (pe_op (DL.op_addU K) (pe_op (DL.op_addU K) (pe_ix (DL.ix_U K) (pv 0) pe_int (fun _ _ => rfl)) (pe_op DL.op_mulU pe_int (pe_ix (DL.ix_U K) (pv 0) pe_int (fun _ _ => rfl)))) pe_int) pe_int) pa_nil)) pe_int))
       (pss_cons (ps_set (i := 3) sc_law_coin.nd rfl (.inl rfl) (pe_op op_modN (pe_callTy call_intN (by rfl) T.m_int (by decide +kernel) (pa_cons (pe_op DL.op_mulU (pe_op (DL.op_addU K) (pv 3) (pe_op DL.op_mulU pe_int (pe_ix (DL.ix_U K) (pv 0) pe_int (fun _ _ => rfl)))) (pe_op (DL.op_addU K) (pe_op op_fdivA (pv 3) pe_int) pe_int)) pa_nil)) pe_int))
       (pss_one (ps_ret (pe_op op_modN (pe_callTy call_intN (by rfl) T.m_int (by decide +kernel) (pa_cons (pe_op op_fdivA (pe_op op_modN (pe_callTy call_intN (by rfl) T.m_int (by decide +kernel) (pa_cons (pe_op DL.op_mulU (pv 3) (pe_op (DL.op_addU K) (pe_op op_fdivA (pv 3) pe_int) pe_int)) pa_nil)) pe_int) pe_int) pa_nil)) (pv 1))))))))), ?_⟩
  exact DL.body_ok (T := kt K P w W F) (E := E) (f := bod_law_coin) (N := N_law_coin) (n := 2) ((DL.ds_seq (DL.ds_if (DL.dt_of' (DL.de_op DL.os_gt (DL.dk_of (DL.de_op DL.os_ix (DL.dk_var 0) (DL.dk_of (DL.de_c fun _ => .int 0)))) (DL.dk_of (DL.de_c fun _ => .int 0))))
       (DL.ds_seq (DL.ds_asg 2 (DL.de_op DL.os_mod (DL.dk_of (DL.de_cb DL.cs_int (DL.dp_cons (DL.dk_of (DL.de_op DL.os_ix (DL.dk_var 0) (DL.dk_of (DL.de_c fun _ => .int 0)))) DL.dp_nil))) (DL.dk_var 1)))
       (DL.ds_seq (DL.ds_set 0 (DL.de_op DL.os_div (DL.dk_of (DL.de_op DL.os_ix (DL.dk_var 0) (DL.dk_of (DL.de_c fun _ => .int 0)))) (DL.dk_var 1)) (DL.dk_of (DL.de_c fun _ => .int 0)))
       (DL.ds_ret (DL.de_move 2))))
       DL.ds_next)
       (DL.ds_seq (DL.ds_set 0 (DL.de_op DL.os_add (DL.dk_of (DL.de_op DL.os_ix (DL.dk_var 0) (DL.dk_of (DL.de_c fun _ => .int 2)))) (DL.dk_of (DL.de_c fun _ => .int 1))) (DL.dk_of (DL.de_c fun _ => .int 2)))
       (DL.ds_seq (DL.ds_asg 3 (DL.de_op DL.os_mod (DL.dk_of (DL.de_cb DL.cs_int (DL.dp_cons (DL.dk_of (DL.de_op DL.os_pow (DL.dk_of (DL.de_op DL.os_add (DL.dk_of (DL.de_op DL.os_add (DL.dk_of (DL.de_op DL.os_ix (DL.dk_var 0) (DL.dk_of (DL.de_c fun _ => .int 1)))) (DL.dk_of (DL.de_op DL.os_mul (DL.dk_of (DL.de_c fun _ => .int 70001)) (DL.dk_of (DL.de_op DL.os_ix (DL.dk_var 0) (DL.dk_of (DL.de_c fun _ => .int 2)))))))) (DL.dk_of (DL.de_c fun _ => .int 7)))) (DL.dk_of (DL.de_c fun _ => .int 3)))) DL.dp_nil))) (DL.dk_of (DL.de_c fun _ => .int 2147483587))))
       (DL.ds_seq (DL.ds_asg 3 (DL.de_op DL.os_mod (DL.dk_of (DL.de_cb DL.cs_int (DL.dp_cons (DL.dk_of (DL.de_op DL.os_mul (DL.dk_of (DL.de_op DL.os_add (DL.dk_var 3) (DL.dk_of (DL.de_op DL.os_mul (DL.dk_of (DL.de_c fun _ => .int 11)) (DL.dk_of (DL.de_op DL.os_ix (DL.dk_var 0) (DL.dk_of (DL.de_c fun _ => .int 2)))))))) (DL.dk_of (DL.de_op DL.os_add (DL.dk_of (DL.de_op DL.os_div (DL.dk_var 3) (DL.dk_of (DL.de_c fun _ => .int 1009)))) (DL.dk_of (DL.de_c fun _ => .int 48611)))))) DL.dp_nil))) (DL.dk_of (DL.de_c fun _ => .int 2147483549))))
       (DL.ds_ret (DL.de_op DL.os_mod (DL.dk_of (DL.de_cb DL.cs_int (DL.dp_cons (DL.dk_of (DL.de_op DL.os_div (DL.dk_of (DL.de_op DL.os_mod (DL.dk_of (DL.de_cb DL.cs_int (DL.dp_cons (DL.dk_of (DL.de_op DL.os_mul (DL.dk_var 3) (DL.dk_of (DL.de_op DL.os_add (DL.dk_of (DL.de_op DL.os_div (DL.dk_var 3) (DL.dk_of (DL.de_c fun _ => .int 2027)))) (DL.dk_of (DL.de_c fun _ => .int 69621)))))) DL.dp_nil))) (DL.dk_of (DL.de_c fun _ => .int 2147483543)))) (DL.dk_of (DL.de_c fun _ => .int 5)))) DL.dp_nil))) (DL.dk_var 1)))))))) (by decide) h

end

end NC
namespace NC
section
variable {P : Program} {w : World} {K : PySem.W.Frag} {mg : Str → Option Value} {base : Heap} {W : List (Addr × Str)} {F : Int → Hp → Addr → Prop}
def bod_law_pick : DL.M DL.Out := (DL.retM (DL.op2 DL.opIx (DL.vK 1) (DL.kE (DL.lentE mir_law_coin (DL.refR 0 (DL.consR (DL.cbE DL.opLen (DL.consP (DL.vK 1) DL.nilP)) DL.nilR))))))
def mir_law_pick : DL.Mir := DL.runB bod_law_pick 2
theorem ok_law_pick (T : Tops K mg) : FnOk P w K mg base CX0 2 (He.ga K "_law_pick") T.fd_law_pick P_law_pick (DL.dSp (kt K P w W F) 2 mir_law_pick) := by
  refine T.F_law_pick.ok sc_law_pick (fun vs H Q E h => h.1) (fun cdv A outer s H vs Q E hr h => ?_)
  refine ⟨_, PSs.nox ((pss_one (ps_ret (pe_ix (DL.ix_U K) (pv 1) (pe_call (ok_law_coin (P := P) (w := w) (W := W) (F := F) T) (hr.mono (by decide)) (by rfl) T.g_law_coin T.F_law_coin.kp (b_law_coin T) .nil (DL.passE (E := E)) (pa_cons (pv 0) (pa_cons (pe_callB (DL.call_lenU K) (by rfl) T.m_len (by decide +kernel) (pa_cons (pv 1) pa_nil)) pa_nil))) (fun _ _ => rfl))))), ?_⟩
  exact DL.body_ok (T := kt K P w W F) (E := E) (f := bod_law_pick) (N := N_law_pick) (n := 2) ((DL.ds_ret (DL.de_op DL.os_ix (DL.dk_var 1) (DL.dk_of (DL.de_lent (DL.dr_ref 0 (DL.dr_cons (DL.de_cb DL.cs_len (DL.dp_cons (DL.dk_var 1) DL.dp_nil)) DL.dr_nil)) (DL.lenR_ref (DL.lenR_cons DL.lenR_nil))))))) (by decide) h

def bod_law_deep : DL.M DL.Out := (DL.seqM (DL.asgM 0 (DL.tupE (DL.consA (DL.cE (.int 1)) DL.nilA)))
 (DL.seqM (DL.forM (DL.rng1E (DL.consA (DL.cE (.int 1990)) DL.nilA)) (DL.nmG 1)
 (DL.asgM 0 (DL.tupE (DL.consA (DL.vE 0) DL.nilA))))
 (DL.retM (DL.vM 0))))
def mir_law_deep : DL.Mir := DL.runB bod_law_deep 2
theorem ok_law_deep (T : Tops K mg) : FnOk P w K mg base CX0 1 (He.ga K "_law_deep") T.fd_law_deep P_law_deep (DL.dSp (kt K P w W F) 0 mir_law_deep) := by
  refine T.F_law_deep.ok sc_law_deep (fun vs H Q E h => h.1) (fun cdv A outer s H vs Q E hr h => ?_)
  refine ⟨_, PSs.nox ((pss_cons (ps_set (i := 0) sc_law_deep.nd rfl (.inl rfl) (pe_tup (pa_cons pe_int pa_nil)))
       (pss_cons (ps_for PassesOwn.never rfl (pi_range1 (by rfl) T.m_range (pa_cons pe_int pa_nil)) (pg_name (i := 1) sc_law_deep.nd rfl (.inl rfl))
       (pss_one (ps_set (i := 0) sc_law_deep.nd rfl (.inl rfl) (pe_tup (pa_cons (pv 0) pa_nil)))))
       (pss_one (ps_ret (pv 0)))))), ?_⟩
  exact DL.body_ok (T := kt K P w W F) (E := E) (f := bod_law_deep) (N := N_law_deep) (n := 0) ((DL.ds_seq (DL.ds_asg 0 (DL.de_tup (DL.da_cons (DL.de_c fun _ => .int 1) DL.da_nil)))
       (DL.ds_seq (DL.ds_for (DL.di_rng1 (DL.da_cons (DL.de_c fun _ => .int 1990) DL.da_nil)) (DL.dg_name 1)
       (DL.ds_asg 0 (DL.de_tup (DL.da_cons (DL.de_var 0) DL.da_nil))))
       (DL.ds_ret (DL.de_move 0))))) (by decide) h

def bod_Subdivision_pairs_joined : DL.M DL.Out := (DL.seqM (DL.asgM 1 DL.dnewE)
 (DL.seqM (DL.ifM (DL.trE (DL.kE (DL.fldE 0 2 (DL.vK 0))))
 (DL.forM (DL.zipE (DL.consA (DL.fldE 0 0 (DL.vK 0)) (DL.consA (DL.slE (DL.kE (DL.fldE 0 0 (DL.vK 0))) (DL.someO (DL.kE (DL.cE (.int 1)))) DL.noO) DL.nilA))) (DL.unlG 2 (DL.consG (DL.nmG 2) (DL.consG (DL.nmG 3) DL.nilG)))
 (DL.xputM 1 (DL.kE (DL.tupE (DL.consA (DL.vE 2) (DL.consA (DL.vE 3) DL.nilA)))) (DL.cE (.bool true))))
 DL.nxM)
 (DL.seqM (DL.forM (DL.itE (DL.fldE 0 3 (DL.vK 0))) (DL.nmG 4)
 (DL.forM (DL.itE (DL.callE mir_sides_of (DL.consA (DL.vE 4) DL.nilA))) (DL.unlG 2 (DL.consG (DL.nmG 2) (DL.consG (DL.nmG 3) DL.nilG)))
 (DL.xputM 1 (DL.kE (DL.tupE (DL.consA (DL.cbE DL.opMin (DL.consP (DL.vK 2) (DL.consP (DL.vK 3) DL.nilP))) (DL.consA (DL.cbE DL.opMax (DL.consP (DL.vK 2) (DL.consP (DL.vK 3) DL.nilP))) DL.nilA)))) (DL.cE (.bool true)))))
 (DL.retM (DL.xsortE 1)))))
def mir_Subdivision_pairs_joined : DL.Mir := DL.runB bod_Subdivision_pairs_joined 5
theorem ok_Subdivision_pairs_joined (T : Tops K mg) : FnOk P w K mg base CX0 2 (He.ma K (He.ga K "Subdivision") "pairs_joined") T.fd_Subdivision_pairs_joined P_Subdivision_pairs_joined (DL.dSp (kt K P w W F) 1 mir_Subdivision_pairs_joined) := by
  refine T.F_Subdivision_pairs_joined.ok sc_Subdivision_pairs_joined (fun vs H Q E h => h.1) (fun cdv A outer s H vs Q E hr h => ?_)
  refine ⟨_, PSs.nox ((pss_cons (ps_set (i := 1) sc_Subdivision_pairs_joined.nd rfl (.inl rfl) (DL.pe_dnewX (T := kt K P w W F)))
       (pss_cons (ps_if (pt_truth (pe_fld (pv 0) (by rfl)) (by intro _; rfl))
       (pss_one (ps_for PassesOwn.never rfl (RZ.pi_zipA (by rfl) T.m_zip (pa_cons (pe_fld (pv 0) (by rfl)) (pa_cons (pe_slice (DL.sl_U K) (pe_fld (pv 0) (by rfl)) (po_some pe_int) po_none) pa_nil))) (DL.pg_sq K rfl (pgs_cons (pg_name (i := 2) sc_Subdivision_pairs_joined.nd rfl (.inl rfl)) (pgs_cons (pg_name (i := 3) sc_Subdivision_pairs_joined.nd rfl (.inl rfl)) pgs_nil)))
       (pss_one (DL.ps_xput (T := kt K P w W F) hr.units (pv 1) (pe_tup (pa_cons (pv 2) (pa_cons (pv 3) pa_nil))) pe_bl rfl))))
       pss_nil)
       (pss_cons (ps_for PassesOwn.never rfl (DL.pi_seq K (pe_fld (pv 0) (by rfl))) (pg_name (i := 4) sc_Subdivision_pairs_joined.nd rfl (.inl rfl))
       (pss_one (ps_for PassesOwn.never rfl (DL.pi_seq K (pe_call (ok_sides_of (P := P) (w := w) (W := W) (F := F) T) (hr.mono (by decide)) (by rfl) T.g_sides_of T.F_sides_of.kp (b_sides_of T) .nil (DL.passE (E := E)) (pa_cons (pv 4) pa_nil))) (DL.pg_sq K rfl (pgs_cons (pg_name (i := 2) sc_Subdivision_pairs_joined.nd rfl (.inl rfl)) (pgs_cons (pg_name (i := 3) sc_Subdivision_pairs_joined.nd rfl (.inl rfl)) pgs_nil)))
       (pss_one (DL.ps_xput (T := kt K P w W F) hr.units (pv 1) (pe_tup (pa_cons (pe_callB (DL.call_minU K rfl hr.units) (by rfl) T.m_min (by decide +kernel) (pa_cons (pv 2) (pa_cons (pv 3) pa_nil))) (pa_cons (pe_callB (DL.call_maxU K rfl hr.units) (by rfl) T.m_max (by decide +kernel) (pa_cons (pv 2) (pa_cons (pv 3) pa_nil))) pa_nil))) pe_bl rfl)))))
       (pss_one (ps_ret (pe_callB (DL.cr_sortedX (T := kt K P w W F) rfl hr.units) (by rfl) T.m_sorted (by decide +kernel) (pa_cons (pv 1) pa_nil)))))))), ?_⟩
  exact DL.body_ok (T := kt K P w W F) (E := E) (f := bod_Subdivision_pairs_joined) (N := N_Subdivision_pairs_joined) (n := 1) ((DL.ds_seq (DL.ds_asg 1 DL.de_dnew)
       (DL.ds_seq (DL.ds_if (DL.dt_truth (DL.dk_of (DL.de_fld (fn := "is_row") 0 2 rfl T.no_Subdivision_is_row (DL.dk_var 0))))
       (DL.ds_for (DL.di_zip (DL.da_cons (DL.de_fld (fn := "kept") 0 0 rfl T.no_Subdivision_kept (DL.dk_var 0)) (DL.da_cons (DL.de_sl (DL.dk_of (DL.de_fld (fn := "kept") 0 0 rfl T.no_Subdivision_kept (DL.dk_var 0))) (DL.do_some (DL.dk_of (DL.de_c fun _ => .int 1))) DL.do_none) DL.da_nil))) (DL.dg_sq (n := 2) (DL.dgs_cons (DL.dg_name 2) (DL.dgs_cons (DL.dg_name 3) DL.dgs_nil)))
       (DL.ds_xput 1 (DL.de_c fun _ => .bl true) (DL.dk_of (DL.de_tup (DL.da_cons (DL.de_var 2) (DL.da_cons (DL.de_var 3) DL.da_nil))))))
       DL.ds_next)
       (DL.ds_seq (DL.ds_for (DL.di_seq (DL.de_fld (fn := "polygons") 0 3 rfl T.no_Subdivision_polygons (DL.dk_var 0))) (DL.dg_name 4)
       (DL.ds_for (DL.di_seq (DL.de_call (DL.da_cons (DL.de_var 4) DL.da_nil) (DL.len_cons DL.len_nil))) (DL.dg_sq (n := 2) (DL.dgs_cons (DL.dg_name 2) (DL.dgs_cons (DL.dg_name 3) DL.dgs_nil)))
       (DL.ds_xput 1 (DL.de_c fun _ => .bl true) (DL.dk_of (DL.de_tup (DL.da_cons (DL.de_cb DL.cs_min (DL.dp_cons (DL.dk_var 2) (DL.dp_cons (DL.dk_var 3) DL.dp_nil))) (DL.da_cons (DL.de_cb DL.cs_max (DL.dp_cons (DL.dk_var 2) (DL.dp_cons (DL.dk_var 3) DL.dp_nil))) DL.da_nil)))))))
       (DL.ds_ret (DL.de_xsort 1)))))) (by decide) h

def bod_Subdivision_init : DL.M DL.Out := (DL.seqM (DL.dropM (DL.callE mir_check_sites (DL.consA (DL.vE 1) DL.nilA)))
 (DL.seqM (DL.sfldM 0 0 0 (DL.cbE DL.opTuple (DL.consP (DL.kE (DL.cbE DL.opSorted (DL.consP (DL.vK 1) DL.nilP))) DL.nilP)))
 (DL.seqM (DL.asgM 2 (DL.cbE DL.opList (DL.consP (DL.kE (DL.fldE 0 0 (DL.vK 0))) DL.nilP)))
 (DL.seqM (DL.sfldM 0 0 1 (DL.callE mir_border_of (DL.consA (DL.vE 2) DL.nilA)))
 (DL.seqM (DL.sfldM 0 0 2 (DL.orV (DL.op2 DL.opEq (DL.kE (DL.slE (DL.vK 2) DL.noO (DL.someO (DL.kE (DL.cE (.int 1)))))) (DL.kE (DL.slE (DL.vK 2) (DL.someO (DL.kE (DL.op1 DL.opNeg (DL.kE (DL.cE (.int 1)))))) DL.noO))) (DL.cbE DL.opAll (DL.consP (DL.kE (DL.lcE (DL.itE (DL.vE 2)) (DL.nmG 3) DL.yesM (DL.op2 DL.opEq (DL.kE (DL.callE mir_turn (DL.consA (DL.op2 DL.opIx (DL.vK 2) (DL.kE (DL.cE (.int 0)))) (DL.consA (DL.op2 DL.opIx (DL.vK 2) (DL.kE (DL.op1 DL.opNeg (DL.kE (DL.cE (.int 1)))))) (DL.consA (DL.vE 3) DL.nilA))))) (DL.kE (DL.cE (.int 0)))) [3])) DL.nilP))))
 (DL.seqM (DL.sfldM 0 0 3 (DL.ifE (DL.trE (DL.kE (DL.fldE 0 2 (DL.vK 0)))) (DL.lstE DL.nilA) (DL.callE mir_faces_of (DL.consA (DL.vE 2) DL.nilA))))
 (DL.sfldM 0 0 4 (DL.methE 0 mir_Subdivision_pairs_joined (DL.vK 0) DL.nilA))))))))
def mir_Subdivision_init : DL.Mir := DL.runB bod_Subdivision_init 4
theorem okx_Subdivision_init (T : Tops K mg) : FnOk P w K mg base (L2.CX P w) 5 (He.ma K (He.ga K "Subdivision") "__init__") T.fd_Subdivision_init P_Subdivision_init (DL.dSp (kt K P w W F) 2 mir_Subdivision_init) := by
  refine T.F_Subdivision_init.ok sc_Subdivision_init (fun vs H Q E h => h.1) (fun cdv A outer s H vs Q E hr h => ?_)
  refine ⟨_, (pss_cons (ps_expr (pe_call (okx_check_sites (P := P) (w := w) (W := W) (F := F) T) (hr.mono (by decide)) (by rfl) T.g_check_sites T.F_check_sites.kp (b_check_sites T) .nil (passes_call (takes_of rfl rfl rfl rfl) (fun _ _ _ _ h => h)) (pa_cons (pv 1) pa_nil)))
       (pss_cons (ps_fld (pv 0) (pe_callTy (DL.call_tupleU K) (by rfl) T.m_tuple (by decide +kernel) (pa_cons (pe_callB (DL.cr_srt K hr.units) (by rfl) T.m_sorted (by decide +kernel) (pa_cons (pv 1) pa_nil)) pa_nil)) rfl)
       (pss_cons (ps_set (i := 2) sc_Subdivision_init.nd rfl (.inr rfl) (pe_callTy (DL.call_listU K) (by rfl) T.m_list (by decide +kernel) (pa_cons (pe_fld (pv 0) (by rfl)) pa_nil)))
       (pss_cons (ps_fld (pv 0) (pe_call (ok_border_of (P := P) (w := w) (W := W) (F := F) T) (hr.mono (by decide)) (by rfl) T.g_border_of T.F_border_of.kp (b_border_of T) .nil (DL.passE (E := E)) (pa_cons (pv 2) pa_nil)) rfl)
       (pss_cons (ps_fld (pv 0) (pe_or (pe_cmpR (DL.op_eqU K hr.units) (pe_slice (DL.sl_U K) (pv 2) po_none (po_some pe_int)) (pe_slice (DL.sl_U K) (pv 2) (po_some (pe_un un_neg pe_int)) po_none) (nomark _)) (pe_one (pe_callB (cr_allK K rfl) (by rfl) T.m_all (by decide +kernel) (pa_cons (pe_lc (own := [("site", 3)]) (g := gName 3) (tt := tYes) rfl sc_Subdivision_init.nd (DL.pi_seq K (pv 2)) (blkOk_by (own := [("site", 3)]) (N := N_Subdivision_init) (sc := defScope (mth 29 0)) (by decide +kernel)) (fun _ _ _ _ _ => (pg_name (i := 3) sc_Subdivision_init.nd rfl (.inl rfl))) (fun _ _ _ _ _ => pts_nil) (fun bs bH bC bcl bfp => (pe_cmpR (DL.op_eqU K hr.units) (pe_call (ok_turn (P := P) (w := w) (W := W) (F := F) T) (hr.mono (by decide)) (by rfl) T.g_turn T.F_turn.kp (b_turn T) .nil (DL.passE (E := E)) (pa_cons (pe_ix (DL.ix_U K) (pv 2) pe_int (fun _ _ => rfl)) (pa_cons (pe_ix (DL.ix_U K) (pv 2) (pe_un un_neg pe_int) (fun _ _ => rfl)) (pa_cons (pv 3) pa_nil)))) pe_int (nomark _)))) pa_nil)))) rfl)
       (pss_cons (ps_fld (pv 0) (pe_ifExp (pt_truth (pe_fld (pv 0) (by rfl)) (by intro _; rfl)) (pe_lst pa_nil) (pe_call (ok_faces_of (P := P) (w := w) (W := W) (F := F) T) (hr.mono (by decide)) (by rfl) T.g_faces_of T.F_faces_of.kp (b_faces_of T) .nil (DL.passE (E := E)) (pa_cons (pv 2) pa_nil))) rfl)
       (pss_one (ps_fld (pv 0) (pe_meth0 (pv 0) T.cl_Subdivision T.me_Subdivision_pairs_joined (ok_Subdivision_pairs_joined (P := P) (w := w) (W := W) (F := F) T) (hr.mono (by decide)) (b_Subdivision_pairs_joined T) .nil (DL.passE (E := E))) rfl)))))))), ?_⟩
  exact DL.body_ok (T := kt K P w W F) (E := E) (f := bod_Subdivision_init) (N := N_Subdivision_init) (n := 2) ((DL.ds_seq (DL.ds_drop (DL.de_call (DL.da_cons (DL.de_var 1) DL.da_nil) (DL.len_cons DL.len_nil)))
       (DL.ds_seq (DL.ds_fld (fn := "kept") 0 0 0 rfl T.no_Subdivision_kept (DL.de_cb DL.cs_tuple (DL.dp_cons (DL.dk_of (DL.de_cb DL.cs_sorted (DL.dp_cons (DL.dk_var 1) DL.dp_nil))) DL.dp_nil)))
       (DL.ds_seq (DL.ds_asg 2 (DL.de_cb DL.cs_list (DL.dp_cons (DL.dk_of (DL.de_fld (fn := "kept") 0 0 rfl T.no_Subdivision_kept (DL.dk_var 0))) DL.dp_nil)))
       (DL.ds_seq (DL.ds_fld (fn := "border") 0 0 1 rfl T.no_Subdivision_border (DL.de_call (DL.da_cons (DL.de_var 2) DL.da_nil) (DL.len_cons DL.len_nil)))
       (DL.ds_seq (DL.ds_fld (fn := "is_row") 0 0 2 rfl T.no_Subdivision_is_row (DL.de_or (DL.de_op DL.os_eq (DL.dk_of (DL.de_sl (DL.dk_var 2) DL.do_none (DL.do_some (DL.dk_of (DL.de_c fun _ => .int 1))))) (DL.dk_of (DL.de_sl (DL.dk_var 2) (DL.do_some (DL.dk_of (DL.de_neg (DL.dk_of (DL.de_c fun _ => .int 1))))) DL.do_none))) (DL.de_cb DL.cs_all (DL.dp_cons (DL.dk_of (DL.de_lc (vs := [3]) (by decide) (DL.di_seq (DL.de_var 2)) (DL.dg_name 3) DL.dt_yes (DL.de_op DL.os_eq (DL.dk_of (DL.de_call (DL.da_cons (DL.de_op DL.os_ix (DL.dk_var 2) (DL.dk_of (DL.de_c fun _ => .int 0))) (DL.da_cons (DL.de_op DL.os_ix (DL.dk_var 2) (DL.dk_of (DL.de_neg (DL.dk_of (DL.de_c fun _ => .int 1))))) (DL.da_cons (DL.de_var 3) DL.da_nil))) (DL.len_cons (DL.len_cons (DL.len_cons DL.len_nil))))) (DL.dk_of (DL.de_c fun _ => .int 0))))) DL.dp_nil))))
       (DL.ds_seq (DL.ds_fld (fn := "polygons") 0 0 3 rfl T.no_Subdivision_polygons (DL.de_if (DL.dt_truth (DL.dk_of (DL.de_fld (fn := "is_row") 0 2 rfl T.no_Subdivision_is_row (DL.dk_var 0)))) (DL.de_lst DL.da_nil) (DL.de_call (DL.da_cons (DL.de_var 2) DL.da_nil) (DL.len_cons DL.len_nil))))
       (DL.ds_fld (fn := "joined") 0 0 4 rfl T.no_Subdivision_joined (DL.de_meth 0 (by decide +kernel) (DL.dk_var 0) DL.da_nil DL.len_nil))))))))) (by decide) h

def bod_Desk_init : DL.M DL.Out := (DL.seqM (DL.sfldM 0 1 0 (DL.lstE DL.nilA))
 (DL.seqM (DL.sfldM 0 1 1 (DL.lstE DL.nilA))
 (DL.seqM (DL.sfldM 0 1 2 (DL.lstE DL.nilA))
 (DL.seqM (DL.sfldM 0 1 3 (DL.tupE (DL.consA (DL.lstE DL.nilA) (DL.consA (DL.lstE DL.nilA) DL.nilA))))
 (DL.sfldM 0 1 4 (DL.tupE (DL.consA (DL.lstE DL.nilA) (DL.consA (DL.lstE DL.nilA) (DL.consA (DL.lstE DL.nilA) (DL.consA (DL.lstE DL.nilA) DL.nilA))))))))))
def mir_Desk_init : DL.Mir := DL.runB bod_Desk_init 1
theorem ok_Desk_init (T : Tops K mg) : FnOk P w K mg base CX0 1 (He.ma K (He.ga K "Desk") "__init__") T.fd_Desk_init P_Desk_init (DL.dSp (kt K P w W F) 1 mir_Desk_init) := by
  refine T.F_Desk_init.ok sc_Desk_init (fun vs H Q E h => h.1) (fun cdv A outer s H vs Q E hr h => ?_)
  refine ⟨_, PSs.nox ((pss_cons (ps_fld (pv 0) (pe_lst pa_nil) rfl)
       (pss_cons (ps_fld (pv 0) (pe_lst pa_nil) rfl)
       (pss_cons (ps_fld (pv 0) (pe_lst pa_nil) rfl)
       (pss_cons (ps_fld (pv 0) (pe_tup (pa_cons (pe_lst pa_nil) (pa_cons (pe_lst pa_nil) pa_nil))) rfl)
       (pss_one (ps_fld (pv 0) (pe_tup (pa_cons (pe_lst pa_nil) (pa_cons (pe_lst pa_nil) (pa_cons (pe_lst pa_nil) (pa_cons (pe_lst pa_nil) pa_nil))))) rfl))))))), ?_⟩
  exact DL.body_ok (T := kt K P w W F) (E := E) (f := bod_Desk_init) (N := N_Desk_init) (n := 1) ((DL.ds_seq (DL.ds_fld (fn := "present") 0 1 0 rfl T.no_Desk_present (DL.de_lst DL.da_nil))
       (DL.ds_seq (DL.ds_fld (fn := "past") 0 1 1 rfl T.no_Desk_past (DL.de_lst DL.da_nil))
       (DL.ds_seq (DL.ds_fld (fn := "later") 0 1 2 rfl T.no_Desk_later (DL.de_lst DL.da_nil))
       (DL.ds_seq (DL.ds_fld (fn := "shown") 0 1 3 rfl T.no_Desk_shown (DL.de_tup (DL.da_cons (DL.de_lst DL.da_nil) (DL.da_cons (DL.de_lst DL.da_nil) DL.da_nil))))
       (DL.ds_fld (fn := "last_change") 0 1 4 rfl T.no_Desk_last_change (DL.de_tup (DL.da_cons (DL.de_lst DL.da_nil) (DL.da_cons (DL.de_lst DL.da_nil) (DL.da_cons (DL.de_lst DL.da_nil) (DL.da_cons (DL.de_lst DL.da_nil) DL.da_nil))))))))))) (by decide) h

end

end NC
namespace NC
section
variable {P : Program} {w : World} {K : PySem.W.Frag} {mg : Str → Option Value} {base : Heap} {W : List (Addr × Str)} {F : Int → Hp → Addr → Prop}
abbrev rQ_law_all_say : Str := (envOfC "_law_all_say" (defScope (top 61)) 0 0 .none).qual ++ "<lambda>"
abbrev rQ_law_sites_right : Str := (envOfC "_law_sites_right" (defScope (top 63)) 0 0 .none).qual ++ "<lambda>"
abbrev rQ_law_triangles_right : Str := (envOfC "_law_triangles_right" (defScope (top 64)) 0 0 .none).qual ++ "<lambda>"
abbrev rQ_law : Str := (envOfC "law" (defScope (top 65)) 0 0 .none).qual ++ "<lambda>"
def tbs (K : PySem.W.Frag) : List (Addr × Str) := [((He.cT K ("_law_all_say", none)).2, rQ_law_all_say), ((He.cT K ("_law_sites_right", none)).2, rQ_law_sites_right), ((He.cT K ("_law_triangles_right", none)).2, rQ_law_triangles_right), ((He.cT K ("law", none)).2, rQ_law)]
theorem mem_law_all_say (K : PySem.W.Frag) : ((He.cT K ("_law_all_say", none)).2, rQ_law_all_say) ∈ tbs K := by
  unfold tbs
  simp
theorem uniq_law_all_say (T : Tops K mg) : ∀ p ∈ tbs K, p.1 = (He.cT K ("_law_all_say", none)).2 → p.2 = rQ_law_all_say := fun p hp e => by
  unfold tbs at hp
  simp only [List.mem_cons, List.not_mem_nil, or_false] at hp
  rcases hp with rfl | rfl | rfl | rfl
  · rfl
  · exact absurd e.symm T.t_law_all_say_law_sites_right
  · exact absurd e.symm T.t_law_all_say_law_triangles_right
  · exact absurd e.symm T.t_law_all_say_law
theorem mem_law_sites_right (K : PySem.W.Frag) : ((He.cT K ("_law_sites_right", none)).2, rQ_law_sites_right) ∈ tbs K := by
  unfold tbs
  simp
theorem uniq_law_sites_right (T : Tops K mg) : ∀ p ∈ tbs K, p.1 = (He.cT K ("_law_sites_right", none)).2 → p.2 = rQ_law_sites_right := fun p hp e => by
  unfold tbs at hp
  simp only [List.mem_cons, List.not_mem_nil, or_false] at hp
  rcases hp with rfl | rfl | rfl | rfl
  · exact absurd e T.t_law_all_say_law_sites_right
  · rfl
  · exact absurd e.symm T.t_law_sites_right_law_triangles_right
  · exact absurd e.symm T.t_law_sites_right_law
theorem mem_law_triangles_right (K : PySem.W.Frag) : ((He.cT K ("_law_triangles_right", none)).2, rQ_law_triangles_right) ∈ tbs K := by
  unfold tbs
  simp
theorem uniq_law_triangles_right (T : Tops K mg) : ∀ p ∈ tbs K, p.1 = (He.cT K ("_law_triangles_right", none)).2 → p.2 = rQ_law_triangles_right := fun p hp e => by
  unfold tbs at hp
  simp only [List.mem_cons, List.not_mem_nil, or_false] at hp
  rcases hp with rfl | rfl | rfl | rfl
  · exact absurd e T.t_law_all_say_law_triangles_right
  · exact absurd e T.t_law_sites_right_law_triangles_right
  · rfl
  · exact absurd e.symm T.t_law_triangles_right_law
theorem mem_law (K : PySem.W.Frag) : ((He.cT K ("law", none)).2, rQ_law) ∈ tbs K := by
  unfold tbs
  simp
theorem uniq_law (T : Tops K mg) : ∀ p ∈ tbs K, p.1 = (He.cT K ("law", none)).2 → p.2 = rQ_law := fun p hp e => by
  unfold tbs at hp
  simp only [List.mem_cons, List.not_mem_nil, or_false] at hp
  rcases hp with rfl | rfl | rfl | rfl
  · exact absurd e T.t_law_all_say_law
  · exact absurd e T.t_law_sites_right_law
  · exact absurd e T.t_law_triangles_right_law
  · rfl
theorem tabs0 {H : Hp} (h : ∀ p ∈ [He.cT K ("_law_all_say", none), He.cT K ("_law_sites_right", none), He.cT K ("_law_triangles_right", none), He.cT K ("law", none)], H p.2 = some (.tbl #[])) : LamX.Tabs (tbs K) H := fun p hp => by
  unfold tbs at hp
  simp only [List.mem_cons, List.not_mem_nil, or_false] at hp
  rcases hp with rfl | rfl | rfl | rfl
  · exact LamX.TabS.nil (h _ (by simp))
  · exact LamX.TabS.nil (h _ (by simp))
  · exact LamX.TabS.nil (h _ (by simp))
  · exact LamX.TabS.nil (h _ (by simp))
def raisedE (K : PySem.W.Frag) (Q : VK) : XK := fun cls d H' => (∃ dd v, cls = .ref (He.ga K "InvalidSites") ∧ d = some dd ∧ H' dd = some (.xd [("at", v)]) ∧ ∀ p, H' p = none → Q (.ref p) (upd H' p (.tup [.str "sites", v]))) ∨ (∃ dd v, cls = .ref (He.ga K "InvalidTriangles") ∧ d = some dd ∧ H' dd = some (.xd [("at", v)]) ∧ ∀ p, H' p = none → Q (.ref p) (upd H' p (.tup [.str "triangles", v]))) ∨ (∃ dd v, cls = .ref (He.ga K "InvalidBound") ∧ d = some dd ∧ H' dd = some (.xd [("argument", v)]) ∧ Q v H')
def sp_law_said (K : PySem.W.Frag) (al : Addr → XK → Hp → VK → Prop) : Sp := fun vs H Q _ => ∃ f : Addr, vs = [.ref f] ∧ al f (raisedE K Q) H (fun _ H1 => Q .non H1)
def hd_law : Int → DL.D → Option DL.D := fun c x => if c = 0 then some (.tuple [.str "sites", x]) else if c = 2 then some (.tuple [.str "triangles", x]) else if c = 1 then some x else  none
theorem said_ok : DL.SaidOk (kt K P w W F) (raisedE K) hd_law := by
  intro Q c x y H' d v G hy e r gh q
  unfold hd_law at hy
  by_cases h0 : c = 0
  · subst h0
    rw [if_pos rfl] at hy
    cases hy
    refine .inl ⟨d, v, rfl, rfl, e, fun p np => ?_⟩
    have al := DL.Al.new (o := .tup [.str "sites", v]) gh np
    exact q (.ref p) _ _ al (.tup upd_same (.cons (.str _) (.cons (r.mono al.gg) .nil)))
  by_cases h1 : c = 2
  · subst h1
    rw [if_neg (by decide)] at hy
    rw [if_pos rfl] at hy
    cases hy
    refine .inr (.inl ⟨d, v, rfl, rfl, e, fun p np => ?_⟩)
    have al := DL.Al.new (o := .tup [.str "triangles", v]) gh np
    exact q (.ref p) _ _ al (.tup upd_same (.cons (.str _) (.cons (r.mono al.gg) .nil)))
  by_cases h2 : c = 1
  · subst h2
    rw [if_neg (by decide)] at hy
    rw [if_neg (by decide)] at hy
    rw [if_pos rfl] at hy
    cases hy
    exact .inr (.inr (⟨d, v, rfl, rfl, e, q v G H' (DL.Al.refl gh) r⟩))
  rw [if_neg h0] at hy
  rw [if_neg h1] at hy
  rw [if_neg h2] at hy
  cases hy
theorem ok_law_said (T : Tops K mg) {kk : Nat} {al : Addr → XK → Hp → VK → Prop} (ha : ∀ f, NCLam.Acts P w K mg base kk f (al f)) : FnOk P w K mg base CX0 (kk + 1) (He.ga K "_law_said") T.fd_law_said P_law_said (sp_law_said K al) := by
  refine T.F_law_said.ok sc_law_said (fun vs H Q E h => ?_) (fun cdv A outer s H vs Q E hr h => ?_)
  · obtain ⟨f, rfl, _⟩ := h
    rfl
  obtain ⟨f, rfl, h⟩ := h
  refine ⟨_, PSs.nox (pss_cons (ps_try_any (X := (cxOf CX0 P w K mg base N_law_said "_law_said" (defScope (top 60)) (He.ga K "_law_said") cdv A outer s H E).nox) (Wout := fun _ _ _ _ => False)
      (tb := fun W D σ H => ∃ (f : Addr) (E : XK), σ[0]? = some (some (V.ref f)) ∧ (∀ cls d H', E cls d H' → W cls d σ H') ∧ al f E H (fun _ H1 => D.nx σ H1))
      (l := [(.ref (He.ga K "InvalidSites"), some 1, fun a cls d D σ H => cls = .ref (He.ga K "InvalidSites") ∧ tRet (tIf (tB (tCB (NCLam.rIsD K (He.ga K "InvalidSites") a d) (tCons (tVar 1) (tCons (tC (.ref (He.ga K "CellError"))) tNil)))) (tTup (tCons (tC (.str "sites")) (tCons (tXf a cls d (He.ga K "InvalidSites") "at" (tVar 1)) tNil))) (tC (.str "other"))) D σ H), (.ref (He.ga K "InvalidTriangles"), some 1, fun a cls d D σ H => cls = .ref (He.ga K "InvalidTriangles") ∧ tRet (tIf (tB (tCB (NCLam.rIsD K (He.ga K "InvalidTriangles") a d) (tCons (tVar 1) (tCons (tC (.ref (He.ga K "CellError"))) tNil)))) (tTup (tCons (tC (.str "triangles")) (tCons (tXf a cls d (He.ga K "InvalidTriangles") "at" (tVar 1)) tNil))) (tC (.str "other"))) D σ H), (.ref (He.ga K "InvalidBound"), some 1, fun a cls d D σ H => cls = .ref (He.ga K "InvalidBound") ∧ tRet (tIf (tB (tCB (NCLam.rIsD K (He.ga K "InvalidBound") a d) (tCons (tVar 1) (tCons (tC (.ref (He.ga K "CellError"))) tNil)))) (tXf a cls d (He.ga K "InvalidBound") "argument" (tVar 1)) (tC (.str "other"))) D σ H)]) rfl rfl LamX.takes0 (fun W pn xe tk _ => ?b) (.named (X := (cxOf CX0 P w K mg base N_law_said "_law_said" (defScope (top 60)) (He.ga K "_law_said") cdv A outer s H E).nox) (i := 1) sc_law_said.nd rfl rfl (by exact ⟨rfl, by decide, .inl T.g_InvalidSites⟩) (fun a oe cls d pn hz hf => ?h0) (.named (X := (cxOf CX0 P w K mg base N_law_said "_law_said" (defScope (top 60)) (He.ga K "_law_said") cdv A outer s H E).nox) (i := 1) sc_law_said.nd rfl rfl (by exact ⟨rfl, by decide, .inl T.g_InvalidTriangles⟩) (fun a oe cls d pn hz hf => ?h1) (.named (X := (cxOf CX0 P w K mg base N_law_said "_law_said" (defScope (top 60)) (He.ga K "_law_said") cdv A outer s H E).nox) (i := 1) sc_law_said.nd rfl rfl (by exact ⟨rfl, by decide, .inl T.g_InvalidBound⟩) (fun a oe cls d pn hz hf => ?h2) .nil)))) (pss_one (ps_ret pe_non))), ?e⟩
  case b => exact pss_one (ps_expr (NCLam.pe_act (X := Cx.tr ((cxOf CX0 P w K mg base N_law_said "_law_said" (defScope (top 60)) (He.ga K "_law_said") cdv A outer s H E).nox) pn xe) (al := al) ha hr tk rfl (.inl rfl)))
  case h0 =>
    refine ⟨fun pins s' σ H' D I h' => ?_⟩
    obtain ⟨rfl, h3⟩ := h'
    exact (pss_one (ps_ret (pe_ifExp (pt_val (pe_callB (NCLam.call_isD (X := (cxOf CX0 P w K mg base N_law_said "_law_said" (defScope (top 60)) (He.ga K "_law_said") cdv A outer s H E).nox) (pn := pn) T.C_InvalidSites hz hf) (by rfl) T.m_isinstance (by decide +kernel) (pa_cons (pv 1) (pa_cons (pe_glob (v := .ref (He.ga K "CellError")) (by rfl) T.g_CellError rfl) pa_nil)))) (pe_tup (pa_cons pe_str (pa_cons (pe_xf (X := (cxOf CX0 P w K mg base N_law_said "_law_said" (defScope (top 60)) (He.ga K "_law_said") cdv A outer s H E).nox) (NCLam.ExcC.xf T.C_InvalidSites) T.n_InvalidSites_at hz hf (pv 1)) pa_nil))) pe_str))).run pins s' σ H' D I h3
  case h1 =>
    refine ⟨fun pins s' σ H' D I h' => ?_⟩
    obtain ⟨rfl, h3⟩ := h'
    exact (pss_one (ps_ret (pe_ifExp (pt_val (pe_callB (NCLam.call_isD (X := (cxOf CX0 P w K mg base N_law_said "_law_said" (defScope (top 60)) (He.ga K "_law_said") cdv A outer s H E).nox) (pn := pn) T.C_InvalidTriangles hz hf) (by rfl) T.m_isinstance (by decide +kernel) (pa_cons (pv 1) (pa_cons (pe_glob (v := .ref (He.ga K "CellError")) (by rfl) T.g_CellError rfl) pa_nil)))) (pe_tup (pa_cons pe_str (pa_cons (pe_xf (X := (cxOf CX0 P w K mg base N_law_said "_law_said" (defScope (top 60)) (He.ga K "_law_said") cdv A outer s H E).nox) (NCLam.ExcC.xf T.C_InvalidTriangles) T.n_InvalidTriangles_at hz hf (pv 1)) pa_nil))) pe_str))).run pins s' σ H' D I h3
  case h2 =>
    refine ⟨fun pins s' σ H' D I h' => ?_⟩
    obtain ⟨rfl, h3⟩ := h'
    exact (pss_one (ps_ret (pe_ifExp (pt_val (pe_callB (NCLam.call_isD (X := (cxOf CX0 P w K mg base N_law_said "_law_said" (defScope (top 60)) (He.ga K "_law_said") cdv A outer s H E).nox) (pn := pn) T.C_InvalidBound hz hf) (by rfl) T.m_isinstance (by decide +kernel) (pa_cons (pv 1) (pa_cons (pe_glob (v := .ref (He.ga K "CellError")) (by rfl) T.g_CellError rfl) pa_nil)))) (pe_xf (X := (cxOf CX0 P w K mg base N_law_said "_law_said" (defScope (top 60)) (He.ga K "_law_said") cdv A outer s H E).nox) (NCLam.ExcC.xf T.C_InvalidBound) T.n_InvalidBound_argument hz hf (pv 1)) pe_str))).run pins s' σ H' D I h3
  case e =>
    rw [st_law_said]
    refine ⟨f, raisedE K Q, rfl, fun cls d H' hE => ?_, h⟩
    rcases hE with ⟨dd, v, rfl, rfl, hd, q⟩ | ⟨dd, v, rfl, rfl, hd, q⟩ | ⟨dd, v, rfl, rfl, hd, q⟩
    · exact ⟨true, T.e_InvalidSites_InvalidSites, fun _ a na => ⟨rfl, g_ret (g_if (g_tb (g_cb (g_cons (g_var (v := .ref a) rfl (g_cons (g_c (g_nil ⟨_, .ref (He.ga K "CellError"), true, dd, _, rfl, fun u r => r, T.k_InvalidSites, rfl, hd, true, rfl, iteT (by
      unfold tTup
      unfold tCons tC tXf tVar tNil
      exact ⟨.ref a, rfl, rfl, rfl, dd, _, v, rfl, hd, by simp [List.lookup], len_le (n := 2) (by decide), q⟩)⟩))))))))⟩, fun z => by cases z⟩
    · exact ⟨false, T.e_InvalidTriangles_InvalidSites, fun z => (by cases z), fun _ => ⟨true, T.e_InvalidTriangles_InvalidTriangles, fun _ a na => ⟨rfl, g_ret (g_if (g_tb (g_cb (g_cons (g_var (v := .ref a) rfl (g_cons (g_c (g_nil ⟨_, .ref (He.ga K "CellError"), true, dd, _, rfl, fun u r => r, T.k_InvalidTriangles, rfl, hd, true, rfl, iteT (by
      unfold tTup
      unfold tCons tC tXf tVar tNil
      exact ⟨.ref a, rfl, rfl, rfl, dd, _, v, rfl, hd, by simp [List.lookup], len_le (n := 2) (by decide), q⟩)⟩))))))))⟩, fun z => by cases z⟩⟩
    · exact ⟨false, T.e_InvalidBound_InvalidSites, fun z => (by cases z), fun _ => ⟨false, T.e_InvalidBound_InvalidTriangles, fun z => (by cases z), fun _ => ⟨true, T.e_InvalidBound_InvalidBound, fun _ a na => ⟨rfl, g_ret (g_if (g_tb (g_cb (g_cons (g_var (v := .ref a) rfl (g_cons (g_c (g_nil ⟨_, .ref (He.ga K "CellError"), true, dd, _, rfl, fun u r => r, T.k_InvalidBound, rfl, hd, true, rfl, iteT ⟨.ref a, rfl, rfl, rfl, dd, _, v, rfl, hd, by simp [List.lookup], q⟩⟩))))))))⟩, fun z => by cases z⟩⟩⟩
theorem len_law_said {al : Addr → XK → Hp → VK → Prop} {vs : List V} {H : Hp} {Q : VK} {E : XK} (h : sp_law_said K al vs H Q E) : vs.length = P_law_said.length := by
  obtain ⟨f, rfl, _⟩ := h
  rfl
theorem bodU_law_said (T : Tops K mg) {kk : Nat} {al : Addr → XK → Hp → VK → Prop} {cdv : Value} {A : Around} {outer : List Env} {s : Shared} {H : Hp} {vs : List V} {Q : VK} {E : XK} (ha : ∀ f, DL.ActsU P w K mg base (frs outer) H s kk f (al f)) (hr : Room kk (A.deeper (envOfC "_law_said" (defScope (top 60)) s.heap.objs.size (He.ga K "_law_said") cdv))) (h : sp_law_said K al vs H Q E) :
    ∃ t, PSs (cxOf CX0 P w K mg base N_law_said "_law_said" (defScope (top 60)) (He.ga K "_law_said") cdv A outer s H E) (defBody (top 60)) t ∧ t { nx := fun _ H' => Q .non H', rt := Q } (L2.start N_law_said vs) H := by
  obtain ⟨f, rfl, h⟩ := h
  refine ⟨_, PSs.nox (pss_cons (ps_try_any (X := (cxOf CX0 P w K mg base N_law_said "_law_said" (defScope (top 60)) (He.ga K "_law_said") cdv A outer s H E).nox) (Wout := fun _ _ _ _ => False)
      (tb := fun W D σ H => ∃ (f : Addr) (E : XK), σ[0]? = some (some (V.ref f)) ∧ (∀ cls d H', E cls d H' → W cls d σ H') ∧ al f E H (fun _ H1 => D.nx σ H1))
      (l := [(.ref (He.ga K "InvalidSites"), some 1, fun a cls d D σ H => cls = .ref (He.ga K "InvalidSites") ∧ tRet (tIf (tB (tCB (NCLam.rIsD K (He.ga K "InvalidSites") a d) (tCons (tVar 1) (tCons (tC (.ref (He.ga K "CellError"))) tNil)))) (tTup (tCons (tC (.str "sites")) (tCons (tXf a cls d (He.ga K "InvalidSites") "at" (tVar 1)) tNil))) (tC (.str "other"))) D σ H), (.ref (He.ga K "InvalidTriangles"), some 1, fun a cls d D σ H => cls = .ref (He.ga K "InvalidTriangles") ∧ tRet (tIf (tB (tCB (NCLam.rIsD K (He.ga K "InvalidTriangles") a d) (tCons (tVar 1) (tCons (tC (.ref (He.ga K "CellError"))) tNil)))) (tTup (tCons (tC (.str "triangles")) (tCons (tXf a cls d (He.ga K "InvalidTriangles") "at" (tVar 1)) tNil))) (tC (.str "other"))) D σ H), (.ref (He.ga K "InvalidBound"), some 1, fun a cls d D σ H => cls = .ref (He.ga K "InvalidBound") ∧ tRet (tIf (tB (tCB (NCLam.rIsD K (He.ga K "InvalidBound") a d) (tCons (tVar 1) (tCons (tC (.ref (He.ga K "CellError"))) tNil)))) (tXf a cls d (He.ga K "InvalidBound") "argument" (tVar 1)) (tC (.str "other"))) D σ H)]) rfl rfl LamX.takes0 (fun W pn xe tk _ => ?b) (.named (X := (cxOf CX0 P w K mg base N_law_said "_law_said" (defScope (top 60)) (He.ga K "_law_said") cdv A outer s H E).nox) (i := 1) sc_law_said.nd rfl rfl (by exact ⟨rfl, by decide, .inl T.g_InvalidSites⟩) (fun a oe cls d pn hz hf => ?h0) (.named (X := (cxOf CX0 P w K mg base N_law_said "_law_said" (defScope (top 60)) (He.ga K "_law_said") cdv A outer s H E).nox) (i := 1) sc_law_said.nd rfl rfl (by exact ⟨rfl, by decide, .inl T.g_InvalidTriangles⟩) (fun a oe cls d pn hz hf => ?h1) (.named (X := (cxOf CX0 P w K mg base N_law_said "_law_said" (defScope (top 60)) (He.ga K "_law_said") cdv A outer s H E).nox) (i := 1) sc_law_said.nd rfl rfl (by exact ⟨rfl, by decide, .inl T.g_InvalidBound⟩) (fun a oe cls d pn hz hf => ?h2) .nil)))) (pss_one (ps_ret pe_non))), ?e⟩
  case b => exact pss_one (ps_expr (DL.pe_actU (X := Cx.tr ((cxOf CX0 P w K mg base N_law_said "_law_said" (defScope (top 60)) (He.ga K "_law_said") cdv A outer s H E).nox) pn xe) (al := al) ha rfl hr tk rfl (.inl rfl)))
  case h0 =>
    refine ⟨fun pins s' σ H' D I h' => ?_⟩
    obtain ⟨rfl, h3⟩ := h'
    exact (pss_one (ps_ret (pe_ifExp (pt_val (pe_callB (NCLam.call_isD (X := (cxOf CX0 P w K mg base N_law_said "_law_said" (defScope (top 60)) (He.ga K "_law_said") cdv A outer s H E).nox) (pn := pn) T.C_InvalidSites hz hf) (by rfl) T.m_isinstance (by decide +kernel) (pa_cons (pv 1) (pa_cons (pe_glob (v := .ref (He.ga K "CellError")) (by rfl) T.g_CellError rfl) pa_nil)))) (pe_tup (pa_cons pe_str (pa_cons (pe_xf (X := (cxOf CX0 P w K mg base N_law_said "_law_said" (defScope (top 60)) (He.ga K "_law_said") cdv A outer s H E).nox) (NCLam.ExcC.xf T.C_InvalidSites) T.n_InvalidSites_at hz hf (pv 1)) pa_nil))) pe_str))).run pins s' σ H' D I h3
  case h1 =>
    refine ⟨fun pins s' σ H' D I h' => ?_⟩
    obtain ⟨rfl, h3⟩ := h'
    exact (pss_one (ps_ret (pe_ifExp (pt_val (pe_callB (NCLam.call_isD (X := (cxOf CX0 P w K mg base N_law_said "_law_said" (defScope (top 60)) (He.ga K "_law_said") cdv A outer s H E).nox) (pn := pn) T.C_InvalidTriangles hz hf) (by rfl) T.m_isinstance (by decide +kernel) (pa_cons (pv 1) (pa_cons (pe_glob (v := .ref (He.ga K "CellError")) (by rfl) T.g_CellError rfl) pa_nil)))) (pe_tup (pa_cons pe_str (pa_cons (pe_xf (X := (cxOf CX0 P w K mg base N_law_said "_law_said" (defScope (top 60)) (He.ga K "_law_said") cdv A outer s H E).nox) (NCLam.ExcC.xf T.C_InvalidTriangles) T.n_InvalidTriangles_at hz hf (pv 1)) pa_nil))) pe_str))).run pins s' σ H' D I h3
  case h2 =>
    refine ⟨fun pins s' σ H' D I h' => ?_⟩
    obtain ⟨rfl, h3⟩ := h'
    exact (pss_one (ps_ret (pe_ifExp (pt_val (pe_callB (NCLam.call_isD (X := (cxOf CX0 P w K mg base N_law_said "_law_said" (defScope (top 60)) (He.ga K "_law_said") cdv A outer s H E).nox) (pn := pn) T.C_InvalidBound hz hf) (by rfl) T.m_isinstance (by decide +kernel) (pa_cons (pv 1) (pa_cons (pe_glob (v := .ref (He.ga K "CellError")) (by rfl) T.g_CellError rfl) pa_nil)))) (pe_xf (X := (cxOf CX0 P w K mg base N_law_said "_law_said" (defScope (top 60)) (He.ga K "_law_said") cdv A outer s H E).nox) (NCLam.ExcC.xf T.C_InvalidBound) T.n_InvalidBound_argument hz hf (pv 1)) pe_str))).run pins s' σ H' D I h3
  case e =>
    rw [st_law_said]
    refine ⟨f, raisedE K Q, rfl, fun cls d H' hE => ?_, h⟩
    rcases hE with ⟨dd, v, rfl, rfl, hd, q⟩ | ⟨dd, v, rfl, rfl, hd, q⟩ | ⟨dd, v, rfl, rfl, hd, q⟩
    · exact ⟨true, T.e_InvalidSites_InvalidSites, fun _ a na => ⟨rfl, g_ret (g_if (g_tb (g_cb (g_cons (g_var (v := .ref a) rfl (g_cons (g_c (g_nil ⟨_, .ref (He.ga K "CellError"), true, dd, _, rfl, fun u r => r, T.k_InvalidSites, rfl, hd, true, rfl, iteT (by
      unfold tTup
      unfold tCons tC tXf tVar tNil
      exact ⟨.ref a, rfl, rfl, rfl, dd, _, v, rfl, hd, by simp [List.lookup], len_le (n := 2) (by decide), q⟩)⟩))))))))⟩, fun z => by cases z⟩
    · exact ⟨false, T.e_InvalidTriangles_InvalidSites, fun z => (by cases z), fun _ => ⟨true, T.e_InvalidTriangles_InvalidTriangles, fun _ a na => ⟨rfl, g_ret (g_if (g_tb (g_cb (g_cons (g_var (v := .ref a) rfl (g_cons (g_c (g_nil ⟨_, .ref (He.ga K "CellError"), true, dd, _, rfl, fun u r => r, T.k_InvalidTriangles, rfl, hd, true, rfl, iteT (by
      unfold tTup
      unfold tCons tC tXf tVar tNil
      exact ⟨.ref a, rfl, rfl, rfl, dd, _, v, rfl, hd, by simp [List.lookup], len_le (n := 2) (by decide), q⟩)⟩))))))))⟩, fun z => by cases z⟩⟩
    · exact ⟨false, T.e_InvalidBound_InvalidSites, fun z => (by cases z), fun _ => ⟨false, T.e_InvalidBound_InvalidTriangles, fun z => (by cases z), fun _ => ⟨true, T.e_InvalidBound_InvalidBound, fun _ a na => ⟨rfl, g_ret (g_if (g_tb (g_cb (g_cons (g_var (v := .ref a) rfl (g_cons (g_c (g_nil ⟨_, .ref (He.ga K "CellError"), true, dd, _, rfl, fun u r => r, T.k_InvalidBound, rfl, hd, true, rfl, iteT ⟨.ref a, rfl, rfl, rfl, dd, _, v, rfl, hd, by simp [List.lookup], q⟩⟩))))))))⟩, fun z => by cases z⟩⟩⟩

end

end NC
namespace NC
section
variable {P : Program} {w : World} {K : PySem.W.Frag} {mg : Str → Option Value} {base : Heap} {W : List (Addr × Str)} {F : Int → Hp → Addr → Prop}
def lst_wrong_edges_straightened_volume (K : PySem.W.Frag) (T : DL.Kt) : List (Addr × Sp) := [(He.ga K "wrong_edges", DL.dSp T 2 mir_wrong_edges), (He.ga K "straightened", DL.dSp T 2 mir_straightened), (He.ga K "volume", DL.dSp T 2 mir_volume)]
theorem held_wrong_edges_straightened_volume (T : Tops K mg) : ∀ f sp, DL.fnR (lst_wrong_edges_straightened_volume K (kt K P w W F)) f sp → NCLam.HeldX P w K mg base 7 f sp := fun f sp h => by
  unfold DL.fnR lst_wrong_edges_straightened_volume at h
  simp only [List.mem_cons, List.not_mem_nil, or_false, Prod.mk.injEq] at h
  rcases h with ⟨rfl, rfl⟩ | ⟨rfl, rfl⟩ | ⟨rfl, rfl⟩
  · exact ⟨_, _, (okx_wrong_edges (W := W) (F := F) T).mono (by decide), T.F_wrong_edges.kp, b_wrong_edges T⟩
  · exact ⟨_, _, (okx_straightened (W := W) (F := F) T).mono (by decide), T.F_straightened.kp, b_straightened T⟩
  · exact ⟨_, _, (okx_volume (W := W) (F := F) T).mono (by decide), T.F_volume.kp, b_volume T⟩
def bod_law_all_say : DL.M DL.Out := (DL.seqM (DL.asgM 2 (DL.lcE (DL.itE (DL.tupE (DL.consA (DL.cE (DL.dFn 104)) (DL.consA (DL.cE (DL.dFn 103)) (DL.consA (DL.cE (DL.dFn 102)) DL.nilA))))) (DL.nmG 3) DL.yesM (DL.saidM hd_law (DL.callF 3 (DL.lookM [(104, mir_wrong_edges), (103, mir_straightened), (102, mir_volume)]) (DL.consA (DL.vE 0) (DL.consA (DL.vE 1) DL.nilA)))) [3]))
 (DL.retM (DL.op2 DL.opAdd (DL.vK 2) (DL.kE (DL.lstE (DL.consA (DL.saidM hd_law (DL.callE mir_flipped (DL.consA (DL.vE 0) (DL.consA (DL.vE 1) (DL.consA (DL.cE .none) DL.nilA))))) DL.nilA))))))
def mir_law_all_say : DL.Mir := DL.runL bod_law_all_say 4
theorem ok_law_all_say (T : Tops K mg) (tb_law_all_say : LamX.TabB base mg (He.cT K ("_law_all_say", none)).1 (He.cT K ("_law_all_say", none)).2) (hF : ∀ k G a, F k G a → 105 ≤ k) : FnOk P w K mg base CX0 10 (He.ga K "_law_all_say") T.fd_law_all_say P_law_all_say (DL.dSp (kt K P w (tbs K) F) 2 mir_law_all_say) := by
  refine T.F_law_all_say.okC (p := ("_law_all_say", none)) rfl sc_law_all_say (fun vs H Q E h => h.1) (fun A outer s H vs Q E hr h => ?_)
  obtain ⟨F', hF1, hF2, hF3⟩ := DL.exF F 100 [NCLam.IsLam (cxOf CX0 P w K mg base N_law_all_say "_law_all_say" (defScope (top 61)) (He.ga K "_law_all_say") (.ref (He.codeOf K ("_law_all_say", none))) A outer s H E).nox (NCLam.lamP (NCLam.eAt (NCLam.eAt (NCLam.sExpr (NCLam.nth (defBody (top 61)) 0)) 0) 0)) (NCLam.lamB (NCLam.eAt (NCLam.eAt (NCLam.sExpr (NCLam.nth (defBody (top 61)) 0)) 0) 0)) (NCLam.lamS (NCLam.eAt (NCLam.eAt (NCLam.sExpr (NCLam.nth (defBody (top 61)) 0)) 0) 0)) [],
    NCLam.IsLam (cxOf CX0 P w K mg base N_law_all_say "_law_all_say" (defScope (top 61)) (He.ga K "_law_all_say") (.ref (He.codeOf K ("_law_all_say", none))) A outer s H E).nox (NCLam.lamP (NCLam.eAt (NCLam.eAt (NCLam.eAt (NCLam.sExpr (NCLam.nth (defBody (top 61)) 1)) 1) 0) 0)) (NCLam.lamB (NCLam.eAt (NCLam.eAt (NCLam.eAt (NCLam.sExpr (NCLam.nth (defBody (top 61)) 1)) 1) 0) 0)) (NCLam.lamS (NCLam.eAt (NCLam.eAt (NCLam.eAt (NCLam.sExpr (NCLam.nth (defBody (top 61)) 1)) 1) 0) 0)) [],
    (fun _ a => a = He.ga K "volume"),
    (fun _ a => a = He.ga K "straightened"),
    (fun _ a => a = He.ga K "wrong_edges")] (fun k G a h => hF k G a h)
  refine ⟨_, PSs.nox ((pss_cons (ps_setLc (i := 2) (own := [("_law_ask", 3)]) (g := gName 3) (tt := tYes) rfl sc_law_all_say.nd rfl rfl (sw_true rfl rfl rfl (by decide +kernel)) (DL.pi_seq K (pe_tup (pa_cons (pe_glob (v := .ref (He.ga K "wrong_edges")) (by rfl) T.g_wrong_edges rfl) (pa_cons (pe_glob (v := .ref (He.ga K "straightened")) (by rfl) T.g_straightened rfl) (pa_cons (pe_glob (v := .ref (He.ga K "volume")) (by rfl) T.g_volume rfl) pa_nil))))) (blkOk_by (own := [("_law_ask", 3)]) (N := N_law_all_say) (sc := defScope (top 61)) (by decide +kernel)) (fun _ _ _ _ _ => (pg_name (i := 3) sc_law_all_say.nd rfl (.inr rfl))) (fun _ _ _ _ _ => pts_nil) (fun bs bH bC bcl bfp => (DL.pe_every (X := fun l : DL.Ltr => l.cx ((cxOf CX0 P w K mg base N_law_all_say "_law_all_say" (defScope (top 61)) (He.ga K "_law_all_say") (.ref (He.codeOf K ("_law_all_say", none))) A outer s H E).nox) (DL.compS (NCLam.sExpr (NCLam.nth (defBody (top 61)) 0)))) (fun l => (DL.pe_callU (kk := 8) (k := 8) (DL.acting0U (params := NCLam.lamP (NCLam.eAt (NCLam.eAt (NCLam.sExpr (NCLam.nth (defBody (top 61)) 0)) 0) 0)) (body := NCLam.lamB (NCLam.eAt (NCLam.eAt (NCLam.sExpr (NCLam.nth (defBody (top 61)) 0)) 0) 0)) (scope := NCLam.lamS (NCLam.eAt (NCLam.eAt (NCLam.sExpr (NCLam.nth (defBody (top 61)) 0)) 0) 0)) (k := 7) (NCLam.lamN_by (show NCLam.lamNB N_law_all_say (relS (DL.compS (NCLam.sExpr (NCLam.nth (defBody (top 61)) 0))) (defScope (top 61))) _ = true by decide +kernel)) (fun _ _ _ => rfl) (fun B A outer s H E f c' hr => (NCLam.pe_callR (i := 3) (R := DL.fnR (lst_wrong_edges_straightened_volume K (kt K P w (tbs K) F'))) (held_wrong_edges_straightened_volume (P := P) (w := w) (W := (tbs K)) (F := F') T) (hr.mono (by decide)) rfl (.inr (.inr rfl)) (passes_call (takes_of rfl rfl rfl rfl) (fun _ _ _ _ h => h)) (pa_cons (pv 0) (pa_cons (pv 1) pa_nil))))) T.F_law_said sc_law_said (fun _ _ _ _ _ h => len_law_said h) (fun al cdv A outer s H vs Q E ha hr h => bodU_law_said T ha hr h) (hr.mono (by decide)) (by rfl) T.g_law_said (b_law_said T) (pa_cons (DL.pe_lamT (T := tbs K) tb_law_all_say rfl (mem_law_all_say K) (uniq_law_all_say T) (NCLam.lamN_by (show NCLam.lamNB N_law_all_say (relS (DL.compS (NCLam.sExpr (NCLam.nth (defBody (top 61)) 0))) (defScope (top 61))) _ = true by decide +kernel)) rfl) pa_nil))) ⟨bs, bH, bC, bcl, bfp⟩)))
       (pss_one (ps_ret (pe_op (DL.op_addU K) (pv 2) (pe_lst (pa_cons (NCLam.pe_callL (kk := 8) (NCLam.acting0 (params := NCLam.lamP (NCLam.eAt (NCLam.eAt (NCLam.eAt (NCLam.sExpr (NCLam.nth (defBody (top 61)) 1)) 1) 0) 0)) (body := NCLam.lamB (NCLam.eAt (NCLam.eAt (NCLam.eAt (NCLam.sExpr (NCLam.nth (defBody (top 61)) 1)) 1) 0) 0)) (scope := NCLam.lamS (NCLam.eAt (NCLam.eAt (NCLam.eAt (NCLam.sExpr (NCLam.nth (defBody (top 61)) 1)) 1) 0) 0)) (k := 7) (fun _ => rfl) (NCLam.lamN_by (show NCLam.lamNB N_law_all_say (defScope (top 61)) _ = true by decide +kernel)) (fun _ _ _ => rfl) (fun B A outer s H E f c' hr => (pe_call (okx_flipped (P := P) (w := w) (W := (tbs K)) (F := F') T) (hr.mono (by decide)) (by rfl) T.g_flipped T.F_flipped.kp (b_flipped T) .nil (passes_call (takes_of rfl rfl rfl rfl) (fun _ _ _ _ h => h)) (pa_cons (pv 0) (pa_cons (pv 1) (pa_cons pe_non pa_nil)))))) (fun base al ha => ok_law_said T ha) (hr.mono (by decide)) (by rfl) T.g_law_said T.F_law_said.kp (b_law_said T) (pa_cons (DL.pe_lamT (T := tbs K) tb_law_all_say rfl (mem_law_all_say K) (uniq_law_all_say T) (NCLam.lamN_by (show NCLam.lamNB N_law_all_say (defScope (top 61)) _ = true by decide +kernel)) rfl) pa_nil)) pa_nil))))))), ?_⟩
  exact DL.body_okLL (T := kt K P w (tbs K) F) (F := F') hF1 (E := E) (f := bod_law_all_say) (N := N_law_all_say) (n := 2) ((DL.ds_seq (DL.ds_asg 2 (DL.de_lc (vs := [3]) (by decide) (DL.di_seq (DL.de_tup (DL.da_cons (DL.de_c fun G => .fn 104 fun G2 _ => (hF3 4 _ rfl G2 _).mp rfl) (DL.da_cons (DL.de_c fun G => .fn 103 fun G2 _ => (hF3 3 _ rfl G2 _).mp rfl) (DL.da_cons (DL.de_c fun G => .fn 102 fun G2 _ => (hF3 2 _ rfl G2 _).mp rfl) DL.da_nil))))) (DL.dg_name 3) DL.dt_yes (DL.de_every fun l => DL.de_said (fun al f H Q E h => ⟨f, rfl, h⟩) (said_ok (W := tbs K) (F := F') (P := P) (w := w)) (fun E => (DL.de_callF 3 (fun k g e G a h => by
              have hm := DL.lookM_mem e
              simp only [List.mem_cons, List.not_mem_nil, or_false, Prod.mk.injEq] at hm
              rcases hm with ⟨rfl, rfl⟩ | ⟨rfl, rfl⟩ | ⟨rfl, rfl⟩
              · have z := (hF3 4 _ rfl G a).mpr h
                have z : a = He.ga K "wrong_edges" := z
                subst z
                unfold DL.fnR lst_wrong_edges_straightened_volume
                simp
              · have z := (hF3 3 _ rfl G a).mpr h
                have z : a = He.ga K "straightened" := z
                subst z
                unfold DL.fnR lst_wrong_edges_straightened_volume
                simp
              · have z := (hF3 2 _ rfl G a).mpr h
                have z : a = He.ga K "volume" := z
                subst z
                unfold DL.fnR lst_wrong_edges_straightened_volume
                simp
              ) (DL.da_cons (DL.de_var 0) (DL.da_cons (DL.de_var 1) DL.da_nil)) (DL.len_cons (DL.len_cons DL.len_nil)))))))
       (DL.ds_ret (DL.de_op DL.os_add (DL.dk_var 2) (DL.dk_of (DL.de_lst (DL.da_cons (DL.de_said (fun al f H Q E h => ⟨f, rfl, h⟩) (said_ok (W := tbs K) (F := F') (P := P) (w := w)) (fun E => (DL.de_call (DL.da_cons (DL.de_var 0) (DL.da_cons (DL.de_var 1) (DL.da_cons (DL.de_c fun _ => .non) DL.da_nil))) (DL.len_cons (DL.len_cons (DL.len_cons DL.len_nil)))))) DL.da_nil))))))) (by decide) h

end

end NC
namespace NC
section
variable {P : Program} {w : World} {K : PySem.W.Frag} {mg : Str → Option Value} {base : Heap} {W : List (Addr × Str)} {F : Int → Hp → Addr → Prop}
def lst_placed_steps (K : PySem.W.Frag) (T : DL.Kt) : List (Addr × Sp) := [(He.ga K "placed", DL.dSp T 1 mir_placed), (He.ga K "steps", DL.dSp T 1 mir_steps)]
theorem held_placed_steps (T : Tops K mg) : ∀ f sp, DL.fnR (lst_placed_steps K (kt K P w W F)) f sp → NCLam.HeldX P w K mg base 5 f sp := fun f sp h => by
  unfold DL.fnR lst_placed_steps at h
  simp only [List.mem_cons, List.not_mem_nil, or_false, Prod.mk.injEq] at h
  rcases h with ⟨rfl, rfl⟩ | ⟨rfl, rfl⟩
  · exact ⟨_, _, (okx_placed (W := W) (F := F) T).mono (by decide), T.F_placed.kp, b_placed T⟩
  · exact ⟨_, _, (okx_steps (W := W) (F := F) T).mono (by decide), T.F_steps.kp, b_steps T⟩
def bod_law_sites_right : DL.M DL.Out := (DL.seqM (DL.asgM 0 (DL.lstE (DL.consA (DL.tupE (DL.consA (DL.lstE DL.nilA) (DL.consA (DL.cE (.int 0)) DL.nilA))) (DL.consA (DL.tupE (DL.consA (DL.cE .none) (DL.consA (DL.op1 DL.opNeg (DL.kE (DL.cE (.int 1)))) DL.nilA))) (DL.consA (DL.tupE (DL.consA (DL.tupE (DL.consA (DL.tupE (DL.consA (DL.cE (.int 0)) (DL.consA (DL.cE (.int 0)) DL.nilA))) DL.nilA)) (DL.consA (DL.op1 DL.opNeg (DL.kE (DL.cE (.int 1)))) DL.nilA))) (DL.consA (DL.tupE (DL.consA (DL.lstE (DL.consA (DL.tupE (DL.consA (DL.cE (.int 0)) (DL.consA (DL.cE (.int 0)) DL.nilA))) (DL.consA (DL.tupE (DL.consA (DL.cE (.int 0)) (DL.consA (DL.cE (.int 0)) DL.nilA))) DL.nilA))) (DL.consA (DL.cE (.int 1)) DL.nilA))) (DL.consA (DL.tupE (DL.consA (DL.lstE (DL.consA (DL.tupE (DL.consA (DL.cE (.int 1)) (DL.consA (DL.cE (.int 2)) DL.nilA))) (DL.consA (DL.lstE (DL.consA (DL.cE (.int 1)) (DL.consA (DL.cE (.int 2)) DL.nilA))) DL.nilA))) (DL.consA (DL.cE (.int 1)) DL.nilA))) (DL.consA (DL.tupE (DL.consA (DL.cE (.str "sites")) (DL.consA (DL.op1 DL.opNeg (DL.kE (DL.cE (.int 1)))) DL.nilA))) DL.nilA))))))))
 (DL.seqM (DL.asgM 0 (DL.op2 DL.opAdd (DL.vK 0) (DL.kE (DL.lstE (DL.consA (DL.tupE (DL.consA (DL.callS mir_law_deep) (DL.consA (DL.op1 DL.opNeg (DL.kE (DL.cE (.int 1)))) DL.nilA))) (DL.consA (DL.tupE (DL.consA (DL.lstE (DL.consA (DL.tupE (DL.consA (DL.cE (.int 1)) (DL.consA (DL.cE (.int 2)) DL.nilA))) (DL.consA (DL.callS mir_law_deep) DL.nilA))) (DL.consA (DL.cE (.int 1)) DL.nilA))) (DL.consA (DL.tupE (DL.consA (DL.noX (DL.makeE 0 mir_Subdivision_init (DL.consA (DL.lstE (DL.consA (DL.tupE (DL.consA (DL.cE (.int 1)) (DL.consA (DL.cE (.int 2)) DL.nilA))) DL.nilA)) DL.nilA))) (DL.consA (DL.op1 DL.opNeg (DL.kE (DL.cE (.int 1)))) DL.nilA))) DL.nilA)))))))
 (DL.seqM (DL.forM (DL.itE (DL.op2 DL.opAdd (DL.vK 0) (DL.kE (DL.lstE (DL.consA (DL.tupE (DL.consA (DL.makeS 1 mir_Desk_init) (DL.consA (DL.op1 DL.opNeg (DL.kE (DL.cE (.int 1)))) DL.nilA))) DL.nilA))))) (DL.unlG 2 (DL.consG (DL.nmG 2) (DL.consG (DL.nmG 1) DL.nilG)))
 (DL.seqM (DL.ifM (DL.tE (DL.op2 DL.opNe (DL.kE (DL.lcE (DL.itE (DL.tupE (DL.consA (DL.cE (DL.dFn 202)) (DL.consA (DL.cE (DL.dFn 201)) DL.nilA)))) (DL.nmG 3) DL.yesM (DL.saidM hd_law (DL.callF 3 (DL.lookM [(202, mir_placed), (201, mir_steps)]) (DL.consA (DL.vE 2) DL.nilA))) [3])) (DL.kE (DL.op2 DL.opMul (DL.kE (DL.lstE (DL.consA (DL.tupE (DL.consA (DL.cE (.str "sites")) (DL.consA (DL.vE 1) DL.nilA))) DL.nilA))) (DL.kE (DL.cE (.int 2)))))))
 (DL.retM (DL.cE (.bool false)))
 DL.nxM)
 (DL.ifM (DL.tE (DL.op2 DL.opNe (DL.kE (DL.callE mir_law_all_say (DL.consA (DL.vE 2) (DL.consA (DL.cE (.int 5)) DL.nilA)))) (DL.kE (DL.op2 DL.opMul (DL.kE (DL.lstE (DL.consA (DL.tupE (DL.consA (DL.cE (.str "sites")) (DL.consA (DL.vE 1) DL.nilA))) DL.nilA))) (DL.kE (DL.cE (.int 4)))))))
 (DL.retM (DL.cE (.bool false)))
 DL.nxM)))
 (DL.retM (DL.cE (.bool true))))))
def mir_law_sites_right : DL.Mir := DL.runA bod_law_sites_right 4
theorem ok_law_sites_right (T : Tops K mg) (tb_law_sites_right : LamX.TabB base mg (He.cT K ("_law_sites_right", none)).1 (He.cT K ("_law_sites_right", none)).2) (tb_law_all_say : LamX.TabB base mg (He.cT K ("_law_all_say", none)).1 (He.cT K ("_law_all_say", none)).2) (hF : ∀ k G a, F k G a → 203 ≤ k) : FnOk P w K mg base CX0 11 (He.ga K "_law_sites_right") T.fd_law_sites_right P_law_sites_right (DL.dSp (kt K P w (tbs K) F) 0 mir_law_sites_right) := by
  refine T.F_law_sites_right.okC (p := ("_law_sites_right", none)) rfl sc_law_sites_right (fun vs H Q E h => h.1) (fun A outer s H vs Q E hr h => ?_)
  obtain ⟨F', hF1, hF2, hF3⟩ := DL.exF F 200 [NCLam.IsLam (cxOf CX0 P w K mg base N_law_sites_right "_law_sites_right" (defScope (top 63)) (He.ga K "_law_sites_right") (.ref (He.codeOf K ("_law_sites_right", none))) A outer s H E).nox (NCLam.lamP (NCLam.eAt (NCLam.eAt (NCLam.eAt (NCLam.sExpr (NCLam.sBody (NCLam.nth (defBody (top 63)) 2) 0)) 0) 0) 0)) (NCLam.lamB (NCLam.eAt (NCLam.eAt (NCLam.eAt (NCLam.sExpr (NCLam.sBody (NCLam.nth (defBody (top 63)) 2) 0)) 0) 0) 0)) (NCLam.lamS (NCLam.eAt (NCLam.eAt (NCLam.eAt (NCLam.sExpr (NCLam.sBody (NCLam.nth (defBody (top 63)) 2) 0)) 0) 0) 0)) [],
    (fun _ a => a = He.ga K "steps"),
    (fun _ a => a = He.ga K "placed")] (fun k G a h => hF k G a h)
  refine ⟨_, PSs.nox ((pss_cons (ps_set (i := 0) sc_law_sites_right.nd rfl (.inl rfl) (pe_lst (pa_cons (pe_tup (pa_cons (pe_lst pa_nil) (pa_cons pe_int pa_nil))) (pa_cons (pe_tup (pa_cons pe_non (pa_cons (pe_un un_neg pe_int) pa_nil))) (pa_cons (pe_tup (pa_cons (pe_tup (pa_cons (pe_tup (pa_cons pe_int (pa_cons pe_int pa_nil))) pa_nil)) (pa_cons (pe_un un_neg pe_int) pa_nil))) (pa_cons (pe_tup (pa_cons (pe_lst (pa_cons (pe_tup (pa_cons pe_int (pa_cons pe_int pa_nil))) (pa_cons (pe_tup (pa_cons pe_int (pa_cons pe_int pa_nil))) pa_nil))) (pa_cons pe_int pa_nil))) (pa_cons (pe_tup (pa_cons (pe_lst (pa_cons (pe_tup (pa_cons pe_int (pa_cons pe_int pa_nil))) (pa_cons (pe_lst (pa_cons pe_int (pa_cons pe_int pa_nil))) pa_nil))) (pa_cons pe_int pa_nil))) (pa_cons (pe_tup (pa_cons pe_str (pa_cons (pe_un un_neg pe_int) pa_nil))) pa_nil))))))))
       (pss_cons (ps_set (i := 0) sc_law_sites_right.nd rfl (.inl rfl) (pe_op (DL.op_addU K) (pv 0) (pe_lst (pa_cons (pe_tup (pa_cons (pe_call0 (ok_law_deep (P := P) (w := w) (W := (tbs K)) (F := F') T) (hr.mono (by decide)) (by rfl) T.g_law_deep T.F_law_deep.kp (b_law_deep T) .nil (DL.passE (E := E))) (pa_cons (pe_un un_neg pe_int) pa_nil))) (pa_cons (pe_tup (pa_cons (pe_lst (pa_cons (pe_tup (pa_cons pe_int (pa_cons pe_int pa_nil))) (pa_cons (pe_call0 (ok_law_deep (P := P) (w := w) (W := (tbs K)) (F := F') T) (hr.mono (by decide)) (by rfl) T.g_law_deep T.F_law_deep.kp (b_law_deep T) .nil (DL.passE (E := E))) pa_nil))) (pa_cons pe_int pa_nil))) (pa_cons (pe_tup (pa_cons (pe_make T.M_Subdivision (okx_Subdivision_init (P := P) (w := w) (W := (tbs K)) (F := F') T) (hr.mono (by decide)) (by rfl) T.g_Subdivision (b_Subdivision_init T) .nil (NCLam.passN (fun _ _ _ z => z)) (pa_cons (pe_lst (pa_cons (pe_tup (pa_cons pe_int (pa_cons pe_int pa_nil))) pa_nil)) pa_nil)) (pa_cons (pe_un un_neg pe_int) pa_nil))) pa_nil))))))
       (pss_cons (ps_for PassesOwn.never rfl (DL.pi_seq K (pe_op (DL.op_addU K) (pv 0) (pe_lst (pa_cons (pe_tup (pa_cons (pe_make0 T.M_Desk (ok_Desk_init (P := P) (w := w) (W := (tbs K)) (F := F') T) (hr.mono (by decide)) (by rfl) T.g_Desk (b_Desk_init T) .nil (DL.passE (E := E))) (pa_cons (pe_un un_neg pe_int) pa_nil))) pa_nil)))) (DL.pg_sq K rfl (pgs_cons (pg_name (i := 2) sc_law_sites_right.nd rfl (.inr rfl)) (pgs_cons (pg_name (i := 1) sc_law_sites_right.nd rfl (.inl rfl)) pgs_nil)))
       (pss_cons (ps_if (pt_cmpR (DL.op_neU K hr.units) (pe_lc (own := [("_law_ask", 3)]) (g := gName 3) (tt := tYes) rfl sc_law_sites_right.nd (DL.pi_seq K (pe_tup (pa_cons (pe_glob (v := .ref (He.ga K "placed")) (by rfl) T.g_placed rfl) (pa_cons (pe_glob (v := .ref (He.ga K "steps")) (by rfl) T.g_steps rfl) pa_nil)))) (blkOk_by (own := [("_law_ask", 3)]) (N := N_law_sites_right) (sc := defScope (top 63)) (by decide +kernel)) (fun _ _ _ _ _ => (pg_name (i := 3) sc_law_sites_right.nd rfl (.inr rfl))) (fun _ _ _ _ _ => pts_nil) (fun bs bH bC bcl bfp => (DL.pe_every (X := fun l : DL.Ltr => l.cx ((cxOf CX0 P w K mg base N_law_sites_right "_law_sites_right" (defScope (top 63)) (He.ga K "_law_sites_right") (.ref (He.codeOf K ("_law_sites_right", none))) A outer s H E).nox) (DL.compS (NCLam.eAt (NCLam.sExpr (NCLam.sBody (NCLam.nth (defBody (top 63)) 2) 0)) 0))) (fun l => (DL.pe_callU (kk := 6) (k := 6) (DL.acting0U (params := NCLam.lamP (NCLam.eAt (NCLam.eAt (NCLam.eAt (NCLam.sExpr (NCLam.sBody (NCLam.nth (defBody (top 63)) 2) 0)) 0) 0) 0)) (body := NCLam.lamB (NCLam.eAt (NCLam.eAt (NCLam.eAt (NCLam.sExpr (NCLam.sBody (NCLam.nth (defBody (top 63)) 2) 0)) 0) 0) 0)) (scope := NCLam.lamS (NCLam.eAt (NCLam.eAt (NCLam.eAt (NCLam.sExpr (NCLam.sBody (NCLam.nth (defBody (top 63)) 2) 0)) 0) 0) 0)) (k := 5) (NCLam.lamN_by (show NCLam.lamNB N_law_sites_right (relS (DL.compS (NCLam.eAt (NCLam.sExpr (NCLam.sBody (NCLam.nth (defBody (top 63)) 2) 0)) 0)) (defScope (top 63))) _ = true by decide +kernel)) (fun _ _ _ => rfl) (fun B A outer s H E f c' hr => (NCLam.pe_callR (i := 3) (R := DL.fnR (lst_placed_steps K (kt K P w (tbs K) F'))) (held_placed_steps (P := P) (w := w) (W := (tbs K)) (F := F') T) (hr.mono (by decide)) rfl (.inr (.inr rfl)) (passes_call (takes_of rfl rfl rfl rfl) (fun _ _ _ _ h => h)) (pa_cons (pv 2) pa_nil)))) T.F_law_said sc_law_said (fun _ _ _ _ _ h => len_law_said h) (fun al cdv A outer s H vs Q E ha hr h => bodU_law_said T ha hr h) (hr.mono (by decide)) (by rfl) T.g_law_said (b_law_said T) (pa_cons (DL.pe_lamT (T := tbs K) tb_law_sites_right rfl (mem_law_sites_right K) (uniq_law_sites_right T) (NCLam.lamN_by (show NCLam.lamNB N_law_sites_right (relS (DL.compS (NCLam.eAt (NCLam.sExpr (NCLam.sBody (NCLam.nth (defBody (top 63)) 2) 0)) 0)) (defScope (top 63))) _ = true by decide +kernel)) rfl) pa_nil))) ⟨bs, bH, bC, bcl, bfp⟩))) (pe_op DL.op_mulU (pe_lst (pa_cons (pe_tup (pa_cons pe_str (pa_cons (pv 1) pa_nil))) pa_nil)) pe_int) (nomark _))
       (pss_one (ps_ret pe_bl))
       pss_nil)
       (pss_one (ps_if (pt_cmpR (DL.op_neU K hr.units) (pe_call (ok_law_all_say (P := P) (w := w) (F := F') T tb_law_all_say (fun k G a h => Int.le_trans (by decide) (hF2 k G a h))) (hr.mono (by decide)) (by rfl) T.g_law_all_say T.F_law_all_say.kp (b_law_all_say T) .nil (DL.passE (E := E)) (pa_cons (pv 2) (pa_cons pe_int pa_nil))) (pe_op DL.op_mulU (pe_lst (pa_cons (pe_tup (pa_cons pe_str (pa_cons (pv 1) pa_nil))) pa_nil)) pe_int) (nomark _))
       (pss_one (ps_ret pe_bl))
       pss_nil))))
       (pss_one (ps_ret pe_bl)))))), ?_⟩
  exact DL.body_okL (T := kt K P w (tbs K) F) (F := F') hF1 (E := E) (f := bod_law_sites_right) (N := N_law_sites_right) (n := 0) ((DL.ds_seq (DL.ds_asg 0 (DL.de_lst (DL.da_cons (DL.de_tup (DL.da_cons (DL.de_lst DL.da_nil) (DL.da_cons (DL.de_c fun _ => .int 0) DL.da_nil))) (DL.da_cons (DL.de_tup (DL.da_cons (DL.de_c fun _ => .non) (DL.da_cons (DL.de_neg (DL.dk_of (DL.de_c fun _ => .int 1))) DL.da_nil))) (DL.da_cons (DL.de_tup (DL.da_cons (DL.de_tup (DL.da_cons (DL.de_tup (DL.da_cons (DL.de_c fun _ => .int 0) (DL.da_cons (DL.de_c fun _ => .int 0) DL.da_nil))) DL.da_nil)) (DL.da_cons (DL.de_neg (DL.dk_of (DL.de_c fun _ => .int 1))) DL.da_nil))) (DL.da_cons (DL.de_tup (DL.da_cons (DL.de_lst (DL.da_cons (DL.de_tup (DL.da_cons (DL.de_c fun _ => .int 0) (DL.da_cons (DL.de_c fun _ => .int 0) DL.da_nil))) (DL.da_cons (DL.de_tup (DL.da_cons (DL.de_c fun _ => .int 0) (DL.da_cons (DL.de_c fun _ => .int 0) DL.da_nil))) DL.da_nil))) (DL.da_cons (DL.de_c fun _ => .int 1) DL.da_nil))) (DL.da_cons (DL.de_tup (DL.da_cons (DL.de_lst (DL.da_cons (DL.de_tup (DL.da_cons (DL.de_c fun _ => .int 1) (DL.da_cons (DL.de_c fun _ => .int 2) DL.da_nil))) (DL.da_cons (DL.de_lst (DL.da_cons (DL.de_c fun _ => .int 1) (DL.da_cons (DL.de_c fun _ => .int 2) DL.da_nil))) DL.da_nil))) (DL.da_cons (DL.de_c fun _ => .int 1) DL.da_nil))) (DL.da_cons (DL.de_tup (DL.da_cons (DL.de_c fun _ => .str "sites") (DL.da_cons (DL.de_neg (DL.dk_of (DL.de_c fun _ => .int 1))) DL.da_nil))) DL.da_nil))))))))
       (DL.ds_seq (DL.ds_asg 0 (DL.de_op DL.os_add (DL.dk_var 0) (DL.dk_of (DL.de_lst (DL.da_cons (DL.de_tup (DL.da_cons DL.de_callS (DL.da_cons (DL.de_neg (DL.dk_of (DL.de_c fun _ => .int 1))) DL.da_nil))) (DL.da_cons (DL.de_tup (DL.da_cons (DL.de_lst (DL.da_cons (DL.de_tup (DL.da_cons (DL.de_c fun _ => .int 1) (DL.da_cons (DL.de_c fun _ => .int 2) DL.da_nil))) (DL.da_cons DL.de_callS DL.da_nil))) (DL.da_cons (DL.de_c fun _ => .int 1) DL.da_nil))) (DL.da_cons (DL.de_tup (DL.da_cons (DL.dq_noX (DL.de_make 0 T.ik_Subdivision (DL.da_cons (DL.de_lst (DL.da_cons (DL.de_tup (DL.da_cons (DL.de_c fun _ => .int 1) (DL.da_cons (DL.de_c fun _ => .int 2) DL.da_nil))) DL.da_nil)) DL.da_nil) (DL.len_cons DL.len_nil))) (DL.da_cons (DL.de_neg (DL.dk_of (DL.de_c fun _ => .int 1))) DL.da_nil))) DL.da_nil)))))))
       (DL.ds_seq (DL.ds_for (DL.di_seq (DL.de_op DL.os_add (DL.dk_var 0) (DL.dk_of (DL.de_lst (DL.da_cons (DL.de_tup (DL.da_cons (DL.de_makeS 1 T.ik_Desk) (DL.da_cons (DL.de_neg (DL.dk_of (DL.de_c fun _ => .int 1))) DL.da_nil))) DL.da_nil))))) (DL.dg_sq (n := 2) (DL.dgs_cons (DL.dg_name 2) (DL.dgs_cons (DL.dg_name 1) DL.dgs_nil)))
       (DL.ds_seq (DL.ds_if (DL.dt_of' (DL.de_op DL.os_ne (DL.dk_of (DL.de_lc (vs := [3]) (by decide) (DL.di_seq (DL.de_tup (DL.da_cons (DL.de_c fun G => .fn 202 fun G2 _ => (hF3 2 _ rfl G2 _).mp rfl) (DL.da_cons (DL.de_c fun G => .fn 201 fun G2 _ => (hF3 1 _ rfl G2 _).mp rfl) DL.da_nil)))) (DL.dg_name 3) DL.dt_yes (DL.de_every fun l => DL.de_said (fun al f H Q E h => ⟨f, rfl, h⟩) (said_ok (W := tbs K) (F := F') (P := P) (w := w)) (fun E => (DL.de_callF 3 (fun k g e G a h => by
              have hm := DL.lookM_mem e
              simp only [List.mem_cons, List.not_mem_nil, or_false, Prod.mk.injEq] at hm
              rcases hm with ⟨rfl, rfl⟩ | ⟨rfl, rfl⟩
              · have z := (hF3 2 _ rfl G a).mpr h
                have z : a = He.ga K "placed" := z
                subst z
                unfold DL.fnR lst_placed_steps
                simp
              · have z := (hF3 1 _ rfl G a).mpr h
                have z : a = He.ga K "steps" := z
                subst z
                unfold DL.fnR lst_placed_steps
                simp
              ) (DL.da_cons (DL.de_var 2) DL.da_nil) (DL.len_cons DL.len_nil)))))) (DL.dk_of (DL.de_op DL.os_mul (DL.dk_of (DL.de_lst (DL.da_cons (DL.de_tup (DL.da_cons (DL.de_c fun _ => .str "sites") (DL.da_cons (DL.de_var 1) DL.da_nil))) DL.da_nil))) (DL.dk_of (DL.de_c fun _ => .int 2))))))
       (DL.ds_ret (DL.de_c fun _ => .bl false))
       DL.ds_next)
       (DL.ds_if (DL.dt_of' (DL.de_op DL.os_ne (DL.dk_of (DL.de_call (DL.da_cons (DL.de_var 2) (DL.da_cons (DL.de_c fun _ => .int 5) DL.da_nil)) (DL.len_cons (DL.len_cons DL.len_nil)))) (DL.dk_of (DL.de_op DL.os_mul (DL.dk_of (DL.de_lst (DL.da_cons (DL.de_tup (DL.da_cons (DL.de_c fun _ => .str "sites") (DL.da_cons (DL.de_var 1) DL.da_nil))) DL.da_nil))) (DL.dk_of (DL.de_c fun _ => .int 4))))))
       (DL.ds_ret (DL.de_c fun _ => .bl false))
       DL.ds_next)))
       (DL.ds_ret (DL.de_c fun _ => .bl true)))))) (by decide) h

end

end NC
namespace NC
section
variable {P : Program} {w : World} {K : PySem.W.Frag} {mg : Str → Option Value} {base : Heap} {W : List (Addr × Str)} {F : Int → Hp → Addr → Prop}
def bod_law_triangles_right : DL.M DL.Out := (DL.seqM (DL.parN [12, 11] (DL.consV (DL.lstE (DL.consA (DL.tupE (DL.consA (DL.cE (.int 0)) (DL.consA (DL.cE (.int 0)) DL.nilA))) (DL.consA (DL.tupE (DL.consA (DL.cE (.int 4)) (DL.consA (DL.cE (.int 0)) DL.nilA))) (DL.consA (DL.tupE (DL.consA (DL.cE (.int 0)) (DL.consA (DL.cE (.int 4)) DL.nilA))) (DL.consA (DL.tupE (DL.consA (DL.cE (.int 4)) (DL.consA (DL.cE (.int 4)) DL.nilA))) (DL.consA (DL.tupE (DL.consA (DL.cE (.int 2)) (DL.consA (DL.cE (.int 2)) DL.nilA))) DL.nilA)))))) (DL.consV (DL.lstE DL.nilA) DL.nilV)))
 (DL.seqM (DL.forM (DL.itE (DL.tupE (DL.consA (DL.tupE (DL.consA (DL.tupE (DL.consA (DL.cE (.int 0)) (DL.consA (DL.cE (.int 0)) DL.nilA))) (DL.consA (DL.tupE (DL.consA (DL.cE (.int 4)) (DL.consA (DL.cE (.int 0)) DL.nilA))) DL.nilA))) (DL.consA (DL.tupE (DL.consA (DL.tupE (DL.consA (DL.cE (.int 4)) (DL.consA (DL.cE (.int 0)) DL.nilA))) (DL.consA (DL.tupE (DL.consA (DL.cE (.int 4)) (DL.consA (DL.cE (.int 4)) DL.nilA))) DL.nilA))) (DL.consA (DL.tupE (DL.consA (DL.tupE (DL.consA (DL.cE (.int 4)) (DL.consA (DL.cE (.int 4)) DL.nilA))) (DL.consA (DL.tupE (DL.consA (DL.cE (.int 0)) (DL.consA (DL.cE (.int 4)) DL.nilA))) DL.nilA))) (DL.consA (DL.tupE (DL.consA (DL.tupE (DL.consA (DL.cE (.int 0)) (DL.consA (DL.cE (.int 4)) DL.nilA))) (DL.consA (DL.tupE (DL.consA (DL.cE (.int 0)) (DL.consA (DL.cE (.int 0)) DL.nilA))) DL.nilA))) DL.nilA)))))) (DL.unlG 2 (DL.consG (DL.nmG 1) (DL.consG (DL.nmG 2) DL.nilG)))
 (DL.dropM (DL.mtE DL.opAppend 11 (DL.tupE (DL.consA (DL.vE 1) (DL.consA (DL.vE 2) (DL.consA (DL.tupE (DL.consA (DL.cE (.int 2)) (DL.consA (DL.cE (.int 2)) DL.nilA))) DL.nilA)))))))
 (DL.seqM (DL.ifM (DL.tE (DL.op2 DL.opNe (DL.kE (DL.callE mir_law_all_say (DL.consA (DL.vE 12) (DL.consA (DL.vE 11) DL.nilA)))) (DL.kE (DL.lstE (DL.consA (DL.cE .none) (DL.consA (DL.cE .none) (DL.consA (DL.cE .none) (DL.consA (DL.cE (.str "edge")) DL.nilA))))))))
 (DL.retM (DL.cE (.bool false)))
 DL.nxM)
 (DL.seqM (DL.asgM 3 (DL.lentE mir_law_coin (DL.refR 0 (DL.consR (DL.cE (.int 5)) DL.nilR))))
 (DL.seqM (DL.asgM 4 (DL.lstE (DL.consA (DL.cE .none) (DL.consA (DL.cE (.int 5)) (DL.consA (DL.tupE DL.nilA) (DL.consA (DL.lstE DL.nilA) (DL.consA (DL.tupE (DL.consA (DL.tupE (DL.consA (DL.cE (.int 0)) (DL.consA (DL.cE (.int 0)) DL.nilA))) (DL.consA (DL.tupE (DL.consA (DL.cE (.int 4)) (DL.consA (DL.cE (.int 0)) DL.nilA))) DL.nilA))) (DL.consA (DL.lstE (DL.consA (DL.tupE (DL.consA (DL.cE (.int 0)) (DL.consA (DL.cE (.int 0)) DL.nilA))) (DL.consA (DL.tupE (DL.consA (DL.cE (.int 4)) (DL.consA (DL.cE (.int 0)) DL.nilA))) (DL.consA (DL.tupE (DL.consA (DL.cE (.int 2)) (DL.consA (DL.cE (.int 2)) DL.nilA))) DL.nilA)))) (DL.consA (DL.tupE (DL.consA (DL.tupE (DL.consA (DL.cE (.int 0)) (DL.consA (DL.cE (.int 0)) DL.nilA))) (DL.consA (DL.tupE (DL.consA (DL.cE (.int 4)) (DL.consA (DL.cE (.int 0)) DL.nilA))) (DL.consA (DL.tupE (DL.consA (DL.cE (.int 9)) (DL.consA (DL.cE (.int 9)) DL.nilA))) DL.nilA)))) DL.nilA)))))))))
 (DL.seqM (DL.asgM 4 (DL.op2 DL.opAdd (DL.vK 4) (DL.kE (DL.lstE (DL.consA (DL.tupE (DL.consA (DL.tupE (DL.consA (DL.cE (.int 0)) (DL.consA (DL.cE (.int 0)) DL.nilA))) (DL.consA (DL.tupE (DL.consA (DL.cE (.int 2)) (DL.consA (DL.cE (.int 2)) DL.nilA))) (DL.consA (DL.tupE (DL.consA (DL.cE (.int 4)) (DL.consA (DL.cE (.int 4)) DL.nilA))) DL.nilA)))) (DL.consA (DL.tupE (DL.consA (DL.tupE (DL.consA (DL.cE (.int 0)) (DL.consA (DL.cE (.int 0)) DL.nilA))) (DL.consA (DL.tupE (DL.consA (DL.cE (.int 0)) (DL.consA (DL.cE (.int 0)) DL.nilA))) (DL.consA (DL.tupE (DL.consA (DL.cE (.int 2)) (DL.consA (DL.cE (.int 2)) DL.nilA))) DL.nilA)))) (DL.consA (DL.cE (.str "abc")) (DL.consA (DL.tupE (DL.consA (DL.tupE (DL.consA (DL.cE (.int 0)) (DL.consA (DL.cE (.int 0)) DL.nilA))) (DL.consA (DL.tupE (DL.consA (DL.cE (.int 4)) (DL.consA (DL.cE (.int 0)) DL.nilA))) (DL.consA (DL.lstE (DL.consA (DL.cE (.int 2)) (DL.consA (DL.cE (.int 2)) DL.nilA))) DL.nilA)))) DL.nilA))))))))
 (DL.seqM (DL.asgM 5 (DL.callS mir_law_deep))
 (DL.seqM (DL.asgM 6 (DL.lentE mir_law_pick (DL.refR 0 (DL.consR (DL.op2 DL.opAdd (DL.vK 4) (DL.kE (DL.lstE (DL.consA (DL.vE 5) (DL.consA (DL.tupE (DL.consA (DL.tupE (DL.consA (DL.cE (.int 0)) (DL.consA (DL.cE (.int 0)) DL.nilA))) (DL.consA (DL.vE 5) (DL.consA (DL.tupE (DL.consA (DL.cE (.int 2)) (DL.consA (DL.cE (.int 2)) DL.nilA))) DL.nilA)))) DL.nilA))))) DL.nilR))))
 (DL.seqM (DL.asgM 7 (DL.lstE (DL.consA (DL.tupE (DL.consA (DL.op2 DL.opAdd (DL.kE (DL.op2 DL.opAdd (DL.kE (DL.slE (DL.vK 11) DL.noO (DL.someO (DL.vK 3)))) (DL.kE (DL.lstE (DL.consA (DL.vE 6) DL.nilA))))) (DL.kE (DL.slE (DL.vK 11) (DL.someO (DL.vK 3)) DL.noO))) (DL.consA (DL.vE 3) DL.nilA))) (DL.consA (DL.tupE (DL.consA (DL.cE .none) (DL.consA (DL.op1 DL.opNeg (DL.kE (DL.cE (.int 1)))) DL.nilA))) (DL.consA (DL.tupE (DL.consA (DL.cbE DL.opTuple (DL.consP (DL.vK 11) DL.nilP)) (DL.consA (DL.op1 DL.opNeg (DL.kE (DL.cE (.int 1)))) DL.nilA))) (DL.consA (DL.tupE (DL.consA (DL.cE (.str "four")) (DL.consA (DL.op1 DL.opNeg (DL.kE (DL.cE (.int 1)))) DL.nilA))) (DL.consA (DL.tupE (DL.consA (DL.cE DL.dDct) (DL.consA (DL.op1 DL.opNeg (DL.kE (DL.cE (.int 1)))) DL.nilA))) DL.nilA)))))))
 (DL.seqM (DL.asgM 7 (DL.op2 DL.opAdd (DL.vK 7) (DL.kE (DL.lstE (DL.consA (DL.tupE (DL.consA (DL.noX (DL.makeE 0 mir_Subdivision_init (DL.consA (DL.vE 12) DL.nilA))) (DL.consA (DL.op1 DL.opNeg (DL.kE (DL.cE (.int 1)))) DL.nilA))) (DL.consA (DL.tupE (DL.consA (DL.makeS 1 mir_Desk_init) (DL.consA (DL.op1 DL.opNeg (DL.kE (DL.cE (.int 1)))) DL.nilA))) DL.nilA))))))
 (DL.seqM (DL.asgM 7 (DL.op2 DL.opAdd (DL.vK 7) (DL.kE (DL.lstE (DL.consA (DL.tupE (DL.consA (DL.slE (DL.vK 11) DL.noO (DL.someO (DL.kE (DL.cE (.int 3))))) (DL.consA (DL.cE (.int 3)) DL.nilA))) (DL.consA (DL.tupE (DL.consA (DL.lstE DL.nilA) (DL.consA (DL.cE (.int 0)) DL.nilA))) (DL.consA (DL.tupE (DL.consA (DL.op2 DL.opAdd (DL.vK 11) (DL.kE (DL.slE (DL.vK 11) DL.noO (DL.someO (DL.kE (DL.cE (.int 1))))))) (DL.consA (DL.cE (.int 5)) DL.nilA))) DL.nilA)))))))
 (DL.seqM (DL.dropM (DL.mtE DL.opAppend 7 (DL.tupE (DL.consA (DL.lstE (DL.consA (DL.tupE (DL.consA (DL.tupE (DL.consA (DL.cE (.int 0)) (DL.consA (DL.cE (.int 0)) DL.nilA))) (DL.consA (DL.tupE (DL.consA (DL.cE (.int 4)) (DL.consA (DL.cE (.int 0)) DL.nilA))) (DL.consA (DL.tupE (DL.consA (DL.cE (.int 4)) (DL.consA (DL.cE (.int 4)) DL.nilA))) DL.nilA)))) (DL.consA (DL.tupE (DL.consA (DL.tupE (DL.consA (DL.cE (.int 0)) (DL.consA (DL.cE (.int 0)) DL.nilA))) (DL.consA (DL.tupE (DL.consA (DL.cE (.int 4)) (DL.consA (DL.cE (.int 4)) DL.nilA))) (DL.consA (DL.tupE (DL.consA (DL.cE (.int 0)) (DL.consA (DL.cE (.int 4)) DL.nilA))) DL.nilA)))) DL.nilA))) (DL.consA (DL.cE (.int 2)) DL.nilA)))))
 (DL.seqM (DL.dropM (DL.mtE DL.opAppend 7 (DL.tupE (DL.consA (DL.lstE (DL.consA (DL.tupE (DL.consA (DL.tupE (DL.consA (DL.cE (.int 0)) (DL.consA (DL.cE (.int 0)) DL.nilA))) (DL.consA (DL.tupE (DL.consA (DL.cE (.int 4)) (DL.consA (DL.cE (.int 0)) DL.nilA))) (DL.consA (DL.tupE (DL.consA (DL.cE (.int 4)) (DL.consA (DL.cE (.int 4)) DL.nilA))) DL.nilA)))) (DL.consA (DL.tupE (DL.consA (DL.tupE (DL.consA (DL.cE (.int 0)) (DL.consA (DL.cE (.int 0)) DL.nilA))) (DL.consA (DL.tupE (DL.consA (DL.cE (.int 2)) (DL.consA (DL.cE (.int 2)) DL.nilA))) (DL.consA (DL.tupE (DL.consA (DL.cE (.int 0)) (DL.consA (DL.cE (.int 4)) DL.nilA))) DL.nilA)))) (DL.consA (DL.tupE (DL.consA (DL.tupE (DL.consA (DL.cE (.int 0)) (DL.consA (DL.cE (.int 4)) DL.nilA))) (DL.consA (DL.tupE (DL.consA (DL.cE (.int 2)) (DL.consA (DL.cE (.int 2)) DL.nilA))) (DL.consA (DL.tupE (DL.consA (DL.cE (.int 4)) (DL.consA (DL.cE (.int 4)) DL.nilA))) DL.nilA)))) DL.nilA)))) (DL.consA (DL.cE (.int 3)) DL.nilA)))))
 (DL.seqM (DL.dropM (DL.mtE DL.opAppend 7 (DL.tupE (DL.consA (DL.op2 DL.opAdd (DL.kE (DL.slE (DL.vK 11) DL.noO (DL.someO (DL.kE (DL.cE (.int 3)))))) (DL.kE (DL.lstE (DL.consA (DL.tupE (DL.consA (DL.tupE (DL.consA (DL.cE (.int 0)) (DL.consA (DL.cE (.int 4)) DL.nilA))) (DL.consA (DL.tupE (DL.consA (DL.cE (.int 0)) (DL.consA (DL.cE (.int 0)) DL.nilA))) (DL.consA (DL.tupE (DL.consA (DL.cE (.int 4)) (DL.consA (DL.cE (.int 0)) DL.nilA))) DL.nilA)))) DL.nilA)))) (DL.consA (DL.cE (.int 4)) DL.nilA)))))
 (DL.seqM (DL.forM (DL.itE (DL.vE 7)) (DL.unlG 2 (DL.consG (DL.nmG 8) (DL.consG (DL.nmG 9) DL.nilG)))
 (DL.ifM (DL.tE (DL.op2 DL.opNe (DL.kE (DL.callE mir_law_all_say (DL.consA (DL.vE 12) (DL.consA (DL.vE 8) DL.nilA)))) (DL.kE (DL.op2 DL.opMul (DL.kE (DL.lstE (DL.consA (DL.tupE (DL.consA (DL.cE (.str "triangles")) (DL.consA (DL.vE 9) DL.nilA))) DL.nilA))) (DL.kE (DL.cE (.int 4)))))))
 (DL.retM (DL.cE (.bool false)))
 DL.nxM))
 (DL.seqM (DL.asgM 4 (DL.lstE (DL.consA (DL.tupE (DL.consA (DL.tupE (DL.consA (DL.cE (.int 2)) (DL.consA (DL.cE (.int 2)) DL.nilA))) (DL.consA (DL.tupE (DL.consA (DL.cE (.int 0)) (DL.consA (DL.cE (.int 0)) DL.nilA))) DL.nilA))) (DL.consA (DL.tupE (DL.consA (DL.tupE (DL.consA (DL.cE (.int 0)) (DL.consA (DL.cE (.int 0)) DL.nilA))) (DL.consA (DL.tupE (DL.consA (DL.cE (.int 4)) (DL.consA (DL.cE (.int 0)) DL.nilA))) DL.nilA))) (DL.consA (DL.tupE (DL.consA (DL.tupE (DL.consA (DL.cE (.int 0)) (DL.consA (DL.cE (.int 0)) DL.nilA))) (DL.consA (DL.tupE (DL.consA (DL.cE (.int 4)) (DL.consA (DL.cE (.int 4)) DL.nilA))) DL.nilA))) (DL.consA (DL.lstE (DL.consA (DL.tupE (DL.consA (DL.cE (.int 0)) (DL.consA (DL.cE (.int 0)) DL.nilA))) (DL.consA (DL.tupE (DL.consA (DL.cE (.int 2)) (DL.consA (DL.cE (.int 2)) DL.nilA))) DL.nilA))) (DL.consA (DL.tupE (DL.consA (DL.tupE (DL.consA (DL.cE (.int 0)) (DL.consA (DL.cE (.int 0)) DL.nilA))) DL.nilA)) (DL.consA (DL.tupE (DL.consA (DL.tupE (DL.consA (DL.cE (.int 0)) (DL.consA (DL.cE (.int 0)) DL.nilA))) (DL.consA (DL.tupE (DL.consA (DL.cE (.int 3)) (DL.consA (DL.cE (.int 3)) DL.nilA))) DL.nilA))) (DL.consA (DL.cE (.int 5)) DL.nilA)))))))))
 (DL.seqM (DL.forM (DL.itE (DL.op2 DL.opAdd (DL.vK 4) (DL.kE (DL.lstE (DL.consA (DL.vE 5) (DL.consA (DL.tupE (DL.consA (DL.vE 5) (DL.consA (DL.tupE (DL.consA (DL.cE (.int 0)) (DL.consA (DL.cE (.int 0)) DL.nilA))) DL.nilA))) DL.nilA)))))) (DL.nmG 10)
 (DL.ifM (DL.tE (DL.op2 DL.opNe (DL.kE (DL.saidM hd_law (DL.callE mir_flipped (DL.consA (DL.vE 12) (DL.consA (DL.vE 11) (DL.consA (DL.vE 10) DL.nilA)))))) (DL.kE (DL.cE (.str "edge")))))
 (DL.retM (DL.cE (.bool false)))
 DL.nxM))
 (DL.retM (DL.cE (.bool true))))))))))))))))))))
def mir_law_triangles_right : DL.Mir := DL.runA bod_law_triangles_right 13
theorem ok_law_triangles_right (T : Tops K mg) (tb_law_triangles_right : LamX.TabB base mg (He.cT K ("_law_triangles_right", none)).1 (He.cT K ("_law_triangles_right", none)).2) (tb_law_all_say : LamX.TabB base mg (He.cT K ("_law_all_say", none)).1 (He.cT K ("_law_all_say", none)).2) (hF : ∀ k G a, F k G a → 301 ≤ k) : FnOk P w K mg base CX0 11 (He.ga K "_law_triangles_right") T.fd_law_triangles_right P_law_triangles_right (DL.dSp (kt K P w (tbs K) F) 1 mir_law_triangles_right) := by
  refine T.F_law_triangles_right.okC (p := ("_law_triangles_right", none)) rfl sc_law_triangles_right (fun vs H Q E h => h.1) (fun A outer s H vs Q E hr h => ?_)
  obtain ⟨F', hF1, hF2, hF3⟩ := DL.exF F 300 [NCLam.IsLam (cxOf CX0 P w K mg base N_law_triangles_right "_law_triangles_right" (defScope (top 64)) (He.ga K "_law_triangles_right") (.ref (He.codeOf K ("_law_triangles_right", none))) A outer s H E).nox (NCLam.lamP (NCLam.eAt (NCLam.eAt (NCLam.sExpr (NCLam.sBody (NCLam.nth (defBody (top 64)) 16) 0)) 0) 0)) (NCLam.lamB (NCLam.eAt (NCLam.eAt (NCLam.sExpr (NCLam.sBody (NCLam.nth (defBody (top 64)) 16) 0)) 0) 0)) (NCLam.lamS (NCLam.eAt (NCLam.eAt (NCLam.sExpr (NCLam.sBody (NCLam.nth (defBody (top 64)) 16) 0)) 0) 0)) []] (fun k G a h => hF k G a h)
  refine ⟨_, PSs.nox ((pss_cons (ps_asg (pe_tup (pa_cons (pe_lst (pa_cons (pe_tup (pa_cons pe_int (pa_cons pe_int pa_nil))) (pa_cons (pe_tup (pa_cons pe_int (pa_cons pe_int pa_nil))) (pa_cons (pe_tup (pa_cons pe_int (pa_cons pe_int pa_nil))) (pa_cons (pe_tup (pa_cons pe_int (pa_cons pe_int pa_nil))) (pa_cons (pe_tup (pa_cons pe_int (pa_cons pe_int pa_nil))) pa_nil)))))) (pa_cons (pe_lst pa_nil) pa_nil))) (DL.pg_sq K rfl (pgs_cons (pg_name (i := 12) sc_law_triangles_right.nd rfl (.inr rfl)) (pgs_cons (pg_name (i := 11) sc_law_triangles_right.nd rfl (.inr rfl)) pgs_nil))))
       (pss_cons (ps_for PassesOwn.never rfl (DL.pi_seq K (pe_tup (pa_cons (pe_tup (pa_cons (pe_tup (pa_cons pe_int (pa_cons pe_int pa_nil))) (pa_cons (pe_tup (pa_cons pe_int (pa_cons pe_int pa_nil))) pa_nil))) (pa_cons (pe_tup (pa_cons (pe_tup (pa_cons pe_int (pa_cons pe_int pa_nil))) (pa_cons (pe_tup (pa_cons pe_int (pa_cons pe_int pa_nil))) pa_nil))) (pa_cons (pe_tup (pa_cons (pe_tup (pa_cons pe_int (pa_cons pe_int pa_nil))) (pa_cons (pe_tup (pa_cons pe_int (pa_cons pe_int pa_nil))) pa_nil))) (pa_cons (pe_tup (pa_cons (pe_tup (pa_cons pe_int (pa_cons pe_int pa_nil))) (pa_cons (pe_tup (pa_cons pe_int (pa_cons pe_int pa_nil))) pa_nil))) pa_nil)))))) (DL.pg_sq K rfl (pgs_cons (pg_name (i := 1) sc_law_triangles_right.nd rfl (.inl rfl)) (pgs_cons (pg_name (i := 2) sc_law_triangles_right.nd rfl (.inl rfl)) pgs_nil)))
       (pss_one (ps_expr (pe_bm PySem.F.plainAttrs_list PySem.F.slot_list_append PySem.F.type_list_append mt_append (pv 11) (pa_cons (pe_tup (pa_cons (pv 1) (pa_cons (pv 2) (pa_cons (pe_tup (pa_cons pe_int (pa_cons pe_int pa_nil))) pa_nil)))) pa_nil)))))
       (pss_cons (ps_if (pt_cmpR (DL.op_neU K hr.units) (pe_call (ok_law_all_say (P := P) (w := w) (F := F') T tb_law_all_say (fun k G a h => Int.le_trans (by decide) (hF2 k G a h))) (hr.mono (by decide)) (by rfl) T.g_law_all_say T.F_law_all_say.kp (b_law_all_say T) .nil (DL.passE (E := E)) (pa_cons (pv 12) (pa_cons (pv 11) pa_nil))) (pe_lst (pa_cons pe_non (pa_cons pe_non (pa_cons pe_non (pa_cons pe_str pa_nil))))) (nomark _))
       (pss_one (ps_ret pe_bl))
       pss_nil)
       (pss_cons (ps_set (i := 3) sc_law_triangles_right.nd rfl (.inl rfl) (pe_call (ok_law_coin (P := P) (w := w) (W := (tbs K)) (F := F') T) (hr.mono (by decide)) (by rfl) T.g_law_coin T.F_law_coin.kp (b_law_coin T) .nil (DL.passE (E := E)) (pa_cons (pv 0) (pa_cons pe_int pa_nil))))
       (pss_cons (ps_set (i := 4) sc_law_triangles_right.nd rfl (.inl rfl) (pe_lst (pa_cons pe_non (pa_cons pe_int (pa_cons (pe_tup pa_nil) (pa_cons (pe_lst pa_nil) (pa_cons (pe_tup (pa_cons (pe_tup (pa_cons pe_int (pa_cons pe_int pa_nil))) (pa_cons (pe_tup (pa_cons pe_int (pa_cons pe_int pa_nil))) pa_nil))) (pa_cons (pe_lst (pa_cons (pe_tup (pa_cons pe_int (pa_cons pe_int pa_nil))) (pa_cons (pe_tup (pa_cons pe_int (pa_cons pe_int pa_nil))) (pa_cons (pe_tup (pa_cons pe_int (pa_cons pe_int pa_nil))) pa_nil)))) (pa_cons (pe_tup (pa_cons (pe_tup (pa_cons pe_int (pa_cons pe_int pa_nil))) (pa_cons (pe_tup (pa_cons pe_int (pa_cons pe_int pa_nil))) (pa_cons (pe_tup (pa_cons pe_int (pa_cons pe_int pa_nil))) pa_nil)))) pa_nil)))))))))
       (pss_cons (ps_set (i := 4) sc_law_triangles_right.nd rfl (.inl rfl) (pe_op (DL.op_addU K) (pv 4) (pe_lst (pa_cons (pe_tup (pa_cons (pe_tup (pa_cons pe_int (pa_cons pe_int pa_nil))) (pa_cons (pe_tup (pa_cons pe_int (pa_cons pe_int pa_nil))) (pa_cons (pe_tup (pa_cons pe_int (pa_cons pe_int pa_nil))) pa_nil)))) (pa_cons (pe_tup (pa_cons (pe_tup (pa_cons pe_int (pa_cons pe_int pa_nil))) (pa_cons (pe_tup (pa_cons pe_int (pa_cons pe_int pa_nil))) (pa_cons (pe_tup (pa_cons pe_int (pa_cons pe_int pa_nil))) pa_nil)))) (pa_cons pe_str (pa_cons (pe_tup (pa_cons (pe_tup (pa_cons pe_int (pa_cons pe_int pa_nil))) (pa_cons (pe_tup (pa_cons pe_int (pa_cons pe_int pa_nil))) (pa_cons (pe_lst (pa_cons pe_int (pa_cons pe_int pa_nil))) pa_nil)))) pa_nil)))))))
       (pss_cons (ps_set (i := 5) sc_law_triangles_right.nd rfl (.inl rfl) (pe_call0 (ok_law_deep (P := P) (w := w) (W := (tbs K)) (F := F') T) (hr.mono (by decide)) (by rfl) T.g_law_deep T.F_law_deep.kp (b_law_deep T) .nil (DL.passE (E := E))))
       (pss_cons (ps_set (i := 6) sc_law_triangles_right.nd rfl (.inl rfl) (pe_call (ok_law_pick (P := P) (w := w) (W := (tbs K)) (F := F') T) (hr.mono (by decide)) (by rfl) T.g_law_pick T.F_law_pick.kp (b_law_pick T) .nil (DL.passE (E := E)) (pa_cons (pv 0) (pa_cons (pe_op (DL.op_addU K) (pv 4) (pe_lst (pa_cons (pv 5) (pa_cons (pe_tup (pa_cons (pe_tup (pa_cons pe_int (pa_cons pe_int pa_nil))) (pa_cons (pv 5) (pa_cons (pe_tup (pa_cons pe_int (pa_cons pe_int pa_nil))) pa_nil)))) pa_nil)))) pa_nil))))
       (pss_cons (ps_set (i := 7) sc_law_triangles_right.nd rfl (.inl rfl) (pe_lst (pa_cons (pe_tup (pa_cons (pe_op (DL.op_addU K) (pe_op (DL.op_addU K) (pe_slice (DL.sl_U K) (pv 11) po_none (po_some (pv 3))) (pe_lst (pa_cons (pv 6) pa_nil))) (pe_slice (DL.sl_U K) (pv 11) (po_some (pv 3)) po_none)) (pa_cons (pv 3) pa_nil))) (pa_cons (pe_tup (pa_cons pe_non (pa_cons (pe_un un_neg pe_int) pa_nil))) (pa_cons (pe_tup (pa_cons (pe_callTy (DL.call_tupleU K) (by rfl) T.m_tuple (by decide +kernel) (pa_cons (pv 11) pa_nil)) (pa_cons (pe_un un_neg pe_int) pa_nil))) (pa_cons (pe_tup (pa_cons pe_str (pa_cons (pe_un un_neg pe_int) pa_nil))) (pa_cons (pe_tup (pa_cons pe_dnewT (pa_cons (pe_un un_neg pe_int) pa_nil))) pa_nil)))))))
       (pss_cons (ps_set (i := 7) sc_law_triangles_right.nd rfl (.inl rfl) (pe_op (DL.op_addU K) (pv 7) (pe_lst (pa_cons (pe_tup (pa_cons (pe_make T.M_Subdivision (okx_Subdivision_init (P := P) (w := w) (W := (tbs K)) (F := F') T) (hr.mono (by decide)) (by rfl) T.g_Subdivision (b_Subdivision_init T) .nil (NCLam.passN (fun _ _ _ z => z)) (pa_cons (pv 12) pa_nil)) (pa_cons (pe_un un_neg pe_int) pa_nil))) (pa_cons (pe_tup (pa_cons (pe_make0 T.M_Desk (ok_Desk_init (P := P) (w := w) (W := (tbs K)) (F := F') T) (hr.mono (by decide)) (by rfl) T.g_Desk (b_Desk_init T) .nil (DL.passE (E := E))) (pa_cons (pe_un un_neg pe_int) pa_nil))) pa_nil)))))
       (pss_cons (ps_set (i := 7) sc_law_triangles_right.nd rfl (.inl rfl) (pe_op (DL.op_addU K) (pv 7) (pe_lst (pa_cons (pe_tup (pa_cons (pe_slice (DL.sl_U K) (pv 11) po_none (po_some pe_int)) (pa_cons pe_int pa_nil))) (pa_cons (pe_tup (pa_cons (pe_lst pa_nil) (pa_cons pe_int pa_nil))) (pa_cons (pe_tup (pa_cons (pe_op (DL.op_addU K) (pv 11) (pe_slice (DL.sl_U K) (pv 11) po_none (po_some pe_int))) (pa_cons pe_int pa_nil))) pa_nil))))))
       (pss_cons (ps_expr (pe_bm PySem.F.plainAttrs_list PySem.F.slot_list_append PySem.F.type_list_append mt_append (pv 7) (pa_cons (pe_tup (pa_cons (pe_lst (pa_cons (pe_tup (pa_cons (pe_tup (pa_cons pe_int (pa_cons pe_int pa_nil))) (pa_cons (pe_tup (pa_cons pe_int (pa_cons pe_int pa_nil))) (pa_cons (pe_tup (pa_cons pe_int (pa_cons pe_int pa_nil))) pa_nil)))) (pa_cons (pe_tup (pa_cons (pe_tup (pa_cons pe_int (pa_cons pe_int pa_nil))) (pa_cons (pe_tup (pa_cons pe_int (pa_cons pe_int pa_nil))) (pa_cons (pe_tup (pa_cons pe_int (pa_cons pe_int pa_nil))) pa_nil)))) pa_nil))) (pa_cons pe_int pa_nil))) pa_nil)))
       (pss_cons (ps_expr (pe_bm PySem.F.plainAttrs_list PySem.F.slot_list_append PySem.F.type_list_append mt_append (pv 7) (pa_cons (pe_tup (pa_cons (pe_lst (pa_cons (pe_tup (pa_cons (pe_tup (pa_cons pe_int (pa_cons pe_int pa_nil))) (pa_cons (pe_tup (pa_cons pe_int (pa_cons pe_int pa_nil))) (pa_cons (pe_tup (pa_cons pe_int (pa_cons pe_int pa_nil))) pa_nil)))) (pa_cons (pe_tup (pa_cons (pe_tup (pa_cons pe_int (pa_cons pe_int pa_nil))) (pa_cons (pe_tup (pa_cons pe_int (pa_cons pe_int pa_nil))) (pa_cons (pe_tup (pa_cons pe_int (pa_cons pe_int pa_nil))) pa_nil)))) (pa_cons (pe_tup (pa_cons (pe_tup (pa_cons pe_int (pa_cons pe_int pa_nil))) (pa_cons (pe_tup (pa_cons pe_int (pa_cons pe_int pa_nil))) (pa_cons (pe_tup (pa_cons pe_int (pa_cons pe_int pa_nil))) pa_nil)))) pa_nil)))) (pa_cons pe_int pa_nil))) pa_nil)))
       (pss_cons (ps_expr (pe_bm PySem.F.plainAttrs_list PySem.F.slot_list_append PySem.F.type_list_append mt_append (pv 7) (pa_cons (pe_tup (pa_cons (pe_op (DL.op_addU K) (pe_slice (DL.sl_U K) (pv 11) po_none (po_some pe_int)) (pe_lst (pa_cons (pe_tup (pa_cons (pe_tup (pa_cons pe_int (pa_cons pe_int pa_nil))) (pa_cons (pe_tup (pa_cons pe_int (pa_cons pe_int pa_nil))) (pa_cons (pe_tup (pa_cons pe_int (pa_cons pe_int pa_nil))) pa_nil)))) pa_nil))) (pa_cons pe_int pa_nil))) pa_nil)))
       (pss_cons (ps_for PassesOwn.never rfl (DL.pi_seq K (pv 7)) (DL.pg_sq K rfl (pgs_cons (pg_name (i := 8) sc_law_triangles_right.nd rfl (.inl rfl)) (pgs_cons (pg_name (i := 9) sc_law_triangles_right.nd rfl (.inl rfl)) pgs_nil)))
       (pss_one (ps_if (pt_cmpR (DL.op_neU K hr.units) (pe_call (ok_law_all_say (P := P) (w := w) (F := F') T tb_law_all_say (fun k G a h => Int.le_trans (by decide) (hF2 k G a h))) (hr.mono (by decide)) (by rfl) T.g_law_all_say T.F_law_all_say.kp (b_law_all_say T) .nil (DL.passE (E := E)) (pa_cons (pv 12) (pa_cons (pv 8) pa_nil))) (pe_op DL.op_mulU (pe_lst (pa_cons (pe_tup (pa_cons pe_str (pa_cons (pv 9) pa_nil))) pa_nil)) pe_int) (nomark _))
       (pss_one (ps_ret pe_bl))
       pss_nil)))
       (pss_cons (ps_set (i := 4) sc_law_triangles_right.nd rfl (.inl rfl) (pe_lst (pa_cons (pe_tup (pa_cons (pe_tup (pa_cons pe_int (pa_cons pe_int pa_nil))) (pa_cons (pe_tup (pa_cons pe_int (pa_cons pe_int pa_nil))) pa_nil))) (pa_cons (pe_tup (pa_cons (pe_tup (pa_cons pe_int (pa_cons pe_int pa_nil))) (pa_cons (pe_tup (pa_cons pe_int (pa_cons pe_int pa_nil))) pa_nil))) (pa_cons (pe_tup (pa_cons (pe_tup (pa_cons pe_int (pa_cons pe_int pa_nil))) (pa_cons (pe_tup (pa_cons pe_int (pa_cons pe_int pa_nil))) pa_nil))) (pa_cons (pe_lst (pa_cons (pe_tup (pa_cons pe_int (pa_cons pe_int pa_nil))) (pa_cons (pe_tup (pa_cons pe_int (pa_cons pe_int pa_nil))) pa_nil))) (pa_cons (pe_tup (pa_cons (pe_tup (pa_cons pe_int (pa_cons pe_int pa_nil))) pa_nil)) (pa_cons (pe_tup (pa_cons (pe_tup (pa_cons pe_int (pa_cons pe_int pa_nil))) (pa_cons (pe_tup (pa_cons pe_int (pa_cons pe_int pa_nil))) pa_nil))) (pa_cons pe_int pa_nil)))))))))
       (pss_cons (ps_for PassesOwn.never rfl (DL.pi_seq K (pe_op (DL.op_addU K) (pv 4) (pe_lst (pa_cons (pv 5) (pa_cons (pe_tup (pa_cons (pv 5) (pa_cons (pe_tup (pa_cons pe_int (pa_cons pe_int pa_nil))) pa_nil))) pa_nil))))) (pg_name (i := 10) sc_law_triangles_right.nd rfl (.inr rfl))
       (pss_one (ps_if (pt_cmpR (DL.op_neU K hr.units) (NCLam.pe_callL (kk := 8) (NCLam.acting0 (params := NCLam.lamP (NCLam.eAt (NCLam.eAt (NCLam.sExpr (NCLam.sBody (NCLam.nth (defBody (top 64)) 16) 0)) 0) 0)) (body := NCLam.lamB (NCLam.eAt (NCLam.eAt (NCLam.sExpr (NCLam.sBody (NCLam.nth (defBody (top 64)) 16) 0)) 0) 0)) (scope := NCLam.lamS (NCLam.eAt (NCLam.eAt (NCLam.sExpr (NCLam.sBody (NCLam.nth (defBody (top 64)) 16) 0)) 0) 0)) (k := 7) (fun _ => rfl) (NCLam.lamN_by (show NCLam.lamNB N_law_triangles_right (defScope (top 64)) _ = true by decide +kernel)) (fun _ _ _ => rfl) (fun B A outer s H E f c' hr => (pe_call (okx_flipped (P := P) (w := w) (W := (tbs K)) (F := F') T) (hr.mono (by decide)) (by rfl) T.g_flipped T.F_flipped.kp (b_flipped T) .nil (passes_call (takes_of rfl rfl rfl rfl) (fun _ _ _ _ h => h)) (pa_cons (pv 12) (pa_cons (pv 11) (pa_cons (pv 10) pa_nil)))))) (fun base al ha => ok_law_said T ha) (hr.mono (by decide)) (by rfl) T.g_law_said T.F_law_said.kp (b_law_said T) (pa_cons (DL.pe_lamT (T := tbs K) tb_law_triangles_right rfl (mem_law_triangles_right K) (uniq_law_triangles_right T) (NCLam.lamN_by (show NCLam.lamNB N_law_triangles_right (defScope (top 64)) _ = true by decide +kernel)) rfl) pa_nil)) pe_str (nomark _))
       (pss_one (ps_ret pe_bl))
       pss_nil)))
       (pss_one (ps_ret pe_bl)))))))))))))))))))), ?_⟩
  exact DL.body_okL (T := kt K P w (tbs K) F) (F := F') hF1 (E := E) (f := bod_law_triangles_right) (N := N_law_triangles_right) (n := 1) ((DL.ds_seq (DL.ds_parT [12, 11] (DL.dv_cons (DL.de_lst (DL.da_cons (DL.de_tup (DL.da_cons (DL.de_c fun _ => .int 0) (DL.da_cons (DL.de_c fun _ => .int 0) DL.da_nil))) (DL.da_cons (DL.de_tup (DL.da_cons (DL.de_c fun _ => .int 4) (DL.da_cons (DL.de_c fun _ => .int 0) DL.da_nil))) (DL.da_cons (DL.de_tup (DL.da_cons (DL.de_c fun _ => .int 0) (DL.da_cons (DL.de_c fun _ => .int 4) DL.da_nil))) (DL.da_cons (DL.de_tup (DL.da_cons (DL.de_c fun _ => .int 4) (DL.da_cons (DL.de_c fun _ => .int 4) DL.da_nil))) (DL.da_cons (DL.de_tup (DL.da_cons (DL.de_c fun _ => .int 2) (DL.da_cons (DL.de_c fun _ => .int 2) DL.da_nil))) DL.da_nil)))))) (DL.dv_cons (DL.de_lst DL.da_nil) DL.dv_nil)))
       (DL.ds_seq (DL.ds_for (DL.di_seq (DL.de_tup (DL.da_cons (DL.de_tup (DL.da_cons (DL.de_tup (DL.da_cons (DL.de_c fun _ => .int 0) (DL.da_cons (DL.de_c fun _ => .int 0) DL.da_nil))) (DL.da_cons (DL.de_tup (DL.da_cons (DL.de_c fun _ => .int 4) (DL.da_cons (DL.de_c fun _ => .int 0) DL.da_nil))) DL.da_nil))) (DL.da_cons (DL.de_tup (DL.da_cons (DL.de_tup (DL.da_cons (DL.de_c fun _ => .int 4) (DL.da_cons (DL.de_c fun _ => .int 0) DL.da_nil))) (DL.da_cons (DL.de_tup (DL.da_cons (DL.de_c fun _ => .int 4) (DL.da_cons (DL.de_c fun _ => .int 4) DL.da_nil))) DL.da_nil))) (DL.da_cons (DL.de_tup (DL.da_cons (DL.de_tup (DL.da_cons (DL.de_c fun _ => .int 4) (DL.da_cons (DL.de_c fun _ => .int 4) DL.da_nil))) (DL.da_cons (DL.de_tup (DL.da_cons (DL.de_c fun _ => .int 0) (DL.da_cons (DL.de_c fun _ => .int 4) DL.da_nil))) DL.da_nil))) (DL.da_cons (DL.de_tup (DL.da_cons (DL.de_tup (DL.da_cons (DL.de_c fun _ => .int 0) (DL.da_cons (DL.de_c fun _ => .int 4) DL.da_nil))) (DL.da_cons (DL.de_tup (DL.da_cons (DL.de_c fun _ => .int 0) (DL.da_cons (DL.de_c fun _ => .int 0) DL.da_nil))) DL.da_nil))) DL.da_nil)))))) (DL.dg_sq (n := 2) (DL.dgs_cons (DL.dg_name 1) (DL.dgs_cons (DL.dg_name 2) DL.dgs_nil)))
       (DL.ds_drop (DL.de_mt 11 DL.ms_append (DL.de_tup (DL.da_cons (DL.de_var 1) (DL.da_cons (DL.de_var 2) (DL.da_cons (DL.de_tup (DL.da_cons (DL.de_c fun _ => .int 2) (DL.da_cons (DL.de_c fun _ => .int 2) DL.da_nil))) DL.da_nil)))))))
       (DL.ds_seq (DL.ds_if (DL.dt_of' (DL.de_op DL.os_ne (DL.dk_of (DL.de_call (DL.da_cons (DL.de_var 12) (DL.da_cons (DL.de_var 11) DL.da_nil)) (DL.len_cons (DL.len_cons DL.len_nil)))) (DL.dk_of (DL.de_lst (DL.da_cons (DL.de_c fun _ => .non) (DL.da_cons (DL.de_c fun _ => .non) (DL.da_cons (DL.de_c fun _ => .non) (DL.da_cons (DL.de_c fun _ => .str "edge") DL.da_nil))))))))
       (DL.ds_ret (DL.de_c fun _ => .bl false))
       DL.ds_next)
       (DL.ds_seq (DL.ds_asg 3 (DL.de_lent (DL.dr_ref 0 (DL.dr_cons (DL.de_c fun _ => .int 5) DL.dr_nil)) (DL.lenR_ref (DL.lenR_cons DL.lenR_nil))))
       (DL.ds_seq (DL.ds_asg 4 (DL.de_lst (DL.da_cons (DL.de_c fun _ => .non) (DL.da_cons (DL.de_c fun _ => .int 5) (DL.da_cons (DL.de_tup DL.da_nil) (DL.da_cons (DL.de_lst DL.da_nil) (DL.da_cons (DL.de_tup (DL.da_cons (DL.de_tup (DL.da_cons (DL.de_c fun _ => .int 0) (DL.da_cons (DL.de_c fun _ => .int 0) DL.da_nil))) (DL.da_cons (DL.de_tup (DL.da_cons (DL.de_c fun _ => .int 4) (DL.da_cons (DL.de_c fun _ => .int 0) DL.da_nil))) DL.da_nil))) (DL.da_cons (DL.de_lst (DL.da_cons (DL.de_tup (DL.da_cons (DL.de_c fun _ => .int 0) (DL.da_cons (DL.de_c fun _ => .int 0) DL.da_nil))) (DL.da_cons (DL.de_tup (DL.da_cons (DL.de_c fun _ => .int 4) (DL.da_cons (DL.de_c fun _ => .int 0) DL.da_nil))) (DL.da_cons (DL.de_tup (DL.da_cons (DL.de_c fun _ => .int 2) (DL.da_cons (DL.de_c fun _ => .int 2) DL.da_nil))) DL.da_nil)))) (DL.da_cons (DL.de_tup (DL.da_cons (DL.de_tup (DL.da_cons (DL.de_c fun _ => .int 0) (DL.da_cons (DL.de_c fun _ => .int 0) DL.da_nil))) (DL.da_cons (DL.de_tup (DL.da_cons (DL.de_c fun _ => .int 4) (DL.da_cons (DL.de_c fun _ => .int 0) DL.da_nil))) (DL.da_cons (DL.de_tup (DL.da_cons (DL.de_c fun _ => .int 9) (DL.da_cons (DL.de_c fun _ => .int 9) DL.da_nil))) DL.da_nil)))) DL.da_nil)))))))))
       (DL.ds_seq (DL.ds_asg 4 (DL.de_op DL.os_add (DL.dk_var 4) (DL.dk_of (DL.de_lst (DL.da_cons (DL.de_tup (DL.da_cons (DL.de_tup (DL.da_cons (DL.de_c fun _ => .int 0) (DL.da_cons (DL.de_c fun _ => .int 0) DL.da_nil))) (DL.da_cons (DL.de_tup (DL.da_cons (DL.de_c fun _ => .int 2) (DL.da_cons (DL.de_c fun _ => .int 2) DL.da_nil))) (DL.da_cons (DL.de_tup (DL.da_cons (DL.de_c fun _ => .int 4) (DL.da_cons (DL.de_c fun _ => .int 4) DL.da_nil))) DL.da_nil)))) (DL.da_cons (DL.de_tup (DL.da_cons (DL.de_tup (DL.da_cons (DL.de_c fun _ => .int 0) (DL.da_cons (DL.de_c fun _ => .int 0) DL.da_nil))) (DL.da_cons (DL.de_tup (DL.da_cons (DL.de_c fun _ => .int 0) (DL.da_cons (DL.de_c fun _ => .int 0) DL.da_nil))) (DL.da_cons (DL.de_tup (DL.da_cons (DL.de_c fun _ => .int 2) (DL.da_cons (DL.de_c fun _ => .int 2) DL.da_nil))) DL.da_nil)))) (DL.da_cons (DL.de_c fun _ => .str "abc") (DL.da_cons (DL.de_tup (DL.da_cons (DL.de_tup (DL.da_cons (DL.de_c fun _ => .int 0) (DL.da_cons (DL.de_c fun _ => .int 0) DL.da_nil))) (DL.da_cons (DL.de_tup (DL.da_cons (DL.de_c fun _ => .int 4) (DL.da_cons (DL.de_c fun _ => .int 0) DL.da_nil))) (DL.da_cons (DL.de_lst (DL.da_cons (DL.de_c fun _ => .int 2) (DL.da_cons (DL.de_c fun _ => .int 2) DL.da_nil))) DL.da_nil)))) DL.da_nil))))))))
       (DL.ds_seq (DL.ds_asg 5 DL.de_callS)
       (DL.ds_seq (DL.ds_asg 6 (DL.de_lent (DL.dr_ref 0 (DL.dr_cons (DL.de_op DL.os_add (DL.dk_var 4) (DL.dk_of (DL.de_lst (DL.da_cons (DL.de_var 5) (DL.da_cons (DL.de_tup (DL.da_cons (DL.de_tup (DL.da_cons (DL.de_c fun _ => .int 0) (DL.da_cons (DL.de_c fun _ => .int 0) DL.da_nil))) (DL.da_cons (DL.de_var 5) (DL.da_cons (DL.de_tup (DL.da_cons (DL.de_c fun _ => .int 2) (DL.da_cons (DL.de_c fun _ => .int 2) DL.da_nil))) DL.da_nil)))) DL.da_nil))))) DL.dr_nil)) (DL.lenR_ref (DL.lenR_cons DL.lenR_nil))))
       (DL.ds_seq (DL.ds_asg 7 (DL.de_lst (DL.da_cons (DL.de_tup (DL.da_cons (DL.de_op DL.os_add (DL.dk_of (DL.de_op DL.os_add (DL.dk_of (DL.de_sl (DL.dk_var 11) DL.do_none (DL.do_some (DL.dk_var 3)))) (DL.dk_of (DL.de_lst (DL.da_cons (DL.de_var 6) DL.da_nil))))) (DL.dk_of (DL.de_sl (DL.dk_var 11) (DL.do_some (DL.dk_var 3)) DL.do_none))) (DL.da_cons (DL.de_var 3) DL.da_nil))) (DL.da_cons (DL.de_tup (DL.da_cons (DL.de_c fun _ => .non) (DL.da_cons (DL.de_neg (DL.dk_of (DL.de_c fun _ => .int 1))) DL.da_nil))) (DL.da_cons (DL.de_tup (DL.da_cons (DL.de_cb DL.cs_tuple (DL.dp_cons (DL.dk_var 11) DL.dp_nil)) (DL.da_cons (DL.de_neg (DL.dk_of (DL.de_c fun _ => .int 1))) DL.da_nil))) (DL.da_cons (DL.de_tup (DL.da_cons (DL.de_c fun _ => .str "four") (DL.da_cons (DL.de_neg (DL.dk_of (DL.de_c fun _ => .int 1))) DL.da_nil))) (DL.da_cons (DL.de_tup (DL.da_cons DL.de_dct (DL.da_cons (DL.de_neg (DL.dk_of (DL.de_c fun _ => .int 1))) DL.da_nil))) DL.da_nil)))))))
       (DL.ds_seq (DL.ds_asg 7 (DL.de_op DL.os_add (DL.dk_var 7) (DL.dk_of (DL.de_lst (DL.da_cons (DL.de_tup (DL.da_cons (DL.dq_noX (DL.de_make 0 T.ik_Subdivision (DL.da_cons (DL.de_var 12) DL.da_nil) (DL.len_cons DL.len_nil))) (DL.da_cons (DL.de_neg (DL.dk_of (DL.de_c fun _ => .int 1))) DL.da_nil))) (DL.da_cons (DL.de_tup (DL.da_cons (DL.de_makeS 1 T.ik_Desk) (DL.da_cons (DL.de_neg (DL.dk_of (DL.de_c fun _ => .int 1))) DL.da_nil))) DL.da_nil))))))
       (DL.ds_seq (DL.ds_asg 7 (DL.de_op DL.os_add (DL.dk_var 7) (DL.dk_of (DL.de_lst (DL.da_cons (DL.de_tup (DL.da_cons (DL.de_sl (DL.dk_var 11) DL.do_none (DL.do_some (DL.dk_of (DL.de_c fun _ => .int 3)))) (DL.da_cons (DL.de_c fun _ => .int 3) DL.da_nil))) (DL.da_cons (DL.de_tup (DL.da_cons (DL.de_lst DL.da_nil) (DL.da_cons (DL.de_c fun _ => .int 0) DL.da_nil))) (DL.da_cons (DL.de_tup (DL.da_cons (DL.de_op DL.os_add (DL.dk_var 11) (DL.dk_of (DL.de_sl (DL.dk_var 11) DL.do_none (DL.do_some (DL.dk_of (DL.de_c fun _ => .int 1)))))) (DL.da_cons (DL.de_c fun _ => .int 5) DL.da_nil))) DL.da_nil)))))))
       (DL.ds_seq (DL.ds_drop (DL.de_mt 7 DL.ms_append (DL.de_tup (DL.da_cons (DL.de_lst (DL.da_cons (DL.de_tup (DL.da_cons (DL.de_tup (DL.da_cons (DL.de_c fun _ => .int 0) (DL.da_cons (DL.de_c fun _ => .int 0) DL.da_nil))) (DL.da_cons (DL.de_tup (DL.da_cons (DL.de_c fun _ => .int 4) (DL.da_cons (DL.de_c fun _ => .int 0) DL.da_nil))) (DL.da_cons (DL.de_tup (DL.da_cons (DL.de_c fun _ => .int 4) (DL.da_cons (DL.de_c fun _ => .int 4) DL.da_nil))) DL.da_nil)))) (DL.da_cons (DL.de_tup (DL.da_cons (DL.de_tup (DL.da_cons (DL.de_c fun _ => .int 0) (DL.da_cons (DL.de_c fun _ => .int 0) DL.da_nil))) (DL.da_cons (DL.de_tup (DL.da_cons (DL.de_c fun _ => .int 4) (DL.da_cons (DL.de_c fun _ => .int 4) DL.da_nil))) (DL.da_cons (DL.de_tup (DL.da_cons (DL.de_c fun _ => .int 0) (DL.da_cons (DL.de_c fun _ => .int 4) DL.da_nil))) DL.da_nil)))) DL.da_nil))) (DL.da_cons (DL.de_c fun _ => .int 2) DL.da_nil)))))
       (DL.ds_seq (DL.ds_drop (DL.de_mt 7 DL.ms_append (DL.de_tup (DL.da_cons (DL.de_lst (DL.da_cons (DL.de_tup (DL.da_cons (DL.de_tup (DL.da_cons (DL.de_c fun _ => .int 0) (DL.da_cons (DL.de_c fun _ => .int 0) DL.da_nil))) (DL.da_cons (DL.de_tup (DL.da_cons (DL.de_c fun _ => .int 4) (DL.da_cons (DL.de_c fun _ => .int 0) DL.da_nil))) (DL.da_cons (DL.de_tup (DL.da_cons (DL.de_c fun _ => .int 4) (DL.da_cons (DL.de_c fun _ => .int 4) DL.da_nil))) DL.da_nil)))) (DL.da_cons (DL.de_tup (DL.da_cons (DL.de_tup (DL.da_cons (DL.de_c fun _ => .int 0) (DL.da_cons (DL.de_c fun _ => .int 0) DL.da_nil))) (DL.da_cons (DL.de_tup (DL.da_cons (DL.de_c fun _ => .int 2) (DL.da_cons (DL.de_c fun _ => .int 2) DL.da_nil))) (DL.da_cons (DL.de_tup (DL.da_cons (DL.de_c fun _ => .int 0) (DL.da_cons (DL.de_c fun _ => .int 4) DL.da_nil))) DL.da_nil)))) (DL.da_cons (DL.de_tup (DL.da_cons (DL.de_tup (DL.da_cons (DL.de_c fun _ => .int 0) (DL.da_cons (DL.de_c fun _ => .int 4) DL.da_nil))) (DL.da_cons (DL.de_tup (DL.da_cons (DL.de_c fun _ => .int 2) (DL.da_cons (DL.de_c fun _ => .int 2) DL.da_nil))) (DL.da_cons (DL.de_tup (DL.da_cons (DL.de_c fun _ => .int 4) (DL.da_cons (DL.de_c fun _ => .int 4) DL.da_nil))) DL.da_nil)))) DL.da_nil)))) (DL.da_cons (DL.de_c fun _ => .int 3) DL.da_nil)))))
       (DL.ds_seq (DL.ds_drop (DL.de_mt 7 DL.ms_append (DL.de_tup (DL.da_cons (DL.de_op DL.os_add (DL.dk_of (DL.de_sl (DL.dk_var 11) DL.do_none (DL.do_some (DL.dk_of (DL.de_c fun _ => .int 3))))) (DL.dk_of (DL.de_lst (DL.da_cons (DL.de_tup (DL.da_cons (DL.de_tup (DL.da_cons (DL.de_c fun _ => .int 0) (DL.da_cons (DL.de_c fun _ => .int 4) DL.da_nil))) (DL.da_cons (DL.de_tup (DL.da_cons (DL.de_c fun _ => .int 0) (DL.da_cons (DL.de_c fun _ => .int 0) DL.da_nil))) (DL.da_cons (DL.de_tup (DL.da_cons (DL.de_c fun _ => .int 4) (DL.da_cons (DL.de_c fun _ => .int 0) DL.da_nil))) DL.da_nil)))) DL.da_nil)))) (DL.da_cons (DL.de_c fun _ => .int 4) DL.da_nil)))))
       (DL.ds_seq (DL.ds_for (DL.di_seq (DL.de_var 7)) (DL.dg_sq (n := 2) (DL.dgs_cons (DL.dg_name 8) (DL.dgs_cons (DL.dg_name 9) DL.dgs_nil)))
       (DL.ds_if (DL.dt_of' (DL.de_op DL.os_ne (DL.dk_of (DL.de_call (DL.da_cons (DL.de_var 12) (DL.da_cons (DL.de_var 8) DL.da_nil)) (DL.len_cons (DL.len_cons DL.len_nil)))) (DL.dk_of (DL.de_op DL.os_mul (DL.dk_of (DL.de_lst (DL.da_cons (DL.de_tup (DL.da_cons (DL.de_c fun _ => .str "triangles") (DL.da_cons (DL.de_var 9) DL.da_nil))) DL.da_nil))) (DL.dk_of (DL.de_c fun _ => .int 4))))))
       (DL.ds_ret (DL.de_c fun _ => .bl false))
       DL.ds_next))
       (DL.ds_seq (DL.ds_asg 4 (DL.de_lst (DL.da_cons (DL.de_tup (DL.da_cons (DL.de_tup (DL.da_cons (DL.de_c fun _ => .int 2) (DL.da_cons (DL.de_c fun _ => .int 2) DL.da_nil))) (DL.da_cons (DL.de_tup (DL.da_cons (DL.de_c fun _ => .int 0) (DL.da_cons (DL.de_c fun _ => .int 0) DL.da_nil))) DL.da_nil))) (DL.da_cons (DL.de_tup (DL.da_cons (DL.de_tup (DL.da_cons (DL.de_c fun _ => .int 0) (DL.da_cons (DL.de_c fun _ => .int 0) DL.da_nil))) (DL.da_cons (DL.de_tup (DL.da_cons (DL.de_c fun _ => .int 4) (DL.da_cons (DL.de_c fun _ => .int 0) DL.da_nil))) DL.da_nil))) (DL.da_cons (DL.de_tup (DL.da_cons (DL.de_tup (DL.da_cons (DL.de_c fun _ => .int 0) (DL.da_cons (DL.de_c fun _ => .int 0) DL.da_nil))) (DL.da_cons (DL.de_tup (DL.da_cons (DL.de_c fun _ => .int 4) (DL.da_cons (DL.de_c fun _ => .int 4) DL.da_nil))) DL.da_nil))) (DL.da_cons (DL.de_lst (DL.da_cons (DL.de_tup (DL.da_cons (DL.de_c fun _ => .int 0) (DL.da_cons (DL.de_c fun _ => .int 0) DL.da_nil))) (DL.da_cons (DL.de_tup (DL.da_cons (DL.de_c fun _ => .int 2) (DL.da_cons (DL.de_c fun _ => .int 2) DL.da_nil))) DL.da_nil))) (DL.da_cons (DL.de_tup (DL.da_cons (DL.de_tup (DL.da_cons (DL.de_c fun _ => .int 0) (DL.da_cons (DL.de_c fun _ => .int 0) DL.da_nil))) DL.da_nil)) (DL.da_cons (DL.de_tup (DL.da_cons (DL.de_tup (DL.da_cons (DL.de_c fun _ => .int 0) (DL.da_cons (DL.de_c fun _ => .int 0) DL.da_nil))) (DL.da_cons (DL.de_tup (DL.da_cons (DL.de_c fun _ => .int 3) (DL.da_cons (DL.de_c fun _ => .int 3) DL.da_nil))) DL.da_nil))) (DL.da_cons (DL.de_c fun _ => .int 5) DL.da_nil)))))))))
       (DL.ds_seq (DL.ds_for (DL.di_seq (DL.de_op DL.os_add (DL.dk_var 4) (DL.dk_of (DL.de_lst (DL.da_cons (DL.de_var 5) (DL.da_cons (DL.de_tup (DL.da_cons (DL.de_var 5) (DL.da_cons (DL.de_tup (DL.da_cons (DL.de_c fun _ => .int 0) (DL.da_cons (DL.de_c fun _ => .int 0) DL.da_nil))) DL.da_nil))) DL.da_nil)))))) (DL.dg_name 10)
       (DL.ds_if (DL.dt_of' (DL.de_op DL.os_ne (DL.dk_of (DL.de_said (fun al f H Q E h => ⟨f, rfl, h⟩) (said_ok (W := tbs K) (F := F') (P := P) (w := w)) (fun E => (DL.de_call (DL.da_cons (DL.de_var 12) (DL.da_cons (DL.de_var 11) (DL.da_cons (DL.de_var 10) DL.da_nil))) (DL.len_cons (DL.len_cons (DL.len_cons DL.len_nil))))))) (DL.dk_of (DL.de_c fun _ => .str "edge"))))
       (DL.ds_ret (DL.de_c fun _ => .bl false))
       DL.ds_next))
       (DL.ds_ret (DL.de_c fun _ => .bl true)))))))))))))))))))) (by decide) h

end

end NC
namespace NC
section
variable {P : Program} {w : World} {K : PySem.W.Frag} {mg : Str → Option Value} {base : Heap} {W : List (Addr × Str)} {F : Int → Hp → Addr → Prop}
def bod_law : DL.M DL.Out := (DL.seqM (DL.forM (DL.itE (DL.op2 DL.opAdd (DL.kE (DL.slE (DL.vK 0) DL.noO (DL.someO (DL.kE (DL.cE (.int 4)))))) (DL.kE (DL.lstE (DL.consA (DL.cE (.int 0)) DL.nilA))))) (DL.nmG 1)
 (DL.seqM (DL.asgM 2 (DL.callE mir_law_purse (DL.consA (DL.vE 1) DL.nilA)))
 (DL.forM (DL.rng1E (DL.consA (DL.cE (.int 4)) DL.nilA)) (DL.nmG 3)
 (DL.ifM (DL.notM (DL.trE (DL.kE (DL.lentE mir_law_triangles_right (DL.refR 2 DL.nilR)))))
 (DL.retM (DL.cE (.bool false)))
 DL.nxM))))
 (DL.seqM (DL.asgM 4 (DL.lstE (DL.consA (DL.tupE (DL.consA (DL.cE (.int 0)) (DL.consA (DL.cE (.int 0)) DL.nilA))) (DL.consA (DL.tupE (DL.consA (DL.cE (.int 2)) (DL.consA (DL.cE (.int 2)) DL.nilA))) (DL.consA (DL.tupE (DL.consA (DL.cE (.int 1)) (DL.consA (DL.cE (.int 1)) DL.nilA))) DL.nilA)))))
 (DL.seqM (DL.ifM (DL.tE (DL.op2 DL.opNe (DL.kE (DL.callE mir_law_all_say (DL.consA (DL.vE 4) (DL.consA (DL.lstE DL.nilA) DL.nilA)))) (DL.kE (DL.lstE (DL.consA (DL.cE .none) (DL.consA (DL.cE .none) (DL.consA (DL.cE .none) (DL.consA (DL.cE (.str "edge")) DL.nilA))))))))
 (DL.retM (DL.cE (.bool false)))
 DL.nxM)
 (DL.seqM (DL.ifM (DL.tE (DL.op2 DL.opNe (DL.kE (DL.saidM hd_law (DL.callE mir_flipped (DL.consA (DL.vE 4) (DL.consA (DL.lstE DL.nilA) (DL.consA (DL.tupE (DL.consA (DL.tupE (DL.consA (DL.cE (.int 0)) (DL.consA (DL.cE (.int 0)) DL.nilA))) (DL.consA (DL.tupE (DL.consA (DL.cE (.int 1)) (DL.consA (DL.cE (.int 1)) DL.nilA))) DL.nilA))) DL.nilA)))))) (DL.kE (DL.cE (.str "edge")))))
 (DL.retM (DL.cE (.bool false)))
 DL.nxM)
 (DL.retM (DL.andV (DL.callS mir_law_sites_right) (DL.op2 DL.opEq (DL.kE (DL.saidM hd_law (DL.callE mir_volume (DL.consA (DL.vE 4) (DL.consA (DL.lstE (DL.consA (DL.cE .none) DL.nilA)) DL.nilA))))) (DL.kE (DL.tupE (DL.consA (DL.cE (.str "triangles")) (DL.consA (DL.cE (.int 0)) DL.nilA)))))))))))

end

end NC
namespace NC
section
variable {P : Program} {w : World} {K : PySem.W.Frag} {mg : Str → Option Value} {base : Heap} {W : List (Addr × Str)} {F : Int → Hp → Addr → Prop}
set_option maxRecDepth 100000
open DL PySem in
theorem coin_ok (a b c m : Int) (ha : 0 ≤ a) (hb : 0 ≤ b ∧ b < 2147483563) (hc : 0 ≤ c ∧ c < 1000000) (hm : 0 < m) (hm2 : m < 1000000) : ∃ r a' c', mir_law_coin [.b [.int a, .int b, .int c], .d (.int m)] = .ok (.d (.int r), .b [.int a', .int b, .int c']) ∧ 0 ≤ r ∧ r < m ∧ 0 ≤ a' ∧ c ≤ c' ∧ c' ≤ c + 1 := by
  have hm' : (m != 0) = true := by simp; omega
  have hl : m.natAbs.log2 < 9000 := DL.log2_ok (by omega)
  by_cases h : 0 < a
  · refine ⟨a.fmod m, a.fdiv m, c, ?_, (fmod_in hm).1, (fmod_in hm).2, (fdiv_in hm ha).1, by omega, by omega⟩
    simp [mir_law_coin, bod_law_coin, runB, seqM, ifM, bd, tE, op2, kE, vK, cE, DL.ret, lf, fz, rdP, rdS, opIx, ixD, opGt, h, asgM, opMod, cbE, consP, nilP, rdL, opInt, hm', setM, sE, setK, opDiv, hl, retM, vM, backS, Slot.isL, lstS, reS, ixPos]
  · have e1 : mulOk 70001 (c + 1) = true := mulOk_left (by decide)
    have e2 : powOk (b + 70001 * (c + 1) + 7) 3 = true := powOk_small (by omega) (by decide) (by decide)
    generalize hx : ((b + 70001 * (c + 1) + 7) ^ 3).fmod 2147483587 = x
    have xi := fmod_in (x := (b + 70001 * (c + 1) + 7) ^ 3) (show (0 : Int) < 2147483587 by decide)
    rw [hx] at xi
    have e3 : mulOk 11 (c + 1) = true := mulOk_left (by decide)
    have e4 : mulOk (x + 11 * (c + 1)) (x.fdiv 1009 + 48611) = true := mulOk_left (by omega)
    generalize hy : ((x + 11 * (c + 1)) * (x.fdiv 1009 + 48611)).fmod 2147483549 = y
    have yi := fmod_in (x := (x + 11 * (c + 1)) * (x.fdiv 1009 + 48611)) (show (0 : Int) < 2147483549 by decide)
    rw [hy] at yi
    have e5 : mulOk y (y.fdiv 2027 + 69621) = true := mulOk_left (by omega)
    have l1 : Nat.log2 1009 < 9000 := by decide +kernel
    have l2 : Nat.log2 2027 < 9000 := by decide +kernel
    have l3 : Nat.log2 5 < 9000 := by decide +kernel
    refine ⟨(((y * (y.fdiv 2027 + 69621)).fmod 2147483543).fdiv 5).fmod m, a, c + 1, ?_, (fmod_in hm).1, (fmod_in hm).2, ha, by omega, by omega⟩
    simp [mir_law_coin, bod_law_coin, runB, seqM, ifM, bd, tE, op2, kE, vK, cE, DL.ret, lf, fz, rdP, rdS, opIx, ixD, opGt, h, asgM, opMod, cbE, consP, nilP, rdL, opInt, hm', setM, sE, setK, opDiv, hl, retM, vM, backS, Slot.isL, lstS, reS, ixPos, opAdd, opMul, opPow, nxM, e1, e2, hx, e3, e4, hy, e5, l1, l2, l3]
open DL PySem in
theorem purse_ok (z : Int) : ∃ a b, mir_law_purse [.d (.int z)] = .ok (.o [.int a, .int b, .int 3], .un) ∧ 0 ≤ a ∧ 0 ≤ b ∧ b < 2147483563 := by
  have e2 : powOk 10 18 = true := powOk_small (by decide) (by decide) (by decide)
  have e0 : ∀ x, mulOk x 0 = true := fun x => mulOk_right (by decide)
  have e1 : ∀ x, mulOk x 1 = true := fun x => mulOk_right (by decide)
  by_cases hz : z < 0
  · by_cases hw : (1000000000000000000 : Int) ≤ -z
    · refine ⟨-z, z.fmod 2147483563, ?_, by omega, (fmod_in (by decide)).1, (fmod_in (by decide)).2⟩
      simp [mir_law_purse, bod_law_purse, runB, retM, lstE, consA, nilA, bd, op2, cbE, consP, nilP, kE, vK, cE, DL.ret, lf, fz, rdP, rdS, rdL, opAbs, opInt, opGe, opPow, opMul, opMod, sE, backS, hz, hw, e0, e1, e2]
    · refine ⟨0, z.fmod 2147483563, ?_, by omega, (fmod_in (by decide)).1, (fmod_in (by decide)).2⟩
      simp [mir_law_purse, bod_law_purse, runB, retM, lstE, consA, nilA, bd, op2, cbE, consP, nilP, kE, vK, cE, DL.ret, lf, fz, rdP, rdS, rdL, opAbs, opInt, opGe, opPow, opMul, opMod, sE, backS, hz, hw, e0, e1, e2]
  · by_cases hw : (1000000000000000000 : Int) ≤ z
    · refine ⟨z, z.fmod 2147483563, ?_, by omega, (fmod_in (by decide)).1, (fmod_in (by decide)).2⟩
      simp [mir_law_purse, bod_law_purse, runB, retM, lstE, consA, nilA, bd, op2, cbE, consP, nilP, kE, vK, cE, DL.ret, lf, fz, rdP, rdS, rdL, opAbs, opInt, opGe, opPow, opMul, opMod, sE, backS, hz, hw, e0, e1, e2]
    · refine ⟨0, z.fmod 2147483563, ?_, by omega, (fmod_in (by decide)).1, (fmod_in (by decide)).2⟩
      simp [mir_law_purse, bod_law_purse, runB, retM, lstE, consA, nilA, bd, op2, cbE, consP, nilP, kE, vK, cE, DL.ret, lf, fz, rdP, rdS, rdL, opAbs, opInt, opGe, opPow, opMul, opMod, sE, backS, hz, hw, e0, e1, e2]
open DL PySem in
theorem pick_ok (a b c : Int) (xs : List D) (ha : 0 ≤ a) (hb : 0 ≤ b ∧ b < 2147483563) (hc : 0 ≤ c ∧ c < 1000000) (hm : 0 < xs.length) (hm2 : xs.length < 1000000) : ∃ (r : Nat) (a' c' : Int) (x : D), mir_law_pick [.b [.int a, .int b, .int c], .d (.list xs)] = .ok (.d x, .b [.int a', .int b, .int c']) ∧ r < xs.length ∧ xs[r]? = some x ∧ 0 ≤ a' ∧ c ≤ c' ∧ c' ≤ c + 1 := by
  obtain ⟨r, a', c', e, r0, r1, h⟩ := coin_ok a b c xs.length ha hb hc (by omega) (by omega)
  have hr : r.toNat < xs.length := by omega
  refine ⟨r.toNat, a', c', xs[r.toNat], ?_, hr, List.getElem?_eq_getElem hr, h⟩
  have hi : xs[r.toNat]? = some xs[r.toNat] := List.getElem?_eq_getElem hr
  simp [mir_law_pick, bod_law_pick, runB, retM, bd, op2, vK, kE, lentE, refR, consR, nilR, cbE, consP, nilP, rdL, rdP, rdS, opLen, lf, sE, fz, DL.ret, agsS, lend, e, give, opIx, ixD, r0, backS, hi]
def s_tr_0 : DL.M DL.Out := (DL.parN [12, 11] (DL.consV (DL.lstE (DL.consA (DL.tupE (DL.consA (DL.cE (.int 0)) (DL.consA (DL.cE (.int 0)) DL.nilA))) (DL.consA (DL.tupE (DL.consA (DL.cE (.int 4)) (DL.consA (DL.cE (.int 0)) DL.nilA))) (DL.consA (DL.tupE (DL.consA (DL.cE (.int 0)) (DL.consA (DL.cE (.int 4)) DL.nilA))) (DL.consA (DL.tupE (DL.consA (DL.cE (.int 4)) (DL.consA (DL.cE (.int 4)) DL.nilA))) (DL.consA (DL.tupE (DL.consA (DL.cE (.int 2)) (DL.consA (DL.cE (.int 2)) DL.nilA))) DL.nilA)))))) (DL.consV (DL.lstE DL.nilA) DL.nilV)))
def s_tr_1 : DL.M DL.Out := (DL.forM (DL.itE (DL.tupE (DL.consA (DL.tupE (DL.consA (DL.tupE (DL.consA (DL.cE (.int 0)) (DL.consA (DL.cE (.int 0)) DL.nilA))) (DL.consA (DL.tupE (DL.consA (DL.cE (.int 4)) (DL.consA (DL.cE (.int 0)) DL.nilA))) DL.nilA))) (DL.consA (DL.tupE (DL.consA (DL.tupE (DL.consA (DL.cE (.int 4)) (DL.consA (DL.cE (.int 0)) DL.nilA))) (DL.consA (DL.tupE (DL.consA (DL.cE (.int 4)) (DL.consA (DL.cE (.int 4)) DL.nilA))) DL.nilA))) (DL.consA (DL.tupE (DL.consA (DL.tupE (DL.consA (DL.cE (.int 4)) (DL.consA (DL.cE (.int 4)) DL.nilA))) (DL.consA (DL.tupE (DL.consA (DL.cE (.int 0)) (DL.consA (DL.cE (.int 4)) DL.nilA))) DL.nilA))) (DL.consA (DL.tupE (DL.consA (DL.tupE (DL.consA (DL.cE (.int 0)) (DL.consA (DL.cE (.int 4)) DL.nilA))) (DL.consA (DL.tupE (DL.consA (DL.cE (.int 0)) (DL.consA (DL.cE (.int 0)) DL.nilA))) DL.nilA))) DL.nilA)))))) (DL.unlG 2 (DL.consG (DL.nmG 1) (DL.consG (DL.nmG 2) DL.nilG)))
 (DL.dropM (DL.mtE DL.opAppend 11 (DL.tupE (DL.consA (DL.vE 1) (DL.consA (DL.vE 2) (DL.consA (DL.tupE (DL.consA (DL.cE (.int 2)) (DL.consA (DL.cE (.int 2)) DL.nilA))) DL.nilA)))))))
def s_tr_2 : DL.M DL.Out := (DL.ifM (DL.tE (DL.op2 DL.opNe (DL.kE (DL.callE mir_law_all_say (DL.consA (DL.vE 12) (DL.consA (DL.vE 11) DL.nilA)))) (DL.kE (DL.lstE (DL.consA (DL.cE .none) (DL.consA (DL.cE .none) (DL.consA (DL.cE .none) (DL.consA (DL.cE (.str "edge")) DL.nilA))))))))
 (DL.retM (DL.cE (.bool false)))
 DL.nxM)
def s_tr_3 : DL.M DL.Out := (DL.asgM 3 (DL.lentE mir_law_coin (DL.refR 0 (DL.consR (DL.cE (.int 5)) DL.nilR))))
def s_tr_4 : DL.M DL.Out := (DL.asgM 4 (DL.lstE (DL.consA (DL.cE .none) (DL.consA (DL.cE (.int 5)) (DL.consA (DL.tupE DL.nilA) (DL.consA (DL.lstE DL.nilA) (DL.consA (DL.tupE (DL.consA (DL.tupE (DL.consA (DL.cE (.int 0)) (DL.consA (DL.cE (.int 0)) DL.nilA))) (DL.consA (DL.tupE (DL.consA (DL.cE (.int 4)) (DL.consA (DL.cE (.int 0)) DL.nilA))) DL.nilA))) (DL.consA (DL.lstE (DL.consA (DL.tupE (DL.consA (DL.cE (.int 0)) (DL.consA (DL.cE (.int 0)) DL.nilA))) (DL.consA (DL.tupE (DL.consA (DL.cE (.int 4)) (DL.consA (DL.cE (.int 0)) DL.nilA))) (DL.consA (DL.tupE (DL.consA (DL.cE (.int 2)) (DL.consA (DL.cE (.int 2)) DL.nilA))) DL.nilA)))) (DL.consA (DL.tupE (DL.consA (DL.tupE (DL.consA (DL.cE (.int 0)) (DL.consA (DL.cE (.int 0)) DL.nilA))) (DL.consA (DL.tupE (DL.consA (DL.cE (.int 4)) (DL.consA (DL.cE (.int 0)) DL.nilA))) (DL.consA (DL.tupE (DL.consA (DL.cE (.int 9)) (DL.consA (DL.cE (.int 9)) DL.nilA))) DL.nilA)))) DL.nilA)))))))))
def s_tr_5 : DL.M DL.Out := (DL.asgM 4 (DL.op2 DL.opAdd (DL.vK 4) (DL.kE (DL.lstE (DL.consA (DL.tupE (DL.consA (DL.tupE (DL.consA (DL.cE (.int 0)) (DL.consA (DL.cE (.int 0)) DL.nilA))) (DL.consA (DL.tupE (DL.consA (DL.cE (.int 2)) (DL.consA (DL.cE (.int 2)) DL.nilA))) (DL.consA (DL.tupE (DL.consA (DL.cE (.int 4)) (DL.consA (DL.cE (.int 4)) DL.nilA))) DL.nilA)))) (DL.consA (DL.tupE (DL.consA (DL.tupE (DL.consA (DL.cE (.int 0)) (DL.consA (DL.cE (.int 0)) DL.nilA))) (DL.consA (DL.tupE (DL.consA (DL.cE (.int 0)) (DL.consA (DL.cE (.int 0)) DL.nilA))) (DL.consA (DL.tupE (DL.consA (DL.cE (.int 2)) (DL.consA (DL.cE (.int 2)) DL.nilA))) DL.nilA)))) (DL.consA (DL.cE (.str "abc")) (DL.consA (DL.tupE (DL.consA (DL.tupE (DL.consA (DL.cE (.int 0)) (DL.consA (DL.cE (.int 0)) DL.nilA))) (DL.consA (DL.tupE (DL.consA (DL.cE (.int 4)) (DL.consA (DL.cE (.int 0)) DL.nilA))) (DL.consA (DL.lstE (DL.consA (DL.cE (.int 2)) (DL.consA (DL.cE (.int 2)) DL.nilA))) DL.nilA)))) DL.nilA))))))))
def s_tr_6 : DL.M DL.Out := (DL.asgM 5 (DL.callS mir_law_deep))
def s_tr_7 : DL.M DL.Out := (DL.asgM 6 (DL.lentE mir_law_pick (DL.refR 0 (DL.consR (DL.op2 DL.opAdd (DL.vK 4) (DL.kE (DL.lstE (DL.consA (DL.vE 5) (DL.consA (DL.tupE (DL.consA (DL.tupE (DL.consA (DL.cE (.int 0)) (DL.consA (DL.cE (.int 0)) DL.nilA))) (DL.consA (DL.vE 5) (DL.consA (DL.tupE (DL.consA (DL.cE (.int 2)) (DL.consA (DL.cE (.int 2)) DL.nilA))) DL.nilA)))) DL.nilA))))) DL.nilR))))
def s_tr_8 : DL.M DL.Out := (DL.asgM 7 (DL.lstE (DL.consA (DL.tupE (DL.consA (DL.op2 DL.opAdd (DL.kE (DL.op2 DL.opAdd (DL.kE (DL.slE (DL.vK 11) DL.noO (DL.someO (DL.vK 3)))) (DL.kE (DL.lstE (DL.consA (DL.vE 6) DL.nilA))))) (DL.kE (DL.slE (DL.vK 11) (DL.someO (DL.vK 3)) DL.noO))) (DL.consA (DL.vE 3) DL.nilA))) (DL.consA (DL.tupE (DL.consA (DL.cE .none) (DL.consA (DL.op1 DL.opNeg (DL.kE (DL.cE (.int 1)))) DL.nilA))) (DL.consA (DL.tupE (DL.consA (DL.cbE DL.opTuple (DL.consP (DL.vK 11) DL.nilP)) (DL.consA (DL.op1 DL.opNeg (DL.kE (DL.cE (.int 1)))) DL.nilA))) (DL.consA (DL.tupE (DL.consA (DL.cE (.str "four")) (DL.consA (DL.op1 DL.opNeg (DL.kE (DL.cE (.int 1)))) DL.nilA))) (DL.consA (DL.tupE (DL.consA (DL.cE DL.dDct) (DL.consA (DL.op1 DL.opNeg (DL.kE (DL.cE (.int 1)))) DL.nilA))) DL.nilA)))))))
def s_tr_9 : DL.M DL.Out := (DL.asgM 7 (DL.op2 DL.opAdd (DL.vK 7) (DL.kE (DL.lstE (DL.consA (DL.tupE (DL.consA (DL.noX (DL.makeE 0 mir_Subdivision_init (DL.consA (DL.vE 12) DL.nilA))) (DL.consA (DL.op1 DL.opNeg (DL.kE (DL.cE (.int 1)))) DL.nilA))) (DL.consA (DL.tupE (DL.consA (DL.makeS 1 mir_Desk_init) (DL.consA (DL.op1 DL.opNeg (DL.kE (DL.cE (.int 1)))) DL.nilA))) DL.nilA))))))
def s_tr_10 : DL.M DL.Out := (DL.asgM 7 (DL.op2 DL.opAdd (DL.vK 7) (DL.kE (DL.lstE (DL.consA (DL.tupE (DL.consA (DL.slE (DL.vK 11) DL.noO (DL.someO (DL.kE (DL.cE (.int 3))))) (DL.consA (DL.cE (.int 3)) DL.nilA))) (DL.consA (DL.tupE (DL.consA (DL.lstE DL.nilA) (DL.consA (DL.cE (.int 0)) DL.nilA))) (DL.consA (DL.tupE (DL.consA (DL.op2 DL.opAdd (DL.vK 11) (DL.kE (DL.slE (DL.vK 11) DL.noO (DL.someO (DL.kE (DL.cE (.int 1))))))) (DL.consA (DL.cE (.int 5)) DL.nilA))) DL.nilA)))))))
def s_tr_11 : DL.M DL.Out := (DL.dropM (DL.mtE DL.opAppend 7 (DL.tupE (DL.consA (DL.lstE (DL.consA (DL.tupE (DL.consA (DL.tupE (DL.consA (DL.cE (.int 0)) (DL.consA (DL.cE (.int 0)) DL.nilA))) (DL.consA (DL.tupE (DL.consA (DL.cE (.int 4)) (DL.consA (DL.cE (.int 0)) DL.nilA))) (DL.consA (DL.tupE (DL.consA (DL.cE (.int 4)) (DL.consA (DL.cE (.int 4)) DL.nilA))) DL.nilA)))) (DL.consA (DL.tupE (DL.consA (DL.tupE (DL.consA (DL.cE (.int 0)) (DL.consA (DL.cE (.int 0)) DL.nilA))) (DL.consA (DL.tupE (DL.consA (DL.cE (.int 4)) (DL.consA (DL.cE (.int 4)) DL.nilA))) (DL.consA (DL.tupE (DL.consA (DL.cE (.int 0)) (DL.consA (DL.cE (.int 4)) DL.nilA))) DL.nilA)))) DL.nilA))) (DL.consA (DL.cE (.int 2)) DL.nilA)))))
def s_tr_12 : DL.M DL.Out := (DL.dropM (DL.mtE DL.opAppend 7 (DL.tupE (DL.consA (DL.lstE (DL.consA (DL.tupE (DL.consA (DL.tupE (DL.consA (DL.cE (.int 0)) (DL.consA (DL.cE (.int 0)) DL.nilA))) (DL.consA (DL.tupE (DL.consA (DL.cE (.int 4)) (DL.consA (DL.cE (.int 0)) DL.nilA))) (DL.consA (DL.tupE (DL.consA (DL.cE (.int 4)) (DL.consA (DL.cE (.int 4)) DL.nilA))) DL.nilA)))) (DL.consA (DL.tupE (DL.consA (DL.tupE (DL.consA (DL.cE (.int 0)) (DL.consA (DL.cE (.int 0)) DL.nilA))) (DL.consA (DL.tupE (DL.consA (DL.cE (.int 2)) (DL.consA (DL.cE (.int 2)) DL.nilA))) (DL.consA (DL.tupE (DL.consA (DL.cE (.int 0)) (DL.consA (DL.cE (.int 4)) DL.nilA))) DL.nilA)))) (DL.consA (DL.tupE (DL.consA (DL.tupE (DL.consA (DL.cE (.int 0)) (DL.consA (DL.cE (.int 4)) DL.nilA))) (DL.consA (DL.tupE (DL.consA (DL.cE (.int 2)) (DL.consA (DL.cE (.int 2)) DL.nilA))) (DL.consA (DL.tupE (DL.consA (DL.cE (.int 4)) (DL.consA (DL.cE (.int 4)) DL.nilA))) DL.nilA)))) DL.nilA)))) (DL.consA (DL.cE (.int 3)) DL.nilA)))))
def s_tr_13 : DL.M DL.Out := (DL.dropM (DL.mtE DL.opAppend 7 (DL.tupE (DL.consA (DL.op2 DL.opAdd (DL.kE (DL.slE (DL.vK 11) DL.noO (DL.someO (DL.kE (DL.cE (.int 3)))))) (DL.kE (DL.lstE (DL.consA (DL.tupE (DL.consA (DL.tupE (DL.consA (DL.cE (.int 0)) (DL.consA (DL.cE (.int 4)) DL.nilA))) (DL.consA (DL.tupE (DL.consA (DL.cE (.int 0)) (DL.consA (DL.cE (.int 0)) DL.nilA))) (DL.consA (DL.tupE (DL.consA (DL.cE (.int 4)) (DL.consA (DL.cE (.int 0)) DL.nilA))) DL.nilA)))) DL.nilA)))) (DL.consA (DL.cE (.int 4)) DL.nilA)))))
def s_tr_14 : DL.M DL.Out := (DL.forM (DL.itE (DL.vE 7)) (DL.unlG 2 (DL.consG (DL.nmG 8) (DL.consG (DL.nmG 9) DL.nilG)))
 (DL.ifM (DL.tE (DL.op2 DL.opNe (DL.kE (DL.callE mir_law_all_say (DL.consA (DL.vE 12) (DL.consA (DL.vE 8) DL.nilA)))) (DL.kE (DL.op2 DL.opMul (DL.kE (DL.lstE (DL.consA (DL.tupE (DL.consA (DL.cE (.str "triangles")) (DL.consA (DL.vE 9) DL.nilA))) DL.nilA))) (DL.kE (DL.cE (.int 4)))))))
 (DL.retM (DL.cE (.bool false)))
 DL.nxM))
def s_tr_15 : DL.M DL.Out := (DL.asgM 4 (DL.lstE (DL.consA (DL.tupE (DL.consA (DL.tupE (DL.consA (DL.cE (.int 2)) (DL.consA (DL.cE (.int 2)) DL.nilA))) (DL.consA (DL.tupE (DL.consA (DL.cE (.int 0)) (DL.consA (DL.cE (.int 0)) DL.nilA))) DL.nilA))) (DL.consA (DL.tupE (DL.consA (DL.tupE (DL.consA (DL.cE (.int 0)) (DL.consA (DL.cE (.int 0)) DL.nilA))) (DL.consA (DL.tupE (DL.consA (DL.cE (.int 4)) (DL.consA (DL.cE (.int 0)) DL.nilA))) DL.nilA))) (DL.consA (DL.tupE (DL.consA (DL.tupE (DL.consA (DL.cE (.int 0)) (DL.consA (DL.cE (.int 0)) DL.nilA))) (DL.consA (DL.tupE (DL.consA (DL.cE (.int 4)) (DL.consA (DL.cE (.int 4)) DL.nilA))) DL.nilA))) (DL.consA (DL.lstE (DL.consA (DL.tupE (DL.consA (DL.cE (.int 0)) (DL.consA (DL.cE (.int 0)) DL.nilA))) (DL.consA (DL.tupE (DL.consA (DL.cE (.int 2)) (DL.consA (DL.cE (.int 2)) DL.nilA))) DL.nilA))) (DL.consA (DL.tupE (DL.consA (DL.tupE (DL.consA (DL.cE (.int 0)) (DL.consA (DL.cE (.int 0)) DL.nilA))) DL.nilA)) (DL.consA (DL.tupE (DL.consA (DL.tupE (DL.consA (DL.cE (.int 0)) (DL.consA (DL.cE (.int 0)) DL.nilA))) (DL.consA (DL.tupE (DL.consA (DL.cE (.int 3)) (DL.consA (DL.cE (.int 3)) DL.nilA))) DL.nilA))) (DL.consA (DL.cE (.int 5)) DL.nilA)))))))))
def s_tr_16 : DL.M DL.Out := (DL.forM (DL.itE (DL.op2 DL.opAdd (DL.vK 4) (DL.kE (DL.lstE (DL.consA (DL.vE 5) (DL.consA (DL.tupE (DL.consA (DL.vE 5) (DL.consA (DL.tupE (DL.consA (DL.cE (.int 0)) (DL.consA (DL.cE (.int 0)) DL.nilA))) DL.nilA))) DL.nilA)))))) (DL.nmG 10)
 (DL.ifM (DL.tE (DL.op2 DL.opNe (DL.kE (DL.saidM hd_law (DL.callE mir_flipped (DL.consA (DL.vE 12) (DL.consA (DL.vE 11) (DL.consA (DL.vE 10) DL.nilA)))))) (DL.kE (DL.cE (.str "edge")))))
 (DL.retM (DL.cE (.bool false)))
 DL.nxM))
def s_tr_17 : DL.M DL.Out := (DL.retM (DL.cE (.bool true)))
theorem s_tr_eq : bod_law_triangles_right = (DL.seqM s_tr_0 (DL.seqM s_tr_1 (DL.seqM s_tr_2 (DL.seqM s_tr_3 (DL.seqM s_tr_4 (DL.seqM s_tr_5 (DL.seqM s_tr_6 (DL.seqM s_tr_7 (DL.seqM s_tr_8 (DL.seqM s_tr_9 (DL.seqM s_tr_10 (DL.seqM s_tr_11 (DL.seqM s_tr_12 (DL.seqM s_tr_13 (DL.seqM s_tr_14 (DL.seqM s_tr_15 (DL.seqM s_tr_16 s_tr_17))))))))))))))))) := rfl
def wT : DL.M (List DL.D) := (DL.itE (DL.vE 7))
def gT : DL.D → DL.Ev → Option DL.Ev := (DL.unlG 2 (DL.consG (DL.nmG 8) (DL.consG (DL.nmG 9) DL.nilG)))
def fT : DL.M DL.Out := (DL.ifM (DL.tE (DL.op2 DL.opNe (DL.kE (DL.callE mir_law_all_say (DL.consA (DL.vE 12) (DL.consA (DL.vE 8) DL.nilA)))) (DL.kE (DL.op2 DL.opMul (DL.kE (DL.lstE (DL.consA (DL.tupE (DL.consA (DL.cE (.str "triangles")) (DL.consA (DL.vE 9) DL.nilA))) DL.nilA))) (DL.kE (DL.cE (.int 4)))))))
 (DL.retM (DL.cE (.bool false)))
 DL.nxM)
theorem tr14_eq : s_tr_14 = DL.forM wT gT fT := rfl
open DL PySem
def st2 (x y : Int) : D := .tuple [.int x, .int y]
def GOOD : List D := [st2 0 0, st2 4 0, st2 0 4, st2 4 4, st2 2 2]
def FOUR : List D := [.tuple [st2 0 0, st2 4 0, st2 2 2], .tuple [st2 4 0, st2 4 4, st2 2 2], .tuple [st2 4 4, st2 0 4, st2 2 2], .tuple [st2 0 4, st2 0 0, st2 2 2]]
def P3 (a b c : Int) : List D := [.int a, .int b, .int c]
def DEEPN : Nat → D
  | 0 => .tuple [.int 1]
  | n + 1 => .tuple [DEEPN n]
def DEEP : D := DEEPN 1990
theorem deep_ok : mir_law_deep [] = .ok (.d DEEP, .un) := by kernel_rfl
def SOME : List D := [.none, .int 5, .tuple [], .list [], .tuple [st2 0 0, st2 4 0], .list [st2 0 0, st2 4 0, st2 2 2], .tuple [st2 0 0, st2 4 0, st2 9 9], .tuple [st2 0 0, st2 2 2, st2 4 4], .tuple [st2 0 0, st2 0 0, st2 2 2], .str "abc", .tuple [st2 0 0, st2 4 0, .list [.int 2, .int 2]]]
def ODDS : List D := SOME ++ [DEEP, .tuple [st2 0 0, DEEP, st2 2 2]]
abbrev eT (P : List D) (s3 s4 s5 s6 s7 s8 s9 s10 : Slot) : Ev := [.b P, .d (st2 0 4), .d (st2 0 0), s3, s4, s5, s6, s7, s8, s9, s10, .d (.list FOUR), .d (.list GOOD)]
theorem tA (a b c : Int) : (seqM s_tr_0 (seqM s_tr_1 s_tr_2)) [.b (P3 a b c), .un, .un, .un, .un, .un, .un, .un, .un, .un, .un, .un, .un] = .ok (.nx, eT (P3 a b c) .un .un .un .un .un .un .un .un) := by kernel_rfl
theorem tB (a b c : Int) (s3 : Slot) : (seqM s_tr_4 (seqM s_tr_5 s_tr_6)) (eT (P3 a b c) s3 .un .un .un .un .un .un .un) = .ok (.nx, eT (P3 a b c) s3 (.o SOME) (.d DEEP) .un .un .un .un .un) := by kernel_rfl
def tRows : M Out := seqM s_tr_8 (seqM s_tr_9 (seqM s_tr_10 (seqM s_tr_11 (seqM s_tr_12 s_tr_13))))
def row0 (r : Nat) (x : D) : D := .tuple [.list (FOUR.take r ++ [x] ++ FOUR.drop r), .int r]
def rowsT : List D := match ((evOf (tRows (eT (P3 0 0 0) (.d (.int 0)) (.o SOME) (.d DEEP) (.d .none) .un .un .un .un)))[7]? : Option Slot) with
  | some (.o (_ :: ys)) => ys
  | _ => []
theorem tD0 (a b c : Int) (x : D) : tRows (eT (P3 a b c) (.d (.int 0)) (.o SOME) (.d DEEP) (.d x) .un .un .un .un) = .ok (.nx, eT (P3 a b c) (.d (.int 0)) (.o SOME) (.d DEEP) (.d x) (.o (row0 0 x :: rowsT)) .un .un .un) := by kernel_rfl
theorem tD1 (a b c : Int) (x : D) : tRows (eT (P3 a b c) (.d (.int 1)) (.o SOME) (.d DEEP) (.d x) .un .un .un .un) = .ok (.nx, eT (P3 a b c) (.d (.int 1)) (.o SOME) (.d DEEP) (.d x) (.o (row0 1 x :: rowsT)) .un .un .un) := by kernel_rfl
theorem tD2 (a b c : Int) (x : D) : tRows (eT (P3 a b c) (.d (.int 2)) (.o SOME) (.d DEEP) (.d x) .un .un .un .un) = .ok (.nx, eT (P3 a b c) (.d (.int 2)) (.o SOME) (.d DEEP) (.d x) (.o (row0 2 x :: rowsT)) .un .un .un) := by kernel_rfl
theorem tD3 (a b c : Int) (x : D) : tRows (eT (P3 a b c) (.d (.int 3)) (.o SOME) (.d DEEP) (.d x) .un .un .un .un) = .ok (.nx, eT (P3 a b c) (.d (.int 3)) (.o SOME) (.d DEEP) (.d x) (.o (row0 3 x :: rowsT)) .un .un .un) := by kernel_rfl
theorem tD4 (a b c : Int) (x : D) : tRows (eT (P3 a b c) (.d (.int 4)) (.o SOME) (.d DEEP) (.d x) .un .un .un .un) = .ok (.nx, eT (P3 a b c) (.d (.int 4)) (.o SOME) (.d DEEP) (.d x) (.o (row0 4 x :: rowsT)) .un .un .un) := by kernel_rfl
/-- all four say so -/
def sayIs (h : D) (pl : D) : Bool := match mir_law_all_say [.d (.list GOOD), .d h] with
  | .ok (.o ys, _) => (match opNe (.list ys) (.list [.tuple [.str "triangles", pl], .tuple [.str "triangles", pl], .tuple [.str "triangles", pl], .tuple [.str "triangles", pl]]) with | some (.d (.bool false)) => true | _ => false)
  | _ => false
def rowIs : D → Bool
  | .tuple [h, pl] => sayIs h pl
  | _ => false
theorem rows_ok : rowsT.all rowIs = true := by kernel_rfl
theorem odd0 : ODDS.all (fun x => rowIs (row0 0 x)) = true := by kernel_rfl
theorem odd1 : ODDS.all (fun x => rowIs (row0 1 x)) = true := by kernel_rfl
theorem odd2 : ODDS.all (fun x => rowIs (row0 2 x)) = true := by kernel_rfl
theorem odd3 : ODDS.all (fun x => rowIs (row0 3 x)) = true := by kernel_rfl
theorem odd4 : ODDS.all (fun x => rowIs (row0 4 x)) = true := by kernel_rfl
def EDGES : List D := [.tuple [st2 2 2, st2 0 0], .tuple [st2 0 0, st2 4 0], .tuple [st2 0 0, st2 4 4], .list [st2 0 0, st2 2 2], .tuple [st2 0 0], .tuple [st2 0 0, st2 3 3], .int 5]
theorem tE1 (a b c : Int) (s3 s4 s5 s6 s7 s8 s9 : Slot) : s_tr_15 (eT (P3 a b c) s3 s4 s5 s6 s7 s8 s9 .un) = .ok (.nx, eT (P3 a b c) s3 (.o EDGES) s5 s6 s7 s8 s9 .un) := by kernel_rfl
theorem tE2 (a b c : Int) (r3 d6 d7 d8 d9 : D) : s_tr_16 (eT (P3 a b c) (.d r3) (.o EDGES) (.d DEEP) (.d d6) (.d d7) (.d d8) (.d d9) .un) = .ok (.nx, eT (P3 a b c) (.d r3) (.d (.list EDGES)) (.d DEEP) (.d d6) (.d d7) (.d d8) (.d d9) (.d (.tuple [DEEP, st2 0 0]))) := by kernel_rfl

end

end NC
namespace NC
section
variable {P : Program} {w : World} {K : PySem.W.Frag} {mg : Str → Option Value} {base : Heap} {W : List (Addr × Str)} {F : Int → Hp → Addr → Prop}
set_option maxRecDepth 100000
def s_law_0 : DL.M DL.Out := (DL.forM (DL.itE (DL.op2 DL.opAdd (DL.kE (DL.slE (DL.vK 0) DL.noO (DL.someO (DL.kE (DL.cE (.int 4)))))) (DL.kE (DL.lstE (DL.consA (DL.cE (.int 0)) DL.nilA))))) (DL.nmG 1)
 (DL.seqM (DL.asgM 2 (DL.callE mir_law_purse (DL.consA (DL.vE 1) DL.nilA)))
 (DL.forM (DL.rng1E (DL.consA (DL.cE (.int 4)) DL.nilA)) (DL.nmG 3)
 (DL.ifM (DL.notM (DL.trE (DL.kE (DL.lentE mir_law_triangles_right (DL.refR 2 DL.nilR)))))
 (DL.retM (DL.cE (.bool false)))
 DL.nxM))))
def s_law_1 : DL.M DL.Out := (DL.asgM 4 (DL.lstE (DL.consA (DL.tupE (DL.consA (DL.cE (.int 0)) (DL.consA (DL.cE (.int 0)) DL.nilA))) (DL.consA (DL.tupE (DL.consA (DL.cE (.int 2)) (DL.consA (DL.cE (.int 2)) DL.nilA))) (DL.consA (DL.tupE (DL.consA (DL.cE (.int 1)) (DL.consA (DL.cE (.int 1)) DL.nilA))) DL.nilA)))))
def s_law_2 : DL.M DL.Out := (DL.ifM (DL.tE (DL.op2 DL.opNe (DL.kE (DL.callE mir_law_all_say (DL.consA (DL.vE 4) (DL.consA (DL.lstE DL.nilA) DL.nilA)))) (DL.kE (DL.lstE (DL.consA (DL.cE .none) (DL.consA (DL.cE .none) (DL.consA (DL.cE .none) (DL.consA (DL.cE (.str "edge")) DL.nilA))))))))
 (DL.retM (DL.cE (.bool false)))
 DL.nxM)
def s_law_3 : DL.M DL.Out := (DL.ifM (DL.tE (DL.op2 DL.opNe (DL.kE (DL.saidM hd_law (DL.callE mir_flipped (DL.consA (DL.vE 4) (DL.consA (DL.lstE DL.nilA) (DL.consA (DL.tupE (DL.consA (DL.tupE (DL.consA (DL.cE (.int 0)) (DL.consA (DL.cE (.int 0)) DL.nilA))) (DL.consA (DL.tupE (DL.consA (DL.cE (.int 1)) (DL.consA (DL.cE (.int 1)) DL.nilA))) DL.nilA))) DL.nilA)))))) (DL.kE (DL.cE (.str "edge")))))
 (DL.retM (DL.cE (.bool false)))
 DL.nxM)
def s_law_4 : DL.M DL.Out := (DL.retM (DL.andV (DL.callS mir_law_sites_right) (DL.op2 DL.opEq (DL.kE (DL.saidM hd_law (DL.callE mir_volume (DL.consA (DL.vE 4) (DL.consA (DL.lstE (DL.consA (DL.cE .none) DL.nilA)) DL.nilA))))) (DL.kE (DL.tupE (DL.consA (DL.cE (.str "triangles")) (DL.consA (DL.cE (.int 0)) DL.nilA)))))))
theorem s_law_eq : bod_law = (DL.seqM s_law_0 (DL.seqM s_law_1 (DL.seqM s_law_2 (DL.seqM s_law_3 s_law_4)))) := rfl
def lw_law : DL.M (List DL.D) := (DL.itE (DL.op2 DL.opAdd (DL.kE (DL.slE (DL.vK 0) DL.noO (DL.someO (DL.kE (DL.cE (.int 4)))))) (DL.kE (DL.lstE (DL.consA (DL.cE (.int 0)) DL.nilA)))))
def lb_0 : DL.M DL.Out := (DL.asgM 2 (DL.callE mir_law_purse (DL.consA (DL.vE 1) DL.nilA)))
def lb_1 : DL.M DL.Out := (DL.forM (DL.rng1E (DL.consA (DL.cE (.int 4)) DL.nilA)) (DL.nmG 3)
 (DL.ifM (DL.notM (DL.trE (DL.kE (DL.lentE mir_law_triangles_right (DL.refR 2 DL.nilR)))))
 (DL.retM (DL.cE (.bool false)))
 DL.nxM))
def lt_law : DL.M DL.Out := (DL.ifM (DL.notM (DL.trE (DL.kE (DL.lentE mir_law_triangles_right (DL.refR 2 DL.nilR)))))
 (DL.retM (DL.cE (.bool false)))
 DL.nxM)
theorem l0_eq : s_law_0 = DL.forM lw_law (DL.nmG 1) (DL.seqM lb_0 lb_1) := rfl
theorem lb1_eq : lb_1 = DL.forM (DL.rng1E (DL.consA (DL.cE (.int 4)) DL.nilA)) (DL.nmG 3) lt_law := rfl
open DL PySem
theorem seqA (f g h : M Out) : seqM (seqM f g) h = seqM f (seqM g h) := by
  funext ρ
  unfold seqM
  cases f ρ with
  | no => rfl
  | exc c x => rfl
  | ok z =>
    obtain ⟨o, ρ'⟩ := z
    cases o <;> rfl
theorem fT_row {row : D} (h : rowIs row = true) (P : List D) (s3 s4 s5 s6 s7 s8 s9 s10 : Slot) : ∃ h' pl, gT row (eT P s3 s4 s5 s6 s7 s8 s9 s10) = some (eT P s3 s4 s5 s6 s7 (.d h') (.d pl) s10) ∧ fT (eT P s3 s4 s5 s6 s7 (.d h') (.d pl) s10) = .ok (.nx, eT P s3 s4 s5 s6 s7 (.d h') (.d pl) s10) := by
  unfold rowIs at h
  split at h
  · rename_i hd pl
    refine ⟨hd, pl, rfl, ?_⟩
    unfold sayIs at h
    split at h
    · rename_i ys s' e
      split at h
      · rename_i e2
        have m : opMul (.list [.tuple [.str "triangles", pl]]) (.int 4) = some (.o [.tuple [.str "triangles", pl], .tuple [.str "triangles", pl], .tuple [.str "triangles", pl], .tuple [.str "triangles", pl]]) := by rfl
        unfold eT
        generalize GOOD = GG at *
        generalize FOUR = FF at *
        simp [fT, ifM, tE, op2, kE, callE, consA, nilA, vE, cE, lstE, tupE, sE, fz, lf, DL.bd, DL.ret, rdP, rdS, e, m, e2, nxM]
      · cases h
    · cases h
  · cases h
theorem t_loop (P : List D) (s3 s4 s5 s6 s7 s10 : Slot) : ∀ (rows : List D) (row : D) (s8 s9 : Slot), (row :: rows).all rowIs = true → ∃ d8 d9, forL gT fT (row :: rows) (eT P s3 s4 s5 s6 s7 s8 s9 s10) = .ok (.nx, eT P s3 s4 s5 s6 s7 (.d d8) (.d d9) s10)
  | rows, row, s8, s9, h => by
    obtain ⟨h1, h2⟩ := Bool.and_eq_true_iff.mp (show (rowIs row && rows.all rowIs) = true from h)
    obtain ⟨hd, pl, e1, e2⟩ := fT_row h1 P s3 s4 s5 s6 s7 s8 s9 s10
    have e3 : ∃ d8 d9, forL gT fT rows (eT P s3 s4 s5 s6 s7 (.d hd) (.d pl) s10) = .ok (.nx, eT P s3 s4 s5 s6 s7 (.d d8) (.d d9) s10) := by
      match rows, h2 with
      | [], _ => exact ⟨hd, pl, rfl⟩
      | r2 :: rs, h2 => exact t_loop P s3 s4 s5 s6 s7 s10 rs r2 (.d hd) (.d pl) h2
    obtain ⟨d8, d9, e3⟩ := e3
    refine ⟨d8, d9, ?_⟩
    show (match gT row (eT P s3 s4 s5 s6 s7 s8 s9 s10) with | none => _ | some ρ1 => _) = _
    rw [e1]
    show (match fT (eT P s3 s4 s5 s6 s7 (.d hd) (.d pl) s10) with | .ok (.nx, ρ2) => _ | .ok (.ct, ρ2) => _ | .ok (.bk, ρ2) => _ | .ok (.rt s, ρ2) => _ | .exc x y => _ | .no => _) = _
    rw [e2]
    exact e3
termination_by rows => rows.length
theorem t_coin {a b c : Int} (ha : 0 ≤ a) (hb : 0 ≤ b ∧ b < 2147483563) (hc : 0 ≤ c ∧ c < 1000) : ∃ r a' c', s_tr_3 (eT (P3 a b c) .un .un .un .un .un .un .un .un) = .ok (.nx, eT (P3 a' b c') (.d (.int r)) .un .un .un .un .un .un .un) ∧ 0 ≤ r ∧ r < 5 ∧ 0 ≤ a' ∧ c ≤ c' ∧ c' ≤ c + 1 := by
  obtain ⟨r, a', c', e, h1, h2, h3⟩ := coin_ok a b c 5 ha hb (by omega) (by omega) (by omega)
  refine ⟨r, a', c', ?_, h1, h2, h3⟩
  unfold P3 eT at *
  simp [s_tr_3, asgM, lentE, DL.bd, refR, consR, nilR, vK, vE, cE, sE, fz, lf, DL.ret, agsS, lend, e, give]
theorem t_pick {a b c : Int} (s3 : Slot) (ha : 0 ≤ a) (hb : 0 ≤ b ∧ b < 2147483563) (hc : 0 ≤ c ∧ c < 2000) : ∃ x a' c', s_tr_7 (eT (P3 a b c) s3 (.o SOME) (.d DEEP) .un .un .un .un .un) = .ok (.nx, eT (P3 a' b c') s3 (.o SOME) (.d DEEP) (.d x) .un .un .un .un) ∧ x ∈ ODDS ∧ 0 ≤ a' ∧ c ≤ c' ∧ c' ≤ c + 1 := by
  have l13 : ODDS.length = 13 := rfl
  obtain ⟨r, a', c', x, e, h1, h2, h3⟩ := pick_ok a b c ODDS ha hb (by omega) (by rw [l13]; decide) (by rw [l13]; decide)
  refine ⟨x, a', c', ?_, List.mem_of_getElem? h2, h3⟩
  have hl : lenOk (SOME.length + 2) = true := rfl
  have ho : SOME ++ [DEEP, .tuple [st2 0 0, DEEP, st2 2 2]] = ODDS := rfl
  unfold P3 eT at *
  generalize ODDS = OO at *
  generalize SOME = SS at *
  generalize DEEP = DD at *
  generalize FOUR = FF at *
  generalize GOOD = GG at *
  unfold st2 at *
  simp [s_tr_7, asgM, lentE, DL.bd, refR, consR, nilR, op2, opAdd, kE, lstE, tupE, consA, nilA, vK, vE, cE, sE, fz, lf, DL.ret, rdP, rdS, agsS, lend, hl, ho, e, give]
theorem t_rows {r : Int} (h0 : 0 ≤ r) (h5 : r < 5) (a b c : Int) {x : D} (hx : x ∈ ODDS) : ∃ row, rowIs row = true ∧ tRows (eT (P3 a b c) (.d (.int r)) (.o SOME) (.d DEEP) (.d x) .un .un .un .un) = .ok (.nx, eT (P3 a b c) (.d (.int r)) (.o SOME) (.d DEEP) (.d x) (.o (row :: rowsT)) .un .un .un) := by
  have : r = 0 ∨ r = 1 ∨ r = 2 ∨ r = 3 ∨ r = 4 := by omega
  rcases this with rfl | rfl | rfl | rfl | rfl
  · exact ⟨_, List.all_eq_true.mp odd0 x hx, tD0 a b c x⟩
  · exact ⟨_, List.all_eq_true.mp odd1 x hx, tD1 a b c x⟩
  · exact ⟨_, List.all_eq_true.mp odd2 x hx, tD2 a b c x⟩
  · exact ⟨_, List.all_eq_true.mp odd3 x hx, tD3 a b c x⟩
  · exact ⟨_, List.all_eq_true.mp odd4 x hx, tD4 a b c x⟩
theorem tr_eq2 : bod_law_triangles_right = seqM (seqM s_tr_0 (seqM s_tr_1 s_tr_2)) (seqM s_tr_3 (seqM (seqM s_tr_4 (seqM s_tr_5 s_tr_6)) (seqM s_tr_7 (seqM tRows (seqM s_tr_14 (seqM s_tr_15 (seqM s_tr_16 s_tr_17))))))) := by
  rw [s_tr_eq]
  unfold tRows
  simp only [seqA]
theorem seven {f1 f2 f3 f4 f5 f6 f7 f8 f9 : M Out} {a0 a1 a2 a3 a4 a5 a6 a7 a8 : Ev} {z : R (Out × Ev)} (h1 : f1 a0 = .ok (.nx, a1)) (h2 : f2 a1 = .ok (.nx, a2)) (h3 : f3 a2 = .ok (.nx, a3)) (h4 : f4 a3 = .ok (.nx, a4)) (h5 : f5 a4 = .ok (.nx, a5)) (h6 : f6 a5 = .ok (.nx, a6)) (h7 : f7 a6 = .ok (.nx, a7)) (h8 : f8 a7 = .ok (.nx, a8)) (h9 : f9 a8 = z) : seqM f1 (seqM f2 (seqM f3 (seqM f4 (seqM f5 (seqM f6 (seqM f7 (seqM f8 f9))))))) a0 = z := by
  rw [seq_of h1, seq_of h2, seq_of h3, seq_of h4, seq_of h5, seq_of h6, seq_of h7, seq_of h8, h9]
theorem tZ (ρ : Ev) : s_tr_17 ρ = .ok (.rt (.d (.bool true)), ρ) := rfl
theorem t14_of (P : List D) (r x DD : D) (SM rows : List D) (row : D) (h : (row :: rows).all rowIs = true) : ∃ d8 d9, s_tr_14 (eT P (.d r) (.o SM) (.d DD) (.d x) (.o (row :: rows)) .un .un .un) = .ok (.nx, eT P (.d r) (.o SM) (.d DD) (.d x) (.d (.list (row :: rows))) (.d d8) (.d d9) .un) := by
  obtain ⟨d8, d9, e⟩ := t_loop P (.d r) (.o SM) (.d DD) (.d x) (.d (.list (row :: rows))) .un rows row .un .un h
  refine ⟨d8, d9, ?_⟩
  rw [tr14_eq]
  have hw : wT (eT P (.d r) (.o SM) (.d DD) (.d x) (.o (row :: rows)) .un .un .un) = .ok (row :: rows, eT P (.d r) (.o SM) (.d DD) (.d x) (.d (.list (row :: rows))) .un .un .un) := by kernel_rfl
  unfold DL.forM DL.bd
  rw [hw]
  exact e
theorem all_of {row : D} (hr : rowIs row = true) : (row :: rowsT).all rowIs = true := by
  have := rows_ok
  generalize rowsT = R at *
  rw [List.all_cons, hr, this]
  rfl
theorem bod_ok (a b c : Int) (ha : 0 ≤ a) (hb : 0 ≤ b ∧ b < 2147483563) (hc : 0 ≤ c ∧ c < 1000) : ∃ a' c' r3 d6 d7 d8 d9, bod_law_triangles_right [.b (P3 a b c), .un, .un, .un, .un, .un, .un, .un, .un, .un, .un, .un, .un] = .ok (.rt (.d (.bool true)), eT (P3 a' b c') (.d r3) (.d (.list EDGES)) (.d DEEP) (.d d6) (.d d7) (.d d8) (.d d9) (.d (.tuple [DEEP, st2 0 0]))) ∧ 0 ≤ a' ∧ c ≤ c' ∧ c' ≤ c + 2 := by
  obtain ⟨r, a1, c1, e1, r0, r5, ha1, hc1, hc2⟩ := t_coin ha hb hc
  obtain ⟨x, a2, c2, e2, hx, ha2, hc3, hc4⟩ := t_pick (.d (.int r)) ha1 hb (show 0 ≤ c1 ∧ c1 < 2000 by omega)
  obtain ⟨row, hr, e3⟩ := t_rows r0 r5 a2 b c2 hx
  obtain ⟨d8, d9, e4⟩ := t14_of (P3 a2 b c2) (.int r) x DEEP SOME rowsT row (all_of hr)
  have e5 := tE1 a2 b c2 (.d (.int r)) (.o SOME) (.d DEEP) (.d x) (.d (.list (row :: rowsT))) (.d d8) (.d d9)
  have e6 := tE2 a2 b c2 (.int r) x (.list (row :: rowsT)) d8 d9
  have e0 := tA a b c
  have eB := tB a1 b c1 (.d (.int r))
  refine ⟨a2, c2, .int r, x, .list (row :: rowsT), d8, d9, ?_, ha2, by omega, by omega⟩
  rw [tr_eq2]
  clear hr hx
  generalize rowsT = RR at *
  generalize DEEP = DD at *
  generalize SOME = SS at *
  generalize EDGES = EE at *
  generalize GOOD = GG at *
  generalize FOUR = FF at *
  exact seven e0 e1 eB e2 e3 e4 e5 e6 (tZ _)
theorem right_ok (a b c : Int) (ha : 0 ≤ a) (hb : 0 ≤ b ∧ b < 2147483563) (hc : 0 ≤ c ∧ c < 1000) : ∃ a' c', mir_law_triangles_right [.b (P3 a b c)] = .ok (.d (.bool true), .b (P3 a' b c')) ∧ 0 ≤ a' ∧ c ≤ c' ∧ c' ≤ c + 2 := by
  obtain ⟨a', c', r3, d6, d7, d8, d9, e, h⟩ := bod_ok a b c ha hb hc
  refine ⟨a', c', ?_, h⟩
  generalize DEEP = DD at *
  generalize EDGES = EE at *
  generalize GOOD = GG at *
  generalize FOUR = FF at *
  unfold mir_law_triangles_right
  rw [runA_post]
  show postA _ (bod_law_triangles_right [.b (P3 a b c), .un, .un, .un, .un, .un, .un, .un, .un, .un, .un, .un, .un]) = _
  rw [e]
  rfl
/-! ### the law -/
theorem lt_ok {X Y Z : D} {a b c : Int} (ha : 0 ≤ a) (hb : 0 ≤ b ∧ b < 2147483563) (hc : 0 ≤ c ∧ c < 1000) (s4 : Slot) : ∃ a' c', lt_law [.d X, .d Y, .o (P3 a b c), .d Z, s4] = .ok (.nx, [.d X, .d Y, .o (P3 a' b c'), .d Z, s4]) ∧ 0 ≤ a' ∧ c ≤ c' ∧ c' ≤ c + 2 := by
  obtain ⟨a', c', e, h⟩ := right_ok a b c ha hb hc
  refine ⟨a', c', ?_, h⟩
  unfold P3 at *
  simp [lt_law, ifM, DL.notM, trE, kE, lentE, refR, nilR, vK, fz, lf, DL.bd, DL.ret, agsS, lend, e, give, rdP, truD, nxM]
abbrev eL (X : D) (z : Int) (P : List D) : Ev := [.d X, .d (.int z), .o P, .d (.int 3), .un]
theorem lb_ok {X : D} {z : Int} {s2 s3 : Slot} : ∃ P, (seqM lb_0 lb_1) [.d X, .d (.int z), s2, s3, .un] = .ok (.nx, eL X z P) := by
  obtain ⟨a, b, e, ha, hb1, hb2⟩ := purse_ok z
  obtain ⟨a1, c1, e1, h1, k1, m1⟩ := lt_ok (X := X) (Y := .int z) (Z := .int 0) (c := 3) ha ⟨hb1, hb2⟩ (by omega) .un
  obtain ⟨a2, c2, e2, h2, k2, m2⟩ := lt_ok (X := X) (Y := .int z) (Z := .int 1) (c := c1) h1 ⟨hb1, hb2⟩ (by omega) .un
  obtain ⟨a3, c3, e3, h3, k3, m3⟩ := lt_ok (X := X) (Y := .int z) (Z := .int 2) (c := c2) h2 ⟨hb1, hb2⟩ (by omega) .un
  obtain ⟨a4, c4, e4, h4, k4, m4⟩ := lt_ok (X := X) (Y := .int z) (Z := .int 3) (c := c3) h3 ⟨hb1, hb2⟩ (by omega) .un
  refine ⟨P3 a4 b c4, ?_⟩
  have a0 : lb_0 [.d X, .d (.int z), s2, s3, .un] = .ok (.nx, [.d X, .d (.int z), .o (P3 a b 3), s3, .un]) := by
    unfold P3
    simp [lb_0, asgM, callE, consA, nilA, vE, sE, e, fz, lf, DL.bd, DL.ret]
  have hw : ∀ ρ : Ev, (DL.rng1E (DL.consA (DL.cE (.int 4)) DL.nilA)) ρ = .ok ([.int 0, .int 1, .int 2, .int 3], ρ) := fun ρ => by kernel_rfl
  rw [seq_of a0, lb1_eq]
  unfold DL.forM DL.bd
  rw [hw]
  simp [forL, nmG, e1, e2, e3, e4]
theorem l_w (ns : List Int) (hl : ns.length ≤ 63) (s1 s2 s3 s4 : Slot) : lw_law [.d (dScr (ns.map PyData.int)), s1, s2, s3, s4] = .ok ((cutD ns none (some 4) ++ [0]).map PyData.int, [.d (dScr (ns.map PyData.int)), s1, s2, s3, s4]) := by
  have h1 := cutD_len ns none (some 4)
  have h2 : lenOk ((cutD ns none (some 4)).length + 1) = true := by unfold lenOk; exact Nat.ble_eq_true_of_le (by omega)
  simp [lw_law, itE, op2, kE, slE, vK, noO, someO, cE, lstE, consA, nilA, sE, fz, lf, bd, DL.ret, rdP, rdS, opSl, opAdd, cutD_map, h2, seqD]
theorem l_fin (X : D) (z : Int) (P : List D) : isTrue (seqM s_law_1 (seqM s_law_2 (seqM s_law_3 s_law_4)) (eL X z P)) = true := by kernel_rfl
theorem law_true (ns : List Int) (hl : ns.length ≤ 63) (hb : ∀ z ∈ ns, Builtin.Int.intBits z ≤ 1048576) : DL.isTrue (bod_law (.d (DL.dScr (ns.map PyData.int)) :: List.replicate 4 .un)) = true := by
  rw [s_law_eq]
  have e1 : ∃ z P, s_law_0 [.d (dScr (ns.map PyData.int)), .un, .un, .un, .un] = .ok (.nx, eL (dScr (ns.map PyData.int)) z P) := by
    rw [l0_eq]
    unfold DL.forM DL.bd
    rw [l_w ns hl]
    show ∃ z P, forL (nmG 1) (seqM lb_0 lb_1) _ _ = _
    cases hc : cutD ns none (some 4) ++ [0] with
    | nil => simp at hc
    | cons z zs =>
      obtain ⟨P, e0⟩ := lb_ok (X := dScr (ns.map PyData.int)) (z := z) (s2 := .un) (s3 := .un)
      have := forL_all (g := nmG 1) (f := seqM lb_0 lb_1) (Iv := fun ρ => ∃ z P, ρ = eL (dScr (ns.map PyData.int)) z P) (xs := zs.map PyData.int) (ρ := eL (dScr (ns.map PyData.int)) z P) ⟨z, P, rfl⟩ (fun x hx ρ h => by
        obtain ⟨y, _, rfl⟩ := List.mem_map.mp hx
        obtain ⟨z, P, rfl⟩ := h
        obtain ⟨P', e⟩ := lb_ok (X := dScr (ns.map PyData.int)) (z := y) (s2 := .o P) (s3 := .d (.int 3))
        exact ⟨_, _, rfl, e, y, P', rfl⟩)
      obtain ⟨ρ', e, z', P', rfl⟩ := this
      refine ⟨z', P', ?_⟩
      show (match (seqM lb_0 lb_1) (([.d (dScr (ns.map PyData.int)), .un, .un, .un, .un] : Ev).set 1 (.d (.int z))) with | .ok (.nx, ρ2) => _ | .ok (.ct, ρ2) => _ | .ok (.bk, ρ2) => _ | .ok (.rt s, ρ2) => _ | .exc c x => _ | .no => _) = _
      show (match (seqM lb_0 lb_1) [.d (dScr (ns.map PyData.int)), .d (.int z), .un, .un, .un] with | .ok (.nx, ρ2) => _ | .ok (.ct, ρ2) => _ | .ok (.bk, ρ2) => _ | .ok (.rt s, ρ2) => _ | .exc c x => _ | .no => _) = _
      rw [e0]
      exact e
  obtain ⟨z, P, e1⟩ := e1
  show isTrue (seqM s_law_0 _ [.d (dScr (ns.map PyData.int)), .un, .un, .un, .un]) = true
  rw [seq_of e1]
  exact l_fin _ z P

end

end NC
namespace NC
section
variable {P : Program} {w : World} {K : PySem.W.Frag} {mg : Str → Option Value} {base : Heap} {W : List (Addr × Str)} {F : Int → Hp → Addr → Prop}
def sp_law (K : PySem.W.Frag) : Sp := fun vs H Q _ => ∃ (a : Addr) (ns : List Int), vs = [.ref a] ∧ SqL K H a (ns.map V.int) ∧ ns.length ≤ 63 ∧ (∀ z ∈ ns, Builtin.Int.intBits z ≤ 1048576) ∧ LamX.Tabs (tbs K) H ∧ ∀ H', Q (.bl true) H'
theorem bA_law (T : Tops K mg) (s : Shared) (v : Value) : BindsTo s T.fd_law ⟨[v], []⟩ [("_law_script", v)] := FunD.bindsA (ps := P_law) T.F_law (fun _ _ _ _ _ _ us hl => match us, hl with | [_], _ => rfl) s [v] rfl
theorem ok_law (T : Tops K mg) (tb_law_all_say : LamX.TabB base mg (He.cT K ("_law_all_say", none)).1 (He.cT K ("_law_all_say", none)).2) (tb_law_sites_right : LamX.TabB base mg (He.cT K ("_law_sites_right", none)).1 (He.cT K ("_law_sites_right", none)).2) (tb_law_triangles_right : LamX.TabB base mg (He.cT K ("_law_triangles_right", none)).1 (He.cT K ("_law_triangles_right", none)).2) (tb_law : LamX.TabB base mg (He.cT K ("law", none)).1 (He.cT K ("law", none)).2) : FnOk P w K mg base CX0 12 (He.ga K "law") T.fd_law P_law (sp_law K) := by
  refine T.F_law.okC (p := ("law", none)) rfl sc_law (fun vs H Q E h => ?_) (fun A outer s H vs Q E hr h => ?_)
  · obtain ⟨a, ns, rfl, _⟩ := h
    rfl
  obtain ⟨a, ns, rfl, hS, hlen, hbits, tt, q⟩ := h
  obtain ⟨F', hF1, hF2, hF3⟩ := DL.exF (fun _ _ _ => False) 400 [NCLam.IsLam (cxOf CX0 P w K mg base N_law "law" (defScope (top 65)) (He.ga K "law") (.ref (He.codeOf K ("law", none))) A outer s H E).nox (NCLam.lamP (NCLam.eAt (NCLam.eAt (NCLam.sExpr (NCLam.nth (defBody (top 65)) 3)) 0) 0)) (NCLam.lamB (NCLam.eAt (NCLam.eAt (NCLam.sExpr (NCLam.nth (defBody (top 65)) 3)) 0) 0)) (NCLam.lamS (NCLam.eAt (NCLam.eAt (NCLam.sExpr (NCLam.nth (defBody (top 65)) 3)) 0) 0)) [],
    NCLam.IsLam (cxOf CX0 P w K mg base N_law "law" (defScope (top 65)) (He.ga K "law") (.ref (He.codeOf K ("law", none))) A outer s H E).nox (NCLam.lamP (NCLam.eAt (NCLam.eAt (NCLam.eAt (NCLam.sExpr (NCLam.nth (defBody (top 65)) 4)) 1) 0) 0)) (NCLam.lamB (NCLam.eAt (NCLam.eAt (NCLam.eAt (NCLam.sExpr (NCLam.nth (defBody (top 65)) 4)) 1) 0) 0)) (NCLam.lamS (NCLam.eAt (NCLam.eAt (NCLam.eAt (NCLam.sExpr (NCLam.nth (defBody (top 65)) 4)) 1) 0) 0)) []] (fun k G a h => h.elim)
  refine ⟨_, PSs.nox ((pss_cons (ps_for PassesOwn.never rfl (DL.pi_seq K (pe_op (DL.op_addU K) (pe_slice (DL.sl_U K) (pv 0) po_none (po_some pe_int)) (pe_lst (pa_cons pe_int pa_nil)))) (pg_name (i := 1) sc_law.nd rfl (.inl rfl))
       (pss_cons (ps_set (i := 2) sc_law.nd rfl (.inl rfl) (pe_call (ok_law_purse (P := P) (w := w) (W := (tbs K)) (F := F') T) (hr.mono (by decide)) (by rfl) T.g_law_purse T.F_law_purse.kp (b_law_purse T) .nil (DL.passE (E := E)) (pa_cons (pv 1) pa_nil)))
       (pss_one (ps_for PassesOwn.never rfl (pi_range1 (by rfl) T.m_range (pa_cons pe_int pa_nil)) (pg_name (i := 3) sc_law.nd rfl (.inl rfl))
       (pss_one (ps_if (pt_not (pt_truth (pe_call (ok_law_triangles_right (P := P) (w := w) (F := F') T tb_law_triangles_right tb_law_all_say (fun k G a h => Int.le_trans (by decide) (hF2 k G a h))) (hr.mono (by decide)) (by rfl) T.g_law_triangles_right T.F_law_triangles_right.kp (b_law_triangles_right T) .nil (DL.passE (E := E)) (pa_cons (pv 2) pa_nil)) (by intro _; rfl)))
       (pss_one (ps_ret pe_bl))
       pss_nil))))))
       (pss_cons (ps_set (i := 4) sc_law.nd rfl (.inr rfl) (pe_lst (pa_cons (pe_tup (pa_cons pe_int (pa_cons pe_int pa_nil))) (pa_cons (pe_tup (pa_cons pe_int (pa_cons pe_int pa_nil))) (pa_cons (pe_tup (pa_cons pe_int (pa_cons pe_int pa_nil))) pa_nil)))))
       (pss_cons (ps_if (pt_cmpR (DL.op_neU K hr.units) (pe_call (ok_law_all_say (P := P) (w := w) (F := F') T tb_law_all_say (fun k G a h => Int.le_trans (by decide) (hF2 k G a h))) (hr.mono (by decide)) (by rfl) T.g_law_all_say T.F_law_all_say.kp (b_law_all_say T) .nil (DL.passE (E := E)) (pa_cons (pv 4) (pa_cons (pe_lst pa_nil) pa_nil))) (pe_lst (pa_cons pe_non (pa_cons pe_non (pa_cons pe_non (pa_cons pe_str pa_nil))))) (nomark _))
       (pss_one (ps_ret pe_bl))
       pss_nil)
       (pss_cons (ps_if (pt_cmpR (DL.op_neU K hr.units) (NCLam.pe_callL (kk := 8) (NCLam.acting0 (params := NCLam.lamP (NCLam.eAt (NCLam.eAt (NCLam.sExpr (NCLam.nth (defBody (top 65)) 3)) 0) 0)) (body := NCLam.lamB (NCLam.eAt (NCLam.eAt (NCLam.sExpr (NCLam.nth (defBody (top 65)) 3)) 0) 0)) (scope := NCLam.lamS (NCLam.eAt (NCLam.eAt (NCLam.sExpr (NCLam.nth (defBody (top 65)) 3)) 0) 0)) (k := 7) (fun _ => rfl) (NCLam.lamN_by (show NCLam.lamNB N_law (defScope (top 65)) _ = true by decide +kernel)) (fun _ _ _ => rfl) (fun B A outer s H E f c' hr => (pe_call (okx_flipped (P := P) (w := w) (W := (tbs K)) (F := F') T) (hr.mono (by decide)) (by rfl) T.g_flipped T.F_flipped.kp (b_flipped T) .nil (passes_call (takes_of rfl rfl rfl rfl) (fun _ _ _ _ h => h)) (pa_cons (pv 4) (pa_cons (pe_lst pa_nil) (pa_cons (pe_tup (pa_cons (pe_tup (pa_cons pe_int (pa_cons pe_int pa_nil))) (pa_cons (pe_tup (pa_cons pe_int (pa_cons pe_int pa_nil))) pa_nil))) pa_nil)))))) (fun base al ha => ok_law_said T ha) (hr.mono (by decide)) (by rfl) T.g_law_said T.F_law_said.kp (b_law_said T) (pa_cons (DL.pe_lamT (T := tbs K) tb_law rfl (mem_law K) (uniq_law T) (NCLam.lamN_by (show NCLam.lamNB N_law (defScope (top 65)) _ = true by decide +kernel)) rfl) pa_nil)) pe_str (nomark _))
       (pss_one (ps_ret pe_bl))
       pss_nil)
       (pss_one (ps_ret (pe_and (pe_call0 (ok_law_sites_right (P := P) (w := w) (F := F') T tb_law_sites_right tb_law_all_say (fun k G a h => Int.le_trans (by decide) (hF2 k G a h))) (hr.mono (by decide)) (by rfl) T.g_law_sites_right T.F_law_sites_right.kp (b_law_sites_right T) .nil (DL.passE (E := E))) (pe_one (pe_cmpR (DL.op_eqU K hr.units) (NCLam.pe_callL (kk := 8) (NCLam.acting0 (params := NCLam.lamP (NCLam.eAt (NCLam.eAt (NCLam.eAt (NCLam.sExpr (NCLam.nth (defBody (top 65)) 4)) 1) 0) 0)) (body := NCLam.lamB (NCLam.eAt (NCLam.eAt (NCLam.eAt (NCLam.sExpr (NCLam.nth (defBody (top 65)) 4)) 1) 0) 0)) (scope := NCLam.lamS (NCLam.eAt (NCLam.eAt (NCLam.eAt (NCLam.sExpr (NCLam.nth (defBody (top 65)) 4)) 1) 0) 0)) (k := 7) (fun _ => rfl) (NCLam.lamN_by (show NCLam.lamNB N_law (defScope (top 65)) _ = true by decide +kernel)) (fun _ _ _ => rfl) (fun B A outer s H E f c' hr => (pe_call (okx_volume (P := P) (w := w) (W := (tbs K)) (F := F') T) (hr.mono (by decide)) (by rfl) T.g_volume T.F_volume.kp (b_volume T) .nil (passes_call (takes_of rfl rfl rfl rfl) (fun _ _ _ _ h => h)) (pa_cons (pv 4) (pa_cons (pe_lst (pa_cons pe_non pa_nil)) pa_nil))))) (fun base al ha => ok_law_said T ha) (hr.mono (by decide)) (by rfl) T.g_law_said T.F_law_said.kp (b_law_said T) (pa_cons (DL.pe_lamT (T := tbs K) tb_law rfl (mem_law K) (uniq_law T) (NCLam.lamN_by (show NCLam.lamNB N_law (defScope (top 65)) _ = true by decide +kernel)) rfl) pa_nil)) (pe_tup (pa_cons pe_str (pa_cons pe_int pa_nil))) (nomark _))))))))))), ?_⟩
  exact DL.law_okS (T := kt K P w (tbs K) F') (E := E) (f := bod_law) (N := N_law) ((DL.ds_seq (DL.ds_for (DL.di_seq (DL.de_op DL.os_add (DL.dk_of (DL.de_sl (DL.dk_var 0) DL.do_none (DL.do_some (DL.dk_of (DL.de_c fun _ => .int 4))))) (DL.dk_of (DL.de_lst (DL.da_cons (DL.de_c fun _ => .int 0) DL.da_nil))))) (DL.dg_name 1)
       (DL.ds_seq (DL.ds_asg 2 (DL.de_call (DL.da_cons (DL.de_var 1) DL.da_nil) (DL.len_cons DL.len_nil)))
       (DL.ds_for (DL.di_rng1 (DL.da_cons (DL.de_c fun _ => .int 4) DL.da_nil)) (DL.dg_name 3)
       (DL.ds_if (DL.dt_not (DL.dt_truth (DL.dk_of (DL.de_lent (DL.dr_ref 2 DL.dr_nil) (DL.lenR_ref DL.lenR_nil)))))
       (DL.ds_ret (DL.de_c fun _ => .bl false))
       DL.ds_next))))
       (DL.ds_seq (DL.ds_asg 4 (DL.de_lst (DL.da_cons (DL.de_tup (DL.da_cons (DL.de_c fun _ => .int 0) (DL.da_cons (DL.de_c fun _ => .int 0) DL.da_nil))) (DL.da_cons (DL.de_tup (DL.da_cons (DL.de_c fun _ => .int 2) (DL.da_cons (DL.de_c fun _ => .int 2) DL.da_nil))) (DL.da_cons (DL.de_tup (DL.da_cons (DL.de_c fun _ => .int 1) (DL.da_cons (DL.de_c fun _ => .int 1) DL.da_nil))) DL.da_nil)))))
       (DL.ds_seq (DL.ds_if (DL.dt_of' (DL.de_op DL.os_ne (DL.dk_of (DL.de_call (DL.da_cons (DL.de_var 4) (DL.da_cons (DL.de_lst DL.da_nil) DL.da_nil)) (DL.len_cons (DL.len_cons DL.len_nil)))) (DL.dk_of (DL.de_lst (DL.da_cons (DL.de_c fun _ => .non) (DL.da_cons (DL.de_c fun _ => .non) (DL.da_cons (DL.de_c fun _ => .non) (DL.da_cons (DL.de_c fun _ => .str "edge") DL.da_nil))))))))
       (DL.ds_ret (DL.de_c fun _ => .bl false))
       DL.ds_next)
       (DL.ds_seq (DL.ds_if (DL.dt_of' (DL.de_op DL.os_ne (DL.dk_of (DL.de_said (fun al f H Q E h => ⟨f, rfl, h⟩) (said_ok (W := tbs K) (F := F') (P := P) (w := w)) (fun E => (DL.de_call (DL.da_cons (DL.de_var 4) (DL.da_cons (DL.de_lst DL.da_nil) (DL.da_cons (DL.de_tup (DL.da_cons (DL.de_tup (DL.da_cons (DL.de_c fun _ => .int 0) (DL.da_cons (DL.de_c fun _ => .int 0) DL.da_nil))) (DL.da_cons (DL.de_tup (DL.da_cons (DL.de_c fun _ => .int 1) (DL.da_cons (DL.de_c fun _ => .int 1) DL.da_nil))) DL.da_nil))) DL.da_nil))) (DL.len_cons (DL.len_cons (DL.len_cons DL.len_nil))))))) (DL.dk_of (DL.de_c fun _ => .str "edge"))))
       (DL.ds_ret (DL.de_c fun _ => .bl false))
       DL.ds_next)
       (DL.ds_ret (DL.de_and DL.de_callS (DL.de_op DL.os_eq (DL.dk_of (DL.de_said (fun al f H Q E h => ⟨f, rfl, h⟩) (said_ok (W := tbs K) (F := F') (P := P) (w := w)) (fun E => (DL.de_call (DL.da_cons (DL.de_var 4) (DL.da_cons (DL.de_lst (DL.da_cons (DL.de_c fun _ => .non) DL.da_nil)) DL.da_nil)) (DL.len_cons (DL.len_cons DL.len_nil)))))) (DL.dk_of (DL.de_tup (DL.da_cons (DL.de_c fun _ => .str "triangles") (DL.da_cons (DL.de_c fun _ => .int 0) DL.da_nil)))))))))))) tt hS 4 rfl (law_true ns hlen hbits) q

end

end NC
open PySem PySem.W PySem.Calls PyProof.Rows
theorem PySem.Challenge.cw_nearcells_k21_what_building_refuses_holds : PySem.Challenge.rw_nearcells_k21_what_building_refuses.Holds := by
  w_on; o_law
  refine HandSHeadRun.head_any (r := OpenLaw.row PySem.Challenge.rw_nearcells_k21_what_building_refuses) (q := view (OpenLaw.row PySem.Challenge.rw_nearcells_k21_what_building_refuses).prog [65]) (H := NC.hk) (ob := NC.ob) (M := 4000) (loose := NC.loose) (d := HandSHeadRun.topDef (OpenLaw.row PySem.Challenge.rw_nearcells_k21_what_building_refuses).prog 65) (kwd := []) NC.ob_eq
    (by kernel_rfl) (fun s => by kernel_rfl) NC.run (by kernel_rfl) (by kernel_rfl) (by kernel_rfl) (by rfl) (by first | assumption | decide +kernel) (by decide +kernel) ⟨rfl, rfl, rfl, rfl, rfl, by decide +kernel⟩ ?hw ?hc
  case hw => w_witness2
  case hc =>
    refine LamX.walk_ofTsE (l := PySem.Challenge.rw_nearcells_k21_what_building_refuses) (n := 63) (k := 12) (x := "_law_script") (CX := fun _ => L2.CX0) rfl (by decide) (by kernel_rfl) ⟨rfl, by decide, by decide⟩ ?F (fun _ _ _ _ _ z => z)
    intro w mg fa h Y G hmg0
    obtain ⟨K, KX, c⟩ := Y
    have hmg : mg ("law" : PySem.Str) = some (.ref fa) := by
      have e : (HandSHeadRun.topDef (OpenLaw.row PySem.Challenge.rw_nearcells_k21_what_building_refuses).prog 65).name = ("law" : PySem.Str) := by kernel_rfl
      rw [← e]
      exact hmg0
    obtain ⟨T⟩ := NC.tops KX G c.t.d c.more
    have e := hmg.symm.trans T.g_law
    cases e
    have key : ∀ p ∈ [He.cT K ("_law_all_say", none), He.cT K ("_law_sites_right", none), He.cT K ("_law_triangles_right", none), He.cT K ("law", none)], ∃ q ∈ [(("_law_all_say", none) : He.Defn), (("_law_sites_right", none) : He.Defn), (("_law_triangles_right", none) : He.Defn), (("law", none) : He.Defn)], p = He.cT K q := fun p hp => by
      have hp2 : p ∈ List.map (He.cT K) [(("_law_all_say", none) : He.Defn), (("_law_sites_right", none) : He.Defn), (("_law_triangles_right", none) : He.Defn), (("law", none) : He.Defn)] := hp
      obtain ⟨q, hq, e⟩ := List.mem_map.mp hp2
      exact ⟨q, hq, e.symm⟩
    refine ⟨K, KX, T.fd_law, [He.cT K ("_law_all_say", none), He.cT K ("_law_sites_right", none), He.cT K ("_law_triangles_right", none), He.cT K ("law", none)], NC.sp_law K, fun p hp => ?_, fun p hp => ?_, fun p hp => ?_, NC.bA_law T, fun H a ns hl hb hH hS => ⟨a, ns, rfl, hS, hl, hb, NC.tabs0 hH, fun _ => rfl⟩, fun base _ _ htb => NC.ok_law T (htb _ (by simp)) (htb _ (by simp)) (htb _ (by simp)) (htb _ (by simp))⟩
    · obtain ⟨q, hq, e⟩ := key p hp
      rw [e]
      exact c.empty q hq
    · obtain ⟨q, hq, e⟩ := key p hp
      rw [e]
      exact c.out q hq
    · obtain ⟨q, hq, e⟩ := key p hp
      rw [e]
      exact PySem.W.codeHd_of_K KX (c.hd q hq)
