import PyProof.Rows.All
import Wide.All
import OpenK.AllK
import Wide.FinOn
import HandS.ForMost
import HandS.TupAny
import HandS.TupMul
import HandS.Conv
import HandS.Deep
import HandS.SortInts
import HandS.Strs
import HandS.TupSets
import HandS.DictTup
import HandS.Star
import HandS.Zip
import HandS.More
import HandS.Style
import HandS.Walk
import KE.SortData
import KE.GoesEnum
import KE.GoesZip
import KE.KDictZip
import KE.KTurns
import HandS.Ends
import PySem.Challenge.RW_neverheaps_k41_whole_rounds_make_up_the
set_option Elab.async false
set_option linter.all false
set_option maxRecDepth 100000
set_option maxHeartbeats 4000000
/-! the base: the text by places, calls by name, readings in steps, data of tuples -/
namespace NH
open PySem PySem.Spec PyProof.Rows L2

/-! ### the text -/
def topS (i : Nat) : Stmt := PySem.Challenge.pw_neverheaps_k41_whole_rounds_make_up_the.main.body.getD i (.Pass ⟨0, 0, 0, 0⟩)
def defs : List (String × Nat) := [("common", 4), ("lowest", 5), ("product_of", 6), ("worth", 8), ("pay", 9), ("arrows_from", 12), ("come_to", 13), ("leading_to", 14), ("rings_from", 15), ("rings_of", 16),
  ("sum_of", 17), ("gain_of", 18), ("is_above", 20), ("gains_by", 21), ("led_once", 22), ("least_mean_back", 23), ("greatest_mean", 24), ("turned_ring", 25), ("grown", 27), ("cut", 28), ("rounds_of", 29),
  ("_law_bag", 31), ("_law_take", 32), ("_law_one", 33), ("_law_mixed", 34), ("_law_alike", 35), ("_law_flat", 36), ("_law_sum", 37), ("_law_less", 38), ("_law_times", 39), ("_law_names", 40), ("_law_recipe", 41),
  ("_law_out", 42), ("_law_works", 43), ("_law_nothing", 44), ("_law_wants", 45), ("_law_planted", 46), ("_law_part", 47), ("_law_arrow", 48), ("_law_links", 49), ("_law_held_sender", 50), ("_law_any_sender", 51),
  ("_law_bent_sender", 52), ("_law_sender", 53), ("_law_arrows_from", 54), ("_law_come_to", 55), ("_law_run", 56), ("_law_end_of", 57), ("_law_rings", 58), ("_law_cut", 59), ("_law_any_tariff", 60),
  ("_law_world", 61), ("_law_is_cut_right", 62), ("law", 63)]
def blts : List String := ["len", "range", "abs", "min", "max", "sum", "sorted", "tuple", "list", "set", "int", "repr", "zip", "enumerate"]

/-- a def of the text as the top has left it -/
def HasDef (K : PySem.W.Frag) (mg : Str → Option Value) (x : Str) (i : Nat) : Prop := ∃ f fd, mg x = some (.ref f) ∧ L2.Fun K x x (topS i) f fd
structure Top (K : PySem.W.Frag) (mg : Str → Option Value) : Prop where
  d : ∀ p ∈ defs, HasDef K mg (Str.ofString p.1) p.2
  n : ∀ x ∈ blts, mg (Str.ofString x) = none
  most : ∃ t, mg "MOST_RINGS" = some (.int 2000 t)
theorem Top.def_ {K : PySem.W.Frag} {mg : Str → Option Value} (T : Top K mg) (j : Nat) {x : String} {i : Nat} (h : defs[j]? = some (x, i)) : HasDef K mg (Str.ofString x) i := T.d _ (List.mem_of_getElem? h)
theorem Top.b {K : PySem.W.Frag} {mg : Str → Option Value} (T : Top K mg) (j : Nat) {x : String} (h : blts[j]? = some x) : mg (Str.ofString x) = none := T.n _ (List.mem_of_getElem? h)

/-- a def that may be called by its name -/
structure Cl (P : Program) (w : World) (K : PySem.W.Frag) (mg : Str → Option Value) (base : Heap) (k : Nat) (x : Str) (sp : Sp) : Prop where
  ex : ∃ (f : Addr) (fd : FuncData) (ps : List Str), FnOk P w K mg base CX0 k f fd ps sp ∧ mg x = some (.ref f) ∧ PySem.W.keepIn K (.ref f) = true ∧ Binds K fd ps []
section
variable {P : Program} {w : World} {K : PySem.W.Frag} {mg : Str → Option Value} {base : Heap}
theorem cl_of {x : Str} {i : Nat} {N ps : List Str} {k : Nat} {sp : Sp} (F : HasDef K mg x i) (S : FnScope N ps (defScope (topS i))) (len : ∀ vs H Q E, sp vs H Q E → vs.length = ps.length)
    (hb : ∀ (kV doc pm : Value) (an : Option Addr) (cdv ct : Value) (us : List Value), us.length = ps.length → bindArgs (PySem.W.fnOf x x (defArgs (topS i)) (defBody (topS i)) (defScope (topS i)) .none kV doc pm an cdv ct) ⟨us, []⟩ = pure (ps.zip us))
    (hbody : ∀ (f : Addr) (cdv : Value) (A : Around) (outer : List Env) (s : Shared) (H : Hp) (vs : List V) (Q : VK) (E : XK), Room k (A.deeper (envOfC x (defScope (topS i)) s.heap.objs.size f cdv)) → sp vs H Q E →
      ∃ t, PSs (cxOf CX0 P w K mg base N x (defScope (topS i)) f cdv A outer s H E).nox (defBody (topS i)) t ∧ t { nx := fun _ H' => Q .non H', rt := Q } (start N vs) H) : Cl P w K mg base (k + 1) x sp := by
  obtain ⟨f, fd, hm, F⟩ := F
  exact ⟨f, fd, ps, F.ok S len (hbody f), hm, F.kp, F.binds hb⟩
end
section
variable {X : Cx} {k j : Nat} {x : Str} {sp : Sp} {p pos : Pos} {e : Expr} {es : List Expr} {t : TA}
theorem pe_cl (c : Cl X.prog X.w X.K X.mg X.base k x sp) (hr : Room j X.A) (hk : k ≤ j) (hg : Gl X x) (ha : PA X (e :: es) t)
    (hdb : (x == ("__debug__" : Str)) = false := by decide) (he : starEach (e :: es) X.env = (false, eval e X.env) :: starEach es X.env := by rfl) (hpl : (backTo pos (starEach es X.env)).any (·.1) = false := by rfl) :
    PE X (.Call (.Name x p) (e :: es) [] pos) (tCall sp [] E0 t) := by
  obtain ⟨f, fd, ps, F, hm, kp, b⟩ := c.ex
  exact pe_call F (hr.mono hk) hg hm kp b .nil pass0 ha hdb he hpl
end

/-! ### readings in steps -/
section
variable {σ : L2.St} {H : Hp} {K : PySem.W.Frag}
variable {nx bk ct : L2.St → Hp → Prop} {rt : VK}
theorem rd_seq {t u : TS} (h : t ⟨u ⟨nx, rt, bk, ct⟩, rt, bk, ct⟩ σ H) : tSeq t u ⟨nx, rt, bk, ct⟩ σ H := h
theorem rd_asg {te : TE} {g : TG} (h : te σ H fun x H1 => g x σ H1 nx) : tAsg te g ⟨nx, rt, bk, ct⟩ σ H := h
theorem rd_name {i : Nat} {v : V} {Q : L2.St → Hp → Prop} (h : Q (σ.set i (some v)) H) : gName i v σ H Q := h
theorem rd_drop {te : TE} (h : te σ H fun _ H1 => nx σ H1) : tDrop te ⟨nx, rt, bk, ct⟩ σ H := h
theorem rd_ret {te : TE} (h : te σ H rt) : tRet te ⟨nx, rt, bk, ct⟩ σ H := h
theorem rd_next (h : nx σ H) : tNext ⟨nx, rt, bk, ct⟩ σ H := h
theorem rd_if {c : TT} {t u : TS} (h : c σ H fun b H1 => if b = true then t ⟨nx, rt, bk, ct⟩ σ H1 else u ⟨nx, rt, bk, ct⟩ σ H1) : tIfS c t u ⟨nx, rt, bk, ct⟩ σ H := h
/-- for, by what is walked -/
def ForW (J : It) (g : TG) (tb : TS) (nx : L2.St → Hp → Prop) (rt : VK) (σ : L2.St) (H : Hp) : Prop := ∃ W : Nat → Nat → L2.St → Hp → Prop, (∃ m, W 0 m σ H) ∧ ∀ i m σ H, W i m σ H →
  (J.stop i H ∧ nx σ H) ∨ (J.go i H ∧ ∃ N : L2.St → Hp → Prop, (∀ σ' H', N σ' H' → ∃ m', m' < m ∧ W (i + 1) m' σ' H') ∧ ∀ x H', J.yld i H x H' → g x σ H' fun σ2 H2 => tb ⟨N, rt, nx, N⟩ σ2 H2)
theorem rd_for {wi : TI} {g : TG} {tb : TS} (h : wi σ H fun J H1 => ForW J g tb nx rt σ H1) : tFor wi g tb ⟨nx, rt, bk, ct⟩ σ H := h
theorem rd_par {i j : Nat} {ta : TA} (h : ta σ H fun vs H1 => ∃ v w, vs = [v, w] ∧ nx ((σ.set i (some v)).set j (some w)) H1) : tPar i j ta ⟨nx, rt, bk, ct⟩ σ H := h
theorem rd_par3 {i j l : Nat} {ta : TA} (h : ta σ H fun vs H1 => ∃ u v w, vs = [u, v, w] ∧ nx (((σ.set i (some u)).set j (some v)).set l (some w)) H1) : tPar3 i j l ta ⟨nx, rt, bk, ct⟩ σ H := h
theorem rd_aug {i : Nat} {te : TE} {ti : TIp} {x : V} (h : σ[i]? = some (some x)) (q : te σ H fun y H1 => ti x y H1 fun z H2 => nx (σ.set i (some z)) H2) : tAug i te ti ⟨nx, rt, bk, ct⟩ σ H := ⟨x, h, q⟩
theorem rd_augS {to ti te : TE} {tget : V → V → Hp → VK → Prop} {tip : TIp} {tset : TSet} (h : to σ H fun o H1 => ti σ H1 fun i H2 => tget o i H2 fun x H3 => te σ H3 fun y H4 => tip x y H4 fun z H5 => tset o i z H5 fun H6 => nx σ H6) : tAugS to ti te tget tip tset ⟨nx, rt, bk, ct⟩ σ H := h
theorem rd_dput {td ty tv : TE} (h : tv σ H fun v H1 => td σ H1 fun x H2 => ty σ H2 fun y H3 => ∃ a H4, x = .ref a ∧ DPut H3 a y v H4 ∧ nx σ H4) : sDPut td ty tv ⟨nx, rt, bk, ct⟩ σ H := h
theorem rd_lock {t : TS} {d : Addr} {u : HO} (h : H d = some u) (m : Mut (some u)) (q : ∀ od, t ⟨fun σ' H' => H' d = some (.frz od u) ∧ nx σ' (upd H' d u), fun v H' => H' d = some (.frz od u) ∧ rt v (upd H' d u), fun σ' H' => H' d = some (.frz od u) ∧ bk σ' (upd H' d u), fun σ' H' => H' d = some (.frz od u) ∧ ct σ' (upd H' d u)⟩ σ (upd H d (.frz od u))) :
    tLock t ⟨nx, rt, bk, ct⟩ σ H := ⟨d, u, h, m, q⟩
/-- one turn of a while: the measure falls -/
def WT (W : Nat → L2.St → Hp → Prop) (m : Nat) (tb : TS) (rt : VK) (nx : L2.St → Hp → Prop) (σ : L2.St) (H : Hp) : Prop := ∃ N : L2.St → Hp → Prop, (∀ σ' H', N σ' H' → ∃ m', m' < m ∧ W m' σ' H') ∧ tb ⟨N, rt, nx, N⟩ σ H
theorem rd_wt {W : Nat → L2.St → Hp → Prop} {m : Nat} {tb : TS} (h : tb ⟨fun σ' H' => ∃ m', m' < m ∧ W m' σ' H', rt, nx, fun σ' H' => ∃ m', m' < m ∧ W m' σ' H'⟩ σ H) : WT W m tb rt nx σ H := ⟨_, fun _ _ z => z, h⟩
theorem rd_while {c : TT} {tb : TS} (W : Nat → L2.St → Hp → Prop) (h0 : ∃ m, W m σ H) (hs : ∀ m σ H, W m σ H → c σ H fun b H1 => if b = true then WT W m tb rt nx σ H1 else nx σ H1) : tWhile c tb ⟨nx, rt, bk, ct⟩ σ H := ⟨W, h0, hs⟩
variable {Q : VK}
theorem rd_var {i : Nat} {v : V} (h : σ[i]? = some (some v)) (q : Q v H) : tVar i σ H Q := ⟨v, h, q⟩
theorem rd_c {v : V} (q : Q v H) : tC v σ H Q := q
theorem rd_op {r : R2} {ta tb : TE} (h : ta σ H fun x H1 => tb σ H1 fun y H2 => r x y H2 Q) : tOp r ta tb σ H Q := h
theorem rd_un {r : V → Hp → VK → Prop} {ta : TE} (h : ta σ H fun x H1 => r x H1 Q) : tUn r ta σ H Q := h
theorem rd_I0 {g : Int → Int → V} {i j : Int} (q : Q (g i j) H) : rI0 g (.int i) (.int j) H Q := ⟨i, j, rfl, rfl, q⟩
theorem rd_I {C : Int → Int → Prop} {g : Int → Int → V} {i j : Int} (c : C i j) (q : Q (g i j) H) : rI C g (.int i) (.int j) H Q := ⟨i, j, rfl, rfl, c, q⟩
theorem rd_U {g : Int → V} {i : Int} (q : Q (g i) H) : rU g (.int i) H Q := ⟨i, rfl, q⟩
theorem rd_cb {r : List V → Hp → VK → Prop} {t : TA} (h : t σ H fun vs H1 => r vs H1 Q) : tCB r t σ H Q := h
theorem rd_call {sp : Sp} {E : XK} {t : TA} (h : t σ H fun vs H1 => sp vs H1 Q E) : tCall sp [] E t σ H Q := by
  show t σ H fun vs H1 => sp (vs ++ []) H1 Q E
  simpa only [List.append_nil] using h
theorem rd_lst {t : TA} (h : t σ H fun xs H1 => xs.length ≤ sizeLine ∧ ∀ p, H1 p = none → Q (.ref p) (upd H1 p (.lst xs))) : tLst t σ H Q := h
theorem rd_three {v w z : V} {R : V → V → V → Prop} (h : R v w z) : ∃ a b c, [v, w, z] = [a, b, c] ∧ R a b c := ⟨v, w, z, rfl, h⟩
theorem rd_tup {t : TA} (h : t σ H fun xs H1 => xs.length ≤ sizeLine ∧ ∀ p, H1 p = none → Q (.ref p) (upd H1 p (.tup xs))) : tTup t σ H Q := h
theorem rd_eqI {i j : Int} (q : Q (.bl (decide (i = j))) H) : rEq (.int i) (.int j) H Q := ⟨rfl, by
  have e : decide (V.int i = V.int j) = decide (i = j) := by
    by_cases h : i = j
    · rw [h, decide_eq_true rfl, decide_eq_true rfl]
    · rw [decide_eq_false h, decide_eq_false (fun z => h (V.int.inj z))]
  rw [e]
  exact q⟩
theorem rd_neI {i j : Int} (q : Q (.bl (!decide (i = j))) H) : rNe (.int i) (.int j) H Q := ⟨rfl, by
  have e : decide (V.int i = V.int j) = decide (i = j) := by
    by_cases h : i = j
    · rw [h, decide_eq_true rfl, decide_eq_true rfl]
    · rw [decide_eq_false h, decide_eq_false (fun z => h (V.int.inj z))]
  rw [e]
  exact q⟩
variable {QA : List V → Hp → Prop} {QT : Bool → Hp → Prop}
theorem rd_nil (q : QA [] H) : tNil σ H QA := q
theorem rd_cons {ta : TE} {tr : TA} (h : ta σ H fun x H1 => tr σ H1 fun xs H2 => QA (x :: xs) H2) : tCons ta tr σ H QA := h
theorem rd_test {te : TE} (h : te σ H fun x H1 => ∃ c, x = .bl c ∧ QT c H1) : tTest te σ H QT := h
theorem rd_tB {te : TE} (h : te σ H fun x H1 => ∃ c, x = .bl c ∧ QT c H1) : tB te σ H QT := h
theorem rd_bl {b : Bool} {R : Bool → Prop} (q : R b) : ∃ c, V.bl b = .bl c ∧ R c := ⟨b, rfl, q⟩
theorem rd_and {t u : TT} (h : t σ H fun c H1 => if c = true then u σ H1 QT else QT false H1) : tAnd t u σ H QT := h
theorem rd_or {t u : TT} (h : t σ H fun c H1 => if c = true then QT true H1 else u σ H1 QT) : tOr t u σ H QT := h
theorem rd_yes (h : QT true H) : tYes σ H QT := h
theorem rd_not {t : TT} (h : t σ H fun c H1 => QT (!c) H1) : tNot t σ H QT := h
theorem rd_ifE {t : TT} {ta tb : TE} (h : t σ H fun c H1 => if c = true then ta σ H1 Q else tb σ H1 Q) : tIf t ta tb σ H Q := h
theorem rd_and2 {ta tb : TE} (h : ta σ H fun x H1 => ∃ c, x = .bl c ∧ if c = true then tb σ H1 Q else Q (.bl false) H1) : tAndV ta tb σ H Q := h
theorem rd_or2 {ta tb : TE} (h : ta σ H fun x H1 => ∃ c, x = .bl c ∧ if c = true then Q (.bl true) H1 else tb σ H1 Q) : tOrV ta tb σ H Q := h
theorem rd_isN {x : V} (q : Q (.bl (decide (x = .non))) H) : (fun x y H Q => y = V.non ∧ Q (.bl (decide (x = .non))) H : R2) x .non H Q := ⟨rfl, q⟩
theorem rd_two {v w : V} {R : V → V → Prop} (h : R v w) : ∃ a b, [v, w] = [a, b] ∧ R a b := ⟨v, w, rfl, h⟩
theorem rd_slice {r : V → Option Int → Option Int → Hp → VK → Prop} {te : TE} {tl th : TO} (h : te σ H fun x H1 => tl σ H1 fun l H2 => th σ H2 fun u H3 => r x l u H3 Q) : tSl r te tl th σ H Q := h
variable {QO : Option Int → Hp → Prop}
theorem rd_noPart (h : QO none H) : tNoPart σ H QO := h
theorem rd_part {te : TE} (h : te σ H fun x H1 => ∃ i, x = .int i ∧ QO (some i) H1) : tPart te σ H QO := h
theorem rd_int {i : Int} {R : Int → Prop} (h : R i) : ∃ j, V.int i = .int j ∧ R j := ⟨i, rfl, h⟩
theorem rd_ipI {f : Int → Int → Int} {i j : Int} (q : Q (.int (f i j)) H) : ipI f (.int i) (.int j) H Q := ⟨i, j, rfl, rfl, q⟩
theorem rd_bm {T : String} {r : V → List V → Hp → VK → Prop} {to : TE} {t : TA} (h : to σ H fun x H1 => tyV K T x H1 ∧ t σ H1 fun xs H2 => r x xs H2 Q) : tBM K T r to t σ H Q := h
theorem rd_bm0 {T : String} {r : V → List V → Hp → VK → Prop} {to : TE} (h : to σ H fun x H1 => tyV K T x H1 ∧ r x [] H1 Q) : tBM0 K T r to σ H Q := h
theorem rd_gtup {n : Nat} {t : TGs} {v : V} {QS : L2.St → Hp → Prop} {a : Addr} {xs : List V} (e : v = .ref a) (h : SqT K H a xs) (hl : xs.length = n) (q : t xs σ H QS) : gTup K n t v σ H QS := ⟨a, xs, e, h, hl, q⟩
theorem rd_gcons {t : TG} {u : TGs} {v : V} {r : List V} {QS : L2.St → Hp → Prop} (h : t v σ H fun σ' H' => u r σ' H' QS) : gCons t u (v :: r) σ H QS := ⟨v, r, rfl, h⟩
theorem rd_gnil {QS : L2.St → Hp → Prop} (h : QS σ H) : gNil [] σ H QS := ⟨rfl, h⟩
theorem rd_len {p : Addr} {ys : List V} (h : SqL K H p ys ∨ SqT K H p ys) (q : Q (.int ys.length) H) : ∃ p' ys', [V.ref p] = [.ref p'] ∧ (SqL K H p' ys' ∨ SqT K H p' ys') ∧ Q (.int ys'.length) H := ⟨p, ys, rfl, h, q⟩
end

/-! ### what stays -/
/-- the tuples stay -/
def Le (H H' : Hp) : Prop := ∀ a xs, H a = some (.tup xs) → H' a = some (.tup xs)
theorem Le.refl (H : Hp) : Le H H := fun _ _ h => h
theorem Le.trans {H H1 H2 : Hp} (a : Le H H1) (b : Le H1 H2) : Le H H2 := fun x xs h => b x xs (a x xs h)
theorem Same.le {H H' : Hp} (e : Same H H') : Le H H' := fun a xs h => e a _ h
theorem Le.new {H H' : Hp} {p : Addr} {o : HO} (e : Le H H') (h : H' p = none) : Le H (upd H' p o) := fun a xs ha => by
  rw [upd_ne (ne_of_none (e a xs ha) h)]
  exact e a xs ha
theorem Le.lst {H H' : Hp} {p : Addr} {o : HO} {ys : List V} (e : Le H H') (h : H' p = some (.lst ys)) : Le H (upd H' p o) := fun a xs ha => by
  rw [upd_ne (ne_of (e a xs ha) h (by intro z; cases z))]
  exact e a xs ha
theorem Le.dK {H H' : Hp} {p : Addr} {o : HO} {ys : List (Key × V)} (e : Le H H') (h : H' p = some (.dK ys)) : Le H (upd H' p o) := fun a xs ha => by
  rw [upd_ne (ne_of (e a xs ha) h (by intro z; cases z))]
  exact e a xs ha
theorem Le.dT {H H' : Hp} {p : Addr} {o : HO} {ys : List (List Key × V)} (e : Le H H') (h : H' p = some (.dT ys)) : Le H (upd H' p o) := fun a xs ha => by
  rw [upd_ne (ne_of (e a xs ha) h (by intro z; cases z))]
  exact e a xs ha
theorem Le.frz {H H' : Hp} {p : Addr} {o : HO} {u : Obj} {v : HO} (e : Le H H') (h : H' p = some (.frz u v)) : Le H (upd H' p o) := fun a xs ha => by
  rw [upd_ne (ne_of (e a xs ha) h (by intro z; cases z))]
  exact e a xs ha
theorem Same.new {H H' : Hp} {p : Addr} {o : HO} (e : Same H H') (h : H' p = none) : Same H (upd H' p o) := fun a u ha => by
  rw [upd_ne (ne_of_none (e a u ha) h)]
  exact e a u ha
/-- an object that H does not know may change -/
theorem Same.mut {H H' : Hp} {p : Addr} {o : HO} (e : Same H H') (h : H p = none) : Same H (upd H' p o) := fun a u ha => by
  rw [upd_ne (ne_of_none ha h)]
  exact e a u ha
/-- all but one stays -/
def But (b : Addr) (H H' : Hp) : Prop := ∀ a o, a ≠ b → H a = some o → H' a = some o
theorem But.refl (b : Addr) (H : Hp) : But b H H := fun _ _ _ h => h
theorem But.trans {b : Addr} {H H1 H2 : Hp} (x : But b H H1) (y : But b H1 H2) : But b H H2 := fun a o n h => y a o n (x a o n h)
theorem But.of {b : Addr} {H H' : Hp} (e : Same H H') : But b H H' := fun a o _ h => e a o h
theorem But.new {b : Addr} {H H' : Hp} {p : Addr} {o : HO} (e : But b H H') (h : H' p = none) : But b H (upd H' p o) := fun a u n ha => by
  rw [upd_ne (ne_of_none (e a u n ha) h)]
  exact e a u n ha
theorem But.mut {b : Addr} {H H' : Hp} {p : Addr} {o : HO} (e : But b H H') (h : H p = none) : But b H (upd H' p o) := fun a u n ha => by
  rw [upd_ne (ne_of_none ha h)]
  exact e a u n ha
theorem But.self {b : Addr} {H H' : Hp} {o : HO} (e : But b H H') : But b H (upd H' b o) := fun a u n ha => by
  rw [upd_ne n]
  exact e a u n ha
theorem But.le {b : Addr} {H H' : Hp} {ys : List V} (e : But b H H') (h : H b = some (.lst ys)) : Le H H' := fun a xs ha => e a _ (ne_of ha h (by intro z; cases z)) ha

/-! ### data of tuples -/
mutual
inductive TD (H : Hp) : V → PyData → Prop
  | non : TD H .non .none
  | int (i : Int) : TD H (.int i) (.int i)
  | str (x : Str) : TD H (.str x) (.str x)
  | tup {a : Addr} {xs : List V} {ds : List PyData} : H a = some (.tup xs) → TDs H xs ds → TD H (.ref a) (.tuple ds)
inductive TDs (H : Hp) : List V → List PyData → Prop
  | nil : TDs H [] []
  | cons {v : V} {vs : List V} {d : PyData} {ds : List PyData} : TD H v d → TDs H vs ds → TDs H (v :: vs) (d :: ds)
end
mutual
theorem TD.le {H H' : Hp} (e : Le H H') : ∀ {v : V} {d : PyData}, TD H v d → TD H' v d
  | _, _, .non => .non
  | _, _, .int i => .int i
  | _, _, .str x => .str x
  | _, _, .tup h t => .tup (e _ _ h) (TDs.le e t)
theorem TDs.le {H H' : Hp} (e : Le H H') : ∀ {vs : List V} {ds : List PyData}, TDs H vs ds → TDs H' vs ds
  | _, _, .nil => .nil
  | _, _, .cons h t => .cons (TD.le e h) (TDs.le e t)
end
mutual
theorem TD.dp {K : PySem.W.Frag} {H : Hp} : ∀ {v : V} {d : PyData}, TD H v d → Dp K H v d
  | _, _, .non => .non
  | _, _, .int i => .int i
  | _, _, .str x => .str x
  | _, _, .tup h t => .tup (SqT.of h) (TDs.dp t)
theorem TDs.dp {K : PySem.W.Frag} {H : Hp} : ∀ {vs : List V} {ds : List PyData}, TDs H vs ds → DpAll K H vs ds
  | _, _, .nil => .nil
  | _, _, .cons h t => .cons (TD.dp h) (TDs.dp t)
end
section
variable {H : Hp}
theorem TD.int_eq {v : V} {i : Int} (h : TD H v (.int i)) : v = .int i := by cases h; rfl
theorem TD.str_eq {v : V} {x : Str} (h : TD H v (.str x)) : v = .str x := by cases h; rfl
theorem TD.non_eq {v : V} (h : TD H v .none) : v = .non := by cases h; rfl
theorem TD.tup_inv {v : V} {ds : List PyData} (h : TD H v (.tuple ds)) : ∃ a xs, v = .ref a ∧ H a = some (.tup xs) ∧ TDs H xs ds := by
  cases h with
  | tup h t => exact ⟨_, _, rfl, h, t⟩
theorem TDs.length : ∀ {vs : List V} {ds : List PyData}, TDs H vs ds → vs.length = ds.length
  | _, _, .nil => rfl
  | _, _, .cons _ t => congrArg (· + 1) (TDs.length t)
theorem TDs.get : ∀ {vs : List V} {ds : List PyData} {i : Nat} {d : PyData}, TDs H vs ds → ds[i]? = some d → ∃ v, vs[i]? = some v ∧ TD H v d
  | _, _, 0, _, .cons h _, e => ⟨_, rfl, by cases e; exact h⟩
  | _, _, i + 1, _, .cons _ t, e => TDs.get (i := i) t e
theorem TDs.get' : ∀ {vs : List V} {ds : List PyData} {i : Nat} {v : V}, TDs H vs ds → vs[i]? = some v → ∃ d, ds[i]? = some d ∧ TD H v d
  | _, _, 0, _, .cons h _, e => ⟨_, rfl, by cases e; exact h⟩
  | _, _, i + 1, _, .cons _ t, e => TDs.get' (i := i) t e
theorem TDs.append : ∀ {vs ws : List V} {ds es : List PyData}, TDs H vs ds → TDs H ws es → TDs H (vs ++ ws) (ds ++ es)
  | _, _, _, _, .nil, h => h
  | _, _, _, _, .cons a t, h => .cons a (TDs.append t h)
theorem TDs.take : ∀ {vs : List V} {ds : List PyData} (n : Nat), TDs H vs ds → TDs H (vs.take n) (ds.take n)
  | _, _, 0, _ => .nil
  | _, _, _ + 1, .nil => .nil
  | _, _, n + 1, .cons a t => .cons a (TDs.take n t)
theorem TDs.drop : ∀ {vs : List V} {ds : List PyData} (n : Nat), TDs H vs ds → TDs H (vs.drop n) (ds.drop n)
  | _, _, 0, h => h
  | _, _, _ + 1, .nil => .nil
  | _, _, n + 1, .cons _ t => TDs.drop n t
theorem TDs.ints : ∀ (ns : List Int), TDs H (ns.map V.int) (ns.map PyData.int)
  | [] => .nil
  | n :: ns => .cons (.int n) (TDs.ints ns)
theorem TDs.ints_eq : ∀ {vs : List V} {ns : List Int}, TDs H vs (ns.map PyData.int) → vs = ns.map V.int
  | [], [], _ => rfl
  | [], _ :: _, h => by cases h
  | _ :: _, [], h => by cases h
  | v :: vs, n :: ns, h => by
    cases h with
    | cons a t => rw [a.int_eq, TDs.ints_eq t]; rfl
theorem TD.one {a : Addr} {xs : List V} {ds : List PyData} (h : TD H (.ref a) (.tuple ds)) (e : H a = some (.tup xs)) : TDs H xs ds := by
  obtain ⟨b, ys, e1, e2, t⟩ := h.tup_inv
  cases e1
  rw [e] at e2
  cases e2
  exact t
end
/-- ints as data -/
def dI (ns : List Int) : PyData := .tuple (ns.map PyData.int)
theorem TD.ints_inv {H : Hp} {v : V} {ns : List Int} (h : TD H v (dI ns)) : ∃ a, v = .ref a ∧ H a = some (.tup (ns.map V.int)) := by
  obtain ⟨a, xs, e, h1, t⟩ := h.tup_inv
  rw [t.ints_eq] at h1
  exact ⟨a, e, h1⟩
theorem TD.ints {H : Hp} {a : Addr} {ns : List Int} (h : H a = some (.tup (ns.map V.int))) : TD H (.ref a) (dI ns) := .tup h (TDs.ints ns)

/-! ### an item of a tuple -/
section
variable {K : PySem.W.Frag} {H : Hp} {Q : VK} {x : V} {ds : List PyData} {d : PyData}
theorem rd_ixT {i : Int} {j : Nat} (h : TD H x (.tuple ds)) (hi : i = (j : Int)) (hj : ds[j]? = some d) (q : ∀ v, TD H v d → Q v H) : rIxT K x (.int i) H Q := by
  obtain ⟨a, xs, rfl, e, t⟩ := h.tup_inv
  obtain ⟨v, hv, hd⟩ := t.get hj
  exact ⟨a, xs, i, v, rfl, rfl, SqT.of e, by rw [hi]; exact atI_nat hv, q v hd⟩
theorem rd_ixL {p : Addr} {xs : List V} {i : Int} {j : Nat} {v : V} (h : SqL K H p xs) (hi : i = (j : Int)) (hj : xs[j]? = some v) (q : Q v H) : rIxL K (.ref p) (.int i) H Q :=
  ⟨p, xs, i, v, rfl, rfl, h, by rw [hi]; exact atI_nat hj, q⟩
theorem sz_ok {n : Nat} (h : n ≤ 16000000) : n ≤ sizeLine := Nat.le_trans h (by decide)
theorem sz_lt {n : Nat} (h : n < 16000000) : n < sizeLine := Nat.lt_of_lt_of_le h (by decide)
end
end NH
namespace NH
open PySem PySem.Spec PyProof.Rows L2
/-! ### rules with the written part named -/
section
variable {X : Cx} (K : PySem.W.Frag)
theorem ix_listK (h : X.K = K := by rfl) : IxR X (rIxL K) := h ▸ ix_list
theorem ix_tupK (h : X.K = K := by rfl) : IxR X (rIxT K) := h ▸ ix_tup
theorem sl_listK (h : X.K = K := by rfl) : SlR X (rSlL K) := h ▸ sl_list
theorem sl_tupAK (h : X.K = K := by rfl) : SlR X (rSlA K) := h ▸ sl_tupA
theorem op_catAK (h : X.K = K := by rfl) : OpR X (binaryOp .Add) (rCatA K) := h ▸ op_catA
theorem op_inK (h : X.K = K := by rfl) : OpR X (compareOp .In) (rIn K false) := h ▸ op_in_seq
theorem op_notInK (h : X.K = K := by rfl) : OpR X (compareOp .NotIn) (rIn K true) := h ▸ op_notIn_seq
theorem op_eqDK (hu : X.A.units + 64 < cLine) (h : X.K = K := by rfl) : OpR X (compareOp .Eq) (rEqD K) := h ▸ op_eqD hu
theorem op_neDK (hu : X.A.units + 64 < cLine) (h : X.K = K := by rfl) : OpR X (compareOp .NotEq) (rNeD K) := h ▸ op_neD hu
theorem op_inDK (hu : X.A.units + 65 < cLine) (h : X.K = K := by rfl) : OpR X (compareOp .In) (rInD K) := h ▸ op_inD hu
theorem op_notInDK (hu : X.A.units + 65 < cLine) (h : X.K = K := by rfl) : OpR X (compareOp .NotIn) (rNotInD K) := h ▸ op_notInD hu
def rListOf (K : PySem.W.Frag) : List V → Hp → VK → Prop := fun xs H Q => ∃ p ys, xs = [.ref p] ∧ (SqL K H p ys ∨ SqT K H p ys) ∧ ∀ l, H l = none → Q (.ref l) (upd H l (.lst ys))
def rTupOf (K : PySem.W.Frag) : List V → Hp → VK → Prop := fun xs H Q => ∃ p ys, xs = [.ref p] ∧ ((SqL K H p ys ∧ ∀ l, H l = none → Q (.ref l) (upd H l (.tup ys))) ∨ (SqT K H p ys ∧ Q (.ref p) H))
def rLenOf (K : PySem.W.Frag) : List V → Hp → VK → Prop := fun xs H Q => ∃ p ys, xs = [.ref p] ∧ (SqL K H p ys ∨ SqT K H p ys) ∧ Q (.int ys.length) H
theorem call_listK (h : X.K = K := by rfl) : CallR X (.type "list") (rListOf K) := h ▸ call_list_of
theorem call_tupleK (h : X.K = K := by rfl) : CallR X (.type "tuple") (rTupOf K) := h ▸ call_tuple_of
theorem call_lenK (h : X.K = K := by rfl) : CallR X (.builtin "len") (rLenOf K) := h ▸ call_len_seq
theorem cr_sumK (hc : X.calm = true) (h : X.K = K := by rfl) : CallR X (.builtin "sum") (rSum K) := h ▸ cr_sum hc
theorem cr_minK' (hc : X.calm = true) (h : X.K = K := by rfl) : CallR X (.builtin "min") (rMin K) := h ▸ cr_min hc
theorem cr_sortedIK (h : X.K = K := by rfl) : CallR X (.builtin "sorted") (rSortedI K) := h ▸ cr_sortedI
theorem mt_indexK (h : X.K = K := by rfl) : MtR X "list.index" (rIndex K) := h ▸ mt_index
end
end NH
namespace NH
open PySem PySem.Spec PyProof.Rows L2
/-! ### new objects, changed lists -/
section
variable {H : Hp} {K : PySem.W.Frag}
theorem rd_new {o : HO} {R : Addr → Hp → Prop} (h : ∀ p H1, H p = none → Same H H1 → H1 p = some o → R p H1) : ∀ p, H p = none → R p (upd H p o) := fun p np => h p _ np (Same.new (Same.refl H) np) upd_same
theorem new_of {H1 : Hp} {p : Addr} {o : HO} (e : upd H p o = H1) (np : H p = none) : Same H H1 ∧ H1 p = some o := by
  subst e
  exact ⟨Same.new (Same.refl H) np, upd_same⟩
theorem mut_of {H1 : Hp} {p : Addr} {o : HO} (e : upd H p o = H1) : But p H H1 ∧ H1 p = some o := by
  subst e
  exact ⟨But.self (But.refl p H), upd_same⟩
theorem rd_mut {l : Addr} {o : HO} {R : Hp → Prop} (h : ∀ H1, But l H H1 → H1 l = some o → R H1) : R (upd H l o) := h _ (But.self (But.refl l H)) upd_same
theorem Same.but {H0 H1 : Hp} {l : Addr} (e : Same H0 H) (b : But l H H1) (n : H0 l = none) : Same H0 H1 := fun a o h => b a o (ne_of_none h n) (e a o h)
theorem But.but {H0 H1 : Hp} {l c : Addr} (e : But c H0 H) (b : But l H H1) (n : H0 l = none) : But c H0 H1 := fun a o hc h => b a o (ne_of_none h n) (e a o hc h)
theorem But.at {H1 : Hp} {l a : Addr} {o u : HO} (b : But l H H1) (h : H a = some o) (hl : H l = some u) (d : o ≠ u) : H1 a = some o := b a o (ne_of h hl d) h
theorem Same.free' {H1 : Hp} {p : Addr} (e : Same H H1) (h : H1 p = none) : H p = none := e.free h
/-! ### walks -/
variable {J : It} {n : Nat} {G : Hp → Prop} {Y : Nat → Hp → V → Hp → Prop} {g : TG} {tb : TS} {nx : L2.St → Hp → Prop} {rt : VK} {σ : L2.St}
theorem forw (w : Walk J n G Y) (Pv : Nat → L2.St → Hp → Prop) (h0 : Pv 0 σ H) (hG : ∀ i σ H, i ≤ n → Pv i σ H → G H)
    (hs : ∀ i x σ H H', i < n → Pv i σ H → Y i H x H' → g x σ H' fun σ2 H2 => tb ⟨Pv (i + 1), rt, nx, Pv (i + 1)⟩ σ2 H2) (hd : ∀ σ H, Pv n σ H → nx σ H) : ForW J g tb nx rt σ H :=
  for_it w (D := ⟨nx, rt, fun _ _ => False, fun _ _ => False⟩) Pv h0 hG hs hd
/-- a new pair at each turn -/
def YP (f1 f2 : Nat → Option V) : Nat → Hp → V → Hp → Prop := fun i H v H' => ∃ T x y, v = .ref T ∧ H' T = some (.tup [x, y]) ∧ Same H H' ∧ f1 i = some x ∧ f2 i = some y
theorem yp_of {f1 f2 : Nat → Option V} {i : Nat} {H H' : Hp} {v : V} (y : YPair f1 f2 i H v H') : YP f1 f2 i H v H' := by
  obtain ⟨T, x, z, e, n, e2, h1, h2⟩ := y
  subst e2
  exact ⟨T, x, z, e, upd_same, Same.new (Same.refl H) n, h1, h2⟩
theorem rd_pair {a b : Nat} {T : Addr} {x y : V} {Q : L2.St → Hp → Prop} (h : H T = some (.tup [x, y])) (q : Q ((σ.set a (some x)).set b (some y)) H) : gTup K 2 (gCons (gName a) (gCons (gName b) gNil)) (.ref T) σ H Q :=
  ⟨T, [x, y], rfl, SqT.of h, rfl, x, [y], rfl, y, [], rfl, rfl, q⟩
/-! ### comprehensions -/
def LcW (J : It) (g : TG) (tt : TT) (te : TE) (vs : List Nat) (σ : L2.St) (D : Addr) (Q : VK) (H1 : Hp) : Prop := ∃ W : Nat → Nat → Hp → Prop, (∃ m, W 0 m (upd H1 D (.lst []))) ∧ ∀ i m H, W i m H →
  (J.stop i H ∧ Q (.ref D) H) ∨ (J.go i H ∧ ∃ Nx : Hp → Prop, (∀ H', Nx H' → ∃ m', m' < m ∧ W (i + 1) m' H') ∧ ∀ x H', J.yld i H x H' → g x (wipe σ vs) H' fun σ2 H2 => wipe σ2 vs = wipe σ vs ∧ tt σ2 H2 fun b H3 =>
    if b = true then te σ2 H3 fun y H4 => ∃ acc, H4 D = some (.lst acc) ∧ acc.length < sizeLine ∧ Nx (upd H4 D (.lst (acc ++ [y]))) else Nx H3)
theorem rd_lc {wi : TI} {tt : TT} {te : TE} {vs : List Nat} {Q : VK} (h : wi σ H fun J H1 => ∀ D, H1 D = none → LcW J g tt te vs σ D Q H1) : tLc wi g tt te vs σ H Q := h
variable {tt : TT} {te : TE} {vs : List Nat} {D : Addr} {Q : VK} {H1 : Hp}
/-- behind an element: it goes to the new list at D; behind a test that fails -/
def LcN (D : Addr) (Pv : Nat → List V → Hp → Prop) (i : Nat) : VK := fun y H4 => ∃ acc, H4 D = some (.lst acc) ∧ acc.length < sizeLine ∧ ∃ acc', (upd H4 D (.lst (acc ++ [y]))) D = some (.lst acc') ∧ acc'.length ≤ i + 1 ∧ Pv (i + 1) acc' (upd H4 D (.lst (acc ++ [y])))
def LcS (D : Addr) (Pv : Nat → List V → Hp → Prop) (i : Nat) : Hp → Prop := fun H3 => ∃ acc', H3 D = some (.lst acc') ∧ acc'.length ≤ i + 1 ∧ Pv (i + 1) acc' H3
theorem lcn {Pv : Nat → List V → Hp → Prop} {i : Nat} {y : V} {acc : List V} (h : H D = some (.lst acc)) (hl : acc.length ≤ i) (hi : i < 1000000) (p : Pv (i + 1) (acc ++ [y]) (upd H D (.lst (acc ++ [y])))) : LcN D Pv i y H :=
  ⟨acc, h, Nat.lt_of_le_of_lt hl (Nat.lt_of_lt_of_le hi (by decide)), acc ++ [y], upd_same, by rw [List.length_append]; exact Nat.succ_le_succ hl, p⟩
theorem lcs {Pv : Nat → List V → Hp → Prop} {i : Nat} {acc : List V} (h : H D = some (.lst acc)) (hl : acc.length ≤ i) (p : Pv (i + 1) acc H) : LcS D Pv i H := ⟨acc, h, Nat.le_succ_of_le hl, p⟩
theorem lcw (w : Walk J n G Y) (Pv : Nat → List V → Hp → Prop) (h0 : Pv 0 [] (upd H1 D (.lst []))) (hG : ∀ i acc H, Pv i acc H → G H)
    (hs : ∀ i x acc H H', i < n → acc.length ≤ i → H D = some (.lst acc) → Pv i acc H → Y i H x H' → g x (wipe σ vs) H' fun σ2 H2 => wipe σ2 vs = wipe σ vs ∧ tt σ2 H2 fun b H3 =>
      if b = true then te σ2 H3 (LcN D Pv i) else LcS D Pv i H3)
    (hd : ∀ acc H, H D = some (.lst acc) → acc.length ≤ n → Pv n acc H → Q (.ref D) H) : LcW J g tt te vs σ D Q H1 :=
  lc_it w (Qd := Q (.ref D)) (fun i H => ∃ acc, H D = some (.lst acc) ∧ acc.length ≤ i ∧ Pv i acc H) ⟨[], upd_same, Nat.le_refl _, h0⟩ (fun i H _ ⟨acc, _, _, p⟩ => hG i acc H p)
    (fun i x H H' hi ⟨acc, e, l, p⟩ y => hs i x acc H H' hi l e p y) (fun H ⟨acc, e, l, p⟩ => hd acc H e l p)
/-- the heap only grows: an element, behind a heap that has grown since the turn's begin -/
theorem lcnA {R : Nat → List V → Prop} {i : Nat} {y : V} {acc : List V} {H' : Hp} (nD : H1 D = none) (h : H D = some (.lst acc)) (hl : acc.length ≤ i) (hi : i < 1000000) (s1 : Same H1 H) (s2 : Same H H') (p : R (i + 1) (acc ++ [y])) :
    LcN D (fun i acc H => Same H1 H ∧ R i acc) i y H' := lcn (s2 _ _ h) hl hi ⟨Same.mut (s1.trans s2) nD, p⟩
theorem lcsA {R : Nat → List V → Prop} {i : Nat} {acc : List V} {H' : Hp} (h : H D = some (.lst acc)) (hl : acc.length ≤ i) (s1 : Same H1 H) (s2 : Same H H') (p : R (i + 1) acc) :
    LcS D (fun i acc H => Same H1 H ∧ R i acc) i H' := lcs (s2 _ _ h) hl ⟨s1.trans s2, p⟩
/-- a map: the i-th element is told by f -/
theorem lcwM (w : Walk J n G Y) (f : Nat → V) (hn : n ≤ 1000000) (nD : H1 D = none) (hG : ∀ H, Same H1 H → G H)
    (hs : ∀ i x H H' (Q' : VK), i < n → Same H1 H → Y i H x H' → (∀ H4, Same H H4 → Q' (f i) H4) → g x (wipe σ vs) H' fun σ2 H2 => wipe σ2 vs = wipe σ vs ∧ te σ2 H2 Q')
    (hd : ∀ H, Same H1 H → H D = some (.lst ((List.range n).map f)) → Q (.ref D) H) : LcW J g tYes te vs σ D Q H1 :=
  lcw w (fun i acc H => Same H1 H ∧ acc = (List.range i).map f) ⟨Same.mut (Same.refl H1) nD, rfl⟩ (fun _ _ H p => hG H p.1)
    (fun i x acc H H' hi hl e p y => hs i x H H' _ hi p.1 y fun H4 s4 => lcnA (R := fun i acc => acc = (List.range i).map f) nD e hl (Nat.lt_of_lt_of_le hi hn) p.1 s4 (by rw [p.2, List.range_succ, List.map_append]; rfl))
    (fun acc H e _ p => hd H p.1 (by rw [e, p.2]))
end
section
variable {H : Hp} {K : PySem.W.Frag} {Q : VK} {l : Addr} {xs ys : List V} {y : V}
theorem tyL (h : H l = some (.lst xs)) : tyV K "list" (.ref l) H := .inl ⟨rfl, _, SqL.of h⟩
theorem rd_append (h : H l = some (.lst xs)) (hl : xs.length < 16000000) (q : ∀ H1, But l H H1 → H1 l = some (.lst (xs ++ [y])) → Q .non H1) : rAppend (.ref l) [y] H Q :=
  ⟨l, xs, y, rfl, rfl, h, sz_lt hl, q _ (But.self (But.refl l H)) upd_same⟩
theorem rd_extend {b : Addr} (h : H l = some (.lst xs)) (h2 : H b = some (.lst ys)) (hl : xs.length + ys.length ≤ 16000000) (q : ∀ H1, But l H H1 → H1 l = some (.lst (xs ++ ys)) → Q .non H1) : rExtend (.ref l) [.ref b] H Q :=
  ⟨l, b, xs, ys, rfl, rfl, h, h2, sz_ok hl, q _ (But.self (But.refl l H)) upd_same⟩
theorem rd_pop (h : H l = some (.lst (xs ++ [y]))) (q : ∀ H1, But l H H1 → H1 l = some (.lst xs) → Q y H1) : rPop (.ref l) [] H Q :=
  ⟨l, xs ++ [y], y, rfl, rfl, h, by simp, q _ (But.self (But.refl l H)) (by rw [upd_same, List.dropLast_concat])⟩
theorem rd_setL {i : Int} {j : Nat} {R : Hp → Prop} (h : H l = some (.lst xs)) (hi : i = (j : Int)) (hj : j < xs.length) (q : ∀ H1, But l H H1 → H1 l = some (.lst (xs.set j y)) → R H1) : rSetL (.ref l) (.int i) y H R :=
  ⟨l, xs, i, j, rfl, rfl, h, by
    subst hi
    unfold ixN
    rw [if_pos (Int.natCast_nonneg j), if_pos (by omega)]
    rfl, q _ (But.self (But.refl l H)) upd_same⟩
theorem rd_lenL {p : Addr} (h : H p = some (.lst ys)) (q : Q (.int ys.length) H) : rLenOf K [.ref p] H Q := ⟨p, ys, rfl, .inl (SqL.of h), q⟩
theorem rd_lenT {p : Addr} (h : H p = some (.tup ys)) (q : Q (.int ys.length) H) : rLenOf K [.ref p] H Q := ⟨p, ys, rfl, .inr (SqT.of h), q⟩
theorem rd_lenD {x : V} {ds : List PyData} (h : TD H x (.tuple ds)) (q : Q (.int ds.length) H) : rLenOf K [x] H Q := by
  obtain ⟨a, zs, rfl, e, t⟩ := h.tup_inv
  exact rd_lenT e (by rw [t.length]; exact q)
end
/-- ints that are natural numbers -/
def nI (i : Nat) : V := .int (i : Int)
theorem flat_nI : ∀ (ns : List Nat), (ns.map nI).all flatV = true
  | [] => rfl
  | _ :: ns => flat_nI ns
theorem inV_nI {i : Nat} : ∀ (ns : List Nat), inV (.int (i : Int)) (ns.map nI) = decide (i ∈ ns)
  | [] => by simp [inV]
  | n :: ns => by
    have ih := inV_nI (i := i) ns
    unfold inV at ih ⊢
    rw [List.map_cons, List.any_cons, ih]
    have e : eqV (nI n) (.int (i : Int)) = decide (i = n) := by
      show decide ((n : Int) = (i : Int)) = decide (i = n) <;> first | (by_cases h : i = n <;> simp [h, Int.ofNat_inj] ; omega) | skip
    rw [e]
    by_cases h : i = n
    · subst h
      simp
    · simp [h]
end NH
/-! the plain mathematics -/
namespace NH
structure Arrow where
  src : Nat
  tgt : Nat
  amt : List Int
  crew : List Int
structure Snd where
  n : Nat
  arrows : List Arrow
structure Tar where
  prices : List Int
  wages : List Int
def Snd.src (S : Snd) (i : Nat) : Nat := (S.arrows[i]?.map (·.src)).getD 0
def Snd.tgt (S : Snd) (i : Nat) : Nat := (S.arrows[i]?.map (·.tgt)).getD 0
def Snd.amt (S : Snd) (i : Nat) : List Int := (S.arrows[i]?.map (·.amt)).getD []
def Snd.crew (S : Snd) (i : Nat) : List Int := (S.arrows[i]?.map (·.crew)).getD []
/-- bounds of a sender -/
structure Snd.Ok (S : Snd) (nk nh : Nat) : Prop where
  pos : 1 ≤ S.n
  few : S.n ≤ 6
  many : S.arrows.length ≤ 10
  src : ∀ a ∈ S.arrows, a.src < S.n
  tgt : ∀ a ∈ S.arrows, a.tgt < S.n
  amt : ∀ a ∈ S.arrows, a.amt.length = nk
  crew : ∀ a ∈ S.arrows, a.crew.length = nh
  ba : ∀ a ∈ S.arrows, ∀ x ∈ a.amt, -1000 ≤ x ∧ x ≤ 1000
  bc : ∀ a ∈ S.arrows, ∀ x ∈ a.crew, -1000 ≤ x ∧ x ≤ 1000
  nk1 : nk ≤ 1000
  nh1 : nh ≤ 1000
structure Tar.Ok (t : Tar) (nk nh : Nat) : Prop where
  prices : t.prices.length = nk
  wages : t.wages.length = nh
  bp : ∀ x ∈ t.prices, -1000 ≤ x ∧ x ≤ 1000
  bw : ∀ x ∈ t.wages, -1000 ≤ x ∧ x ≤ 1000
def dot (ns ms : List Int) : Int := (List.zipWith (· * ·) ns ms).sum
/-- the gain of one arrow, of several -/
def Snd.gain1 (S : Snd) (t : Tar) (i : Nat) : Int := dot t.prices (S.amt i) - dot t.wages (S.crew i)
def Snd.gain (S : Snd) (t : Tar) (is : List Nat) : Int := (is.map (S.gain1 t)).sum

theorem map_at {α β : Type} {f : α → β} {xs : List α} {i : Nat} {y : β} (h : (xs.map f)[i]? = some y) : ∃ hi : i < xs.length, y = f (xs[i]'hi) := by
  rw [List.getElem?_map] at h
  by_cases hi : i < xs.length
  · rw [List.getElem?_eq_getElem hi] at h
    exact ⟨hi, (Option.some.inj h).symm⟩
  · rw [List.getElem?_eq_none (by omega)] at h
    cases h
theorem zipWith_range (ns ms : List Int) : (List.range (min ns.length ms.length)).map (fun i => ns.getD i 0 * ms.getD i 0) = List.zipWith (· * ·) ns ms := by
  apply List.ext_getElem
  · simp
  · intro i h1 h2
    simp at h1 h2
    have a : i < ns.length := by omega
    have b : i < ms.length := by omega
    simp [List.getD_eq_getElem?_getD, a, b]
theorem map_range_getD {α β : Type} (xs : List α) (d : α) (f : α → β) : (List.range xs.length).map (fun i => f (xs.getD i d)) = xs.map f := by
  apply List.ext_getElem
  · simp
  · intro i h1 h2
    simp at h1 h2
    simp [List.getD_eq_getElem?_getD, h1]
theorem Snd.at {S : Snd} {i : Nat} (h : i < S.arrows.length) : ∃ a, S.arrows[i]? = some a ∧ a ∈ S.arrows ∧ S.src i = a.src ∧ S.tgt i = a.tgt ∧ S.amt i = a.amt ∧ S.crew i = a.crew := by
  refine ⟨S.arrows[i], List.getElem?_eq_getElem h, List.getElem_mem h, ?_, ?_, ?_, ?_⟩ <;> simp [Snd.src, Snd.tgt, Snd.amt, Snd.crew, List.getElem?_eq_getElem h]

/-! ### arrows out of a place; places that are come to -/
def Snd.outsN (S : Snd) (k p : Nat) : List Nat := (List.range k).filter fun i => S.src i = p
def Snd.outs (S : Snd) (p : Nat) : List Nat := S.outsN S.arrows.length p
theorem Snd.mem_outs {S : Snd} {p i : Nat} : i ∈ S.outs p ↔ i < S.arrows.length ∧ S.src i = p := by simp [Snd.outs, Snd.outsN]
theorem Snd.outsN_succ (S : Snd) (k p : Nat) : S.outsN (k + 1) p = S.outsN k p ++ (if S.src k = p then [k] else []) := by
  unfold Snd.outsN
  rw [List.range_succ, List.filter_append]
  by_cases h : S.src k = p <;> simp [h]
theorem Snd.outs_len (S : Snd) (p : Nat) : (S.outs p).length ≤ S.arrows.length := by
  have := List.length_filter_le (fun i => decide (S.src i = p)) (List.range S.arrows.length)
  simpa [Snd.outs, Snd.outsN] using this
inductive Snd.Reach (S : Snd) : Nat → Prop
  | zero : Reach S 0
  | step {i : Nat} : i < S.arrows.length → Reach S (S.src i) → Reach S (S.tgt i)
/-- found and todo of come_to -/
structure CT (S : Snd) (fs ts : List Nat) : Prop where
  nd : fs.Nodup
  z : 0 ∈ fs
  r : ∀ p ∈ fs, S.Reach p
  sub : ∀ p ∈ ts, p ∈ fs
  cl : ∀ p ∈ fs, p ∉ ts → ∀ i, i < S.arrows.length → S.src i = p → S.tgt i ∈ fs
/-- .. while the arrows out of p are walked: is are done -/
structure CTp (S : Snd) (fs ts : List Nat) (p : Nat) (is : List Nat) : Prop where
  nd : fs.Nodup
  z : 0 ∈ fs
  r : ∀ q ∈ fs, S.Reach q
  sub : ∀ q ∈ ts, q ∈ fs
  here : p ∈ fs
  cl : ∀ q ∈ fs, q ∉ ts → q ≠ p → ∀ i, i < S.arrows.length → S.src i = q → S.tgt i ∈ fs
  done : ∀ i ∈ is, S.tgt i ∈ fs
theorem CT.init (S : Snd) : CT S [0] [0] := ⟨by simp, by simp, fun p hp => by rw [List.mem_singleton.mp hp]; exact .zero, fun p hp => hp, fun p hp hn => absurd hp hn⟩
theorem CT.pop {S : Snd} {fs ts : List Nat} {p : Nat} (c : CT S fs (ts ++ [p])) : CTp S fs ts p [] :=
  ⟨c.nd, c.z, c.r, fun q hq => c.sub q (List.mem_append_left _ hq), c.sub p (by simp), fun q hq hn hp => c.cl q hq (by simp [hn, hp]), fun i hi => by simp at hi⟩
theorem CTp.old {S : Snd} {fs ts is : List Nat} {p i : Nat} (c : CTp S fs ts p is) (h : S.tgt i ∈ fs) : CTp S fs ts p (is ++ [i]) :=
  ⟨c.nd, c.z, c.r, c.sub, c.here, c.cl, fun j hj => by
    rcases List.mem_append.mp hj with z | z
    · exact c.done j z
    · rw [List.mem_singleton.mp z]; exact h⟩
theorem CTp.new {S : Snd} {fs ts is : List Nat} {p i : Nat} (c : CTp S fs ts p is) (hi : i < S.arrows.length) (hs : S.src i = p) (h : S.tgt i ∉ fs) : CTp S (fs ++ [S.tgt i]) (ts ++ [S.tgt i]) p (is ++ [i]) := by
  refine ⟨?_, List.mem_append_left _ c.z, fun q hq => ?_, fun q hq => ?_, List.mem_append_left _ c.here, fun q hq hn hp j hj he => ?_, fun j hj => ?_⟩
  · rw [List.nodup_append]
    exact ⟨c.nd, by simp, fun a ha b hb => by rw [List.mem_singleton.mp hb]; intro z; exact h (z ▸ ha)⟩
  · rcases List.mem_append.mp hq with z | z
    · exact c.r q z
    · rw [List.mem_singleton.mp z]
      exact .step hi (by rw [hs]; exact c.r p c.here)
  · rcases List.mem_append.mp hq with z | z
    · exact List.mem_append_left _ (c.sub q z)
    · exact List.mem_append_right _ z
  · rcases List.mem_append.mp hq with z | z
    · exact List.mem_append_left _ (c.cl q z (fun y => hn (List.mem_append_left _ y)) hp j hj he)
    · exact absurd (List.mem_append_right _ z) hn
  · rcases List.mem_append.mp hj with z | z
    · exact List.mem_append_left _ (c.done j z)
    · rw [List.mem_singleton.mp z]; simp
theorem CTp.fin {S : Snd} {fs ts : List Nat} {p : Nat} (c : CTp S fs ts p (S.outs p)) : CT S fs ts :=
  ⟨c.nd, c.z, c.r, c.sub, fun q hq hn i hi he => by
    by_cases h : q = p
    · subst h
      exact c.done i (Snd.mem_outs.mpr ⟨hi, he⟩)
    · exact c.cl q hq hn h i hi he⟩
theorem CT.all {S : Snd} {fs : List Nat} (c : CT S fs []) (p : Nat) : p ∈ fs ↔ S.Reach p := by
  refine ⟨c.r p, fun h => ?_⟩
  induction h with
  | zero => exact c.z
  | step hi _ ih => exact c.cl _ ih (by simp) _ hi rfl
theorem Snd.Reach.lt {S : Snd} {nk nh p : Nat} (o : S.Ok nk nh) (h : S.Reach p) : p < S.n := by
  cases h with
  | zero => exact o.pos
  | step hi _ =>
    obtain ⟨a, _, m, _, h2, _⟩ := Snd.at hi
    rw [h2]
    exact o.tgt a m
theorem nodup_lt : ∀ (n : Nat) (l : List Nat), l.Nodup → (∀ x ∈ l, x < n) → l.length ≤ n
  | 0, l, _, h => by
    cases l with
    | nil => exact Nat.le_refl _
    | cons a r => exact absurd (h a (by simp)) (Nat.not_lt_zero _)
  | n + 1, l, nd, h => by
    have ih := nodup_lt n (l.filter (· ≠ n)) (nd.filter _) (fun x hx => by
      simp at hx
      have := h x hx.1
      omega)
    have h2 : l.length ≤ (l.filter (· ≠ n)).length + 1 := by
      by_cases hm : n ∈ l
      · have e : l.filter (· ≠ n) = l.erase n := by
          rw [nd.erase_eq_filter n]
          refine List.filter_congr fun x _ => ?_
          by_cases hx : x = n <;> simp [hx]
        rw [e, List.length_erase_of_mem hm]
        omega
      · rw [List.filter_eq_self.mpr (fun a ha => by
          have : a ≠ n := fun e => hm (e ▸ ha)
          simp [this])]
        omega
    omega
/-- two ascending lists with the same members -/
theorem asc_ext : ∀ {l m : List Nat}, l.Pairwise (· < ·) → m.Pairwise (· < ·) → (∀ x, x ∈ l ↔ x ∈ m) → l = m
  | [], [], _, _, _ => rfl
  | [], b :: m, _, _, h => absurd ((h b).mpr (by simp)) (by simp)
  | a :: l, [], _, _, h => absurd ((h a).mp (by simp)) (by simp)
  | a :: l, b :: m, hl, hm, h => by
    have hl' := List.pairwise_cons.mp hl
    have hm' := List.pairwise_cons.mp hm
    have e : a = b := by
      rcases List.mem_cons.mp ((h a).mp (by simp)) with z | z
      · exact z
      · have h1 := hm'.1 a z
        rcases List.mem_cons.mp ((h b).mpr (by simp)) with y | y
        · exact y.symm
        · have h2 := hl'.1 b y
          omega
    subst e
    refine congrArg _ (asc_ext hl'.2 hm'.2 fun x => ⟨fun hx => ?_, fun hx => ?_⟩)
    · rcases List.mem_cons.mp ((h x).mp (List.mem_cons_of_mem _ hx)) with z | z
      · have := hl'.1 x hx
        omega
      · exact z
    · rcases List.mem_cons.mp ((h x).mpr (List.mem_cons_of_mem _ hx)) with z | z
      · have := hm'.1 x hx
        omega
      · exact z
/-- ints that stand for natural numbers, in another order -/
theorem perm_nats {ns : List Int} {fs : List Nat} (h : ns.Perm (fs.map fun (i : Nat) => (i : Int))) : ∃ gs : List Nat, gs.Perm fs ∧ ns = gs.map fun (i : Nat) => (i : Int) := by
  refine ⟨ns.map Int.toNat, ?_, ?_⟩
  · have := h.map Int.toNat
    rw [List.map_map] at this
    have e : (Int.toNat ∘ fun (i : Nat) => (i : Int)) = id := by
      funext i
      simp
    rw [e, List.map_id] at this
    exact this
  · rw [List.map_map]
    have : ∀ x ∈ ns, ((fun (i : Nat) => (i : Int)) ∘ Int.toNat) x = x := fun x hx => by
      obtain ⟨i, _, rfl⟩ := List.mem_map.mp (h.mem_iff.mp hx)
      simp
    exact (List.map_id' ns).symm.trans (List.map_congr_left fun x hx => (this x hx).symm)
theorem asc_of_nats {gs : List Nat} (h : (gs.map fun (i : Nat) => (i : Int)).Pairwise (· ≤ ·)) (nd : gs.Nodup) : gs.Pairwise (· < ·) := by
  rw [List.pairwise_map] at h
  have := h.and nd
  exact this.imp fun ⟨a, b⟩ => by omega
end NH
/-! rings: the walk that finds them all -/
namespace NH
def Snd.ringsU (S : Snd) (ok : Nat → Bool) (b : Nat) : Nat → List Nat → Nat → List Nat → List (List Nat)
  | 0, _, _, _ => []
  | f + 1, way, cur, vis => (S.outs cur).flatMap fun i => if S.tgt i = b then [way ++ [i]] else if ok (S.tgt i) = true ∧ S.tgt i ∉ vis then S.ringsU ok b f (way ++ [i]) (S.tgt i) (vis ++ [S.tgt i]) else []
def Snd.nodesU (S : Snd) (ok : Nat → Bool) (b : Nat) : Nat → Nat → List Nat → Nat
  | 0, _, _ => 1
  | f + 1, cur, vis => 1 + ((S.outs cur).map fun i => if S.tgt i = b then 0 else if ok (S.tgt i) = true ∧ S.tgt i ∉ vis then S.nodesU ok b f (S.tgt i) (vis ++ [S.tgt i]) else 0).sum
/-- what one arrow adds -/
def Snd.ring1 (S : Snd) (ok : Nat → Bool) (b f : Nat) (way vis : List Nat) (i : Nat) : List (List Nat) :=
  if S.tgt i = b then [way ++ [i]] else if ok (S.tgt i) = true ∧ S.tgt i ∉ vis then S.ringsU ok b f (way ++ [i]) (S.tgt i) (vis ++ [S.tgt i]) else []
def Snd.node1 (S : Snd) (ok : Nat → Bool) (b f : Nat) (vis : List Nat) (i : Nat) : Nat :=
  if S.tgt i = b then 0 else if ok (S.tgt i) = true ∧ S.tgt i ∉ vis then S.nodesU ok b f (S.tgt i) (vis ++ [S.tgt i]) else 0
theorem Snd.ringsU_succ (S : Snd) (ok : Nat → Bool) (b f : Nat) (way : List Nat) (cur : Nat) (vis : List Nat) : S.ringsU ok b (f + 1) way cur vis = (S.outs cur).flatMap (S.ring1 ok b f way vis) := rfl
theorem Snd.nodesU_succ (S : Snd) (ok : Nat → Bool) (b f cur : Nat) (vis : List Nat) : S.nodesU ok b (f + 1) cur vis = 1 + ((S.outs cur).map (S.node1 ok b f vis)).sum := rfl
theorem sum_le_map {α : Type} (f : α → Nat) (c : Nat) : ∀ l : List α, (∀ x ∈ l, f x ≤ c) → (l.map f).sum ≤ l.length * c
  | [], _ => by simp
  | a :: l, h => by
    have ih := sum_le_map f c l fun x hx => h x (List.mem_cons_of_mem _ hx)
    have h1 := h a (by simp)
    rw [List.map_cons, List.sum_cons, List.length_cons, Nat.add_mul, Nat.one_mul]
    omega
theorem Snd.nodes_bound (S : Snd) (hA : S.arrows.length ≤ 10) (ok : Nat → Bool) (b : Nat) : ∀ (f cur : Nat) (vis : List Nat), S.nodesU ok b f cur vis ≤ 11 ^ f
  | 0, _, _ => by simp [Snd.nodesU]
  | f + 1, cur, vis => by
    have ih := Snd.nodes_bound S hA ok b f
    rw [Snd.nodesU_succ]
    have h1 : ((S.outs cur).map (S.node1 ok b f vis)).sum ≤ (S.outs cur).length * 11 ^ f := sum_le_map _ _ _ fun i _ => by
      unfold Snd.node1
      split
      · exact Nat.zero_le _
      · split
        · exact ih _ _
        · exact Nat.zero_le _
    have h2 : (S.outs cur).length ≤ 10 := Nat.le_trans (S.outs_len cur) hA
    have h3 : (S.outs cur).length * 11 ^ f ≤ 10 * 11 ^ f := Nat.mul_le_mul_right _ h2
    have h4 : 1 ≤ 11 ^ f := Nat.one_le_pow _ _ (by omega)
    rw [Nat.pow_succ]
    omega
theorem Snd.nodes_pos (S : Snd) (ok : Nat → Bool) (b : Nat) : ∀ (f cur : Nat) (vis : List Nat), 1 ≤ S.nodesU ok b f cur vis
  | 0, _, _ => by simp [Snd.nodesU]
  | f + 1, cur, vis => by rw [Snd.nodesU_succ]; omega
/-- fewer places, fewer rings -/
theorem Snd.rings_mono (S : Snd) (ok ok' : Nat → Bool) (b : Nat) (h : ∀ t, t ≠ b → ok t = true → ok' t = true) : ∀ (f : Nat) (way : List Nat) (cur : Nat) (vis : List Nat), (S.ringsU ok b f way cur vis).length ≤ (S.ringsU ok' b f way cur vis).length
  | 0, _, _, _ => Nat.le_refl _
  | f + 1, way, cur, vis => by
    have ih := Snd.rings_mono S ok ok' b h f
    rw [Snd.ringsU_succ, Snd.ringsU_succ]
    generalize S.outs cur = l
    induction l with
    | nil => exact Nat.le_refl _
    | cons i l il =>
      rw [List.flatMap_cons, List.flatMap_cons, List.length_append, List.length_append]
      refine Nat.add_le_add ?_ il
      unfold Snd.ring1
      split
      · exact Nat.le_refl _
      · rename_i hb
        by_cases c : ok (S.tgt i) = true ∧ S.tgt i ∉ vis
        · rw [if_pos c, if_pos ⟨h _ hb c.1, c.2⟩]
          exact ih _ _ _
        · rw [if_neg c]
          exact Nat.zero_le _
theorem Snd.rings_ne (S : Snd) (ok : Nat → Bool) (b : Nat) : ∀ (f : Nat) (way : List Nat) (cur : Nat) (vis : List Nat), ∀ r ∈ S.ringsU ok b f way cur vis, r ≠ []
  | 0, _, _, _, _, h => by cases h
  | f + 1, way, cur, vis, r, h => by
    rw [Snd.ringsU_succ, List.mem_flatMap] at h
    obtain ⟨i, _, h⟩ := h
    unfold Snd.ring1 at h
    split at h
    · rw [List.mem_singleton.mp h]
      simp
    · split at h
      · exact Snd.rings_ne S ok b f _ _ _ r h
      · cases h
/-- a way from p to q by arrows -/
def Snd.Chain (S : Snd) : Nat → List Nat → Nat → Prop
  | p, [], q => p = q
  | p, i :: r, q => i < S.arrows.length ∧ S.src i = p ∧ S.Chain (S.tgt i) r q
theorem Snd.Chain.lt {S : Snd} : ∀ {r : List Nat} {p q : Nat}, S.Chain p r q → ∀ i ∈ r, i < S.arrows.length
  | i :: r, _, _, ⟨h1, _, h3⟩, j, hj => by
    rcases List.mem_cons.mp hj with e | e
    · rw [e]; exact h1
    · exact Snd.Chain.lt h3 j e
theorem Snd.Chain.append {S : Snd} : ∀ {r t : List Nat} {p q u : Nat}, S.Chain p r q → S.Chain q t u → S.Chain p (r ++ t) u
  | [], _, _, _, _, h, h' => by
    cases h
    exact h'
  | _ :: _, _, _, _, _, ⟨h1, h2, h3⟩, h' => ⟨h1, h2, h3.append h'⟩
theorem Snd.Chain.split {S : Snd} : ∀ {r t : List Nat} {p u : Nat}, S.Chain p (r ++ t) u → ∃ q, S.Chain p r q ∧ S.Chain q t u
  | [], _, p, _, h => ⟨p, rfl, h⟩
  | _ :: _, _, _, _, ⟨h1, h2, h3⟩ => by
    obtain ⟨q, a, b⟩ := Snd.Chain.split h3
    exact ⟨q, ⟨h1, h2, a⟩, b⟩
theorem Snd.Chain.det {S : Snd} : ∀ {r : List Nat} {p q u : Nat}, S.Chain p r q → S.Chain p r u → q = u
  | [], _, _, _, h, h' => h.symm.trans h'
  | _ :: _, _, _, _, ⟨_, _, h3⟩, ⟨_, _, h3'⟩ => h3.det h3'
theorem Snd.Chain.reach {S : Snd} : ∀ {r : List Nat} {p q : Nat}, S.Reach p → S.Chain p r q → S.Reach q
  | [], _, _, h, c => by
    cases c
    exact h
  | i :: r, _, _, h, ⟨h1, h2, h3⟩ => Snd.Chain.reach (.step h1 (by rw [h2]; exact h)) h3
/-- a ring: from its least place on -/
structure Snd.IsRing (S : Snd) (r : List Nat) (b : Nat) : Prop where
  ne : r ≠ []
  chain : S.Chain b r b
  nd : (r.map S.src).Nodup
  least : ∀ i ∈ r, b ≤ S.src i
  reach : S.Reach b
/-- near: closed backwards -/
structure Near (S : Snd) (b : Nat) (near : List Nat) : Prop where
  goal : b ∈ near
  cl : ∀ i, i < S.arrows.length → S.tgt i ∈ near → b ≤ S.src i → S.src i ∈ near
  least : ∀ p ∈ near, b ≤ p
theorem Near.chain {S : Snd} {b : Nat} {near : List Nat} (n : Near S b near) : ∀ {r : List Nat} {p : Nat}, S.Chain p r b → (∀ i ∈ r, b ≤ S.src i) → p ∈ near
  | [], _, c, _ => by
    cases c
    exact n.goal
  | i :: r, p, ⟨h1, h2, h3⟩, h => by
    have ih := Near.chain n h3 fun j hj => h j (List.mem_cons_of_mem _ hj)
    rw [← h2]
    exact n.cl i h1 ih (h i (by simp))
theorem Snd.rings_all {S : Snd} {b : Nat} {near : List Nat} (n : Near S b near) : ∀ (f : Nat) (r way : List Nat) (cur : Nat) (vis : List Nat), r ≠ [] → r.length ≤ f → S.Chain cur r b → ((r.map S.src).tail).Nodup → (∀ p ∈ (r.map S.src).tail, p ∉ vis ∧ p ≠ b) → (∀ i ∈ r, b ≤ S.src i) →
    way ++ r ∈ S.ringsU (fun t => decide (t ∈ near)) b f way cur vis
  | 0, r, _, _, _, hne, hl, _, _, _, _ => by
    cases r with
    | nil => exact absurd rfl hne
    | cons a r => simp at hl
  | f + 1, [], _, _, _, hne, _, _, _, _, _ => absurd rfl hne
  | f + 1, i :: r, way, cur, vis, _, hl, ⟨h1, h2, h3⟩, nd, hv, hb => by
    rw [Snd.ringsU_succ, List.mem_flatMap]
    refine ⟨i, Snd.mem_outs.mpr ⟨h1, h2⟩, ?_⟩
    unfold Snd.ring1
    cases r with
    | nil =>
      have e : S.tgt i = b := h3
      rw [if_pos e]
      simp
    | cons j r =>
      obtain ⟨k1, k2, k3⟩ := h3
      have hm : S.src j ∈ ((i :: j :: r).map S.src).tail := by simp
      obtain ⟨v1, v2⟩ := hv _ hm
      have e : S.tgt i = S.src j := k2.symm
      have hn : S.tgt i ∈ near := n.chain (r := j :: r) ⟨k1, k2, k3⟩ fun x hx => hb x (List.mem_cons_of_mem _ hx)
      rw [if_neg (by rw [e]; exact v2), if_pos ⟨decide_eq_true hn, by rw [e]; exact v1⟩]
      have nd' : (S.src j :: r.map S.src).Nodup := nd
      obtain ⟨n1, n2⟩ := List.nodup_cons.mp nd'
      have ih := Snd.rings_all n f (j :: r) (way ++ [i]) (S.tgt i) (vis ++ [S.tgt i]) (by simp) (by simp at hl ⊢; omega) ⟨k1, k2, k3⟩ (by simpa using n2) (fun p hp => by
        have hp' : p ∈ r.map S.src := by simpa using hp
        obtain ⟨a1, a2⟩ := hv p (by simpa using Or.inr hp)
        refine ⟨fun z => ?_, a2⟩
        rcases List.mem_append.mp z with z | z
        · exact a1 z
        · rw [List.mem_singleton.mp z, e] at hp'
          exact n1 hp') (fun x hx => hb x (List.mem_cons_of_mem _ hx))
      rw [List.append_assoc] at ih
      exact ih
theorem Snd.IsRing.found {S : Snd} {nk nh b : Nat} {r near : List Nat} (o : S.Ok nk nh) (h : S.IsRing r b) (n : Near S b near) : r ∈ S.ringsU (fun t => decide (t ∈ near)) b S.n [] b [b] := by
  obtain ⟨i, t, rfl⟩ : ∃ i t, r = i :: t := by
    cases r with
    | nil => exact absurd rfl h.ne
    | cons i t => exact ⟨i, t, rfl⟩
  have nd : (S.src i :: t.map S.src).Nodup := h.nd
  obtain ⟨n1, n2⟩ := List.nodup_cons.mp nd
  have hs : S.src i = b := h.chain.2.1
  have hl : (i :: t).length ≤ S.n := by
    have := nodup_lt S.n _ h.nd fun x hx => by
      obtain ⟨j, hj, rfl⟩ := List.mem_map.mp hx
      obtain ⟨a, _, m, e, _⟩ := Snd.at (h.chain.lt j hj)
      rw [e]
      exact o.src a m
    simpa using this
  have := Snd.rings_all n S.n (i :: t) [] b [b] h.ne hl h.chain (by simpa using n2) (fun p hp => by
    have hp' : p ∈ t.map S.src := by simpa using hp
    have : p ≠ b := fun e => n1 (by rw [hs, ← e]; exact hp')
    exact ⟨by simpa using this, this⟩) h.least
  simpa using this
end NH
namespace NH
/-- found and todo of leading_to -/
structure LT (S : Snd) (b : Nat) (fs ts : List Nat) : Prop where
  nd : fs.Nodup
  goal : b ∈ fs
  lt : ∀ p ∈ fs, b ≤ p ∧ p < S.n
  sub : ∀ p ∈ ts, p ∈ fs
  cl : ∀ p ∈ fs, p ∉ ts → ∀ i, i < S.arrows.length → S.tgt i = p → b ≤ S.src i → S.src i ∈ fs
structure LTp (S : Snd) (b : Nat) (fs ts : List Nat) (p k : Nat) : Prop where
  nd : fs.Nodup
  goal : b ∈ fs
  lt : ∀ p ∈ fs, b ≤ p ∧ p < S.n
  sub : ∀ p ∈ ts, p ∈ fs
  here : p ∈ fs
  cl : ∀ q ∈ fs, q ∉ ts → q ≠ p → ∀ i, i < S.arrows.length → S.tgt i = q → b ≤ S.src i → S.src i ∈ fs
  done : ∀ i, i < k → i < S.arrows.length → S.tgt i = p → b ≤ S.src i → S.src i ∈ fs
theorem LT.init {S : Snd} {b : Nat} (h : b < S.n) : LT S b [b] [b] := ⟨by simp, by simp, fun p hp => by rw [List.mem_singleton.mp hp]; exact ⟨Nat.le_refl _, h⟩, fun p hp => hp, fun p hp hn => absurd hp hn⟩
theorem LT.pop {S : Snd} {b : Nat} {fs ts : List Nat} {p : Nat} (c : LT S b fs (ts ++ [p])) : LTp S b fs ts p 0 :=
  ⟨c.nd, c.goal, c.lt, fun q hq => c.sub q (List.mem_append_left _ hq), c.sub p (by simp), fun q hq hn hp => c.cl q hq (by simp [hn, hp]), fun i hi => absurd hi (Nat.not_lt_zero _)⟩
theorem LTp.old {S : Snd} {b : Nat} {fs ts : List Nat} {p k : Nat} (c : LTp S b fs ts p k) (h : ¬ (S.tgt k = p ∧ b ≤ S.src k ∧ S.src k ∉ fs)) : LTp S b fs ts p (k + 1) :=
  ⟨c.nd, c.goal, c.lt, c.sub, c.here, c.cl, fun i hi hl ht hb => by
    rcases Nat.lt_or_ge i k with z | z
    · exact c.done i z hl ht hb
    · have e : i = k := by omega
      subst e
      exact Classical.byContradiction fun z => h ⟨ht, hb, z⟩⟩
theorem LTp.new {S : Snd} {b : Nat} {fs ts : List Nat} {p k : Nat} (c : LTp S b fs ts p k) (hl : S.src k < S.n) (h2 : b ≤ S.src k) (h3 : S.src k ∉ fs) : LTp S b (fs ++ [S.src k]) (ts ++ [S.src k]) p (k + 1) := by
  refine ⟨?_, List.mem_append_left _ c.goal, fun q hq => ?_, fun q hq => ?_, List.mem_append_left _ c.here, fun q hq hn hp j hj he hb => ?_, fun i hi hl ht hb => ?_⟩
  · rw [List.nodup_append]
    exact ⟨c.nd, by simp, fun a ha b hb => by rw [List.mem_singleton.mp hb]; intro z; exact h3 (z ▸ ha)⟩
  · rcases List.mem_append.mp hq with z | z
    · exact c.lt q z
    · rw [List.mem_singleton.mp z]
      exact ⟨h2, hl⟩
  · rcases List.mem_append.mp hq with z | z
    · exact List.mem_append_left _ (c.sub q z)
    · exact List.mem_append_right _ z
  · rcases List.mem_append.mp hq with z | z
    · exact List.mem_append_left _ (c.cl q z (fun y => hn (List.mem_append_left _ y)) hp j hj he hb)
    · exact absurd (List.mem_append_right _ z) hn
  · rcases Nat.lt_or_ge i k with z | z
    · exact List.mem_append_left _ (c.done i z hl ht hb)
    · have e : i = k := by omega
      subst e
      simp
theorem LTp.fin {S : Snd} {b : Nat} {fs ts : List Nat} {p : Nat} (c : LTp S b fs ts p S.arrows.length) : LT S b fs ts :=
  ⟨c.nd, c.goal, c.lt, c.sub, fun q hq hn i hi ht hb => by
    by_cases h : q = p
    · subst h
      exact c.done i hi hi ht hb
    · exact c.cl q hq hn h i hi ht hb⟩
theorem LT.near {S : Snd} {b : Nat} {fs : List Nat} (c : LT S b fs []) : Near S b fs :=
  ⟨c.goal, fun i hi ht hb => c.cl _ ht (by simp) i hi rfl hb, fun p hp => (c.lt p hp).1⟩
theorem LTp.few {S : Snd} {b : Nat} {fs ts : List Nat} {p k : Nat} (c : LTp S b fs ts p k) : fs.length ≤ S.n := nodup_lt _ _ c.nd fun q hq => (c.lt q hq).2
end NH
/-! the cut of a run -/
namespace NH
def leastN (l : List Nat) : Nat := l.min?.getD 0
theorem leastN_mem {l : List Nat} (h : l ≠ []) : leastN l ∈ l ∧ ∀ y ∈ l, leastN l ≤ y := by
  unfold leastN
  cases e : l.min? with
  | none => exact absurd (List.min?_eq_none_iff.mp e) h
  | some m =>
    have := List.min?_eq_some_iff.mp e
    exact ⟨this.1, this.2⟩
theorem leastN_eq {l : List Nat} {m : Nat} (h : m ∈ l) (h2 : ∀ y ∈ l, m ≤ y) : leastN l = m := by
  have hne : l ≠ [] := fun e => by rw [e] at h; cases h
  have := leastN_mem hne
  exact Nat.le_antisymm (this.2 m h) (h2 _ this.1)
def Snd.turn (S : Snd) (way : List Nat) : List Nat := way.drop ((way.map S.src).idxOf (leastN (way.map S.src))) ++ way.take ((way.map S.src).idxOf (leastN (way.map S.src)))
def Snd.grow (S : Snd) (path : List Nat) (i : Nat) : List Nat × Option (List Nat) :=
  if S.tgt i ∈ (path ++ [i]).map S.src then ((path ++ [i]).take (((path ++ [i]).map S.src).idxOf (S.tgt i)), some (S.turn ((path ++ [i]).drop (((path ++ [i]).map S.src).idxOf (S.tgt i))))) else (path ++ [i], none)
def Snd.cut1 (S : Snd) (st : List (Nat × List Nat) × List Nat) (j i : Nat) : List (Nat × List Nat) × List Nat :=
  match S.grow st.2 i with
  | (p, none) => (st.1, p)
  | (p, some r) => (st.1 ++ [(j, r)], p)
def Snd.cutN (S : Snd) (run : List Nat) : Nat → List (Nat × List Nat) × List Nat
  | 0 => ([], [])
  | j + 1 => match run[j]? with
    | none => S.cutN run j
    | some i => S.cut1 (S.cutN run j) j i
theorem Snd.cutN_succ {S : Snd} {run : List Nat} {j : Nat} (h : j < run.length) : S.cutN run (j + 1) = S.cut1 (S.cutN run j) j run[j] := by
  show (match run[j]? with
    | none => S.cutN run j
    | some i => S.cut1 (S.cutN run j) j i) = _
  rw [List.getElem?_eq_getElem h]
/-- a way with distinct places, but for its end -/
structure Snd.Path (S : Snd) (p : Nat) (way : List Nat) (q : Nat) : Prop where
  chain : S.Chain p way q
  nd : (way.map S.src).Nodup
theorem Snd.Path.len {S : Snd} {nk nh p q : Nat} {way : List Nat} (o : S.Ok nk nh) (h : S.Path p way q) : way.length ≤ S.n := by
  have := nodup_lt S.n _ h.nd fun x hx => by
    obtain ⟨j, hj, rfl⟩ := List.mem_map.mp hx
    obtain ⟨a, _, m, e, _⟩ := Snd.at (h.chain.lt j hj)
    rw [e]
    exact o.src a m
  simpa using this
theorem Snd.turn_perm (S : Snd) (way : List Nat) : (S.turn way).Perm way := by
  unfold Snd.turn
  refine List.perm_append_comm.trans ?_
  rw [List.take_append_drop]
theorem Snd.turn_mem {S : Snd} {way : List Nat} {i : Nat} : i ∈ S.turn way ↔ i ∈ way := (S.turn_perm way).mem_iff
theorem Snd.turn_len (S : Snd) (way : List Nat) : (S.turn way).length = way.length := (S.turn_perm way).length_eq
/-- a chain, from the place where its i-th arrow begins -/
theorem Snd.Chain.at_ {S : Snd} : ∀ {r : List Nat} {p q : Nat} (k : Nat) (h : k < r.length), S.Chain p r q → S.Chain p (r.take k) (S.src r[k]) ∧ S.Chain (S.src r[k]) (r.drop k) q
  | i :: r, _, _, 0, _, ⟨h1, h2, h3⟩ => ⟨h2.symm, h1, rfl, h3⟩
  | i :: r, _, _, k + 1, h, ⟨h1, h2, h3⟩ => by
    obtain ⟨a, b⟩ := Snd.Chain.at_ k (by simpa using h) h3
    exact ⟨⟨h1, h2, a⟩, b⟩
theorem idxOf_map {S : Snd} {way : List Nat} {x : Nat} (h : x ∈ way.map S.src) : ∃ hb : (way.map S.src).idxOf x < way.length, S.src (way[(way.map S.src).idxOf x]'hb) = x := by
  have h1 := List.idxOf_lt_length_iff.mpr h
  rw [List.length_map] at h1
  refine ⟨h1, ?_⟩
  have := List.getElem_idxOf (by rw [List.length_map]; exact h1 : (way.map S.src).idxOf x < (way.map S.src).length)
  rw [List.getElem_map] at this
  exact this
/-- a ring is turned -/
theorem Snd.Path.turned {S : Snd} {p : Nat} {way : List Nat} (h : S.Path p way p) (hne : way ≠ []) (hr : S.Reach p) : S.IsRing (S.turn way) (leastN (way.map S.src)) := by
  have hne' : way.map S.src ≠ [] := fun e => hne (List.map_eq_nil_iff.mp e)
  obtain ⟨m1, m2⟩ := leastN_mem hne'
  obtain ⟨hb, e⟩ := idxOf_map m1
  obtain ⟨c1, c2⟩ := h.chain.at_ _ hb
  rw [e] at c1 c2
  refine ⟨fun z => ?_, ?_, ?_, fun i hi => ?_, ?_⟩
  · have := S.turn_len way
    rw [z] at this
    exact hne (List.length_eq_zero_iff.mp this.symm)
  · exact c2.append c1
  · exact ((S.turn_perm way).map S.src).nodup_iff.mpr h.nd
  · exact m2 _ (List.mem_map.mpr ⟨i, Snd.turn_mem.mp hi, rfl⟩)
  · exact c1.reach hr
/-- what holds while a run is cut -/
structure Snd.CutI (S : Snd) (run : List Nat) (j : Nat) (st : List (Nat × List Nat) × List Nat) (e : Nat) : Prop where
  path : S.Path 0 st.2 e
  fresh : e ∉ st.2.map S.src
  end_ : S.Chain 0 (run.take j) e
  perm : (st.1.flatMap (·.2) ++ st.2).Perm (run.take j)
  ring : ∀ q ∈ st.1, ∃ b, S.IsRing q.2 b
  spot : ∀ q ∈ st.1, q.1 < j
  few : st.1.length ≤ j
theorem Snd.Chain.snoc {S : Snd} {r : List Nat} {p q i : Nat} (h : S.Chain p r q) (hi : i < S.arrows.length) (e : S.src i = q) : S.Chain p (r ++ [i]) (S.tgt i) := h.append ⟨hi, e, rfl⟩
theorem Snd.CutI.step {S : Snd} {run : List Nat} {j : Nat} {st : List (Nat × List Nat) × List Nat} {e : Nat} (c : S.CutI run j st e) (hj : j < run.length) (hl : run[j] < S.arrows.length) (hs : S.src run[j] = e) : S.CutI run (j + 1) (S.cut1 st j run[j]) (S.tgt run[j]) := by
  obtain ⟨rs, path⟩ := st
  have tk : run.take (j + 1) = run.take j ++ [run[j]] := by rw [List.take_add_one, List.getElem?_eq_getElem hj]; rfl
  have end' : S.Chain 0 (run.take (j + 1)) (S.tgt run[j]) := by rw [tk]; exact c.end_.snoc hl hs
  generalize run[j] = i at *
  have lc := c.path.chain.snoc hl hs
  have ln : ((path ++ [i]).map S.src).Nodup := by
    rw [List.map_append, List.nodup_append]
    refine ⟨c.path.nd, by simp, fun a ha b hb => ?_⟩
    have : b = S.src i := by simpa using hb
    rw [this, hs]
    intro z
    exact c.fresh (z ▸ ha)
  unfold Snd.cut1 Snd.grow
  show S.CutI run (j + 1) (match (if S.tgt i ∈ (path ++ [i]).map S.src then _ else _ : List Nat × Option (List Nat)) with
    | (p, none) => (rs, p)
    | (p, some r) => (rs ++ [(j, r)], p)) (S.tgt i)
  by_cases h : S.tgt i ∈ (path ++ [i]).map S.src
  · rw [if_pos h]
    obtain ⟨hb, e2⟩ := idxOf_map h
    generalize hbe : ((path ++ [i]).map S.src).idxOf (S.tgt i) = b at hb e2
    obtain ⟨c1, c2⟩ := lc.at_ _ hb
    rw [e2] at c1 c2
    have nd2 := ln
    rw [← List.take_append_drop b (path ++ [i]), List.map_append, List.nodup_append] at nd2
    obtain ⟨n1, n2, n3⟩ := nd2
    have hd : (path ++ [i]).drop b ≠ [] := fun z => by
      have := congrArg List.length z
      rw [List.length_drop] at this
      simp at this hb
      omega
    refine ⟨⟨c1, n1⟩, fun z => ?_, end', ?_, fun q hq => ?_, fun q hq => ?_, ?_⟩
    · refine n3 _ z (S.tgt i) ?_ rfl
      rw [List.drop_eq_getElem_cons hb, List.map_cons, e2]
      simp
    · rw [tk]
      show ((rs ++ [(j, S.turn ((path ++ [i]).drop b))]).flatMap (·.2) ++ (path ++ [i]).take b).Perm _
      rw [List.flatMap_append, List.flatMap_singleton]
      have p1 : (rs.flatMap (·.2) ++ S.turn ((path ++ [i]).drop b) ++ (path ++ [i]).take b).Perm (rs.flatMap (·.2) ++ (path ++ [i])) := by
        rw [List.append_assoc]
        refine List.Perm.append_left _ ?_
        refine (List.Perm.append_right _ (S.turn_perm _)).trans ?_
        refine List.perm_append_comm.trans ?_
        rw [List.take_append_drop]
      refine p1.trans ?_
      rw [← List.append_assoc]
      exact List.Perm.append_right _ c.perm
    · rcases List.mem_append.mp hq with z | z
      · exact c.ring q z
      · rw [List.mem_singleton.mp z]
        exact ⟨_, Snd.Path.turned ⟨c2, n2⟩ hd (c1.reach .zero)⟩
    · rcases List.mem_append.mp hq with z | z
      · exact Nat.lt_succ_of_lt (c.spot q z)
      · rw [List.mem_singleton.mp z]
        exact Nat.lt_succ_self j
    · have := c.few
      simp at this ⊢
      omega
  · rw [if_neg h]
    refine ⟨⟨lc, ln⟩, h, end', ?_, c.ring, fun q hq => Nat.lt_succ_of_lt (c.spot q hq), Nat.le_succ_of_le c.few⟩
    rw [tk]
    show (rs.flatMap (·.2) ++ (path ++ [i])).Perm _
    rw [← List.append_assoc]
    exact List.Perm.append_right _ c.perm
theorem Snd.CutI.init (S : Snd) (run : List Nat) : S.CutI run 0 ([], []) 0 := ⟨⟨rfl, List.nodup_nil⟩, by simp, rfl, by simp, fun q hq => absurd hq List.not_mem_nil, fun q hq => absurd hq List.not_mem_nil, Nat.le_refl _⟩
/-- a run: a chain from 0 -/
def Snd.IsRun (S : Snd) (run : List Nat) : Prop := ∃ e, S.Chain 0 run e
theorem Snd.cutI {S : Snd} {run : List Nat} (h : S.IsRun run) : ∀ j, j ≤ run.length → ∃ e, S.CutI run j (S.cutN run j) e
  | 0, _ => ⟨0, Snd.CutI.init S run⟩
  | j + 1, hj => by
    obtain ⟨e, c⟩ := Snd.cutI h j (by omega)
    obtain ⟨f, hf⟩ := h
    obtain ⟨c1, c2⟩ := hf.at_ j (by omega)
    rw [Snd.cutN_succ (by omega)]
    exact ⟨_, c.step (by omega) (hf.lt _ (List.getElem_mem _)) (c1.det c.end_)⟩
/-- the rounds of a beginning of a run -/
theorem Snd.cutN_take {S : Snd} {run : List Nat} {at_ : Nat} : ∀ j, j ≤ at_ → S.cutN (run.take at_) j = S.cutN run j
  | 0, _ => rfl
  | j + 1, h => by
    have ih := Snd.cutN_take (S := S) (run := run) (at_ := at_) j (by omega)
    show (match (run.take at_)[j]? with
      | none => S.cutN (run.take at_) j
      | some i => S.cut1 (S.cutN (run.take at_) j) j i) = (match run[j]? with
      | none => S.cutN run j
      | some i => S.cut1 (S.cutN run j) j i)
    rw [ih, List.getElem?_take_of_lt (show j < at_ by omega)]
theorem Snd.cut1_fst (S : Snd) (st : List (Nat × List Nat) × List Nat) (j i : Nat) : ∃ l, (S.cut1 st j i).1 = st.1 ++ l ∧ ∀ q ∈ l, q.1 = j := by
  unfold Snd.cut1
  cases e : S.grow st.2 i with
  | mk p o =>
    cases o with
    | none => exact ⟨[], by simp, fun q hq => absurd hq List.not_mem_nil⟩
    | some r => exact ⟨[(j, r)], rfl, fun q hq => by rw [List.mem_singleton.mp hq]⟩
theorem Snd.cutN_spots (S : Snd) (run : List Nat) : ∀ j, ∀ q ∈ (S.cutN run j).1, q.1 < j
  | 0, q, hq => absurd hq List.not_mem_nil
  | j + 1, q, hq => by
    have ih := Snd.cutN_spots S run j
    change q ∈ (match run[j]? with
      | none => S.cutN run j
      | some i => S.cut1 (S.cutN run j) j i).1 at hq
    cases e : run[j]? with
    | none =>
      rw [e] at hq
      exact Nat.lt_succ_of_lt (ih q hq)
    | some i =>
      rw [e] at hq
      obtain ⟨l, e1, e2⟩ := S.cut1_fst (S.cutN run j) j i
      have hq' : q ∈ (S.cut1 (S.cutN run j) j i).1 := hq
      rw [e1] at hq'
      rcases List.mem_append.mp hq' with z | z
      · exact Nat.lt_succ_of_lt (ih q z)
      · rw [e2 q z]
        exact Nat.lt_succ_self j
theorem Snd.cutN_filter (S : Snd) (run : List Nat) (at_ : Nat) : ∀ d, (S.cutN run (at_ + d)).1.filter (fun q => decide (q.1 < at_)) = (S.cutN run at_).1
  | 0 => List.filter_eq_self.mpr fun q hq => decide_eq_true (S.cutN_spots run at_ q hq)
  | d + 1 => by
    have ih := Snd.cutN_filter S run at_ d
    show ((match run[at_ + d]? with
      | none => S.cutN run (at_ + d)
      | some i => S.cut1 (S.cutN run (at_ + d)) (at_ + d) i).1).filter _ = _
    cases e : run[at_ + d]? with
    | none => exact ih
    | some i =>
      obtain ⟨l, e1, e2⟩ := S.cut1_fst (S.cutN run (at_ + d)) (at_ + d) i
      show ((S.cut1 (S.cutN run (at_ + d)) (at_ + d) i).1).filter _ = _
      rw [e1, List.filter_append, ih, List.filter_eq_nil_iff.mpr (fun q hq => by rw [e2 q hq]; simp), List.append_nil]
theorem Snd.cutN_prefix (S : Snd) (run : List Nat) (at_ : Nat) (h : at_ ≤ run.length) : (S.cutN (run.take at_) (run.take at_).length).1 = (S.cutN run run.length).1.filter fun q => decide (q.1 < at_) := by
  have e : (run.take at_).length = at_ := by rw [List.length_take]; omega
  rw [e, Snd.cutN_take at_ (Nat.le_refl _)]
  have := Snd.cutN_filter S run at_ (run.length - at_)
  rw [show at_ + (run.length - at_) = run.length by omega] at this
  exact this.symm
end NH
/-! the greatest mean bounds every ring -/
namespace NH
theorem sum_app (a b : List Int) : (a ++ b).sum = a.sum + b.sum := List.sum_append
theorem Snd.gain_app (S : Snd) (t : Tar) (a b : List Nat) : S.gain t (a ++ b) = S.gain t a + S.gain t b := by simp [Snd.gain, List.sum_append]
theorem Snd.gain_one (S : Snd) (t : Tar) (i : Nat) : S.gain t [i] = S.gain1 t i := by simp [Snd.gain]
theorem Snd.gain_perm {S : Snd} {t : Tar} {a b : List Nat} (h : a.Perm b) : S.gain t a = S.gain t b := by
  unfold Snd.gain
  induction h with
  | nil => rfl
  | cons x _ ih => simp [ih]
  | swap x y l => simp; omega
  | trans _ _ h1 h2 => rw [h1, h2]
theorem nodup_sub {α : Type} [DecidableEq α] : ∀ {l m : List α}, l.Nodup → (∀ x ∈ l, x ∈ m) → l.length ≤ m.length
  | [], _, _, _ => Nat.zero_le _
  | a :: l, m, h, hs => by
    obtain ⟨h1, h2⟩ := List.nodup_cons.mp h
    have ih := nodup_sub (l := l) (m := m.erase a) h2 fun x hx => (List.mem_erase_of_ne (fun (e : x = a) => h1 (by rw [← e]; exact hx))).mpr (hs x (List.mem_cons_of_mem _ hx))
    have hm := List.length_erase_of_mem (hs a (by simp))
    have hp := List.length_pos_of_mem (hs a (by simp))
    rw [List.length_cons]
    omega
/-- the chain without a repeated place is shorter than the number of places -/
theorem Snd.short {S : Snd} (ns : List Nat) (hall : ∀ x, S.Reach x → x ∈ ns) : ∀ (m : Nat) (w : List Nat) (v : Nat), w.length = m → S.Chain 0 w v → ∃ w', S.Chain 0 w' v ∧ w'.length < ns.length := by
  intro m
  induction m using Nat.strongRecOn with
  | ind m ih =>
    intro w v hm hc
    by_cases h : w.length < ns.length
    · exact ⟨w, hc, h⟩
    · -- the places: sources, and the end
      by_cases nd : (w.map S.src ++ [v]).Nodup
      · exfalso
        have hsub : ∀ x ∈ w.map S.src ++ [v], x ∈ ns := fun x hx => by
          rcases List.mem_append.mp hx with z | z
          · obtain ⟨i, hi, rfl⟩ := List.mem_map.mp z
            obtain ⟨k, hk, rfl⟩ := List.getElem_of_mem hi
            obtain ⟨c1, _⟩ := hc.at_ k hk
            exact hall _ (c1.reach .zero)
          · rw [List.mem_singleton.mp z]
            exact hall _ (hc.reach .zero)
        have := nodup_sub nd hsub
        simp at this
        omega
      · -- two places are the same
        have : ∃ k, ∃ hk : k < w.length, ∃ l, k < l ∧ ((∃ hl : l < w.length, S.src w[k] = S.src w[l]) ∨ (l = w.length ∧ S.src w[k] = v)) := by
          apply Classical.byContradiction
          intro hno
          refine nd ?_
          rw [List.Nodup, List.pairwise_iff_getElem]
          intro i j hi hj hij
          simp only [List.length_append, List.length_map, List.length_singleton] at hi hj
          have hi' : i < w.length := by omega
          intro e
          refine hno ⟨i, hi', j, hij, ?_⟩
          by_cases hj' : j < w.length
          · left
            refine ⟨hj', ?_⟩
            rw [List.getElem_append_left (by simpa using hi'), List.getElem_append_left (by simpa using hj')] at e
            simpa using e
          · right
            have ej : j = w.length := by omega
            subst ej
            refine ⟨rfl, ?_⟩
            rw [List.getElem_append_left (by simpa using hi'), List.getElem_append_right (by simp)] at e
            simpa using e
        obtain ⟨k, hk, l, hkl, hcase⟩ := this
        obtain ⟨c1, c2⟩ := hc.at_ k hk
        rcases hcase with ⟨hl, e⟩ | ⟨rfl, e⟩
        · obtain ⟨d1, d2⟩ := hc.at_ l hl
          rw [← e] at d2
          have c3 := c1.append d2
          exact ih _ (by rw [← hm, List.length_append, List.length_take, List.length_drop]; omega) _ v rfl c3
        · rw [e] at c1
          exact ih _ (by rw [← hm, List.length_take]; omega) _ v rfl c1
/-- the mean back of v is at most f -/
def Snd.BackLe (S : Snd) (t : Tar) (n v : Nat) (f : Int × Int) : Prop :=
  ∃ k x y, k < n ∧ (∀ w, S.Chain 0 w v → w.length = n → S.gain t w ≤ x) ∧ (∃ w, S.Chain 0 w v ∧ w.length = k ∧ S.gain t w = y) ∧ (x - y) * f.2 ≤ f.1 * ((n : Int) - (k : Int))
/-- all values of chains are bounded by those of short ones -/
theorem Snd.karp_short {S : Snd} {t : Tar} {n : Nat} {f : Int × Int} (hf : 0 < f.2) (h : ∀ v, (∃ w, S.Chain 0 w v ∧ w.length = n) → S.BackLe t n v f) : ∀ (m : Nat) (w : List Nat) (v : Nat), w.length = m → S.Chain 0 w v →
    ∃ w', S.Chain 0 w' v ∧ (w'.length < n ∨ w'.length = 0) ∧ S.gain t w * f.2 - f.1 * (w.length : Int) ≤ S.gain t w' * f.2 - f.1 * (w'.length : Int) := by
  intro m
  induction m using Nat.strongRecOn with
  | ind m ih =>
    intro w v hm hc
    by_cases hl : w.length < n
    · exact ⟨w, hc, .inl hl, Int.le_refl _⟩
    · have e := (List.take_append_drop n w).symm
      have lt : (w.take n).length = n := by rw [List.length_take]; omega
      rw [e] at hc
      obtain ⟨u, c1, c2⟩ := hc.split
      obtain ⟨k, x, y, hk, hx, ⟨w0, c0, l0, g0⟩, hle⟩ := h u ⟨_, c1, lt⟩
      have hx1 := hx _ c1 lt
      have c3 := c0.append c2
      obtain ⟨w', c', s', le'⟩ := ih (w0 ++ w.drop n).length (by rw [List.length_append, List.length_drop, ← hm]; omega) _ v rfl c3
      refine ⟨w', c', s', Int.le_trans ?_ le'⟩
      have g1 : S.gain t w = S.gain t (w.take n) + S.gain t (w.drop n) := by rw [← Snd.gain_app, ← e]
      rw [g1, Snd.gain_app, g0, List.length_append, List.length_drop, l0]
      have h1 : S.gain t (w.take n) * f.2 ≤ x * f.2 := Int.mul_le_mul_of_nonneg_right hx1 (Int.le_of_lt hf)
      have h2 : (x - y) * f.2 = x * f.2 - y * f.2 := Int.sub_mul ..
      rw [h2] at hle
      have h3 : f.1 * ((n : Int) - (k : Int)) = f.1 * n - f.1 * k := Int.mul_sub ..
      rw [h3] at hle
      have h4 : f.1 * (((k + (w.length - n) : Nat)) : Int) = f.1 * k + f.1 * (w.length : Int) - f.1 * n := by
        have : ((k + (w.length - n) : Nat) : Int) = (k : Int) + (w.length : Int) - (n : Int) := by omega
        rw [this, Int.mul_sub, Int.mul_add]
      rw [h4, Int.add_mul, Int.add_mul]
      omega
theorem sumAbs_nonneg (g : Nat → Int) : ∀ l : List Nat, 0 ≤ (l.map fun i => (g i).natAbs).sum
  | _ => Nat.zero_le _
theorem le_sum_of_mem (g : Nat → Nat) : ∀ (l : List Nat) (i : Nat), i ∈ l → g i ≤ (l.map g).sum
  | a :: l, i, h => by
    rw [List.map_cons, List.sum_cons]
    rcases List.mem_cons.mp h with z | z
    · rw [z]; omega
    · have := le_sum_of_mem g l i z
      omega
/-- the value of a chain, by its length -/
theorem Snd.value_le {S : Snd} (g : Nat → Int) (C : Nat) (h : ∀ i, i < S.arrows.length → g i ≤ C) : ∀ (w : List Nat) (p v : Nat), S.Chain p w v → (w.map g).sum ≤ (w.length : Int) * C
  | [], _, _, _ => by simp
  | i :: w, _, v, ⟨h1, _, h3⟩ => by
    have ih := Snd.value_le g C h w _ v h3
    have := h i h1
    rw [List.map_cons, List.sum_cons, List.length_cons, Int.natCast_succ, Int.add_mul]
    omega
theorem Snd.shift (S : Snd) (t : Tar) (f : Int × Int) : ∀ w : List Nat, (w.map fun i => S.gain1 t i * f.2 - f.1).sum = S.gain t w * f.2 - f.1 * (w.length : Int)
  | [] => by simp [Snd.gain]
  | i :: w => by
    have ih := Snd.shift S t f w
    rw [List.map_cons, List.sum_cons, ih]
    have e : S.gain t (i :: w) = S.gain1 t i + S.gain t w := by simp [Snd.gain]
    rw [e, List.length_cons, Int.natCast_succ, Int.mul_add, Int.add_mul]
    omega
def rep (r : List Nat) : Nat → List Nat
  | 0 => []
  | m + 1 => rep r m ++ r
theorem rep_chain {S : Snd} {r : List Nat} {b : Nat} (h : S.Chain b r b) : ∀ m, S.Chain b (rep r m) b
  | 0 => rfl
  | m + 1 => (rep_chain h m).append h
theorem rep_sum (g : Nat → Int) (r : List Nat) : ∀ m, ((rep r m).map g).sum = (m : Int) * (r.map g).sum
  | 0 => by simp [rep]
  | m + 1 => by
    have ih := rep_sum g r m
    show ((rep r m ++ r).map g).sum = _
    rw [List.map_append, List.sum_append, ih, Int.natCast_succ, Int.add_mul]
    omega
theorem Snd.karp {S : Snd} {t : Tar} {n : Nat} {f : Int × Int} (hf : 0 < f.2) (h : ∀ v, (∃ w, S.Chain 0 w v ∧ w.length = n) → S.BackLe t n v f) {r : List Nat} {b : Nat} (hr : S.IsRing r b) : S.gain t r * f.2 ≤ f.1 * (r.length : Int) := by
  apply Classical.byContradiction
  intro hno
  have hpos : 1 ≤ S.gain t r * f.2 - f.1 * (r.length : Int) := by omega
  -- a chain to b
  have ⟨w0, c0⟩ : ∃ w0, S.Chain 0 w0 b := by
    have := hr.reach
    clear hno hpos hr
    induction this with
    | zero => exact ⟨[], rfl⟩
    | step hi _ ih =>
      obtain ⟨w, c⟩ := ih
      exact ⟨w ++ [_], c.snoc hi rfl⟩
  let g : Nat → Int := fun i => S.gain1 t i * f.2 - f.1
  let C : Nat := ((List.range S.arrows.length).map fun i => (g i).natAbs).sum
  have hC : ∀ i, i < S.arrows.length → g i ≤ C := fun i hi => by
    have := le_sum_of_mem (fun i => (g i).natAbs) (List.range S.arrows.length) i (List.mem_range.mpr hi)
    have h2 : g i ≤ ((g i).natAbs : Int) := Int.le_natAbs
    have h3 : ((g i).natAbs : Int) ≤ (C : Int) := by exact_mod_cast this
    omega
  have hb : ∀ (w : List Nat) (v : Nat), S.Chain 0 w v → (w.map g).sum ≤ (n : Int) * C := fun w v c => by
    obtain ⟨w', c', s', le'⟩ := Snd.karp_short hf h w.length w v rfl c
    rw [← Snd.shift, ← Snd.shift] at le'
    have h1 := Snd.value_le g C hC w' 0 v c'
    have h2 : (w'.length : Int) * C ≤ (n : Int) * C := by
      apply Int.mul_le_mul_of_nonneg_right
      · omega
      · omega
    exact Int.le_trans le' (Int.le_trans h1 h2)
  have key : ∀ m : Nat, (w0.map g).sum + (m : Int) ≤ (n : Int) * C := fun m => by
    have := hb _ _ (c0.append (rep_chain hr.chain m))
    rw [List.map_append, List.sum_append, rep_sum] at this
    have e : (r.map g).sum = S.gain t r * f.2 - f.1 * (r.length : Int) := Snd.shift S t f r
    rw [e] at this
    have h1 : (m : Int) * 1 ≤ (m : Int) * (S.gain t r * f.2 - f.1 * (r.length : Int)) := Int.mul_le_mul_of_nonneg_left hpos (by omega)
    omega
  have := key ((n : Int) * C - (w0.map g).sum + 1).toNat
  omega
end NH
/-! few rings: all arrows but five go up by one -/
namespace NH
structure ThinM (pos : Nat → Nat) (M : List ((Nat × Nat) × Bool)) (k : Nat) : Prop where
  cnt : M.countP (·.2) ≤ k
  step : ∀ m ∈ M, m.2 = false → pos m.1.2 = pos m.1.1 + 1
  dist : M.Pairwise fun a b => a.2 = false → b.2 = false → pos a.1.1 ≠ pos b.1.1
theorem ThinM.perm {pos : Nat → Nat} {M M' : List ((Nat × Nat) × Bool)} {k : Nat} (h : ThinM pos M k) (p : M'.Perm M) : ThinM pos M' k :=
  ⟨by rw [p.countP_eq]; exact h.cnt, fun m hm => h.step m (p.mem_iff.mp hm), (p.pairwise_iff (fun {a b} r h1 h2 e => r h2 h1 e.symm)).mpr h.dist⟩
theorem ThinM.snoc {pos : Nat → Nat} {M : List ((Nat × Nat) × Bool)} {k : Nat} (h : ThinM pos M k) (q : Nat × Nat) : ThinM pos (M ++ [(q, true)]) (k + 1) := by
  refine ⟨?_, fun m hm hf => ?_, ?_⟩
  · rw [List.countP_append]
    have := h.cnt
    simp
    omega
  · rcases List.mem_append.mp hm with z | z
    · exact h.step m z hf
    · rw [List.mem_singleton.mp z] at hf
      cases hf
  · rw [List.pairwise_append]
    exact ⟨h.dist, by simp, fun a _ b hb _ h2 => by rw [List.mem_singleton.mp hb] at h2; cases h2⟩
theorem ThinM.take {pos : Nat → Nat} {M : List ((Nat × Nat) × Bool)} {k : Nat} (h : ThinM pos M k) (n : Nat) : ThinM pos (M.take n) k := by
  refine ⟨Nat.le_trans ?_ h.cnt, fun m hm => h.step m (List.mem_of_mem_take hm), h.dist.sublist (List.take_sublist n M)⟩
  exact (List.take_sublist n M).countP_le
theorem ThinM.mono {pos : Nat → Nat} {M : List ((Nat × Nat) × Bool)} {k l : Nat} (h : ThinM pos M k) (e : k ≤ l) : ThinM pos M l := ⟨Nat.le_trans h.cnt e, h.step, h.dist⟩
/-- a way through distinct places -/
theorem ThinM.base {ns : List Nat} (nd : ns.Nodup) : ThinM (fun x => ns.idxOf x) ((ns.zip (ns.drop 1)).map fun q => (q, false)) 0 := by
  have len : (ns.zip (ns.drop 1)).length = ns.length - 1 := by simp
  have at_ : ∀ (i : Nat) (h : i < (ns.zip (ns.drop 1)).length), ∃ h1 : i < ns.length, ∃ h2 : i + 1 < ns.length, (ns.zip (ns.drop 1))[i] = (ns[i], ns[i + 1]) := fun i h => by
    rw [len] at h
    refine ⟨by omega, by omega, ?_⟩
    simp [List.getElem_zip, Nat.add_comm]
  refine ⟨?_, fun m hm _ => ?_, ?_⟩
  · rw [List.countP_map]
    simp [List.countP_eq_zero]
  · obtain ⟨q, hq, rfl⟩ := List.mem_map.mp hm
    obtain ⟨i, hi, rfl⟩ := List.getElem_of_mem hq
    obtain ⟨h1, h2, e⟩ := at_ i hi
    rw [e]
    show ns.idxOf ns[i + 1] = ns.idxOf ns[i] + 1
    rw [nd.idxOf_getElem _ h2, nd.idxOf_getElem _ h1]
  · rw [List.pairwise_map, List.pairwise_iff_getElem]
    intro i j hi hj hij _ _ e
    obtain ⟨h1, _, e1⟩ := at_ i hi
    obtain ⟨h2, _, e2⟩ := at_ j hj
    rw [e1, e2] at e
    change ns.idxOf ns[i] = ns.idxOf ns[j] at e
    rw [nd.idxOf_getElem _ h1, nd.idxOf_getElem _ h2] at e
    omega
def ThinL (L : List (Nat × Nat)) : Prop := ∃ pos M, L = M.map (·.1) ∧ ThinM pos M 5
theorem ThinL.take {L : List (Nat × Nat)} (h : ThinL L) (n : Nat) : ThinL (L.take n) := by
  obtain ⟨pos, M, rfl, h⟩ := h
  exact ⟨pos, M.take n, by rw [List.map_take], h.take n⟩
def Snd.Thin (S : Snd) : Prop := ThinL (S.arrows.map fun a => (a.src, a.tgt))
/-! rings, by the extras that they use -/
theorem Snd.Chain.tele {S : Snd} (f : Nat → Int) : ∀ {r : List Nat} {p q : Nat}, S.Chain p r q → (r.map fun i => f (S.tgt i) - f (S.src i)).sum = f q - f p
  | [], _, _, h => by
    cases h
    simp
  | i :: r, p, q, ⟨_, h2, h3⟩ => by
    have ih := Snd.Chain.tele f h3
    rw [List.map_cons, List.sum_cons, ih, h2]
    omega
theorem sum_filter (g : Nat → Int) (p : Nat → Bool) : ∀ l : List Nat, (l.map g).sum = ((l.filter p).map g).sum + ((l.filter fun x => !p x).map g).sum
  | [] => by simp
  | a :: l => by
    have ih := sum_filter g p l
    rw [List.map_cons, List.sum_cons, ih]
    cases h : p a <;> simp [List.filter_cons, h] <;> omega
theorem isum_perm' {a b : List Int} (h : a.Perm b) : a.sum = b.sum := by
  induction h with
  | nil => rfl
  | cons x _ ih => rw [List.sum_cons, List.sum_cons, ih]
  | swap x y l => simp only [List.sum_cons]; omega
  | trans _ _ h1 h2 => rw [h1, h2]
theorem perm_of_nodup {a b : List Nat} (ha : a.Nodup) (hb : b.Nodup) (h : ∀ x, x ∈ a ↔ x ∈ b) : a.Perm b := by
  rw [List.perm_iff_count]
  intro x
  by_cases hx : x ∈ a
  · rw [ha.count, hb.count, if_pos hx, if_pos ((h x).mp hx)]
  · rw [ha.count, hb.count, if_neg hx, if_neg (fun z => hx ((h x).mpr z))]
structure Extras (S : Snd) (pos : Nat → Nat) (E : List Nat) : Prop where
  len : E.length ≤ 5
  step : ∀ i, i < S.arrows.length → i ∉ E → pos (S.tgt i) = pos (S.src i) + 1
  dist : ∀ i j, i < S.arrows.length → j < S.arrows.length → i ∉ E → j ∉ E → pos (S.src i) = pos (S.src j) → i = j
theorem Snd.Thin.extras {S : Snd} (h : S.Thin) : ∃ pos E, Extras S pos E := by
  obtain ⟨pos, M, e, h⟩ := h
  have len : M.length = S.arrows.length := by
    have := congrArg List.length e
    simpa using this.symm
  have at_ : ∀ i (hi : i < S.arrows.length), (M[i]'(by omega)).1 = (S.src i, S.tgt i) := fun i hi => by
    obtain ⟨a, h1, _, h3, h4, _⟩ := Snd.at hi
    have e2 := congrArg (fun l : List (Nat × Nat) => l[i]?) e
    simp only [List.getElem?_map, h1] at e2
    rw [List.getElem?_eq_getElem (by omega)] at e2
    rw [h3, h4]
    exact (Option.some.inj e2).symm
  refine ⟨pos, (List.range M.length).filter (fun i => (M[i]?.map (·.2)).getD false), ?_, fun i hi hn => ?_, fun i j hi hj h1 h2 hp => ?_⟩
  · refine Nat.le_trans (Nat.le_of_eq ?_) h.cnt
    rw [← List.countP_eq_length_filter]
    have : M = (List.range M.length).map fun i => M[i]?.getD ((0, 0), false) := by
      apply List.ext_getElem
      · simp
      · intro n a b
        simp [a]
    conv => rhs; rw [this]
    rw [List.countP_map]
    refine List.countP_congr fun x hx => ?_
    have hx := List.mem_range.mp hx
    simp [hx]
  · have hm : i < M.length := by omega
    have hf : M[i].2 = false := by
      cases hb : M[i].2 with
      | false => rfl
      | true => exact absurd (List.mem_filter.mpr ⟨List.mem_range.mpr hm, by rw [List.getElem?_eq_getElem hm]; exact hb⟩) hn
    have := h.step M[i] (List.getElem_mem hm) hf
    rw [at_ i hi] at this
    exact this
  · have f : ∀ i, i < S.arrows.length → i ∉ (List.range M.length).filter (fun i => (M[i]?.map (·.2)).getD false) → ∃ hm : i < M.length, M[i].2 = false := fun i hi hn => by
      have hm : i < M.length := by omega
      refine ⟨hm, ?_⟩
      cases hb : M[i].2 with
      | false => rfl
      | true => exact absurd (List.mem_filter.mpr ⟨List.mem_range.mpr hm, by rw [List.getElem?_eq_getElem hm]; exact hb⟩) hn
    obtain ⟨hm1, f1⟩ := f i hi h1
    obtain ⟨hm2, f2⟩ := f j hj h2
    have pw := List.pairwise_iff_getElem.mp h.dist
    rcases Nat.lt_trichotomy i j with z | z | z
    · have := pw i j hm1 hm2 z f1 f2
      rw [at_ i hi, at_ j hj] at this
      exact absurd hp this
    · exact z
    · have := pw j i hm2 hm1 z f2 f1
      rw [at_ i hi, at_ j hj] at this
      exact absurd hp.symm this
theorem Snd.IsRing.nodup {S : Snd} {r : List Nat} {b : Nat} (h : S.IsRing r b) : r.Nodup := by
  have := h.nd
  rw [List.Nodup, List.pairwise_map] at this
  exact this.imp fun h e => h (by rw [e])
/-- the same extras, the same arrows -/
theorem Extras.sub {S : Snd} {pos : Nat → Nat} {E : List Nat} (x : Extras S pos E) {r s : List Nat} {b c : Nat} (hr : S.IsRing r b) (hs : S.IsRing s c) (h : ∀ e ∈ E, e ∈ r ↔ e ∈ s) : ∀ i ∈ r, i ∈ s := by
  intro i hi
  by_cases hE : i ∈ E
  · exact (h i hE).mp hi
  · have il := hr.chain.lt i hi
    let f : Nat → Int := fun p => if pos (S.src i) < pos p then 1 else 0
    let g : Nat → Int := fun j => f (S.tgt j) - f (S.src j)
    have g0 : ∀ j, j < S.arrows.length → j ∉ E → g j = if pos (S.src j) = pos (S.src i) then 1 else 0 := fun j hj hn => by
      have := x.step j hj hn
      show (if pos (S.src i) < pos (S.tgt j) then (1 : Int) else 0) - (if pos (S.src i) < pos (S.src j) then 1 else 0) = _
      rw [this]
      by_cases a : pos (S.src i) < pos (S.src j)
      · rw [if_pos (by omega), if_pos a, if_neg (by omega)]
        rfl
      · by_cases d : pos (S.src j) = pos (S.src i)
        · rw [if_pos (by omega), if_neg a, if_pos d]
          rfl
        · rw [if_neg (by omega), if_neg a, if_neg d]
          rfl
    have sr : (r.map g).sum = 0 := by
      have := hr.chain.tele f
      rw [Int.sub_self] at this
      exact this
    have ss : (s.map g).sum = 0 := by
      have := hs.chain.tele f
      rw [Int.sub_self] at this
      exact this
    rw [sum_filter g (fun j => decide (j ∈ E)) r] at sr
    rw [sum_filter g (fun j => decide (j ∈ E)) s] at ss
    have pe : (r.filter fun j => decide (j ∈ E)).Perm (s.filter fun j => decide (j ∈ E)) := perm_of_nodup (hr.nodup.filter _) (hs.nodup.filter _) fun y => by
      simp only [List.mem_filter, decide_eq_true_eq]
      exact ⟨fun z => ⟨(h y z.2).mp z.1, z.2⟩, fun z => ⟨(h y z.2).mpr z.1, z.2⟩⟩
    have eq1 := isum_perm' (pe.map g)
    have nn : ∀ l : List Nat, (∀ j ∈ l, j < S.arrows.length) → (∀ j ∈ l, j ∉ E) → 0 ≤ (l.map g).sum ∧ ((∃ j ∈ l, pos (S.src j) = pos (S.src i)) → 1 ≤ (l.map g).sum) ∧ (1 ≤ (l.map g).sum → ∃ j ∈ l, pos (S.src j) = pos (S.src i)) := fun l => by
      induction l with
      | nil => exact fun _ _ => ⟨Int.le_refl _, fun ⟨j, hj, _⟩ => absurd hj List.not_mem_nil, fun z => absurd z (by simp)⟩
      | cons a l ih =>
        intro h1 h2
        obtain ⟨i1, i2, i3⟩ := ih (fun j hj => h1 j (List.mem_cons_of_mem _ hj)) (fun j hj => h2 j (List.mem_cons_of_mem _ hj))
        have ga := g0 a (h1 a (by simp)) (h2 a (by simp))
        rw [List.map_cons, List.sum_cons, ga]
        by_cases d : pos (S.src a) = pos (S.src i)
        · rw [if_pos d]
          exact ⟨by omega, fun _ => by omega, fun _ => ⟨a, by simp, d⟩⟩
        · rw [if_neg d]
          refine ⟨by omega, fun ⟨j, hj, e⟩ => ?_, fun z => ?_⟩
          · rcases List.mem_cons.mp hj with y | y
            · rw [y] at e; exact absurd e d
            · have := i2 ⟨j, y, e⟩
              omega
          · obtain ⟨j, hj, e⟩ := i3 (by omega)
            exact ⟨j, List.mem_cons_of_mem _ hj, e⟩
    have fr := nn (r.filter fun j => !decide (j ∈ E)) (fun j hj => hr.chain.lt j (List.mem_filter.mp hj).1) (fun j hj => by simpa using (List.mem_filter.mp hj).2)
    have fs := nn (s.filter fun j => !decide (j ∈ E)) (fun j hj => hs.chain.lt j (List.mem_filter.mp hj).1) (fun j hj => by simpa using (List.mem_filter.mp hj).2)
    have h1 := fr.2.1 ⟨i, List.mem_filter.mpr ⟨hi, by simpa using hE⟩, rfl⟩
    obtain ⟨j, hj, ej⟩ := fs.2.2 (by omega)
    obtain ⟨js, jE⟩ := List.mem_filter.mp hj
    have jE : j ∉ E := by simpa using jE
    have := x.dist j i (hs.chain.lt j js) il jE hE ej
    rw [← this]
    exact js
/-- rings with the same arrows are the same -/
theorem chain_prefix {S : Snd} : ∀ {r s : List Nat} {p q u : Nat} (M : List Nat), S.Chain p r q → S.Chain p s u → (∀ i ∈ r, i ∈ M) → (∀ i ∈ s, i ∈ M) → (∀ i ∈ M, ∀ j ∈ M, S.src i = S.src j → i = j) → (∃ t, r ++ t = s) ∨ ∃ t, s ++ t = r
  | [], s, _, _, _, _, _, _, _, _, _ => .inl ⟨s, rfl⟩
  | i :: r, [], _, _, _, _, _, _, _, _, _ => .inr ⟨_, rfl⟩
  | i :: r, j :: s, p, q, u, M, ⟨h1, h2, h3⟩, ⟨k1, k2, k3⟩, hr, hs, hM => by
    have e : i = j := hM i (hr i (by simp)) j (hs j (by simp)) (h2.trans k2.symm)
    subst e
    rcases chain_prefix M h3 k3 (fun x hx => hr x (List.mem_cons_of_mem _ hx)) (fun x hx => hs x (List.mem_cons_of_mem _ hx)) hM with ⟨t, e⟩ | ⟨t, e⟩
    · exact .inl ⟨t, by rw [← e]; rfl⟩
    · exact .inr ⟨t, by rw [← e]; rfl⟩
theorem Snd.IsRing.begin_ {S : Snd} {r : List Nat} {b : Nat} (h : S.IsRing r b) : ∃ i ∈ r, S.src i = b := by
  cases r with
  | nil => exact absurd rfl h.ne
  | cons i r => exact ⟨i, by simp, h.chain.2.1⟩
theorem Snd.IsRing.same {S : Snd} {r s : List Nat} {b c : Nat} (hr : S.IsRing r b) (hs : S.IsRing s c) (h : ∀ i, i ∈ r ↔ i ∈ s) : r = s := by
  have hb : b = c := by
    obtain ⟨i, hi, e⟩ := hr.begin_
    obtain ⟨j, hj, e2⟩ := hs.begin_
    have h1 := hs.least i ((h i).mp hi)
    have h2 := hr.least j ((h j).mpr hj)
    omega
  subst hb
  have inj : ∀ i ∈ r, ∀ j ∈ r, S.src i = S.src j → i = j := fun i hi j hj e => by
    have nd := hr.nd
    rw [List.Nodup, List.pairwise_map, List.pairwise_iff_getElem] at nd
    obtain ⟨a, ha, rfl⟩ := List.getElem_of_mem hi
    obtain ⟨d, hd, rfl⟩ := List.getElem_of_mem hj
    rcases Nat.lt_trichotomy a d with z | z | z
    · exact absurd e (nd a d ha hd z)
    · subst z; rfl
    · exact absurd e.symm (nd d a hd ha z)
  have len : r.length = s.length := (perm_of_nodup hr.nodup hs.nodup h).length_eq
  rcases chain_prefix r hr.chain hs.chain (fun i hi => hi) (fun i hi => (h i).mpr hi) inj with ⟨t, e⟩ | ⟨t, e⟩
  · have : t = [] := by
      have := congrArg List.length e
      rw [List.length_append] at this
      exact List.length_eq_zero_iff.mp (by omega)
    rw [this, List.append_nil] at e
    exact e
  · have : t = [] := by
      have := congrArg List.length e
      rw [List.length_append] at this
      exact List.length_eq_zero_iff.mp (by omega)
    rw [this, List.append_nil] at e
    exact e.symm
def code (m : Nat → Bool) : List Nat → Nat
  | [] => 0
  | e :: E => (if m e = true then 1 else 0) + 2 * code m E
theorem code_lt (m : Nat → Bool) : ∀ E : List Nat, code m E < 2 ^ E.length
  | [] => by simp [code]
  | e :: E => by
    have ih := code_lt m E
    unfold code
    rw [List.length_cons, Nat.pow_succ]
    split <;> omega
theorem code_inj {m m' : Nat → Bool} : ∀ {E : List Nat}, code m E = code m' E → ∀ e ∈ E, m e = m' e
  | e :: E, h, x, hx => by
    unfold code at h
    have h1 : m e = m' e ∧ code m E = code m' E := by
      cases a : m e <;> cases b : m' e <;> simp [a, b] at h ⊢ <;> omega
    rcases List.mem_cons.mp hx with z | z
    · rw [z]; exact h1.1
    · exact code_inj h1.2 x z
/-- rings are few -/
theorem Snd.Thin.few {S : Snd} (h : S.Thin) {L : List (List Nat)} (nd : L.Nodup) (hL : ∀ r ∈ L, ∃ b, S.IsRing r b) : L.length ≤ 32 := by
  obtain ⟨pos, E, x⟩ := h.extras
  have p5 : 2 ^ E.length ≤ 32 := Nat.pow_le_pow_right (n := 2) (by omega) x.len
  have : (L.map fun r => code (fun e => decide (e ∈ r)) E).Nodup := by
    rw [List.Nodup, List.pairwise_map]
    refine List.Pairwise.imp_of_mem ?_ nd
    intro a b ha hb hab e
    obtain ⟨p, ra⟩ := hL a ha
    obtain ⟨q, rb⟩ := hL b hb
    have h1 : ∀ e ∈ E, e ∈ a ↔ e ∈ b := fun y hy => by
      have := code_inj e y hy
      exact decide_eq_decide.mp this
    exact hab (ra.same rb fun i => ⟨x.sub ra rb h1 i, x.sub rb ra (fun e he => (h1 e he).symm) i⟩)
  have := nodup_lt 32 _ this fun y hy => by
    obtain ⟨r, _, rfl⟩ := List.mem_map.mp hy
    exact Nat.lt_of_lt_of_le (code_lt _ _) p5
  simpa using this
end NH
/-! the rings that the law counts -/
namespace NH
structure En where
  w : List Nat
  i : Nat
def En.vis (e : En) (S : Snd) : List Nat := (e.w ++ [e.i]).map S.src
structure En.Ok (e : En) (S : Snd) : Prop where
  lt : ∀ x ∈ e.w ++ [e.i], x < S.arrows.length
  nd : (e.vis S).Nodup
def En.cnt (e : En) (S : Snd) (b : Nat) : Nat := (S.ring1 (fun t => decide (b < t)) b (S.n - (e.w.length + 1)) e.w (e.vis S) e.i).length
def Snd.total (S : Snd) (b : Nat) : Nat := (S.ringsU (fun t => decide (b < t)) b S.n [] b [b]).length
theorem flat_length {α β : Type} (f : α → List β) : ∀ l : List α, (l.flatMap f).length = (l.map fun x => (f x).length).sum
  | [] => rfl
  | a :: l => by rw [List.flatMap_cons, List.length_append, flat_length f l, List.map_cons, List.sum_cons]
theorem Snd.total_eq {S : Snd} {b : Nat} (hn : 1 ≤ S.n) : S.total b = ((S.outs b).map fun i => En.cnt ⟨[], i⟩ S b).sum := by
  unfold Snd.total
  rw [show S.n = (S.n - 1) + 1 by omega, Snd.ringsU_succ, flat_length]
  refine congrArg List.sum (List.map_congr_left fun i hi => ?_)
  have e : S.src i = b := (Snd.mem_outs.mp hi).2
  unfold En.cnt En.vis
  show (S.ring1 _ b (S.n - 1) [] [b] i).length = (S.ring1 _ b (S.n - (0 + 1)) [] ([S.src i]) i).length
  rw [e]
theorem En.one {e : En} {S : Snd} {b : Nat} (h : S.tgt e.i = b) : e.cnt S b = 1 := by
  unfold En.cnt Snd.ring1
  rw [if_pos h]
  rfl
theorem En.zero {e : En} {S : Snd} {b : Nat} (h : S.tgt e.i ≠ b) (h2 : ¬ (b < S.tgt e.i ∧ S.tgt e.i ∉ e.vis S)) : e.cnt S b = 0 := by
  unfold En.cnt Snd.ring1
  rw [if_neg h, if_neg (fun z => h2 ⟨of_decide_eq_true z.1, z.2⟩)]
  rfl
theorem En.Ok.fuel {e : En} {S : Snd} {nk nh : Nat} (o : e.Ok S) (ok : S.Ok nk nh) (ht : S.tgt e.i ∉ e.vis S) (hl : S.tgt e.i < S.n) : e.w.length + 2 ≤ S.n := by
  have : (e.vis S ++ [S.tgt e.i]).Nodup := by
    rw [List.nodup_append]
    exact ⟨o.nd, by simp, fun a ha c hc => by rw [List.mem_singleton.mp hc]; intro z; exact ht (z ▸ ha)⟩
  have := nodup_lt S.n _ this fun x hx => by
    rcases List.mem_append.mp hx with z | z
    · obtain ⟨j, hj, rfl⟩ := List.mem_map.mp z
      obtain ⟨a, _, m, e, _⟩ := Snd.at (o.lt j hj)
      rw [e]
      exact ok.src a m
    · rw [List.mem_singleton.mp z]; exact hl
  simp [En.vis] at this
  omega
theorem En.more {e : En} {S : Snd} {nk nh b : Nat} (o : e.Ok S) (ok : S.Ok nk nh) (hl : S.tgt e.i < S.n) (h : S.tgt e.i ≠ b) (h2 : b < S.tgt e.i) (h3 : S.tgt e.i ∉ e.vis S) :
    e.cnt S b = ((S.outs (S.tgt e.i)).map fun j => En.cnt ⟨e.w ++ [e.i], j⟩ S b).sum := by
  have hf := o.fuel ok h3 hl
  unfold En.cnt
  conv => lhs; unfold Snd.ring1
  rw [if_neg h, if_pos ⟨decide_eq_true h2, h3⟩, show S.n - (e.w.length + 1) = (S.n - (e.w.length + 2)) + 1 by omega, Snd.ringsU_succ, flat_length]
  refine congrArg List.sum (List.map_congr_left fun j hj => ?_)
  have ej : S.src j = S.tgt e.i := (Snd.mem_outs.mp hj).2
  have ev : e.vis S ++ [S.tgt e.i] = En.vis ⟨e.w ++ [e.i], j⟩ S := by
    unfold En.vis
    rw [List.map_append (l₁ := e.w ++ [e.i]), List.map_singleton, ej]
  rw [ev]
  show _ = (S.ring1 _ b (S.n - ((e.w ++ [e.i]).length + 1)) (e.w ++ [e.i]) _ j).length
  rw [List.length_append]
  rfl
theorem En.Ok.next {e : En} {S : Snd} {j : Nat} (o : e.Ok S) (h3 : S.tgt e.i ∉ e.vis S) (hj : j ∈ S.outs (S.tgt e.i)) : En.Ok ⟨e.w ++ [e.i], j⟩ S := by
  obtain ⟨h1, h2⟩ := Snd.mem_outs.mp hj
  refine ⟨fun x hx => ?_, ?_⟩
  · rcases List.mem_append.mp hx with z | z
    · exact o.lt x z
    · rw [List.mem_singleton.mp z]; exact h1
  · unfold En.vis
    rw [List.map_append (l₁ := e.w ++ [e.i]), List.nodup_append]
    refine ⟨o.nd, by simp, fun a ha c hc => ?_⟩
    have : c = S.tgt e.i := by
      rw [List.map_singleton] at hc
      rw [List.mem_singleton.mp hc, h2]
    rw [this]
    intro z
    exact h3 (z ▸ ha)
theorem En.Ok.first {S : Snd} {b j : Nat} (hj : j ∈ S.outs b) : En.Ok ⟨[], j⟩ S :=
  ⟨fun x hx => by rw [List.mem_singleton.mp hx]; exact (Snd.mem_outs.mp hj).1, by simp [En.vis]⟩
/-! the steps of that walk -/
def Snd.stp (S : Snd) (b : Nat) : Nat → Nat → List Nat → Nat
  | 0, _, _ => 0
  | f + 1, cur, vis => ((S.outs cur).map fun i => 1 + if S.tgt i = b then 0 else if b < S.tgt i ∧ S.tgt i ∉ vis then S.stp b f (S.tgt i) (vis ++ [S.tgt i]) else 0).sum
def Snd.steps (S : Snd) (b : Nat) : Nat := S.stp b S.n b [b]
def En.nod (e : En) (S : Snd) (b : Nat) : Nat := 1 + if S.tgt e.i = b then 0 else if b < S.tgt e.i ∧ S.tgt e.i ∉ e.vis S then S.stp b (S.n - (e.w.length + 1)) (S.tgt e.i) (e.vis S ++ [S.tgt e.i]) else 0
theorem Snd.steps_eq {S : Snd} {b : Nat} (hn : 1 ≤ S.n) : S.steps b = ((S.outs b).map fun i => En.nod ⟨[], i⟩ S b).sum := by
  unfold Snd.steps
  rw [show S.n = (S.n - 1) + 1 by omega]
  refine congrArg List.sum (List.map_congr_left fun i hi => ?_)
  have e : S.src i = b := (Snd.mem_outs.mp hi).2
  unfold En.nod En.vis
  show (1 + if S.tgt i = b then 0 else if b < S.tgt i ∧ S.tgt i ∉ [b] then S.stp b (S.n - 1) (S.tgt i) ([b] ++ [S.tgt i]) else 0) = 1 + if S.tgt i = b then 0 else if b < S.tgt i ∧ S.tgt i ∉ [S.src i] then S.stp b (S.n - (0 + 1)) (S.tgt i) ([S.src i] ++ [S.tgt i]) else 0
  rw [e]
theorem En.nod1 {e : En} {S : Snd} {b : Nat} (h : S.tgt e.i = b ∨ ¬ (b < S.tgt e.i ∧ S.tgt e.i ∉ e.vis S)) : e.nod S b = 1 := by
  unfold En.nod
  rcases h with h | h
  · rw [if_pos h]
  · rw [if_neg h, ite_self]
theorem En.nod2 {e : En} {S : Snd} {nk nh b : Nat} (o : e.Ok S) (ok : S.Ok nk nh) (hl : S.tgt e.i < S.n) (h : S.tgt e.i ≠ b) (h2 : b < S.tgt e.i) (h3 : S.tgt e.i ∉ e.vis S) :
    e.nod S b = 1 + ((S.outs (S.tgt e.i)).map fun j => En.nod ⟨e.w ++ [e.i], j⟩ S b).sum := by
  have hf := o.fuel ok h3 hl
  unfold En.nod
  rw [if_neg h, if_pos ⟨h2, h3⟩, show S.n - (e.w.length + 1) = (S.n - (e.w.length + 2)) + 1 by omega]
  refine congrArg (1 + ·) (congrArg List.sum (List.map_congr_left fun j hj => ?_))
  have ej : S.src j = S.tgt e.i := (Snd.mem_outs.mp hj).2
  have ev : e.vis S ++ [S.tgt e.i] = En.vis ⟨e.w ++ [e.i], j⟩ S := by
    unfold En.vis
    rw [List.map_append (l₁ := e.w ++ [e.i]), List.map_singleton, ej]
  rw [ev]
  show _ = 1 + if S.tgt j = b then 0 else if b < S.tgt j ∧ S.tgt j ∉ _ then S.stp b (S.n - ((e.w ++ [e.i]).length + 1)) (S.tgt j) _ else 0
  rw [List.length_append]
  rfl
end NH
/-! rules that the layer lacks, proved: xs[i] op= .., tuple * int, min and max of a tuple of ints -/
namespace NH
open PySem PySem.Spec PyProof.Rows L2
section
variable {X : Cx}
theorem get_list : PGet X (rIxL X.K) := by
  intro pins s σ H o i ov iv Q I ro ri h
  obtain ⟨p, xs, k, z, rfl, rfl, hq, he, q⟩ := h
  obtain rfl : ov = Value.ref p := ro
  obtain ⟨t, rfl⟩ := ri
  obtain ⟨its, rel, pl, hz⟩ := I.list hq
  obtain ⟨j, h1, h2, h3, h4, h5⟩ := atI_get he
  obtain ⟨w, ew, rw'⟩ := rel.get h2
  have len := rel.length
  have big := line63
  have done : EP X pins σ Q w s := ⟨z, H, I, rw', q⟩
  rcases Int.lt_or_le k 0 with neg | pos
  · refine wpAny_getItem_list_neg pl.isList neg (by rw [List.size_toArray]; omega) (by omega) ?_ done
    rw [seqIndex_neg neg h4] at h1
    have hj := Option.some.inj h1
    rw [List.size_toArray, ← len, hj]
    simpa using ew
  · refine wpAny_getItem_list pl.isList pos (by omega) ?_ done
    rw [seqIndex_of pos h5] at h1
    rw [Option.some.inj h1]
    simpa using ew
end
/-- an empty repetition: a new empty tuple -/
theorem tuple_mul0 (l : Addr) (items : Array Value) (n : Nat) (dd : Option Addr) (sl : Array (Option Value)) (u : Tok) (c1 : items.isEmpty = false) :
    Meets (Builtin.«tuple.__mul__» ⟨[.ref l, .int 0 u], []⟩) (fun _ R s => s.heap.get? l = some { cls := .type "tuple", dict := dd, data := .seq items n, slots := sl } ∧
      R (.ok (.ret (Value.ref s.heap.objs.size))) { s with heap := s.heap.push { cls := Value.type "tuple", data := Data.seq #[] }, toks := s.toks }) :=
  .of_wp fun prog w A R s h => by
    obtain ⟨hp, g, d, tk, os⟩ := s
    obtain ⟨hl, h⟩ := h
    have f1 := AutoSeq1.idx_int
    wp_walk using wpAny_loadPart' hl
    exact ⟨_, rfl, h⟩
/-- once: the tuple itself -/
theorem tuple_mul1 (l : Addr) (items : Array Value) (n : Nat) (dd : Option Addr) (sl : Array (Option Value)) (u : Tok) :
    Meets (Builtin.«tuple.__mul__» ⟨[.ref l, .int 1 u], []⟩) (fun _ R s => s.heap.get? l = some { cls := .type "tuple", dict := dd, data := .seq items n, slots := sl } ∧ R (.ok (.ret (Value.ref l))) s) :=
  .of_wp fun prog w A R s h => by
    obtain ⟨hp, g, d, tk, os⟩ := s
    obtain ⟨hl, h⟩ := h
    have f1 := AutoSeq1.idx_int
    wp_walk using wpAny_loadPart' hl
    exact ⟨_, rfl, h⟩
def rRepU : R2 := fun x y H Q => ∃ (l : Addr) (k : Int) (xs : List V), x = .ref l ∧ y = .int k ∧ H l = some (.tup xs) ∧ xs ≠ [] ∧ 0 ≤ k ∧ k ≤ 1000 ∧ xs.length ≤ 1000 ∧
  ∀ p H', Same H H' → H' p = some (.tup (List.replicate k.toNat xs).flatten) → Q (.ref p) H'
theorem op_repU {X : Cx} : OpR X (binaryOp .Mult) rRepU := by
  intro pins s σ H x y v u Q I rx ry h
  obtain ⟨l, k, xs, rfl, rfl, hT, hne, h0, h1, hz, q⟩ := h
  rcases Int.lt_or_le k 2 with small | big
  · obtain rfl : v = Value.ref l := rx
    obtain ⟨t, rfl⟩ := ry
    obtain ⟨its, rel, ⟨⟨cls, dd, data, sl⟩, ho, hc, n, hd⟩, _⟩ := I.tuple (SqT.of hT)
    simp only at hc hd
    subst hc hd
    have full : its.toArray.isEmpty = false := by
      cases its with
      | nil => exact absurd (List.eq_nil_of_length_eq_zero (show xs.length = 0 from rel.length)) hne
      | cons a b => rfl
    have cases01 : k = 0 ∨ k = 1 := by omega
    rcases cases01 with rfl | rfl
    · refine wpAny_binaryOp_repeat_ref (T := "tuple") (U := "int") (by decide) ⟨_, ho, rfl⟩ (fun s' => typeIs_int s' 0 t) noFill_tuple_mul F.fills_int_mul F.slot_int_rmul repeat_tuple F.slot_int_index.lookup
        (call_meets F.slot_int_rmul (typeIs_int s 0 t) F.entry_int_rmul (F.args_int_rmul_2 _ _) (int_rmul_tuple 0 t l its.toArray n dd sl)
          ⟨ho, rfl, ⟨_, ho, rfl⟩, call_meets F.slot_tuple_mul ⟨_, ho, rfl⟩ F.entry_tuple_mul (F.args_tuple_mul_2 _ _) (tuple_mul0 l its.toArray n dd sl t full) ⟨ho, ?_⟩⟩)
      have free := I.hok.fresh (Nat.le_refl s.heap.objs.size)
      exact ⟨.ref s.heap.objs.size, _, I.laid (t' := s.toks) (o := .tup []) (fun b ob q => Heap.get?_push_of_some _ q) (Nat.le_refl _) ⟨Nat.zero_le _, [], .nil, IsTup.new _ _⟩, rfl, q _ _ (Same.new (Same.refl H) free) upd_same⟩
    · refine wpAny_binaryOp_repeat_ref (T := "tuple") (U := "int") (by decide) ⟨_, ho, rfl⟩ (fun s' => typeIs_int s' 1 t) noFill_tuple_mul F.fills_int_mul F.slot_int_rmul repeat_tuple F.slot_int_index.lookup
        (call_meets F.slot_int_rmul (typeIs_int s 1 t) F.entry_int_rmul (F.args_int_rmul_2 _ _) (int_rmul_tuple 1 t l its.toArray n dd sl)
          ⟨ho, rfl, ⟨_, ho, rfl⟩, call_meets F.slot_tuple_mul ⟨_, ho, rfl⟩ F.entry_tuple_mul (F.args_tuple_mul_2 _ _) (tuple_mul1 l its.toArray n dd sl t) ⟨ho, ?_⟩⟩)
      refine ⟨.ref l, H, I, rfl, q l H (Same.refl H) ?_⟩
      rw [hT]
      congr 2
      show xs = (List.replicate 1 xs).flatten
      simp
  · exact op_repT pins s σ H _ _ v u Q I rx ry ⟨l, k, xs, rfl, rfl, SqT.of hT, hne, big, h1, hz, fun p np => q p _ (Same.new (Same.refl H) np) upd_same⟩
section
variable {prog : Program} {w : World} {A : Around} {E : Value → Shared → Prop} {s : Shared} {l : Addr}
/-- a tuple's iterator, just made: what call_min_walk, call_max_walk want of it -/
theorem tup_walk {vs : Array Value} (hh : A.handled = none) (hl : s.heap.IsTuple l vs) :
    Walks prog w A s.heap.objs.size [s.heap.objs.size, l] [s.heap.objs.size] vs.size (fun i v => vs[i]? = some v) (fun i h => h.IsTupleIter s.heap.objs.size l i ∧ h.IsTuple l vs) ∧
      ((s.heap.push { cls := .type "tuple_iterator", data := .fields #[.ref l, .int 0 0] }).IsTupleIter s.heap.objs.size l 0 ∧ (s.heap.push { cls := .type "tuple_iterator", data := .fields #[.ref l, .int 0 0] }).IsTuple l vs) ∧
      (∀ b ∈ [s.heap.objs.size, l], b < (s.heap.push { cls := .type "tuple_iterator", data := .fields #[.ref l, .int 0 0] }).objs.size) ∧
      ∀ h' : Heap, (∀ b o, b ∉ [s.heap.objs.size] → (s.heap.push { cls := .type "tuple_iterator", data := .fields #[.ref l, .int 0 0] }).get? b = some o → h'.get? b = some o) → ∀ b o, s.heap.get? b = some o → h'.get? b = some o := by
  have below : l < s.heap.objs.size := by
    obtain ⟨_, e, _⟩ := hl
    exact Heap.lt_size e
  refine ⟨Walks.tuple hh _ l (Nat.ne_of_lt below) vs, ⟨⟨_, Heap.get?_push_size _ rfl, rfl, rfl⟩, hl.push _⟩, fun b hb => ?_, fun h' hk b o e => ?_⟩
  · rw [Heap.size_push]
    simp only [List.mem_cons, List.not_mem_nil, or_false] at hb
    rcases hb with z | z
    · rw [z]; exact Nat.lt_succ_self _
    · rw [z]; exact Nat.lt_succ_of_lt below
  · refine hk b o (fun z => ?_) (Heap.get?_push_of_some _ e)
    rw [List.mem_singleton.mp z] at e
    exact absurd (Heap.lt_size e) (Nat.lt_irrefl _)
theorem min_tupI {its : List Value} {ns : List Int} {Q : Value → Shared → Prop} (hh : A.handled = none) (hl : IsTup s.heap l its.toArray) (hi : IntsAre its ns) (hne : 0 < ns.length)
    (h : ∀ h' tk M t', (∀ b o, s.heap.get? b = some o → h'.get? b = some o) → M ∈ ns → (∀ a, a ∈ ns → M ≤ a) → Q (.int M t') { s with heap := h', toks := tk }) : wpAny (model prog w) A (call (.builtin "min") [.ref l]) Q E s := by
  obtain ⟨xs, e⟩ := hi.allInts.items
  have vals : numsOf (intItems xs).toList = ns := by rw [← e]; exact hi.numsOf
  rw [nums_intItems] at vals
  subst vals
  rw [e] at hl
  have size : 0 < xs.size := by simpa using hne
  obtain ⟨walk, start, room, kept⟩ := tup_walk (prog := prog) (w := w) (A := A.in1) (s := s) hh hl
  refine call_min_walk (wpAny_pyIter_tuple hl ⟨_, _, _, _, _, _, _, rfl, walk, start, room, by simpa [intItems] using size, CmpOf.ints_lt (numAt xs) (fun _ _ => intItems_at), fun v h' tk hP hk => ?_⟩)
  obtain ⟨t, rfl⟩ := intItems_at (by simpa [intItems] using hP)
  obtain ⟨b1, b2⟩ := argBest_lt (numAt xs) (xs.size - 1)
  refine h h' tk _ t (kept h' hk) ?_ fun a ha => ?_
  · rw [numAt_eq]
    exact PySem.getD_mem (by rw [List.length_map, Array.length_toList]; omega)
  · obtain ⟨j, hj, rfl⟩ := mem_getD ha
    rw [List.length_map, Array.length_toList] at hj
    rw [← numAt_eq]
    exact b2 j (by omega)
theorem max_tupI {its : List Value} {ns : List Int} {Q : Value → Shared → Prop} (hh : A.handled = none) (hl : IsTup s.heap l its.toArray) (hi : IntsAre its ns) (hne : 0 < ns.length)
    (h : ∀ h' tk M t', (∀ b o, s.heap.get? b = some o → h'.get? b = some o) → M ∈ ns → (∀ a, a ∈ ns → a ≤ M) → Q (.int M t') { s with heap := h', toks := tk }) : wpAny (model prog w) A (call (.builtin "max") [.ref l]) Q E s := by
  obtain ⟨xs, e⟩ := hi.allInts.items
  have vals : numsOf (intItems xs).toList = ns := by rw [← e]; exact hi.numsOf
  rw [nums_intItems] at vals
  subst vals
  rw [e] at hl
  have size : 0 < xs.size := by simpa using hne
  obtain ⟨walk, start, room, kept⟩ := tup_walk (prog := prog) (w := w) (A := A.in1) (s := s) hh hl
  refine call_max_walk (wpAny_pyIter_tuple hl ⟨_, _, _, _, _, _, _, rfl, walk, start, room, by simpa [intItems] using size, CmpOf.ints_gt (numAt xs) (fun _ _ => intItems_at), fun v h' tk hP hk => ?_⟩)
  obtain ⟨t, rfl⟩ := intItems_at (by simpa [intItems] using hP)
  obtain ⟨b1, b2⟩ := argBest_gt (numAt xs) (xs.size - 1)
  refine h h' tk _ t (kept h' hk) ?_ fun a ha => ?_
  · rw [numAt_eq]
    exact PySem.getD_mem (by rw [List.length_map, Array.length_toList]; exact Nat.lt_of_le_of_lt b1 (by omega))
  · obtain ⟨j, hj, rfl⟩ := mem_getD ha
    rw [List.length_map, Array.length_toList] at hj
    rw [← numAt_eq]
    exact b2 j (by omega)
end
section
variable {X : Cx}
def rMinU (K : PySem.W.Frag) : List V → Hp → VK → Prop := fun vs H Q => ∃ (a : Addr) (ns : List Int), vs = [V.ref a] ∧ SqT K H a (ns.map V.int) ∧ 0 < ns.length ∧ ∀ m, m ∈ ns → (∀ y, y ∈ ns → m ≤ y) → Q (.int m) H
def rMaxU (K : PySem.W.Frag) : List V → Hp → VK → Prop := fun vs H Q => ∃ (a : Addr) (ns : List Int), vs = [V.ref a] ∧ SqT K H a (ns.map V.int) ∧ 0 < ns.length ∧ ∀ m, m ∈ ns → (∀ y, y ∈ ns → y ≤ m) → Q (.int m) H
theorem cr_minU (hc : X.calm = true) : CallR X (.builtin "min") (rMinU X.K) := by
  rintro pins s σ H vs us Q I r ⟨a, ns, rfl, hs, hne, q⟩
  obtain ⟨its, rv, hl, _⟩ := I.tuple hs
  obtain rfl := Vals.ref1 r
  exact min_tupI (I.ok.hd hc) hl rv.ints hne fun h' tk m t' kept b1 b2 => ⟨.int _, H, I.kept kept, ⟨_, rfl⟩, q m b1 b2⟩
theorem cr_maxU (hc : X.calm = true) : CallR X (.builtin "max") (rMaxU X.K) := by
  rintro pins s σ H vs us Q I r ⟨a, ns, rfl, hs, hne, q⟩
  obtain ⟨its, rv, hl, _⟩ := I.tuple hs
  obtain rfl := Vals.ref1 r
  exact max_tupI (I.ok.hd hc) hl rv.ints hne fun h' tk m t' kept b1 b2 => ⟨.int _, H, I.kept kept, ⟨_, rfl⟩, q m b1 b2⟩
end
end NH
/-! rules that the layer lacks, proved: enumerate of a tuple -/
namespace NH
open PySem PySem.Spec PyProof.Rows L2
theorem meets_enum1 {v : Value} {o : Obj} {H : Heap → Prop} (B : Begins v o H) :
    Meets (Builtin.«enumerate.__new__» ⟨[.type "enumerate", v], []⟩) (fun _ R s => H s.heap ∧
      R (.ok (.ret (.ref (s.heap.push o).objs.size))) { s with heap := (s.heap.push o).push { cls := .type "enumerate", data := .fields #[.none, .bool false, .ref s.heap.objs.size, rawInt 0, .none, .none] } }) :=
  .of_wp fun prog w A R s h => by
    obtain ⟨hp, g, d, tk, os⟩ := s
    obtain ⟨start, h⟩ := h
    have isSub := sub_enumerate
    have made : ∀ {A' : Around} {E : Value → Shared → Prop} {Q : Value → Shared → Prop}, Q (.ref hp.objs.size) ⟨hp.push o, g, d, tk, os⟩ → wpAny (model prog w) A' (pyIter v) Q E ⟨hp, g, d, tk, os⟩ :=
      fun q => B.iter prog w _ _ ⟨hp, g, d, tk, os⟩ _ start q
    wp_walk using made
    refine wpAny_stack_any fun st => wpAny_pure ?_
    split
    · rename_i c _ _ _ _ _
      cases (c == Value.type "enumerate") <;> (wp_walk using made; exact ⟨_, rfl, h⟩)
    · wp_walk using made
      exact ⟨_, rfl, h⟩
theorem enum_begins1 {prog : Program} {w : World} {A : Around} {E : Value → Shared → Prop} {s : Shared} {v : Value} {o : Obj} {H : Heap → Prop} {Q : Value → Shared → Prop} (B : Begins v o H) (start : H s.heap)
    (h : ∀ h', IsEnum h' (s.heap.objs.size + 1) s.heap.objs.size 0 .none → h'.get? s.heap.objs.size = some o → (∀ b o, s.heap.get? b = some o → h'.get? b = some o) → Q (.ref (s.heap.objs.size + 1)) { s with heap := h' }) :
    wpAny (model prog w) A (call (.type "enumerate") [v]) Q E s := by
  refine callType_new F.called_enumerate (by decide) (F.typeCall_enumerate_1 _) (F.newCall_enumerate_1 _) (fun obj => F.args_object_init_2 obj _) F.entry_enumerate_new (meets_enum1 B) ⟨start, ?_⟩
  have size : (s.heap.push o).objs.size = s.heap.objs.size + 1 := Heap.size_push ..
  show _ ∧ _
  rw [size]
  have top := Heap.get?_push_size (s.heap.push o) (o := { cls := .type "enumerate", data := .fields #[.none, .bool false, .ref s.heap.objs.size, rawInt 0, .none, .none] }) rfl
  rw [size] at top
  exact ⟨⟨_, top, rfl⟩, h _ top (Heap.get?_push_of_some _ (Heap.get?_push_size _ B.free)) fun b o x => Heap.get?_push_of_some _ (Heap.get?_push_of_some _ x)⟩
/-- enumerate of a tuple -/
def IteU (K : PySem.W.Frag) (a : Addr) : It :=
  ⟨fun i H => ∃ (xs : List V) (x : V), SqT K H a xs ∧ xs[i]? = some x,
    fun i H v H' => ∃ T x, v = .ref T ∧ H T = none ∧ H' = upd H T (.tup [.int (i : Nat), x]) ∧ ∀ xs, SqT K H a xs → xs[i]? = some x,
    fun i H => ∃ xs : List V, SqT K H a xs ∧ xs.length ≤ i⟩
theorem tuple_inj {X : Cx} {pins : List (Addr × Obj)} {σ : L2.St} {H : Hp} {s : Shared} {a : Addr} {xs ys : List V} (I : Inv X pins σ H s) (h : SqT X.K H a xs) (h' : SqT X.K H a ys) : xs = ys := by
  obtain ⟨its, r, ⟨o, e, _, n, d⟩, _⟩ := I.tuple h
  obtain ⟨its', r', ⟨o', e', _, n', d'⟩, _⟩ := I.tuple h'
  rw [e] at e'
  cases e'
  rw [d] at d'
  have : its = its' := by
    have z := (Data.seq.inj d').1
    simpa using congrArg Array.toList z
  subst this
  exact Vals.inj r r'
/-- a tuple's iterator behind the tuple's end -/
theorem draws_end {prog : Program} {w : World} {A : Around} (hh : A.handled = none) (it t : Addr) {items : Array Value} {i : Nat} (past : items[i]? = none) :
    Draws prog w A it [it, t] i (fun _ _ => True) (fun j h => j = i ∧ h.IsTupleIter it t i ∧ h.IsTuple t items) where
  live := fun _ _ st => let ⟨o, ho, _⟩ := st.2.1; ⟨o, ho⟩
  frame := fun _ _ _ st hk => ⟨st.1, st.2.1.at fun o e => hk it (by simp) o e, st.2.2.at fun o e => hk t (by simp) o e⟩
  item := fun j s Q E hj st hQ => absurd hj (by rw [st.1]; exact Nat.lt_irrefl i)
  done := fun s Q E st hE => wpAny_nextOf_tuple_end hh st.2.1 st.2.2 past hE
theorem turn_enumU {P : Program} {w : World} {K : PySem.W.Frag} {elts : List Expr} {kk : Nat} {tpos : Pos} (a e it : Addr) :
    Turn P w K (.Tuple elts kk tpos) (IteU K a) [e, it] e (fun i h => (∃ old, IsEnum h e it ((i : Nat) : Int) old) ∧ h.IsTupleIter it a i ∧ e ≠ it ∧ e ≠ a ∧ a ≠ it) where
  mem := by simp
  obj := fun i h st b hb => by
    obtain ⟨⟨old, he⟩, ⟨o, ho, hc, hd⟩, _⟩ := st
    simp only [List.mem_cons, List.not_mem_nil, or_false] at hb
    rcases hb with z | z
    · rw [z]; exact ⟨_, he, fun v q => nomatch q⟩
    · rw [z]; exact ⟨o, ho, fun v q => by rw [hd] at q; cases q⟩
  keep := fun i h h' st k => by
    obtain ⟨⟨old, he⟩, hi, ne⟩ := st
    exact ⟨⟨old, k e (by simp) _ he⟩, hi.at fun o q => k it (by simp) o q, ne⟩
  item := by
    intro X hP hw hK hc i pins s σ H E I hf st hg
    subst hP hw hK
    obtain ⟨⟨old, he⟩, hit, ne1, ne2, ne3⟩ := st
    obtain ⟨xs, x, hq, hx⟩ := hg
    obtain ⟨its, rv, tup, hz⟩ := I.tuple hq
    obtain ⟨u, hu, ru⟩ := rv.get hx
    have il : i < its.toArray.size := by
      have := (List.getElem?_eq_some_iff.mp hu).1
      simpa using this
    have hel : e < s.heap.objs.size := Heap.lt_size he
    have hil : it < s.heap.objs.size := by obtain ⟨_, q, _⟩ := hit; exact Heap.lt_size q
    refine wpAny_pyNext_enum_itemD (Draws.tuple (A := X.A.in1) (I.ok.hd hc) it a ne3 its.toArray) he ⟨hit, tup⟩ il ne1 (by simp [ne1, ne2]) fun y h' tk hP ho hst' hT hsz hk => ?_
    have ey : y = u := by
      have z : its.toArray[i]? = some y := hP
      have z2 : its.toArray[i]? = some u := by simpa using hu
      rw [z] at z2
      exact Option.some.inj z2
    subst ey
    refine ⟨_, rfl, wpAny_letOwnedTupleGo_enum (s := { s with heap := h', toks := tk + 1 }) ho fun h'' he' sb => ?_⟩
    have hT2 : h''.get? s.heap.objs.size = some { cls := .type "tuple", data := .seq #[.int i tk, y] } := (sb.2 _ (Nat.ne_of_gt hel)).trans hT
    have new : ObjOk X.prog X.w (upd H s.heap.objs.size (.tup [.int (i : Nat), x])) h'' s.heap.objs.size (.tup [.int (i : Nat), x]) :=
      ⟨by show 2 ≤ sizeLine; decide, [.int i tk, y], .cons ⟨_, rfl⟩ (.cons ru .nil), ⟨_, hT2, rfl, _, rfl⟩⟩
    have I1 : Inv X pins σ (upd H s.heap.objs.size (.tup [.int (i : Nat), x])) { s with heap := h'', toks := tk + 1 } :=
      I.turnedNew (ch := [e, it]) (fun b ob hb q => (sb.2 b (fun z => hb (by simp [z]))).trans (hk b ob (fun z => hb (by simp [z])) (fun z => hb (by simp [z])) q)) hf (Nat.le_refl _) new
    refine ⟨.ref s.heap.objs.size, _, I1, rfl, ⟨_, x, rfl, I.hok.fresh (Nat.le_refl _), rfl, fun ys hy => by rw [tuple_inj I hy hq]; exact hx⟩, ⟨⟨y, ?_⟩, hst'.1.at fun o q => (sb.2 it (Ne.symm ne1)).trans q, ne1, ne2, ne3⟩, fun b hb => ?_⟩
    · rw [show ((i + 1 : Nat) : Int) = (i : Int) + 1 by omega]
      exact he'
    · have below : b < s.heap.objs.size := by
        simp only [List.mem_cons, List.not_mem_nil, or_false] at hb
        rcases hb with z | z
        · rw [z]; exact hel
        · rw [z]; exact hil
      rw [upd_ne (Nat.ne_of_lt below)]
      exact (hf b hb).1
  done := by
    intro X hP hw hK hc i pins s σ H E I hf st hg
    subst hP hw hK
    obtain ⟨⟨old, he⟩, hit, ne1, ne2, ne3⟩ := st
    obtain ⟨xs, hq, hx⟩ := hg
    obtain ⟨its, rv, tup, hz⟩ := I.tuple hq
    obtain ⟨f0, f1, f2, f3, f4, f5⟩ := hf it (by simp)
    have len := rv.length
    have past : its.toArray[i]? = none := by simp; omega
    exact wpAny_pyNext_enum_endD (draws_end (A := X.A.in1) (I.ok.hd hc) it a past) he ⟨rfl, hit, tup⟩ fun h' eb => ⟨rfl, I.turned (t' := s.toks) (fun b o hb q => eb b o hb q) f0 f1 f3 f4 f5⟩
  self := fun A i s Q E st h => let ⟨⟨_, he⟩, _⟩ := st; wpAny_pyIter_enum he h
def iEnumU (K : PySem.W.Frag) (ta : TA) : TI := fun σ H R => ta σ H fun vs H1 => ∃ a xs, vs = [.ref a] ∧ SqT K H1 a xs ∧ R (IteU K a) H1
theorem pi_enumU {X : Cx} {e : Expr} {ta : TA} {p pos tpos : Pos} {elts : List Expr} {kk : Nat} (hg : Gl X "enumerate") (hm : X.mg "enumerate" = none) (ha : PA X [e] ta) (hs : starEach [e] X.env = [(false, eval e X.env)] := by rfl) :
    PI X (.Tuple elts kk tpos) (.Call (.Name "enumerate" p) [e] [] pos) (iEnumU X.K ta) := by
  constructor
  intro pins s σ H R I h
  refine Call_ (ld_blt I hg hm boot_enumerate (PyProof.Rows.callWith_type1 (thn (ha.run pos pins s σ H _ I h) ?_) hs rfl))
  rintro us s1 ⟨vs, H1, I1, r1, a, xs, rfl, hq, want⟩
  obtain rfl := Vals.ref1 r1
  obtain ⟨its, rv, tup, _⟩ := I1.tuple hq
  have below : a < s1.heap.objs.size := by
    obtain ⟨_, e, _⟩ := tup
    exact Heap.lt_size e
  refine enum_begins1 (begins_tuple a its.toArray) tup fun h' he hit kept => wpAny_pyIter_enum he ?_
  have I2 : Inv X pins σ H1 { s1 with heap := h' } := I1.kept (t' := s1.toks) kept
  refine ⟨s1.heap.objs.size + 1, [s1.heap.objs.size + 1, s1.heap.objs.size], _, _, H1, rfl, I2, turn_enumU a (s1.heap.objs.size + 1) s1.heap.objs.size, ⟨⟨.none, he⟩, ⟨_, hit, rfl, rfl⟩, Nat.succ_ne_self _, Nat.ne_of_gt (Nat.lt_succ_of_lt below), Nat.ne_of_lt below⟩, fun b hb => ?_, want⟩
  have above : s1.heap.objs.size ≤ b := by
    simp only [List.mem_cons, List.not_mem_nil, or_false] at hb
    rcases hb with z | z
    · rw [z]; exact Nat.le_succ _
    · rw [z]; exact Nat.le_refl _
  exact I1.fpOk above (I1.hok.fresh above)
/-- zip of a list and a tuple -/
def ItzU (K : PySem.W.Frag) (a b : Addr) : It :=
  ⟨fun i H => ∃ (xs ys : List V) (x y : V), SqL K H a xs ∧ SqT K H b ys ∧ xs[i]? = some x ∧ ys[i]? = some y,
    fun i H v H' => ∃ T x y, v = .ref T ∧ H T = none ∧ H' = upd H T (.tup [x, y]) ∧ (∀ xs, SqL K H a xs → xs[i]? = some x) ∧ ∀ ys, SqT K H b ys → ys[i]? = some y,
    fun i H => ∃ xs ys : List V, SqL K H a xs ∧ SqT K H b ys ∧ (xs.length ≤ i ∨ ys.length ≤ i)⟩
/-- a list's iterator behind the list's end -/
theorem draws_endL {prog : Program} {w : World} {A : Around} (hh : A.handled = none) (it t : Addr) {items : Array Value} {i : Nat} (past : items[i]? = none) :
    Draws prog w A it [it, t] i (fun _ _ => True) (fun j h => j = i ∧ h.IsListIter it t i ∧ h.IsList t items) where
  live := fun _ _ st => let ⟨o, ho, _⟩ := st.2.1; ⟨o, ho⟩
  frame := fun _ _ _ st hk => ⟨st.1, st.2.1.at fun o e => hk it (by simp) o e, st.2.2.at fun o e => hk t (by simp) o e⟩
  item := fun j s Q E hj st hQ => absurd hj (by rw [st.1]; exact Nat.lt_irrefl i)
  done := fun s Q E st hE => wpAny_nextOf_list_end hh st.2.1 st.2.2 past hE
section
variable {prog : Program} {w : World} {A : Around}
theorem listAt (hh : A.handled = none) {it l : Addr} (ne : l ≠ it) {items : Array Value} {i : Nat} {h : Heap} (st : h.IsListIter it l i) (hl : h.IsList l items) :
    ∃ (n : Nat) (P : Nat → Value → Prop) (St : Nat → Heap → Prop), Draws prog w A it [it, l] n P St ∧ St i h ∧ i ≤ n ∧ (items.size ≤ i → i = n) := by
  rcases Nat.lt_or_ge items.size i with past | inside
  · exact ⟨i, _, _, draws_endL hh it l (by simp; omega), ⟨rfl, st, hl⟩, Nat.le_refl _, fun _ => rfl⟩
  · exact ⟨_, _, _, Draws.list hh it l ne items, ⟨st, hl⟩, inside, fun q => Nat.le_antisymm inside q⟩
theorem tupAt (hh : A.handled = none) {it l : Addr} (ne : l ≠ it) {items : Array Value} {i : Nat} {h : Heap} (st : h.IsTupleIter it l i) (hl : h.IsTuple l items) :
    ∃ (n : Nat) (P : Nat → Value → Prop) (St : Nat → Heap → Prop), Draws prog w A it [it, l] n P St ∧ St i h ∧ i ≤ n ∧ (items.size ≤ i → i = n) := by
  rcases Nat.lt_or_ge items.size i with past | inside
  · exact ⟨i, _, _, draws_end hh it l (by simp; omega), ⟨rfl, st, hl⟩, Nat.le_refl _, fun _ => rfl⟩
  · exact ⟨_, _, _, Draws.tuple hh it l ne items, ⟨st, hl⟩, inside, fun q => Nat.le_antisymm inside q⟩
end
theorem turn_zipU {P : Program} {w : World} {K : PySem.W.Frag} {elts : List Expr} {kk : Nat} {tpos : Pos} {a b z TI TO i1 i2 : Addr} (D : ZipSep2 z TI TO i1 i2 [i1, a] [i2, b]) (n1 : a ≠ i1) (n2 : b ≠ i2) :
    Turn P w K (.Tuple elts kk tpos) (ItzU K a b) [z, TI, TO, i1, i2] z (fun i h => IsZip h z TI TO .none ∧ IsTupOf2 h TI (.ref i1) (.ref i2) ∧ (∃ x y, IsTupOf2 h TO x y) ∧ h.IsListIter i1 a i ∧ h.IsTupleIter i2 b i) where
  mem := by simp
  obj := fun i h st c hc => by
    obtain ⟨hz, hTI, ⟨x, y, hTO⟩, ⟨o1, e1, _, d1⟩, ⟨o2, e2, _, d2⟩⟩ := st
    simp only [List.mem_cons, List.not_mem_nil, or_false] at hc
    rcases hc with q | q | q | q | q
    · rw [q]; exact ⟨_, hz, fun v q => nomatch q⟩
    · rw [q]; exact ⟨_, hTI, fun v q => nomatch q⟩
    · rw [q]; exact ⟨_, hTO, fun v q => nomatch q⟩
    · rw [q]; exact ⟨o1, e1, fun v q => by rw [d1] at q; cases q⟩
    · rw [q]; exact ⟨o2, e2, fun v q => by rw [d2] at q; cases q⟩
  keep := fun i h h' st k => by
    obtain ⟨hz, hTI, ⟨x, y, hTO⟩, st1, st2⟩ := st
    exact ⟨k z (by simp) _ hz, k TI (by simp) _ hTI, ⟨x, y, k TO (by simp) _ hTO⟩, st1.at fun o q => k i1 (by simp) o q, st2.at fun o q => k i2 (by simp) o q⟩
  item := by
    intro X hP hw hK hc i pins s σ H E I hf st hg
    subst hP hw hK
    obtain ⟨hz, hTI, ⟨x0, y0, hTO⟩, st1, st2⟩ := st
    obtain ⟨xs, ys, x, y, hqx, hqy, hx, hy⟩ := hg
    obtain ⟨its, rv, pl, _⟩ := I.list hqx
    obtain ⟨its2, rv2, tup, _⟩ := I.tuple hqy
    obtain ⟨u, hu, ru⟩ := rv.get hx
    obtain ⟨u2, hu2, ru2⟩ := rv2.get hy
    have below : z < s.heap.objs.size := Heap.lt_size hz
    have lt1 : i < its.toArray.size := by
      have := (List.getElem?_eq_some_iff.mp hu).1
      simpa using this
    have lt2 : i < its2.toArray.size := by
      have := (List.getElem?_eq_some_iff.mp hu2).1
      simpa using this
    refine wpAny_pyNext_zipD2_item D (Draws.list (A := X.A.in1) (I.ok.hd hc) i1 a n1 its.toArray) (Draws.tuple (A := X.A.in1) (I.ok.hd hc) i2 b n2 its2.toArray) hz hTI hTO ⟨st1, pl.isList⟩ ⟨st2, tup⟩ lt1 lt2 fun v1 v2 h' tk hv1 hv2 z' TO' st1' st2' hT hsz hk => ?_
    have e1 : v1 = u := by
      have q : its.toArray[i]? = some v1 := hv1
      have q2 : its.toArray[i]? = some u := by simpa using hu
      rw [q] at q2
      exact Option.some.inj q2
    have e2 : v2 = u2 := by
      have q : its2.toArray[i]? = some v2 := hv2
      have q2 : its2.toArray[i]? = some u2 := by simpa using hu2
      rw [q] at q2
      exact Option.some.inj q2
    subst e1
    subst e2
    refine ⟨_, rfl, wpAny_letOwnedTupleGo_zip (s := { s with heap := h', toks := tk }) z' fun h'' z'' sb => ?_⟩
    have hT2 : h''.get? s.heap.objs.size = some { cls := .type "tuple", data := .seq #[v1, v2] } := (sb.2 _ (Nat.ne_of_gt below)).trans hT
    have new : ObjOk X.prog X.w (upd H s.heap.objs.size (.tup [x, y])) h'' s.heap.objs.size (.tup [x, y]) :=
      ⟨by show 2 ≤ sizeLine; decide, [v1, v2], .cons ru (.cons ru2 .nil), ⟨_, hT2, rfl, _, rfl⟩⟩
    have I1 : Inv X pins σ (upd H s.heap.objs.size (.tup [x, y])) { s with heap := h'', toks := tk } :=
      I.turnedNew (ch := [z, TI, TO, i1, i2]) (fun c o hb q => (sb.2 c (fun q' => hb (by simp [q']))).trans (hk c o (fun q' => hb (by simp [q'])) (fun q' => hb (by simp [q'])) (fun q' => hb (by simp [q'])) (fun q' => hb (by simp [q'])) q)) hf (Nat.le_refl _) new
    refine ⟨.ref s.heap.objs.size, _, I1, rfl, ⟨_, x, y, rfl, I.hok.fresh (Nat.le_refl _), rfl, fun l hl => by rw [I.list_inj hl hqx]; exact hx, fun l hl => by rw [tuple_inj I hl hqy]; exact hy⟩, ⟨z'', ?_, ⟨v1, v2, ?_⟩, ?_, ?_⟩, fun c hcm => ?_⟩
    · exact (sb.2 _ D.TIz).trans (hk _ _ D.TIz D.TITO D.TIi1 D.TIi2 hTI)
    · exact (sb.2 _ D.TOz).trans TO'
    · exact st1'.1.at fun o q => (sb.2 _ (Ne.symm D.zi1)).trans q
    · exact st2'.1.at fun o q => (sb.2 _ (Ne.symm D.zi2)).trans q
    · have low : c < s.heap.objs.size := by
        simp only [List.mem_cons, List.not_mem_nil, or_false] at hcm
        rcases hcm with q | q | q | q | q
        · rw [q]; exact below
        · rw [q]; exact Heap.lt_size hTI
        · rw [q]; exact Heap.lt_size hTO
        · rw [q]; obtain ⟨_, e, _⟩ := st1; exact Heap.lt_size e
        · rw [q]; obtain ⟨_, e, _⟩ := st2; exact Heap.lt_size e
      rw [upd_ne (Nat.ne_of_lt low)]
      exact (hf c hcm).1
  done := by
    intro X hP hw hK hc i pins s σ H E I hf st hg
    subst hP hw hK
    obtain ⟨hz, hTI, ⟨x0, y0, hTO⟩, st1, st2⟩ := st
    obtain ⟨xs, ys, hqx, hqy, hend⟩ := hg
    obtain ⟨its, rv, pl, _⟩ := I.list hqx
    obtain ⟨its2, rv2, tup, _⟩ := I.tuple hqy
    have l1 := rv.length
    have l2 := rv2.length
    obtain ⟨m1, P1, St1, D1, s1', le1, q1⟩ := listAt (prog := X.prog) (w := X.w) (A := X.A.in1) (I.ok.hd hc) n1 st1 pl.isList
    obtain ⟨m2, P2, St2, D2, s2', le2, q2⟩ := tupAt (prog := X.prog) (w := X.w) (A := X.A.in1) (I.ok.hd hc) n2 st2 tup
    have stop : i = m1 ∨ i = m2 := by
      rcases hend with q | q
      · exact .inl (q1 (by simp; omega))
      · exact .inr (q2 (by simp; omega))
    exact wpAny_pyNext_zipD2_end D D1 D2 hz hTI hTO s1' s2' le1 le2 stop fun h' tk hk => ⟨rfl, I.turnedL (t' := tk) (ch := [z, TI, TO, i1, i2]) (fun c o hb q =>
      hk c o (fun q' => hb (by simp [q'])) (fun q' => hb (by simp [q'])) (fun q' => hb (by simp [q'])) (fun q' => hb (by simp [q'])) q) hf⟩
  self := fun A i s Q E st h => wpAny_pyIter_zip st.1 h
theorem sep_nat (n a b : Nat) (la : a < n) (lb : b < n) : ZipSep2 (n + 4) (n + 2) (n + 3) n (n + 1) [n, a] [n + 1, b] := by
  have ne : ∀ {x y : Nat}, x ≠ y → (x : Addr) ≠ (y : Addr) := fun h => h
  have nin : ∀ {x y z : Nat}, x ≠ y → x ≠ z → (x : Addr) ∉ [(y : Addr), (z : Addr)] := fun h1 h2 m => by
    rcases List.mem_cons.mp m with q | q
    · exact h1 q
    · exact h2 (List.mem_singleton.mp q)
  exact ⟨ne (by omega), ne (by omega), ne (by omega), ne (by omega), List.mem_cons_self .., nin (by omega) (by omega), nin (by omega) (by omega), ne (by omega), List.mem_cons_self .., nin (by omega) (by omega), nin (by omega) (by omega), nin (by omega) (by omega), nin (by omega) (by omega)⟩
def iZipU (K : PySem.W.Frag) (ta : TA) : TI := fun σ H R => ta σ H fun vs H1 => ∃ a b xs ys, vs = [.ref a, .ref b] ∧ SqL K H1 a xs ∧ SqT K H1 b ys ∧ R (ItzU K a b) H1
theorem pi_zipLT {X : Cx} {e e2 : Expr} {ta : TA} {p pos tpos : Pos} {elts : List Expr} {kk : Nat} (hg : Gl X "zip") (hm : X.mg "zip" = none) (ha : PA X [e, e2] ta)
    (hs : starEach [e, e2] X.env = (false, eval e X.env) :: starEach [e2] X.env := by rfl) (hpl : (backTo pos (starEach [e2] X.env)).any (·.1) = false := by rfl) :
    PI X (.Tuple elts kk tpos) (.Call (.Name "zip" p) [e, e2] [] pos) (iZipU X.K ta) := by
  constructor
  intro pins s σ H R I h
  refine Call_ (ld_blt I hg hm PyProof.Rows.boot_zip (PyProof.Rows.callWith_type1 (thn (ha.run pos pins s σ H _ I h) ?_) hs hpl))
  rintro us s1 ⟨vs, H1, I1, r1, a, b, xs, ys, rfl, hqx, hqy, want⟩
  match us, r1 with
  | [_, _], .cons ra (.cons rb .nil) =>
    cases ra
    cases rb
    obtain ⟨its, rv, pl, _⟩ := I1.list hqx
    obtain ⟨its2, rv2, tup, _⟩ := I1.tuple hqy
    have la : a < s1.heap.objs.size := pl.lt
    have lb : b < s1.heap.objs.size := by
      obtain ⟨_, e, _⟩ := tup
      exact Heap.lt_size e
    refine zip_begins2 (begins_list a its.toArray) (begins_tuple b its2.toArray) pl.isList tup fun h' hz hTI hTO h1 h2 hsz kept => wpAny_pyIter_zip hz ?_
    have I2 : Inv X pins σ H1 { s1 with heap := h' } := I1.kept (t' := s1.toks) kept
    have sep := sep_nat s1.heap.objs.size a b la lb
    refine ⟨s1.heap.objs.size + 4, [s1.heap.objs.size + 4, s1.heap.objs.size + 2, s1.heap.objs.size + 3, s1.heap.objs.size, s1.heap.objs.size + 1], _, _, H1, rfl, I2, turn_zipU sep (Nat.ne_of_lt la) (Nat.ne_of_lt (Nat.lt_succ_of_lt lb)), ⟨hz, hTI, ⟨_, _, hTO⟩, ⟨_, h1, rfl, rfl⟩, ⟨_, h2, rfl, rfl⟩⟩, fun c hcm => ?_, want⟩
    have above : s1.heap.objs.size ≤ c := by
      simp only [List.mem_cons, List.not_mem_nil, or_false] at hcm
      rcases hcm with q | q | q | q | q
      · rw [q]; exact Nat.le_add_right _ _
      · rw [q]; exact Nat.le_add_right _ _
      · rw [q]; exact Nat.le_add_right _ _
      · rw [q]; exact Nat.le_refl _
      · rw [q]; exact Nat.le_add_right _ _
    exact I1.fpOk above (I1.hok.fresh above)
end NH
namespace NH
open PySem PySem.Spec PyProof.Rows L2
section
variable {X : Cx}
/-- repr of data -/
def rReprD (K : PySem.W.Frag) : List V → Hp → VK → Prop := fun vs H Q => ∃ (a : Addr) (d : PyData), vs = [V.ref a] ∧ Dp K H (.ref a) d ∧ d.showable = true ∧ d.hasDict = false ∧ d.depth ≤ 60 ∧ d.shown.length ≤ sizeLine ∧ Q (.str d.shown) H
theorem cr_reprD (hg : X.A.guards = some []) (hu : X.A.units + 64 < cLine) : CallR X (.builtin "repr") (rReprD X.K) := by
  rintro pins s σ H vs us Q I r ⟨a, d, rfl, hd, show_, noDict, deep, short, q⟩
  obtain rfl := Vals.ref1 r
  obtain ⟨as, reads⟩ := Dp.reads I d (.ref a) (.ref a) hd rfl
  refine repr_of_reads' reads show_ (fun z => ?_) hg (by omega) (fun b o e => e) (fun h' u tk kept => ⟨.str _, H, I.kept kept, ⟨_, rfl⟩, q⟩) short
  rw [noDict] at z
  cases z
/-- data that sort -/
def SortOk (ds : List PyData) : Prop := PySem.W.AllAlike ds ∧ PySem.W.Sortable ds ∧ ∀ d ∈ ds, d.depth ≤ 20
/-- sorted(xs), xs a list of tuples -/
def rSortedTs (K : PySem.W.Frag) : List V → Hp → VK → Prop := fun vs H Q => ∃ (a : Addr) (xs : List V) (ds : List PyData), vs = [V.ref a] ∧ SqL K H a xs ∧ TDs H xs ds ∧ SortOk ds ∧
  ∀ (xs' : List V) (p : Addr), xs'.Perm xs → H p = none → Q (.ref p) (upd H p (.lst xs'))
theorem eachR : ∀ {xs : List V} {us : List Value} {ds : List PyData}, Vals xs us → xs.length = ds.length → PySem.W.EachIs (fun u (b : V × PyData) => RelV b.1 u) us (xs.zip ds)
  | _, _, [], .nil, _ => .nil
  | _, _, _ :: _, .cons a t, h => .cons a (eachR t (by simpa using h))
theorem eachD {K : PySem.W.Frag} {pins : List (Addr × Obj)} {σ : L2.St} {H : Hp} {s : Shared} (I : Inv X pins σ H s) : ∀ {xs : List V} {us : List Value} {ds : List PyData}, Vals xs us → TDs H xs ds → PySem.W.EachIs (fun u (b : V × PyData) => ∃ as, Reads s.heap u b.2 as) us (xs.zip ds)
  | _, _, _, .nil, .nil => .nil
  | _, _, _, .cons a t, .cons d e => .cons (Dp.reads I _ _ _ d.dp a) (eachD (K := K) I t e)
theorem valsE : ∀ {us : List Value} {bs : List (V × PyData)}, PySem.W.EachIs (fun u (b : V × PyData) => RelV b.1 u) us bs → Vals (bs.map Prod.fst) us
  | _, _, .nil => .nil
  | _, _, .cons a t => .cons a (valsE t)
theorem zip_fst : ∀ {xs : List V} {ds : List PyData}, xs.length = ds.length → (xs.zip ds).map Prod.fst = xs
  | [], [], _ => rfl
  | x :: xs, d :: ds, h => by rw [List.zip_cons_cons, List.map_cons, zip_fst (by simpa using h)]
theorem zip_snd : ∀ {xs : List V} {ds : List PyData}, xs.length = ds.length → (xs.zip ds).map Prod.snd = ds
  | [], [], _ => rfl
  | x :: xs, d :: ds, h => by rw [List.zip_cons_cons, List.map_cons, zip_snd (by simpa using h)]
theorem cr_sortedTs (hu : X.A.units + 64 < cLine) : CallR X (.builtin "sorted") (rSortedTs X.K) := by
  intro pins s σ H vs us Q I r h
  obtain ⟨a, xs, ds, rfl, hs, ht, ⟨al, so, dp⟩, q⟩ := h
  obtain ⟨its, rv, hl, hz⟩ := I.list hs
  rw [Vals.ref1 r]
  have hlen := ht.length
  have e2 := zip_snd hlen
  refine PySem.W.sorted_data (enc := Prod.snd) (R := fun u (b : V × PyData) => RelV b.1 u) hl.isList (eachR rv hlen) (eachD (K := X.K) I rv ht) (by rw [e2]; exact al) (by rw [e2]; exact so) (by rw [List.length_zip]; omega) (fun b hb => ?_) fun out ho eo => ?_
  · have := dp b.2 (by rw [← e2]; exact List.mem_map_of_mem hb)
    omega
  · have k1 := valsE eo
    have k2 : ((xs.zip ds).mergeSort (PySem.W.dataLe false Prod.snd)).map Prod.fst |>.Perm xs := by
      have := (List.mergeSort_perm (xs.zip ds) (PySem.W.dataLe false Prod.snd)).map Prod.fst
      rwa [zip_fst hlen] at this
    obtain ⟨ep, he'⟩ := PyProof.Rows.sortedAll_at s.heap its out.toArray
    have hl2 := k2.length_eq
    exact ⟨.ref _, upd H (s.heap.objs.size + 1) (.lst _), I.laid (t' := s.toks) (fun _ _ => PyProof.Rows.sortedAll_old) (Nat.le_succ _) ⟨by omega, out, ep, k1, he'⟩, rfl, q _ _ k2 (I.hok.fresh (Nat.le_succ _))⟩
end
section
variable {prog : Program} {w : World} {A : Around} {E : Value → Shared → Prop} {s : Shared}
/-- sorted(r): what is collected, laid as a list, sorted there -/
theorem sorted_via {r : Value} {P : List Value → Shared → Prop} {Q : Value → Shared → Prop}
    (hc : ∀ (Q' : List Value → Shared → Prop) (E' : Value → Shared → Prop), (∀ s₁ vs, P vs s₁ → Q' vs s₁) → wpAny (model prog w) A.in1 (collect r) Q' E' s)
    (hb : ∀ s₁ vs, P vs s₁ → vs.length ≤ sizeLine ∧ ∀ E' : Value → Shared → Prop, wpAny (model prog w) A.in1.in1 (Builtin.«list.sort» ⟨[.ref s₁.heap.objs.size], []⟩) (fun f s' => f = .done (.ret .none) ∧ Q (.ref s₁.heap.objs.size) s') E' { s₁ with heap := s₁.heap.push (seqObj "list" vs.toArray 0) }) :
    wpAny (model prog w) A (call (.builtin "sorted") [r]) Q E s := by
  refine Calls.call_function_entry kind_sorted plain_sorted entry_sorted (args_sorted1 _) ?_
  unfold Builtin.«sorted»
  refine wpAny_bind (m := checkCount "sorted" 1 1 _) (wpAny_pure ?_)
  refine wpAny_bind (hc _ _ fun s₁ vs p => ?_)
  obtain ⟨hz, hs⟩ := hb s₁ vs p
  refine wpAny_bind (wpAny_newList ?_ hz)
  show wpAny _ _ _ _ _ { s₁ with heap := s₁.heap.push (seqObj "list" vs.toArray 0) }
  have hoL : (s₁.heap.push (seqObj "list" vs.toArray 0)).get? s₁.heap.objs.size = some (seqObj "list" vs.toArray 0) := Heap.get?_push_size _ rfl
  refine wpAny_bind (wpAny_holding (wpAny_call_entry slot_list_sort ⟨_, hoL, rfl⟩ entry_list_sort ?body (args_list_sort _)))
  case body =>
    refine wpAny_mono (hs _) (fun f s' hf => ?_) fun _ _ e => e
    obtain ⟨rfl, hq⟩ := hf
    exact ⟨_, rfl, wpAny_pure ⟨_, rfl, hq⟩⟩
/-- collect of a tuple: the new heap is no smaller -/
theorem collect_tup {a : Addr} {vs : List Value} {Q : List Value → Shared → Prop} (hl : IsTup s.heap a vs.toArray)
    (h : ∀ h', (∀ b o', s.heap.get? b = some o' → h'.get? b = some o') → s.heap.objs.size ≤ h'.objs.size → Q vs { s with heap := h' }) (hsz : vs.length ≤ sizeLine) :
    wpAny (model prog w) A (collect (.ref a)) Q E s := by
  obtain ⟨o, ho, hc, n, hd⟩ := hl
  unfold collect
  refine wpAny_bind (wpAny_runValue (codeAny_builtin entry_proto_collect' ?_))
  show wpAny _ _ (do again (.builtin "list.__iadd__" ⟨[← newList [], .ref a], []⟩)) _ _ s
  refine wpAny_bind (wpAny_newList (wpAny_pure ⟨Code.quiet_builtin _ (by decide +kernel), codeAny_builtin entry_list_iadd' ?_⟩))
  show wpAny _ _ (Builtin.List.listExtendWith (.ref s.heap.objs.size) (.ref a) (.ref s.heap.objs.size)) _ _ { s with heap := s.heap.push (seqObj "list" #[] 0) }
  unfold Builtin.List.listExtendWith
  have ho' : (s.heap.push (seqObj "list" #[] 0)).get? a = some o := Heap.get?_push_of_some _ ho
  refine wpAny_bind (wpAny_typeOf (T := "tuple") ⟨o, ho', hc⟩ ?_)
  have ht : (Value.type "tuple" == Value.type "tuple") = true := by rfl
  rw [if_pos (by rw [ht]; simp)]
  refine wpAny_bind (listItems_at ho' hd ?_)
  refine wpAny_bind (listItems_at (xs := #[]) (n := 0) (Heap.get?_push_size _ rfl) rfl ?_)
  rw [if_neg (by simp)]
  refine wpAny_bind (listUpdate_at (xs := #[]) (n := 0) (Heap.get?_push_size _ rfl) rfl ?_ (Nat.zero_le _) (by show (#[] ++ vs.toArray).size ≤ sizeLine + 1; simp only [Array.size_append, List.size_toArray, List.length_nil]; omega))
  refine wpAny_pure ?_
  show wpAny (model prog w) A (do
      let o ← load s.heap.objs.size
      match o.data with
      | .seq xs _ => pure xs.toList
      | _ => unsupported "internal:collect") Q E { s with heap := (s.heap.push (seqObj "list" #[] 0)).update s.heap.objs.size (Obj.mapSeq (· ++ vs.toArray)) }
  refine wpAny_bind (wpAny_load (get?_update_seq (Heap.get?_push_size _ rfl) _) ?_)
  show wpAny _ _ (pure ((#[] : Array Value) ++ vs.toArray).toList) Q E _
  rw [show ((#[] : Array Value) ++ vs.toArray).toList = vs by simp]
  refine wpAny_pure (h _ (fun b o' hb => ?_) ?_)
  · rw [Heap.get?_update_ne _ _ _ _ (Nat.ne_of_lt (Heap.lt_size hb))]
    exact Heap.get?_push_of_some _ hb
  · rw [Heap.size_update, size_push']
    omega
end
section
variable {X : Cx}
/-- sorted of a tuple of ints -/
def rSortedIT (K : PySem.W.Frag) : List V → Hp → VK → Prop := fun vs H Q => ∃ (a : Addr) (ns : List Int), vs = [V.ref a] ∧ SqT K H a (ns.map V.int) ∧
  ∀ (ns' : List Int) (p : Addr), ns'.Perm ns → ns'.Pairwise (· ≤ ·) → H p = none → Q (.ref p) (upd H p (.lst (ns'.map V.int)))
theorem cr_sortedIT : CallR X (.builtin "sorted") (rSortedIT X.K) := by
  intro pins s σ H vs us Q I r h
  obtain ⟨a, ns, rfl, hs, q⟩ := h
  obtain ⟨its, rv, hT, hz⟩ := I.tuple hs
  rw [Vals.ref1 r]
  have hi := rv.ints
  have hz' : its.length ≤ sizeLine := by rw [← rv.length]; exact hz
  refine sorted_via (P := fun vs s₁ => vs = its ∧ ∃ h', s₁ = { s with heap := h' } ∧ (∀ b o', s.heap.get? b = some o' → h'.get? b = some o') ∧ s.heap.objs.size ≤ h'.objs.size)
    (fun Q' E' hq => collect_tup hT (fun h' k z => hq _ _ ⟨rfl, h', rfl, k, z⟩) hz') ?_
  rintro _ vs ⟨e, h', rfl, k, hle⟩
  obtain rfl : its = vs := e.symm
  refine ⟨hz', fun E' => ?_⟩
  have hoL : (h'.push (seqObj "list" its.toArray 0)).get? h'.objs.size = some (seqObj "list" its.toArray 0) := Heap.get?_push_size _ rfl
  refine SrtO.list_sort_ord (s := { s with heap := h'.push (seqObj "list" its.toArray 0) }) SrtO.swo_int hoL hz' (fun h2 => SrtO.ints_sortable hi h2) fun out h1 h2 => ⟨rfl, ?_⟩
  obtain ⟨k1, k2, k3⟩ := SrtO.ints_out hi h1 h2
  obtain ⟨ep, he'⟩ := PyProof.Rows.sortedHeap_at (vs := its) (out := out.toArray) hoL
  have hlen : ((out.map SrtO.iv).map V.int).length ≤ sizeLine := by
    rw [List.length_map, k2.length_eq]
    rw [List.length_map] at hz
    exact hz
  exact ⟨.ref _, upd H h'.objs.size (.lst ((out.map SrtO.iv).map V.int)), I.laid (t' := s.toks) (fun b u hb => by
    have hb1 : b ≠ h'.objs.size := Nat.ne_of_lt (Heap.lt_size (k b u hb))
    have hb2 : (h'.push (seqObj "list" its.toArray 0)).get? b = some u := Heap.get?_push_of_some _ (k b u hb)
    exact (PyProof.Rows.sortedHeap_old hb1 (Heap.lt_size hb2)).trans hb2) hle ⟨hlen, out, ep, vals_of_ints k1, he'⟩, rfl, q _ _ k2 k3 (I.hok.fresh hle)⟩
end
section
variable {prog : Program} {w : World} {A : Around} {s₁ : Shared}
theorem sort_laid {β : Type} {vs : List Value} {bs : List β} {enc : β → PyData} {R : Value → β → Prop} {Q : Value → Shared → Prop} (e : PySem.W.EachIs R vs bs) (er : PySem.W.EachIs (fun v b => ∃ as, Reads s₁.heap v (enc b) as) vs bs)
    (hal : PySem.W.AllAlike (bs.map enc)) (hk : PySem.W.Sortable (bs.map enc)) (hL : vs.length ≤ sizeLine) (hu : ∀ b ∈ bs, A.units + (enc b).depth < cLine)
    (h : ∀ out : List Value, PySem.W.EachIs R out (bs.mergeSort (PySem.W.dataLe false enc)) → Q (.ref s₁.heap.objs.size) { s₁ with heap := sortedHeap (s₁.heap.push (seqObj "list" vs.toArray 0)) s₁.heap.objs.size vs out.toArray }) (E' : Value → Shared → Prop) :
    wpAny (model prog w) A (Builtin.«list.sort» ⟨[.ref s₁.heap.objs.size], []⟩) (fun f s' => f = .done (.ret .none) ∧ Q (.ref s₁.heap.objs.size) s') E' { s₁ with heap := s₁.heap.push (seqObj "list" vs.toArray 0) } := by
  have hoL : (s₁.heap.push (seqObj "list" vs.toArray 0)).get? s₁.heap.objs.size = some (seqObj "list" vs.toArray 0) := Heap.get?_push_size _ rfl
  have kp : ∀ b o, s₁.heap.get? b = some o → (PySem.W.sortingHeap (s₁.heap.push (seqObj "list" vs.toArray 0)) s₁.heap.objs.size vs).get? b = some o := fun b o hb =>
    PySem.W.sortingHeap_old (Nat.ne_of_lt (Heap.lt_size hb)) (Heap.get?_push_of_some _ hb)
  have er' : PySem.W.EachIs (fun v b => ∃ as, Reads (PySem.W.sortingHeap (s₁.heap.push (seqObj "list" vs.toArray 0)) s₁.heap.objs.size vs) v (enc b) as) vs bs := er.mono fun _ _ ⟨as, r⟩ => ⟨as, PyProof.Rows.Reads.keeps kp r⟩
  exact PySem.W.list_sort_vals (s := { s₁ with heap := s₁.heap.push (seqObj "list" vs.toArray 0) }) (κ := PySem.W.dataKind (PySem.W.sortingHeap (s₁.heap.push (seqObj "list" vs.toArray 0)) s₁.heap.objs.size vs) (bs.map enc)) hoL
    (PySem.W.SortsAt.data (s := { s₁ with heap := PySem.W.sortingHeap (s₁.heap.push (seqObj "list" vs.toArray 0)) s₁.heap.objs.size vs }) (PySem.W.each_map (R := fun v d => ∃ as, Reads (PySem.W.sortingHeap (s₁.heap.push (seqObj "list" vs.toArray 0)) s₁.heap.objs.size vs) v d as) enc er') hal hk (PySem.W.bound_map hu)) hL
    ⟨rfl, h _ (PySem.W.sortVals_data false e er' hal)⟩
end

theorem each_zipR {β : Type} {F : Value → Addr × β → Prop} : ∀ {as : List Addr} {ks : List β}, as.length = ks.length → (∀ (j : Nat) a k, as[j]? = some a → ks[j]? = some k → F (.ref a) (a, k)) → PySem.W.EachIs F (as.map Value.ref) (as.zip ks)
  | [], [], _, _ => .nil
  | a :: as, k :: ks, h, f => .cons (f 0 a k rfl rfl) (each_zipR (by simpa using h) fun j a k h1 h2 => f (j + 1) a k h1 h2)
theorem each_refs {β : Type} : ∀ {out : List Value} {zs : List (Addr × β)}, PySem.W.EachIs (fun v z => v = Value.ref z.1) out zs → out = zs.map fun z => Value.ref z.1
  | _, _, .nil => rfl
  | _, _, .cons h t => by rw [h, each_refs t]; rfl
theorem TDs.maps {β : Type} {H : Hp} {f : β → V} {g : β → PyData} : ∀ {zs : List β}, (∀ z ∈ zs, TD H (f z) (g z)) → TDs H (zs.map f) (zs.map g)
  | [], _ => .nil
  | z :: zs, h => .cons (h z List.mem_cons_self) (TDs.maps fun y hy => h y (List.mem_cons_of_mem _ hy))
def dKI (q : List Int × Int) : PyData := .tuple [dI q.1, .int q.2]
theorem dKI_alike (q q' : List Int × Int) : PySem.W.alike (dKI q) (dKI q') = true := by
  have e := PySem.W.alike_ints q.1 q'.1
  simp [dKI, dI, PySem.W.alike, PySem.W.alikeAll, e]
theorem dKI_depth (q : List Int × Int) : (dKI q).depth ≤ 3 := by
  have e := PySem.W.depth_ints q.1
  simp [dKI, dI, PyData.depth, PyData.depthAll, e]
section
variable {X : Cx}
/-- sorted of the items' view -/
def rSortItD : List V → Hp → VK → Prop := fun vs H Q => ∃ (p a : Addr) (kvs : List (List Int × Int)), vs = [.ref p] ∧ H p = some (L2.DX.itemsO p a) ∧ H a = some (.dT (kvs.map fun q => (q.1.map Sum.inl, V.int q.2))) ∧
  ∀ (H' : Hp) (l : Addr) (ys : List V) (kvs' : List (List Int × Int)), kvs'.Perm kvs → Same H H' → H l = none → H' l = some (.lst ys) → TDs H' ys (kvs'.map dKI) → Q (.ref l) H'
theorem kV_inl (k : List Int) : ((k.map Sum.inl : List L2.Key).map kV) = k.map V.int := by rw [List.map_map]; rfl
theorem cr_sortedItD (hc : X.calm = true) (hu : X.A.units + 64 < cLine) : CallR X (.builtin "sorted") rSortItD := by
  intro pins s σ H xs us Q I r h
  obtain ⟨p, a, kvs, rfl, hp, ha, q⟩ := h
  obtain rfl := Vals.ref1 r
  have view : s.heap.IsItemsView p a := (show ObjOk X.prog X.w H s.heap p (L2.DX.itemsO p a) from I.hok p _ hp).1
  obtain ⟨z, hd, xs', rel, o, es, ep, ho, hx, hdat, hes, his, hn⟩ := dt_of I.hok ha
  have l1 : kvs.length = xs'.length := by
    have := Paired.length rel
    rwa [List.length_map] at this
  have l2 : es.size = xs'.length := size_of_entries hes
  rw [List.length_map] at z
  have hh : X.A.handled = none := I.ok.hd hc
  refine sorted_via (P := fun vs s₁ => ∃ (h' : Heap) (tk : Nat) (as : List Addr), vs = as.map Value.ref ∧ s₁ = { s with heap := h', toks := tk } ∧ (∀ b o, s.heap.get? b = some o → h'.get? b = some o) ∧ s.heap.objs.size < h'.objs.size ∧ as.length = es.size ∧ DT.Made es s.heap.objs.size h' as)
    (fun Q' E' hq => DT.collectI hh view ⟨o, ho, hx, hdat⟩ (by omega) fun h' tk as hk hlt hl hG => hq _ _ ⟨h', tk, as, rfl, rfl, hk, hlt, hl, hG⟩) ?_
  rintro _ _ ⟨h', tk, as, rfl, rfl, hk, hlt, hl, hG⟩
  have lak : as.length = kvs.length := by omega
  have nd : as.Nodup := List.Pairwise.imp (fun h => Nat.ne_of_lt h) hG.rise
  have pr : ∀ (j : Nat) (b : Addr), as[j]? = some b → ∃ (e : List Int × Int) (kq : Addr) (t : Tok), kvs[j]? = some e ∧ H kq = some (.tup (e.1.map V.int)) ∧ h'.get? b = some { cls := .type "tuple", data := .seq #[Value.ref kq, Value.int e.2 t] } := by
    intro j b hj
    obtain ⟨en, he, hg⟩ := hG.pairs j b hj
    rw [entry_at hes j] at he
    cases hxj : xs'[j]? with
    | none =>
      rw [hxj] at he
      exact nomatch (show (none : Option DictEntry) = some en from he)
    | some x =>
      rw [hxj] at he
      have een : entryOfKey (tupleKind (mixKind X.prog X.w)) x = en := Option.some.inj he
      obtain ⟨e0, he0, r1, r2, r3⟩ := L2.DX.pget rel hxj
      rw [List.getElem?_map] at he0
      cases hkj : kvs[j]? with
      | none =>
        rw [hkj] at he0
        exact nomatch (show (none : Option (List L2.Key × V)) = some e0 from he0)
      | some e =>
        rw [hkj] at he0
        have ee : ((e.1.map Sum.inl, V.int e.2) : List L2.Key × V) = e0 := Option.some.inj he0
        rw [← ee] at r2 r3
        obtain ⟨t, r3'⟩ := (show ∃ t, x.2.2 = Value.int e.2 t from r3)
        refine ⟨e, x.2.1, t, rfl, by rw [← kV_inl]; exact r2, ?_⟩
        rw [hg, ← een, ← r3']
        all_goals rfl
  have hzl : (as.map Value.ref).length ≤ sizeLine := by rw [List.length_map]; omega
  refine ⟨hzl, sort_laid (s₁ := { s with heap := h', toks := tk }) (bs := as.zip kvs) (enc := fun z => dKI z.2) (R := fun v z => v = Value.ref z.1) (each_zipR lak fun _ _ _ _ _ => rfl) (each_zipR lak fun j b k h1 h2 => ?_)
    (PySem.W.AllAlike.of fun _ _ => dKI_alike _ _) (PySem.W.Sortable.tuples fun b => ⟨_, _, rfl⟩) hzl (fun b _ => ?_) fun out ho => ?_⟩
  · obtain ⟨e, kq, t, he, hkq, hg⟩ := pr j b h1
    have ee : e = k := Option.some.inj (he.symm.trans h2)
    subst ee
    obtain ⟨as1, r1⟩ := Dp.reads I (dI e.1) (.ref kq) (.ref kq) (TD.ints hkq).dp rfl
    exact ⟨_, Reads.tuple hg rfl rfl (.cons (PyProof.Rows.Reads.keeps hk r1) (.cons (.int _ _) .nil))⟩
  · have := dKI_depth b.2
    show X.A.units + 1 + 1 + (dKI b.2).depth < cLine
    omega
  · have eo := each_refs ho
    generalize hzs : (as.zip kvs).mergeSort (PySem.W.dataLe false fun z => dKI z.2) = zs at eo
    have pz : zs.Perm (as.zip kvs) := by rw [← hzs]; exact List.mergeSort_perm _ _
    have idx : ∀ z ∈ zs, ∃ j : Nat, as[j]? = some z.1 ∧ kvs[j]? = some z.2 := by
      intro z' hz'
      obtain ⟨j, hj⟩ := List.mem_iff_getElem?.mp (pz.mem_iff.mp hz')
      exact ⟨j, List.getElem?_zip_eq_some.mp hj⟩
    have hperm : (zs.map (·.2)).Perm kvs := by
      have e := pz.map (·.2)
      have m2 : (as.zip kvs).map (·.2) = kvs := List.map_snd_zip (by rw [lak]; exact Nat.le_refl _)
      rw [m2] at e
      exact e
    have hob : (h'.push (seqObj "list" (as.map Value.ref).toArray 0)).get? h'.objs.size = some (seqObj "list" (as.map Value.ref).toArray 0) := Heap.get?_push_size _ rfl
    have kF : ∀ b o, h'.get? b = some o → (sortedHeap (h'.push (seqObj "list" (as.map Value.ref).toArray 0)) h'.objs.size (as.map Value.ref) out.toArray).get? b = some o := fun b o e =>
      have e2 : (h'.push (seqObj "list" (as.map Value.ref).toArray 0)).get? b = some o := Heap.get?_push_of_some _ e
      (PyProof.Rows.sortedHeap_old (Nat.ne_of_lt (Heap.lt_size e)) (Heap.lt_size e2)).trans e2
    obtain ⟨eF, heF⟩ := PyProof.Rows.sortedHeap_at (vs := as.map Value.ref) (out := out.toArray) hob
    show EP X pins σ Q (.ref h'.objs.size) { s with heap := sortedHeap (h'.push (seqObj "list" (as.map Value.ref).toArray 0)) h'.objs.size (as.map Value.ref) out.toArray, toks := tk }
    generalize hF : sortedHeap (h'.push (seqObj "list" (as.map Value.ref).toArray 0)) h'.objs.size (as.map Value.ref) out.toArray = hh3 at kF heF ⊢
    have I1 : Inv X pins σ H { s with heap := hh3, toks := tk } := I.kept (t' := tk) fun b o e => kF b o (hk b o e)
    have hn0 : H h'.objs.size = none := I.hok.fresh (Nat.le_of_lt hlt)
    have hlen : (zs.map fun z => V.ref z.1).length ≤ sizeLine := by
      have e := hperm.length_eq
      rw [List.length_map] at e
      rw [List.length_map]
      omega
    have rv : Vals (zs.map fun z => V.ref z.1) out := by
      rw [eo]
      exact vals_maps (fun z : Addr × List Int × Int => V.ref z.1) (fun z => Value.ref z.1) zs fun _ _ => rfl
    have I2 : Inv X pins σ (upd H h'.objs.size (.lst (zs.map fun z => V.ref z.1))) { s with heap := hh3, toks := tk } :=
      I1.take (h' := hh3) (t' := tk) (fun b ob _ e => e) (I.fpOk (Nat.le_of_lt hlt) hn0) ⟨hlen, out, eF, rv, heF⟩
    obtain ⟨H2, I3, g, qt⟩ := L2.DX.takeT (P := fun b vs => ∃ (j : Nat) (e : List Int × Int) (kq : Addr), as[j]? = some b ∧ kvs[j]? = some e ∧ vs = [.ref kq, .int e.2] ∧ H kq = some (.tup (e.1.map V.int))) I as _ I2 nd fun b hb => by
      obtain ⟨j, hj⟩ := List.mem_iff_getElem?.mp hb
      obtain ⟨e, kq, t, he, hkq, hg⟩ := pr j b hj
      have hbl : s.heap.objs.size ≤ b := Nat.le_of_lt (hG.above b hb)
      refine ⟨hbl, ?_, [.ref kq, .int e.2], ⟨j, e, kq, hj, he, rfl, hkq⟩, fun H3 => ⟨(by rw [sizeLine_eq]; show 2 ≤ 16777216; omega), [Value.ref kq, Value.int e.2 t], .cons rfl (.cons ⟨t, rfl⟩ .nil), ⟨_, kF _ _ hg, rfl, 0, rfl⟩⟩⟩
      rw [upd_ne (Nat.ne_of_lt (Heap.lt_size hg))]
      exact I.hok.fresh hbl
    have gr : ∀ b o, H b = some o → H2 b = some o := fun b o e => g b o (by rw [upd_ne (ne_of_none e hn0)]; exact e)
    refine ⟨.ref h'.objs.size, H2, I3, rfl, q H2 h'.objs.size _ (zs.map (·.2)) hperm (fun b o e => gr b o e) hn0 (g _ _ upd_same) ?_⟩
    rw [List.map_map]
    refine TDs.maps fun z' hz' => ?_
    obtain ⟨i, i1, i2⟩ := idx z' hz'
    obtain ⟨vs, ⟨j, e, kq, j1, j2, ev, hkq⟩, hH⟩ := qt z'.1 (List.mem_of_getElem? i1)
    have eij : i = j := (List.getElem?_inj (List.getElem?_eq_some_iff.mp i1).1 nd).mp (i1.trans j1.symm)
    subst eij
    have ee : e = z'.2 := Option.some.inj (j2.symm.trans i2)
    rw [ev, ee] at hH
    rw [ee] at hkq
    exact .tup hH (.cons (TD.ints (gr _ _ hkq)) (.cons (.int _) .nil))
end
section
variable {X : Cx}
/-- a term's law, weakened behind -/
def tUp (td : TE) : TE := fun σ H Q => ∃ Q0 : VK, td σ H Q0 ∧ ∀ x H1, Q0 x H1 → Q x H1
theorem pe_up {o : Expr} {td : TE} (he : PE X o td) : PE X o (tUp td) := ⟨fun pins s σ H Q I ⟨Q0, h, k⟩ =>
  wpAny_mono (he.run pins s σ H Q0 I h) (fun _ _ ⟨x, H1, I1, r, q⟩ => ⟨x, H1, I1, r, k x H1 q⟩) fun _ _ e => e⟩
/-- sorted(d.items()), the keys tuples of ints, the values ints -/
def tSortedItems (td : TE) : TE := fun σ H Q => td σ H fun x H1 => ∃ (a : Addr) (kvs : List (List Int × Int)), x = .ref a ∧ H1 a = some (.dT (kvs.map fun q => (q.1.map Sum.inl, V.int q.2))) ∧ (∀ q ∈ kvs, q.1 ≠ []) ∧
  ∀ H2 p (ys : List V) (kvs' : List (List Int × Int)), kvs'.Perm kvs → Same H1 H2 → H1 p = none → H2 p = some (.lst ys) → TDs H2 ys (kvs'.map fun q => .tuple [dI q.1, .int q.2]) → Q (.ref p) H2
theorem pe_sortedItems {o : Expr} {td : TE} {p apos cpos pos : Pos} (hu : X.A.units + 64 < cLine) (hc : X.calm = true) (hg : Gl X "sorted") (hm : X.mg "sorted" = none) (he : PE X o td)
    (hb : attributeBase o "items" X.env (eval o X.env) = eval o X.env := by rfl) (hl : (apos.endLine == cpos.line) = true := by rfl) :
    PE X (.Call (.Name "sorted" p) [.Call (.Attribute o "items" apos) [] [] cpos] [] pos) (tSortedItems td) := by
  have h1 := pe_callB (p := p) (pos := pos) (cr_sortedItD hc hu) hg hm (by decide +kernel) (pa_cons (pe_bm0 (X := X) (apos := apos) (cpos := cpos) PySem.F.plainAttrs_dict PySem.F.slot_dict_items PySem.F.type_dict_items L2.DX.mt_itemsT (pe_up he) hb hl) pa_nil)
  refine ⟨fun pins s σ H Q I h => h1.run pins s σ H Q I ⟨_, h, ?_⟩⟩
  rintro x H1 ⟨a, kvs, rfl, ha, hne, q⟩
  refine ⟨.inr (.inr (.inl ⟨rfl, .inr ⟨_, ha⟩⟩)), a, _, rfl, rfl, ha, fun v hv => ?_⟩
  refine ⟨v, a, kvs, rfl, upd_same, by rw [upd_ne (ne_of_none ha hv)]; exact ha, fun H2 l ys kvs' hp hs hl2 hl3 ht => ?_⟩
  have hs1 : Same H1 H2 := fun b u e => hs b u (by rw [upd_ne (ne_of_none e hv)]; exact e)
  have hl1 : H1 l = none := by
    by_cases e : l = v
    · rw [e]; exact hv
    · rw [upd_ne e] at hl2; exact hl2
  exact q H2 l ys kvs' hp hs1 hl1 hl3 ht
end
end NH
namespace NH
open PySem PySem.Spec PyProof.Rows L2
section
variable {P : Program} {w : World} {A : Around} {E : Value → Shared → Prop} {s : Shared}
theorem few_len {ks L : List (Addr × List Int)} (hfew : ∀ M : List (List Int), M.Nodup → (∀ k ∈ M, k ∈ ks.map (·.2)) → M.length ≤ 60) (nd : (L.map (·.2)).Nodup) (sub : ∀ p ∈ L, p ∈ ks) : L.length + 1 < 64 := by
  have h := hfew _ nd fun k hk => by
    obtain ⟨p, hp, e⟩ := List.mem_map.mp hk
    exact List.mem_map.mpr ⟨p, sub p hp, e⟩
  rw [List.length_map] at h
  omega
theorem set_update_few {I : Addr} {fp wr : List Addr} {G : Array GenState → Array GenState → Prop} {n : Nat} {Pv : Nat → Value → Prop} {St : Nat → Shared → Prop} {R : Result → Shared → Prop}
    (W : WalksS P w A.in1 I fp wr G n Pv St) (S : Addr) (hSf : S ∉ fp) (ks : List (Addr × List Int)) (hn : n = ks.length) (hfew : ∀ M : List (List Int), M.Nodup → (∀ k ∈ M, k ∈ ks.map (·.2)) → M.length ≤ 60) (hval : ∀ i v, Pv i v → ∃ p, ks[i]? = some p ∧ v = .ref p.1)
    (h0 : Heap) (hk : ∀ p ∈ ks, IsT P w h0 p.2 p.1) (hS0 : h0.get? S = none) (hw0 : ∀ b ∈ wr, h0.get? b = none) (hu : A.in1.units < cLine) :
    ∀ (k i : Nat) (s : Shared), n - i = k → i ≤ n → St i s → (∀ b o, h0.get? b = some o → s.heap.get? b = some o) → (∃ L es ep t, SetTR P w s.heap S L es ep t ∧ Got ks i L) →
      (∀ s' L es ep t, Moved (S :: wr) G s s' → SetTR P w s'.heap S L es ep t → Got ks n L → (∀ b o, h0.get? b = some o → s'.heap.get? b = some o) → R (.ok (.ret .none)) s') →
      codeAny (model P w) A (.builtin "set.update.loop" ⟨[.ref S, .ref I], []⟩) R s := by
  have hSw : S ∉ wr := fun h => hSf (W.sub _ h)
  have hsub : ∀ b ∈ wr, b ∈ S :: wr := fun b hb => List.mem_cons_of_mem _ hb
  have keepM : ∀ {s s' : Shared}, Moved wr G s s' → (∀ b o, h0.get? b = some o → s.heap.get? b = some o) → ∀ b o, h0.get? b = some o → s'.heap.get? b = some o := fun hm hkp b o e =>
    hm.heap b o (fun hb => by rw [hw0 b hb] at e; cases e) (hkp b o e)
  intro k
  induction k with
  | zero =>
    intro i s hk' hi hst hkp ⟨L, es, ep, t, hS, g⟩ hR
    have hin : i = n := by omega
    subst hin
    refine codeAny_builtin F.entry_set_update_loop ?_
    rw [Around.under_plainId F.plain_set_update_loop _]
    show wpAny _ A.in1 (pyNext (.ref I) >>= _) _ _ s
    refine wpAny_bind (W.done s _ _ hst fun s' hm => ?_)
    show wpAny _ A.in1 (ret Value.none) _ _ s'
    have hkp' := keepM hm hkp
    have sub : ∀ p ∈ L, p ∈ ks := fun p hp => List.mem_of_mem_take (g.sub p hp)
    exact wpAny_pure (hR s' L es ep t (hm.mono hsub) (hS.keep (fun o e => hm.heap S o hSw e) fun p hp => isT_keep (hk p (sub p hp)) hkp') g hkp')
  | succ k ih =>
    intro i s hk' hi hst hkp ⟨L, es, ep, t, hS, g⟩ hR
    have hlt : i < n := by omega
    refine codeAny_builtin F.entry_set_update_loop ?_
    rw [Around.under_plainId F.plain_set_update_loop _]
    show wpAny _ A.in1 (pyNext (.ref I) >>= _) _ _ s
    refine wpAny_bind (W.item i s _ _ hlt hst fun v s' hP hst' hm => ?_)
    obtain ⟨p, hp, rfl⟩ := hval i v hP
    have hkp' := keepM hm hkp
    have sub : ∀ p ∈ L, p ∈ ks := fun p hp => List.mem_of_mem_take (g.sub p hp)
    have hS' : SetTR P w s'.heap S L es ep t := hS.keep (fun o e => hm.heap S o hSw e) fun q hq => isT_keep (hk q (sub q hq)) hkp'
    have hx : IsT P w s'.heap p.2 p.1 := isT_keep (hk p (List.mem_of_getElem? hp)) hkp'
    show wpAny _ A.in1 (holding [Value.ref p.1] (setAdd S (.ref p.1)) >>= _) _ _ s'
    refine wpAny_bind (wpAny_holding ?_)
    unfold setAdd
    refine wpAny_holding ?_
    refine wpAny_bind (wpAny_pyHash_tuple hu hx ?_)
    refine add_at (s := { s' with toks := s'.toks + (p.2.length + 1) }) hS' hx hu (few_len hfew hS'.nd sub) fun b h' L' es' ep' t' hsb hS2 c1 c2 => ?_
    have g' : Got ks (i + 1) L' := by
      rcases Classical.em (p.2 ∈ L.map (·.2)) with c | c
      · rw [c1 c]; exact g.same hp c
      · exact g.more hp (c2 c)
    have hkp2 : ∀ b o, h0.get? b = some o → h'.get? b = some o := fun b o e => (hsb.2 b (fun z => by rw [z, hS0] at e; cases e)).trans (hkp' b o e)
    refine wpAny_pure ⟨plainId_quiet F.plain_set_update_loop _, ih (i + 1) _ (by omega) hlt (W.frame _ s' _ _ hst' (Nat.le_add_right _ _) fun b hb o e => ?_) hkp2 ⟨L', es', ep', t', hS2, g'⟩ fun s'' L2 es2 ep2 t2 hm'' hS'' g'' hkp'' => ?_⟩
    · rw [hsb.2 b (fun h : b = S => hSf (by rw [← h]; exact hb))]; exact e
    · refine hR s'' L2 es2 ep2 t2 (Moved.trans W.gtrans ((hm.mono hsub).then_heap (Nat.le_add_right _ _) fun b o hb e => ?_) hm'') hS'' g'' hkp''
      rw [hsb.2 b (fun h : b = S => hb (by rw [h]; exact List.mem_cons_self))]; exact e

theorem call_set_few {l : Addr} {items : Array Value} (ks : List (Addr × List Int)) {Q : Value → Shared → Prop} (hh : A.handled = none) (hl : s.heap.IsList l items) (hit : items.toList = ks.map fun p => Value.ref p.1)
    (hk : ∀ p ∈ ks, IsT P w s.heap p.2 p.1) (hfew : ∀ M : List (List Int), M.Nodup → (∀ k ∈ M, k ∈ ks.map (·.2)) → M.length ≤ 60) (hu : A.units + 3 < cLine)
    (h : ∀ (h' : Heap) (tk : Nat) L es ep t, SetTR P w h' s.heap.objs.size L es ep t → Got ks ks.length L → (∀ b o, s.heap.get? b = some o → h'.get? b = some o) → Q (.ref s.heap.objs.size) { s with heap := h', toks := tk }) :
    wpAny (model P w) A (call (.type "set") [.ref l]) Q E s := by
  have hisz : items.size = ks.length := by
    have q := congrArg List.length hit
    rw [Array.length_toList, List.length_map] at q
    exact q
  obtain ⟨c, tl, hmro⟩ := F.called_set.mro
  have hmade := F.called_set.made
  have hsub := F.called_set.sub
  refine wpAny_call (codeAny_of_tree ?_)
  show wpAny _ _ (callAny (.type "set") _) _ _ _
  refine wpAny_pure ⟨Code.quiet_builtin _ (by decide +kernel), codeAny_builtin F.entry_type_call ?_⟩
  rw [Around.under_plain (weight_type_call_type "set" [.ref l] []) rfl]
  have h1 := F.called_set.notType
  have h2 := F.called_set.canCreate
  have hct := F.typeCall_set_1 (.ref l)
  repeat (any_goals (first | assumption | wp_step))

  refine codeAny_mono (code_set_led1 (.ref l) (E := E) (Q₁ := fun obj s₁ => obj = .ref s.heap.objs.size ∧ s₁ = { s with heap := s.heap.push { cls := .type "set", dict := none, data := .set #[] 0 (.fresh 0 0 (!w.params.followText "set-order")) } }) ⟨rfl, rfl⟩) fun r s₁ hr => ?_
  cases r with
  | error e => exact hr
  | ok fl =>
    cases fl with
    | ret obj =>
      obtain ⟨rfl, rfl⟩ := hr
      have hS : (s.heap.push { cls := .type "set", dict := none, data := .set #[] 0 (.fresh 0 0 (!w.params.followText "set-order")) }).get? s.heap.objs.size = some { cls := .type "set", dict := none, data := .set #[] 0 (.fresh 0 0 (!w.params.followText "set-order")) } := Heap.get?_push_size _ rfl
      have hT : Shared.TypeIs { s with heap := s.heap.push { cls := .type "set", dict := none, data := .set #[] 0 (.fresh 0 0 (!w.params.followText "set-order")) } } (.ref s.heap.objs.size) "set" := ⟨_, hS, rfl⟩
      have hli := F.called_set.init.lookup
      have hbi := F.called_set.init.bind (.ref s.heap.objs.size)
      repeat (any_goals (first | assumption | wp_step))

      refine codeAny_mono (codeAny_call_builtin (R := wants (fun r s₂ => r = .none ∧ ∃ h' tk L es ep t, s₂ = { s with heap := h', toks := tk } ∧ SetTR P w h' s.heap.objs.size L es ep t ∧ Got ks ks.length L ∧
          (∀ b o, s.heap.get? b = some o → h'.get? b = some o)) E) F.called_set.init.plain F.entry_set_init (check_set_init_1 hT ?_)) fun r₂ s₂ hr₂ => ?_
      · obtain ⟨ol, hol, hcl, nl, hdl⟩ := hl
        obtain ⟨ocls, odict, odata, oslots⟩ := ol
        simp only at hcl hdl
        subst hcl; subst hdl
        have hol' : (s.heap.push { cls := .type "set", dict := none, data := .set #[] 0 (.fresh 0 0 (!w.params.followText "set-order")) }).get? l = some { cls := .type "list", dict := odict, data := .seq items nl, slots := oslots } := Heap.get?_push_of_some _ hol
        have hsls := F.sub_list_set
        have hslf := F.sub_list_frozenset
        have hne : (Value.type "list" == Value.type "dict") = false := by decide
        have hl1 : (s.heap.push { cls := .type "set", dict := none, data := .set #[] 0 (.fresh 0 0 (!w.params.followText "set-order")) }).IsList l items := ⟨_, hol', rfl, nl, rfl⟩
        unfold Builtin.«set.__init__» noKeywords Builtin.Frozenset.updateFrom
        generalize hPI : pyIter = PI
        wp_walk
        subst hPI

        refine wpAny_pyIter_list hl1 ?_
        refine wpAny_bind (wpAny_runValue ?_)
        have hlS : l < s.heap.objs.size := Heap.lt_size hol
        have hh3 : A.in1.in1.in1.handled = none := by simp [hh]
        have hz1 : (s.heap.push { cls := .type "set", dict := none, data := .set #[] 0 (.fresh 0 0 (!w.params.followText "set-order")) }).objs.size = s.heap.objs.size + 1 := Heap.size_push ..
        have hneI : l ≠ (s.heap.push { cls := .type "set", dict := none, data := .set #[] 0 (.fresh 0 0 (!w.params.followText "set-order")) }).objs.size := by
          rw [Heap.size_push]; exact Nat.ne_of_lt (Nat.lt_succ_of_lt hlS)
        have hSf : s.heap.objs.size ∉ [(s.heap.push { cls := .type "set", dict := none, data := .set #[] 0 (.fresh 0 0 (!w.params.followText "set-order")) }).objs.size, l] := by
          rw [Heap.size_push]; simp only [List.mem_cons, List.mem_singleton, List.not_mem_nil, or_false, not_or]
          exact ⟨Nat.ne_of_lt (Nat.lt_succ_self _), Nat.ne_of_gt hlS⟩
        have hval : ∀ (i : Nat) (v : Value), items[i]? = some v → ∃ p, ks[i]? = some p ∧ v = .ref p.1 := fun i v hv => by
          have q : items.toList[i]? = some v := by rw [Array.getElem?_toList]; exact hv
          rw [hit, List.getElem?_map] at q
          cases hq : ks[i]? with
          | none => rw [hq] at q; cases q
          | some p =>
            rw [hq] at q
            exact ⟨p, rfl, (Option.some.inj q).symm⟩
        have none_of : ∀ b, s.heap.objs.size ≤ b → s.heap.get? b = none := fun b hb => by
          cases q : s.heap.get? b with
          | none => rfl
          | some o => exact absurd (Nat.lt_of_lt_of_le (Heap.lt_size q) hb) (Nat.lt_irrefl _)
        refine set_update_few ((Walks.list hh3 _ l hneI items).toS) s.heap.objs.size
          hSf ks hisz hfew hval s.heap hk (none_of _ (Nat.le_refl _)) (fun b hb => none_of b (by
            rw [List.mem_singleton.mp hb, Heap.size_push]
            exact Nat.le_succ _)) hu (items.size - 0) 0 _ (by omega) (Nat.zero_le _)
          ⟨⟨_, Heap.get?_push_size _ rfl, rfl, rfl⟩, (hl1.push _)⟩ (fun b o e => Heap.get?_push_of_some _ (Heap.get?_push_of_some _ e)) ?hS0 ?hR
        case hS0 =>
          have hget : ((s.heap.push { cls := .type "set", dict := none, data := .set #[] 0 (.fresh 0 0 (!w.params.followText "set-order")) }).push { cls := .type "list_iterator", data := .fields #[.ref l, .int 0 0] }).get? s.heap.objs.size
              = some { cls := .type "set", dict := none, data := .set #[] 0 (.fresh 0 0 (!w.params.followText "set-order")) } := Heap.get?_push_of_some _ hS
          exact ⟨[], #[], 0, _, setTR_fresh hget, Got.zero ks⟩
        case hR =>
          intro s' L es ep t hm hS' g' hkp
          obtain ⟨h', g2, d', tk', os'⟩ := s'
          have eg : g2 = s.gens := hm.gens
          have ed : d' = s.drawn := hm.drawn
          have eo : os' = s.os := hm.os
          subst eg; subst ed; subst eo
          show wpAny _ _ _ _ _ _
          refine wpAny_pure ?_
          show wpAny _ _ (ret Value.none) _ _ _
          rw [hisz] at g'
          exact wpAny_pure ⟨rfl, h', tk', L, es, ep, t, rfl, hS', g', hkp⟩

      · cases r₂ with
        | error e => exact hr₂
        | ok fl₂ =>
          cases fl₂ with
          | ret r =>
            obtain ⟨rfl, h', tk, L, es, ep, t, rfl, hS', g', hk'⟩ := hr₂
            repeat (any_goals (first | assumption | wp_step))
            exact h _ _ _ _ _ _ hS' g' hk'
          | _ => exact hr₂.elim
    | _ => exact hr.elim

end
end NH
namespace NH
open PySem PySem.Spec PyProof.Rows L2
section
variable {X : Cx}
theorem each_self {β : Type} {F : Value → Addr × β → Prop} : ∀ {L : List (Addr × β)}, (∀ z ∈ L, F (.ref z.1) z) → PySem.W.EachIs F (L.map fun z => Value.ref z.1) L
  | [], _ => .nil
  | z :: L, h => .cons (h z List.mem_cons_self) (each_self fun y hy => h y (List.mem_cons_of_mem _ hy))
/-- set(xs), tuples of ints, few of them different -/
def rSetFew (K : PySem.W.Frag) (P : Program) (w : World) : List V → Hp → VK → Prop := fun xs H Q => ∃ (l : Addr) (ks : List (Addr × List Int)), xs = [V.ref l] ∧ SqL K H l (ks.map fun p => V.ref p.1) ∧ (∀ p ∈ ks, SqT K H p.1 (p.2.map V.int)) ∧
  (∀ M : List (List Int), M.Nodup → (∀ k ∈ M, k ∈ ks.map (·.2)) → M.length ≤ 60) ∧ ∀ a L, H a = none → (∀ p ∈ L, p ∈ ks) → Q (.ref a) (upd H a (SetTO P w a L))
theorem cr_setFew (hc : X.calm = true) (hu : X.A.units + 64 < cLine) : CallR X (.type "set") (rSetFew X.K X.prog X.w) := by
  intro pins s σ H xs us Q I r h
  obtain ⟨l, ks, rfl, hl, hk, hf, q⟩ := h
  rw [Vals.ref1 r]
  obtain ⟨its, rv, pl, hz⟩ := I.list hl
  have hn : H s.heap.objs.size = none := I.hok.fresh (Nat.le_refl _)
  refine call_set_few (P := X.prog) (w := X.w) ks (I.ok.hd hc) pl.isList (by simpa using refs_of_vals rv) (fun p hp => I.isT (hk p hp)) hf (by omega) fun h' tk L es ep t R g k => ?_
  exact ⟨.ref s.heap.objs.size, upd H s.heap.objs.size (SetTO X.prog X.w s.heap.objs.size L), I.laid (t' := tk) k (Nat.le_refl _) (setTO_new R.t0), rfl, q _ L hn fun p hp => List.mem_of_mem_take (g.sub p hp)⟩
/-- sorted of such a set -/
def rSortedSD (K : PySem.W.Frag) (P : Program) (w : World) : List V → Hp → VK → Prop := fun vs H Q => ∃ (a : Addr) (L : List (Addr × List Int)), vs = [V.ref a] ∧ H a = some (SetTO P w a L) ∧ (∀ p ∈ L, TD H (.ref p.1) (dI p.2) ∧ p.2 ≠ []) ∧
  ∀ (L' : List (Addr × List Int)) (p : Addr), L'.Perm L → H p = none → Q (.ref p) (upd H p (.lst (L'.map fun q => V.ref q.1)))
theorem dI_sqT {K : PySem.W.Frag} {H : Hp} {a : Addr} {k : List Int} (h : TD H (.ref a) (dI k)) : SqT K H a (k.map V.int) := by
  obtain ⟨b, e, hb⟩ := h.ints_inv
  cases e
  exact SqT.of hb
theorem cr_sortedSD (hc : X.calm = true) (hu : X.A.units + 64 < cLine) : CallR X (.builtin "sorted") (rSortedSD X.K X.prog X.w) := by
  intro pins s σ H vs us Q I r h
  obtain ⟨a, L, rfl, ha, hk, q⟩ := h
  have R0 : SetT0 X.prog X.w s.heap a L := (I.hok a _ ha).1
  obtain ⟨es, ep, t, R⟩ := R0.full fun p hp => I.isT (dI_sqT (hk p hp).1)
  rw [Vals.ref1 r]
  have hh : X.A.handled = none := I.ok.hd hc
  obtain ⟨o, ho, hex, hd⟩ := R.ob
  have hsz := R.size
  have hf := R.few
  have hes : es.toList.map (·.2) = L.map fun q => Value.ref q.1 := by
    rw [R.rows]
    unfold rowsOf
    rw [List.map_map] <;> rfl
  refine sorted_via (P := fun vs s₁ => (∀ b o, s.heap.get? b = some o → s₁.heap.get? b = some o) ∧ s.heap.objs.size ≤ s₁.heap.objs.size ∧ s₁.gens = s.gens ∧ s₁.os = s.os ∧ vs.Perm (L.map fun q => Value.ref q.1))
    (fun Q' E' hq => collect_set (A := X.A.in1) hh ⟨o, ho, hex.1, hd⟩ R.fits (by unfold scanBound; omega) R.tab.ris R.led fun s1 vs k1 hz g1 o1 pm => hq _ _ ⟨k1, hz, g1, o1, by rw [← hes]; exact pm⟩) ?_
  rintro s1 vs ⟨k, hz, g1, o1, pm⟩
  obtain ⟨L1, p1, rfl⟩ := perm_lift (fun z : Addr × List Int => Value.ref z.1) pm L rfl
  have hzl : (L1.map fun z => Value.ref z.1).length ≤ sizeLine := by rw [List.length_map, p1.length_eq, sizeLine_eq]; omega
  refine ⟨hzl, sort_laid (bs := L1) (enc := fun z => dI z.2) (R := fun v z => v = Value.ref z.1) (each_self fun _ _ => rfl) (each_self fun z hz' => ?_) (PySem.W.AllAlike.of fun b b' => ?_) (.inl fun d hd' => ?_) hzl (fun b _ => ?_) fun out hout => ?_⟩
  · obtain ⟨as1, r1⟩ := Dp.reads I (dI z.2) (.ref z.1) (.ref z.1) (hk z (p1.mem_iff.mp hz')).1.dp rfl
    exact ⟨_, PyProof.Rows.Reads.keeps k r1⟩
  · have e := PySem.W.alike_ints b.2 b'.2
    simp [dI, PySem.W.alike, e]
  · obtain ⟨z, hz', rfl⟩ := List.mem_map.mp hd'
    have hne := (hk z (p1.mem_iff.mp hz')).2
    cases hc2 : z.2 with
    | nil => exact absurd hc2 hne
    | cons x r2 => exact ⟨.int x, r2.map PyData.int, rfl⟩
  · have e := PySem.W.depth_ints b.2
    have e2 : (dI b.2).depth ≤ 2 := by simp [dI, PyData.depth, e]
    show X.A.units + 1 + 1 + (dI b.2).depth < cLine
    omega
  · have eo := each_refs hout
    generalize hzs : L1.mergeSort (PySem.W.dataLe false fun z => dI z.2) = zs at eo
    have pz : zs.Perm L1 := by rw [← hzs]; exact List.mergeSort_perm _ _
    have hob : (s1.heap.push (seqObj "list" (L1.map fun z => Value.ref z.1).toArray 0)).get? s1.heap.objs.size = some (seqObj "list" (L1.map fun z => Value.ref z.1).toArray 0) := Heap.get?_push_size _ rfl
    have kF : ∀ b o, s1.heap.get? b = some o → (sortedHeap (s1.heap.push (seqObj "list" (L1.map fun z => Value.ref z.1).toArray 0)) s1.heap.objs.size (L1.map fun z => Value.ref z.1) out.toArray).get? b = some o := fun b o e =>
      have e2 : (s1.heap.push (seqObj "list" (L1.map fun z => Value.ref z.1).toArray 0)).get? b = some o := Heap.get?_push_of_some _ e
      (PyProof.Rows.sortedHeap_old (Nat.ne_of_lt (Heap.lt_size e)) (Heap.lt_size e2)).trans e2
    obtain ⟨eF, heF⟩ := PyProof.Rows.sortedHeap_at (vs := L1.map fun z => Value.ref z.1) (out := out.toArray) hob
    generalize hF : sortedHeap (s1.heap.push (seqObj "list" (L1.map fun z => Value.ref z.1).toArray 0)) s1.heap.objs.size (L1.map fun z => Value.ref z.1) out.toArray = hh3 at kF heF ⊢
    have hn : H s1.heap.objs.size = none := I.hok.fresh hz
    have hlen : (zs.map fun q => V.ref q.1).length ≤ sizeLine := by
      rw [List.length_map, pz.length_eq, p1.length_eq, sizeLine_eq]; omega
    have rv : Vals (zs.map fun z => V.ref z.1) out := by rw [eo]; exact vals_of_refs zs
    have k3 : ∀ b u, s.heap.get? b = some u → hh3.get? b = some u := fun b u e => kF b u (k b u e)
    have J : Inv X pins σ (upd H s1.heap.objs.size (.lst (zs.map fun q => V.ref q.1))) { s with heap := hh3, gens := s1.gens, drawn := s1.drawn, toks := s1.toks } :=
      I.call (ch := []) (Un.laid k3 hz hn) (I.hok.laid k3 hz ⟨hlen, out, eF, rv, heF⟩) (by rw [g1]; exact I.bare) (fun _ z => nomatch z)
    have e : { s1 with heap := hh3 } = { s with heap := hh3, gens := s1.gens, drawn := s1.drawn, toks := s1.toks } := by
      cases s1
      cases s
      cases o1
      rfl
    show EP X pins σ Q (.ref s1.heap.objs.size) { s1 with heap := hh3 }
    rw [e]
    exact ⟨.ref _, _, J, rfl, q zs _ (pz.trans p1) hn⟩
/-- sorted(set(xs)), xs a list of tuples of ints, few of them different -/
def tSortedSet (K : PySem.W.Frag) (ta : TE) : TE := fun σ H Q => ta σ H fun x H1 => ∃ (l : Addr) (xs : List V) (ks : List (List Int)), x = .ref l ∧ SqL K H1 l xs ∧ TDs H1 xs (ks.map dI) ∧ (∀ k ∈ ks, k ≠ []) ∧ xs.length ≤ 1000000 ∧
  (∀ L : List (List Int), L.Nodup → (∀ k ∈ L, k ∈ ks) → L.length ≤ 60) ∧
  ∀ H2 p (ys : List V), Same H1 H2 → H1 p = none → (∀ y ∈ ys, y ∈ xs) → H2 p = some (.lst ys) → Q (.ref p) H2
theorem td_pairs {H : Hp} : ∀ {xs : List V} {ks : List (List Int)}, TDs H xs (ks.map dI) → ∃ ps : List (Addr × List Int), xs = ps.map (fun p => V.ref p.1) ∧ ks = ps.map (·.2) ∧ ∀ p ∈ ps, TD H (.ref p.1) (dI p.2)
  | [], [], _ => ⟨[], rfl, rfl, fun _ h => nomatch h⟩
  | x :: xs, k :: ks, .cons h t => by
    obtain ⟨ps, rfl, rfl, hp⟩ := td_pairs t
    obtain ⟨a, rfl, ha⟩ := h.ints_inv
    refine ⟨(a, k) :: ps, rfl, rfl, fun p hm => ?_⟩
    rcases List.mem_cons.mp hm with rfl | hm
    · exact h
    · exact hp p hm
theorem pe_sortedSet {e : Expr} {ta : TE} {p p2 pos pos2 : Pos} (hu : X.A.units + 64 < cLine) (hc : X.calm = true) (hg : Gl X "sorted") (hm : X.mg "sorted" = none) (hg2 : Gl X "set") (hm2 : X.mg "set" = none) (ha : PE X e ta)
    (hs : starEach [e] X.env = (false, eval e X.env) :: starEach [] X.env := by rfl) :
    PE X (.Call (.Name "sorted" p) [.Call (.Name "set" p2) [e] [] pos2] [] pos) (tSortedSet X.K ta) := by
  have h1 := pe_callB (p := p) (pos := pos) (cr_sortedSD hc hu) hg hm (by decide +kernel) (pa_cons (pe_callTy (p := p2) (pos := pos2) (cr_setFew hc hu) hg2 hm2 (by decide +kernel) (pa_cons (pe_up ha) pa_nil hs) (he := hs)) pa_nil)
  refine ⟨fun pins s σ H Q I h => h1.run pins s σ H Q I ⟨_, h, ?_⟩⟩
  rintro x H1 ⟨l, xs, ks, rfl, hl, ht, hne, hlen, hfew, q⟩
  obtain ⟨ps, rfl, rfl, hp⟩ := td_pairs ht
  refine ⟨l, ps, rfl, hl, fun p hp' => dI_sqT (hp p hp'), hfew, fun a L hn hL => ?_⟩
  have hs1 : Same H1 (upd H1 a (SetTO X.prog X.w a L)) := fun b u e => by rw [upd_ne (ne_of_none e hn)]; exact e
  refine ⟨a, L, rfl, upd_same, fun p hp' => ⟨(hp p (hL p hp')).le (Same.le hs1), hne _ (List.mem_map.mpr ⟨p, hL p hp', rfl⟩)⟩, fun L' b pm hb => ?_⟩
  have hb1 : H1 b = none := by
    by_cases e : b = a
    · rw [e]; exact hn
    · rw [upd_ne e] at hb; exact hb
  refine q _ b _ (fun c u e => ?_) hb1 (fun y hy => ?_) upd_same
  · rw [upd_ne (ne_of_none e hb1)]; exact hs1 c u e
  · obtain ⟨z, hz, rfl⟩ := List.mem_map.mp hy
    exact List.mem_map.mpr ⟨z, hL z (pm.mem_iff.mp hz), rfl⟩
end
end NH
namespace NH
open PySem PySem.Spec PyProof.Rows L2
theorem zip_noLen : typeLookup (.type "zip") "__len__" = pure none := PySem.am_miss_of_fast (by decide +kernel)
theorem zip_noHint : typeLookup (.type "zip") "__length_hint__" = pure none := PySem.am_miss_of_fast (by decide +kernel)
abbrev LstAt (h : Heap) (S : Addr) (acc : Array Value) (c : Nat) : Prop := h.get? S = some { cls := .type "list", dict := none, data := .seq acc c, slots := #[] }
section
variable {prog : Program} {w : World} {A : Around} {E : Value → Shared → Prop} {s : Shared}
/-- what an iterator gives, with what stands behind it, drawn into a list -/
structure Gives (prog : Program) (w : World) (A : Around) (S I : Addr) (n : Nat) (J : Nat → Array Value → Shared → Prop) (Z : Array Value → Shared → Prop) : Prop where
  size : ∀ i acc s, J i acc s → acc.size = i
  frame : ∀ i acc s h', J i acc s → (∀ b o, b ≠ S → s.heap.get? b = some o → h'.get? b = some o) → s.heap.objs.size ≤ h'.objs.size → J i acc { s with heap := h' }
  step : ∀ i acc s (Q : Option Value → Shared → Prop) (E : Value → Shared → Prop), i < n → J i acc s → S < s.heap.objs.size → (∀ v s', J (i + 1) (acc.push v) s' → (∀ o, s.heap.get? S = some o → s'.heap.get? S = some o) → Q (some v) s') → wpAny (model prog w) A (pyNext (.ref I)) Q E s
  done : ∀ acc s (Q : Option Value → Shared → Prop) (E : Value → Shared → Prop), J n acc s → (∀ s', Z acc s' → (∀ o, s.heap.get? S = some o → s'.heap.get? S = some o) → Q none s') → wpAny (model prog w) A (pyNext (.ref I)) Q E s
theorem Gives.loop {S I : Addr} {n : Nat} {J : Nat → Array Value → Shared → Prop} {Z : Array Value → Shared → Prop} {res : Value} {R : Result → Shared → Prop} (G : Gives prog w A.in1 S I n J Z) (hn : n ≤ sizeLine)
    (hR : ∀ s' acc c, Z acc s' → LstAt s'.heap S acc c → R (.ok (.ret res)) s') :
    ∀ (k i : Nat) (s : Shared) (acc : Array Value) (c : Nat), n - i = k → i ≤ n → J i acc s → LstAt s.heap S acc c → codeAny (model prog w) A (.builtin "list.extend.loop" ⟨[.ref S, .ref I, res], []⟩) R s := by
  intro k
  induction k with
  | zero =>
    intro i s acc c hk hi hj hS
    obtain rfl : i = n := by omega
    refine codeAny_builtin PySem.F.entry_extend_loop ?_
    rw [Around.under_plainId PySem.F.plain_extend_loop _]
    show wpAny _ A.in1 (pyNext (.ref I) >>= _) _ _ s
    exact wpAny_bind (G.done acc s _ _ hj fun s' j' kS => wpAny_pure (hR s' acc c j' (kS _ hS)))
  | succ k ih =>
    intro i s acc c hk hi hj hS
    have hlt : i < n := by omega
    refine codeAny_builtin PySem.F.entry_extend_loop ?_
    rw [Around.under_plainId PySem.F.plain_extend_loop _]
    show wpAny _ A.in1 (pyNext (.ref I) >>= _) _ _ s
    refine wpAny_bind (G.step i acc s _ _ hlt hj (Heap.lt_size hS) fun v s' j' kS => ?_)
    have hS' := kS _ hS
    have hz := G.size _ _ _ hj
    show wpAny _ A.in1 (updateSeq S (·.push v) >>= _) _ _ _
    refine wpAny_bind ?_
    refine wpAny_updateSeq hS' rfl (wpAny_pure ⟨plainId_quiet PySem.F.plain_extend_loop _, ih (i + 1) _ (acc.push v) _ (by omega) hlt (G.frame _ _ _ _ j' (fun b o hb e => (Heap.get?_update_other _ _ (Ne.symm hb)).trans e) (by rw [Heap.size_update]; exact Nat.le_refl _)) (Heap.get?_update_self _ hS' rfl)⟩)
      (by rw [hz]; omega) (by show (acc.push v).size ≤ sizeLine + 1; rw [Array.size_push, hz]; omega)
theorem Gives.extend {S I : Addr} {n : Nat} {J : Nat → Array Value → Shared → Prop} {Z : Array Value → Shared → Prop} {res : Value} {R : Result → Shared → Prop} {c₀ : Nat} (G : Gives prog w A.in1 S I n J Z) (hn : n ≤ sizeLine) (hSI : S ≠ I)
    (hT : s.TypeIs (.ref I) "zip") (hit : ∀ (Q : Value → Shared → Prop) (E : Value → Shared → Prop), Q (.ref I) s → wpAny (model prog w) A.in1 (pyIter (.ref I)) Q E s) (hj : J 0 #[] s) (hS : LstAt s.heap S #[] c₀)
    (hR : ∀ s' acc c, Z acc s' → LstAt s'.heap S acc c → R (.ok (.ret res)) s') :
    wpAny (model prog w) A.in1 (Builtin.List.listExtendWith (.ref S) (.ref I) res)
      (fun fin s' => match fin with | .done f => R (.ok f) s' | .again c' => c'.quiet = true ∧ codeAny (model prog w) A c' R s') (fun e s' => R (.error e) s') s := by
  unfold Builtin.List.listExtendWith
  refine wpAny_bind (wpAny_typeOf hT ?_)
  have h1 : Builtin.List.listSameRef (.ref S) (.ref I) = false := by simp [Builtin.List.listSameRef, hSI]
  have h2 : (Value.type "zip" == Value.type "list") = false := by decide
  have h3 : (Value.type "zip" == Value.type "tuple") = false := by decide
  simp only [h1, h2, h3, Bool.or_false, Bool.false_eq_true, if_false]
  refine wpAny_bind (hit _ _ ?_)
  refine wpAny_bind (wpAny_holding ?_)
  unfold Builtin.List.listLengthHint
  refine wpAny_bind (wpAny_specialOf hT zip_noLen ?_)
  show wpAny _ A.in1 (specialOf (Value.ref I) (Str.ofString "__length_hint__") >>= _) _ _ _
  refine wpAny_bind (wpAny_specialOf hT zip_noHint (wpAny_pure ?_))
  show wpAny _ A.in1 (rule "list.extend.makes-room" >>= fun _ => Builtin.List.listTouch (.ref S) >>= fun _ =>
    again (.builtin "list.extend.loop" ⟨[.ref S, .ref I, res], []⟩)) _ _ _
  refine wpAny_bind (wpAny_rule ?_)
  refine wpAny_bind ?_
  show wpAny _ A.in1 (updateSeq S (·.push .none) >>= fun _ => updateSeq S (·.pop)) _ _ _
  refine wpAny_bind (wpAny_updateSeq hS rfl ?_)
  have hS₂ := Heap.get?_update_self (Obj.mapSeq (·.push Value.none)) hS rfl
  refine wpAny_updateSeq (hz := by seq_fits) hS₂ rfl ?_
  have hS₃ := Heap.get?_update_self (Obj.mapSeq (·.pop)) hS₂ rfl
  have hj2 : J 0 #[] { s with heap := (s.heap.update S (Obj.mapSeq (·.push Value.none))).update S (Obj.mapSeq (·.pop)) } := G.frame 0 #[] s _ hj (fun b o hb e => (Heap.get?_update_other _ _ (Ne.symm hb)).trans ((Heap.get?_update_other _ _ (Ne.symm hb)).trans e))
    (by rw [Heap.size_update, Heap.size_update]; exact Nat.le_refl _)
  exact wpAny_pure ⟨plainId_quiet PySem.F.plain_extend_loop _, G.loop hn hR n 0 _ #[] _ rfl (Nat.zero_le _) hj2 hS₃⟩
theorem Gives.init {S I : Addr} {n : Nat} {J : Nat → Array Value → Shared → Prop} {Z : Array Value → Shared → Prop} {R : Result → Shared → Prop} {c₀ : Nat} (G : Gives prog w A.in1 S I n J Z) (hn : n ≤ sizeLine) (hSI : S ≠ I)
    (hT : ∀ s, J 0 #[] s → s.TypeIs (.ref I) "zip") (hit : ∀ s (Q : Value → Shared → Prop) (E : Value → Shared → Prop), J 0 #[] s → Q (.ref I) s → wpAny (model prog w) A.in1 (pyIter (.ref I)) Q E s) (hj : J 0 #[] s) (hS : LstAt s.heap S #[] c₀)
    (hR : ∀ s' acc c, Z acc s' → LstAt s'.heap S acc c → R (.ok (.ret .none)) s') :
    wpAny (model prog w) A.in1 (Builtin.«list.__init__» ⟨[.ref S, .ref I], []⟩)
      (fun fin s' => match fin with | .done f => R (.ok f) s' | .again c' => c'.quiet = true ∧ codeAny (model prog w) A c' R s') (fun e s' => R (.error e) s') s := by
  show wpAny _ A.in1 (do let old ← Builtin.List.listItems (.ref S); Builtin.List.listUpdate (.ref S) (fun _ => #[]); letGo old.toList.reverse; Builtin.List.listExtendWith (.ref S) (.ref I) .none) _ _ s
  refine wpAny_bind ?_
  unfold Builtin.List.listItems
  refine wpAny_bind (wpAny_seqItems hS rfl (wpAny_pure ?_))
  show wpAny _ A.in1 (updateSeq S (fun _ => #[]) >>= fun _ => letGo (#[] : Array Value).toList.reverse >>= fun _ => Builtin.List.listExtendWith (.ref S) (.ref I) .none) _ _ s
  refine wpAny_bind (wpAny_updateSeq hS rfl ?_)
  have hS₂ := Heap.get?_update_self (Obj.mapSeq (fun _ => (#[] : Array Value))) hS rfl
  refine wpAny_bind (wpAny_letGo ?_)
  have hj' := G.frame _ _ _ (s.heap.update S (Obj.mapSeq (fun _ => (#[] : Array Value)))) hj (fun b o hb e => (Heap.get?_update_other _ _ (Ne.symm hb)).trans e) (by rw [Heap.size_update]; exact Nat.le_refl _)
  exact G.extend hn hSI (hT _ hj') (fun Q E h => hit _ Q E hj' h) hj' hS₂ hR
theorem Gives.call {I : Addr} {n : Nat} {J : Nat → Array Value → Shared → Prop} {Z : Array Value → Shared → Prop} {Q : Value → Shared → Prop} (G : Gives prog w A.in1.in1 s.heap.objs.size I n J Z) (hn : n ≤ sizeLine) (hSI : s.heap.objs.size ≠ I)
    (hT : ∀ s, J 0 #[] s → s.TypeIs (.ref I) "zip") (hit : ∀ s (Q : Value → Shared → Prop) (E : Value → Shared → Prop), J 0 #[] s → Q (.ref I) s → wpAny (model prog w) A.in1.in1 (pyIter (.ref I)) Q E s) (hj : J 0 #[] s)
    (hQ : ∀ s' acc c, Z acc s' → LstAt s'.heap s.heap.objs.size acc c → Q (.ref s.heap.objs.size) s') :
    wpAny (model prog w) A (call (.type "list") [.ref I]) Q E s := by
  refine callType_codes (Q₁ := fun obj s₁ => obj = .ref s.heap.objs.size ∧ s₁ = { s with heap := s.heap.push { cls := .type "list", data := .seq #[] } }) PySem.F.called_list (PySem.F.typeCall_list_1 _) PySem.F.entry_list_init
    (code_list_new _ ⟨rfl, rfl⟩) fun obj s₁ h₁ => ?_
  obtain ⟨rfl, rfl⟩ := h₁
  have hS : (s.heap.push { cls := .type "list", data := .seq #[] }).get? s.heap.objs.size = some { cls := .type "list", data := .seq #[] } := Heap.get?_push_size _ rfl
  have hj' := G.frame _ _ _ (s.heap.push { cls := .type "list", data := .seq #[] }) hj (fun b o _ e => Heap.get?_push_of_some _ e) (by rw [Heap.size_push]; exact Nat.le_succ _)
  exact ⟨⟨_, hS, rfl⟩, PySem.F.args_list_init_2 _ _, G.init hn hSI hT hit hj' hS fun s' acc c hj2 hS' => ⟨rfl, hQ s' acc c hj2 hS'⟩⟩
end
end NH
namespace NH
open PySem PySem.Spec PyProof.Rows L2
section
variable {prog : Program} {w : World} {A : Around} {s0 : Shared}
/-- the zip at z = N + 4 has given i pairs; the list stands at N + 5 -/
structure ZipAt (s0 : Shared) (a b : Addr) (its1 its2 : Array Value) (i : Nat) (h : Heap) : Prop where
  TI : IsPair h (s0.heap.objs.size + 2) (.ref s0.heap.objs.size) (.ref (s0.heap.objs.size + 1))
  i1 : h.IsListIter s0.heap.objs.size a i
  i2 : h.IsListIter (s0.heap.objs.size + 1) b i
  zip : (IsZip h (s0.heap.objs.size + 4) (s0.heap.objs.size + 2) (s0.heap.objs.size + 3) .none ∧ ∃ x y, IsPair h (s0.heap.objs.size + 3) x y) ∨
    ∃ T f oT, 0 < i ∧ IsZipHeld h (s0.heap.objs.size + 4) (s0.heap.objs.size + 2) (s0.heap.objs.size + 3) T f ∧ h.get? T = some oT ∧ s0.heap.objs.size + 5 < T
/-- the pairs drawn -/
structure Drawn (s0 : Shared) (its1 its2 : Array Value) (acc : Array Value) (s : Shared) (ts : List Addr) : Prop where
  same : ∃ h' tk, s = { s0 with heap := h', toks := tk }
  refs : acc.toList = ts.map Value.ref
  keep : ∀ b o, s0.heap.get? b = some o → s.heap.get? b = some o
  rise : ts.Pairwise (· < ·)
  above : ∀ t ∈ ts, s0.heap.objs.size + 5 < t ∧ t < s.heap.objs.size
  pairs : ∀ (j : Nat) t, ts[j]? = some t → ∃ x y, its1[j]? = some x ∧ its2[j]? = some y ∧ IsPair s.heap t x y
def JZ (s0 : Shared) (a b : Addr) (its1 its2 : Array Value) (i : Nat) (acc : Array Value) (s : Shared) : Prop := ∃ ts : List Addr, ts.length = i ∧ Drawn s0 its1 its2 acc s ts ∧ ZipAt s0 a b its1 its2 i s.heap
def EZ (s0 : Shared) (its1 its2 : Array Value) (n : Nat) (acc : Array Value) (s : Shared) : Prop := ∃ ts : List Addr, ts.length = n ∧ Drawn s0 its1 its2 acc s ts
theorem Drawn.moved {its1 its2 acc : Array Value} {s : Shared} {ts : List Addr} {h' : Heap} (D : Drawn s0 its1 its2 acc s ts) (k0 : ∀ b o, s0.heap.get? b = some o → h'.get? b = some o) (k : ∀ c o, s0.heap.objs.size + 5 < c → s.heap.get? c = some o → h'.get? c = some o) :
    Drawn s0 its1 its2 acc { s with heap := h' } ts := by
  obtain ⟨⟨h1, tk, rfl⟩, e, _, r, ab, p⟩ := D
  have p' : ∀ (j : Nat) t, ts[j]? = some t → ∃ x y, its1[j]? = some x ∧ its2[j]? = some y ∧ IsPair h' t x y := fun j t hj => by
    obtain ⟨x, y, hx, hy, hp⟩ := p j t hj
    exact ⟨x, y, hx, hy, k t _ (ab t (List.mem_of_getElem? hj)).1 hp⟩
  refine ⟨⟨h', tk, rfl⟩, e, k0, r, fun t ht => ⟨(ab t ht).1, ?_⟩, p'⟩
  obtain ⟨j, hj⟩ := List.mem_iff_getElem?.mp ht
  obtain ⟨x, y, _, _, hp⟩ := p' j t hj
  exact Heap.lt_size hp
theorem zip_apart (N a b : Nat) (h1 : a < N) (h2 : b < N) : ZipApart (N + 4) (N + 2) (N + 3) N (N + 1) a b := by
  constructor <;> (show (_ : Nat) ≠ _; omega)
theorem far_off {N c : Nat} (h : N + 5 < c) : c ≠ N + 4 ∧ c ≠ N + 3 ∧ c ≠ N ∧ c ≠ N + 1 := by omega
theorem near_off {N c : Nat} (h : c < N) : c ≠ N + 4 ∧ c ≠ N + 3 ∧ c ≠ N ∧ c ≠ N + 1 := by omega
theorem gives_zip {a b : Addr} {its1 its2 : Array Value} (hh : A.handled = none) (ha : s0.heap.IsList a its1) (hb : s0.heap.IsList b its2) :
    Gives prog w A (s0.heap.objs.size + 5) (s0.heap.objs.size + 4) (min its1.size its2.size) (JZ s0 a b its1 its2) (EZ s0 its1 its2 (min its1.size its2.size)) where
  size := fun i acc s ⟨ts, e, D, _⟩ => by
    have := congrArg List.length D.refs
    rw [Array.length_toList, List.length_map] at this
    omega
  frame := fun i acc s h' ⟨ts, e, D, Z⟩ k hz => by
    have ne : ∀ {c : Nat}, c < s0.heap.objs.size + 5 → c ≠ s0.heap.objs.size + 5 := fun h => Nat.ne_of_lt h
    refine ⟨ts, e, D.moved (fun c o q => k c o (ne (Nat.lt_of_lt_of_le (Heap.lt_size q) (Nat.le_add_right _ _))) (D.keep c o q)) (fun c o hc q => k c o (Nat.ne_of_gt hc) q), ?_⟩
    obtain ⟨TI, i1, i2, z⟩ := Z
    refine ⟨k _ _ (ne (by omega)) TI, i1.at fun o q => k _ o (ne (by omega)) q, i2.at fun o q => k _ o (ne (by omega)) q, ?_⟩
    rcases z with ⟨z, x, y, p⟩ | ⟨T, f, oT, pos, z, hT, lt⟩
    · exact .inl ⟨k _ _ (ne (by omega)) z, x, y, k _ _ (ne (by omega)) p⟩
    · exact .inr ⟨T, f, oT, pos, k _ _ (ne (by omega)) z, k _ _ (Nat.ne_of_gt lt) hT, lt⟩
  step := fun i acc s Q E hi ⟨ts, e, D, Z⟩ hS hQ => by
    have la : a < s0.heap.objs.size := let ⟨_, q, _⟩ := ha; Heap.lt_size q
    have lb : b < s0.heap.objs.size := let ⟨_, q, _⟩ := hb; Heap.lt_size q
    have AP := zip_apart s0.heap.objs.size a b la lb
    have ha' : s.heap.IsList a its1 := ha.at fun o q => D.keep a o q
    have hb' : s.heap.IsList b its2 := hb.at fun o q => D.keep b o q
    have h1 : i < its1.size := by omega
    have h2 : i < its2.size := by omega
    have hx : its1[i]? = some its1[i] := Array.getElem?_eq_getElem h1
    have hy : its2[i]? = some its2[i] := Array.getElem?_eq_getElem h2
    have fin : ∀ h' : Heap, h'.IsListIter s0.heap.objs.size a (i + 1) → h'.IsListIter (s0.heap.objs.size + 1) b (i + 1) → IsPair h' s.heap.objs.size its1[i] its2[i] → h'.objs.size = s.heap.objs.size + 1 →
        (∃ f, IsZipHeld h' (s0.heap.objs.size + 4) (s0.heap.objs.size + 2) (s0.heap.objs.size + 3) s.heap.objs.size f ∨ ∃ T, IsZipHeld h' (s0.heap.objs.size + 4) (s0.heap.objs.size + 2) (s0.heap.objs.size + 3) T f ∧ (∃ oT, h'.get? T = some oT) ∧ s0.heap.objs.size + 5 < T) →
        (∀ c o, c ≠ s0.heap.objs.size + 4 → c ≠ s0.heap.objs.size + 3 → c ≠ s0.heap.objs.size → c ≠ s0.heap.objs.size + 1 → s.heap.get? c = some o → h'.get? c = some o) → Q (some (.ref s.heap.objs.size)) { s with heap := h' } := by
      intro h' a3 a4 a5 a6 az a7
      have k0 : ∀ c o, s0.heap.get? c = some o → h'.get? c = some o := fun c o q => by
        have lt := near_off (Heap.lt_size q)
        exact a7 c o lt.1 lt.2.1 lt.2.2.1 lt.2.2.2 (D.keep c o q)
      have D2 := D.moved (h' := h') k0 (fun c o hc q => a7 c o (far_off hc).1 (far_off hc).2.1 (far_off hc).2.2.1 (far_off hc).2.2.2 q)
      refine hQ _ _ ⟨ts ++ [s.heap.objs.size], by rw [List.length_append, e]; rfl, ⟨D2.same, by rw [Array.toList_push, D.refs, List.map_append]; rfl, k0, ?_, ?_, ?_⟩, ⟨a7 _ _ (by omega) (by omega) (by omega) (by omega) Z.TI, a3, a4, .inr ?_⟩⟩ fun o q => a7 _ o (by omega) (by omega) (by omega) (by omega) q
      · rw [List.pairwise_append]
        refine ⟨D.rise, List.pairwise_singleton _ _, fun x hx y hy => ?_⟩
        rw [List.mem_singleton.mp hy]
        exact (D.above x hx).2
      · intro t ht
        rcases List.mem_append.mp ht with q | q
        · exact D2.above t q
        · rw [List.mem_singleton.mp q]
          exact ⟨hS, by show s.heap.objs.size < h'.objs.size; omega⟩
      · intro j t hj
        by_cases hlt : j < ts.length
        · rw [List.getElem?_append_left hlt] at hj
          exact D2.pairs j t hj
        · rw [List.getElem?_append_right (by omega)] at hj
          have hj0 : j - ts.length = 0 := by
            have := (List.getElem?_eq_some_iff.mp hj).1
            simp at this
            omega
          rw [hj0] at hj
          cases hj
          have : j = i := by omega
          subst this
          exact ⟨_, _, hx, hy, a5⟩
      · obtain ⟨f, z | ⟨T, z, ⟨oT, hT⟩, lt⟩⟩ := az
        · exact ⟨_, f, _, Nat.succ_pos _, z, a5, hS⟩
        · exact ⟨T, f, oT, Nat.succ_pos _, z, hT, lt⟩
    rcases Z.zip with ⟨z, x, y, p⟩ | ⟨T, f, oT, pos, z, hT, lt⟩
    · refine wpAny_pyNext_zip_item AP z Z.TI p Z.i1 Z.i2 ha' hb' hx hy fun h' a1 a2 a3 a4 a5 a6 a7 => ?_
      exact fin h' a3 a4 a5 a6 ⟨false, .inl a1⟩ fun c o c1 c2 c3 c4 q => a7 c o c1 c2 c3 c4 q
    · refine wpAny_pyNext_zip_item_held AP z hT Z.TI Z.i1 Z.i2 ha' hb' hx hy fun h' a1 a3 a4 a5 a6 a7 => ?_
      exact fin h' a3 a4 a5 a6 ⟨true, .inr ⟨T, a1, ⟨oT, a7 T oT (far_off lt).1 (far_off lt).2.2.1 (far_off lt).2.2.2 hT⟩, lt⟩⟩ fun c o c1 c2 c3 c4 q => a7 c o c1 c3 c4 q
  done := fun acc s Q E ⟨ts, e, D, Z⟩ hQ => by
    have la : a < s0.heap.objs.size := let ⟨_, q, _⟩ := ha; Heap.lt_size q
    have lb : b < s0.heap.objs.size := let ⟨_, q, _⟩ := hb; Heap.lt_size q
    have AP := zip_apart s0.heap.objs.size a b la lb
    have ha' : s.heap.IsList a its1 := ha.at fun o q => D.keep a o q
    have hb' : s.heap.IsList b its2 := hb.at fun o q => D.keep b o q
    have over : its1[min its1.size its2.size]? = none ∨ its2[min its1.size its2.size]? = none := by
      by_cases h : its1.size ≤ its2.size
      · exact .inl (Array.getElem?_eq_none (by omega))
      · exact .inr (Array.getElem?_eq_none (by omega))
    have fin : ∀ h' : Heap, (∀ c o, c ≠ s0.heap.objs.size + 4 → c ≠ s0.heap.objs.size + 3 → c ≠ s0.heap.objs.size → c ≠ s0.heap.objs.size + 1 → s.heap.get? c = some o → h'.get? c = some o) → Q none { s with heap := h' } := by
      intro h' a7
      refine hQ _ ⟨ts, e, D.moved (fun c o q => ?_) fun c o hc q => a7 c o (far_off hc).1 (far_off hc).2.1 (far_off hc).2.2.1 (far_off hc).2.2.2 q⟩ fun o q => a7 _ o (by omega) (by omega) (by omega) (by omega) q
      have lt := near_off (Heap.lt_size q)
      exact a7 c o lt.1 lt.2.1 lt.2.2.1 lt.2.2.2 (D.keep c o q)
    rcases Z.zip with ⟨z, x, y, p⟩ | ⟨T, f, oT, pos, z, hT, lt⟩
    · exact wpAny_pyNext_zip_end hh AP z Z.TI p Z.i1 Z.i2 ha' hb' over fun h' a7 => fin h' fun c o c1 c2 c3 c4 q => a7 c o c1 c2 c3 c4 q
    · exact wpAny_pyNext_zip_end_held hh AP z hT Z.TI Z.i1 Z.i2 ha' hb' over fun h' a7 => fin h' fun c o c1 c2 c3 c4 q => a7 c o c1 c3 c4 q
end
section
variable {X : Cx}
/-- list(zip(a, b)) of two lists -/
def tListZip (K : PySem.W.Frag) (ta : TA) : TE := fun σ H Q => ta σ H fun vs H1 => ∃ (a b : Addr) (xs ys : List V), vs = [.ref a, .ref b] ∧ SqL K H1 a xs ∧ SqL K H1 b ys ∧
  ∀ H2 p (ts : List Addr), Same H1 H2 → H1 p = none → H2 p = some (.lst (ts.map V.ref)) → Paired (fun t (q : V × V) => H2 t = some (.tup [q.1, q.2])) ts (xs.zip ys) → Q (.ref p) H2
theorem paired_get {α β : Type} {F : α → β → Prop} : ∀ {as : List α} {bs : List β}, as.length = bs.length → (∀ (j : Nat) a b, as[j]? = some a → bs[j]? = some b → F a b) → Paired F as bs
  | [], [], _, _ => .nil
  | a :: as, b :: bs, h, f => .cons (f 0 a b rfl rfl) (paired_get (by simpa using h) fun j a b h1 h2 => f (j + 1) a b h1 h2)
theorem pe_listZip {e e2 : Expr} {ta : TA} {p p2 pos pos2 : Pos} (hc : X.calm = true) (hg : Gl X "list") (hm : X.mg "list" = none) (hg2 : Gl X "zip") (hm2 : X.mg "zip" = none) (ha : PA X [e, e2] ta)
    (hs : starEach [e, e2] X.env = (false, eval e X.env) :: starEach [e2] X.env := by rfl) (hpl : (backTo pos2 (starEach [e2] X.env)).any (·.1) = false := by rfl)
    (hs1 : starEach [.Call (.Name "zip" p2) [e, e2] [] pos2] X.env = (false, eval (.Call (.Name "zip" p2) [e, e2] [] pos2) X.env) :: starEach [] X.env := by rfl) :
    PE X (.Call (.Name "list" p) [.Call (.Name "zip" p2) [e, e2] [] pos2] [] pos) (tListZip X.K ta) := by
  refine ⟨fun pins s σ H Q I h => ?_⟩
  refine Call_ (ld_blt I hg hm boot_list (PyProof.Rows.callWith_type1 (args_cons ?_ hs1) hs1))
  refine Call_ (ld_blt I hg2 hm2 PyProof.Rows.boot_zip (PyProof.Rows.callWith_type1 (thn (ha.run pos2 pins s σ H _ I h) ?_) hs hpl))
  rintro us s1 ⟨vs, H1, I1, r1, a, b, xs, ys, rfl, hqx, hqy, q⟩
  match us, r1 with
  | [_, _], .cons ra (.cons rb .nil) =>
    cases ra
    cases rb
    obtain ⟨its, rv, pl, zl⟩ := I1.list hqx
    obtain ⟨its2, rv2, pl2, zl2⟩ := I1.list hqy
    have hh : X.A.handled = none := I1.ok.hd hc
    refine call_zip_2 pl.isList pl2.isList fun h1 hz hTI hTO i1 i2 hsz kept => args_nil ?_
    have G := gives_zip (prog := X.prog) (w := X.w) (A := X.A.in1.in1) (s0 := s1) hh pl.isList pl2.isList
    have e5 : ({ s1 with heap := h1 } : Shared).heap.objs.size = s1.heap.objs.size + 5 := hsz
    refine Gives.call (s := { s1 with heap := h1 }) (I := s1.heap.objs.size + 4) (n := min its.toArray.size its2.toArray.size) (J := JZ s1 a b its.toArray its2.toArray) (Z := EZ s1 its.toArray its2.toArray (min its.toArray.size its2.toArray.size)) (by rw [e5]; exact G) ?_ (by rw [e5]; omega) ?_ ?_ ?_ ?_
    · have := rv.length
      rw [List.size_toArray, List.size_toArray]
      omega
    · rintro s2 ⟨ts, el, D, Z⟩
      rcases Z.zip with ⟨z, _⟩ | ⟨T, f, oT, _, z, _⟩
      · exact ⟨_, z, rfl⟩
      · exact ⟨_, z, rfl⟩
    · rintro s2 Q2 E2 ⟨ts, el, D, Z⟩ h2
      rcases Z.zip with ⟨z, _⟩ | ⟨T, f, oT, pos, z, hT, lt⟩
      · exact wpAny_pyIter_zip z h2
      · exact absurd pos (Nat.lt_irrefl 0)
    · exact ⟨[], rfl, ⟨⟨h1, s1.toks, rfl⟩, rfl, kept, List.Pairwise.nil, fun t ht => (by cases ht), fun j t hj => (by simp at hj)⟩, ⟨hTI, i1, i2, .inl ⟨hz, _, _, hTO⟩⟩⟩
    · rintro s2 acc c ⟨ts, el, D⟩ hS
      rw [e5] at hS ⊢
      obtain ⟨h', tk, rfl⟩ := D.same
      have keep : ∀ b o, s1.heap.get? b = some o → h'.get? b = some o := D.keep
      have l1 := rv.length
      have l2 := rv2.length
      rw [List.size_toArray, List.size_toArray] at el
      have J1 : Inv X pins σ H1 { s1 with heap := h', toks := tk } := I1.kept (t' := tk) keep
      have hn0 : H1 (s1.heap.objs.size + 5) = none := I1.hok.fresh (Nat.le_add_right _ _)
      have hvr : Vals (ts.map V.ref) acc.toList := by
        rw [D.refs]
        exact vals_maps V.ref Value.ref ts fun _ _ => rfl
      have hS' : h'.get? (s1.heap.objs.size + 5) = some (seqObj "list" acc.toList.toArray c) := by rw [Array.toArray_toList]; exact hS
      have J2 : Inv X pins σ (upd H1 (s1.heap.objs.size + 5) (.lst (ts.map V.ref))) { s1 with heap := h', toks := tk } :=
        J1.take (h' := h') (t' := tk) (fun b ob _ e => e) (I1.fpOk (Nat.le_add_right _ _) hn0) ⟨by rw [List.length_map]; omega, acc.toList, c, hvr, hS'⟩
      have nd : ts.Nodup := List.Pairwise.imp (fun h => Nat.ne_of_lt h) D.rise
      have pr : ∀ (j : Nat) t, ts[j]? = some t → ∃ x y u v, xs[j]? = some x ∧ ys[j]? = some y ∧ RelV x u ∧ RelV y v ∧ h'.get? t = some { cls := .type "tuple", data := .seq #[u, v] } := by
        intro j t hj
        obtain ⟨u, v, hu, hv, hp⟩ := D.pairs j t hj
        have hj' := (List.getElem?_eq_some_iff.mp hj).1
        have lx : j < xs.length := by omega
        have ly : j < ys.length := by omega
        obtain ⟨u', e1, ru⟩ := rv.get (List.getElem?_eq_getElem lx)
        obtain ⟨v', e2, rv'⟩ := rv2.get (List.getElem?_eq_getElem ly)
        have hu' : its[j]? = some u := by simpa using hu
        have hv' : its2[j]? = some v := by simpa using hv
        rw [e1] at hu'
        rw [e2] at hv'
        cases hu'
        cases hv'
        exact ⟨_, _, u, v, List.getElem?_eq_getElem lx, List.getElem?_eq_getElem ly, ru, rv', hp⟩
      obtain ⟨H2, J3, g, qt⟩ := L2.DX.takeT (P := fun t vs => ∃ (j : Nat) (x y : V), ts[j]? = some t ∧ xs[j]? = some x ∧ ys[j]? = some y ∧ vs = [x, y]) I1 ts _ J2 nd fun t ht => by
        obtain ⟨j, hj⟩ := List.mem_iff_getElem?.mp ht
        obtain ⟨x, y, u, v, hx, hy, ru, rv', hp⟩ := pr j t hj
        have lo := (D.above t ht).1
        have lo2 : s1.heap.objs.size ≤ t := Nat.le_trans (Nat.le_add_right _ 5) (Nat.le_of_lt lo)
        refine ⟨lo2, ?_, [x, y], ⟨j, x, y, hj, hx, hy, rfl⟩, fun H3 => ⟨(by rw [sizeLine_eq]; show 2 ≤ 16777216; omega), [u, v], .cons ru (.cons rv' .nil), ⟨_, hp, rfl, 0, rfl⟩⟩⟩
        rw [upd_ne (Nat.ne_of_gt lo)]
        exact I1.hok.fresh lo2
      have gr : ∀ b o, H1 b = some o → H2 b = some o := fun b o e => g b o (by rw [upd_ne (ne_of_none e hn0)]; exact e)
      refine ⟨.ref (s1.heap.objs.size + 5), H2, J3, rfl, q H2 _ ts gr hn0 (g _ _ upd_same) (paired_get (by rw [List.length_zip]; omega) fun j t z hj hzj => ?_)⟩
      obtain ⟨vs, ⟨i, x, y, k1, k2, k3, ev⟩, hH⟩ := qt t (List.mem_of_getElem? hj)
      have eij : i = j := (List.getElem?_inj (List.getElem?_eq_some_iff.mp k1).1 nd).mp (k1.trans hj.symm)
      subst eij
      obtain ⟨z1, z2⟩ := List.getElem?_zip_eq_some.mp hzj
      rw [k2] at z1
      rw [k3] at z2
      rw [hH, ev, Option.some.inj z1, Option.some.inj z2]
end
end NH
/-! rules that the layer lacks -/
namespace NH
open PySem PySem.Spec PyProof.Rows L2
theorem hu65_of {A : Around} {k : Nat} (hr : Room k A) : A.units + 65 < cLine := by have := hr.un; omega
section
variable {X : Cx}
/-! readings of what is walked -/
section
variable {σ : L2.St} {H : Hp} {K : PySem.W.Frag} {R : It → Hp → Prop} {te : TE} {ta : TA}
theorem rd_iList (h : te σ H fun x H1 => ∃ a, x = .ref a ∧ (∃ xs, SqL K H1 a xs) ∧ R (Itl K a) H1) : iList K te σ H R := h
theorem rd_iTup (h : te σ H fun x H1 => ∃ a, x = .ref a ∧ (∃ xs, SqT K H1 a xs) ∧ R (Itt K a) H1) : iTup K te σ H R := h
theorem rd_iRng1 (h : ta σ H fun vs H1 => ∃ j : Int, vs = [.int j] ∧ -(2 ^ 62) ≤ j ∧ j < 2 ^ 62 ∧ R (Itr 0 j.toNat) H1) : iRng1 ta σ H R := h
theorem rd_iRng2 (h : ta σ H fun vs H1 => ∃ i j : Int, vs = [.int i, .int j] ∧ (-(2 ^ 62) ≤ i ∧ i < 2 ^ 62 ∧ -(2 ^ 62) ≤ j ∧ j < 2 ^ 62) ∧ R (Itr i (j - i).toNat) H1) : iRng2 ta σ H R := h
theorem rd_iEnum (h : ta σ H fun vs H1 => ∃ a xs, vs = [.ref a] ∧ SqL K H1 a xs ∧ R (Ite K a) H1) : iEnum K ta σ H R := h
theorem rd_iEnumU (h : ta σ H fun vs H1 => ∃ a xs, vs = [.ref a] ∧ SqT K H1 a xs ∧ R (IteU K a) H1) : iEnumU K ta σ H R := h
theorem rd_iZipU (h : ta σ H fun vs H1 => ∃ a b xs ys, vs = [.ref a, .ref b] ∧ SqL K H1 a xs ∧ SqT K H1 b ys ∧ R (ItzU K a b) H1) : iZipU K ta σ H R := h
theorem rd_iZipA (h : ta σ H fun vs H1 => ∃ a b xs ys, vs = [.ref a, .ref b] ∧ ((SqL K H1 a xs ∧ SqL K H1 b ys ∧ R (Itz K a b) H1) ∨ (SqT K H1 a xs ∧ SqT K H1 b ys ∧ R (RZ.ItzT K a b) H1))) : RZ.iZipA K ta σ H R := h
theorem rd_iKeys (h : te σ H fun x H1 => ∃ d o, x = .ref d ∧ ((∃ kvs, H1 d = some (.frz o (.dK kvs)) ∧ R (Itk d o kvs) H1) ∨ ∃ kvs, H1 d = some (.frz o (.dT kvs)) ∧ R (Itkt d o kvs) H1)) : iKeys te σ H R := h
end
/-! walks of these -/
theorem walk_range0 {n : Nat} : Walk (Itr 0 n) n (fun _ => True) (fun i H x H' => H' = H ∧ x = .int ((i : Nat) : Int)) :=
  walk_range.mono (fun _ h => h) fun i H x H' _ _ y => ⟨y.1, by rw [y.2]; show V.int (0 + (i : Int)) = _; rw [Int.zero_add]⟩
theorem walk_enumU {K : PySem.W.Frag} {a : Addr} {xs : List V} : Walk (IteU K a) xs.length (fun H => SqT K H a xs) (YP (fun i => some (.int (i : Nat))) (fun i => xs[i]?)) := by
  refine ⟨fun i _ hi q => ⟨xs, xs[i], q, by simp [hi]⟩, fun _ q => ⟨xs, q, Nat.le_refl _⟩, fun i H v H' _ q y => ?_⟩
  obtain ⟨T, x, h1, h2, h3, h4⟩ := y
  exact yp_of ⟨T, .int (i : Nat), x, h1, h2, h3, rfl, h4 xs q⟩
theorem walk_enumL {K : PySem.W.Frag} {a : Addr} {xs : List V} : Walk (Ite K a) xs.length (fun H => SqL K H a xs) (YP (fun i => some (.int (i : Nat))) (fun i => xs[i]?)) :=
  walk_enum.mono (fun _ h => h) fun _ _ _ _ _ _ y => yp_of y
theorem walk_zipT {K : PySem.W.Frag} {a b : Addr} {xs ys : List V} : Walk (RZ.ItzT K a b) (min xs.length ys.length) (fun H => SqT K H a xs ∧ SqT K H b ys) (YP (fun i => xs[i]?) (fun i => ys[i]?)) := by
  refine ⟨fun i _ hi q => ?_, fun _ q => ⟨xs, ys, q.1, q.2, by omega⟩, fun i H v H' _ q y => ?_⟩
  · have h1 : i < xs.length := by omega
    have h2 : i < ys.length := by omega
    exact ⟨xs, ys, xs[i], ys[i], q.1, q.2, by simp [h1], by simp [h2]⟩
  · obtain ⟨T, x, z, h1, h2, h3, h4, h5⟩ := y
    exact yp_of ⟨T, x, z, h1, h2, h3, h4 xs q.1, h5 ys q.2⟩
theorem walk_zipU {K : PySem.W.Frag} {a b : Addr} {xs ys : List V} : Walk (ItzU K a b) (min xs.length ys.length) (fun H => SqL K H a xs ∧ SqT K H b ys) (YP (fun i => xs[i]?) (fun i => ys[i]?)) := by
  refine ⟨fun i _ hi q => ?_, fun _ q => ⟨xs, ys, q.1, q.2, by omega⟩, fun i H v H' _ q y => ?_⟩
  · have h1 : i < xs.length := by omega
    have h2 : i < ys.length := by omega
    exact ⟨xs, ys, xs[i], ys[i], q.1, q.2, by simp [h1], by simp [h2]⟩
  · obtain ⟨T, x, z, h1, h2, h3, h4, h5⟩ := y
    exact yp_of ⟨T, x, z, h1, h2, h3, h4 xs q.1, h5 ys q.2⟩
end
/-! ### senders, tariffs, fractions as data -/
def dN (is : List Nat) : PyData := dI (is.map fun (i : Nat) => (i : Int))
def dArrow (a : Arrow) : PyData := .tuple [.int a.src, .int a.tgt, dI a.amt, dI a.crew]
def dSnd (S : Snd) : PyData := .tuple [.int S.n, .tuple (S.arrows.map dArrow)]
def dTar (t : Tar) : PyData := .tuple [dI t.prices, dI t.wages]
theorem Snd.dat {S : Snd} {i : Nat} (h : i < S.arrows.length) : (S.arrows.map dArrow)[i]? = some (.tuple [.int (S.src i), .int (S.tgt i), dI (S.amt i), dI (S.crew i)]) := by
  obtain ⟨a, e, _, h1, h2, h3, h4⟩ := Snd.at h
  rw [List.getElem?_map, e, h1, h2, h3, h4]
  rfl
theorem TD.nats {H : Hp} {a : Addr} {ns : List Nat} (h : H a = some (.tup (ns.map fun (i : Nat) => V.int (i : Int)))) : TD H (.ref a) (dN ns) := TD.ints (by rw [List.map_map]; exact h)
theorem TD.nats_inv {H : Hp} {v : V} {ns : List Nat} (h : TD H v (dN ns)) : ∃ a, v = .ref a ∧ H a = some (.tup (ns.map fun (i : Nat) => V.int (i : Int))) := by
  obtain ⟨a, e, h1⟩ := h.ints_inv
  rw [List.map_map] at h1
  exact ⟨a, e, h1⟩
theorem Snd.Ok.lt {S : Snd} {nk nh i : Nat} (o : S.Ok nk nh) (h : i < S.arrows.length) : S.src i < S.n ∧ S.tgt i < S.n ∧ (S.amt i).length = nk ∧ (S.crew i).length = nh := by
  obtain ⟨a, e, m, h1, h2, h3, h4⟩ := Snd.at h
  rw [h1, h2, h3, h4]
  exact ⟨o.src a m, o.tgt a m, o.amt a m, o.crew a m⟩
theorem Snd.Ok.bd {S : Snd} {nk nh i : Nat} (o : S.Ok nk nh) (h : i < S.arrows.length) : (∀ x ∈ S.amt i, -1000 ≤ x ∧ x ≤ 1000) ∧ ∀ x ∈ S.crew i, -1000 ≤ x ∧ x ≤ 1000 := by
  obtain ⟨a, e, m, h1, h2, h3, h4⟩ := Snd.at h
  rw [h3, h4]
  exact ⟨o.ba a m, o.bc a m⟩
/-- the arrows' tuple -/
structure AtA (H : Hp) (a : Addr) (xs : List V) (S : Snd) : Prop where
  at_ : H a = some (.tup xs)
  td : TDs H xs (S.arrows.map dArrow)
theorem AtA.le {H H' : Hp} {a : Addr} {xs : List V} {S : Snd} (x : AtA H a xs S) (e : Le H H') : AtA H' a xs S := ⟨e _ _ x.at_, x.td.le e⟩
theorem AtA.len {H : Hp} {a : Addr} {xs : List V} {S : Snd} (x : AtA H a xs S) : xs.length = S.arrows.length := by rw [x.td.length, List.length_map]
theorem AtA.get {H : Hp} {a : Addr} {xs : List V} {S : Snd} {i : Nat} {v : V} (x : AtA H a xs S) (h : xs[i]? = some v) : i < S.arrows.length ∧ TD H v (.tuple [.int (S.src i), .int (S.tgt i), dI (S.amt i), dI (S.crew i)]) := by
  obtain ⟨d, hd, t⟩ := x.td.get' h
  have hi : i < S.arrows.length := by
    have := (List.getElem?_eq_some_iff.mp h).1
    rw [x.len] at this
    exact this
  rw [Snd.dat hi] at hd
  cases hd
  exact ⟨hi, t⟩
theorem AtA.of {H : Hp} {v : V} {S : Snd} (h : TD H v (.tuple (S.arrows.map dArrow))) : ∃ a xs, v = .ref a ∧ AtA H a xs S := by
  obtain ⟨a, xs, e, h1, t⟩ := h.tup_inv
  exact ⟨a, xs, e, h1, t⟩
theorem trL {K : PySem.W.Frag} {H : Hp} {p : Addr} {xs : List V} (h : H p = some (.lst xs)) : TruV K (.ref p) H (!xs.isEmpty) := .inl ⟨xs, SqL.of h, rfl⟩
theorem nI_at {ns : List Nat} {i : Nat} {v : V} (h : (ns.map nI)[i]? = some v) : ∃ hi : i < ns.length, v = .int ((ns[i]'hi : Nat) : Int) := by
  obtain ⟨hi, e⟩ := map_at h
  exact ⟨hi, e⟩
theorem rd_inL {K : PySem.W.Frag} {H : Hp} {Q : VK} {p : Addr} {ns : List Nat} {i : Nat} (h : H p = some (.lst (ns.map nI))) (q : Q (.bl (decide (i ∈ ns))) H) : rIn K false (.int (i : Int)) (.ref p) H Q :=
  ⟨p, _, rfl, .inl (SqL.of h), rfl, flat_nI ns, by
    show Q (.bl (inV (.int (i : Int)) (ns.map nI))) H
    rw [inV_nI]
    exact q⟩
theorem rd_notInL {K : PySem.W.Frag} {H : Hp} {Q : VK} {p : Addr} {ns : List Nat} {i : Nat} (h : H p = some (.lst (ns.map nI))) (q : Q (.bl (!decide (i ∈ ns))) H) : rIn K true (.int (i : Int)) (.ref p) H Q :=
  ⟨p, _, rfl, .inl (SqL.of h), rfl, flat_nI ns, by
    show Q (.bl (!inV (.int (i : Int)) (ns.map nI))) H
    rw [inV_nI]
    exact q⟩
theorem rd_inT {K : PySem.W.Frag} {H : Hp} {Q : VK} {p : Addr} {ns : List Nat} {i : Nat} (h : H p = some (.tup (ns.map nI))) (q : Q (.bl (decide (i ∈ ns))) H) : rIn K false (.int (i : Int)) (.ref p) H Q :=
  ⟨p, _, rfl, .inr (SqT.of h), rfl, flat_nI ns, by
    show Q (.bl (inV (.int (i : Int)) (ns.map nI))) H
    rw [inV_nI]
    exact q⟩
theorem rd_notInT {K : PySem.W.Frag} {H : Hp} {Q : VK} {p : Addr} {ns : List Nat} {i : Nat} (h : H p = some (.tup (ns.map nI))) (q : Q (.bl (!decide (i ∈ ns))) H) : rIn K true (.int (i : Int)) (.ref p) H Q :=
  ⟨p, _, rfl, .inr (SqT.of h), rfl, flat_nI ns, by
    show Q (.bl (!inV (.int (i : Int)) (ns.map nI))) H
    rw [inV_nI]
    exact q⟩
/-- a list with a last item -/
theorem last_of {α : Type} {xs : List α} (h : xs ≠ []) : ∃ ys y, xs = ys ++ [y] := ⟨xs.dropLast, xs.getLast h, (List.dropLast_concat_getLast h).symm⟩
theorem ite3 {b : Bool} {A B : Prop} (h1 : b = true → A) (h2 : b = false → B) : if b = true then A else B := by
  cases b
  · exact iteF (h2 rfl)
  · exact iteT (h1 rfl)
theorem rd_star {K : PySem.W.Frag} {σ : L2.St} {H : Hp} {te : TE} {t : TA} {QA : List V → Hp → Prop} (h : te σ H fun x H1 => ∃ p xs, x = V.ref p ∧ (SqT K H1 p xs ∨ SqL K H1 p xs) ∧ t σ H1 fun ys H2 => QA (xs ++ ys) H2) : StX.tStar K te t σ H QA := h
theorem rd_ixT1 {K : PySem.W.Frag} {H : Hp} {Q : VK} {p : Addr} {xs : List V} {v : V} (h : H p = some (.tup (xs ++ [v]))) (q : Q v H) : rIxT K (.ref p) (.int (-1)) H Q :=
  ⟨p, _, -1, v, rfl, rfl, SqT.of h, atI_last _ _, q⟩
/-- an entry of the todo of rings_from -/
structure Ent where
  w : List Nat
  u : List Nat
  c : Nat
def Ent.d (e : Ent) : PyData := .tuple [dN e.w, dN (e.u ++ [e.c])]
structure Ent.Ok (e : Ent) (S : Snd) : Prop where
  len : e.w.length = e.u.length
  nd : (e.u ++ [e.c]).Nodup
  lt : ∀ x ∈ e.u ++ [e.c], x < S.n
def Ent.rings (e : Ent) (S : Snd) (ok : Nat → Bool) (b : Nat) : List (List Nat) := S.ringsU ok b (S.n - e.u.length) e.w e.c (e.u ++ [e.c])
def Ent.nodes (e : Ent) (S : Snd) (ok : Nat → Bool) (b : Nat) : Nat := S.nodesU ok b (S.n - e.u.length) e.c (e.u ++ [e.c])
theorem Ent.Ok.fuel {e : Ent} {S : Snd} (o : e.Ok S) : S.n - e.u.length = (S.n - (e.u.length + 1)) + 1 := by
  have := nodup_lt S.n _ o.nd o.lt
  rw [List.length_append] at this
  simp at this
  omega
theorem Ent.rings_eq {e : Ent} {S : Snd} (o : e.Ok S) (ok : Nat → Bool) (b : Nat) : e.rings S ok b = (S.outs e.c).flatMap (S.ring1 ok b (S.n - (e.u.length + 1)) e.w (e.u ++ [e.c])) := by
  unfold Ent.rings
  rw [o.fuel, Snd.ringsU_succ]
theorem Ent.nodes_eq {e : Ent} {S : Snd} (o : e.Ok S) (ok : Nat → Bool) (b : Nat) : e.nodes S ok b = 1 + ((S.outs e.c).map (S.node1 ok b (S.n - (e.u.length + 1)) (e.u ++ [e.c]))).sum := by
  unfold Ent.nodes
  rw [o.fuel, Snd.nodesU_succ]
/-- the state of rings_from's loops: what is found, what is to be done, what is left of the arrows at hand -/
structure RfI (H1 H2 : Hp) (F D : Addr) (S : Snd) (rs : List (List Nat)) (es : List Ent) : Prop where
  s : Same H1 H2
  nf : H1 F = none
  nd : H1 D = none
  ne : F ≠ D
  f : ∃ xs, H2 F = some (.lst xs) ∧ TDs H2 xs (rs.map dN)
  d : ∃ ys, H2 D = some (.lst ys) ∧ TDs H2 ys (es.map Ent.d)
  ok : ∀ e ∈ es, e.Ok S
theorem RfI.same {H1 H2 H3 : Hp} {F D : Addr} {S : Snd} {rs : List (List Nat)} {es : List Ent} (c : RfI H1 H2 F D S rs es) (e : Same H2 H3) : RfI H1 H3 F D S rs es := by
  obtain ⟨xs, h1, h2⟩ := c.f
  obtain ⟨ys, h3, h4⟩ := c.d
  exact ⟨c.s.trans e, c.nf, c.nd, c.ne, ⟨xs, e _ _ h1, h2.le (Same.le e)⟩, ⟨ys, e _ _ h3, h4.le (Same.le e)⟩, c.ok⟩
theorem TDs.split {H : Hp} : ∀ {ds es : List PyData} {vs : List V}, TDs H vs (ds ++ es) → ∃ xs ys, vs = xs ++ ys ∧ TDs H xs ds ∧ TDs H ys es
  | [], _, vs, h => ⟨[], vs, rfl, .nil, h⟩
  | _ :: _, _, _, .cons a t => by
    obtain ⟨xs, ys, e, h1, h2⟩ := TDs.split t
    exact ⟨_ :: xs, ys, by rw [e]; rfl, .cons a h1, h2⟩
theorem TDs.one {H : Hp} {vs : List V} {d : PyData} (h : TDs H vs [d]) : ∃ v, vs = [v] ∧ TD H v d := by
  cases h with
  | cons a t =>
    cases t
    exact ⟨_, rfl, a⟩
theorem TDs.perm {H : Hp} {xs xs' : List V} (h : xs'.Perm xs) : ∀ {ds : List PyData}, TDs H xs ds → ∃ ds', ds'.Perm ds ∧ TDs H xs' ds' := by
  induction h with
  | nil => exact fun {ds} t => ⟨ds, .refl _, t⟩
  | cons x _ ih =>
    intro ds t
    cases t with
    | cons a t =>
      obtain ⟨ds', p, t'⟩ := ih t
      exact ⟨_ :: ds', p.cons _, .cons a t'⟩
  | swap x y l =>
    intro ds t
    cases t with
    | cons a t =>
      cases t with
      | cons b t => exact ⟨_, .swap _ _ _, .cons b (.cons a t)⟩
  | trans _ _ ih1 ih2 =>
    intro ds t
    obtain ⟨d1, p1, t1⟩ := ih2 t
    obtain ⟨d2, p2, t2⟩ := ih1 t1
    exact ⟨d2, p2.trans p1, t2⟩
theorem sortOk_ints {rs : List (List Int)} (h : ∀ r ∈ rs, r ≠ []) : SortOk (rs.map dI) := by
  refine ⟨PySem.W.AllAlike.of fun b b' => ?_, .inl fun d hd => ?_, fun d hd => ?_⟩
  · show PySem.W.alike (.tuple (b.map .int)) (.tuple (b'.map .int)) = true
    rw [PySem.W.alike]
    exact PySem.W.alike_ints b b'
  · obtain ⟨r, hr, rfl⟩ := List.mem_map.mp hd
    cases r with
    | nil => exact absurd rfl (h _ hr)
    | cons x r => exact ⟨_, _, rfl⟩
  · obtain ⟨r, hr, rfl⟩ := List.mem_map.mp hd
    show (PyData.tuple (r.map .int)).depth ≤ 20
    rw [PyData.depth, PySem.W.depth_ints]
    decide
theorem dN_dI (rs : List (List Nat)) : rs.map dN = (rs.map fun r => r.map fun (i : Nat) => (i : Int)).map dI := by rw [List.map_map]; rfl
theorem dN_inj {r t : List Nat} (h : dN r = dN t) : r = t := by
  unfold dN dI at h
  injection h with h
  rw [List.map_map, List.map_map] at h
  exact List.map_inj_right (f := PyData.int ∘ fun (i : Nat) => (i : Int)) (fun a b e => by
    have : (a : Int) = (b : Int) := PyData.int.inj e
    omega) |>.mp h
section
variable {σ : L2.St} {H : Hp} {Q : VK} {td ty tx : TE}
theorem rd_din (h : ty σ H fun y H1 => td σ H1 fun x H2 => ∃ a o, x = V.ref a ∧ DGet H2 a y o ∧ Q (.bl o.isSome) H2) : tDIn ty td σ H Q := h
theorem rd_dnotin (h : ty σ H fun y H1 => td σ H1 fun x H2 => ∃ a o, x = V.ref a ∧ DGet H2 a y o ∧ Q (.bl (!o.isSome)) H2) : tDNotIn ty td σ H Q := h
theorem rd_dget (h : td σ H fun x H1 => ty σ H1 fun y H2 => ∃ a v, x = V.ref a ∧ DGet H2 a y (some v) ∧ Q v H2) : tDGet td ty σ H Q := h
theorem rd_dget2 (h : td σ H fun x H1 => ∃ a, x = V.ref a ∧ IsD H1 a ∧ ty σ H1 fun y H2 => tx σ H2 fun z H3 => ∃ o, DGet H3 a y o ∧ Q (o.getD z) H3) : tDGet2 td ty tx σ H Q := h
theorem DGet.i {a : Addr} {kvs : List (Key × V)} (e : Rd H a (.dK kvs)) (i : Int) : DGet H a (.int i) (valV kvs (.inl i)) := .inl ⟨kvs, .inl i, e, rfl, rfl⟩
end
section
variable {σ : L2.St} {H : Hp} {Q : VK} {td : TE} {ta : TA} {K : PySem.W.Frag}
theorem rd_sortedItems (h : td σ H fun x H1 => ∃ (a : Addr) (kvs : List (List Int × Int)), x = .ref a ∧ H1 a = some (.dT (kvs.map fun q => (q.1.map Sum.inl, V.int q.2))) ∧ (∀ q ∈ kvs, q.1 ≠ []) ∧
  ∀ H2 p (ys : List V) (kvs' : List (List Int × Int)), kvs'.Perm kvs → Same H1 H2 → H1 p = none → H2 p = some (.lst ys) → TDs H2 ys (kvs'.map fun q => .tuple [dI q.1, .int q.2]) → Q (.ref p) H2) : tSortedItems td σ H Q := h
theorem rd_sortedSet (h : td σ H fun x H1 => ∃ (l : Addr) (xs : List V) (ks : List (List Int)), x = .ref l ∧ SqL K H1 l xs ∧ TDs H1 xs (ks.map dI) ∧ (∀ k ∈ ks, k ≠ []) ∧ xs.length ≤ 1000000 ∧
  (∀ L : List (List Int), L.Nodup → (∀ k ∈ L, k ∈ ks) → L.length ≤ 60) ∧
  ∀ H2 p (ys : List V), Same H1 H2 → H1 p = none → (∀ y ∈ ys, y ∈ xs) → H2 p = some (.lst ys) → Q (.ref p) H2) : tSortedSet K td σ H Q := h
theorem rd_listZip (h : ta σ H fun vs H1 => ∃ (a b : Addr) (xs ys : List V), vs = [.ref a, .ref b] ∧ SqL K H1 a xs ∧ SqL K H1 b ys ∧
  ∀ H2 p (ts : List Addr), Same H1 H2 → H1 p = none → H2 p = some (.lst (ts.map V.ref)) → Paired (fun t (q : V × V) => H2 t = some (.tup [q.1, q.2])) ts (xs.zip ys) → Q (.ref p) H2) : tListZip K ta σ H Q := h
end
section
variable {σ : L2.St} {H : Hp}
theorem rd_gsub {to ti : TE} {t : TSet} {v : V} {Q : L2.St → Hp → Prop} (h : to σ H fun o H1 => ti σ H1 fun i H2 => t o i v H2 fun H3 => Q σ H3) : gSub to ti t v σ H Q := h
end
section
variable {σ : L2.St} {H : Hp} {Q : VK} {K : PySem.W.Frag}
theorem rd_lstRg {te : L2.St → Hp → (Int → Int → Hp → Prop) → Prop} (h : te σ H fun a b H1 => RgOk a b ∧ ∀ q, H1 q = none → Q (.ref q) (upd H1 q (.lst (rgV a b)))) : tLstRg te σ H Q := h
theorem rd_rg2 {ta tb : TE} {R : Int → Int → Hp → Prop} (h : ta σ H fun x H1 => tb σ H1 fun y H2 => ∃ i j, x = V.int i ∧ y = V.int j ∧ R i j H2) : tRg2 ta tb σ H R := h
theorem rd_lenSetI {ta : TE} (h : ta σ H fun x H1 => ∃ (l : Addr) (ns : List Int), x = .ref l ∧ SqL K H1 l (ns.map V.int) ∧ ns.length < 64 ∧ ns.Nodup ∧ Q (.int ns.length) H1) : tLenSetI K ta σ H Q := h
end
/-! a tuple that is known to have no dict: its methods may be called -/
def FzT (H : Hp) (a : Addr) (xs : List V) : Prop := ∃ ob : Obj, ob.dict = none ∧ H a = some (.frz ob (.tup xs))
theorem FzT.sq {K : PySem.W.Frag} {H : Hp} {a : Addr} {xs : List V} (h : FzT H a xs) : SqT K H a xs := .inl (.inr ⟨_, h.choose_spec.2⟩)
theorem FzT.to {H H' : Hp} {a : Addr} {xs : List V} (h : FzT H a xs) (e : ∀ o, H a = some o → H' a = some o) : FzT H' a xs := by
  obtain ⟨ob, h1, h2⟩ := h
  exact ⟨ob, h1, e _ h2⟩
theorem SqT.to {K : PySem.W.Frag} {H H' : Hp} {a : Addr} {xs : List V} (h : SqT K H a xs) (e : ∀ o, H a = some o → H' a = some o) : SqT K H' a xs := by
  rcases h with (h | ⟨o, h⟩) | h
  · exact .inl (.inl (e _ h))
  · exact .inl (.inr ⟨o, e _ h⟩)
  · exact .inr h
def rTupFz (K : PySem.W.Frag) : List V → Hp → VK → Prop := fun xs H Q => ∃ p ys, xs = [.ref p] ∧ SqL K H p ys ∧ ∀ l (ob : Obj), H l = none → ob.dict = none → Q (.ref l) (upd H l (.frz ob (.tup ys)))
theorem call_tupleFz {X : Cx} : CallR X (.type "tuple") (rTupFz X.K) := by
  intro pins s σ H xs us Q I r h
  obtain ⟨p, ys, rfl, hq, q⟩ := h
  obtain ⟨u, rfl, rx⟩ := vals1 r
  cases rx
  obtain ⟨its, r', pl, hz⟩ := I.list hq
  have hlen := r'.length
  refine call_tuple_list pl.isList (fun h' kp => ?_) (by simp only [List.size_toArray] <;> omega)
  have I1 : Inv X pins σ H { s with heap := h' } := I.kept (t' := s.toks) kp
  have I2 : Inv X pins σ (upd H h'.objs.size (.frz { cls := .type "tuple", data := .seq its.toArray } (.tup ys))) { s with heap := h'.push { cls := .type "tuple", data := .seq its.toArray } } :=
    I1.laid (t' := s.toks) (fun b o e => Heap.get?_push_of_some _ e) (Nat.le_refl _) (show ObjOk X.prog X.w _ _ _ (.frz _ (.tup ys)) from ⟨Heap.get?_push_size _ rfl, hz, its, r', IsTup.new _ _⟩)
  exact ⟨.ref h'.objs.size, _, I2, rfl, q _ _ (I1.hok.fresh (Nat.le_refl _)) rfl⟩
section
variable {X : Cx}
def tBMT (K : PySem.W.Frag) (r : V → List V → Hp → VK → Prop) (to : TE) (t : TA) : TE := fun σ H Q => to σ H fun x H1 => (∃ p xs, x = V.ref p ∧ FzT H1 p xs) ∧ t σ H1 fun xs H2 => r x xs H2 Q
theorem rd_bmt {σ : L2.St} {H : Hp} {Q : VK} {K : PySem.W.Frag} {r : V → List V → Hp → VK → Prop} {to : TE} {t : TA} (h : to σ H fun x H1 => (∃ p xs, x = V.ref p ∧ FzT H1 p xs) ∧ t σ H1 fun xs H2 => r x xs H2 Q) : tBMT K r to t σ H Q := h
variable {o e : Expr} {es : List Expr} {to : TE} {t : TA} {name : Str} {apos cpos : Pos} {id : String} {r : V → List V → Hp → VK → Prop}
theorem pe_bmT (pa : PlainAttrs "tuple") (slot : Slot "tuple" name id) (hty : typeOf (.builtin id) = pure (.type "method_descriptor")) (hm : MtR X id r) (ho : PE X o to) (ha : PA X (e :: es) t)
    (hbase : attributeBase o name X.env (eval o X.env) = eval o X.env := by rfl)
    (hfew : ((backTo cpos (starEach (e :: es) X.env)).all (fun x => !x.1) && (backToKw cpos (keywordEach [] X.env)).all (fun x => x.1.isSome)
      && decide ((e :: es).length + ([] : List Keyword).length + (if ([] : List Keyword).isEmpty then 0 else 1) < 30)) = true := by rfl)
    (hline : (apos.endLine == cpos.line) = true := by rfl) (hs : starEach (e :: es) X.env = (false, eval e X.env) :: starEach es X.env := by rfl) (hplain : (backTo cpos (starEach es X.env)).any (·.1) = false := by rfl) :
    PE X (.Call (.Attribute o name apos) (e :: es) [] cpos) (tBMT X.K r to t) := by
  refine ⟨fun pins s σ H Q I h => ?_⟩
  refine wpAny_Call_method_late hbase hfew hline rfl (thn (ho.run pins s σ H _ I h) fun v s1 ⟨x, H1, I1, r1, ⟨p, zs, ex, ob, hd, hq⟩, q1⟩ => ?_)
  subst ex
  obtain rfl : v = Value.ref p := r1
  obtain ⟨h1, hz, its, rv, ob', h1', h2, _⟩ := I1.hok p _ hq
  rw [h1] at h1'
  cases h1'
  refine ⟨"tuple", id, pa, slot, hty, ⟨ob, h1, h2⟩, fun a e => by cases e; exact ⟨ob, h1, hd⟩, ?_⟩
  have hA := ha.run cpos pins s1 σ H1 _ I1 q1
  rw [hs] at hA ⊢
  refine Calls.callWith_builtin (by show (false || (backTo cpos (starEach es X.env)).any (·.1)) = false; rw [hplain] <;> rfl) (Calls.evalArgs_plain ?_)
  exact thn hA fun us s2 ⟨vs, H2, I2, r2, q2⟩ => hm pins s2 σ H2 (.ref p) vs _ us Q I2 rfl r2 q2
end
section
variable {X : Cx} (K : PySem.W.Frag)
theorem call_tupleFzK (h : X.K = K := by rfl) : CallR X (.type "tuple") (rTupFz K) := h ▸ call_tupleFz
end
end NH
/-! defs that run where no repr is under way -/
namespace NH
open PySem PySem.Spec PyProof.Rows L2
section
variable (P : Program) (w : World) (K : PySem.W.Frag) (mg : Str → Option Value) (base : Heap)
/-- the promise of a def, for callers whose guards are known to be none -/
structure FnG (k : Nat) (f : Addr) (fd : FuncData) (ps : List Str) (sp : Sp) : Prop where
  arity : ∀ vs H Q E, sp vs H Q E → vs.length = ps.length
  go : ∀ (A : Around) (outer : List Env) (s : Shared) (H : Hp) (args : Args) (us : List Value) (vs : List V) (Q : VK) (E : XK), A.guards = some [] → Room k A → Env0 P w K mg base A outer s H → BindsTo s fd args (ps.zip us) → Vals vs us →
    sp vs H Q E → codeAny (model P w) A (.call (.ref f) args) (CR CX0 outer P w H s Q E) s
structure ClG (k : Nat) (x : Str) (sp : Sp) : Prop where
  ex : ∃ (f : Addr) (fd : FuncData) (ps : List Str), FnG P w K mg base k f fd ps sp ∧ mg x = some (.ref f) ∧ PySem.W.keepIn K (.ref f) = true ∧ Binds K fd ps []
end
section
variable {P : Program} {w : World} {K : PySem.W.Frag} {mg : Str → Option Value} {base : Heap}
theorem fnG_of {x : Str} {st : Stmt} {f : Addr} {fd : FuncData} {N ps : List Str} {k : Nat} {sp : Sp} (F : L2.Fun K x x st f fd) (S : FnScope N ps (defScope st)) (len : ∀ vs H Q E, sp vs H Q E → vs.length = ps.length)
    (body : ∀ (cdv : Value) (A : Around) (outer : List Env) (s : Shared) (H : Hp) (vs : List V) (Q : VK) (E : XK), A.guards = some [] → Room k (A.deeper (envOfC x (defScope st) s.heap.objs.size f cdv)) → sp vs H Q E →
      ∃ t, PSs (cxOf CX0 P w K mg base N x (defScope st) f cdv A outer s H E).nox (defBody st) t ∧ t { nx := fun _ H' => Q .non H', rt := Q } (start N vs) H) : FnG P w K mg base (k + 1) f fd ps sp := by
  obtain ⟨clsV, dictA, kw, docV, prm, ann, cdv, clos, slots, rfl, found, code⟩ := F.ex
  constructor
  · exact len
  intro A outer s H args us vs Q E guard room env bind rel want
  obtain ⟨t, steps, holds⟩ := body cdv A outer s H vs Q E guard (room.deeper _) want
  have kept : ∀ b o, base.get? b = some o → s.heap.get? b = some o := fun b o e => (env.bs b o e).1
  have inK : K.In s.heap := env.mod.kin.keeps kept
  have noLim := env.mod.nolimit.keeps kept
  refine codeAny_call_function room.depth (inK _ _ found) rfl S.co S.gen rfl (PySem.W.codeRec_of inK code) (bind _ _ _ _ ?_)
  refine wpAny_newFunctionEnv_cells S.kind (fun y hy => ?_) fun e he s1 entered => ?_
  · exact (S.par y.1 (List.of_mem_zip (show (y.1, y.2) ∈ ps.zip us from hy)).1).imp id fun q => ⟨q, PySem.W.cellsFrom_some _ _ _ (.inl q)⟩
  · subst he
    refine ⟨noLim.keeps entered.toInCall.keep, codeAny_func ?_⟩
    have I := inv_start (CX := CX0) (E := E) S room.hd env (len _ _ _ _ want) rel entered
    refine wpAny_mono (steps.nox.run [] s1 (start N vs) H _ I holds) ?_ fun _ _ z => z
    intro flow s' ended
    cases flow with
    | next =>
      obtain ⟨_, H', J, q⟩ := ended
      exact ⟨.non, H', J.os, J.bare, J.base, J.hok, rfl, q⟩
    | ret u =>
      obtain ⟨v, _, H', J, rv, q⟩ := ended
      exact ⟨v, H', J.os, J.bare, J.base, J.hok, rv, q⟩
    | brk =>
      obtain ⟨_, _, _, q⟩ := ended
      exact q.elim
    | cont =>
      obtain ⟨_, _, _, q⟩ := ended
      exact q.elim
theorem cl_ofG {x : Str} {i : Nat} {N ps : List Str} {k : Nat} {sp : Sp} (F : HasDef K mg x i) (S : FnScope N ps (defScope (topS i))) (len : ∀ vs H Q E, sp vs H Q E → vs.length = ps.length)
    (hb : ∀ (kV doc pm : Value) (an : Option Addr) (cdv ct : Value) (us : List Value), us.length = ps.length → bindArgs (PySem.W.fnOf x x (defArgs (topS i)) (defBody (topS i)) (defScope (topS i)) .none kV doc pm an cdv ct) ⟨us, []⟩ = pure (ps.zip us))
    (hbody : ∀ (f : Addr) (cdv : Value) (A : Around) (outer : List Env) (s : Shared) (H : Hp) (vs : List V) (Q : VK) (E : XK), A.guards = some [] → Room k (A.deeper (envOfC x (defScope (topS i)) s.heap.objs.size f cdv)) → sp vs H Q E →
      ∃ t, PSs (cxOf CX0 P w K mg base N x (defScope (topS i)) f cdv A outer s H E).nox (defBody (topS i)) t ∧ t { nx := fun _ H' => Q .non H', rt := Q } (start N vs) H) : ClG P w K mg base (k + 1) x sp := by
  obtain ⟨f, fd, hm, F⟩ := F
  exact ⟨f, fd, ps, fnG_of F S len (hbody f), hm, F.kp, F.binds hb⟩
end
section
variable {X : Cx} {k j : Nat} {x : Str} {sp : Sp} {p pos : Pos} {e : Expr} {es : List Expr} {t : TA}
theorem pe_clG (c : ClG X.prog X.w X.K X.mg X.base k x sp) (hr : Room j X.A) (guard : X.A.guards = some []) (hk : k ≤ j) (hg : Gl X x) (ha : PA X (e :: es) t)
    (hdb : (x == ("__debug__" : Str)) = false := by decide) (he : starEach (e :: es) X.env = (false, eval e X.env) :: starEach es X.env := by rfl) (hpl : (backTo pos (starEach es X.env)).any (·.1) = false := by rfl) :
    PE X (.Call (.Name x p) (e :: es) [] pos) (tCall sp [] E0 t) := by
  obtain ⟨f, fd, ps, F, hm, kp, b⟩ := c.ex
  constructor
  intro pins s σ H Q I reads
  refine wpAny_Call_Name_kw (ld_glob I hg hm ?_ hdb)
  refine PySem.W.callWith_K (h₀ := X.base) I.ok.mod.kin kp (thn (ha.run pos pins s σ H _ I reads) ?_) he hpl
  rintro us s1 ⟨vs, H1, I1, rel, want⟩
  refine ⟨I1.kIn, ?_⟩
  have want' : sp vs H1 Q E0 := by
    have z : sp (vs ++ []) H1 Q E0 := want
    rwa [List.append_nil] at z
  have arity : us.length = ps.length := by
    rw [← rel.length]
    exact F.arity _ _ _ _ want'
  have bind := b s1 us I1.kIn (by rw [List.append_nil]; exact arity)
  rw [List.append_nil] at bind
  refine wpAny_call (codeAny_mono (F.go X.A X.stack s1 H1 ⟨us, []⟩ us vs Q E0 guard (hr.mono hk) I1.env0 bind rel want') ?_)
  intro r s' ended
  match r, ended with
  | .ok (.ret u), ended => exact I1.after ended
  | .ok .next, ended => exact ended.elim
  | .ok .brk, ended => exact ended.elim
  | .ok .cont, ended => exact ended.elim
  | .error e, ended => exact pass0 pins σ H1 s1 e s' I1 ended
end
end NH
/-! the end of the row: the law called from outside, by a promise for callers whose guards are known -/
namespace NH
open PySem PySem.Spec PyProof.Rows L2

section
variable {P : Program} {w : World} {K : PySem.W.Frag} {mg mb : Str → Option Value}
/-- only the script may be tracked; behind it stands the heap of the call -/
structure Script (P : Program) (w : World) (K : PySem.W.Frag) (h : Heap) (a : Addr) (H : Hp) : Prop where
  only : Only H
  ok : HOk P w H h
  one : ∀ b u, H b = some u → b = a
  out : ∀ u, H a = some u → K.lookup a = none
theorem Script.dict {h : Heap} {a : Addr} {H : Hp} (S : Script P w K h a H) {vs : List Value} (ha : h.get? a = some { cls := .type "list", data := .seq vs.toArray }) {b : Addr} {o : Obj} {es : Array DictEntry} {n : Nat} (e : h.get? b = some o) (d : o.data = .dict es n) :
    (hidT h H).get? b = some o := by
  refine hidT_get e ?_
  cases q : H b with
  | none => rfl
  | some u =>
    obtain rfl := S.one b u q
    cases ha.symm.trans e
    cases (show Data.seq vs.toArray _ = Data.dict es n from d)
theorem Script.ns {h : Heap} {a : Addr} {H : Hp} (S : Script P w K h a H) {vs : List Value} (ha : h.get? a = some { cls := .type "list", data := .seq vs.toArray }) {b : Addr} {m : Str → Option Value} (N : h.Ns b m) : (hidT h H).Ns b m := by
  obtain ⟨o, es, n, e, d, r⟩ := N
  exact ⟨o, es, n, S.dict ha e d, d, r⟩
theorem Script.kin {h : Heap} {a : Addr} {H : Hp} (S : Script P w K h a H) (X : K.In h) : K.In (hidT h H) := fun b o e => by
  refine hidT_get (X b o e) ?_
  cases q : H b with
  | none => rfl
  | some u =>
    obtain rfl := S.one b u q
    rw [S.out u q] at e
    cases e
/-- what was there is there behind the call -/
theorem Script.old {h h' : Heap} {a : Addr} {H H' : Hp} (S : Script P w K h a H) (un : Un (frs []) [] H H' h h') (hok : HOk P w H' h') : OldK h h' := by
  refine OldK.of_keep fun b o e => ?_
  have free : b ∉ frs [] := fun z => by cases z
  rcases S.only b with none_ | ⟨ob, xs, one⟩
  · exact un.keep b o e none_ free (List.not_mem_nil)
  · obtain ⟨was, _⟩ := S.ok b _ one
    obtain ⟨is, _⟩ := hok b _ (un.frzs b ob _ one)
    cases e.symm.trans was
    exact is
/-- the call, where the script is tracked or the module's own -/
theorem Script.call {k : Nat} {x : Str} {sp : Sp} {s : Shared} {fa a : Addr} {H : Hp} {vs : List Value} (S : Script P w K s.heap a H) (X : K.In s.heap) (hmg : s.heap.Ns mainGlobals mg) (hmb : s.heap.Ns builtinsNs mb) (boot : ∀ x : Str, x ≠ "__name__" → mb x = bootBuiltins x)
    (lim : s.heap.NoLimit) (gens : s.gens = #[]) (ha : s.heap.get? a = some { cls := .type "list", data := .seq vs.toArray }) (room : Room k callerA) (C : ∀ base : Heap, ClG P w K mg base k x sp) (hx : mg x = some (.ref fa))
    (want : sp [.ref a] H (fun v _ => v = .bl true) E0) :
    codeAny (model P w) callerA (.call (.ref fa) ⟨[.ref a], []⟩) (fun r s' => r = .ok (.ret (.bool true)) ∧ OldK s.heap s'.heap ∧ s'.os = s.os ∧ AllBare s'.gens) s := by
  obtain ⟨f, fd, ps, F, hm, kp, b⟩ := (C (hidT s.heap H)).ex
  cases hx.symm.trans hm
  obtain ⟨mc, lim1, lim2⟩ := lim
  have M : Mod K mg (hidT s.heap H) := { kin := S.kin X, glob := S.ns ha hmg, blt := ⟨mb, S.ns ha hmb, boot⟩, nolimit := ⟨mc, S.ns ha lim1, lim2⟩ }
  have E : Env0 P w K mg (hidT s.heap H) callerA [] s H := { frames := rfl, mod := M, bs := fun b o e => of_hidT e, bsz := Nat.le_of_eq (hidT_size _ _), funs := trivial, frf := fun b z => (by cases z), hok := S.ok, bare := .of_eq gens }
  have ar : ([Value.ref a]).length = ps.length := F.arity _ _ _ _ want
  have bind := b s [.ref a] X ar
  rw [List.append_nil] at bind
  refine codeAny_mono (F.go callerA [] s H ⟨[.ref a], []⟩ [.ref a] [.ref a] _ _ rfl room E bind (.cons rfl .nil) want) fun r s' ended => ?_
  match r, ended with
  | .error _, ended => exact ended.elim
  | .ok .next, ended => exact ended.elim
  | .ok .brk, ended => exact ended.elim
  | .ok .cont, ended => exact ended.elim
  | .ok (.ret u), ended =>
    obtain ⟨v, H', os, bare, un, hok, rel, q⟩ := ended
    obtain rfl : v = .bl true := q
    obtain rfl : u = Value.bool true := rel
    exact ⟨rfl, S.old un hok, os, bare⟩
end

/-- the row's walk, from the law's promise -/
theorem walkG {l : PySem.W.OpenLaw} {n k : Nat} {q : Program} {loose : List Str} {XP : (Str → Option Value) → Heap → Prop} {YP : World → Heap → Prop} {d : DefRec} {K : Params → PySem.W.Frag} {sp : PySem.W.Frag → Sp}
    (hn : l.most = some n) (small : n ≤ sizeLine) (hdf : d.params.defaults = []) (room : Room k callerA) (hY : ∀ (w : World) (h : Heap), YP w h → (K w.params).In h)
    (C : ∀ (w : World) (mg : Str → Option Value) (h : Heap), (K w.params).In h → h.Ns mainGlobals mg → ∀ base : Heap, ClG l.prog w (K w.params) mg base k d.name (sp (K w.params)))
    (want : ∀ (K : PySem.W.Frag) (H : Hp) (a : Addr) (ns : List Int), ns.length ≤ n → SqL K H a (ns.map V.int) → sp K [.ref a] H (fun v _ => v = .bl true) E0) :
    PySem.W.WalkO q loose XP YP l.row.toRowW d [] (fun f vs => PySem.call f vs) := by
  refine Att.attach_call hn hdf ?_
  intro w s₀ s mg mb fa o pm cd doc a vs ns G Y ho hd hcd hmg ha hi len gens
  have X := hY w _ Y
  have rel := vals_ints hi
  have same := hi.length
  have CC := C w mg s.heap X G.T.g
  have go : ∀ H : Hp, Script l.prog w (K w.params) s.heap a H → SqL (K w.params) H a (ns.map V.int) → _ := fun H S L => S.call X G.T.g G.T.b G.T.builtins G.T.nolimit gens ha room CC hmg (want _ H a ns len L)
  have short : ns.length ≤ sizeLine := Nat.le_trans len small
  cases own : (K w.params).lookup a with
  | some u =>
    cases ha.symm.trans (X a u own)
    refine go (fun _ => none) ⟨fun b => .inl rfl, fun b u z => (by cases z), fun b u z => (by cases z), fun u z => (by cases z)⟩ ?_
    exact .inr ⟨_, vs.toArray, _, own, rfl, rfl, rfl, by rw [List.size_toArray, same]; exact short, by simpa using rel⟩
  | none =>
    refine go (upd (fun _ => none) a (.frz { cls := .type "list", data := .seq vs.toArray } (.lst (ns.map V.int)))) ⟨fun b => ?_, fun b u z => ?_, fun b u z => ?_, fun _ _ => own⟩ (.inl (.inr ⟨_, upd_same⟩))
    · by_cases e : b = a
      · rw [e]
        exact .inr ⟨_, _, upd_same⟩
      · exact .inl (upd_ne e)
    · by_cases e : b = a
      · subst e
        cases upd_same.symm.trans z
        exact ⟨ha, by rw [List.length_map]; exact short, vs, _, rel, ha⟩
      · cases (upd_ne e).symm.trans z
    · by_cases e : b = a
      · exact e
      · cases (upd_ne e).symm.trans z

/-! ### what the top has left -/
theorem all_nil {α : Type} {p : α → Prop} : ∀ x ∈ ([] : List α), p x := fun _ z => nomatch z
theorem all_cons {α : Type} {p : α → Prop} {a : α} {l : List α} (h : p a) (t : ∀ x ∈ l, p x) : ∀ x ∈ a :: l, p x := fun x z => match x, z with
  | _, .head _ => h
  | _, .tail _ z => t _ z
theorem has_def {K : PySem.W.Frag} {h : Heap} {mg : Str → Option Value} {x : Str} {i : Nat} {f : Addr} {od an : Option Addr} {slots : Array (Option Value)} {oc kV doc pm cdv ct : Value} (X : K.In h) (G : h.Ns mainGlobals mg)
    (a : PySem.W.nsIn K mainGlobals x = some (some (.ref f))) (l : K.lookup f = some ⟨oc, od, .func (PySem.W.fnOf x x (defArgs (topS i)) (defBody (topS i)) (defScope (topS i)) .none kV doc pm an cdv ct), slots⟩)
    (c : PySem.W.codeIn K cdv x = true) : HasDef K mg x i := by
  refine ⟨f, _, PySem.W.mg_of X G a, fun_mk l c ?_⟩
  simp only [PySem.W.keepIn]
  rw [l]
theorem top_mk {K : PySem.W.Frag} {h : Heap} {mg : Str → Option Value} (X : K.In h) (G : h.Ns mainGlobals mg) (d : ∀ p ∈ defs, HasDef K mg (Str.ofString p.1) p.2) (n : ∀ x ∈ blts, PySem.W.nsIn K mainGlobals (Str.ofString x) = some none)
    {t : Tok} (m : PySem.W.nsIn K mainGlobals "MOST_RINGS" = some (some (.int 2000 t))) : Top K mg := ⟨d, fun x hx => PySem.W.mg_none_of X G (n x hx), ⟨t, PySem.W.mg_of X G m⟩⟩
end NH
namespace NH
open PySem PySem.Spec PyProof.Rows L2
local macro_rules | `(tactic| walk_at "rd") => `(tactic| first
  | with_reducible refine rd_seq ?_
  | with_reducible refine rd_asg ?_
  | with_reducible refine rd_name ?_
  | with_reducible refine rd_op ?_
  | with_reducible refine rd_c ?_
  | ((with_reducible refine' rd_var ?rk1 ?_); (case rk1 => exact rfl))
  | with_reducible refine rd_I0 ?_
  | with_reducible refine rd_U ?_
  | with_reducible refine rd_un ?_
  | with_reducible refine rd_cb ?_
  | with_reducible refine rd_call ?_
  | with_reducible refine rd_cons ?_
  | with_reducible refine rd_nil ?_
  | with_reducible refine rd_drop ?_
  | with_reducible refine rd_ret ?_
  | with_reducible refine rd_next ?_
  | with_reducible refine rd_if ?_
  | with_reducible refine rd_ifE ?_
  | with_reducible refine rd_test ?_
  | with_reducible refine rd_tB ?_
  | with_reducible refine rd_bl ?_
  | with_reducible refine rd_eqI ?_
  | with_reducible refine rd_neI ?_
  | with_reducible refine rd_lst ?_
  | with_reducible refine rd_tup ?_
  | with_reducible refine rd_par ?_
  | with_reducible refine rd_two ?_
  | with_reducible refine rd_par3 ?_
  | with_reducible refine rd_three ?_
  | with_reducible refine rd_augS ?_
  | with_reducible refine rd_dput ?_
  | with_reducible refine rd_slice ?_
  | with_reducible refine rd_noPart ?_
  | with_reducible refine rd_part ?_
  | with_reducible refine rd_int ?_
  | ((with_reducible refine' rd_aug ?rk2 ?_); (case rk2 => exact rfl))
  | with_reducible refine rd_ipI ?_
  | with_reducible refine rd_bm ?_
  | with_reducible refine rd_bm0 ?_
  | with_reducible refine rd_and ?_
  | with_reducible refine rd_or ?_
  | with_reducible refine rd_not ?_
  | with_reducible refine rd_yes ?_
  | with_reducible refine rd_and2 ?_
  | with_reducible refine rd_or2 ?_
  | with_reducible refine rd_for ?_
  | with_reducible refine rd_wt ?_
  | with_reducible refine rd_lc ?_
  | with_reducible refine rd_star ?_
  | with_reducible refine rd_iList ?_
  | with_reducible refine rd_iTup ?_
  | with_reducible refine rd_iRng1 ?_
  | with_reducible refine rd_iRng2 ?_
  | with_reducible refine rd_iEnum ?_
  | with_reducible refine rd_iEnumU ?_
  | with_reducible refine rd_iZipU ?_
  | with_reducible refine rd_iZipA ?_
  | with_reducible refine rd_iKeys ?_
  | with_reducible refine rd_din ?_
  | with_reducible refine rd_dnotin ?_
  | with_reducible refine rd_dget ?_
  | with_reducible refine rd_dget2 ?_
  | with_reducible refine rd_sortedItems ?_
  | with_reducible refine rd_sortedSet ?_
  | with_reducible refine rd_listZip ?_
  | with_reducible refine rd_gsub ?_
  | with_reducible refine rd_lstRg ?_
  | with_reducible refine rd_rg2 ?_
  | with_reducible refine rd_lenSetI ?_
  | with_reducible refine rd_bmt ?_)
local macro_rules | `(tactic| walk_at "rds") => `(tactic| repeat walk_at "rd")
section
variable {P : Program} {w : World} {K : PySem.W.Frag} {mg : Str → Option Value} {base : Heap}
def sp_common (K : PySem.W.Frag) : Sp := fun vs H Q _ => ∃ i j : Int, vs = [.int i, .int j] ∧ Q (.int (Int.gcd i j : Nat)) H
theorem abs_nat (i : Int) : (if i < 0 then -i else i) = (i.natAbs : Int) := by
  split <;> omega
/-! ### common -/
/- 0 one, 1 other -/
theorem sc_common : FnScope ["one", "other"] ["one", "other"] (defScope (topS 4)) := ⟨rfl, rfl, rfl, by decide +kernel, rfl, by decide +kernel, by decide +kernel⟩
theorem cl_common (T : Top K mg) : Cl P w K mg base 1 "common" (sp_common K) := by
  refine cl_of (k := 0) (N := ["one", "other"]) (ps := ["one", "other"]) (T.def_ 0 rfl) sc_common (fun vs H Q E h => ?_) (fun _ _ _ _ _ _ us hl => match us, hl with | [_, _], _ => rfl) (fun f cdv A outer s H vs Q E hr h => ?_)
  · obtain ⟨i, j, rfl, q⟩ := h
    rfl
  · obtain ⟨i, j, rfl, q⟩ := h
    have hu := hu_of hr
    have hu65 := hu65_of hr
    have hu64 := hr.units
    refine ⟨_, (pss_cons (ps_par (i := 0) (j := 1) rfl sc_common.nd rfl rfl (by decide) rfl rfl (pa_cons (pe_callB call_abs (by rfl) (T.b 2 rfl) (by decide +kernel) (pa_cons (pv 0) pa_nil)) (pa_cons (pe_callB call_abs (by rfl) (T.b 2 rfl) (by decide +kernel) (pa_cons (pv 1) pa_nil)) pa_nil)) (by rfl))
  (pss_cons (ps_while PassesOwn.never (pt_cmpR op_gt (pv 1) pe_int (nomark _)) (pss_one (ps_par (i := 0) (j := 1) rfl sc_common.nd rfl rfl (by decide) rfl rfl (pa_cons (pv 1) (pa_cons (pe_op op_mod (pv 0) (pv 1)) pa_nil)) (by rfl))))
  (pss_one (ps_ret (pv 0))))), ?_⟩
    walk_at "rds"
    refine ⟨i, rfl, ?_⟩
    walk_at "rds"
    refine ⟨j, rfl, ?_⟩
    walk_at "rds"
    rw [abs_nat, abs_nat]
    refine rd_while (fun m σ H1 => ∃ a : Nat, σ = [some (.int a), some (.int m)] ∧ H1 = H ∧ Nat.gcd a m = Int.gcd i j) ⟨j.natAbs, i.natAbs, rfl, rfl, rfl⟩ ?_
    rintro b σ H1 ⟨a, rfl, rfl, hg⟩
    walk_at "rds"
    refine ite2 (fun hb => ?_) (fun hb => ?_)
    · have hb' : 0 < (b : Int) := of_decide_eq_true hb
      walk_at "rds"
      refine rd_I hb' ?_
      walk_at "rds"
      refine ⟨a % b, ?_, b, rfl, rfl, ?_⟩
      · exact Nat.mod_lt a (by omega)
      · rw [← hg, Nat.gcd_comm b, ← Nat.gcd_rec, Nat.gcd_comm]
    · have hb' : ¬ (0 < (b : Int)) := fun z => hb (decide_eq_true z)
      have e : b = 0 := by omega
      subst e
      rw [Nat.gcd_zero_right] at hg
      walk_at "rds"
      rw [hg]
      exact q
def sp_lowest (K : PySem.W.Frag) : Sp := fun vs H Q _ => ∃ i j : Int, vs = [.int i, .int j] ∧ 0 < j ∧ j < 1000000 ∧
  ∀ v H' a b, Same H H' → H' v = some (.tup [.int a, .int b]) → 0 < b → b ≤ j → a * j = i * b → Q (.ref v) H'
/-! ### lowest -/
/- 0 num, 1 den, 2 divisor -/
theorem sc_lowest : FnScope ["num", "den", "divisor"] ["num", "den"] (defScope (topS 5)) := ⟨rfl, rfl, rfl, by decide +kernel, rfl, by decide +kernel, by decide +kernel⟩
theorem cl_lowest (T : Top K mg) : Cl P w K mg base 2 "lowest" (sp_lowest K) := by
  refine cl_of (k := 1) (N := ["num", "den", "divisor"]) (ps := ["num", "den"]) (T.def_ 1 rfl) sc_lowest (fun vs H Q E h => ?_) (fun _ _ _ _ _ _ us hl => match us, hl with | [_, _], _ => rfl) (fun f cdv A outer s H vs Q E hr h => ?_)
  · obtain ⟨i, j, rfl, hj, hj2, q⟩ := h
    rfl
  · obtain ⟨i, j, rfl, hj, hj2, q⟩ := h
    have hu := hu_of hr
    have hu65 := hu65_of hr
    have hu64 := hr.units
    refine ⟨_, (pss_cons (ps_set (i := 2) sc_lowest.nd rfl (.inl rfl) (pe_cl (k := 1) (j := 1) (cl_common T) hr (by decide) (by rfl) (pa_cons (pv 0) (pa_cons (pv 1) pa_nil))))
  (pss_one (ps_ret (pe_tup (pa_cons (pe_op op_fdiv (pv 0) (pv 2)) (pa_cons (pe_op op_fdiv (pv 1) (pv 2)) pa_nil)))))), ?_⟩
    walk_at "rds"
    refine ⟨i, j, rfl, ?_⟩
    have d1 : ((Int.gcd i j : Nat) : Int) ∣ i := Int.gcd_dvd_left ..
    have d2 : ((Int.gcd i j : Nat) : Int) ∣ j := Int.gcd_dvd_right ..
    have gp : 0 < ((Int.gcd i j : Nat) : Int) := by
      have := Int.gcd_pos_of_ne_zero_right (a := i) (b := j) (by omega)
      omega
    have gl := Int.le_of_dvd hj d2
    have c : CDiv i (Int.gcd i j : Nat) := ⟨gp, by omega⟩
    have c2 : CDiv j (Int.gcd i j : Nat) := ⟨gp, by omega⟩
    generalize ((Int.gcd i j : Nat) : Int) = g at *
    walk_at "rds"
    refine rd_I c ?_
    walk_at "rds"
    refine rd_I c2 ?_
    walk_at "rds"
    refine ⟨sz_ok (by simp), rd_new fun p H1 np sm hp => ?_⟩
    obtain ⟨x, rfl⟩ := d1
    obtain ⟨y, rfl⟩ := d2
    rw [Int.mul_ediv_cancel_left _ (by omega), Int.mul_ediv_cancel_left _ (by omega)] at hp
    have yp : 0 < y := by
      rcases Int.lt_trichotomy y 0 with c | c | c
      · have := Int.mul_neg_of_pos_of_neg gp c
        omega
      · subst c
        omega
      · exact c
    refine q p H1 x y sm hp yp ?_ ?_
    · have := Int.mul_le_mul_of_nonneg_right (a := 1) (b := g) (c := y) (by omega) (by omega)
      omega
    · rw [Int.mul_comm g y, ← Int.mul_assoc, Int.mul_comm (g * x) y, Int.mul_comm g x, Int.mul_comm x y, ← Int.mul_assoc]

def sp_product_of (K : PySem.W.Frag) : Sp := fun vs H Q _ => ∃ (v1 v2 : V) (ns ms : List Int), vs = [v1, v2] ∧ TD H v1 (dI ns) ∧ TD H v2 (dI ms) ∧ ns.length ≤ 1000 ∧ (∀ x ∈ ns, -1000 ≤ x ∧ x ≤ 1000) ∧
  ∀ H', Same H H' → Q (.int (dot ns ms)) H'
/-! ### product_of -/
/- 0 one, 1 other, 2 mine', 3 its' -/
theorem sc_product_of : FnScope ["one", "other", "mine", "its"] ["one", "other"] (defScope (topS 6)) := ⟨rfl, rfl, rfl, by decide +kernel, rfl, by decide +kernel, by decide +kernel⟩
theorem cl_product_of (T : Top K mg) : Cl P w K mg base 1 "product_of" (sp_product_of K) := by
  refine cl_of (k := 0) (N := ["one", "other", "mine", "its"]) (ps := ["one", "other"]) (T.def_ 2 rfl) sc_product_of (fun vs H Q E h => ?_) (fun _ _ _ _ _ _ us hl => match us, hl with | [_, _], _ => rfl) (fun f cdv A outer s H vs Q E hr h => ?_)
  · obtain ⟨v1, v2, ns, ms, rfl, h1, h2, hn, hb, q⟩ := h
    rfl
  · obtain ⟨v1, v2, ns, ms, rfl, h1, h2, hn, hb, q⟩ := h
    have hu := hu_of hr
    have hu65 := hu65_of hr
    have hu64 := hr.units
    refine ⟨_, (pss_one (ps_ret (pe_callB (cr_sumK K rfl) (by rfl) (T.b 5 rfl) (by decide +kernel) (pa_cons (pe_lc (own := [("mine", 2), ("its", 3)]) (g := gTup K 2 (gCons (gName 2) (gCons (gName 3) gNil))) rfl sc_product_of.nd  (RZ.pi_zipA (by rfl) (T.b 12 rfl) (pa_cons (pv 0) (pa_cons (pv 1) pa_nil))) (blkOk_by (N := ["one", "other", "mine", "its"]) (sc := defScope (topS 6)) (by decide +kernel)) (fun _ _ _ _ _ => (pg_tup rfl (pgs_cons (pg_name (i := 2) sc_product_of.nd rfl (.inl rfl)) (pgs_cons (pg_name (i := 3) sc_product_of.nd rfl (.inl rfl)) pgs_nil)))) (fun _ _ _ _ _ => pts_nil) (fun _ _ _ _ _ => (pe_op op_mul (pv 2) (pv 3)))) pa_nil)))), ?_⟩
    walk_at "rds"
    obtain ⟨a1, rfl, e1⟩ := h1.ints_inv
    obtain ⟨a2, rfl, e2⟩ := h2.ints_inv
    refine ⟨a1, a2, _, _, rfl, .inr ⟨SqT.of e1, SqT.of e2, fun D nD => ?_⟩⟩
    refine lcwM walk_zipT (fun i => .int (ns.getD i 0 * ms.getD i 0)) (by simp; omega) nD (fun H1 s1 => ⟨SqT.of (s1 _ _ e1), SqT.of (s1 _ _ e2)⟩) (fun i x H1 H2 Q' hi s1 y q' => ?_) (fun H1 s1 hD => ?_)
    · obtain ⟨T, x, z, rfl, hT, s2, f1, f2⟩ := y
      obtain ⟨i1, rfl⟩ := map_at f1
      obtain ⟨i2, rfl⟩ := map_at f2
      refine rd_pair hT ⟨rfl, ?_⟩
      walk_at "rds"
      have bd := hb _ (List.getElem_mem i1)
      refine rd_I (.inl (by omega)) ?_
      have e : ns[i] * ms[i] = ns.getD i 0 * ms.getD i 0 := by simp [List.getD_eq_getElem?_getD, i1, i2]
      rw [e]
      exact q' H2 s2
    · walk_at "rds"
      refine ⟨D, List.zipWith (· * ·) ns ms, rfl, SqL.of ?_, q H1 s1⟩
      rw [hD, List.length_map, List.length_map, ← zipWith_range, List.map_map]
      rfl
def sp_worth (K : PySem.W.Frag) : Sp := fun vs H Q _ => ∃ (v1 v2 : V) (ns ks ms : List Int), vs = [v1, v2] ∧ TD H v1 (.tuple [dI ns, dI ks]) ∧ TD H v2 (dI ms) ∧ ns.length ≤ 1000 ∧ (∀ x ∈ ns, -1000 ≤ x ∧ x ≤ 1000) ∧
  ∀ H', Same H H' → Q (.int (dot ns ms)) H'
/-! ### worth -/
/- 0 tariff, 1 amounts -/
theorem sc_worth : FnScope ["tariff", "amounts"] ["tariff", "amounts"] (defScope (topS 8)) := ⟨rfl, rfl, rfl, by decide +kernel, rfl, by decide +kernel, by decide +kernel⟩
theorem cl_worth (T : Top K mg) : Cl P w K mg base 2 "worth" (sp_worth K) := by
  refine cl_of (k := 1) (N := ["tariff", "amounts"]) (ps := ["tariff", "amounts"]) (T.def_ 3 rfl) sc_worth (fun vs H Q E h => ?_) (fun _ _ _ _ _ _ us hl => match us, hl with | [_, _], _ => rfl) (fun f cdv A outer s H vs Q E hr h => ?_)
  · obtain ⟨v1, v2, ns, ks, ms, rfl, h1, h2, hn, hb, q⟩ := h
    rfl
  · obtain ⟨v1, v2, ns, ks, ms, rfl, h1, h2, hn, hb, q⟩ := h
    have hu := hu_of hr
    have hu65 := hu65_of hr
    have hu64 := hr.units
    refine ⟨_, (pss_one (ps_ret (pe_cl (k := 1) (j := 1) (cl_product_of T) hr (by decide) (by rfl) (pa_cons (pe_ix (ix_tupK K) (pv 0) pe_int (fun _ _ => rfl)) (pa_cons (pv 1) pa_nil))))), ?_⟩
    walk_at "rds"
    refine rd_ixT (j := 0) h1 rfl rfl fun v hv => ?_
    walk_at "rds"
    exact ⟨v, v2, ns, ms, rfl, hv, h2, hn, hb, q⟩
def sp_pay (K : PySem.W.Frag) : Sp := fun vs H Q _ => ∃ (v1 v2 : V) (ns ks ms : List Int), vs = [v1, v2] ∧ TD H v1 (.tuple [dI ks, dI ns]) ∧ TD H v2 (dI ms) ∧ ns.length ≤ 1000 ∧ (∀ x ∈ ns, -1000 ≤ x ∧ x ≤ 1000) ∧
  ∀ H', Same H H' → Q (.int (dot ns ms)) H'
/-! ### pay -/
/- 0 tariff, 1 crew -/
theorem sc_pay : FnScope ["tariff", "crew"] ["tariff", "crew"] (defScope (topS 9)) := ⟨rfl, rfl, rfl, by decide +kernel, rfl, by decide +kernel, by decide +kernel⟩
theorem cl_pay (T : Top K mg) : Cl P w K mg base 2 "pay" (sp_pay K) := by
  refine cl_of (k := 1) (N := ["tariff", "crew"]) (ps := ["tariff", "crew"]) (T.def_ 4 rfl) sc_pay (fun vs H Q E h => ?_) (fun _ _ _ _ _ _ us hl => match us, hl with | [_, _], _ => rfl) (fun f cdv A outer s H vs Q E hr h => ?_)
  · obtain ⟨v1, v2, ns, ks, ms, rfl, h1, h2, hn, hb, q⟩ := h
    rfl
  · obtain ⟨v1, v2, ns, ks, ms, rfl, h1, h2, hn, hb, q⟩ := h
    have hu := hu_of hr
    have hu65 := hu65_of hr
    have hu64 := hr.units
    refine ⟨_, (pss_one (ps_ret (pe_cl (k := 1) (j := 1) (cl_product_of T) hr (by decide) (by rfl) (pa_cons (pe_ix (ix_tupK K) (pv 0) pe_int (fun _ _ => rfl)) (pa_cons (pv 1) pa_nil))))), ?_⟩
    walk_at "rds"
    refine rd_ixT (j := 1) h1 rfl rfl fun v hv => ?_
    walk_at "rds"
    exact ⟨v, v2, ns, ms, rfl, hv, h2, hn, hb, q⟩
end
section
variable {P : Program} {w : World} {K : PySem.W.Frag} {mg : Str → Option Value} {base : Heap}
/-- a sender stands at v -/
structure AtS (H : Hp) (v : V) (S : Snd) (nk nh : Nat) : Prop where
  td : TD H v (dSnd S)
  ok : S.Ok nk nh
theorem AtS.le {H H' : Hp} {v : V} {S : Snd} {nk nh : Nat} (a : AtS H v S nk nh) (e : Le H H') : AtS H' v S nk nh := ⟨a.td.le e, a.ok⟩
def sp_gain_of (K : PySem.W.Frag) : Sp := fun vs H Q _ => ∃ (v1 v2 v3 : V) (S : Snd) (t : Tar) (nk nh : Nat) (is : List Nat), vs = [v1, v2, v3] ∧ AtS H v1 S nk nh ∧ TD H v2 (dTar t) ∧ t.Ok nk nh ∧ TD H v3 (dN is) ∧
  (∀ i ∈ is, i < S.arrows.length) ∧ is.length ≤ 1000 ∧ ∀ H', Same H H' → Q (.int (S.gain t is)) H'
/-! ### gain_of -/
/- 0 sender*, 1 tariff*, 2 indexes, 3 gains, 4 index' -/
theorem sc_gain_of : FnScope ["sender", "tariff", "indexes", "gains", "index"] ["sender", "tariff", "indexes"] (defScope (topS 18)) := ⟨rfl, rfl, rfl, by decide +kernel, rfl, by decide +kernel, by decide +kernel⟩
theorem cl_gain_of (T : Top K mg) : Cl P w K mg base 3 "gain_of" (sp_gain_of K) := by
  refine cl_of (k := 2) (N := ["sender", "tariff", "indexes", "gains", "index"]) (ps := ["sender", "tariff", "indexes"]) (T.def_ 11 rfl) sc_gain_of (fun vs H Q E h => ?_) (fun _ _ _ _ _ _ us hl => match us, hl with | [_, _, _], _ => rfl) (fun f cdv A outer s H vs Q E hr h => ?_)
  · obtain ⟨v1, v2, v3, S, t, nk, nh, is, rfl, hS, hT, hTo, hI, hlt, hlen, q⟩ := h
    rfl
  · obtain ⟨v1, v2, v3, S, t, nk, nh, is, rfl, hS, hT, hTo, hI, hlt, hlen, q⟩ := h
    have hu := hu_of hr
    have hu65 := hu65_of hr
    have hu64 := hr.units
    refine ⟨_, (pss_cons (ps_setLc (i := 3) (own := [("index", 4)]) (g := gName 4) rfl sc_gain_of.nd rfl rfl (sw_true rfl rfl rfl (by decide +kernel)) (pi_tup (pv 2)) (blkOk_by (N := ["sender", "tariff", "indexes", "gains", "index"]) (sc := defScope (topS 18)) (by decide +kernel)) (fun _ _ _ _ _ => (pg_name (i := 4) sc_gain_of.nd rfl (.inl rfl))) (fun _ _ _ _ _ => pts_nil) (fun _ _ _ _ _ => (pe_op op_sub (pe_cl (k := 2) (j := 2) (cl_worth T) hr (by decide) (by rfl) (pa_cons (pv 1) (pa_cons (pe_ix (ix_tupK K) (pe_ix (ix_tupK K) (pe_ix (ix_tupK K) (pv 0) pe_int (fun _ _ => rfl)) (pv 4) (fun _ _ => rfl)) pe_int (fun _ _ => rfl)) pa_nil))) (pe_cl (k := 2) (j := 2) (cl_pay T) hr (by decide) (by rfl) (pa_cons (pv 1) (pa_cons (pe_ix (ix_tupK K) (pe_ix (ix_tupK K) (pe_ix (ix_tupK K) (pv 0) pe_int (fun _ _ => rfl)) (pv 4) (fun _ _ => rfl)) pe_int (fun _ _ => rfl)) pa_nil))))))
  (pss_one (ps_ret (pe_callB (cr_sumK K rfl) (by rfl) (T.b 5 rfl) (by decide +kernel) (pa_cons (pv 3) pa_nil))))), ?_⟩
    obtain ⟨a3, rfl, e3⟩ := hI.nats_inv
    have o1 := hS.ok.nk1
    have o2 := hS.ok.nh1
    walk_at "rds"
    refine ⟨a3, rfl, ⟨_, SqT.of e3⟩, fun D nD => ?_⟩
    refine lcwM walk_tup (fun i => .int (S.gain1 t (is.getD i 0))) (by simp; omega) nD (fun H1 s1 => SqT.of (s1 _ _ e3)) (fun i x H1 H2 Q' hi s1 y q' => ?_) (fun H1 s1 hD => ?_)
    · obtain ⟨rfl, f1⟩ := y
      obtain ⟨i1, rfl⟩ := map_at f1
      have e : is.getD i 0 = is[i] := by simp [List.getD_eq_getElem?_getD, i1]
      rw [e] at q'
      have il := hlt _ (List.getElem_mem i1)
      have hS1 := hS.le (Same.le s1)
      have hT1 := hT.le (Same.le s1)
      walk_at "rds"
      refine ⟨rfl, ?_⟩
      walk_at "rds"
      refine rd_ixT (j := 1) hS1.td rfl rfl fun w1 h1 => ?_
      walk_at "rds"
      refine rd_ixT h1 rfl (Snd.dat il) fun w2 h2 => ?_
      walk_at "rds"
      refine rd_ixT (j := 2) h2 rfl rfl fun w3 h3 => ?_
      walk_at "rds"
      refine ⟨_, _, _, _, _, rfl, hT1, h3, by rw [hTo.prices]; exact o1, hTo.bp, fun H3 s3 => ?_⟩
      have hS3 := hS1.le (Same.le s3)
      walk_at "rds"
      refine rd_ixT (j := 1) hS3.td rfl rfl fun w1 h1 => ?_
      walk_at "rds"
      refine rd_ixT h1 rfl (Snd.dat il) fun w2 h2 => ?_
      walk_at "rds"
      refine rd_ixT (j := 3) h2 rfl rfl fun w3 h3 => ?_
      walk_at "rds"
      refine ⟨_, _, _, _, _, rfl, hT1.le (Same.le s3), h3, by rw [hTo.wages]; exact o2, hTo.bw, fun H4 s4 => ?_⟩
      walk_at "rds"
      exact q' H4 (s3.trans s4)
    · walk_at "rds"
      refine ⟨D, is.map (S.gain1 t), rfl, SqL.of ?_, q H1 s1⟩
      rw [hD, List.length_map, List.map_map, ← map_range_getD is 0]
      rfl
def sp_gains_by (K : PySem.W.Frag) : Sp := fun vs H Q _ => ∃ (v1 v2 : V) (S : Snd) (t : Tar) (nk nh : Nat), vs = [v1, v2] ∧ AtS H v1 S nk nh ∧ TD H v2 (dTar t) ∧ t.Ok nk nh ∧
  ∀ p H', Same H H' → H p = none → H' p = some (.lst ((List.range S.arrows.length).map fun i => V.int (S.gain1 t i))) → Q (.ref p) H'
/-! ### gains_by -/
/- 0 sender*, 1 tariff*, 2 index' -/
theorem sc_gains_by : FnScope ["sender", "tariff", "index"] ["sender", "tariff"] (defScope (topS 21)) := ⟨rfl, rfl, rfl, by decide +kernel, rfl, by decide +kernel, by decide +kernel⟩
theorem cl_gains_by (T : Top K mg) : Cl P w K mg base 4 "gains_by" (sp_gains_by K) := by
  refine cl_of (k := 3) (N := ["sender", "tariff", "index"]) (ps := ["sender", "tariff"]) (T.def_ 13 rfl) sc_gains_by (fun vs H Q E h => ?_) (fun _ _ _ _ _ _ us hl => match us, hl with | [_, _], _ => rfl) (fun f cdv A outer s H vs Q E hr h => ?_)
  · obtain ⟨v1, v2, S, t, nk, nh, rfl, hS, hT, hTo, q⟩ := h
    rfl
  · obtain ⟨v1, v2, S, t, nk, nh, rfl, hS, hT, hTo, q⟩ := h
    have hu := hu_of hr
    have hu65 := hu65_of hr
    have hu64 := hr.units
    refine ⟨_, (pss_one (ps_ret (pe_lc (own := [("index", 2)]) (g := gName 2) rfl sc_gains_by.nd  (pi_range1 (by rfl) (T.b 1 rfl) (pa_cons (pe_callB (call_lenK K) (by rfl) (T.b 0 rfl) PySem.boot_len (pa_cons (pe_ix (ix_tupK K) (pv 0) pe_int (fun _ _ => rfl)) pa_nil)) pa_nil)) (blkOk_by (N := ["sender", "tariff", "index"]) (sc := defScope (topS 21)) (by decide +kernel)) (fun _ _ _ _ _ => (pg_name (i := 2) sc_gains_by.nd rfl (.inl rfl))) (fun _ _ _ _ _ => pts_nil) (fun _ _ _ _ _ => (pe_cl (k := 3) (j := 3) (cl_gain_of T) hr (by decide) (by rfl) (pa_cons (pv 0) (pa_cons (pv 1) (pa_cons (pe_tup (pa_cons (pv 2) pa_nil)) pa_nil)))))))), ?_⟩
    have om := hS.ok.many
    walk_at "rds"
    refine rd_ixT (j := 1) hS.td rfl rfl fun w1 h1 => ?_
    obtain ⟨a1, xs1, rfl, e1, t1⟩ := h1.tup_inv
    have l1 : xs1.length = S.arrows.length := by rw [t1.length, List.length_map]
    walk_at "rds"
    refine ⟨a1, xs1, rfl, .inr (SqT.of e1), ?_⟩
    walk_at "rds"
    refine ⟨_, rfl, by omega, by omega, fun D nD => ?_⟩
    refine lcwM walk_range0 (fun i => .int (S.gain1 t i)) (by omega) nD (fun H1 s1 => trivial) (fun i x H1 H2 Q' hi s1 y q' => ?_) (fun H1 s1 hD => ?_)
    · obtain ⟨rfl, rfl⟩ := y
      have il : i < S.arrows.length := by omega
      walk_at "rds"
      refine ⟨rfl, ?_⟩
      walk_at "rds"
      refine ⟨sz_ok (by simp), fun p np => ?_⟩
      generalize eH : upd _ p _ = H3
      obtain ⟨s3, hp⟩ := new_of eH np
      walk_at "rds"
      refine ⟨v1, v2, _, S, t, nk, nh, [i], rfl, hS.le (Same.le (s1.trans s3)), hT.le (Same.le (s1.trans s3)), hTo, TD.nats hp, fun j hj => ?_, by simp, fun H4 s4 => ?_⟩
      · rw [List.mem_singleton.mp hj]
        exact il
      · have e : S.gain t [i] = S.gain1 t i := by simp [Snd.gain]
        rw [e]
        exact q' H4 (s3.trans s4)
    · refine q D H1 s1 nD ?_
      rw [hD]
      have e : ((xs1.length : Nat) : Int).toNat = S.arrows.length := by omega
      rw [e]
def dF (f : Int × Int) : PyData := dI [f.1, f.2]
def sp_is_above (K : PySem.W.Frag) : Sp := fun vs H Q _ => ∃ (v1 v2 : V) (f g : Int × Int), vs = [v1, v2] ∧ TD H v1 (dF f) ∧ TD H v2 (dF g) ∧ (0 < f.2 ∧ f.2 < 1000000) ∧ (0 < g.2 ∧ g.2 < 1000000) ∧ Q (.bl (decide (g.1 * f.2 < f.1 * g.2))) H
/-! ### is_above -/
/- 0 one, 1 other -/
theorem sc_is_above : FnScope ["one", "other"] ["one", "other"] (defScope (topS 20)) := ⟨rfl, rfl, rfl, by decide +kernel, rfl, by decide +kernel, by decide +kernel⟩
theorem cl_is_above (T : Top K mg) : Cl P w K mg base 1 "is_above" (sp_is_above K) := by
  refine cl_of (k := 0) (N := ["one", "other"]) (ps := ["one", "other"]) (T.def_ 12 rfl) sc_is_above (fun vs H Q E h => ?_) (fun _ _ _ _ _ _ us hl => match us, hl with | [_, _], _ => rfl) (fun f cdv A outer s H vs Q E hr h => ?_)
  · obtain ⟨v1, v2, f, g, rfl, hf, hg, bf, bg, q⟩ := h
    rfl
  · obtain ⟨v1, v2, f, g, rfl, hf, hg, bf, bg, q⟩ := h
    have hu := hu_of hr
    have hu65 := hu65_of hr
    have hu64 := hr.units
    refine ⟨_, (pss_one (ps_ret (pe_cmpR op_gt (pe_op op_mul (pe_ix (ix_tupK K) (pv 0) pe_int (fun _ _ => rfl)) (pe_ix (ix_tupK K) (pv 1) pe_int (fun _ _ => rfl))) (pe_op op_mul (pe_ix (ix_tupK K) (pv 1) pe_int (fun _ _ => rfl)) (pe_ix (ix_tupK K) (pv 0) pe_int (fun _ _ => rfl))) (nomark _)))), ?_⟩
    walk_at "rds"
    refine rd_ixT (j := 0) hf rfl rfl fun w1 h1 => ?_
    obtain rfl := h1.int_eq
    walk_at "rds"
    refine rd_ixT (j := 1) hg rfl rfl fun w2 h2 => ?_
    obtain rfl := h2.int_eq
    walk_at "rds"
    refine rd_I (.inr (by omega)) ?_
    walk_at "rds"
    refine rd_ixT (j := 0) hg rfl rfl fun w3 h3 => ?_
    obtain rfl := h3.int_eq
    walk_at "rds"
    refine rd_ixT (j := 1) hf rfl rfl fun w4 h4 => ?_
    obtain rfl := h4.int_eq
    walk_at "rds"
    refine rd_I (.inr (by omega)) ?_
    walk_at "rds"
    exact q
end
section
variable {P : Program} {w : World} {K : PySem.W.Frag} {mg : Str → Option Value} {base : Heap}
/-- the lists of arrows, one for each place; the first k arrows are in -/
structure OutN (H : Hp) (p : Addr) (qs : List Addr) (S : Snd) (k : Nat) : Prop where
  at_ : H p = some (.lst (qs.map V.ref))
  len : qs.length = S.n
  row : ∀ (j : Nat) (q : Addr), qs[j]? = some q → H q = some (.lst ((S.outsN k j).map nI))
theorem OutN.same {H H' : Hp} {p : Addr} {qs : List Addr} {S : Snd} {k : Nat} (o : OutN H p qs S k) (e : Same H H') : OutN H' p qs S k := ⟨e _ _ o.at_, o.len, fun j q h => e _ _ (o.row j q h)⟩
def sp_arrows_from (K : PySem.W.Frag) : Sp := fun vs H Q _ => ∃ (v : V) (S : Snd) (nk nh : Nat), vs = [v] ∧ AtS H v S nk nh ∧
  ∀ p qs H', Same H H' → OutN H' p qs S S.arrows.length → H p = none → Q (.ref p) H'
/-! ### arrows_from -/
/- 0 sender, 1 found, 2 index, 3 arrow, 4 place' -/
theorem sc_arrows_from : FnScope ["sender", "found", "index", "arrow", "place"] ["sender"] (defScope (topS 12)) := ⟨rfl, rfl, rfl, by decide +kernel, rfl, by decide +kernel, by decide +kernel⟩
theorem cl_arrows_from (T : Top K mg) : Cl P w K mg base 1 "arrows_from" (sp_arrows_from K) := by
  refine cl_of (k := 0) (N := ["sender", "found", "index", "arrow", "place"]) (ps := ["sender"]) (T.def_ 5 rfl) sc_arrows_from (fun vs H Q E h => ?_) (fun _ _ _ _ _ _ us hl => match us, hl with | [_], _ => rfl) (fun f cdv A outer s H vs Q E hr h => ?_)
  · obtain ⟨v, S, nk, nh, rfl, hS, q⟩ := h
    rfl
  · obtain ⟨v, S, nk, nh, rfl, hS, q⟩ := h
    have hu := hu_of hr
    have hu65 := hu65_of hr
    have hu64 := hr.units
    refine ⟨_, (pss_cons (ps_setLc (i := 1) (own := [("place", 4)]) (g := gName 4) rfl sc_arrows_from.nd rfl rfl (sw_true rfl rfl rfl (by decide +kernel)) (pi_range1 (by rfl) (T.b 1 rfl) (pa_cons (pe_ix (ix_tupK K) (pv 0) pe_int (fun _ _ => rfl)) pa_nil)) (blkOk_by (N := ["sender", "found", "index", "arrow", "place"]) (sc := defScope (topS 12)) (by decide +kernel)) (fun _ _ _ _ _ => (pg_name (i := 4) sc_arrows_from.nd rfl (.inl rfl))) (fun _ _ _ _ _ => pts_nil) (fun _ _ _ _ _ => (pe_lst pa_nil)))
  (pss_cons (ps_for PassesOwn.never rfl (pi_enumU (by rfl) (T.b 13 rfl) (pa_cons (pe_ix (ix_tupK K) (pv 0) pe_int (fun _ _ => rfl)) pa_nil)) (pg_tup rfl (pgs_cons (pg_name (i := 2) sc_arrows_from.nd rfl (.inl rfl)) (pgs_cons (pg_name (i := 3) sc_arrows_from.nd rfl (.inl rfl)) pgs_nil)))
  (pss_one (ps_expr (pe_bm PySem.F.plainAttrs_list PySem.F.slot_list_append PySem.F.type_list_append mt_append (pe_ix (ix_listK K) (pv 1) (pe_ix (ix_tupK K) (pv 3) pe_int (fun _ _ => rfl)) (fun _ _ => rfl)) (pa_cons (pv 2) pa_nil)))))
  (pss_one (ps_ret (pv 1))))), ?_⟩
    have of := hS.ok.few
    walk_at "rds"
    refine rd_ixT (j := 0) hS.td rfl rfl fun w1 h1 => ?_
    obtain rfl := h1.int_eq
    walk_at "rds"
    refine ⟨_, rfl, by omega, by omega, fun D nD => ?_⟩
    refine lcw walk_range0 (fun i acc H1 => Same H H1 ∧ ∃ qs : List Addr, acc = qs.map V.ref ∧ qs.length = i ∧ qs.Nodup ∧ ∀ q ∈ qs, H q = none ∧ q ≠ D ∧ H1 q = some (.lst [])) ⟨Same.mut (Same.refl H) nD, [], rfl, rfl, List.nodup_nil, fun q hq => by cases hq⟩ (fun _ _ _ _ => trivial)
      (fun i x acc H1 H2 hi hl hD p y => ?_) (fun acc H1 hD hl p => ?_)
    · obtain ⟨rfl, rfl⟩ := y
      obtain ⟨s1, qs, rfl, hq1, hq2, hq3⟩ := p
      walk_at "rds"
      refine ⟨rfl, ?_⟩
      walk_at "rds"
      refine iteT ?_
      walk_at "rds"
      refine ⟨sz_ok (by simp), fun p np => ?_⟩
      generalize eH : upd _ p _ = H3
      obtain ⟨s3, hp⟩ := new_of eH np
      have npD : p ≠ D := fun e => by rw [e, hD] at np; cases np
      refine lcn (s3 _ _ hD) hl (by omega) ⟨Same.mut (s1.trans s3) nD, qs ++ [p], by simp, by simp [hq1], ?_, fun q hq => ?_⟩
      · rw [List.nodup_append]
        exact ⟨hq2, by simp, fun a ha b hb e => by
          rw [List.mem_singleton.mp hb] at e
          rw [e] at ha
          rw [(hq3 p ha).2.2] at np
          cases np⟩
      · rcases List.mem_append.mp hq with z | z
        · obtain ⟨a, b, c⟩ := hq3 q z
          exact ⟨a, b, by rw [upd_ne b]; exact s3 _ _ c⟩
        · rw [List.mem_singleton.mp z]
          exact ⟨s1.free np, npD, by rw [upd_ne npD]; exact hp⟩
    · obtain ⟨s1, qs, rfl, hq1, hq2, hq3⟩ := p
      have hS1 := hS.le (Same.le s1)
      have hq1' : qs.length = S.n := by omega
      walk_at "rds"
      refine rd_ixT (j := 1) hS1.td rfl rfl fun w1 h1 => ?_
      obtain ⟨a1, xs1, rfl, hA⟩ := AtA.of h1
      have l1 := hA.len
      walk_at "rds"
      refine ⟨a1, xs1, rfl, SqT.of hA.at_, ?_⟩
      refine forw (walk_enumU (xs := xs1)) (fun i σ H2 => ∃ y2 y3 y4, σ = [some v, some (.ref D), y2, y3, y4] ∧ Same H H2 ∧ OutN H2 D qs S i ∧ AtA H2 a1 xs1 S) ⟨none, none, none, rfl, s1, ⟨hD, hq1', fun j q hj => ?_⟩, hA⟩ (fun i σ H2 hi p => ?_)
        (fun i x σ H2 H3 hi p y => ?_) (fun σ H2 p => ?_)
      · rw [(hq3 q (List.mem_of_getElem? hj)).2.2]
        rfl
      · obtain ⟨_, _, _, _, _, _, hA2⟩ := p
        exact SqT.of hA2.at_
      · obtain ⟨y2, y3, y4, rfl, s2, o2, hA2⟩ := p
        obtain ⟨T, x1, x2, rfl, hT, s3, f1, f2⟩ := y
        cases f1
        have hA3 := hA2.le (Same.le s3)
        have o3 := o2.same s3
        obtain ⟨il, hx⟩ := hA3.get f2
        obtain ⟨lt1, lt2, _, _⟩ := hS.ok.lt il
        refine rd_pair hT ?_
        walk_at "rds"
        refine rd_ixT (j := 0) hx rfl rfl fun w1 h1 => ?_
        obtain rfl := h1.int_eq
        have lq : S.src i < qs.length := by omega
        refine rd_ixL (SqL.of o3.at_) rfl (by rw [List.getElem?_map, List.getElem?_eq_getElem lq]; rfl) ?_
        have hrow := o3.row _ _ (List.getElem?_eq_getElem lq)
        refine ⟨tyL hrow, ?_⟩
        walk_at "rds"
        refine rd_append hrow ?_ fun H4 b4 e4 => ?_
        · rw [List.length_map]
          have := List.length_filter_le (fun j => decide (S.src j = S.src i)) (List.range i)
          rw [List.length_range] at this
          have om := hS.ok.many
          unfold Snd.outsN
          omega
        walk_at "rds"
        have hqn : H (qs[S.src i]'lq) = none := (hq3 _ (List.getElem_mem lq)).1
        refine ⟨_, _, _, rfl, Same.but (s2.trans s3) b4 hqn, ⟨?_, o2.len, fun j q hj => ?_⟩, hA3.le (b4.le hrow)⟩
        · exact b4 _ _ (fun z => (hq3 _ (List.getElem_mem lq)).2.1 z.symm) o3.at_
        · by_cases hji : j = S.src i
          · subst hji
            rw [List.getElem?_eq_getElem lq] at hj
            cases hj
            rw [e4, Snd.outsN_succ, if_pos rfl, List.map_append]
            rfl
          · have ne : q ≠ qs[S.src i] := fun e => hji ((List.getElem_inj hq2).mp ((List.getElem?_eq_some_iff.mp hj).2.trans e) |> fun z => z)
            rw [b4 _ _ ne (o3.row j q hj), Snd.outsN_succ, if_neg (fun z => hji z.symm), List.append_nil]
      · obtain ⟨y2, y3, y4, rfl, s2, o2, hA2⟩ := p
        walk_at "rds"
        exact q D qs H2 s2 (by rw [← l1]; exact o2) nD
end
section
variable {P : Program} {w : World} {K : PySem.W.Frag} {mg : Str → Option Value} {base : Heap}
/-- the loop of come_to -/
structure CtI (H1 H2 : Hp) (F D : Addr) (S : Snd) (fs ts : List Nat) : Prop where
  s : Same H1 H2
  f : H2 F = some (.lst (fs.map nI))
  d : H2 D = some (.lst (ts.map nI))
  nf : H1 F = none
  nd : H1 D = none
  ne : F ≠ D
theorem CtI.same {H1 H2 H3 : Hp} {F D : Addr} {S : Snd} {fs ts : List Nat} (c : CtI H1 H2 F D S fs ts) (e : Same H2 H3) : CtI H1 H3 F D S fs ts := ⟨c.s.trans e, e _ _ c.f, e _ _ c.d, c.nf, c.nd, c.ne⟩
theorem CTp.few {S : Snd} {nk nh : Nat} {fs ts is : List Nat} {p : Nat} (o : S.Ok nk nh) (c : CTp S fs ts p is) : fs.length ≤ S.n := nodup_lt _ _ c.nd fun q hq => (c.r q hq).lt o
def sp_come_to (K : PySem.W.Frag) : Sp := fun vs H Q _ => ∃ (v : V) (S : Snd) (nk nh : Nat), vs = [v] ∧ AtS H v S nk nh ∧
  ∀ p H' (ns : List Nat), Same H H' → H' p = some (.tup (ns.map nI)) → ns.Pairwise (· < ·) → (∀ x, x ∈ ns ↔ S.Reach x) → Q (.ref p) H'
/-! ### come_to -/
/- 0 sender, 1 out, 2 found, 3 todo, 4 index, 5 target -/
theorem sc_come_to : FnScope ["sender", "out", "found", "todo", "index", "target"] ["sender"] (defScope (topS 13)) := ⟨rfl, rfl, rfl, by decide +kernel, rfl, by decide +kernel, by decide +kernel⟩
theorem cl_come_to (T : Top K mg) : Cl P w K mg base 2 "come_to" (sp_come_to K) := by
  refine cl_of (k := 1) (N := ["sender", "out", "found", "todo", "index", "target"]) (ps := ["sender"]) (T.def_ 6 rfl) sc_come_to (fun vs H Q E h => ?_) (fun _ _ _ _ _ _ us hl => match us, hl with | [_], _ => rfl) (fun f cdv A outer s H vs Q E hr h => ?_)
  · obtain ⟨v, S, nk, nh, rfl, hS, q⟩ := h
    rfl
  · obtain ⟨v, S, nk, nh, rfl, hS, q⟩ := h
    have hu := hu_of hr
    have hu65 := hu65_of hr
    have hu64 := hr.units
    refine ⟨_, (pss_cons (ps_par3 (i := 1) (j := 2) (l := 3) rfl sc_come_to.nd rfl rfl rfl (by decide) (by decide) (by decide) rfl rfl rfl (pa_cons (pe_cl (k := 1) (j := 1) (cl_arrows_from T) hr (by decide) (by rfl) (pa_cons (pv 0) pa_nil)) (pa_cons (pe_lst (pa_cons pe_int pa_nil)) (pa_cons (pe_lst (pa_cons pe_int pa_nil)) pa_nil))) (by rfl))
  (pss_cons (ps_while PassesOwn.never (pt_truth (pv 3) (by intro _; rfl)) (pss_one (ps_for PassesOwn.never rfl (pi_list (pe_ix (ix_listK K) (pv 1) (pe_bm0 PySem.F.plainAttrs_list PySem.F.slot_list_pop PySem.F.type_list_pop mt_pop (pv 3)) (fun _ _ => rfl))) (pg_name (i := 4) sc_come_to.nd rfl (.inl rfl))
  (pss_cons (ps_set (i := 5) sc_come_to.nd rfl (.inl rfl) (pe_ix (ix_tupK K) (pe_ix (ix_tupK K) (pe_ix (ix_tupK K) (pv 0) pe_int (fun _ _ => rfl)) (pv 4) (fun _ _ => rfl)) pe_int (fun _ _ => rfl)))
  (pss_one (ps_if (pt_cmpR (op_notInK K) (pv 5) (pv 2) (by rfl)) (pss_cons (ps_expr (pe_bm PySem.F.plainAttrs_list PySem.F.slot_list_append PySem.F.type_list_append mt_append (pv 2) (pa_cons (pv 5) pa_nil)))
  (pss_one (ps_expr (pe_bm PySem.F.plainAttrs_list PySem.F.slot_list_append PySem.F.type_list_append mt_append (pv 3) (pa_cons (pv 5) pa_nil))))) pss_nil))))))
  (pss_one (ps_ret (pe_callTy (call_tupleK K) (by rfl) (T.b 7 rfl) (by decide +kernel) (pa_cons (pe_callB (cr_sortedIK K) (by rfl) (T.b 6 rfl) (by decide +kernel) (pa_cons (pv 2) pa_nil)) pa_nil)))))), ?_⟩
    have o1 := hS.ok.few
    have o2 := hS.ok.many
    walk_at "rds"
    refine ⟨v, S, nk, nh, rfl, hS, fun O qs H1 s1 hO nO => ?_⟩
    walk_at "rds"
    refine ⟨sz_ok (by simp), fun F nF => ?_⟩
    generalize eH : upd _ F _ = H2
    obtain ⟨s2, hF⟩ := new_of eH nF
    walk_at "rds"
    refine ⟨sz_ok (by simp), fun D nD => ?_⟩
    generalize eH2 : upd _ D _ = H3
    obtain ⟨s3, hD⟩ := new_of eH2 nD
    have neFD : F ≠ D := fun e => by rw [← e, hF] at nD; cases nD
    walk_at "rds"
    refine rd_while (fun m σ H4 => ∃ fs ts y4 y5, σ = [some v, some (.ref O), some (.ref F), some (.ref D), y4, y5] ∧ CtI H1 H4 F D S fs ts ∧ CT S fs ts ∧ 2 * (S.n - fs.length) + ts.length = m ∧ m ≤ 100)
      ⟨_, [0], [0], none, none, rfl, ⟨s2.trans s3, s3 _ _ hF, hD, nF, s2.free nD, neFD⟩, CT.init S, rfl, by simp; omega⟩ ?_
    rintro m σ H4 ⟨fs, ts, y4, y5, rfl, cI, cT, hm, hm1⟩
    walk_at "rds"
    refine ⟨_, trL cI.d, ite3 (fun hb => ?_) (fun hb => ?_)⟩
    · obtain ⟨ts', p, rfl⟩ := last_of (xs := ts) (fun z => by rw [z] at hb; cases hb)
      have pf : p ∈ fs := cT.sub p (by simp)
      have pl : p < S.n := (cT.r p pf).lt hS.ok
      walk_at "rds"
      refine ⟨tyL cI.d, ?_⟩
      refine rd_pop (xs := ts'.map nI) (y := nI p) (by rw [cI.d, List.map_append]; rfl) fun H5 b5 e5 => ?_
      have cI5 : CtI H1 H5 F D S fs ts' := ⟨Same.but cI.s b5 cI.nd, b5 _ _ cI.ne cI.f, e5, cI.nf, cI.nd, cI.ne⟩
      have hO5 := hO.same cI5.s
      have lq : p < qs.length := by rw [hO.len]; exact pl
      refine rd_ixL (SqL.of hO5.at_) rfl (by rw [List.getElem?_map, List.getElem?_eq_getElem lq]; rfl) ?_
      have hrow := hO.row _ _ (List.getElem?_eq_getElem lq)
      refine ⟨_, rfl, ⟨_, SqL.of (cI5.s _ _ hrow)⟩, ?_⟩
      refine forw (walk_list (xs := (S.outs p).map nI)) (fun j σ H6 => ∃ fs' ts'' y4 y5, σ = [some v, some (.ref O), some (.ref F), some (.ref D), y4, y5] ∧ CtI H1 H6 F D S fs' ts'' ∧ CTp S fs' ts'' p ((S.outs p).take j) ∧ 2 * (S.n - fs'.length) + ts''.length + 1 ≤ m)
        ⟨fs, ts', y4, y5, rfl, cI5, cT.pop, by rw [← hm]; simp; omega⟩ (fun j σ H6 _ pv => ?_) (fun j x σ H6 H7 hj pv y => ?_) (fun σ H6 pv => ?_)
      · obtain ⟨_, _, _, _, _, c6, _⟩ := pv
        exact SqL.of (c6.s _ _ hrow)
      · obtain ⟨fs', ts'', z4, z5, rfl, c6, cp, hm6⟩ := pv
        obtain ⟨rfl, f1⟩ := y
        obtain ⟨jl, rfl⟩ := nI_at f1
        obtain ⟨il, is⟩ := Snd.mem_outs.mp (List.getElem_mem jl)
        have tk : (S.outs p).take (j + 1) = (S.outs p).take j ++ [(S.outs p)[j]] := by rw [List.take_add_one, List.getElem?_eq_getElem jl]; rfl
        have hS6 := hS.le (Same.le (s1.trans c6.s))
        walk_at "rds"
        refine rd_ixT (j := 1) hS6.td rfl rfl fun w1 h1 => ?_
        walk_at "rds"
        refine rd_ixT h1 rfl (Snd.dat il) fun w2 h2 => ?_
        walk_at "rds"
        refine rd_ixT (j := 1) h2 rfl rfl fun w3 h3 => ?_
        obtain rfl := h3.int_eq
        walk_at "rds"
        refine rd_notInL c6.f ?_
        walk_at "rds"
        refine ite3 (fun hc => ?_) (fun hc => ?_)
        · have hn : S.tgt (S.outs p)[j] ∉ fs' := by simpa using hc
          have cn := cp.new il is hn
          have few := cn.few hS.ok
          rw [List.length_append] at few
          simp at few
          walk_at "rds"
          refine ⟨tyL c6.f, ?_⟩
          walk_at "rds"
          refine rd_append c6.f (by rw [List.length_map]; omega) fun H8 b8 e8 => ?_
          walk_at "rds"
          have d8 := b8 _ _ c6.ne.symm c6.d
          refine ⟨tyL d8, ?_⟩
          walk_at "rds"
          have tl : ts''.length ≤ 1000 := by omega
          refine rd_append d8 (by rw [List.length_map]; omega) fun H9 b9 e9 => ?_
          refine ⟨fs' ++ [S.tgt (S.outs p)[j]], ts'' ++ [S.tgt (S.outs p)[j]], _, _, rfl, ⟨Same.but (Same.but c6.s b8 c6.nf) b9 c6.nd, ?_, ?_, c6.nf, c6.nd, c6.ne⟩, by rw [tk]; exact cn, by simp; omega⟩
          · rw [b9 _ _ c6.ne e8, List.map_append]
            rfl
          · rw [e9, List.map_append]
            rfl
        · have hn : S.tgt (S.outs p)[j] ∈ fs' := by simpa using hc
          walk_at "rds"
          exact ⟨fs', ts'', _, _, rfl, c6, by rw [tk]; exact cp.old hn, hm6⟩
      · obtain ⟨fs', ts'', z4, z5, rfl, c6, cp, hm6⟩ := pv
        rw [List.length_map, List.take_length] at cp
        exact ⟨_, by omega, fs', ts'', z4, z5, rfl, c6, cp.fin, rfl, by omega⟩
    · have e : ts = [] := by
        cases ts with
        | nil => rfl
        | cons a r => cases hb
      subst e
      walk_at "rds"
      refine ⟨F, fs.map fun (i : Nat) => (i : Int), rfl, SqL.of (by rw [cI.f, List.map_map]; rfl), fun ns' p pm pw np => ?_⟩
      obtain ⟨gs, pg, rfl⟩ := perm_nats pm
      have asc := asc_of_nats pw (pg.nodup_iff.mpr cT.nd)
      generalize eH5 : upd _ p _ = H5
      obtain ⟨s5, h5⟩ := new_of eH5 np
      walk_at "rds"
      refine ⟨p, _, rfl, .inl ⟨SqL.of h5, fun r nr => ?_⟩⟩
      generalize eH6 : upd _ r _ = H6
      obtain ⟨s6, h6⟩ := new_of eH6 nr
      refine q r H6 gs (s1.trans (cI.s.trans (s5.trans s6))) (by rw [h6, List.map_map]; rfl) asc fun x => ?_
      rw [pg.mem_iff]
      exact cT.all x
end
section
variable {P : Program} {w : World} {K : PySem.W.Frag} {mg : Str → Option Value} {base : Heap}
def sp_leading_to (K : PySem.W.Frag) : Sp := fun vs H Q _ => ∃ (v : V) (S : Snd) (nk nh b : Nat), vs = [v, .int (b : Int), .int (b : Int)] ∧ AtS H v S nk nh ∧ b < S.n ∧
  ∀ p H' (ns : List Nat), Same H H' → H' p = some (.lst (ns.map nI)) → Near S b ns → (∀ x ∈ ns, x < S.n) → Q (.ref p) H'
/-! ### leading_to -/
/- 0 sender, 1 goal, 2 least, 3 found, 4 todo, 5 place, 6 source, 7 target, 8 amounts, 9 crew -/
theorem sc_leading_to : FnScope ["sender", "goal", "least", "found", "todo", "place", "source", "target", "amounts", "crew"] ["sender", "goal", "least"] (defScope (topS 14)) := ⟨rfl, rfl, rfl, by decide +kernel, rfl, by decide +kernel, by decide +kernel⟩
theorem cl_leading_to (T : Top K mg) : Cl P w K mg base 1 "leading_to" (sp_leading_to K) := by
  refine cl_of (k := 0) (N := ["sender", "goal", "least", "found", "todo", "place", "source", "target", "amounts", "crew"]) (ps := ["sender", "goal", "least"]) (T.def_ 7 rfl) sc_leading_to (fun vs H Q E h => ?_) (fun _ _ _ _ _ _ us hl => match us, hl with | [_, _, _], _ => rfl) (fun f cdv A outer s H vs Q E hr h => ?_)
  · obtain ⟨v, S, nk, nh, b, rfl, hS, hb, q⟩ := h
    rfl
  · obtain ⟨v, S, nk, nh, b, rfl, hS, hb, q⟩ := h
    have hu := hu_of hr
    have hu65 := hu65_of hr
    have hu64 := hr.units
    refine ⟨_, (pss_cons (ps_par (i := 3) (j := 4) rfl sc_leading_to.nd rfl rfl (by decide) rfl rfl (pa_cons (pe_lst (pa_cons (pv 1) pa_nil)) (pa_cons (pe_lst (pa_cons (pv 1) pa_nil)) pa_nil)) (by rfl))
  (pss_cons (ps_while PassesOwn.never (pt_truth (pv 4) (by intro _; rfl)) (pss_cons (ps_set (i := 5) sc_leading_to.nd rfl (.inl rfl) (pe_bm0 PySem.F.plainAttrs_list PySem.F.slot_list_pop PySem.F.type_list_pop mt_pop (pv 4)))
  (pss_one (ps_for PassesOwn.never rfl (pi_tup (pe_ix (ix_tupK K) (pv 0) pe_int (fun _ _ => rfl))) (pg_tup rfl (pgs_cons (pg_name (i := 6) sc_leading_to.nd rfl (.inl rfl)) (pgs_cons (pg_name (i := 7) sc_leading_to.nd rfl (.inl rfl)) (pgs_cons (pg_name (i := 8) sc_leading_to.nd rfl (.inl rfl)) (pgs_cons (pg_name (i := 9) sc_leading_to.nd rfl (.inl rfl)) pgs_nil)))))
  (pss_one (ps_if (PW.pt (pw_and (pt_cmpR op_eq (pv 7) (pv 5) (nomark _)) (pw_and (pt_cmpR op_ge (pv 6) (pv 2) (nomark _)) (pw_and1 (pt_cmpR (op_notInK K) (pv 6) (pv 3) (by rfl)))))) (pss_cons (ps_expr (pe_bm PySem.F.plainAttrs_list PySem.F.slot_list_append PySem.F.type_list_append mt_append (pv 3) (pa_cons (pv 6) pa_nil)))
  (pss_one (ps_expr (pe_bm PySem.F.plainAttrs_list PySem.F.slot_list_append PySem.F.type_list_append mt_append (pv 4) (pa_cons (pv 6) pa_nil))))) pss_nil))))))
  (pss_one (ps_ret (pv 3))))), ?_⟩
    have o1 := hS.ok.few
    have o2 := hS.ok.many
    walk_at "rds"
    refine ⟨sz_ok (by simp), fun F nF => ?_⟩
    generalize eH : upd _ F _ = H2
    obtain ⟨s2, hF⟩ := new_of eH nF
    walk_at "rds"
    refine ⟨sz_ok (by simp), fun D nD => ?_⟩
    generalize eH2 : upd _ D _ = H3
    obtain ⟨s3, hD⟩ := new_of eH2 nD
    have neFD : F ≠ D := fun e => by rw [← e, hF] at nD; cases nD
    walk_at "rds"
    refine rd_while (fun m σ H4 => ∃ fs ts y5 y6 y7 y8 y9, σ = [some v, some (.int (b : Int)), some (.int (b : Int)), some (.ref F), some (.ref D), y5, y6, y7, y8, y9] ∧ CtI H H4 F D S fs ts ∧ LT S b fs ts ∧ 2 * (S.n - fs.length) + ts.length = m ∧ m ≤ 100)
      ⟨_, [b], [b], none, none, none, none, none, rfl, ⟨s2.trans s3, s3 _ _ hF, hD, nF, s2.free nD, neFD⟩, LT.init hb, rfl, by simp; omega⟩ ?_
    rintro m σ H4 ⟨fs, ts, y5, y6, y7, y8, y9, rfl, cI, cT, hm, hm1⟩
    walk_at "rds"
    refine ⟨_, trL cI.d, ite3 (fun hb => ?_) (fun hb => ?_)⟩
    · obtain ⟨ts', p, rfl⟩ := last_of (xs := ts) (fun z => by rw [z] at hb; cases hb)
      walk_at "rds"
      refine ⟨tyL cI.d, ?_⟩
      refine rd_pop (xs := ts'.map nI) (y := .int (p : Int)) (by rw [cI.d, List.map_append]; rfl) fun H5 b5 e5 => ?_
      have cI5 : CtI H H5 F D S fs ts' := ⟨Same.but cI.s b5 cI.nd, b5 _ _ cI.ne cI.f, e5, cI.nf, cI.nd, cI.ne⟩
      walk_at "rds"
      refine rd_ixT (j := 1) (hS.le (Same.le cI5.s)).td rfl rfl fun w1 h1 => ?_
      obtain ⟨a1, xs1, rfl, hA⟩ := AtA.of h1
      refine ⟨a1, rfl, ⟨_, SqT.of hA.at_⟩, ?_⟩
      refine forw (walk_tup (xs := xs1)) (fun j σ H6 => ∃ fs' ts'' y6 y7 y8 y9, σ = [some v, some (.int (b : Int)), some (.int (b : Int)), some (.ref F), some (.ref D), some (.int (p : Int)), y6, y7, y8, y9] ∧ CtI H H6 F D S fs' ts'' ∧ AtA H6 a1 xs1 S ∧ LTp S b fs' ts'' p j ∧ 2 * (S.n - fs'.length) + ts''.length + 1 ≤ m)
        ⟨fs, ts', y6, y7, y8, y9, rfl, cI5, hA, cT.pop, by rw [← hm]; simp; omega⟩ (fun j σ H6 _ pv => ?_) (fun j x σ H6 H7 hj pv y => ?_) (fun σ H6 pv => ?_)
      · obtain ⟨_, _, _, _, _, _, _, _, hA6, _⟩ := pv
        exact SqT.of hA6.at_
      · obtain ⟨fs', ts'', z6, z7, z8, z9, rfl, c6, hA6, cp, hm6⟩ := pv
        obtain ⟨rfl, f1⟩ := y
        obtain ⟨il, hx⟩ := hA6.get f1
        obtain ⟨lt1, _, _, _⟩ := hS.ok.lt il
        obtain ⟨ax, xx, rfl, ex, tx⟩ := hx.tup_inv
        cases tx with | cons t1 tx =>
        cases tx with | cons t2 tx =>
        cases tx with | cons t3 tx =>
        cases tx with | cons t4 tx =>
        cases tx
        obtain rfl := t1.int_eq
        obtain rfl := t2.int_eq
        refine rd_gtup rfl (SqT.of ex) rfl ?_
        refine rd_gcons (rd_name (rd_gcons (rd_name (rd_gcons (rd_name (rd_gcons (rd_name (rd_gnil ?_))))))))
        walk_at "rds"
        refine ite3 (fun hc => ?_) (fun hc => ?_)
        · have e1 : S.tgt j = p := by
            have := of_decide_eq_true hc
            omega
          walk_at "rds"
          refine ite3 (fun hc => ?_) (fun hc => ?_)
          · have e2 : b ≤ S.src j := by simpa using hc
            walk_at "rds"
            refine rd_notInL c6.f ?_
            walk_at "rds"
            refine ite3 (fun hc => ?_) (fun hc => ?_)
            · have hn : S.src j ∉ fs' := by simpa using hc
              have cn := cp.new lt1 e2 hn
              have few := cn.few
              rw [List.length_append] at few
              simp at few
              walk_at "rds"
              refine ⟨tyL c6.f, ?_⟩
              walk_at "rds"
              refine rd_append c6.f (by rw [List.length_map]; omega) fun H8 b8 e8 => ?_
              walk_at "rds"
              have d8 := b8 _ _ c6.ne.symm c6.d
              refine ⟨tyL d8, ?_⟩
              walk_at "rds"
              have tl : ts''.length ≤ 1000 := by omega
              refine rd_append d8 (by rw [List.length_map]; omega) fun H9 b9 e9 => ?_
              refine ⟨fs' ++ [S.src j], ts'' ++ [S.src j], _, _, _, _, rfl, ⟨Same.but (Same.but c6.s b8 c6.nf) b9 c6.nd, ?_, ?_, c6.nf, c6.nd, c6.ne⟩, (hA6.le (b8.le c6.f)).le (b9.le d8), cn, by simp; omega⟩
              · rw [b9 _ _ c6.ne e8, List.map_append]
                rfl
              · rw [e9, List.map_append]
                rfl
            · have hn : S.src j ∈ fs' := by simpa using hc
              walk_at "rds"
              exact ⟨fs', ts'', _, _, _, _, rfl, c6, hA6, cp.old (fun z => z.2.2 hn), hm6⟩
          · have e2 : ¬ b ≤ S.src j := by simpa using hc
            refine iteF ?_
            walk_at "rds"
            exact ⟨fs', ts'', _, _, _, _, rfl, c6, hA6, cp.old (fun z => e2 z.2.1), hm6⟩
        · have e1 : ¬ S.tgt j = p := by
            have := of_decide_eq_false hc
            omega
          refine iteF ?_
          walk_at "rds"
          exact ⟨fs', ts'', _, _, _, _, rfl, c6, hA6, cp.old (fun z => e1 z.1), hm6⟩
      · obtain ⟨fs', ts'', z6, z7, z8, z9, rfl, c6, hA6, cp, hm6⟩ := pv
        rw [hA.len] at cp
        exact ⟨_, by omega, fs', ts'', _, _, _, _, _, rfl, c6, cp.fin, rfl, by omega⟩
    · have e : ts = [] := by
        cases ts with
        | nil => rfl
        | cons a r => cases hb
      subst e
      walk_at "rds"
      exact q F H4 fs cI.s cI.f cT.near fun x hx => (cT.lt x hx).2
end
section
variable {P : Program} {w : World} {K : PySem.W.Frag} {mg : Str → Option Value} {base : Heap}
theorem len_le_sum {α : Type} (f : α → Nat) (h : ∀ x, 1 ≤ f x) : ∀ l : List α, l.length ≤ (l.map f).sum
  | [] => Nat.le_refl _
  | a :: l => by
    have ih := len_le_sum f h l
    have := h a
    rw [List.map_cons, List.sum_cons, List.length_cons]
    omega
def sp_rings_from (K : PySem.W.Frag) : Sp := fun vs H Q _ => ∃ (v : V) (S : Snd) (nk nh b : Nat) (o : Addr) (qs : List Addr), vs = [v, .ref o, .int (b : Int)] ∧ AtS H v S nk nh ∧ OutN H o qs S S.arrows.length ∧ b < S.n ∧
  (S.ringsU (fun t => decide (b < t)) b S.n [] b [b]).length ≤ 2000 ∧
  ∀ p H' xs (rs : List (List Nat)) (near : List Nat), Same H H' → H p = none → H' p = some (.lst xs) → TDs H' xs (rs.map dN) → Near S b near → rs.Perm (S.ringsU (fun t => decide (t ∈ near)) b S.n [] b [b]) → Q (.ref p) H'
/-! ### rings_from -/
/- 0 sender, 1 out, 2 begin, 3 near, 4 found, 5 todo, 6 way, 7 places, 8 index, 9 target -/
theorem sc_rings_from : FnScope ["sender", "out", "begin", "near", "found", "todo", "way", "places", "index", "target"] ["sender", "out", "begin"] (defScope (topS 15)) := ⟨rfl, rfl, rfl, by decide +kernel, rfl, by decide +kernel, by decide +kernel⟩
theorem cl_rings_from (T : Top K mg) : Cl P w K mg base 2 "rings_from" (sp_rings_from K) := by
  refine cl_of (k := 1) (N := ["sender", "out", "begin", "near", "found", "todo", "way", "places", "index", "target"]) (ps := ["sender", "out", "begin"]) (T.def_ 8 rfl) sc_rings_from (fun vs H Q E h => ?_) (fun _ _ _ _ _ _ us hl => match us, hl with | [_, _, _], _ => rfl) (fun f cdv A outer s H vs Q E hr h => ?_)
  · obtain ⟨v, S, nk, nh, b, o, qs, rfl, hS, hO, hb, hmost, q⟩ := h
    rfl
  · obtain ⟨v, S, nk, nh, b, o, qs, rfl, hS, hO, hb, hmost, q⟩ := h
    have hu := hu_of hr
    have hu65 := hu65_of hr
    have hu64 := hr.units
    refine ⟨_, (pss_cons (ps_par3 (i := 3) (j := 4) (l := 5) rfl sc_rings_from.nd rfl rfl rfl (by decide) (by decide) (by decide) rfl rfl rfl (pa_cons (pe_cl (k := 1) (j := 1) (cl_leading_to T) hr (by decide) (by rfl) (pa_cons (pv 0) (pa_cons (pv 2) (pa_cons (pv 2) pa_nil)))) (pa_cons (pe_lst pa_nil) (pa_cons (pe_lst (pa_cons (pe_tup (pa_cons (pe_tup pa_nil) (pa_cons (pe_tup (pa_cons (pv 2) pa_nil)) pa_nil))) pa_nil)) pa_nil))) (by rfl))
  (pss_cons (ps_while PassesOwn.never (pt_truth (pv 5) (by intro _; rfl)) (pss_cons (ps_asg (pe_bm0 PySem.F.plainAttrs_list PySem.F.slot_list_pop PySem.F.type_list_pop mt_pop (pv 5)) (pg_tup rfl (pgs_cons (pg_name (i := 6) sc_rings_from.nd rfl (.inl rfl)) (pgs_cons (pg_name (i := 7) sc_rings_from.nd rfl (.inl rfl)) pgs_nil))))
  (pss_one (ps_for PassesOwn.never rfl (pi_list (pe_ix (ix_listK K) (pv 1) (pe_ix (ix_tupK K) (pv 7) (pe_un un_neg pe_int) (fun _ _ => rfl)) (fun _ _ => rfl))) (pg_name (i := 8) sc_rings_from.nd rfl (.inl rfl))
  (pss_cons (ps_set (i := 9) sc_rings_from.nd rfl (.inl rfl) (pe_ix (ix_tupK K) (pe_ix (ix_tupK K) (pe_ix (ix_tupK K) (pv 0) pe_int (fun _ _ => rfl)) (pv 8) (fun _ _ => rfl)) pe_int (fun _ _ => rfl)))
  (pss_one (ps_if (pt_cmpR op_eq (pv 9) (pv 2) (nomark _)) (pss_cons (ps_expr (pe_bm PySem.F.plainAttrs_list PySem.F.slot_list_append PySem.F.type_list_append mt_append (pv 4) (pa_cons (pe_tup (StX.pa_star (pv 6) (pa_cons (pv 8) pa_nil))) pa_nil)))
  (pss_one (ps_if (pt_cmpR op_gt (pe_callB (call_lenK K) (by rfl) (T.b 0 rfl) PySem.boot_len (pa_cons (pv 4) pa_nil)) (pe_glob (v := .int 2000) (by rfl) T.most.choose_spec ⟨_, rfl⟩) (nomark _)) (pss_one ps_never) pss_nil))) (pss_one (ps_if (PW.pt (pw_and (pt_cmpR (op_inK K) (pv 9) (pv 3) (by rfl)) (pw_and1 (pt_cmpR (op_notInK K) (pv 9) (pv 7) (by rfl))))) (pss_one (ps_expr (pe_bm PySem.F.plainAttrs_list PySem.F.slot_list_append PySem.F.type_list_append mt_append (pv 5) (pa_cons (pe_tup (pa_cons (pe_tup (StX.pa_star (pv 6) (pa_cons (pv 8) pa_nil))) (pa_cons (pe_tup (StX.pa_star (pv 7) (pa_cons (pv 9) pa_nil))) pa_nil))) pa_nil)))) pss_nil)))))))))
  (pss_one (ps_ret (pv 4))))), ?_⟩
    have o1 := hS.ok.few
    have o2 := hS.ok.many
    walk_at "rds"
    refine ⟨v, S, nk, nh, b, rfl, hS, hb, fun N H1 near s1 hN hnear hnlt => ?_⟩
    have hmono := Snd.rings_mono S (fun t => decide (t ∈ near)) (fun t => decide (b < t)) b (fun t ht hm => by
      have h1 := hnear.least t (by simpa using hm)
      simp
      omega) S.n [] b [b]
    have hroot : (S.ringsU (fun t => decide (t ∈ near)) b S.n [] b [b]).length ≤ 2000 := Nat.le_trans hmono hmost
    walk_at "rds"
    refine ⟨sz_ok (by simp), fun F nF => ?_⟩
    generalize eH : upd _ F _ = H2
    obtain ⟨s2, hF⟩ := new_of eH nF
    walk_at "rds"
    refine ⟨sz_ok (by simp), fun A1 nA1 => ?_⟩
    generalize eH3 : upd _ A1 _ = H3
    obtain ⟨s3, hA1⟩ := new_of eH3 nA1
    walk_at "rds"
    refine ⟨sz_ok (by simp), fun A2 nA2 => ?_⟩
    generalize eH4 : upd _ A2 _ = H4
    obtain ⟨s4, hA2⟩ := new_of eH4 nA2
    walk_at "rds"
    refine ⟨sz_ok (by simp), fun A3 nA3 => ?_⟩
    generalize eH5 : upd _ A3 _ = H5
    obtain ⟨s5, hA3⟩ := new_of eH5 nA3
    walk_at "rds"
    refine ⟨sz_ok (by simp), fun D nD => ?_⟩
    generalize eH6 : upd _ D _ = H6
    obtain ⟨s6, hD⟩ := new_of eH6 nD
    have s25 : Same H2 H5 := s3.trans (s4.trans s5)
    have s26 : Same H2 H6 := s25.trans s6
    have neFD : F ≠ D := fun e => by
      rw [← e, s25 _ _ hF] at nD
      cases nD
    have e0 : Ent.Ok ⟨[], [], b⟩ S := ⟨rfl, by simp, fun x hx => by
      have z : x = b := by simpa using hx
      rw [z]
      exact hb⟩
    walk_at "rds"
    have I0 : RfI H1 H6 F D S [] [⟨[], [], b⟩] := ⟨s2.trans s26, nF, s2.free (s25.free nD), neFD, ⟨[], s26 _ _ hF, .nil⟩, ⟨[.ref A3], hD, .cons (.tup (s6 _ _ hA3) (.cons (TD.nats (ns := []) (((s4.trans s5).trans s6) _ _ hA1)) (.cons (TD.nats (ns := [b]) ((s5.trans s6) _ _ hA2)) .nil))) .nil⟩, fun e he => by rw [List.mem_singleton.mp he]; exact e0⟩
    have hnb := Snd.nodes_bound S o2 (fun t => decide (t ∈ near)) b S.n b [b]
    have hp6 : 11 ^ S.n ≤ 11 ^ 6 := Nat.pow_le_pow_right (by omega) o1
    have h116 : (11 : Nat) ^ 6 = 1771561 := by decide
    refine rd_while (fun m σ H7 => ∃ rs es y6 y7 y8 y9, σ = [some v, some (.ref o), some (.int (b : Int)), some (.ref N), some (.ref F), some (.ref D), y6, y7, y8, y9] ∧ RfI H1 H7 F D S rs es ∧
        (rs ++ es.flatMap fun e => e.rings S (fun t => decide (t ∈ near)) b).Perm (S.ringsU (fun t => decide (t ∈ near)) b S.n [] b [b]) ∧ (es.map fun e => e.nodes S (fun t => decide (t ∈ near)) b).sum = m ∧ m ≤ 2000000)
      ⟨_, [], [⟨[], [], b⟩], none, none, none, none, rfl, I0, by simp [Ent.rings], rfl, by simp [Ent.nodes]; omega⟩ ?_
    rintro m σ H7 ⟨rs, es, y6, y7, y8, y9, rfl, cI, hpm, hm, hm1⟩
    obtain ⟨xs, hxs, txs⟩ := cI.f
    obtain ⟨ys, hys, tys⟩ := cI.d
    walk_at "rds"
    refine ⟨_, trL hys, ite3 (fun hb => ?_) (fun hb => ?_)⟩
    · have hes : es ≠ [] := fun z => by
        subst z
        cases tys
        cases hb
      obtain ⟨es', e, rfl⟩ := last_of hes
      rw [List.map_append] at tys
      obtain ⟨ys', ly, rfl, ty1, ty2⟩ := tys.split
      obtain ⟨ye, rfl, te⟩ := ty2.one
      have ek := cI.ok e (by simp)
      have wl : e.w.length ≤ 1000000 := by
        have z := nodup_lt S.n _ ek.nd ek.lt
        rw [List.length_append, ← ek.len] at z
        omega
      walk_at "rds"
      refine ⟨tyL hys, ?_⟩
      refine rd_pop hys fun H8 b8 e8 => ?_
      obtain ⟨ae, xe, rfl, hae, tte⟩ := (te.le (b8.le hys)).tup_inv
      cases tte with | cons tw tte =>
      cases tte with | cons tu tte =>
      cases tte
      obtain ⟨aw, rfl, haw⟩ := tw.nats_inv
      obtain ⟨au, rfl, hau⟩ := tu.nats_inv
      refine rd_gtup rfl (SqT.of hae) rfl ?_
      refine rd_gcons (rd_name (rd_gcons (rd_name (rd_gnil ?_))))
      have cI8 : RfI H1 H8 F D S rs es' := ⟨Same.but cI.s b8 cI.nd, cI.nf, cI.nd, cI.ne, ⟨xs, b8 _ _ cI.ne hxs, txs.le (b8.le hys)⟩, ⟨ys', e8, ty1.le (b8.le hys)⟩, fun x hx => cI.ok x (List.mem_append_left _ hx)⟩
      have hc : e.c < S.n := ek.lt _ (by simp)
      have hO8 := (hO.same (s1.trans cI8.s))
      have lq : e.c < qs.length := by rw [hO.len]; exact hc
      have hrow := hO.row _ _ (List.getElem?_eq_getElem lq)
      walk_at "rds"
      have hau1 : H8 au = some (.tup (e.u.map nI ++ [.int (e.c : Int)])) := by
        have z := hau
        rw [List.map_append] at z
        exact z
      refine rd_ixT1 hau1 ?_
      refine rd_ixL (SqL.of hO8.at_) rfl (by rw [List.getElem?_map, List.getElem?_eq_getElem lq]; rfl) ?_
      refine ⟨_, rfl, ⟨_, SqL.of ((s1.trans cI8.s) _ _ hrow)⟩, ?_⟩
      have hm8 : (es'.map fun e => e.nodes S (fun t => decide (t ∈ near)) b).sum + ((S.outs e.c).map (S.node1 (fun t => decide (t ∈ near)) b (S.n - (e.u.length + 1)) (e.u ++ [e.c]))).sum + 1 = m := by
        rw [← hm, List.map_append, List.sum_append, List.map_singleton, List.sum_singleton, Ent.nodes_eq ek]
        omega
      refine forw (walk_list (xs := (S.outs e.c).map nI)) (fun j σ H9 => ∃ rs' es'' y8 y9, σ = [some v, some (.ref o), some (.int (b : Int)), some (.ref N), some (.ref F), some (.ref D), some (.ref aw), some (.ref au), y8, y9] ∧ RfI H1 H9 F D S rs' es'' ∧
          H9 aw = some (.tup (e.w.map nI)) ∧ H9 au = some (.tup ((e.u ++ [e.c]).map nI)) ∧
          (rs' ++ (es''.flatMap fun e => e.rings S (fun t => decide (t ∈ near)) b) ++ ((S.outs e.c).drop j).flatMap (S.ring1 (fun t => decide (t ∈ near)) b (S.n - (e.u.length + 1)) e.w (e.u ++ [e.c]))).Perm (S.ringsU (fun t => decide (t ∈ near)) b S.n [] b [b]) ∧
          (es''.map fun e => e.nodes S (fun t => decide (t ∈ near)) b).sum + (((S.outs e.c).drop j).map (S.node1 (fun t => decide (t ∈ near)) b (S.n - (e.u.length + 1)) (e.u ++ [e.c]))).sum + 1 = m)
        ⟨rs, es', _, _, rfl, cI8, haw, hau, ?_, hm8⟩ (fun j σ H9 _ pv => ?_) (fun j x σ H9 H10 hj pv y => ?_) (fun σ H9 pv => ?_)
      · rw [List.drop_zero, ← Ent.rings_eq ek, List.append_assoc]
        rw [List.flatMap_append, List.flatMap_singleton] at hpm
        exact hpm
      · obtain ⟨_, _, _, _, _, c9, _⟩ := pv
        exact SqL.of ((s1.trans c9.s) _ _ hrow)
      · obtain ⟨rs', es'', z8, z9, rfl, c9, haw9, hau9, hpm9, hm9⟩ := pv
        obtain ⟨rfl, f1⟩ := y
        obtain ⟨jl, rfl⟩ := nI_at f1
        obtain ⟨il, is⟩ := Snd.mem_outs.mp (List.getElem_mem jl)
        rw [List.drop_eq_getElem_cons jl, List.flatMap_cons] at hpm9
        rw [List.drop_eq_getElem_cons jl, List.map_cons, List.sum_cons] at hm9
        generalize (S.outs e.c)[j] = i at il is hpm9 hm9
        obtain ⟨xs9, hxs9, txs9⟩ := c9.f
        obtain ⟨ys9, hys9, tys9⟩ := c9.d
        obtain ⟨lt1, lt2, _, _⟩ := hS.ok.lt il
        have hS9 := hS.le (Same.le (s1.trans c9.s))
        have hl9 := hpm9.length_eq
        simp only [List.length_append] at hl9
        walk_at "rds"
        refine rd_ixT (j := 1) hS9.td rfl rfl fun w1 h1 => ?_
        walk_at "rds"
        refine rd_ixT h1 rfl (Snd.dat il) fun w2 h2 => ?_
        walk_at "rds"
        refine rd_ixT (j := 1) h2 rfl rfl fun w3 h3 => ?_
        obtain rfl := h3.int_eq
        walk_at "rds"
        refine ite3 (fun hc => ?_) (fun hc => ?_)
        · have e1 : S.tgt i = b := by
            have := of_decide_eq_true hc
            omega
          have r1 : S.ring1 (fun t => decide (t ∈ near)) b (S.n - (e.u.length + 1)) e.w (e.u ++ [e.c]) i = [e.w ++ [i]] := by
            unfold Snd.ring1
            rw [if_pos e1]
          have n1 : S.node1 (fun t => decide (t ∈ near)) b (S.n - (e.u.length + 1)) (e.u ++ [e.c]) i = 0 := by
            unfold Snd.node1
            rw [if_pos e1]
          rw [r1] at hpm9 hl9
          rw [n1] at hm9
          simp only [List.length_singleton] at hl9
          walk_at "rds"
          refine ⟨tyL hxs9, ?_⟩
          walk_at "rds"
          refine ⟨aw, _, rfl, .inl (SqT.of haw9), ?_⟩
          walk_at "rds"
          refine ⟨sz_ok (by simp; omega), fun A nA => ?_⟩
          generalize eHA : upd _ A _ = H11
          obtain ⟨s11, hA⟩ := new_of eHA nA
          walk_at "rds"
          have lxs : xs9.length = rs'.length := by rw [txs9.length, List.length_map]
          refine rd_append (s11 _ _ hxs9) (by omega) fun H12 b12 e12 => ?_
          walk_at "rds"
          refine rd_lenL e12 ?_
          walk_at "rds"
          refine ite3 (fun hc => ?_) (fun hc => ?_)
          · exfalso
            have := of_decide_eq_true hc
            rw [List.length_append, List.length_singleton] at this
            omega
          walk_at "rds"
          have le12 := b12.le (s11 _ _ hxs9)
          have hAF : A ≠ F := fun e => by rw [e, hxs9] at nA; cases nA
          have hDF : D ≠ F := c9.ne.symm
          refine ⟨rs' ++ [e.w ++ [i]], es'', _, _, rfl, ⟨Same.but (c9.s.trans s11) b12 c9.nf, c9.nf, c9.nd, c9.ne, ⟨_, e12, ?_⟩, ⟨ys9, b12 _ _ hDF (s11 _ _ hys9), (tys9.le (Same.le s11)).le le12⟩, c9.ok⟩, le12 _ _ (s11 _ _ haw9), le12 _ _ (s11 _ _ hau9), ?_, by omega⟩
          · rw [List.map_append]
            exact ((txs9.le (Same.le s11)).le le12).append (.cons (TD.nats (ns := e.w ++ [i]) (le12 _ _ (by rw [hA, List.map_append]; rfl))) .nil)
          · refine List.Perm.trans ?_ hpm9
            rw [List.append_assoc, List.append_assoc rs', List.append_assoc rs']
            refine List.Perm.append_left _ ?_
            rw [← List.append_assoc, ← List.append_assoc]
            exact List.Perm.append_right _ List.perm_append_comm
        · have e1 : ¬ S.tgt i = b := by
            have := of_decide_eq_false hc
            omega
          walk_at "rds"
          refine rd_inL ((c9.s) _ _ hN) ?_
          walk_at "rds"
          refine ite3 (fun hc => ?_) (fun hc => ?_)
          · walk_at "rds"
            refine rd_notInT hau9 ?_
            walk_at "rds"
            refine ite3 (fun hc2 => ?_) (fun hc2 => ?_)
            · have cn : (fun t => decide (t ∈ near)) (S.tgt i) = true ∧ S.tgt i ∉ e.u ++ [e.c] := ⟨hc, by simpa using hc2⟩
              have ek' : Ent.Ok ⟨e.w ++ [i], e.u ++ [e.c], S.tgt i⟩ S := ⟨by simp [ek.len], by
                show ((e.u ++ [e.c]) ++ [S.tgt i]).Nodup
                rw [List.nodup_append]
                exact ⟨ek.nd, by simp, fun a ha b hb => by rw [List.mem_singleton.mp hb]; intro z; exact cn.2 (z ▸ ha)⟩, fun x hx => by
                rcases List.mem_append.mp hx with z | z
                · exact ek.lt x z
                · rw [List.mem_singleton.mp z]; exact lt2⟩
              have r1 : S.ring1 (fun t => decide (t ∈ near)) b (S.n - (e.u.length + 1)) e.w (e.u ++ [e.c]) i = Ent.rings ⟨e.w ++ [i], e.u ++ [e.c], S.tgt i⟩ S (fun t => decide (t ∈ near)) b := by
                unfold Snd.ring1 Ent.rings
                rw [if_neg e1, if_pos cn, List.length_append]
                rfl
              have n1 : S.node1 (fun t => decide (t ∈ near)) b (S.n - (e.u.length + 1)) (e.u ++ [e.c]) i = Ent.nodes ⟨e.w ++ [i], e.u ++ [e.c], S.tgt i⟩ S (fun t => decide (t ∈ near)) b := by
                unfold Snd.node1 Ent.nodes
                rw [if_neg e1, if_pos cn, List.length_append]
                rfl
              rw [r1] at hpm9
              rw [n1] at hm9
              walk_at "rds"
              refine ⟨tyL hys9, ?_⟩
              walk_at "rds"
              refine ⟨aw, _, rfl, .inl (SqT.of haw9), ?_⟩
              walk_at "rds"
              refine ⟨sz_ok (by simp; omega), fun A nA => ?_⟩
              generalize eHA : upd _ A _ = H11
              obtain ⟨s11, hA⟩ := new_of eHA nA
              walk_at "rds"
              refine ⟨au, _, rfl, .inl (SqT.of (s11 _ _ hau9)), ?_⟩
              walk_at "rds"
              have ul : (e.u ++ [e.c]).length ≤ 6 := Nat.le_trans (nodup_lt S.n _ ek.nd ek.lt) o1
              refine ⟨sz_ok (by simp at ul ⊢; omega), fun B nB => ?_⟩
              generalize eHB : upd _ B _ = H12
              obtain ⟨s12, hB⟩ := new_of eHB nB
              walk_at "rds"
              refine ⟨sz_ok (by simp), fun C nC => ?_⟩
              generalize eHC : upd _ C _ = H13
              obtain ⟨s13, hC⟩ := new_of eHC nC
              have s913 : Same H10 H13 := s11.trans (s12.trans s13)
              walk_at "rds"
              have lys : ys9.length ≤ 3000000 := by
                have z := len_le_sum (fun e : Ent => e.nodes S (fun t => decide (t ∈ near)) b) (fun e => Snd.nodes_pos _ _ _ _ _ _) es''
                have z2 := tys9.length
                rw [List.length_map] at z2
                omega
              refine rd_append (s913 _ _ hys9) (by omega) fun H14 b14 e14 => ?_
              have le14 := b14.le (s913 _ _ hys9)
              refine ⟨rs', es'' ++ [⟨e.w ++ [i], e.u ++ [e.c], S.tgt i⟩], _, _, rfl, ⟨Same.but (c9.s.trans s913) b14 c9.nd, c9.nf, c9.nd, c9.ne, ⟨xs9, b14 _ _ c9.ne (s913 _ _ hxs9), (txs9.le (Same.le s913)).le le14⟩, ⟨_, e14, ?_⟩, fun x hx => ?_⟩, le14 _ _ (s913 _ _ haw9), le14 _ _ (s913 _ _ hau9), ?_, ?_⟩
              · rw [List.map_append]
                refine ((tys9.le (Same.le s913)).le le14).append (.cons (.tup (le14 _ _ hC) (.cons (TD.nats (ns := e.w ++ [i]) (le14 _ _ ((s12.trans s13) _ _ (by rw [hA, List.map_append]; rfl)))) (.cons (TD.nats (ns := (e.u ++ [e.c]) ++ [S.tgt i]) (le14 _ _ (s13 _ _ (by rw [hB, List.map_append (l₁ := e.u ++ [e.c])]; rfl)))) .nil))) .nil)
              · rcases List.mem_append.mp hx with z | z
                · exact c9.ok x z
                · rw [List.mem_singleton.mp z]; exact ek'
              · rw [List.flatMap_append, List.flatMap_singleton, ← List.append_assoc, List.append_assoc (rs' ++ _)]
                exact hpm9
              · rw [List.map_append, List.sum_append, List.map_singleton, List.sum_singleton]
                omega
            · have hno : ¬ ((fun t => decide (t ∈ near)) (S.tgt i) = true ∧ S.tgt i ∉ e.u ++ [e.c]) := fun z => by
                have z2 : decide (S.tgt i ∈ e.u ++ [e.c]) = true := by simpa only [Bool.not_eq_false'] using hc2
                exact z.2 (of_decide_eq_true z2)
              have r1 : S.ring1 (fun t => decide (t ∈ near)) b (S.n - (e.u.length + 1)) e.w (e.u ++ [e.c]) i = [] := by
                unfold Snd.ring1
                rw [if_neg e1, if_neg hno]
              have n1 : S.node1 (fun t => decide (t ∈ near)) b (S.n - (e.u.length + 1)) (e.u ++ [e.c]) i = 0 := by
                unfold Snd.node1
                rw [if_neg e1, if_neg hno]
              rw [r1] at hpm9
              rw [n1] at hm9
              walk_at "rds"
              exact ⟨rs', es'', _, _, rfl, c9, haw9, hau9, hpm9, by omega⟩
          · have hno : ¬ ((fun t => decide (t ∈ near)) (S.tgt i) = true ∧ S.tgt i ∉ e.u ++ [e.c]) := fun z => by
              have z1 : decide (S.tgt i ∈ near) = true := z.1
              rw [hc] at z1
              cases z1
            have r1 : S.ring1 (fun t => decide (t ∈ near)) b (S.n - (e.u.length + 1)) e.w (e.u ++ [e.c]) i = [] := by
              unfold Snd.ring1
              rw [if_neg e1, if_neg hno]
            have n1 : S.node1 (fun t => decide (t ∈ near)) b (S.n - (e.u.length + 1)) (e.u ++ [e.c]) i = 0 := by
              unfold Snd.node1
              rw [if_neg e1, if_neg hno]
            rw [r1] at hpm9
            rw [n1] at hm9
            refine iteF ?_
            walk_at "rds"
            exact ⟨rs', es'', _, _, rfl, c9, haw9, hau9, hpm9, by omega⟩
      · obtain ⟨rs', es'', z8, z9, rfl, c9, haw9, hau9, hpm9, hm9⟩ := pv
        rw [List.length_map, List.drop_length] at hpm9 hm9
        exact ⟨_, by simp at hm9; omega, rs', es'', _, _, _, _, rfl, c9, by simpa using hpm9, rfl, by simp at hm9; omega⟩
    · have hes : es = [] := by
        cases es with
        | nil => rfl
        | cons a r =>
          cases tys
          cases hb
      subst hes
      walk_at "rds"
      exact q F H7 xs rs near (s1.trans cI.s) (s1.free cI.nf) hxs txs hnear (by simpa using hpm)
end
section
variable {P : Program} {w : World} {K : PySem.W.Frag} {mg : Str → Option Value} {base : Heap}
/-- rings are fewer than 2,001, by the walk without near -/
def RingFew (S : Snd) : Prop := ∃ ns : List Nat, ns.Pairwise (· < ·) ∧ (∀ x, x ∈ ns ↔ S.Reach x) ∧ (ns.map fun b => (S.ringsU (fun t => decide (b < t)) b S.n [] b [b]).length).sum ≤ 2000
def sp_rings_of (K : PySem.W.Frag) : Sp := fun vs H Q _ => ∃ (v : V) (S : Snd) (nk nh : Nat), vs = [v] ∧ AtS H v S nk nh ∧ RingFew S ∧
  ∀ p H' xs (rs : List (List Nat)), Same H H' → H p = none → H' p = some (.lst xs) → TDs H' xs (rs.map dN) → rs.length ≤ 2000 → (∀ r b, S.IsRing r b → r ∈ rs) → Q (.ref p) H'
/-! ### rings_of -/
/- 0 sender, 1 out, 2 found, 3 place -/
theorem sc_rings_of : FnScope ["sender", "out", "found", "place"] ["sender"] (defScope (topS 16)) := ⟨rfl, rfl, rfl, by decide +kernel, rfl, by decide +kernel, by decide +kernel⟩
theorem cl_rings_of (T : Top K mg) : Cl P w K mg base 3 "rings_of" (sp_rings_of K) := by
  refine cl_of (k := 2) (N := ["sender", "out", "found", "place"]) (ps := ["sender"]) (T.def_ 9 rfl) sc_rings_of (fun vs H Q E h => ?_) (fun _ _ _ _ _ _ us hl => match us, hl with | [_], _ => rfl) (fun f cdv A outer s H vs Q E hr h => ?_)
  · obtain ⟨v, S, nk, nh, rfl, hS, ⟨ns, hns1, hns2, hns3⟩, q⟩ := h
    rfl
  · obtain ⟨v, S, nk, nh, rfl, hS, ⟨ns, hns1, hns2, hns3⟩, q⟩ := h
    have hu := hu_of hr
    have hu65 := hu65_of hr
    have hu64 := hr.units
    refine ⟨_, (pss_cons (ps_par (i := 1) (j := 2) rfl sc_rings_of.nd rfl rfl (by decide) rfl rfl (pa_cons (pe_cl (k := 1) (j := 2) (cl_arrows_from T) hr (by decide) (by rfl) (pa_cons (pv 0) pa_nil)) (pa_cons (pe_lst pa_nil) pa_nil)) (by rfl))
  (pss_cons (ps_for PassesOwn.never rfl (pi_tup (pe_cl (k := 2) (j := 2) (cl_come_to T) hr (by decide) (by rfl) (pa_cons (pv 0) pa_nil))) (pg_name (i := 3) sc_rings_of.nd rfl (.inl rfl))
  (pss_cons (ps_expr (pe_bm PySem.F.plainAttrs_list PySem.F.slot_list_extend PySem.F.type_list_extend mt_extend (pv 2) (pa_cons (pe_cl (k := 2) (j := 2) (cl_rings_from T) hr (by decide) (by rfl) (pa_cons (pv 0) (pa_cons (pv 1) (pa_cons (pv 3) pa_nil)))) pa_nil)))
  (pss_one (ps_if (pt_cmpR op_gt (pe_callB (call_lenK K) (by rfl) (T.b 0 rfl) PySem.boot_len (pa_cons (pv 2) pa_nil)) (pe_glob (v := .int 2000) (by rfl) T.most.choose_spec ⟨_, rfl⟩) (nomark _)) (pss_one ps_never) pss_nil))))
  (pss_one (ps_ret (pe_callB (cr_sortedTs hu64) (by rfl) (T.b 6 rfl) (by decide +kernel) (pa_cons (pv 2) pa_nil)))))), ?_⟩
    walk_at "rds"
    refine ⟨v, S, nk, nh, rfl, hS, fun O qs H1 s1 hO nO => ?_⟩
    walk_at "rds"
    refine ⟨sz_ok (by simp), fun F nF => ?_⟩
    generalize eH : upd _ F _ = H2
    obtain ⟨s2, hF⟩ := new_of eH nF
    walk_at "rds"
    refine ⟨v, S, nk, nh, rfl, hS.le (Same.le (s1.trans s2)), fun C H3 ns' s3 hC hasc hall => ?_⟩
    obtain rfl : ns' = ns := asc_ext hasc hns1 fun x => (hall x).trans (hns2 x).symm
    refine ⟨C, rfl, ⟨_, SqT.of hC⟩, ?_⟩
    refine forw (walk_tup (xs := ns'.map nI)) (fun j σ H4 => ∃ (xs : List V) (rs : List (List Nat)) (y3 : Option V), σ = [some v, some (.ref O), some (.ref F), y3] ∧ Same H1 H4 ∧ H4 C = some (.tup (ns'.map nI)) ∧ H4 F = some (.lst xs) ∧ TDs H4 xs (rs.map dN) ∧
        rs.length ≤ ((ns'.take j).map fun b => (S.ringsU (fun t => decide (b < t)) b S.n [] b [b]).length).sum ∧ (∀ r ∈ rs, r ≠ []) ∧ ∀ r, ∀ b ∈ ns'.take j, S.IsRing r b → r ∈ rs)
      ⟨[], [], none, rfl, s2.trans s3, hC, s3 _ _ hF, .nil, Nat.zero_le _, (fun r hr => absurd hr List.not_mem_nil), (fun r b hb => absurd hb List.not_mem_nil)⟩ (fun j σ H4 _ pv => ?_) (fun j x σ H4 H5 hj pv y => ?_) (fun σ H4 pv => ?_)
    · obtain ⟨_, _, _, _, _, c, _⟩ := pv
      exact SqT.of c
    · obtain ⟨xs, rs, y3, rfl, s4, hC4, hF4, tF4, hlen, hne, hmem⟩ := pv
      obtain ⟨rfl, f1⟩ := y
      obtain ⟨jl, rfl⟩ := nI_at f1
      have tk : ns'.take (j + 1) = ns'.take j ++ [ns'[j]] := by rw [List.take_add_one, List.getElem?_eq_getElem jl]; rfl
      have hr : S.Reach ns'[j] := (hall _).mp (List.getElem_mem jl)
      have hle : ((ns'.take (j + 1)).map fun b => (S.ringsU (fun t => decide (b < t)) b S.n [] b [b]).length).sum ≤ 2000 := by
        refine Nat.le_trans ?_ hns3
        have e := List.take_append_drop (j + 1) ns'
        conv => rhs; rw [← e]
        rw [List.map_append, List.sum_append]
        exact Nat.le_add_right _ _
      rw [tk] at hle ⊢
      generalize ns'[j] = b at hr hle
      rw [List.map_append, List.sum_append, List.map_singleton, List.sum_singleton] at hle
      walk_at "rds"
      refine ⟨tyL hF4, ?_⟩
      walk_at "rds"
      refine ⟨v, S, nk, nh, b, O, qs, rfl, hS.le (Same.le (s1.trans s4)), hO.same s4, hr.lt hS.ok, by omega, fun p H6 xs2 rs2 near s6 np hp tp hnear hperm => ?_⟩
      have hl2 : rs2.length ≤ (S.ringsU (fun t => decide (b < t)) b S.n [] b [b]).length := by
        rw [hperm.length_eq]
        exact Snd.rings_mono S _ _ b (fun t ht hm => by
          have h1 := hnear.least t (by simpa using hm)
          simp
          omega) S.n [] b [b]
      have l1 : xs.length = rs.length := by rw [tF4.length, List.length_map]
      have l2 : xs2.length = rs2.length := by rw [tp.length, List.length_map]
      walk_at "rds"
      refine rd_extend (s6 _ _ hF4) hp (by omega) fun H7 b7 e7 => ?_
      walk_at "rds"
      refine rd_lenL e7 ?_
      walk_at "rds"
      refine ite3 (fun hc => ?_) (fun hc => ?_)
      · exfalso
        have := of_decide_eq_true hc
        rw [List.length_append] at this
        omega
      walk_at "rds"
      have le7 := b7.le (s6 _ _ hF4)
      refine ⟨xs ++ xs2, rs ++ rs2, _, rfl, Same.but (s4.trans s6) b7 nF, le7 _ _ (s6 _ _ hC4), e7, ?_, ?_, ?_, ?_⟩
      · rw [List.map_append]
        exact ((tF4.le (Same.le s6)).le le7).append (tp.le le7)
      · rw [List.length_append, List.map_append, List.sum_append, List.map_singleton, List.sum_singleton]
        omega
      · intro r hr
        rcases List.mem_append.mp hr with z | z
        · exact hne r z
        · exact Snd.rings_ne S _ b S.n [] b [b] r (hperm.mem_iff.mp z)
      · intro r c hc hR
        rcases List.mem_append.mp hc with z | z
        · exact List.mem_append_left _ (hmem r c z hR)
        · rw [List.mem_singleton.mp z] at hR
          exact List.mem_append_right _ (hperm.mem_iff.mpr (hR.found hS.ok hnear))
    · obtain ⟨xs, rs, y3, rfl, s4, hC4, hF4, tF4, hlen, hne, hmem⟩ := pv
      rw [List.length_map, List.take_length] at hlen
      walk_at "rds"
      refine ⟨F, xs, _, rfl, SqL.of hF4, tF4, ?_, fun xs' p px np => ?_⟩
      · rw [dN_dI]
        exact sortOk_ints fun r hr => by
          obtain ⟨t, ht, rfl⟩ := List.mem_map.mp hr
          intro z
          exact hne t ht (List.map_eq_nil_iff.mp z)
      · generalize eH5 : upd _ p _ = H5
        obtain ⟨s5, h5⟩ := new_of eH5 np
        obtain ⟨ds', pd, td'⟩ := (tF4.le (Same.le s5)).perm px
        have hds : ∃ rs' : List (List Nat), rs'.Perm rs ∧ ds' = rs'.map dN := by
          obtain ⟨l', p1, p2⟩ := L2.perm_lift dN pd rs rfl
          exact ⟨l', p1, p2.symm⟩
        obtain ⟨rs', pr, rfl⟩ := hds
        exact q p H5 xs' rs' (s1.trans (s4.trans s5)) (s1.free (s4.free np)) h5 td' (by rw [pr.length_eq]; omega) fun r b hR => pr.mem_iff.mpr (hmem r b (by rw [List.length_map, List.take_length]; exact (hall b).mpr hR.reach) hR)
end
section
variable {P : Program} {w : World} {K : PySem.W.Frag} {mg : Str → Option Value} {base : Heap}
theorem cutV_from (xs : List V) (a : Nat) : cutV xs (some (a : Int)) none = xs.drop a := by
  unfold cutV
  rw [HT.sIx_none, HT.sIx_nat]
  rcases Nat.le_total a xs.length with h | h
  · rw [Nat.min_eq_left h, List.take_of_length_le (by rw [List.length_drop]; omega)]
  · rw [Nat.min_eq_right h, List.drop_of_length_le h, List.drop_length]
    simp
theorem cutV_to (xs : List V) (a : Nat) : cutV xs none (some (a : Int)) = xs.take a := by
  unfold cutV
  rw [HT.sIx_none, HT.sIx_nat, List.drop_zero, Nat.sub_zero]
  rcases Nat.le_total a xs.length with h | h
  · rw [Nat.min_eq_left h]
  · rw [Nat.min_eq_right h, List.take_of_length_le h, List.take_length]
theorem cutV_butLast (xs : List V) : cutV xs none (some (-1)) = xs.dropLast := by
  unfold cutV
  have e : HT.sIx xs.length xs.length (some (-1)) = xs.length - 1 := by
    show (if (-1 : Int) < 0 then ((-1 : Int) + (xs.length : Int)).toNat else min (-1 : Int).toNat xs.length) = _
    rw [if_pos (by decide)]
    omega
  rw [HT.sIx_none, e, List.drop_zero, Nat.sub_zero, List.dropLast_eq_take]
theorem rd_slL {K : PySem.W.Frag} {H : Hp} {Q : VK} {a : Addr} {xs ys : List V} {lo hi : Option Int} (h : H a = some (.lst xs)) (e : cutV xs lo hi = ys) (q : ∀ p H1, H p = none → Same H H1 → H1 p = some (.lst ys) → Q (.ref p) H1) : rSlL K (.ref a) lo hi H Q :=
  ⟨a, xs, rfl, SqL.of h, rd_new (R := fun p H1 => Q (.ref p) H1) fun p H1 np s hp => q p H1 np s (by rw [hp, e])⟩
theorem rd_cat {H : Hp} {Q : VK} {a b : Addr} {xs ys : List V} (h : H a = some (.lst xs)) (h2 : H b = some (.lst ys)) (l : xs.length + ys.length ≤ 16000000) (q : ∀ p H1, H p = none → Same H H1 → H1 p = some (.lst (xs ++ ys)) → Q (.ref p) H1) : rCat (.ref a) (.ref b) H Q :=
  ⟨a, b, xs, ys, rfl, rfl, h, h2, sz_ok l, rd_new (R := fun p H1 => Q (.ref p) H1) q⟩
theorem rd_tupL {K : PySem.W.Frag} {H : Hp} {Q : VK} {a : Addr} {xs : List V} (h : H a = some (.lst xs)) (q : ∀ p H1, H p = none → Same H H1 → H1 p = some (.tup xs) → Q (.ref p) H1) : rTupOf K [.ref a] H Q :=
  ⟨a, xs, rfl, .inl ⟨SqL.of h, rd_new (R := fun p H1 => Q (.ref p) H1) q⟩⟩
theorem rd_minN {K : PySem.W.Frag} {H : Hp} {Q : VK} {a : Addr} {ns : List Nat} (h : H a = some (.lst (ns.map nI))) (hne : ns ≠ []) (q : Q (.int ((leastN ns : Nat) : Int)) H) : rMin K [.ref a] H Q := by
  refine ⟨a, ns.map fun (i : Nat) => (i : Int), rfl, SqL.of (by rw [h, List.map_map]; rfl), ?_, fun m hm hle => ?_⟩
  · rw [List.length_map]
    exact List.length_pos_iff.mpr hne
  · obtain ⟨i, hi, rfl⟩ := List.mem_map.mp hm
    have e : leastN ns = i := leastN_eq hi fun y hy => by
      have := hle (y : Int) (List.mem_map.mpr ⟨y, hy, rfl⟩)
      omega
    rw [← e]
    exact q
theorem eqV_nI (i j : Nat) : eqV (nI i) (nI j) = decide (i = j) := by
  show ((i : Int) == (j : Int)) = decide (i = j)
  by_cases h : i = j
  · simp [h]
  · have : ¬ (i : Int) = (j : Int) := by omega
    simp [h, this]
theorem rd_indexN {K : PySem.W.Frag} {H : Hp} {Q : VK} {a : Addr} {ns : List Nat} {x : Nat} (h : H a = some (.lst (ns.map nI))) (hx : x ∈ ns) (q : Q (.int ((ns.idxOf x : Nat) : Int)) H) : rIndex K (.ref a) [.int (x : Int)] H Q := by
  have hl := List.idxOf_lt_length_iff.mpr hx
  refine ⟨a, ns.map nI, nI x, ns.idxOf x, nI x, rfl, rfl, SqL.of h, rfl, flat_nI ns, ?_, ?_, fun m z' hm hz => ?_, q⟩
  · rw [List.getElem?_map, List.getElem?_eq_getElem hl, List.getElem_idxOf]
    rfl
  · rw [eqV_nI]
    exact decide_eq_true rfl
  · obtain ⟨hm', e⟩ := map_at hz
    rw [e, eqV_nI]
    refine decide_eq_false fun z => ?_
    have := List.not_of_lt_findIdx (p := fun y => y == x) (xs := ns) (i := m) hm
    simp [z] at this
/-- the sources of some arrows: a map -/
theorem srcs (S : Snd) (way : List Nat) : (List.range way.length).map (fun i => nI (S.src (way.getD i 0))) = (way.map S.src).map nI := by
  rw [map_range_getD way 0 (fun i => nI (S.src i)), List.map_map]
  rfl
def sp_turned_ring (K : PySem.W.Frag) : Sp := fun vs H Q _ => ∃ (v : V) (S : Snd) (nk nh : Nat) (a : Addr) (way : List Nat), vs = [v, .ref a] ∧ AtS H v S nk nh ∧ H a = some (.lst (way.map nI)) ∧ way ≠ [] ∧ (∀ i ∈ way, i < S.arrows.length) ∧ way.length ≤ 1000 ∧
  ∀ p H', Same H H' → H p = none → H' p = some (.tup ((S.turn way).map nI)) → Q (.ref p) H'
/-! ### turned_ring -/
/- 0 sender*, 1 way, 2 places, 3 begin, 4 index' -/
theorem sc_turned_ring : FnScope ["sender", "way", "places", "begin", "index"] ["sender", "way"] (defScope (topS 25)) := ⟨rfl, rfl, rfl, by decide +kernel, rfl, by decide +kernel, by decide +kernel⟩
theorem cl_turned_ring (T : Top K mg) : Cl P w K mg base 1 "turned_ring" (sp_turned_ring K) := by
  refine cl_of (k := 0) (N := ["sender", "way", "places", "begin", "index"]) (ps := ["sender", "way"]) (T.def_ 17 rfl) sc_turned_ring (fun vs H Q E h => ?_) (fun _ _ _ _ _ _ us hl => match us, hl with | [_, _], _ => rfl) (fun f cdv A outer s H vs Q E hr h => ?_)
  · obtain ⟨v, S, nk, nh, a, way, rfl, hS, hW, hne, hlt, hlen, q⟩ := h
    rfl
  · obtain ⟨v, S, nk, nh, a, way, rfl, hS, hW, hne, hlt, hlen, q⟩ := h
    have hu := hu_of hr
    have hu65 := hu65_of hr
    have hu64 := hr.units
    refine ⟨_, (pss_cons (ps_setLc (i := 2) (own := [("index", 4)]) (g := gName 4) rfl sc_turned_ring.nd rfl rfl (sw_true rfl rfl rfl (by decide +kernel)) (pi_list (pv 1)) (blkOk_by (N := ["sender", "way", "places", "begin", "index"]) (sc := defScope (topS 25)) (by decide +kernel)) (fun _ _ _ _ _ => (pg_name (i := 4) sc_turned_ring.nd rfl (.inl rfl))) (fun _ _ _ _ _ => pts_nil) (fun _ _ _ _ _ => (pe_ix (ix_tupK K) (pe_ix (ix_tupK K) (pe_ix (ix_tupK K) (pv 0) pe_int (fun _ _ => rfl)) (pv 4) (fun _ _ => rfl)) pe_int (fun _ _ => rfl))))
  (pss_cons (ps_set (i := 3) sc_turned_ring.nd rfl (.inl rfl) (pe_bm PySem.F.plainAttrs_list PySem.F.slot_list_index PySem.F.type_list_index (mt_indexK K) (pv 2) (pa_cons (pe_callB (cr_minK' K rfl) (by rfl) (T.b 3 rfl) (by decide +kernel) (pa_cons (pv 2) pa_nil)) pa_nil)))
  (pss_one (ps_ret (pe_callTy (call_tupleK K) (by rfl) (T.b 7 rfl) (by decide +kernel) (pa_cons (pe_op op_cat (pe_slice (sl_listK K) (pv 1) (po_some (pv 3)) po_none) (pe_slice (sl_listK K) (pv 1) po_none (po_some (pv 3)))) pa_nil)))))), ?_⟩
    walk_at "rds"
    refine ⟨a, rfl, ⟨_, SqL.of hW⟩, fun D nD => ?_⟩
    refine lcwM walk_list (fun i => nI (S.src (way.getD i 0))) (by simp; omega) nD (fun H1 s1 => SqL.of (s1 _ _ hW)) (fun i x H1 H2 Q' hi s1 y q' => ?_) (fun H1 s1 hD => ?_)
    · obtain ⟨rfl, f1⟩ := y
      obtain ⟨i1, rfl⟩ := nI_at f1
      have il := hlt _ (List.getElem_mem i1)
      walk_at "rds"
      refine ⟨rfl, ?_⟩
      walk_at "rds"
      refine rd_ixT (j := 1) (hS.le (Same.le s1)).td rfl rfl fun w1 h1 => ?_
      walk_at "rds"
      refine rd_ixT h1 rfl (Snd.dat il) fun w2 h2 => ?_
      walk_at "rds"
      refine rd_ixT (j := 0) h2 rfl rfl fun w3 h3 => ?_
      obtain rfl := h3.int_eq
      have e : way.getD i 0 = way[i] := by simp [List.getD_eq_getElem?_getD, i1]
      rw [e] at q'
      exact q' _ (Same.refl _)
    · rw [List.length_map, srcs] at hD
      have hne' : way.map S.src ≠ [] := fun e => hne (List.map_eq_nil_iff.mp e)
      walk_at "rds"
      refine ⟨tyL hD, ?_⟩
      walk_at "rds"
      refine rd_minN hD hne' ?_
      walk_at "rds"
      refine rd_indexN hD (leastN_mem hne').1 ?_
      walk_at "rds"
      refine rd_slL (s1 _ _ hW) (cutV_from _ _) fun p1 H2 n2 s2 h2 => ?_
      walk_at "rds"
      refine rd_slL ((s1.trans s2) _ _ hW) (cutV_to _ _) fun p2 H3 n3 s3 h3 => ?_
      walk_at "rds"
      refine rd_cat (s3 _ _ h2) h3 ?_ fun p3 H4 n4 s4 h4 => ?_
      · simp
        omega
      walk_at "rds"
      refine rd_tupL h4 fun p5 H5 n5 s5 h5 => ?_
      refine q p5 H5 (s1.trans (s2.trans (s3.trans (s4.trans s5)))) ((s1.trans (s2.trans (s3.trans s4))).free n5) ?_
      rw [h5, ← List.map_drop, ← List.map_take, ← List.map_append]
      rfl
/-- the outcome of grown -/
def GrowAt (H0 H : Hp) (p : Addr) (g : List Nat × Option (List Nat)) : Prop := ∃ l v, H p = some (.tup [.ref l, v]) ∧ H0 l = none ∧ H l = some (.lst (g.1.map nI)) ∧ ((g.2 = none ∧ v = .non) ∨ ∃ r b, g.2 = some r ∧ v = .ref b ∧ H b = some (.tup (r.map nI)))
def sp_grown (K : PySem.W.Frag) : Sp := fun vs H Q _ => ∃ (v : V) (S : Snd) (nk nh : Nat) (a : Addr) (path : List Nat) (i : Nat), vs = [v, .ref a, nI i] ∧ AtS H v S nk nh ∧ H a = some (.lst (path.map nI)) ∧ (∀ i ∈ path, i < S.arrows.length) ∧ i < S.arrows.length ∧ path.length ≤ 900 ∧
  ∀ p H', Same H H' → GrowAt H H' p (S.grow path i) → Q (.ref p) H'
/-! ### grown -/
/- 0 sender*, 1 path, 2 index, 3 target, 4 longer, 5 sources, 6 begin, 7 one' -/
theorem sc_grown : FnScope ["sender", "path", "index", "target", "longer", "sources", "begin", "one"] ["sender", "path", "index"] (defScope (topS 27)) := ⟨rfl, rfl, rfl, by decide +kernel, rfl, by decide +kernel, by decide +kernel⟩
theorem cl_grown (T : Top K mg) : Cl P w K mg base 2 "grown" (sp_grown K) := by
  refine cl_of (k := 1) (N := ["sender", "path", "index", "target", "longer", "sources", "begin", "one"]) (ps := ["sender", "path", "index"]) (T.def_ 18 rfl) sc_grown (fun vs H Q E h => ?_) (fun _ _ _ _ _ _ us hl => match us, hl with | [_, _, _], _ => rfl) (fun f cdv A outer s H vs Q E hr h => ?_)
  · obtain ⟨v, S, nk, nh, a, path, i, rfl, hS, hP, hlt, il, hlen, q⟩ := h
    rfl
  · obtain ⟨v, S, nk, nh, a, path, i, rfl, hS, hP, hlt, il, hlen, q⟩ := h
    have hu := hu_of hr
    have hu65 := hu65_of hr
    have hu64 := hr.units
    refine ⟨_, (pss_cons (ps_set (i := 3) sc_grown.nd rfl (.inl rfl) (pe_ix (ix_tupK K) (pe_ix (ix_tupK K) (pe_ix (ix_tupK K) (pv 0) pe_int (fun _ _ => rfl)) (pv 2) (fun _ _ => rfl)) pe_int (fun _ _ => rfl)))
  (pss_cons (ps_set (i := 4) sc_grown.nd rfl (.inl rfl) (pe_lst (StX.pa_star (pv 1) (pa_cons (pv 2) pa_nil))))
  (pss_cons (ps_setLc (i := 5) (own := [("one", 7)]) (g := gName 7) rfl sc_grown.nd rfl rfl (sw_true rfl rfl rfl (by decide +kernel)) (pi_list (pv 4)) (blkOk_by (N := ["sender", "path", "index", "target", "longer", "sources", "begin", "one"]) (sc := defScope (topS 27)) (by decide +kernel)) (fun _ _ _ _ _ => (pg_name (i := 7) sc_grown.nd rfl (.inl rfl))) (fun _ _ _ _ _ => pts_nil) (fun _ _ _ _ _ => (pe_ix (ix_tupK K) (pe_ix (ix_tupK K) (pe_ix (ix_tupK K) (pv 0) pe_int (fun _ _ => rfl)) (pv 7) (fun _ _ => rfl)) pe_int (fun _ _ => rfl))))
  (pss_cons (ps_if (pt_cmpR (op_notInK K) (pv 3) (pv 5) (by rfl)) (pss_one (ps_ret (pe_tup (pa_cons (pv 4) (pa_cons pe_non pa_nil))))) pss_nil)
  (pss_cons (ps_set (i := 6) sc_grown.nd rfl (.inl rfl) (pe_bm PySem.F.plainAttrs_list PySem.F.slot_list_index PySem.F.type_list_index (mt_indexK K) (pv 5) (pa_cons (pv 3) pa_nil)))
  (pss_one (ps_ret (pe_tup (pa_cons (pe_slice (sl_listK K) (pv 4) po_none (po_some (pv 6))) (pa_cons (pe_cl (k := 1) (j := 1) (cl_turned_ring T) hr (by decide) (by rfl) (pa_cons (pv 0) (pa_cons (pe_slice (sl_listK K) (pv 4) (po_some (pv 6)) po_none) pa_nil))) pa_nil)))))))))), ?_⟩
    walk_at "rds"
    refine rd_ixT (j := 1) hS.td rfl rfl fun w1 h1 => ?_
    walk_at "rds"
    refine rd_ixT h1 rfl (Snd.dat il) fun w2 h2 => ?_
    walk_at "rds"
    refine rd_ixT (j := 1) h2 rfl rfl fun w3 h3 => ?_
    obtain rfl := h3.int_eq
    walk_at "rds"
    refine ⟨a, _, rfl, .inr (SqL.of hP), ?_⟩
    walk_at "rds"
    refine ⟨sz_ok (by simp; omega), fun l nl => ?_⟩
    generalize eH1 : upd _ l _ = H1
    obtain ⟨s1, hl⟩ := new_of eH1 nl
    have hl' : H1 l = some (.lst ((path ++ [i]).map nI)) := by rw [hl, List.map_append]; rfl
    have hlt' : ∀ j ∈ path ++ [i], j < S.arrows.length := fun j hj => by
      rcases List.mem_append.mp hj with z | z
      · exact hlt j z
      · rw [List.mem_singleton.mp z]; exact il
    have hlen' : (path ++ [i]).length ≤ 1000 := by simp; omega
    have q' : ∀ p H', Same H H' → GrowAt H H' p (if S.tgt i ∈ (path ++ [i]).map S.src then ((path ++ [i]).take (((path ++ [i]).map S.src).idxOf (S.tgt i)), some (S.turn ((path ++ [i]).drop (((path ++ [i]).map S.src).idxOf (S.tgt i))))) else (path ++ [i], none)) → Q (.ref p) H' := q
    generalize path ++ [i] = longer at hl' hlt' hlen' q'
    walk_at "rds"
    refine ⟨l, rfl, ⟨_, SqL.of hl'⟩, fun D nD => ?_⟩
    refine lcwM walk_list (fun i => nI (S.src (longer.getD i 0))) (by simp; omega) nD (fun H2 s2 => SqL.of (s2 _ _ hl')) (fun j x H2 H3 Q' hj s2 y q' => ?_) (fun H2 s2 hD => ?_)
    · obtain ⟨rfl, f1⟩ := y
      obtain ⟨j1, rfl⟩ := nI_at f1
      have jl := hlt' _ (List.getElem_mem j1)
      walk_at "rds"
      refine ⟨rfl, ?_⟩
      walk_at "rds"
      refine rd_ixT (j := 1) (hS.le (Same.le (s1.trans s2))).td rfl rfl fun w1 h1 => ?_
      walk_at "rds"
      refine rd_ixT h1 rfl (Snd.dat jl) fun w2 h2 => ?_
      walk_at "rds"
      refine rd_ixT (j := 0) h2 rfl rfl fun w3 h3 => ?_
      obtain rfl := h3.int_eq
      have e : longer.getD j 0 = longer[j] := by simp [List.getD_eq_getElem?_getD, j1]
      rw [e] at q'
      exact q' _ (Same.refl _)
    · rw [List.length_map, srcs] at hD
      walk_at "rds"
      refine rd_notInL hD ?_
      walk_at "rds"
      refine ite3 (fun hc => ?_) (fun hc => ?_)
      · have hn : S.tgt i ∉ longer.map S.src := by simpa only [Bool.not_eq_true', decide_eq_false_iff_not] using hc
        rw [if_neg hn] at q'
        walk_at "rds"
        refine ⟨sz_ok (by simp), rd_new (R := fun p H1 => Q (.ref p) H1) fun p H3 np s3 hp => ?_⟩
        exact q' p H3 (s1.trans (s2.trans s3)) ⟨l, .non, hp, nl, (s2.trans s3) _ _ hl', .inl ⟨rfl, rfl⟩⟩
      · have hn : S.tgt i ∈ longer.map S.src := by simpa only [Bool.not_eq_false', decide_eq_true_eq] using hc
        rw [if_pos hn] at q'
        obtain ⟨hb, _⟩ := idxOf_map hn
        walk_at "rds"
        refine ⟨tyL hD, ?_⟩
        walk_at "rds"
        refine rd_indexN hD hn ?_
        generalize (longer.map S.src).idxOf (S.tgt i) = b at hb q'
        walk_at "rds"
        refine rd_slL (s2 _ _ hl') (cutV_to _ _) fun p3 H3 n3 s3 h3 => ?_
        walk_at "rds"
        refine rd_slL ((s2.trans s3) _ _ hl') (cutV_from _ _) fun p4 H4 n4 s4 h4 => ?_
        walk_at "rds"
        refine ⟨v, S, nk, nh, p4, longer.drop b, rfl, hS.le (Same.le (s1.trans (s2.trans (s3.trans s4)))), by rw [h4, List.map_drop], fun z => ?_, fun j hj => hlt' j (List.mem_of_mem_drop hj), ?_, fun p5 H5 s5 n5 h5 => ?_⟩
        · have := congrArg List.length z
          rw [List.length_drop] at this
          simp at this
          omega
        · rw [List.length_drop]
          omega
        walk_at "rds"
        refine ⟨sz_ok (by simp), rd_new (R := fun p H1 => Q (.ref p) H1) fun p H6 np s6 hp => ?_⟩
        exact q' p H6 (s1.trans (s2.trans (s3.trans (s4.trans (s5.trans s6))))) ⟨p3, .ref p5, hp, (s1.trans s2).free n3, (s4.trans (s5.trans s6)) _ _ (by rw [h3, List.map_take]), .inr ⟨_, p5, rfl, rfl, s6 _ _ h5⟩⟩
def dRnd (q : Nat × List Nat) : PyData := .tuple [.int (q.1 : Int), dN q.2]
/-- the outcome of cut -/
def CutAt (H : Hp) (p : Addr) (c : List (Nat × List Nat) × List Nat) : Prop := ∃ r b xs, H p = some (.tup [.ref r, .ref b]) ∧ H r = some (.lst xs) ∧ TDs H xs (c.1.map dRnd) ∧ H b = some (.tup (c.2.map nI))
def Snd.cutF (S : Snd) (run : List Nat) : List (Nat × List Nat) × List Nat := S.cutN run run.length
def sp_cut (K : PySem.W.Frag) : Sp := fun vs H Q _ => ∃ (v : V) (S : Snd) (nk nh : Nat) (a : Addr) (run : List Nat), vs = [v, .ref a] ∧ AtS H v S nk nh ∧ H a = some (.tup (run.map nI)) ∧ S.IsRun run ∧ run.length ≤ 1000 ∧
  ∀ p H', Same H H' → CutAt H' p (S.cutF run) → Q (.ref p) H'
/-! ### cut -/
/- 0 sender, 1 run, 2 path, 3 rounds, 4 index, 5 arrow, 6 ring -/
theorem sc_cut : FnScope ["sender", "run", "path", "rounds", "index", "arrow", "ring"] ["sender", "run"] (defScope (topS 28)) := ⟨rfl, rfl, rfl, by decide +kernel, rfl, by decide +kernel, by decide +kernel⟩
theorem cl_cut (T : Top K mg) : Cl P w K mg base 3 "cut" (sp_cut K) := by
  refine cl_of (k := 2) (N := ["sender", "run", "path", "rounds", "index", "arrow", "ring"]) (ps := ["sender", "run"]) (T.def_ 19 rfl) sc_cut (fun vs H Q E h => ?_) (fun _ _ _ _ _ _ us hl => match us, hl with | [_, _], _ => rfl) (fun f cdv A outer s H vs Q E hr h => ?_)
  · obtain ⟨v, S, nk, nh, a, run, rfl, hS, hR, hrun, hlen, q⟩ := h
    rfl
  · obtain ⟨v, S, nk, nh, a, run, rfl, hS, hR, hrun, hlen, q⟩ := h
    have hu := hu_of hr
    have hu65 := hu65_of hr
    have hu64 := hr.units
    refine ⟨_, (pss_cons (ps_par (i := 2) (j := 3) rfl sc_cut.nd rfl rfl (by decide) rfl rfl (pa_cons (pe_lst pa_nil) (pa_cons (pe_lst pa_nil) pa_nil)) (by rfl))
  (pss_cons (ps_for PassesOwn.never rfl (pi_enumU (by rfl) (T.b 13 rfl) (pa_cons (pv 1) pa_nil)) (pg_tup rfl (pgs_cons (pg_name (i := 4) sc_cut.nd rfl (.inl rfl)) (pgs_cons (pg_name (i := 5) sc_cut.nd rfl (.inl rfl)) pgs_nil)))
  (pss_cons (ps_asg (pe_cl (k := 2) (j := 2) (cl_grown T) hr (by decide) (by rfl) (pa_cons (pv 0) (pa_cons (pv 2) (pa_cons (pv 5) pa_nil)))) (pg_tup rfl (pgs_cons (pg_name (i := 2) sc_cut.nd rfl (.inl rfl)) (pgs_cons (pg_name (i := 6) sc_cut.nd rfl (.inl rfl)) pgs_nil))))
  (pss_one (ps_if (pt_cmpR op_notN (pv 6) pe_non (nomark _)) (pss_one (ps_expr (pe_bm PySem.F.plainAttrs_list PySem.F.slot_list_append PySem.F.type_list_append mt_append (pv 3) (pa_cons (pe_tup (pa_cons (pv 4) (pa_cons (pv 6) pa_nil))) pa_nil)))) pss_nil))))
  (pss_one (ps_ret (pe_tup (pa_cons (pv 3) (pa_cons (pe_callTy (call_tupleK K) (by rfl) (T.b 7 rfl) (by decide +kernel) (pa_cons (pv 2) pa_nil)) pa_nil))))))), ?_⟩
    have of := hS.ok.few
    have hrl : ∀ i ∈ run, i < S.arrows.length := fun i hi => hrun.choose_spec.lt i hi
    walk_at "rds"
    refine ⟨sz_ok (by simp), fun l nl => ?_⟩
    generalize eH1 : upd _ l _ = H1
    obtain ⟨s1, hl⟩ := new_of eH1 nl
    walk_at "rds"
    refine ⟨sz_ok (by simp), fun R nR => ?_⟩
    generalize eH2 : upd _ R _ = H2
    obtain ⟨s2, hRl⟩ := new_of eH2 nR
    walk_at "rds"
    refine ⟨a, _, rfl, SqT.of ((s1.trans s2) _ _ hR), ?_⟩
    refine forw (walk_enumU (xs := run.map nI)) (fun j σ H3 => ∃ (l : Addr) (xs : List V) (y4 y5 y6 : Option V), σ = [some v, some (.ref a), some (.ref l), some (.ref R), y4, y5, y6] ∧ Same H1 H3 ∧ l ≠ R ∧ H3 l = some (.lst ((S.cutN run j).2.map nI)) ∧ H3 R = some (.lst xs) ∧ TDs H3 xs ((S.cutN run j).1.map dRnd))
      ⟨l, [], none, none, none, rfl, s2, (fun e => by rw [← e, hl] at nR; cases nR), s2 _ _ hl, hRl, .nil⟩ (fun j σ H3 _ pv => ?_) (fun j x σ H3 H4 hj pv y => ?_) (fun σ H3 pv => ?_)
    · obtain ⟨_, _, _, _, _, _, s3, _⟩ := pv
      exact SqT.of ((s1.trans s3) _ _ hR)
    · obtain ⟨l, xs, y4, y5, y6, rfl, s3, nlR, hl3, hR3, tR3⟩ := pv
      obtain ⟨T, x1, x2, rfl, hT, s4, f1, f2⟩ := y
      cases f1
      obtain ⟨j1, rfl⟩ := nI_at f2
      obtain ⟨e, ci⟩ := S.cutI hrun j (by omega)
      have ils := hrl _ (List.getElem_mem j1)
      have plen := ci.path.len hS.ok
      have rlen : (S.cutN run j).1.length ≤ j := ci.few
      rw [Snd.cutN_succ j1]
      refine rd_pair hT ?_
      walk_at "rds"
      refine ⟨v, S, nk, nh, l, (S.cutN run j).2, run[j], rfl, hS.le (Same.le (s1.trans (s3.trans s4))), s4 _ _ hl3, fun i hi => ci.path.chain.lt i hi, ils, by omega, fun p H5 s5 g5 => ?_⟩
      obtain ⟨l', v', hp, nl', hl', hv'⟩ := g5
      have lR : l' ≠ R := fun z => by
        rw [z, s4 _ _ hR3] at nl'
        cases nl'
      refine rd_gtup rfl (SqT.of hp) rfl ?_
      refine rd_gcons (rd_name (rd_gcons (rd_name (rd_gnil ?_))))
      walk_at "rds"
      refine ⟨rfl, ?_⟩
      walk_at "rds"
      have hR5 := (s4.trans s5) _ _ hR3
      have tR5 := tR3.le (Same.le (s4.trans s5))
      unfold Snd.cut1
      generalize S.grow (S.cutN run j).2 run[j] = g at hl' hv' ⊢
      obtain ⟨g1, g2⟩ := g
      rcases hv' with ⟨h1, rfl⟩ | ⟨r, b, h1, rfl, hb⟩
      · change g2 = none at h1
        subst h1
        refine iteF ?_
        walk_at "rds"
        exact ⟨l', xs, _, _, _, rfl, s3.trans (s4.trans s5), lR, hl', hR5, tR5⟩
      · change g2 = some r at h1
        subst h1
        refine iteT ?_
        walk_at "rds"
        refine ⟨tyL hR5, ?_⟩
        walk_at "rds"
        refine ⟨sz_ok (by simp), fun p6 np6 => ?_⟩
        generalize eH6 : upd _ p6 _ = H6
        obtain ⟨s6, h6⟩ := new_of eH6 np6
        walk_at "rds"
        have lx := tR3.length
        rw [List.length_map] at lx
        refine rd_append (s6 _ _ hR5) (by omega) fun H7 b7 h7 => ?_
        have le7 := b7.le (s6 _ _ hR5)
        refine ⟨l', xs ++ [.ref p6], _, _, _, rfl, Same.but (s3.trans (s4.trans (s5.trans s6))) b7 nR, lR, b7 _ _ lR (s6 _ _ hl'), h7, ?_⟩
        rw [List.map_append]
        exact ((tR5.le (Same.le s6)).le le7).append (.cons (.tup (le7 _ _ h6) (.cons (.int _) (.cons (TD.nats (le7 _ _ (s6 _ _ hb))) .nil))) .nil)
    · obtain ⟨l, xs, y4, y5, y6, rfl, s3, nlR, hl3, hR3, tR3⟩ := pv
      rw [List.length_map] at hl3 tR3
      walk_at "rds"
      refine rd_tupL hl3 fun p4 H4 n4 s4 h4 => ?_
      walk_at "rds"
      refine ⟨sz_ok (by simp), rd_new (R := fun p H1 => Q (.ref p) H1) fun p H5 np s5 hp => ?_⟩
      exact q p H5 (s1.trans (s3.trans (s4.trans s5))) ⟨R, p4, xs, hp, (s4.trans s5) _ _ hR3, tR3.le (Same.le (s4.trans s5)), s5 _ _ h4⟩
/-- the sums of amounts, of hands -/
def vsum (n : Nat) (f : Nat → List Int) (is : List Nat) : List Int := (List.range n).map fun c => (is.map fun i => (f i).getD c 0).sum
theorem vsum_len (n : Nat) (f : Nat → List Int) (is : List Nat) : (vsum n f is).length = n := by simp [vsum]
theorem vsum_nil (n : Nat) (f : Nat → List Int) : vsum n f [] = List.replicate n 0 := by
  unfold vsum
  rw [List.eq_replicate_iff]
  refine ⟨by simp, fun b hb => ?_⟩
  obtain ⟨c, _, e⟩ := List.mem_map.mp hb
  exact e.symm
theorem vsum_snoc (n : Nat) (f : Nat → List Int) (is : List Nat) (i : Nat) (h : (f i).length = n) : vsum n f (is ++ [i]) = List.zipWith (· + ·) (vsum n f is) (f i) := by
  apply List.ext_getElem
  · simp [vsum, h]
  · intro c h1 h2
    simp [vsum] at h1
    have hc : c < (f i).length := by omega
    simp [vsum, List.sum_append, List.getD_eq_getElem?_getD, hc]
theorem zipAdd_range (ns ms : List Int) (d : Nat) (h1 : ns.length = d) (h2 : ms.length = d) : (List.range d).map (fun i => V.int (ns.getD i 0 + ms.getD i 0)) = (List.zipWith (· + ·) ns ms).map V.int := by
  apply List.ext_getElem
  · simp [h1, h2]
  · intro i a b
    simp at a b
    have x : i < ns.length := by omega
    have y : i < ms.length := by omega
    simp [List.getD_eq_getElem?_getD, x, y]
def sp_sum_of (K : PySem.W.Frag) : Sp := fun vs H Q _ => ∃ (a k h : Addr) (v3' v2 v3 : V) (S : Snd) (nk nh : Nat) (is : List Nat) (x1 x2 : List V), vs = [.ref a, v2, v3] ∧ H a = some (.tup [.ref k, .ref h, v3']) ∧ SqT K H k x1 ∧ SqT K H h x2 ∧ x1.length = nk ∧ x2.length = nh ∧ AtS H v2 S nk nh ∧ TD H v3 (dN is) ∧ (∀ i ∈ is, i < S.arrows.length) ∧ is.length ≤ 1000 ∧
  ∀ p H', Same H H' → TD H' (.ref p) (.tuple [dI (vsum nk S.amt is), dI (vsum nh S.crew is)]) → Q (.ref p) H'
theorem rd_ixTi {K : PySem.W.Frag} {H : Hp} {Q : VK} {p : Addr} {xs : List V} {v : V} {i : Int} {j : Nat} (h : H p = some (.tup xs)) (hi : i = (j : Int)) (hj : xs[j]? = some v) (q : Q v H) : rIxT K (.ref p) (.int i) H Q :=
  ⟨p, xs, i, v, rfl, rfl, SqT.of h, by rw [hi]; exact atI_nat hj, q⟩
/-! ### sum_of -/
/- 0 works, 1 sender, 2 indexes, 3 amounts, 4 crew, 5 index, 6 arrow, 7 kind', 8 hand', 9 many', 10 more' -/
theorem sc_sum_of : FnScope ["works", "sender", "indexes", "amounts", "crew", "index", "arrow", "kind", "hand", "many", "more"] ["works", "sender", "indexes"] (defScope (topS 17)) := ⟨rfl, rfl, rfl, by decide +kernel, rfl, by decide +kernel, by decide +kernel⟩
theorem cl_sum_of (T : Top K mg) : Cl P w K mg base 1 "sum_of" (sp_sum_of K) := by
  refine cl_of (k := 0) (N := ["works", "sender", "indexes", "amounts", "crew", "index", "arrow", "kind", "hand", "many", "more"]) (ps := ["works", "sender", "indexes"]) (T.def_ 10 rfl) sc_sum_of (fun vs H Q E h => ?_) (fun _ _ _ _ _ _ us hl => match us, hl with | [_, _, _], _ => rfl) (fun f cdv A outer s H vs Q E hr h => ?_)
  · obtain ⟨aw, kw, hw, v1', v2, v3, S, nk, nh, is, x1, x2, rfl, hW, e1, e2, l1, l2, hS, hI, hlt, hlen, q⟩ := h
    rfl
  · obtain ⟨aw, kw, hw, v1', v2, v3, S, nk, nh, is, x1, x2, rfl, hW, e1, e2, l1, l2, hS, hI, hlt, hlen, q⟩ := h
    have hu := hu_of hr
    have hu65 := hu65_of hr
    have hu64 := hr.units
    refine ⟨_, (pss_cons (ps_par (i := 3) (j := 4) rfl sc_sum_of.nd rfl rfl (by decide) rfl rfl (pa_cons (pe_lc (own := [("kind", 7)]) (g := gName 7) rfl sc_sum_of.nd  (pi_tup (pe_ix (ix_tupK K) (pv 0) pe_int (fun _ _ => rfl))) (blkOk_by (N := ["works", "sender", "indexes", "amounts", "crew", "index", "arrow", "kind", "hand", "many", "more"]) (sc := defScope (topS 17)) (by decide +kernel)) (fun _ _ _ _ _ => (pg_name (i := 7) sc_sum_of.nd rfl (.inl rfl))) (fun _ _ _ _ _ => pts_nil) (fun _ _ _ _ _ => pe_int)) (pa_cons (pe_lc (own := [("hand", 8)]) (g := gName 8) rfl sc_sum_of.nd  (pi_tup (pe_ix (ix_tupK K) (pv 0) pe_int (fun _ _ => rfl))) (blkOk_by (N := ["works", "sender", "indexes", "amounts", "crew", "index", "arrow", "kind", "hand", "many", "more"]) (sc := defScope (topS 17)) (by decide +kernel)) (fun _ _ _ _ _ => (pg_name (i := 8) sc_sum_of.nd rfl (.inl rfl))) (fun _ _ _ _ _ => pts_nil) (fun _ _ _ _ _ => pe_int)) pa_nil)) (by rfl))
  (pss_cons (ps_for PassesOwn.never rfl (pi_tup (pv 2)) (pg_name (i := 5) sc_sum_of.nd rfl (.inl rfl))
  (pss_cons (ps_set (i := 6) sc_sum_of.nd rfl (.inl rfl) (pe_ix (ix_tupK K) (pe_ix (ix_tupK K) (pv 1) pe_int (fun _ _ => rfl)) (pv 5) (fun _ _ => rfl)))
  (pss_cons (ps_setLc (i := 3) (own := [("many", 9), ("more", 10)]) (g := gTup K 2 (gCons (gName 9) (gCons (gName 10) gNil))) rfl sc_sum_of.nd rfl rfl (sw_true rfl rfl rfl (by decide +kernel)) (pi_zipLT (by rfl) (T.b 12 rfl) (pa_cons (pv 3) (pa_cons (pe_ix (ix_tupK K) (pv 6) pe_int (fun _ _ => rfl)) pa_nil))) (blkOk_by (N := ["works", "sender", "indexes", "amounts", "crew", "index", "arrow", "kind", "hand", "many", "more"]) (sc := defScope (topS 17)) (by decide +kernel)) (fun _ _ _ _ _ => (pg_tup rfl (pgs_cons (pg_name (i := 9) sc_sum_of.nd rfl (.inl rfl)) (pgs_cons (pg_name (i := 10) sc_sum_of.nd rfl (.inl rfl)) pgs_nil)))) (fun _ _ _ _ _ => pts_nil) (fun _ _ _ _ _ => (pe_op op_add (pv 9) (pv 10))))
  (pss_one (ps_setLc (i := 4) (own := [("many", 9), ("more", 10)]) (g := gTup K 2 (gCons (gName 9) (gCons (gName 10) gNil))) rfl sc_sum_of.nd rfl rfl (sw_true rfl rfl rfl (by decide +kernel)) (pi_zipLT (by rfl) (T.b 12 rfl) (pa_cons (pv 4) (pa_cons (pe_ix (ix_tupK K) (pv 6) pe_int (fun _ _ => rfl)) pa_nil))) (blkOk_by (N := ["works", "sender", "indexes", "amounts", "crew", "index", "arrow", "kind", "hand", "many", "more"]) (sc := defScope (topS 17)) (by decide +kernel)) (fun _ _ _ _ _ => (pg_tup rfl (pgs_cons (pg_name (i := 9) sc_sum_of.nd rfl (.inl rfl)) (pgs_cons (pg_name (i := 10) sc_sum_of.nd rfl (.inl rfl)) pgs_nil)))) (fun _ _ _ _ _ => pts_nil) (fun _ _ _ _ _ => (pe_op op_add (pv 9) (pv 10))))))))
  (pss_one (ps_ret (pe_tup (pa_cons (pe_callTy (call_tupleK K) (by rfl) (T.b 7 rfl) (by decide +kernel) (pa_cons (pv 3) pa_nil)) (pa_cons (pe_callTy (call_tupleK K) (by rfl) (T.b 7 rfl) (by decide +kernel) (pa_cons (pv 4) pa_nil)) pa_nil))))))), ?_⟩
    have o1 := hS.ok.nk1
    have o2 := hS.ok.nh1
    obtain ⟨a3, rfl, e3⟩ := hI.nats_inv
    walk_at "rds"
    refine rd_ixTi (j := 0) hW rfl rfl ?_
    refine ⟨kw, rfl, ⟨_, e1⟩, fun D1 nD1 => ?_⟩
    refine lcwM walk_tup (fun i => .int 0) (by omega) nD1 (fun H1 s1 => SqT.to e1 fun o ho => s1 _ _ ho) (fun i x H1 H2 Q' hi s1 y q' => ?_) (fun H1 s1 hD1 => ?_)
    · obtain ⟨rfl, f1⟩ := y
      exact ⟨rfl, q' _ (Same.refl _)⟩
    walk_at "rds"
    refine rd_ixTi (j := 1) (s1 _ _ hW) rfl rfl ?_
    have e2' := SqT.to e2 fun o ho => s1 _ _ ho
    refine ⟨hw, rfl, ⟨_, e2'⟩, fun D2 nD2 => ?_⟩
    refine lcwM walk_tup (fun i => .int 0) (by omega) nD2 (fun H2 s2 => SqT.to e2' fun o ho => s2 _ _ ho) (fun i x H2 H3 Q' hi s2 y q' => ?_) (fun H2 s2 hD2 => ?_)
    · obtain ⟨rfl, f1⟩ := y
      exact ⟨rfl, q' _ (Same.refl _)⟩
    walk_at "rds"
    have e3' : H2 a3 = some (.tup (is.map nI)) := (s1.trans s2) _ _ e3
    refine ⟨a3, rfl, ⟨_, SqT.of e3'⟩, ?_⟩
    refine forw (walk_tup (xs := is.map nI)) (fun j σ H3 => ∃ (p1 p2 : Addr) (y5 y6 y7 y8 y9 y10 : Option V), σ = [some (.ref aw), some v2, some (.ref a3), some (.ref p1), some (.ref p2), y5, y6, y7, y8, y9, y10] ∧ Same H H3 ∧ H3 p1 = some (.lst ((vsum nk S.amt (is.take j)).map V.int)) ∧ H3 p2 = some (.lst ((vsum nh S.crew (is.take j)).map V.int)))
      ⟨D1, D2, none, none, none, none, none, none, rfl, s1.trans s2, ?_, ?_⟩ (fun j σ H3 _ pv => ?_) (fun j x σ H3 H4 hj pv y => ?_) (fun σ H3 pv => ?_)
    · rw [s2 _ _ hD1, List.take_zero, vsum_nil, List.map_replicate, List.map_const', List.length_range, l1]
    · rw [hD2, List.take_zero, vsum_nil, List.map_replicate, List.map_const', List.length_range, l2]
    · obtain ⟨_, _, _, _, _, _, _, _, _, s3, _⟩ := pv
      exact SqT.of (s3 _ _ e3)
    · obtain ⟨p1, p2, y5, y6, y7, y8, y9, y10, rfl, s3, hp1, hp2⟩ := pv
      obtain ⟨rfl, f1⟩ := y
      obtain ⟨j1, rfl⟩ := nI_at f1
      have il := hlt _ (List.getElem_mem j1)
      have tk : is.take (j + 1) = is.take j ++ [is[j]] := by rw [List.take_add_one, List.getElem?_eq_getElem j1]; rfl
      obtain ⟨_, _, lk, lh⟩ := hS.ok.lt il
      rw [tk, vsum_snoc _ _ _ _ lk, vsum_snoc _ _ _ _ lh]
      generalize is[j] = i at il lk lh
      have n1 := vsum_len nk S.amt (is.take j)
      have n2 := vsum_len nh S.crew (is.take j)
      generalize vsum nk S.amt (is.take j) = u1 at hp1 n1 ⊢
      generalize vsum nh S.crew (is.take j) = u2 at hp2 n2 ⊢
      walk_at "rds"
      refine rd_ixT (j := 1) (hS.le (Same.le s3)).td rfl rfl fun w1 h1 => ?_
      walk_at "rds"
      refine rd_ixT h1 rfl (Snd.dat il) fun w2 h2 => ?_
      walk_at "rds"
      refine rd_ixT (j := 2) h2 rfl rfl fun w3 h3 => ?_
      obtain ⟨b3, rfl, hb3⟩ := h3.ints_inv
      walk_at "rds"
      refine ⟨p1, b3, _, _, rfl, SqL.of hp1, SqT.of hb3, fun D3 nD3 => ?_⟩
      refine lcwM walk_zipU (fun c => .int (u1.getD c 0 + (S.amt i).getD c 0)) (by simp; omega) nD3 (fun H5 s5 => ⟨SqL.of (s5 _ _ hp1), SqT.of (s5 _ _ hb3)⟩) (fun c x H5 H6 Q' hc s5 y q' => ?_) (fun H5 s5 hD3 => ?_)
      · obtain ⟨T, x, z, rfl, hT, s6, f1, f2⟩ := y
        obtain ⟨i1, rfl⟩ := map_at f1
        obtain ⟨i2, rfl⟩ := map_at f2
        refine rd_pair hT ⟨rfl, ?_⟩
        walk_at "rds"
        have e : u1[c] + (S.amt i)[c] = u1.getD c 0 + (S.amt i).getD c 0 := by simp [List.getD_eq_getElem?_getD, i1, i2]
        rw [e]
        exact q' H6 s6
      rw [List.length_map, List.length_map, n1, lk, Nat.min_self, zipAdd_range u1 (S.amt i) nk n1 lk] at hD3
      walk_at "rds"
      refine rd_ixT (j := 3) (h2.le (Same.le s5)) rfl rfl fun w4 h4 => ?_
      obtain ⟨b4, rfl, hb4⟩ := h4.ints_inv
      walk_at "rds"
      have hp2' := s5 _ _ hp2
      refine ⟨p2, b4, _, _, rfl, SqL.of hp2', SqT.of hb4, fun D4 nD4 => ?_⟩
      refine lcwM walk_zipU (fun c => .int (u2.getD c 0 + (S.crew i).getD c 0)) (by simp; omega) nD4 (fun H6 s6 => ⟨SqL.of (s6 _ _ hp2'), SqT.of (s6 _ _ hb4)⟩) (fun c x H6 H7 Q' hc s6 y q' => ?_) (fun H6 s6 hD4 => ?_)
      · obtain ⟨T, x, z, rfl, hT, s7, f1, f2⟩ := y
        obtain ⟨i1, rfl⟩ := map_at f1
        obtain ⟨i2, rfl⟩ := map_at f2
        refine rd_pair hT ⟨rfl, ?_⟩
        walk_at "rds"
        have e : u2[c] + (S.crew i)[c] = u2.getD c 0 + (S.crew i).getD c 0 := by simp [List.getD_eq_getElem?_getD, i1, i2]
        rw [e]
        exact q' H7 s7
      rw [List.length_map, List.length_map, n2, lh, Nat.min_self, zipAdd_range u2 (S.crew i) nh n2 lh] at hD4
      walk_at "rds"
      exact ⟨D3, D4, _, _, _, _, _, _, rfl, s3.trans (s5.trans s6), s6 _ _ hD3, hD4⟩
    · obtain ⟨p1, p2, y5, y6, y7, y8, y9, y10, rfl, s3, hp1, hp2⟩ := pv
      rw [List.length_map, List.take_length] at hp1 hp2
      walk_at "rds"
      refine rd_tupL hp1 fun p4 H4 n4 s4 h4 => ?_
      walk_at "rds"
      refine rd_tupL (s4 _ _ hp2) fun p5 H5 n5 s5 h5 => ?_
      walk_at "rds"
      refine ⟨sz_ok (by simp), rd_new (R := fun p H1 => Q (.ref p) H1) fun p H6 np s6 hp => ?_⟩
      exact q p H6 (s3.trans (s4.trans (s5.trans s6))) (.tup hp (.cons (TD.ints ((s5.trans s6) _ _ h4)) (.cons (TD.ints (s6 _ _ h5)) .nil)))
end
section
variable {P : Program} {w : World} {K : PySem.W.Frag} {mg : Str → Option Value} {base : Heap}
/-- a row of sums: the best sums of the chains of k arrows -/
structure RowK (S : Snd) (t : Tar) (k : Nat) (kvs : List (Key × V)) : Prop where
  at_ : ∀ key x, valV kvs key = some x → ∃ (v : Nat) (i : Int) (w : List Nat), key = .inl (v : Int) ∧ x = .int i ∧ S.Chain 0 w v ∧ w.length = k ∧ S.gain t w = i
  all : ∀ w v, S.Chain 0 w v → w.length = k → ∃ i, valV kvs (.inl ((v : Nat) : Int)) = some (.int i) ∧ S.gain t w ≤ i
structure LedI (S : Snd) (t : Tar) (kvs : List (Key × V)) (j : Nat) (kvs' : List (Key × V)) : Prop where
  at_ : ∀ key x, valV kvs' key = some x → ∃ (i : Nat) (g : Int), i < S.arrows.length ∧ valV kvs (.inl (S.src i : Int)) = some (.int g) ∧ key = .inl (S.tgt i : Int) ∧ x = .int (g + S.gain1 t i)
  all : ∀ i, i < j → ∀ g, valV kvs (.inl (S.src i : Int)) = some (.int g) → ∃ y, valV kvs' (.inl (S.tgt i : Int)) = some (.int y) ∧ g + S.gain1 t i ≤ y
  len : kvs'.length ≤ j
theorem LedI.init (S : Snd) (t : Tar) (kvs : List (Key × V)) : LedI S t kvs 0 [] := ⟨(fun key x h => by rw [valV_nil] at h; cases h), fun i hi => absurd hi (Nat.not_lt_zero _), Nat.le_refl _⟩
theorem LedI.skip {S : Snd} {t : Tar} {kvs kvs' : List (Key × V)} {j : Nat} (c : LedI S t kvs j kvs') (h : ∀ g, valV kvs (.inl (S.src j : Int)) = some (.int g) → ∃ y, valV kvs' (.inl (S.tgt j : Int)) = some (.int y) ∧ g + S.gain1 t j ≤ y) : LedI S t kvs (j + 1) kvs' :=
  ⟨c.at_, fun i hi g hg => by
    rcases Nat.lt_or_ge i j with z | z
    · exact c.all i z g hg
    · have e : i = j := by omega
      subst e
      exact h g hg, Nat.le_succ_of_le c.len⟩
theorem LedI.put {S : Snd} {t : Tar} {kvs kvs' : List (Key × V)} {j : Nat} {g : Int} (c : LedI S t kvs j kvs') (hj : j < S.arrows.length) (hg : valV kvs (.inl (S.src j : Int)) = some (.int g)) (h : ∀ y, valV kvs' (.inl (S.tgt j : Int)) = some (.int y) → y ≤ g + S.gain1 t j) :
    LedI S t kvs (j + 1) (putK kvs' (.inl (S.tgt j : Int)) (.int (g + S.gain1 t j))) := by
  refine ⟨fun key x hx => ?_, fun i hi g' hg' => ?_, ?_⟩
  · rw [valV_put] at hx
    by_cases e : key = .inl (S.tgt j : Int)
    · rw [if_pos e] at hx
      cases hx
      exact ⟨j, g, hj, hg, e, rfl⟩
    · rw [if_neg e] at hx
      exact c.at_ key x hx
  · rw [valV_put]
    by_cases e : (Sum.inl (S.tgt i : Int) : Key) = .inl (S.tgt j : Int)
    · rw [if_pos e]
      refine ⟨_, rfl, ?_⟩
      rcases Nat.lt_or_ge i j with z | z
      · obtain ⟨y, h1, h2⟩ := c.all i z g' hg'
        rw [e] at h1
        exact Int.le_trans h2 (h y h1)
      · have e : i = j := by omega
        subst e
        rw [hg] at hg'
        cases hg'
        exact Int.le_refl _
    · rw [if_neg e]
      rcases Nat.lt_or_ge i j with z | z
      · exact c.all i z g' hg'
      · have e2 : i = j := by omega
        subst e2
        exact absurd rfl e
  · have := length_putK kvs' (.inl (S.tgt j : Int)) (.int (g + S.gain1 t j))
    have := c.len
    omega
theorem LedI.row {S : Snd} {t : Tar} {k : Nat} {kvs kvs' : List (Key × V)} (r : RowK S t k kvs) (c : LedI S t kvs S.arrows.length kvs') : RowK S t (k + 1) kvs' := by
  refine ⟨fun key x hx => ?_, fun w v hc hl => ?_⟩
  · obtain ⟨i, g, hi, hg, rfl, rfl⟩ := c.at_ key x hx
    obtain ⟨v, i', w, e1, e2, hc, hl, hw⟩ := r.at_ _ _ hg
    cases e2
    have ev : S.src i = v := by
      have := Sum.inl.inj e1
      omega
    refine ⟨S.tgt i, _, w ++ [i], rfl, rfl, hc.snoc hi ev, by simp [hl], ?_⟩
    rw [Snd.gain_app, Snd.gain_one, hw]
  · obtain ⟨w', i, rfl⟩ := last_of (xs := w) (fun z => by rw [z] at hl; cases hl)
    obtain ⟨q, c1, h1, h2, h3⟩ := hc.split
    have e3 : S.tgt i = v := h3
    obtain ⟨g, hg, hle⟩ := r.all w' q c1 (by simpa using hl)
    rw [← h2] at hg
    obtain ⟨y, hy, hle2⟩ := c.all i h1 g hg
    rw [e3] at hy
    refine ⟨y, hy, ?_⟩
    rw [Snd.gain_app, Snd.gain_one]
    omega
def sp_led_once (K : PySem.W.Frag) : Sp := fun vs H Q _ => ∃ (v1 : V) (S : Snd) (t : Tar) (nk nh k : Nat) (g d : Addr) (kvs : List (Key × V)), vs = [v1, .ref g, .ref d] ∧ AtS H v1 S nk nh ∧ H g = some (.lst ((List.range S.arrows.length).map fun i => V.int (S.gain1 t i))) ∧ H d = some (.dK kvs) ∧ RowK S t k kvs ∧
  ∀ p H' kvs', Same H H' → H p = none → H' p = some (.dK kvs') → RowK S t (k + 1) kvs' → kvs'.length ≤ 10 → Q (.ref p) H'
/-! ### led_once -/
/- 0 sender, 1 gains, 2 sums, 3 found, 4 index, 5 arrow, 6 reached -/
theorem sc_led_once : FnScope ["sender", "gains", "sums", "found", "index", "arrow", "reached"] ["sender", "gains", "sums"] (defScope (topS 22)) := ⟨rfl, rfl, rfl, by decide +kernel, rfl, by decide +kernel, by decide +kernel⟩
theorem cl_led_once (T : Top K mg) : Cl P w K mg base 1 "led_once" (sp_led_once K) := by
  refine cl_of (k := 0) (N := ["sender", "gains", "sums", "found", "index", "arrow", "reached"]) (ps := ["sender", "gains", "sums"]) (T.def_ 14 rfl) sc_led_once (fun vs H Q E h => ?_) (fun _ _ _ _ _ _ us hl => match us, hl with | [_, _, _], _ => rfl) (fun f cdv A outer s H vs Q E hr h => ?_)
  · obtain ⟨v1, S, t, nk, nh, k, g, d, kvs, rfl, hS, hG, hD, hR, q⟩ := h
    rfl
  · obtain ⟨v1, S, t, nk, nh, k, g, d, kvs, rfl, hS, hG, hD, hR, q⟩ := h
    have hu := hu_of hr
    have hu65 := hu65_of hr
    have hu64 := hr.units
    refine ⟨_, (pss_cons (ps_set (i := 3) sc_led_once.nd rfl (.inl rfl) pe_dnewK)
  (pss_cons (ps_for PassesOwn.never rfl (pi_enumU (by rfl) (T.b 13 rfl) (pa_cons (pe_ix (ix_tupK K) (pv 0) pe_int (fun _ _ => rfl)) pa_nil)) (pg_tup rfl (pgs_cons (pg_name (i := 4) sc_led_once.nd rfl (.inl rfl)) (pgs_cons (pg_name (i := 5) sc_led_once.nd rfl (.inl rfl)) pgs_nil)))
  (pss_one (ps_if (pt_cmp (pc_din hu (pe_ix (ix_tupK K) (pv 5) pe_int (fun _ _ => rfl)) (pv 2)) (by rfl)) (pss_cons (ps_set (i := 6) sc_led_once.nd rfl (.inl rfl) (pe_op op_add (pe_dget hu (pv 2) (pe_ix (ix_tupK K) (pv 5) pe_int (fun _ _ => rfl)) (fun _ _ => rfl)) (pe_ix (ix_listK K) (pv 1) (pv 4) (fun _ _ => rfl))))
  (pss_one (ps_if (PW.pt (pw_or (pt_cmp (pc_dnotin hu (pe_ix (ix_tupK K) (pv 5) pe_int (fun _ _ => rfl)) (pv 3)) (by rfl)) (pw_or1 (pt_cmpR op_lt (pe_dget hu (pv 3) (pe_ix (ix_tupK K) (pv 5) pe_int (fun _ _ => rfl)) (fun _ _ => rfl)) (pv 6) (nomark _))))) (pss_one (ps_dput hu (pv 3) (pe_ix (ix_tupK K) (pv 5) pe_int (fun _ _ => rfl)) (pv 6) rfl)) pss_nil))) pss_nil)))
  (pss_one (ps_ret (pv 3))))), ?_⟩
    have om := hS.ok.many
    walk_at "rds"
    intro F nF
    generalize eH1 : upd _ F _ = H1
    obtain ⟨s1, hF⟩ := new_of eH1 nF
    walk_at "rds"
    refine rd_ixT (j := 1) (hS.le (Same.le s1)).td rfl rfl fun w1 h1 => ?_
    obtain ⟨a1, xs1, rfl, hA⟩ := AtA.of h1
    have l1 := hA.len
    walk_at "rds"
    refine ⟨a1, xs1, rfl, SqT.of hA.at_, ?_⟩
    refine forw (walk_enumU (xs := xs1)) (fun j σ H2 => ∃ (kvs' : List (Key × V)) (y4 y5 y6 : Option V), σ = [some v1, some (.ref g), some (.ref d), some (.ref F), y4, y5, y6] ∧ Same H H2 ∧ AtA H2 a1 xs1 S ∧ H2 F = some (.dK kvs') ∧ LedI S t kvs j kvs')
      ⟨[], none, none, none, rfl, s1, hA, hF, LedI.init S t kvs⟩ (fun j σ H2 _ pv => ?_) (fun j x σ H2 H3 hj pv y => ?_) (fun σ H2 pv => ?_)
    · obtain ⟨_, _, _, _, _, _, hA2, _⟩ := pv
      exact SqT.of hA2.at_
    · obtain ⟨kvs', y4, y5, y6, rfl, s2, hA2, hF2, ci⟩ := pv
      obtain ⟨T, x1, x2, rfl, hT, s3, f1, f2⟩ := y
      cases f1
      have hA3 := hA2.le (Same.le s3)
      obtain ⟨il, hx⟩ := hA3.get f2
      have hF3 := s3 _ _ hF2
      have hD3 := (s2.trans s3) _ _ hD
      have hG3 := (s2.trans s3) _ _ hG
      have cl := ci.len
      refine rd_pair hT ?_
      walk_at "rds"
      refine rd_ixT (j := 0) hx rfl rfl fun w1 h1 => ?_
      obtain rfl := h1.int_eq
      walk_at "rds"
      refine ⟨d, _, rfl, DGet.i (.inl hD3) _, ?_⟩
      walk_at "rds"
      refine ite3 (fun hc => ?_) (fun hc => ?_)
      · obtain ⟨x, hx1⟩ := Option.isSome_iff_exists.mp hc
        obtain ⟨_, gv, _, _, rfl, _⟩ := hR.at_ _ _ hx1
        walk_at "rds"
        refine rd_ixT (j := 0) hx rfl rfl fun w1 h1 => ?_
        obtain rfl := h1.int_eq
        refine ⟨d, .int gv, rfl, by rw [← hx1]; exact DGet.i (.inl hD3) _, ?_⟩
        walk_at "rds"
        refine rd_ixL (j := j) (SqL.of hG3) rfl (by rw [List.getElem?_map, List.getElem?_range il]; rfl) ?_
        walk_at "rds"
        refine rd_ixT (j := 1) hx rfl rfl fun w1 h1 => ?_
        obtain rfl := h1.int_eq
        walk_at "rds"
        refine ⟨F, _, rfl, DGet.i (.inl hF3) _, ?_⟩
        have put : ∀ (h : ∀ y, valV kvs' (.inl (S.tgt j : Int)) = some (.int y) → y ≤ gv + S.gain1 t j) (y4 y5 : Option V), ∃ (kvs'' : List (Key × V)) (y4' y5' y6' : Option V), [some v1, some (V.ref g), some (V.ref d), some (V.ref F), y4, y5, some (V.int (gv + S.gain1 t j))] = [some v1, some (V.ref g), some (V.ref d), some (V.ref F), y4', y5', y6'] ∧
            Same H (upd H3 F (.dK (putK kvs' (.inl (S.tgt j : Int)) (.int (gv + S.gain1 t j))))) ∧ AtA (upd H3 F (.dK (putK kvs' (.inl (S.tgt j : Int)) (.int (gv + S.gain1 t j))))) a1 xs1 S ∧ (upd H3 F (.dK (putK kvs' (.inl (S.tgt j : Int)) (.int (gv + S.gain1 t j))))) F = some (.dK kvs'') ∧ LedI S t kvs (j + 1) kvs'' :=
          fun h y4 y5 => ⟨_, _, _, _, rfl, Same.mut (s2.trans s3) nF, hA3.le (Le.dK (Le.refl _) hF3), upd_same, ci.put il hx1 h⟩
        walk_at "rds"
        refine ite3 (fun hc2 => ?_) (fun hc2 => ?_)
        · have hn : valV kvs' (.inl (S.tgt j : Int)) = none := by simpa using hc2
          refine iteT ?_
          walk_at "rds"
          refine rd_ixT (j := 1) hx rfl rfl fun w1 h1 => ?_
          obtain rfl := h1.int_eq
          refine ⟨F, _, rfl, DPut.k (k := .inl (S.tgt j : Int)) hF3 (sz_lt (by omega)), ?_⟩
          exact put (fun y hy => by rw [hn] at hy; cases hy) _ _
        · have hs : (valV kvs' (.inl (S.tgt j : Int))).isSome = true := by simpa using hc2
          obtain ⟨y, hy⟩ := Option.isSome_iff_exists.mp hs
          obtain ⟨i', g', _, _, _, rfl⟩ := ci.at_ _ _ hy
          walk_at "rds"
          refine rd_ixT (j := 1) hx rfl rfl fun w1 h1 => ?_
          obtain rfl := h1.int_eq
          refine ⟨F, _, rfl, by rw [← hy]; exact DGet.i (.inl hF3) _, ?_⟩
          walk_at "rds"
          refine ite3 (fun hc3 => ?_) (fun hc3 => ?_)
          · have hlt := of_decide_eq_true hc3
            walk_at "rds"
            refine rd_ixT (j := 1) hx rfl rfl fun w1 h1 => ?_
            obtain rfl := h1.int_eq
            refine ⟨F, _, rfl, DPut.k (k := .inl (S.tgt j : Int)) hF3 (sz_lt (by omega)), ?_⟩
            exact put (fun y' hy' => by rw [hy] at hy'; cases hy'; omega) _ _
          · have hge := of_decide_eq_false hc3
            walk_at "rds"
            exact ⟨kvs', _, _, _, rfl, s2.trans s3, hA3, hF3, ci.skip fun g2 hg2 => ⟨_, hy, by rw [hx1] at hg2; cases hg2; omega⟩⟩
      · have hn : valV kvs (.inl (S.src j : Int)) = none := by simpa using hc
        walk_at "rds"
        exact ⟨kvs', _, _, _, rfl, s2.trans s3, hA3, hF3, ci.skip fun g2 hg2 => by rw [hn] at hg2; cases hg2⟩
    · obtain ⟨kvs', y4, y5, y6, rfl, s2, hA2, hF2, ci⟩ := pv
      rw [l1] at ci
      walk_at "rds"
      exact q F H2 kvs' s2 nF hF2 (ci.row hR) (Nat.le_trans ci.len om)
end
section
variable {P : Program} {w : World} {K : PySem.W.Frag} {mg : Str → Option Value} {base : Heap}
theorem Snd.BackLe.mono {S : Snd} {t : Tar} {n v : Nat} {g f : Int × Int} (h : S.BackLe t n v g) (hg : 0 < g.2) (hf : 0 < f.2) (hle : g.1 * f.2 ≤ f.1 * g.2) : S.BackLe t n v f := by
  obtain ⟨k, x, y, hk, hx, hy, h1⟩ := h
  refine ⟨k, x, y, hk, hx, hy, ?_⟩
  have hn : (0 : Int) ≤ (n : Int) - (k : Int) := by omega
  generalize (n : Int) - (k : Int) = d at *
  have a1 := Int.mul_le_mul_of_nonneg_right h1 (Int.le_of_lt hf)
  have a2 := Int.mul_le_mul_of_nonneg_right hle hn
  refine Int.le_of_mul_le_mul_right (a := g.2) ?_ hg
  calc (x - y) * f.2 * g.2 = (x - y) * g.2 * f.2 := by rw [Int.mul_assoc, Int.mul_comm f.2, ← Int.mul_assoc]
    _ ≤ g.1 * d * f.2 := a1
    _ = g.1 * f.2 * d := by rw [Int.mul_assoc, Int.mul_comm d, ← Int.mul_assoc]
    _ ≤ f.1 * g.2 * d := a2
    _ = f.1 * d * g.2 := by rw [Int.mul_assoc, Int.mul_comm g.2, ← Int.mul_assoc]
/-- the rows: one dict for each number of arrows from 0 to n -/
structure Rows (H : Hp) (r : Addr) (ds : List Addr) (S : Snd) (t : Tar) (n : Nat) : Prop where
  at_ : H r = some (.lst (ds.map V.ref))
  len : ds.length = n + 1
  row : ∀ (k : Nat) (d : Addr), ds[k]? = some d → ∃ kvs, Rd H d (.dK kvs) ∧ RowK S t k kvs
theorem Rows.same {H H' : Hp} {r : Addr} {ds : List Addr} {S : Snd} {t : Tar} {n : Nat} (h : Rows H r ds S t n) (e : Same H H') : Rows H' r ds S t n :=
  ⟨e _ _ h.at_, h.len, fun k d hd => by
    obtain ⟨kvs, h1, h2⟩ := h.row k d hd
    refine ⟨kvs, ?_, h2⟩
    rcases h1 with h1 | ⟨o, h1⟩
    · exact .inl (e _ _ h1)
    · exact .inr ⟨o, e _ _ h1⟩⟩
theorem rd_ixLast {K : PySem.W.Frag} {H : Hp} {Q : VK} {r : Addr} {ds : List Addr} {n : Nat} {d : Addr} (h : H r = some (.lst (ds.map V.ref))) (hl : ds.length = n + 1) (hd : ds[n]? = some d) (q : Q (.ref d) H) : rIxL K (.ref r) (.int (-1)) H Q := by
  have e : ds.map V.ref = (ds.take n).map V.ref ++ [.ref d] := by
    have : ds = ds.take n ++ [d] := by
      conv => lhs; rw [← List.take_length (l := ds), hl, List.take_add_one, hd]
      rfl
    conv => lhs; rw [this]
    rw [List.map_append]
    rfl
  refine ⟨r, _, -1, .ref d, rfl, rfl, SqL.of h, ?_, q⟩
  rw [e]
  exact atI_last _ _
/-- None, or the mean that is found -/
def MeanAt (H : Hp) (v : V) (R : Option (Int × Int) → Prop) : Prop := (v = .non ∧ R none) ∨ ∃ p f, v = .ref p ∧ TD H (.ref p) (dF f) ∧ 0 < f.2 ∧ f.2 < 1000000 ∧ R (some f)
theorem MeanAt.le {H H' : Hp} {v : V} {R : Option (Int × Int) → Prop} (h : MeanAt H v R) (e : Le H H') : MeanAt H' v R := by
  rcases h with h | ⟨p, f, h1, h2, h3⟩
  · exact .inl h
  · exact .inr ⟨p, f, h1, h2.le e, h3⟩
def sp_least_mean_back (K : PySem.W.Frag) : Sp := fun vs H Q _ => ∃ (r : Addr) (v n : Nat) (ds : List Addr) (S : Snd) (t : Tar), vs = [.ref r, .int (v : Int)] ∧ Rows H r ds S t n ∧ n ≤ 1000 ∧ (∃ w, S.Chain 0 w v ∧ w.length = n) ∧ (∃ w, S.Chain 0 w v ∧ w.length < n) ∧
  ∀ p H' f, Same H H' → TD H' (.ref p) (dF f) → 0 < f.2 → f.2 < 1000000 → S.BackLe t n v f → Q (.ref p) H'
/-! ### least_mean_back -/
/- 0 rows, 1 place, 2 last, 3 found, 4 length, 5 sums, 6 mean -/
theorem sc_least_mean_back : FnScope ["rows", "place", "last", "found", "length", "sums", "mean"] ["rows", "place"] (defScope (topS 23)) := ⟨rfl, rfl, rfl, by decide +kernel, rfl, by decide +kernel, by decide +kernel⟩
theorem cl_least_mean_back (T : Top K mg) : Cl P w K mg base 3 "least_mean_back" (sp_least_mean_back K) := by
  refine cl_of (k := 2) (N := ["rows", "place", "last", "found", "length", "sums", "mean"]) (ps := ["rows", "place"]) (T.def_ 15 rfl) sc_least_mean_back (fun vs H Q E h => ?_) (fun _ _ _ _ _ _ us hl => match us, hl with | [_, _], _ => rfl) (fun f cdv A outer s H vs Q E hr h => ?_)
  · obtain ⟨r, v, n, ds, S, t, rfl, hR, hn, hw, hw0, q⟩ := h
    rfl
  · obtain ⟨r, v, n, ds, S, t, rfl, hR, hn, hw, hw0, q⟩ := h
    have hu := hu_of hr
    have hu65 := hu65_of hr
    have hu64 := hr.units
    refine ⟨_, (pss_cons (ps_par (i := 2) (j := 3) rfl sc_least_mean_back.nd rfl rfl (by decide) rfl rfl (pa_cons (pe_op op_sub (pe_callB (call_lenK K) (by rfl) (T.b 0 rfl) PySem.boot_len (pa_cons (pv 0) pa_nil)) pe_int) (pa_cons pe_non pa_nil)) (by rfl))
  (pss_cons (ps_for PassesOwn.never rfl (pi_enum (by rfl) (T.b 13 rfl) (pa_cons (pe_slice (sl_listK K) (pv 0) po_none (po_some (pe_un un_neg pe_int))) pa_nil)) (pg_tup rfl (pgs_cons (pg_name (i := 4) sc_least_mean_back.nd rfl (.inl rfl)) (pgs_cons (pg_name (i := 5) sc_least_mean_back.nd rfl (.inl rfl)) pgs_nil)))
  (pss_one (ps_if (pt_cmp (pc_din hu (pv 1) (pv 5)) (by rfl)) (pss_cons (ps_set (i := 6) sc_least_mean_back.nd rfl (.inl rfl) (pe_cl (k := 2) (j := 2) (cl_lowest T) hr (by decide) (by rfl) (pa_cons (pe_op op_sub (pe_dget hu (pe_ix (ix_listK K) (pv 0) (pe_un un_neg pe_int) (fun _ _ => rfl)) (pv 1) (fun _ _ => rfl)) (pe_dget hu (pv 5) (pv 1) (fun _ _ => rfl))) (pa_cons (pe_op op_sub (pv 2) (pv 4)) pa_nil))))
  (pss_one (ps_if (PW.pt (pw_or (pt_cmpR op_isN (pv 3) pe_non (nomark _)) (pw_or1 (pt_val (pe_cl (k := 1) (j := 2) (cl_is_above T) hr (by decide) (by rfl) (pa_cons (pv 3) (pa_cons (pv 6) pa_nil))))))) (pss_one (ps_set (i := 3) sc_least_mean_back.nd rfl (.inl rfl) (pv 6))) pss_nil))) pss_nil)))
  (pss_one (ps_ret (pv 3))))), ?_⟩
    have dl : n < ds.length := by rw [hR.len]; omega
    have dn : ds[n]? = some ds[n] := List.getElem?_eq_getElem dl
    obtain ⟨kn, hkn, hrn⟩ := hR.row n _ dn
    obtain ⟨w, hc, hl⟩ := hw
    obtain ⟨xn, hxn, _⟩ := hrn.all w v hc hl
    have hmax : ∀ w, S.Chain 0 w v → w.length = n → S.gain t w ≤ xn := fun w' hc' hl' => by
      obtain ⟨x, h1, h2⟩ := hrn.all w' v hc' hl'
      rw [hxn] at h1
      cases h1
      exact h2
    walk_at "rds"
    refine rd_lenL hR.at_ ?_
    walk_at "rds"
    refine rd_slL hR.at_ (cutV_butLast _) fun p1 H1 n1 s1 h1 => ?_
    walk_at "rds"
    refine ⟨p1, _, rfl, SqL.of h1, ?_⟩
    have dlen : (ds.map V.ref).dropLast.length = n := by rw [List.length_dropLast, List.length_map, hR.len]; rfl
    refine forw (walk_enumL (xs := (ds.map V.ref).dropLast)) (fun j σ H2 => ∃ (y3 : V) (y4 y5 y6 : Option V), σ = [some (.ref r), some (.int (v : Int)), some (.int ((ds.map V.ref).length - 1)), some y3, y4, y5, y6] ∧ Same H1 H2 ∧
        MeanAt H2 y3 fun o => match o with
          | none => ∀ w, S.Chain 0 w v → ¬ w.length < j
          | some f => S.BackLe t n v f)
      ⟨.non, none, none, none, rfl, Same.refl _, .inl ⟨rfl, fun w _ => Nat.not_lt_zero _⟩⟩ (fun j σ H2 _ pv => ?_) (fun j x σ H2 H3 hj pv y => ?_) (fun σ H2 pv => ?_)
    · obtain ⟨_, _, _, _, _, s2, _⟩ := pv
      exact SqL.of (s2 _ _ h1)
    · obtain ⟨y3, y4, y5, y6, rfl, s2, hm⟩ := pv
      obtain ⟨T, x1, x2, rfl, hT, s3, f1, f2⟩ := y
      cases f1
      have hj' : j < n := by omega
      have jl : j < ds.length := by omega
      have e2 : x2 = .ref ds[j] := by
        have z : (ds.map V.ref)[j]? = some x2 := by
          have f3 : (ds.map V.ref).dropLast[j]? = some x2 := f2
          rw [List.dropLast_eq_take, List.getElem?_take_of_lt (show j < (ds.map V.ref).length - 1 by rw [List.length_map]; omega)] at f3
          exact f3
        rw [List.getElem?_map, List.getElem?_eq_getElem jl] at z
        exact (Option.some.inj z).symm
      subst e2
      have s03 := s1.trans (s2.trans s3)
      have hR3 := hR.same s03
      obtain ⟨kj, hkj, hrj⟩ := hR3.row j _ (List.getElem?_eq_getElem jl)
      refine rd_pair hT ?_
      walk_at "rds"
      refine ⟨_, _, rfl, DGet.i hkj _, ?_⟩
      walk_at "rds"
      refine ite3 (fun hc => ?_) (fun hc => ?_)
      · obtain ⟨x, hx1⟩ := Option.isSome_iff_exists.mp hc
        obtain ⟨v', y, w', e1, rfl, hc', hl', hg'⟩ := hrj.at_ _ _ hx1
        have ev : v = v' := by
          have := Sum.inl.inj e1
          omega
        subst ev
        walk_at "rds"
        refine rd_ixLast hR3.at_ hR3.len dn ?_
        walk_at "rds"
        obtain ⟨kn', hkn', hrn'⟩ := hR3.row n _ dn
        have hxn' : valV kn' (.inl (v : Int)) = some (.int xn) := by
          obtain ⟨x', h1, h2⟩ := hrn'.all w v ‹_› hl
          have hsame : Rd H3 ds[n] (.dK kn) := by
            rcases hkn with z | ⟨o, z⟩
            · exact .inl (s03 _ _ z)
            · exact .inr ⟨o, s03 _ _ z⟩
          have : kn' = kn := by
            rcases hkn' with a | ⟨o, a⟩ <;> rcases hsame with b | ⟨o', b⟩ <;> rw [a] at b <;> cases b <;> rfl
          rw [this]
          exact hxn
        refine ⟨_, .int xn, rfl, by rw [← hxn']; exact DGet.i hkn' _, ?_⟩
        walk_at "rds"
        refine ⟨_, .int y, rfl, by rw [← hx1]; exact DGet.i hkj _, ?_⟩
        walk_at "rds"
        have ej : ((ds.map V.ref).length : Int) - 1 - (j : Int) = (n : Int) - (j : Int) := by
          rw [List.length_map, hR.len]
          omega
        rw [ej]
        refine ⟨_, _, rfl, by omega, by omega, fun p H4 a b s4 hp b1 b2 b3 => ?_⟩
        walk_at "rds"
        have hb : S.BackLe t n v (a, b) := ⟨j, xn, y, hj', hmax, ⟨w', hc', hl', hg'⟩, by show (xn - y) * b ≤ a * _; rw [b3]; exact Int.le_refl _⟩
        have hp' : TD H4 (.ref p) (dF (a, b)) := TD.ints (ns := [a, b]) hp
        have b4 : b < 1000000 := by omega
        have hm4 := hm.le (Same.le (s3.trans s4))
        rcases hm4 with ⟨rfl, h0⟩ | ⟨p0, f0, rfl, hf0, hf1, hf2, hf3⟩
        · refine ⟨rfl, ?_⟩
          walk_at "rds"
          refine iteT ?_
          refine iteT ?_
          walk_at "rds"
          exact ⟨_, _, _, _, rfl, s2.trans (s3.trans s4), .inr ⟨p, (a, b), rfl, hp', b1, b4, hb⟩⟩
        · refine ⟨rfl, ?_⟩
          walk_at "rds"
          refine iteF ?_
          walk_at "rds"
          refine ⟨_, _, f0, (a, b), rfl, hf0, hp', ⟨hf1, hf2⟩, ⟨b1, b4⟩, ?_⟩
          walk_at "rds"
          refine ite3 (fun hc => ?_) (fun hc => ?_)
          · walk_at "rds"
            exact ⟨_, _, _, _, rfl, s2.trans (s3.trans s4), .inr ⟨p, (a, b), rfl, hp', b1, b4, hb⟩⟩
          · walk_at "rds"
            exact ⟨_, _, _, _, rfl, s2.trans (s3.trans s4), .inr ⟨p0, f0, rfl, hf0, hf1, hf2, hf3⟩⟩
      · have hno : valV kj (.inl (v : Int)) = none := by simpa using hc
        walk_at "rds"
        refine ⟨_, _, _, _, rfl, s2.trans s3, ?_⟩
        rcases hm.le (Same.le s3) with ⟨rfl, h0⟩ | h0
        · refine .inl ⟨rfl, fun w' hc' hl' => ?_⟩
          rcases Nat.lt_or_ge w'.length j with z | z
          · exact h0 w' hc' z
          · obtain ⟨x', h1, h2⟩ := hrj.all w' v hc' (by omega)
            rw [hno] at h1
            cases h1
        · exact .inr h0
    · obtain ⟨y3, y4, y5, y6, rfl, s2, hm⟩ := pv
      rw [dlen] at hm
      walk_at "rds"
      rcases hm with ⟨rfl, h0⟩ | ⟨p0, f0, rfl, hf0, hf1, hf2, hf3⟩
      · obtain ⟨w0, hc0, hl0⟩ := hw0
        exact absurd hl0 (h0 w0 hc0)
      · exact q p0 H2 f0 (s1.trans s2) hf0 hf1 hf2 hf3
def sp_greatest_mean (K : PySem.W.Frag) : Sp := fun vs H Q _ => ∃ (v1 v2 : V) (S : Snd) (t : Tar) (nk nh : Nat), vs = [v1, v2] ∧ AtS H v1 S nk nh ∧ TD H v2 (dTar t) ∧ t.Ok nk nh ∧
  ∀ v H', Same H H' → MeanAt H' v (fun o => ∀ f, o = some f → ∀ r b, S.IsRing r b → S.gain t r * f.2 ≤ f.1 * (r.length : Int)) → Q v H'
theorem rowK0 (S : Snd) (t : Tar) : RowK S t 0 [(.inl 0, .int 0)] := by
  refine ⟨fun key x h => ?_, fun w v hc hl => ?_⟩
  · by_cases e : key = .inl 0
    · subst e
      rw [valV_pos rfl] at h
      cases h
      exact ⟨0, 0, [], rfl, rfl, rfl, rfl, rfl⟩
    · rw [valV_neg (fun z => e z.symm), valV_nil] at h
      cases h
  · have e : w = [] := List.length_eq_zero_iff.mp hl
    subst e
    have e2 : v = 0 := hc.symm
    subst e2
    exact ⟨0, valV_pos rfl, by simp [Snd.gain]⟩
/-! ### greatest_mean -/
/- 0 sender, 1 tariff, 2 gains, 3 rows, 4 turn, 5 found, 6 place, 7 mean -/
theorem sc_greatest_mean : FnScope ["sender", "tariff", "gains", "rows", "turn", "found", "place", "mean"] ["sender", "tariff"] (defScope (topS 24)) := ⟨rfl, rfl, rfl, by decide +kernel, rfl, by decide +kernel, by decide +kernel⟩
theorem cl_greatest_mean (T : Top K mg) : Cl P w K mg base 5 "greatest_mean" (sp_greatest_mean K) := by
  refine cl_of (k := 4) (N := ["sender", "tariff", "gains", "rows", "turn", "found", "place", "mean"]) (ps := ["sender", "tariff"]) (T.def_ 16 rfl) sc_greatest_mean (fun vs H Q E h => ?_) (fun _ _ _ _ _ _ us hl => match us, hl with | [_, _], _ => rfl) (fun f cdv A outer s H vs Q E hr h => ?_)
  · obtain ⟨v1, v2, S, t, nk, nh, rfl, hS, hT, hTo, q⟩ := h
    rfl
  · obtain ⟨v1, v2, S, t, nk, nh, rfl, hS, hT, hTo, q⟩ := h
    have hu := hu_of hr
    have hu65 := hu65_of hr
    have hu64 := hr.units
    refine ⟨_, (pss_cons (ps_par (i := 2) (j := 3) rfl sc_greatest_mean.nd rfl rfl (by decide) rfl rfl (pa_cons (pe_cl (k := 4) (j := 4) (cl_gains_by T) hr (by decide) (by rfl) (pa_cons (pv 0) (pa_cons (pv 1) pa_nil))) (pa_cons (pe_lst (pa_cons (pe_disp (pps_cons pe_int pe_int pps_nil) rfl rfl (by intro z; cases z) (by decide)) pa_nil)) pa_nil)) (by rfl))
  (pss_cons (ps_for PassesOwn.never rfl (pi_range1 (by rfl) (T.b 1 rfl) (pa_cons (pe_callB (call_lenK K) (by rfl) (T.b 0 rfl) PySem.boot_len (pa_cons (pe_cl (k := 2) (j := 4) (cl_come_to T) hr (by decide) (by rfl) (pa_cons (pv 0) pa_nil)) pa_nil)) pa_nil)) (pg_name (i := 4) sc_greatest_mean.nd rfl (.inl rfl))
  (pss_one (ps_expr (pe_bm PySem.F.plainAttrs_list PySem.F.slot_list_append PySem.F.type_list_append mt_append (pv 3) (pa_cons (pe_cl (k := 1) (j := 4) (cl_led_once T) hr (by decide) (by rfl) (pa_cons (pv 0) (pa_cons (pv 2) (pa_cons (pe_ix (ix_listK K) (pv 3) (pe_un un_neg pe_int) (fun _ _ => rfl)) pa_nil)))) pa_nil)))))
  (pss_cons (ps_set (i := 5) sc_greatest_mean.nd rfl (.inl rfl) pe_non)
  (pss_cons (ps_lock (ps_for PassesOwn.never rfl (pi_keys (pe_ix (ix_listK K) (pv 3) (pe_un un_neg pe_int) (fun _ _ => rfl))) (pg_name (i := 6) sc_greatest_mean.nd rfl (.inl rfl))
  (pss_cons (ps_set (i := 7) sc_greatest_mean.nd rfl (.inl rfl) (pe_cl (k := 3) (j := 4) (cl_least_mean_back T) hr (by decide) (by rfl) (pa_cons (pv 3) (pa_cons (pv 6) pa_nil))))
  (pss_one (ps_if (PW.pt (pw_or (pt_cmpR op_isN (pv 5) pe_non (nomark _)) (pw_or1 (pt_val (pe_cl (k := 1) (j := 4) (cl_is_above T) hr (by decide) (by rfl) (pa_cons (pv 7) (pa_cons (pv 5) pa_nil))))))) (pss_one (ps_set (i := 5) sc_greatest_mean.nd rfl (.inl rfl) (pv 7))) pss_nil)))))
  (pss_one (ps_ret (pv 5))))))), ?_⟩
    have om := hS.ok.few
    walk_at "rds"
    refine ⟨v1, v2, S, t, nk, nh, rfl, hS, hT, hTo, fun g H1 s1 ng hg => ?_⟩
    walk_at "rds"
    intro d0 nd0
    refine ⟨upd_same, [(.inl 0, .int 0)], rfl, by decide, ?_⟩
    generalize eH2 : upd (upd H1 d0 _) d0 _ = H2
    have s2 : Same H1 H2 := by rw [← eH2]; exact Same.mut (Same.new (Same.refl H1) nd0) nd0
    have hd0 : H2 d0 = some (.dK [(.inl 0, .int 0)]) := by rw [← eH2]; exact upd_same
    walk_at "rds"
    refine ⟨sz_ok (by simp), fun r nr => ?_⟩
    generalize eH3 : upd _ r _ = H3
    obtain ⟨s3, hr⟩ := new_of eH3 nr
    have nr0 : H r = none := (s1.trans s2).free nr
    have nd0' : H d0 = none := s1.free nd0
    have ne0 : d0 ≠ r := fun z => by rw [z, nr] at hd0; cases hd0
    walk_at "rds"
    refine ⟨v1, S, nk, nh, rfl, hS.le (Same.le (s1.trans (s2.trans s3))), fun c H4 ns s4 hc hasc hall => ?_⟩
    walk_at "rds"
    refine rd_lenT hc ?_
    have hnl : ns.length ≤ 6 := Nat.le_trans (nodup_lt S.n ns (hasc.imp fun h => Nat.ne_of_lt h) fun x hx => ((hall x).mp hx).lt hS.ok) om
    rw [List.length_map]
    refine ⟨_, rfl, by omega, by omega, ?_⟩
    have s04 := s1.trans (s2.trans (s3.trans s4))
    have hg4 := (s2.trans (s3.trans s4)) _ _ hg
    refine forw walk_range0 (fun j σ H5 => ∃ (ds : List Addr) (y4 : Option V), σ = [some v1, some v2, some (.ref g), some (.ref r), y4, none, none, none] ∧ Same H H5 ∧ H5 g = some (.lst ((List.range S.arrows.length).map fun i => V.int (S.gain1 t i))) ∧
        H5 r = some (.lst (ds.map V.ref)) ∧ ds.length = j + 1 ∧ ∀ (k : Nat) (d : Addr), ds[k]? = some d → H d = none ∧ d ≠ r ∧ ∃ kvs, H5 d = some (.dK kvs) ∧ RowK S t k kvs)
      ⟨[d0], none, rfl, s04, hg4, s4 _ _ hr, rfl, fun k d hd => ?_⟩ (fun _ _ _ _ _ => trivial) (fun j x σ H5 H6 hj pv y => ?_) (fun σ H5 pv => ?_)
    · cases k with
      | zero =>
        cases hd
        exact ⟨nd0', ne0, _, (s3.trans s4) _ _ hd0, rowK0 S t⟩
      | succ k => cases hd
    · obtain ⟨ds, y4, rfl, s5, hg5, hr5, hdl, hrow⟩ := pv
      obtain ⟨rfl, rfl⟩ := y
      have jl : j < ds.length := by omega
      obtain ⟨_, _, kvs, hk1, hk2⟩ := hrow j _ (List.getElem?_eq_getElem jl)
      have hrg : r ≠ g := ne_of (hr5) hg5 (fun z => by
        have z1 := congrArg List.length (HO.lst.inj z)
        have z2 := congrArg (fun l : List V => l[0]?) (HO.lst.inj z)
        simp at z1 z2
        rw [List.getElem?_eq_getElem (show 0 < ds.length by omega)] at z2
        simp at z2
        cases h : (List.range S.arrows.length)[0]? with
        | none => rw [h] at z2; cases z2
        | some a => rw [h] at z2; cases z2)
      walk_at "rds"
      refine ⟨tyL hr5, ?_⟩
      walk_at "rds"
      refine rd_ixLast hr5 hdl (List.getElem?_eq_getElem jl) ?_
      walk_at "rds"
      refine ⟨v1, S, t, nk, nh, j, g, ds[j], kvs, rfl, hS.le (Same.le s5), hg5, hk1, hk2, fun p H7 kvs' s7 np hp hk' hkl => ?_⟩
      walk_at "rds"
      refine rd_append (s7 _ _ hr5) (by rw [List.length_map]; omega) fun H8 b8 h8 => ?_
      have npr : p ≠ r := fun z => by rw [z, hr5] at np; cases np
      refine ⟨ds ++ [p], _, rfl, Same.but (s5.trans s7) b8 nr0, b8 _ _ hrg.symm (s7 _ _ hg5), by rw [h8, List.map_append]; rfl, by simp [hdl], fun k d hd => ?_⟩
      rcases Nat.lt_or_ge k ds.length with z | z
      · rw [List.getElem?_append_left z] at hd
        obtain ⟨a, b, kv, c1, c2⟩ := hrow k d hd
        exact ⟨a, b, kv, b8 _ _ b (s7 _ _ c1), c2⟩
      · rw [List.getElem?_append_right z] at hd
        have ek : k = ds.length := by
          rcases Nat.eq_or_lt_of_le z with z | z
          · exact z.symm
          · rw [List.getElem?_eq_none (by simp; omega)] at hd
            cases hd
        subst ek
        rw [Nat.sub_self] at hd
        cases hd
        exact ⟨s5.free np, npr, kvs', b8 _ _ npr hp, by rw [hdl]; exact hk'⟩
    · obtain ⟨ds, y4, rfl, s5, hg5, hr5, hdl, hrow⟩ := pv
      have en : ((ns.length : Nat) : Int).toNat = ns.length := by omega
      rw [en] at hdl
      have nl : ns.length < ds.length := by omega
      have dn : ds[ns.length]? = some ds[ns.length] := List.getElem?_eq_getElem nl
      obtain ⟨nd, ndr, kvs, hk1, hk2⟩ := hrow _ _ dn
      walk_at "rds"
      refine rd_lock hk1 trivial fun od => ?_
      generalize eH6 : upd H5 _ (HO.frz _ _) = H6
      have b6 : But ds[ns.length] H5 H6 := by rw [← eH6]; exact But.self (But.refl _ _)
      have h6 : H6 ds[ns.length] = some (.frz od (.dK kvs)) := by rw [← eH6]; exact upd_same
      have s6 : Same H H6 := Same.but s5 b6 nd
      have hr6 : H6 r = some (.lst (ds.map V.ref)) := b6 _ _ ndr.symm hr5
      have hR6 : Rows H6 r ds S t ns.length := ⟨hr6, hdl, fun k d hd => by
        obtain ⟨_, _, kv, c1, c2⟩ := hrow k d hd
        by_cases e : d = ds[ns.length]
        · rw [e, hk1] at c1
          cases c1
          exact ⟨kvs, .inr ⟨od, by rw [e]; exact h6⟩, c2⟩
        · exact ⟨kv, .inl (b6 _ _ e c1), c2⟩⟩
      walk_at "rds"
      refine rd_ixLast hr6 hdl dn ?_
      refine ⟨_, od, rfl, .inl ⟨kvs, h6, ?_⟩⟩
      refine forw walk_keys (fun j σ H7 => ∃ (y4 y6 y7 : Option V) (y5 : V), σ = [some v1, some v2, some (.ref g), some (.ref r), y4, some y5, y6, y7] ∧ Same H6 H7 ∧
          MeanAt H7 y5 fun o => match o with
            | none => j = 0
            | some f => ∀ i, i < j → ∀ key x, kvs[i]? = some (key, x) → ∃ v : Nat, key = .inl (v : Int) ∧ S.BackLe t ns.length v f)
        ⟨_, none, none, .non, rfl, Same.refl _, .inl ⟨rfl, rfl⟩⟩ (fun j σ H7 _ pv => ?_) (fun j x σ H7 H8 hj pv y => ?_) (fun σ H7 pv => ?_)
      · obtain ⟨_, _, _, _, _, s7, _⟩ := pv
        exact s7 _ _ h6
      · obtain ⟨y4, y6, y7, y5, rfl, s7, hm⟩ := pv
        obtain ⟨rfl, key, x', hkx, rfl⟩ := y
        have hkey : ∃ z, valV kvs key = some z := by
          have : (kvs.any fun kv => decide (kv.1 = key)) = true := List.any_eq_true.mpr ⟨_, List.mem_of_getElem? hkx, decide_eq_true rfl⟩
          rw [valV_any] at this
          exact Option.isSome_iff_exists.mp this
        obtain ⟨z, hz⟩ := hkey
        obtain ⟨v, _, w, rfl, _, hc, hl, _⟩ := hk2.at_ _ _ hz
        obtain ⟨w0, hc0, hl0⟩ := Snd.short (S := S) ns (fun x hx => (hall x).mpr hx) w.length w v rfl hc
        walk_at "rds"
        refine ⟨r, v, ns.length, ds, S, t, rfl, hR6.same s7, by omega, ⟨w, hc, hl⟩, ⟨w0, hc0, hl0⟩, fun p H9 f s9 hf hf1 hf2 hb => ?_⟩
        walk_at "rds"
        have hm9 := hm.le (Same.le s9)
        rcases hm9 with ⟨rfl, h0⟩ | ⟨p0, f0, rfl, hf0, hf3, hf4, hall0⟩
        · refine ⟨rfl, ?_⟩
          walk_at "rds"
          refine iteT ?_
          refine iteT ?_
          walk_at "rds"
          refine ⟨_, _, _, _, rfl, s7.trans s9, .inr ⟨p, f, rfl, hf, hf1, hf2, fun i hi key x hx => ?_⟩⟩
          have h0' : j = 0 := h0
          have ei : i = j := by omega
          subst ei
          rw [hkx] at hx
          cases hx
          exact ⟨v, rfl, hb⟩
        · have hall0' : ∀ i, i < j → ∀ key x, kvs[i]? = some (key, x) → ∃ v : Nat, key = .inl (v : Int) ∧ S.BackLe t ns.length v f0 := hall0
          refine ⟨rfl, ?_⟩
          walk_at "rds"
          refine iteF ?_
          walk_at "rds"
          refine ⟨_, _, f, f0, rfl, hf, hf0, ⟨hf1, hf2⟩, ⟨hf3, hf4⟩, ?_⟩
          walk_at "rds"
          refine ite3 (fun hc => ?_) (fun hc => ?_)
          · have hlt := of_decide_eq_true hc
            walk_at "rds"
            refine ⟨_, _, _, _, rfl, s7.trans s9, .inr ⟨p, f, rfl, hf, hf1, hf2, fun i hi key x hx => ?_⟩⟩
            rcases Nat.lt_or_ge i j with zz | zz
            · obtain ⟨v', e1, e2⟩ := hall0' i zz key x hx
              exact ⟨v', e1, e2.mono hf3 hf1 (Int.le_of_lt hlt)⟩
            · have ei : i = j := by omega
              subst ei
              rw [hkx] at hx
              cases hx
              exact ⟨v, rfl, hb⟩
          · have hge := of_decide_eq_false hc
            walk_at "rds"
            refine ⟨_, _, _, _, rfl, s7.trans s9, .inr ⟨p0, f0, rfl, hf0, hf3, hf4, fun i hi key x hx => ?_⟩⟩
            rcases Nat.lt_or_ge i j with zz | zz
            · exact hall0' i zz key x hx
            · have ei : i = j := by omega
              subst ei
              rw [hkx] at hx
              cases hx
              exact ⟨v, rfl, hb.mono hf1 hf3 (by omega)⟩
      · obtain ⟨y4, y6, y7, y5, rfl, s7, hm⟩ := pv
        refine ⟨s7 _ _ h6, ?_⟩
        walk_at "rds"
        have hle : Le H7 (upd H7 ds[ns.length] (.dK kvs)) := Le.frz (Le.refl _) (s7 _ _ h6)
        refine q y5 _ (Same.mut (s6.trans s7) nd) ?_
        rcases hm.le hle with ⟨rfl, h0⟩ | ⟨p0, f0, rfl, hf0, hf3, hf4, hall0⟩
        · exact .inl ⟨rfl, fun f hf => by cases hf⟩
        · have hall0' : ∀ i, i < kvs.length → ∀ key x, kvs[i]? = some (key, x) → ∃ v : Nat, key = .inl (v : Int) ∧ S.BackLe t ns.length v f0 := hall0
          refine .inr ⟨p0, f0, rfl, hf0, hf3, hf4, fun f hf r b hR => ?_⟩
          cases hf
          refine Snd.karp (n := ns.length) hf3 (fun v hv => ?_) hR
          obtain ⟨w, hc, hl⟩ := hv
          obtain ⟨x, hx, _⟩ := hk2.all w v hc hl
          have hin : (kvs.any fun kv => decide (kv.1 = .inl ((v : Nat) : Int))) = true := by rw [valV_any, hx]; rfl
          obtain ⟨⟨key, x'⟩, hmem, hkey⟩ := List.any_eq_true.mp hin
          obtain ⟨i, hi, hi2⟩ := List.getElem_of_mem hmem
          obtain ⟨v', e1, e2⟩ := hall0' i hi key x' (by rw [List.getElem?_eq_getElem hi, hi2])
          have hkey' : key = .inl ((v : Nat) : Int) := of_decide_eq_true hkey
          rw [hkey'] at e1
          have : v = v' := by
            have := Sum.inl.inj e1
            omega
          rw [this]
          exact e2
end
section
variable {P : Program} {w : World} {K : PySem.W.Frag} {mg : Str → Option Value} {base : Heap}
def rkey (r : List Nat) : List Key := r.map fun (i : Nat) => Sum.inl (i : Int)
def bump (r : List Nat) : List (List Nat × Nat) → List (List Nat × Nat)
  | [] => [(r, 1)]
  | q :: t => if q.1 = r then (q.1, q.2 + 1) :: t else q :: bump r t
def enc (q : List Nat × Nat) : List Key × V := (rkey q.1, .int (q.2 : Int))
def many (r : List Nat) : List (List Nat × Nat) → Nat
  | [] => 0
  | q :: t => if q.1 = r then q.2 else many r t
theorem rkey_inj {r s : List Nat} (h : rkey r = rkey s) : r = s := by
  unfold rkey at h
  refine (List.map_inj_right (f := fun (i : Nat) => (Sum.inl (i : Int) : Key)) (fun a b e => ?_)).mp h
  have := Sum.inl.inj e
  omega
theorem rkey_kV (r : List Nat) : (rkey r).map kV = r.map nI := by
  unfold rkey
  rw [List.map_map]
  rfl
theorem bump_keys {r : List Nat} : ∀ {kvs : List (List Nat × Nat)} {k : List Nat}, k ∈ (bump r kvs).map (·.1) → k = r ∨ k ∈ kvs.map (·.1)
  | [], k, h => .inl (by simpa [bump] using h)
  | q :: t, k, h => by
    unfold bump at h
    by_cases e : q.1 = r
    · rw [if_pos e] at h
      exact .inr h
    · rw [if_neg e] at h
      rcases List.mem_cons.mp h with z | z
      · exact .inr (by rw [z]; simp)
      · rcases bump_keys z with y | y
        · exact .inl y
        · exact .inr (List.mem_cons_of_mem _ y)
theorem bump_nd {r : List Nat} : ∀ {kvs : List (List Nat × Nat)}, (kvs.map (·.1)).Nodup → ((bump r kvs).map (·.1)).Nodup
  | [], _ => by simp [bump]
  | q :: t, h => by
    obtain ⟨h1, h2⟩ := List.nodup_cons.mp h
    unfold bump
    by_cases e : q.1 = r
    · rw [if_pos e]
      exact h
    · rw [if_neg e]
      refine List.nodup_cons.mpr ⟨fun z => ?_, bump_nd h2⟩
      rcases bump_keys z with y | y
      · exact e y
      · exact h1 y
theorem bump_len (r : List Nat) : ∀ kvs : List (List Nat × Nat), (bump r kvs).length ≤ kvs.length + 1
  | [] => Nat.le_refl _
  | q :: t => by
    unfold bump
    have := bump_len r t
    split <;> simp <;> omega
theorem bump_sum (f : List Nat → Int) (r : List Nat) : ∀ kvs : List (List Nat × Nat), ((bump r kvs).map fun q => (q.2 : Int) * f q.1).sum = (kvs.map fun q => (q.2 : Int) * f q.1).sum + f r
  | [] => by simp [bump]
  | q :: t => by
    have ih := bump_sum f r t
    unfold bump
    by_cases e : q.1 = r
    · rw [if_pos e, List.map_cons, List.sum_cons, List.map_cons, List.sum_cons, ← e]
      show ((q.2 + 1 : Nat) : Int) * f q.1 + _ = _
      rw [Int.natCast_succ, Int.add_mul]
      omega
    · rw [if_neg e, List.map_cons, List.sum_cons, List.map_cons, List.sum_cons, ih]
      omega
theorem val_many (r : List Nat) : ∀ kvs : List (List Nat × Nat), (valV (kvs.map enc) (rkey r)).getD (.int 0) = .int (many r kvs : Int)
  | [] => rfl
  | q :: t => by
    unfold many
    by_cases e : q.1 = r
    · rw [if_pos e, List.map_cons, valV_pos (show (enc q).1 = rkey r by rw [← e]; rfl)]
      rfl
    · rw [if_neg e, List.map_cons, valV_neg (show ¬ (enc q).1 = rkey r from fun z => e (rkey_inj z))]
      exact val_many r t
theorem put_no {k : List Key} {x : V} : ∀ {kvs : List (List Key × V)}, k ∉ kvs.map (·.1) → kvs.map (fun kv => if kv.1 = k then (kv.1, x) else kv) = kvs
  | [], _ => rfl
  | q :: t, h => by
    rw [List.map_cons, if_neg (fun e => h (by rw [← e]; simp)), put_no fun z => h (List.mem_cons_of_mem _ z)]
theorem put_bump (r : List Nat) : ∀ {kvs : List (List Nat × Nat)}, (kvs.map (·.1)).Nodup → putK (kvs.map enc) (rkey r) (.int ((many r kvs : Int) + 1)) = (bump r kvs).map enc
  | [], _ => rfl
  | q :: t, h => by
    obtain ⟨h1, h2⟩ := List.nodup_cons.mp h
    have ih := put_bump r h2
    unfold bump many
    by_cases e : q.1 = r
    · rw [if_pos e, if_pos e]
      unfold putK
      have e1 : (enc q).1 = rkey r := by rw [← e]; rfl
      rw [if_pos (by rw [List.map_cons, List.any_cons, decide_eq_true e1]; rfl), List.map_cons, List.map_cons, if_pos e1, put_no, List.map_cons]
      · rfl
      · intro z
        obtain ⟨x, hx, hx2⟩ := List.mem_map.mp z
        obtain ⟨y, hy, rfl⟩ := List.mem_map.mp hx
        have : y.1 = q.1 := rkey_inj (hx2.trans e1.symm)
        exact h1 (by show q.1 ∈ t.map (·.1); rw [← this]; exact List.mem_map_of_mem hy)
    · rw [if_neg e, if_neg e, List.map_cons, List.map_cons, ← ih]
      have e1 : ¬ (enc q).1 = rkey r := fun z => e (rkey_inj z)
      unfold putK
      rw [List.any_cons, decide_eq_false e1, Bool.false_or, List.map_cons, if_neg e1]
      split <;> rfl
theorem isum_perm {a b : List Int} (h : a.Perm b) : a.sum = b.sum := by
  induction h with
  | nil => rfl
  | cons x _ ih => rw [List.sum_cons, List.sum_cons, ih]
  | swap x y l => simp only [List.sum_cons]; omega
  | trans _ _ h1 h2 => rw [h1, h2]
structure GroupOf (rs : List (Nat × List Nat)) (kvs : List (List Nat × Nat)) : Prop where
  sum : ∀ f : List Nat → Int, (kvs.map fun q => (q.2 : Int) * f q.1).sum = (rs.map fun q => f q.2).sum
  mem : ∀ q ∈ kvs, ∃ x ∈ rs, x.2 = q.1
  len : kvs.length ≤ rs.length
  nd : (kvs.map (·.1)).Nodup
theorem sum_one : ∀ kvs : List (List Nat × Nat), (kvs.map fun q => (q.2 : Int) * 1).sum = ((kvs.map (·.2)).sum : Nat)
  | [] => rfl
  | q :: t => by
    have ih := sum_one t
    rw [List.map_cons, List.sum_cons, List.map_cons, List.sum_cons, ih]
    omega
theorem GroupOf.le {rs : List (Nat × List Nat)} {kvs : List (List Nat × Nat)} (g : GroupOf rs kvs) : ∀ q ∈ kvs, q.2 ≤ rs.length := fun q hq => by
  have h1 := g.sum fun _ => 1
  rw [sum_one] at h1
  have h2 : (rs.map fun _ => (1 : Int)).sum = rs.length := by
    generalize rs = l
    induction l with
    | nil => rfl
    | cons a l ih => rw [List.map_cons, List.sum_cons, ih, List.length_cons]; omega
  rw [h2] at h1
  have h3 := le_sum_of_mem' q kvs hq
  omega
where
  le_sum_of_mem' (q : List Nat × Nat) : ∀ kvs : List (List Nat × Nat), q ∈ kvs → q.2 ≤ (kvs.map (·.2)).sum
    | a :: l, h => by
      rw [List.map_cons, List.sum_cons]
      rcases List.mem_cons.mp h with z | z
      · rw [z]; omega
      · have := le_sum_of_mem' q l z
        omega
theorem GroupOf.perm {rs : List (Nat × List Nat)} {kvs kvs' : List (List Nat × Nat)} (g : GroupOf rs kvs) (p : kvs'.Perm kvs) : GroupOf rs kvs' :=
  ⟨fun f => by rw [← g.sum f]; exact isum_perm (p.map _), fun q hq => g.mem q (p.mem_iff.mp hq), by rw [p.length_eq]; exact g.len, (p.map _).nodup_iff.mpr g.nd⟩
def sp_rounds_of (K : PySem.W.Frag) : Sp := fun vs H Q _ => ∃ (v : V) (S : Snd) (nk nh : Nat) (a : Addr) (run : List Nat), vs = [v, .ref a] ∧ AtS H v S nk nh ∧ H a = some (.tup (run.map nI)) ∧ S.IsRun run ∧ run.length ≤ 1000 ∧
  ∀ p H' ys (kvs : List (List Nat × Nat)), Same H H' → H p = none → H' p = some (.lst ys) → TDs H' ys (kvs.map fun q => .tuple [dN q.1, .int (q.2 : Int)]) → GroupOf (S.cutF run).1 kvs → Q (.ref p) H'
/-! ### rounds_of -/
/- 0 sender, 1 run, 2 many, 3 index, 4 ring -/
theorem sc_rounds_of : FnScope ["sender", "run", "many", "index", "ring"] ["sender", "run"] (defScope (topS 29)) := ⟨rfl, rfl, rfl, by decide +kernel, rfl, by decide +kernel, by decide +kernel⟩
theorem cl_rounds_of (T : Top K mg) : Cl P w K mg base 4 "rounds_of" (sp_rounds_of K) := by
  refine cl_of (k := 3) (N := ["sender", "run", "many", "index", "ring"]) (ps := ["sender", "run"]) (T.def_ 20 rfl) sc_rounds_of (fun vs H Q E h => ?_) (fun _ _ _ _ _ _ us hl => match us, hl with | [_, _], _ => rfl) (fun f cdv A outer s H vs Q E hr h => ?_)
  · obtain ⟨v, S, nk, nh, a, run, rfl, hS, hR, hrun, hlen, q⟩ := h
    rfl
  · obtain ⟨v, S, nk, nh, a, run, rfl, hS, hR, hrun, hlen, q⟩ := h
    have hu := hu_of hr
    have hu65 := hu65_of hr
    have hu64 := hr.units
    refine ⟨_, (pss_cons (ps_set (i := 2) sc_rounds_of.nd rfl (.inl rfl) pe_dnewT)
  (pss_cons (ps_for PassesOwn.never rfl (pi_list (pe_ix (ix_tupK K) (pe_cl (k := 3) (j := 3) (cl_cut T) hr (by decide) (by rfl) (pa_cons (pv 0) (pa_cons (pv 1) pa_nil))) pe_int (fun _ _ => rfl))) (pg_tup rfl (pgs_cons (pg_name (i := 3) sc_rounds_of.nd rfl (.inl rfl)) (pgs_cons (pg_name (i := 4) sc_rounds_of.nd rfl (.inl rfl)) pgs_nil)))
  (pss_one (ps_dput hu (pv 2) (pv 4) (pe_op op_add (pe_dget2 hu (pv 2) (pv 4) pe_int ⟨rfl, rfl, rfl, rfl⟩) pe_int) rfl)))
  (pss_one (ps_ret (pe_sortedItems hu64 rfl (by rfl) (T.b 6 rfl) (pv 2)))))), ?_⟩
    walk_at "rds"
    intro D nD
    generalize eH1 : upd _ D _ = H1
    obtain ⟨s1, hD⟩ := new_of eH1 nD
    obtain ⟨e, ci⟩ := S.cutI hrun run.length (Nat.le_refl _)
    have hne : ∀ x ∈ (S.cutF run).1, x.2 ≠ [] := fun x hx => (ci.ring x hx).choose_spec.ne
    have hfew : (S.cutF run).1.length ≤ 1000 := Nat.le_trans ci.few hlen
    walk_at "rds"
    refine ⟨v, S, nk, nh, a, run, rfl, hS.le (Same.le s1), s1 _ _ hR, hrun, hlen, fun p H2 s2 hc => ?_⟩
    generalize S.cutF run = c at *
    obtain ⟨r, b, xs, hp, hr, tr, hb⟩ := hc
    walk_at "rds"
    refine rd_ixTi (j := 0) hp rfl rfl ?_
    refine ⟨r, rfl, ⟨_, SqL.of hr⟩, ?_⟩
    have lx := tr.length
    rw [List.length_map] at lx
    refine forw (walk_list (xs := xs)) (fun j σ H3 => ∃ (kvs : List (List Nat × Nat)) (y3 y4 : Option V), σ = [some v, some (.ref a), some (.ref D), y3, y4] ∧ Same H H3 ∧ H3 r = some (.lst xs) ∧ TDs H3 xs (c.1.map dRnd) ∧ H3 D = some (.dT (kvs.map enc)) ∧ GroupOf (c.1.take j) kvs)
      ⟨[], none, none, rfl, s1.trans s2, hr, tr, s2 _ _ hD, ⟨fun f => rfl, fun q hq => absurd hq List.not_mem_nil, Nat.zero_le _, List.nodup_nil⟩⟩ (fun j σ H3 _ pv => ?_) (fun j x σ H3 H4 hj pv y => ?_) (fun σ H3 pv => ?_)
    · obtain ⟨_, _, _, _, _, h3, _⟩ := pv
      exact SqL.of h3
    · obtain ⟨kvs, y3, y4, rfl, s3, hr3, tr3, hD3, g⟩ := pv
      obtain ⟨rfl, f1⟩ := y
      obtain ⟨d, hd, hx⟩ := tr3.get' f1
      obtain ⟨jc, rfl⟩ := map_at hd
      have tk : c.1.take (j + 1) = c.1.take j ++ [c.1[j]] := by rw [List.take_add_one, List.getElem?_eq_getElem jc]; rfl
      rw [tk]
      have glen := g.len
      generalize c.1[j] = rd at hx ⊢
      obtain ⟨ax, xx, rfl, ex, tx⟩ := hx.tup_inv
      cases tx with | cons t1 tx =>
      cases tx with | cons t2 tx =>
      cases tx
      obtain rfl := t1.int_eq
      obtain ⟨rb, rfl, hrb⟩ := t2.nats_inv
      refine rd_gtup rfl (SqT.of ex) rfl ?_
      refine rd_gcons (rd_name (rd_gcons (rd_name (rd_gnil ?_))))
      have hkey : H4 rb = some (.tup ((rkey rd.2).map kV)) := by rw [rkey_kV]; exact hrb
      walk_at "rds"
      refine ⟨D, rfl, .inr ⟨_, .inl hD3⟩, ?_⟩
      walk_at "rds"
      refine ⟨_, DGet.t hD3 hkey, ?_⟩
      rw [val_many]
      walk_at "rds"
      have hl2 : (c.1.take j).length ≤ 1000 := by rw [List.length_take]; omega
      refine ⟨D, _, rfl, DPut.t hD3 hkey (sz_lt (by rw [List.length_map]; omega)), ?_⟩
      rw [put_bump _ g.nd]
      have hle : Le H4 (upd H4 D (.dT ((bump rd.2 kvs).map enc))) := Le.dT (Le.refl _) hD3
      have hrD : r ≠ D := ne_of hr3 hD3 (fun z => by cases z)
      refine ⟨bump rd.2 kvs, _, _, rfl, Same.mut s3 nD, by rw [upd_ne hrD]; exact hr3, tr3.le hle, upd_same, ⟨fun f => ?_, fun q hq => ?_, ?_, bump_nd g.nd⟩⟩
      · rw [bump_sum, g.sum f, List.map_append, List.sum_append]
        simp
      · have := List.mem_map_of_mem (f := (·.1)) hq
        rcases bump_keys this with z | z
        · exact ⟨rd, by simp, z.symm⟩
        · obtain ⟨q', hq', e'⟩ := List.mem_map.mp z
          obtain ⟨x, hx, e2⟩ := g.mem q' hq'
          exact ⟨x, List.mem_append_left _ hx, by rw [e2]; exact e'⟩
      · have := bump_len rd.2 kvs
        rw [List.length_append, List.length_singleton]
        omega
    · obtain ⟨kvs, y3, y4, rfl, s3, hr3, tr3, hD3, g⟩ := pv
      rw [lx, List.take_length] at g
      walk_at "rds"
      refine ⟨D, kvs.map fun q => (q.1.map fun (i : Nat) => (i : Int), (q.2 : Int)), rfl, ?_, fun q hq => ?_, fun H4 p4 ys kvs' pm s4 np hp4 ty => ?_⟩
      · rw [hD3, List.map_map]
        congr 2
        refine List.map_congr_left fun q _ => ?_
        show enc q = _
        unfold enc rkey
        simp [List.map_map]
      · obtain ⟨q', hq', rfl⟩ := List.mem_map.mp hq
        obtain ⟨x, hx, e2⟩ := g.mem q' hq'
        intro z
        exact hne x hx (by rw [e2]; exact List.map_eq_nil_iff.mp z)
      · obtain ⟨l', p1, p2⟩ := L2.perm_lift (fun q : List Nat × Nat => (q.1.map fun (i : Nat) => (i : Int), (q.2 : Int))) pm kvs rfl
        rw [← p2, List.map_map] at ty
        exact q p4 H4 ys l' (s3.trans s4) (s3.free np) hp4 ty (g.perm p1)
end
section
variable {P : Program} {w : World} {K : PySem.W.Frag} {mg : Str → Option Value} {base : Heap}
/-! ### the bag -/
structure Bag (H : Hp) (bg c : Addr) : Prop where
  at_ : ∃ (a s : Int) (k : Nat), H bg = some (.lst [.int a, .int s, .int (k : Int), .ref c])
  cells : ∃ ns : List Int, H c = some (.lst (ns.map V.int)) ∧ ns.length ≤ 100
theorem Bag.ne {H : Hp} {bg c : Addr} (b : Bag H bg c) : bg ≠ c := fun e => by
  obtain ⟨a, s, k, h1⟩ := b.at_
  obtain ⟨ns, h2, _⟩ := b.cells
  rw [e, h2] at h1
  have h3 := HO.lst.inj (Option.some.inj h1)
  have h4 := congrArg (fun l : List V => l[3]?) h3
  simp only [List.getElem?_map] at h4
  cases h5 : ns[3]? with
  | none => rw [h5] at h4; cases h4
  | some x => rw [h5] at h4; cases h4
theorem Bag.k1 {H : Hp} {bg c a : Addr} (b : Bag H bg c) (h : H a = none) : a ≠ bg := fun e => by
  obtain ⟨_, _, _, h1⟩ := b.at_
  rw [e, h1] at h
  cases h
theorem Bag.k2 {H : Hp} {bg c a : Addr} (b : Bag H bg c) (h : H a = none) : a ≠ c := fun e => by
  obtain ⟨_, h1, _⟩ := b.cells
  rw [e, h1] at h
  cases h
theorem Bag.but {H H' : Hp} {bg c d : Addr} (b : Bag H bg c) (e : But d H H') (h1 : d ≠ bg) (h2 : d ≠ c) : Bag H' bg c := by
  obtain ⟨a, s, k, x1⟩ := b.at_
  obtain ⟨ns, x2, x3⟩ := b.cells
  exact ⟨⟨a, s, k, e _ _ h1.symm x1⟩, ns, e _ _ h2.symm x2, x3⟩
theorem Bag.same {H H' : Hp} {bg c : Addr} (b : Bag H bg c) (e : Same H H') : Bag H' bg c := by
  obtain ⟨a, s, k, x1⟩ := b.at_
  obtain ⟨ns, x2, x3⟩ := b.cells
  exact ⟨⟨a, s, k, e _ _ x1⟩, ns, e _ _ x2, x3⟩
theorem Bag.set {H H' : Hp} {bg c : Addr} (b : Bag H bg c) (e : But bg H H') {a s : Int} {k : Nat} (h : H' bg = some (.lst [.int a, .int s, .int (k : Int), .ref c])) : Bag H' bg c := by
  obtain ⟨ns, x2, x3⟩ := b.cells
  exact ⟨⟨a, s, k, h⟩, ns, e _ _ b.ne.symm x2, x3⟩
/-- the heap goes on; only the bag has changed -/
structure Gn (bg c : Addr) (H H' : Hp) : Prop where
  from_ : Bag H bg c
  but : But bg H H'
  bag : Bag H' bg c
section
variable {bg c : Addr} {H H' H2 : Hp}
theorem Gn.refl (b : Bag H bg c) : Gn bg c H H := ⟨b, But.refl _ _, b⟩
theorem Gn.trans (x : Gn bg c H H') (y : Gn bg c H' H2) : Gn bg c H H2 := ⟨x.from_, x.but.trans y.but, y.bag⟩
theorem Gn.same (x : Gn bg c H H') (e : Same H' H2) : Gn bg c H H2 := ⟨x.from_, x.but.trans (But.of e), x.bag.same e⟩
theorem Gn.of (b : Bag H bg c) (e : Same H H') : Gn bg c H H' := (Gn.refl b).same e
theorem Gn.mut {d : Addr} (x : Gn bg c H H') (e : But d H' H2) (n : H d = none) : Gn bg c H H2 :=
  ⟨x.from_, But.but x.but e n, x.bag.but e (x.from_.k1 n) (x.from_.k2 n)⟩
theorem Gn.upd {d : Addr} {o : HO} (x : Gn bg c H H') (n : H d = none) : Gn bg c H (upd H' d o) := x.mut (But.self (But.refl _ _)) n
theorem Gn.le (x : Gn bg c H H') : Le H H' := by
  obtain ⟨_, _, _, h⟩ := x.from_.at_
  exact x.but.le h
theorem Gn.at_ (x : Gn bg c H H') {a : Addr} {o : HO} (h : H a = some o) (n : a ≠ bg) : H' a = some o := x.but _ _ n h
theorem Gn.free (x : Gn bg c H H') {a : Addr} (h : H' a = none) : H a = none := by
  by_cases e : a = bg
  · exact absurd e (x.bag.k1 h)
  · cases h2 : H a with
    | none => rfl
    | some o =>
      have := x.but _ _ e h2
      rw [h] at this
      cases this
end
theorem rd_ifR {σ : L2.St} {H : Hp} {nx bk ct : L2.St → Hp → Prop} {rt : VK} {c : TT} {t u : TS} (R : L2.St → Hp → Prop) (hR : ∀ σ H, R σ H → nx σ H)
    (h : ∀ nx' : L2.St → Hp → Prop, (∀ σ H, R σ H → nx' σ H) → c σ H fun b H1 => if b = true then t ⟨nx', rt, bk, ct⟩ σ H1 else u ⟨nx', rt, bk, ct⟩ σ H1) : tIfS c t u ⟨nx, rt, bk, ct⟩ σ H := h nx hR
def sp_l_bag (K : PySem.W.Frag) : Sp := fun vs H Q _ => ∃ (a : Addr) (ns : List Int), vs = [.ref a] ∧ SqL K H a (ns.map V.int) ∧ ns.length ≤ 1000000 ∧ ∀ p c H', Same H H' → Bag H' p c → H p = none → Q (.ref p) H'
/-! ### _law_bag -/
/- 0 script, 1 cell' -/
theorem sc_l_bag : FnScope ["_law_script", "_law_cell"] ["_law_script"] (defScope (topS 31)) := ⟨rfl, rfl, rfl, by decide +kernel, rfl, by decide +kernel, by decide +kernel⟩
theorem cl_l_bag (T : Top K mg) : Cl P w K mg base 1 "_law_bag" (sp_l_bag K) := by
  refine cl_of (k := 0) (N := ["_law_script", "_law_cell"]) (ps := ["_law_script"]) (T.def_ 21 rfl) sc_l_bag (fun vs H Q E h => ?_) (fun _ _ _ _ _ _ us hl => match us, hl with | [_], _ => rfl) (fun f cdv A outer s H vs Q E hr h => ?_)
  · obtain ⟨a, ns, rfl, hA, hl, q⟩ := h
    rfl
  · obtain ⟨a, ns, rfl, hA, hl, q⟩ := h
    have hu := hu_of hr
    have hu65 := hu65_of hr
    have hu64 := hr.units
    refine ⟨_, (pss_one (ps_ret (pe_lst (pa_cons pe_int (pa_cons pe_int (pa_cons pe_int (pa_cons (pe_lc (own := [("_law_cell", 1)]) (g := gName 1) rfl sc_l_bag.nd  (pi_list (pe_slice (sl_listK K) (pv 0) po_none (po_some pe_int))) (blkOk_by (N := ["_law_script", "_law_cell"]) (sc := defScope (topS 31)) (by decide +kernel)) (fun _ _ _ _ _ => (pg_name (i := 1) sc_l_bag.nd rfl (.inl rfl))) (fun _ _ _ _ _ => pts_nil) (fun _ _ _ _ _ => (pe_callB call_abs (by rfl) (T.b 2 rfl) (by decide +kernel) (pa_cons (pv 1) pa_nil)))) pa_nil))))))), ?_⟩
    walk_at "rds"
    refine ⟨a, _, rfl, hA, fun p n1 => ?_⟩
    generalize eH1 : upd _ p _ = H1
    obtain ⟨s1, h1⟩ := new_of eH1 n1
    have h1 := h1.trans (congrArg (fun l => some (HO.lst l)) (cutV_to _ 63))
    refine ⟨p, rfl, ⟨_, SqL.of h1⟩, fun D nD => ?_⟩
    rw [← List.map_take] at h1
    refine lcwM walk_list (fun i => .int (if (ns.take 63).getD i 0 < 0 then -((ns.take 63).getD i 0) else (ns.take 63).getD i 0)) (by simp; omega) nD (fun H2 s2 => SqL.of (s2 _ _ h1)) (fun i x H2 H3 Q' hi s2 y q' => ?_) (fun H2 s2 hD => ?_)
    · obtain ⟨rfl, f1⟩ := y
      obtain ⟨i1, rfl⟩ := map_at f1
      walk_at "rds"
      refine ⟨rfl, ?_⟩
      walk_at "rds"
      refine ⟨_, rfl, ?_⟩
      have e : (ns.take 63).getD i 0 = (ns.take 63)[i] := by simp only [List.getD_eq_getElem?_getD, List.getElem?_eq_getElem i1]; rfl
      rw [e] at q'
      exact q' _ (Same.refl _)
    · walk_at "rds"
      refine ⟨sz_ok (by simp), fun p np => ?_⟩
      generalize eH3 : upd _ p _ = H3
      obtain ⟨s3, h3⟩ := new_of eH3 np
      have e2 : ∀ (l : List Int), (List.range (l.map V.int).length).map (fun i => V.int (if l.getD i 0 < 0 then -(l.getD i 0) else l.getD i 0)) = (l.map fun x => if x < 0 then -x else x).map V.int := fun l => by
        rw [List.length_map, map_range_getD l 0 (fun x => V.int (if x < 0 then -x else x)), List.map_map]
        rfl
      rw [e2] at hD
      refine q p D H3 (s1.trans (s2.trans s3)) ⟨⟨0, 1234567891, 0, h3⟩, _, s3 _ _ hD, by simp; omega⟩ ((s1.trans s2).free np)
def sp_l_take (K : PySem.W.Frag) : Sp := fun vs H Q _ => ∃ (bg c : Addr) (m : Int), vs = [.ref bg, .int m] ∧ Bag H bg c ∧ 0 < m ∧ m < 1073741824 ∧ ∀ (r : Int) H', Gn bg c H H' → 0 ≤ r → r < m → Q (.int r) H'
/-! ### _law_take -/
/- 0 bag_here, 1 many, 2 cell, 3 stirred, 4 value, 5 begin, 6 second -/
theorem sc_l_take : FnScope ["_law_bag_here", "_law_many", "_law_cell", "_law_stirred", "_law_value", "_law_begin", "_law_second"] ["_law_bag_here", "_law_many"] (defScope (topS 32)) := ⟨rfl, rfl, rfl, by decide +kernel, rfl, by decide +kernel, by decide +kernel⟩
theorem cl_l_take (T : Top K mg) : Cl P w K mg base 1 "_law_take" (sp_l_take K) := by
  refine cl_of (k := 0) (N := ["_law_bag_here", "_law_many", "_law_cell", "_law_stirred", "_law_value", "_law_begin", "_law_second"]) (ps := ["_law_bag_here", "_law_many"]) (T.def_ 22 rfl) sc_l_take (fun vs H Q E h => ?_) (fun _ _ _ _ _ _ us hl => match us, hl with | [_, _], _ => rfl) (fun f cdv A outer s H vs Q E hr h => ?_)
  · obtain ⟨bg, c, m, rfl, hB, hm, hm2, q⟩ := h
    rfl
  · obtain ⟨bg, c, m, rfl, hB, hm, hm2, q⟩ := h
    have hu := hu_of hr
    have hu65 := hu65_of hr
    have hu64 := hr.units
    refine ⟨_, (pss_cons (ps_if (pt_cmpR op_eq (pe_ix (ix_listK K) (pv 0) pe_int (fun _ _ => rfl)) pe_int (nomark _)) (pss_cons (ps_set (i := 2) sc_l_take.nd rfl (.inl rfl) (pe_ix (ix_listK K) (pe_op op_cat (pe_slice (sl_listK K) (pe_ix (ix_listK K) (pv 0) pe_int (fun _ _ => rfl)) (po_some (pe_ix (ix_listK K) (pv 0) pe_int (fun _ _ => rfl))) po_none) (pe_lst (pa_cons pe_int pa_nil))) pe_int (fun _ _ => rfl)))
  (pss_cons (ps_augS (pv 0) pe_int get_list pe_int ip_add set_list)
  (pss_cons (ps_if (pt_cmpR op_ge (pv 2) (pe_op op_pow pe_int pe_int) (nomark _)) (pss_one (ps_asg (pv 2) (pg_sub (pv 0) pe_int set_list))) pss_nil)
  (pss_cons (ps_set (i := 3) sc_l_take.nd rfl (.inl rfl) (pe_op op_add (pe_op op_add (pe_op op_mul (pe_ix (ix_listK K) (pv 0) pe_int (fun _ _ => rfl)) pe_int) (pe_op op_mod (pe_callTy call_int1 (by rfl) (T.b 10 rfl) (by decide +kernel) (pa_cons (pv 2) pa_nil)) pe_int)) (pe_op op_mul pe_int (pe_ix (ix_listK K) (pv 0) pe_int (fun _ _ => rfl)))))
  (pss_one (ps_asg (pe_op op_mod (pe_callTy call_int1 (by rfl) (T.b 10 rfl) (by decide +kernel) (pa_cons (pv 3) pa_nil)) pe_int) (pg_sub (pv 0) pe_int set_list))))))) pss_nil)
  (pss_cons (ps_if (pt_cmpR op_gt (pe_ix (ix_listK K) (pv 0) pe_int (fun _ _ => rfl)) pe_int (nomark _)) (pss_cons (ps_set (i := 4) sc_l_take.nd rfl (.inl rfl) (pe_op op_mod (pe_callTy call_int1 (by rfl) (T.b 10 rfl) (by decide +kernel) (pa_cons (pe_ix (ix_listK K) (pv 0) pe_int (fun _ _ => rfl)) pa_nil)) (pv 1)))
  (pss_cons (ps_asg (pe_op op_fdiv (pe_callTy call_int1 (by rfl) (T.b 10 rfl) (by decide +kernel) (pa_cons (pe_ix (ix_listK K) (pv 0) pe_int (fun _ _ => rfl)) pa_nil)) (pv 1)) (pg_sub (pv 0) pe_int set_list))
  (pss_one (ps_ret (pv 4))))) pss_nil)
  (pss_cons (ps_set (i := 5) sc_l_take.nd rfl (.inl rfl) (pe_op op_mod (pe_callTy call_int1 (by rfl) (T.b 10 rfl) (by decide +kernel) (pa_cons (pe_op op_mul (pe_op op_add (pe_ix (ix_listK K) (pv 0) pe_int (fun _ _ => rfl)) pe_int) pe_int) pa_nil)) pe_int))
  (pss_cons (ps_set (i := 6) sc_l_take.nd rfl (.inl rfl) (pe_op op_mod (pe_callTy call_int1 (by rfl) (T.b 10 rfl) (by decide +kernel) (pa_cons (pe_op op_mul (pe_op op_mod (pe_callTy call_int1 (by rfl) (T.b 10 rfl) (by decide +kernel) (pa_cons (pe_op op_mul (pv 5) (pv 5)) pa_nil)) pe_int) pe_int) pa_nil)) pe_int))
  (pss_one (ps_ret (pe_op op_mod (pe_callTy call_int1 (by rfl) (T.b 10 rfl) (by decide +kernel) (pa_cons (pe_op op_fdiv (pv 6) pe_int) pa_nil)) (pv 1)))))))), ?_⟩
    obtain ⟨a, s, k, hb⟩ := hB.at_
    obtain ⟨ns, hc, hns⟩ := hB.cells
    refine rd_seq (rd_ifR (fun σ H1 => ∃ (y2 y3 : Option V) (a s : Int) (k : Nat), σ = [some (.ref bg), some (.int m), y2, y3, none, none, none] ∧ Gn bg c H H1 ∧ H1 bg = some (.lst [.int a, .int s, .int (k : Int), .ref c])) ?_ fun nx' hnx => ?_)
    · rintro σ H1 ⟨y2, y3, a, s, k, rfl, g1, hb⟩
      walk_at "rds"
      refine rd_ixL (j := 0) (SqL.of hb) rfl rfl ?_
      walk_at "rds"
      refine ite3 (fun hc => ?_) (fun hc => ?_)
      · have ha := of_decide_eq_true hc
        walk_at "rds"
        refine rd_ixL (j := 0) (SqL.of hb) rfl rfl ?_
        walk_at "rds"
        refine .inl ⟨_, rfl, ?_⟩
        walk_at "rds"
        refine rd_I hm ?_
        walk_at "rds"
        refine rd_ixL (j := 0) (SqL.of hb) rfl rfl ?_
        walk_at "rds"
        refine .inl ⟨_, rfl, ?_⟩
        walk_at "rds"
        refine rd_I ⟨hm, hm2⟩ ?_
        walk_at "rds"
        refine rd_setL (j := 0) hb rfl (by simp) fun H2 b2 h2 => ?_
        walk_at "rds"
        exact q _ H2 (g1.trans ⟨g1.bag, b2, g1.bag.set b2 h2⟩) (Int.emod_nonneg _ (by omega)) (Int.emod_lt_of_pos _ hm)
      · walk_at "rds"
        refine rd_ixL (j := 1) (SqL.of hb) rfl rfl ?_
        walk_at "rds"
        refine rd_I (.inr (by omega)) ?_
        walk_at "rds"
        refine .inl ⟨_, rfl, ?_⟩
        walk_at "rds"
        refine rd_I (by decide) ?_
        walk_at "rds"
        generalize e5 : (s + 1) * 39373 % 1000000007 = y5
        have l5 : 0 ≤ y5 ∧ y5 < 1000000007 := by omega
        refine rd_I (.inl (by omega)) ?_
        walk_at "rds"
        refine .inl ⟨_, rfl, ?_⟩
        walk_at "rds"
        refine rd_I (by decide) ?_
        walk_at "rds"
        refine rd_I (.inr (by omega)) ?_
        walk_at "rds"
        refine .inl ⟨_, rfl, ?_⟩
        walk_at "rds"
        refine rd_I (by decide) ?_
        walk_at "rds"
        refine rd_I ⟨by omega, by omega⟩ ?_
        walk_at "rds"
        refine .inl ⟨_, rfl, ?_⟩
        walk_at "rds"
        refine rd_I hm ?_
        exact q _ H1 g1 (Int.emod_nonneg _ (by omega)) (Int.emod_lt_of_pos _ hm)
    · walk_at "rds"
      refine rd_ixL (j := 0) (SqL.of hb) rfl rfl ?_
      walk_at "rds"
      refine ite3 (fun hc0 => ?_) (fun hc0 => ?_)
      · walk_at "rds"
        refine rd_ixL (j := 3) (SqL.of hb) rfl rfl ?_
        walk_at "rds"
        refine rd_ixL (j := 2) (SqL.of hb) rfl rfl ?_
        walk_at "rds"
        refine rd_slL hc (cutV_from _ _) fun p1 H1 n1 s1 h1 => ?_
        walk_at "rds"
        refine ⟨sz_ok (by simp), fun p2 np2 => ?_⟩
        generalize eH2 : upd _ p2 _ = H2
        obtain ⟨s2, h2⟩ := new_of eH2 np2
        refine rd_cat (s2 _ _ h1) h2 (by simp; omega) fun p3 H3 n3 s3 h3 => ?_
        obtain ⟨x, hx⟩ : ∃ x : Int, (ns.map V.int |>.drop k) ++ [V.int 0] = (ns.drop k ++ [0]).map V.int ∧ ((ns.drop k ++ [0]).map V.int)[0]? = some (.int x) := by
          refine ⟨((ns.drop k ++ [0])[0]?).getD 0, by simp, ?_⟩
          cases e : ns.drop k with
          | nil => rfl
          | cons y l => rfl
        walk_at "rds"
        refine rd_ixL (j := 0) (SqL.of h3) rfl (by rw [hx.1]; exact hx.2) ?_
        walk_at "rds"
        have s13 := s1.trans (s2.trans s3)
        have hb3 := s13 _ _ hb
        have g3 := Gn.of hB s13
        refine rd_ixL (j := 2) (SqL.of hb3) rfl rfl ?_
        walk_at "rds"
        refine rd_setL (j := 2) hb3 rfl (by simp) fun H4 b4 h4 => ?_
        have h4' : H4 bg = some (.lst [.int a, .int s, .int ((k + 1 : Nat) : Int), .ref c]) := h4
        have g4 : Gn bg c H H4 := g3.trans ⟨g3.bag, b4, g3.bag.set b4 h4'⟩
        refine rd_ifR (fun σ H1 => ∃ (a : Int), σ = [some (.ref bg), some (.int m), some (.int x), none, none, none, none] ∧ Gn bg c H H1 ∧ H1 bg = some (.lst [.int a, .int s, .int ((k + 1 : Nat) : Int), .ref c])) ?_ fun nx2 hnx2 => ?_
        · rintro σ H5 ⟨a, rfl, g5, hb5⟩
          walk_at "rds"
          refine rd_ixL (j := 1) (SqL.of hb5) rfl rfl ?_
          walk_at "rds"
          refine rd_I (.inr (by omega)) ?_
          walk_at "rds"
          refine .inl ⟨_, rfl, ?_⟩
          walk_at "rds"
          refine rd_I (by decide) ?_
          walk_at "rds"
          refine rd_ixL (j := 2) (SqL.of hb5) rfl rfl ?_
          refine rd_I (.inl (by omega)) ?_
          walk_at "rds"
          refine .inl ⟨_, rfl, ?_⟩
          walk_at "rds"
          refine rd_I (by decide) ?_
          walk_at "rds"
          refine rd_setL (j := 1) hb5 rfl (by simp) fun H6 b6 h6 => ?_
          exact hnx _ _ ⟨_, _, _, _, _, rfl, g5.trans ⟨g5.bag, b6, g5.bag.set b6 h6⟩, h6⟩
        · walk_at "rds"
          refine rd_I ⟨by decide, by decide, by decide⟩ ?_
          walk_at "rds"
          refine ite3 (fun hc1 => ?_) (fun hc1 => ?_)
          · walk_at "rds"
            refine rd_setL (j := 0) h4' rfl (by simp) fun H5 b5 h5 => ?_
            exact hnx2 _ _ ⟨_, rfl, g4.trans ⟨g4.bag, b5, g4.bag.set b5 h5⟩, h5⟩
          · walk_at "rds"
            exact hnx2 _ _ ⟨_, rfl, g4, h4'⟩
      · walk_at "rds"
        exact hnx _ _ ⟨_, _, _, _, _, rfl, Gn.refl hB, hb⟩
def sp_l_one (K : PySem.W.Frag) : Sp := fun vs H Q _ => ∃ (bg c l : Addr) (xs : List V), vs = [.ref bg, .ref l] ∧ Bag H bg c ∧ H l = some (.lst xs) ∧ l ≠ bg ∧ 0 < xs.length ∧ xs.length < 1000000 ∧ ∀ (v : V) H', Gn bg c H H' → v ∈ xs → Q v H'
/-! ### _law_one -/
/- 0 bag_here, 1 things -/
theorem sc_l_one : FnScope ["_law_bag_here", "_law_things"] ["_law_bag_here", "_law_things"] (defScope (topS 33)) := ⟨rfl, rfl, rfl, by decide +kernel, rfl, by decide +kernel, by decide +kernel⟩
theorem cl_l_one (T : Top K mg) : Cl P w K mg base 2 "_law_one" (sp_l_one K) := by
  refine cl_of (k := 1) (N := ["_law_bag_here", "_law_things"]) (ps := ["_law_bag_here", "_law_things"]) (T.def_ 23 rfl) sc_l_one (fun vs H Q E h => ?_) (fun _ _ _ _ _ _ us hl => match us, hl with | [_, _], _ => rfl) (fun f cdv A outer s H vs Q E hr h => ?_)
  · obtain ⟨bg, c, l, xs, rfl, hB, hl, ne, h0, h1, q⟩ := h
    rfl
  · obtain ⟨bg, c, l, xs, rfl, hB, hl, ne, h0, h1, q⟩ := h
    have hu := hu_of hr
    have hu65 := hu65_of hr
    have hu64 := hr.units
    refine ⟨_, (pss_one (ps_ret (pe_ix (ix_listK K) (pv 1) (pe_cl (k := 1) (j := 1) (cl_l_take T) hr (by decide) (by rfl) (pa_cons (pv 0) (pa_cons (pe_callB (call_lenK K) (by rfl) (T.b 0 rfl) PySem.boot_len (pa_cons (pv 1) pa_nil)) pa_nil))) (fun _ _ => rfl)))), ?_⟩
    walk_at "rds"
    refine rd_lenL hl ?_
    walk_at "rds"
    refine ⟨bg, c, _, rfl, hB, by omega, by omega, fun r H1 g1 r0 r1 => ?_⟩
    have hr : r.toNat < xs.length := by omega
    exact rd_ixL (j := r.toNat) (SqL.of (g1.at_ hl ne)) (by omega) (List.getElem?_eq_getElem hr) (q _ H1 g1 (List.getElem_mem hr))
theorem insert_perm (xs : List V) (i : Nat) (y : V) : (xs.take i ++ [y] ++ xs.drop i).Perm (xs ++ [y]) := by
  have h : (xs.take i ++ ([y] ++ xs.drop i)).Perm (xs.take i ++ (xs.drop i ++ [y])) := List.Perm.append_left _ List.perm_append_comm
  rw [← List.append_assoc, ← List.append_assoc, List.take_append_drop] at h
  exact h
def sp_l_mixed (K : PySem.W.Frag) : Sp := fun vs H Q _ => ∃ (bg c l : Addr) (xs : List V), vs = [.ref bg, .ref l] ∧ Bag H bg c ∧ H l = some (.lst xs) ∧ l ≠ bg ∧ xs.length < 1000000 ∧ ∀ p H' ys, Gn bg c H H' → H p = none → H' p = some (.lst ys) → ys.Perm xs → Q (.ref p) H'
/-! ### _law_mixed -/
/- 0 bag_here, 1 things, 2 found, 3 thing -/
theorem sc_l_mixed : FnScope ["_law_bag_here", "_law_things", "_law_found", "_law_thing"] ["_law_bag_here", "_law_things"] (defScope (topS 34)) := ⟨rfl, rfl, rfl, by decide +kernel, rfl, by decide +kernel, by decide +kernel⟩
theorem cl_l_mixed (T : Top K mg) : Cl P w K mg base 2 "_law_mixed" (sp_l_mixed K) := by
  refine cl_of (k := 1) (N := ["_law_bag_here", "_law_things", "_law_found", "_law_thing"]) (ps := ["_law_bag_here", "_law_things"]) (T.def_ 24 rfl) sc_l_mixed (fun vs H Q E h => ?_) (fun _ _ _ _ _ _ us hl => match us, hl with | [_, _], _ => rfl) (fun f cdv A outer s H vs Q E hr h => ?_)
  · obtain ⟨bg, c, l, xs, rfl, hB, hl, ne, h1, q⟩ := h
    rfl
  · obtain ⟨bg, c, l, xs, rfl, hB, hl, ne, h1, q⟩ := h
    have hu := hu_of hr
    have hu65 := hu65_of hr
    have hu64 := hr.units
    refine ⟨_, (pss_cons (ps_set (i := 2) sc_l_mixed.nd rfl (.inl rfl) (pe_lst pa_nil))
  (pss_cons (ps_for PassesOwn.never rfl (pi_list (pv 1)) (pg_name (i := 3) sc_l_mixed.nd rfl (.inl rfl))
  (pss_one (ps_expr (pe_bm PySem.F.plainAttrs_list PySem.F.slot_list_insert PySem.F.type_list_insert mt_insert (pv 2) (pa_cons (pe_cl (k := 1) (j := 1) (cl_l_take T) hr (by decide) (by rfl) (pa_cons (pv 0) (pa_cons (pe_op op_add (pe_callB (call_lenK K) (by rfl) (T.b 0 rfl) PySem.boot_len (pa_cons (pv 2) pa_nil)) pe_int) pa_nil))) (pa_cons (pv 3) pa_nil))))))
  (pss_one (ps_ret (pv 2))))), ?_⟩
    walk_at "rds"
    refine ⟨sz_ok (by simp), fun F nF => ?_⟩
    generalize eH1 : upd _ F _ = H1
    obtain ⟨s1, hF⟩ := new_of eH1 nF
    have fb := hB.k1 nF
    walk_at "rds"
    refine ⟨l, rfl, ⟨_, SqL.of (s1 _ _ hl)⟩, ?_⟩
    refine forw (walk_list (xs := xs)) (fun j σ H2 => ∃ (ys : List V) (y3 : Option V), σ = [some (.ref bg), some (.ref l), some (.ref F), y3] ∧ Gn bg c H H2 ∧ H2 F = some (.lst ys) ∧ ys.Perm (xs.take j))
      ⟨[], none, rfl, Gn.of hB s1, hF, .nil⟩ (fun j σ H2 _ pv => ?_) (fun j x σ H2 H3 hj pv y => ?_) (fun σ H2 pv => ?_)
    · obtain ⟨_, _, _, g2, _⟩ := pv
      exact SqL.of (g2.at_ hl ne)
    · obtain ⟨ys, y3, rfl, g2, hF2, pm⟩ := pv
      obtain ⟨rfl, f1⟩ := y
      have tk : xs.take (j + 1) = xs.take j ++ [x] := by rw [List.take_add_one]; exact congrArg (xs.take j ++ ·) (congrArg Option.toList f1)
      have yl := pm.length_eq
      rw [List.length_take] at yl
      walk_at "rds"
      refine ⟨tyL hF2, ?_⟩
      walk_at "rds"
      refine rd_lenL hF2 ?_
      walk_at "rds"
      refine ⟨bg, c, _, rfl, g2.bag, by omega, by omega, fun r H4 g4 r0 r1 => ?_⟩
      walk_at "rds"
      have hF4 := g4.at_ hF2 fb
      refine ⟨F, ys, r, x, rfl, rfl, hF4, sz_lt (by omega), r0, by omega, ?_⟩
      exact ⟨_, _, rfl, (g2.trans g4).upd nF, upd_same, (insert_perm ys _ x).trans (by rw [tk]; exact List.Perm.append_right _ pm)⟩
    · obtain ⟨ys, y3, rfl, g2, hF2, pm⟩ := pv
      rw [List.take_length] at pm
      walk_at "rds"
      exact q F H2 ys g2 nF hF2 pm
def sp_l_flat (K : PySem.W.Frag) : Sp := fun vs H Q _ => ∃ (l : Addr) (qs : List Addr) (f : Addr → List V), vs = [.ref l] ∧ H l = some (.lst (qs.map V.ref)) ∧ (∀ q ∈ qs, H q = some (.lst (f q))) ∧ (qs.flatMap f).length ≤ 1000000 ∧ ∀ p H', Same H H' → H p = none → H' p = some (.lst (qs.flatMap f)) → Q (.ref p) H'
/-! ### _law_flat -/
/- 0 rows, 1 found, 2 row -/
theorem sc_l_flat : FnScope ["_law_rows", "_law_found", "_law_row"] ["_law_rows"] (defScope (topS 36)) := ⟨rfl, rfl, rfl, by decide +kernel, rfl, by decide +kernel, by decide +kernel⟩
theorem cl_l_flat (T : Top K mg) : Cl P w K mg base 1 "_law_flat" (sp_l_flat K) := by
  refine cl_of (k := 0) (N := ["_law_rows", "_law_found", "_law_row"]) (ps := ["_law_rows"]) (T.def_ 26 rfl) sc_l_flat (fun vs H Q E h => ?_) (fun _ _ _ _ _ _ us hl => match us, hl with | [_], _ => rfl) (fun f cdv A outer s H vs Q E hr h => ?_)
  · obtain ⟨l, qs, f, rfl, hl, hq, hlen, q⟩ := h
    rfl
  · obtain ⟨l, qs, f, rfl, hl, hq, hlen, q⟩ := h
    have hu := hu_of hr
    have hu65 := hu65_of hr
    have hu64 := hr.units
    refine ⟨_, (pss_cons (ps_set (i := 1) sc_l_flat.nd rfl (.inl rfl) (pe_lst pa_nil))
  (pss_cons (ps_for PassesOwn.never rfl (pi_list (pv 0)) (pg_name (i := 2) sc_l_flat.nd rfl (.inl rfl))
  (pss_one (ps_expr (pe_bm PySem.F.plainAttrs_list PySem.F.slot_list_extend PySem.F.type_list_extend mt_extend (pv 1) (pa_cons (pv 2) pa_nil)))))
  (pss_one (ps_ret (pv 1))))), ?_⟩
    walk_at "rds"
    refine ⟨sz_ok (by simp), fun F nF => ?_⟩
    generalize eH1 : upd _ F _ = H1
    obtain ⟨s1, hF⟩ := new_of eH1 nF
    walk_at "rds"
    refine ⟨l, rfl, ⟨_, SqL.of (s1 _ _ hl)⟩, ?_⟩
    refine forw (walk_list (xs := qs.map V.ref)) (fun j σ H2 => ∃ (y2 : Option V), σ = [some (.ref l), some (.ref F), y2] ∧ Same H H2 ∧ H2 F = some (.lst ((qs.take j).flatMap f)))
      ⟨none, rfl, s1, hF⟩ (fun j σ H2 _ pv => ?_) (fun j x σ H2 H3 hj pv y => ?_) (fun σ H2 pv => ?_)
    · obtain ⟨_, _, s2, _⟩ := pv
      exact SqL.of (s2 _ _ hl)
    · obtain ⟨y2, rfl, s2, hF2⟩ := pv
      obtain ⟨rfl, f1⟩ := y
      obtain ⟨j1, rfl⟩ := map_at f1
      have tk : qs.take (j + 1) = qs.take j ++ [qs[j]] := by rw [List.take_add_one, List.getElem?_eq_getElem j1]; rfl
      have hle : ((qs.take (j + 1)).flatMap f).length ≤ 1000000 := by
        refine Nat.le_trans ?_ hlen
        conv => rhs; rw [← List.take_append_drop (j + 1) qs]
        rw [List.flatMap_append, List.length_append]
        omega
      rw [tk, List.flatMap_append, List.flatMap_singleton] at hle ⊢
      rw [List.length_append] at hle
      have hqj := s2 _ _ (hq _ (List.getElem_mem j1))
      walk_at "rds"
      refine ⟨tyL hF2, ?_⟩
      walk_at "rds"
      refine rd_extend hF2 hqj (by omega) fun H4 b4 h4 => ?_
      exact ⟨_, rfl, Same.but s2 b4 nF, h4⟩
    · obtain ⟨y2, rfl, s2, hF2⟩ := pv
      rw [List.length_map, List.take_length] at hF2
      walk_at "rds"
      exact q F H2 s2 nF hF2
def sp_l_sum (K : PySem.W.Frag) : Sp := fun vs H Q _ => ∃ (v1 v2 : V) (ns ms : List Int), vs = [v1, v2] ∧ TD H v1 (dI ns) ∧ TD H v2 (dI ms) ∧ ns.length ≤ 1000 ∧ ∀ p H', Same H H' → TD H' (.ref p) (dI (List.zipWith (· + ·) ns ms)) → Q (.ref p) H'
/-! ### _law_sum -/
/- 0 one_here, 1 other, 2 more', 3 less_here' -/
theorem sc_l_sum : FnScope ["_law_one_here", "_law_other", "_law_more", "_law_less_here"] ["_law_one_here", "_law_other"] (defScope (topS 37)) := ⟨rfl, rfl, rfl, by decide +kernel, rfl, by decide +kernel, by decide +kernel⟩
theorem cl_l_sum (T : Top K mg) : Cl P w K mg base 1 "_law_sum" (sp_l_sum K) := by
  refine cl_of (k := 0) (N := ["_law_one_here", "_law_other", "_law_more", "_law_less_here"]) (ps := ["_law_one_here", "_law_other"]) (T.def_ 27 rfl) sc_l_sum (fun vs H Q E h => ?_) (fun _ _ _ _ _ _ us hl => match us, hl with | [_, _], _ => rfl) (fun f cdv A outer s H vs Q E hr h => ?_)
  · obtain ⟨v1, v2, ns, ms, rfl, h1, h2, hn, q⟩ := h
    rfl
  · obtain ⟨v1, v2, ns, ms, rfl, h1, h2, hn, q⟩ := h
    have hu := hu_of hr
    have hu65 := hu65_of hr
    have hu64 := hr.units
    refine ⟨_, (pss_one (ps_ret (pe_callTy (call_tupleK K) (by rfl) (T.b 7 rfl) (by decide +kernel) (pa_cons (pe_lc (own := [("_law_more", 2), ("_law_less_here", 3)]) (g := gTup K 2 (gCons (gName 2) (gCons (gName 3) gNil))) rfl sc_l_sum.nd  (RZ.pi_zipA (by rfl) (T.b 12 rfl) (pa_cons (pv 0) (pa_cons (pv 1) pa_nil))) (blkOk_by (N := ["_law_one_here", "_law_other", "_law_more", "_law_less_here"]) (sc := defScope (topS 37)) (by decide +kernel)) (fun _ _ _ _ _ => (pg_tup rfl (pgs_cons (pg_name (i := 2) sc_l_sum.nd rfl (.inl rfl)) (pgs_cons (pg_name (i := 3) sc_l_sum.nd rfl (.inl rfl)) pgs_nil)))) (fun _ _ _ _ _ => pts_nil) (fun _ _ _ _ _ => (pe_op op_add (pv 2) (pv 3)))) pa_nil)))), ?_⟩
    walk_at "rds"
    obtain ⟨a1, rfl, e1⟩ := h1.ints_inv
    obtain ⟨a2, rfl, e2⟩ := h2.ints_inv
    refine ⟨a1, a2, _, _, rfl, .inr ⟨SqT.of e1, SqT.of e2, fun D nD => ?_⟩⟩
    refine lcwM walk_zipT (fun i => .int (ns.getD i 0 + ms.getD i 0)) (by simp; omega) nD (fun H1 s1 => ⟨SqT.of (s1 _ _ e1), SqT.of (s1 _ _ e2)⟩) (fun i x H1 H2 Q' hi s1 y q' => ?_) (fun H1 s1 hD => ?_)
    · obtain ⟨T, x, z, rfl, hT, s2, f1, f2⟩ := y
      obtain ⟨i1, rfl⟩ := map_at f1
      obtain ⟨i2, rfl⟩ := map_at f2
      refine rd_pair hT ⟨rfl, ?_⟩
      walk_at "rds"
      have e : ns[i] + ms[i] = ns.getD i 0 + ms.getD i 0 := by simp [List.getD_eq_getElem?_getD, i1, i2]
      rw [e]
      exact q' H2 s2
    · walk_at "rds"
      refine rd_tupL hD fun p H2 np s2 hp => ?_
      refine q p H2 (s1.trans s2) (TD.ints ?_)
      rw [hp]
      congr 2
      apply List.ext_getElem
      · simp
      · intro i a b
        simp at a b
        have x : i < ns.length := by omega
        have y : i < ms.length := by omega
        simp [List.getD_eq_getElem?_getD, x, y]
def sp_l_less (K : PySem.W.Frag) : Sp := fun vs H Q _ => ∃ (v1 v2 : V) (ns ms : List Int), vs = [v1, v2] ∧ TD H v1 (dI ns) ∧ TD H v2 (dI ms) ∧ ns.length ≤ 1000 ∧ ∀ p H', Same H H' → TD H' (.ref p) (dI (List.zipWith (· - ·) ns ms)) → Q (.ref p) H'
/-! ### _law_less -/
/- 0 one_here, 1 other, 2 more', 3 less_here' -/
theorem sc_l_less : FnScope ["_law_one_here", "_law_other", "_law_more", "_law_less_here"] ["_law_one_here", "_law_other"] (defScope (topS 38)) := ⟨rfl, rfl, rfl, by decide +kernel, rfl, by decide +kernel, by decide +kernel⟩
theorem cl_l_less (T : Top K mg) : Cl P w K mg base 1 "_law_less" (sp_l_less K) := by
  refine cl_of (k := 0) (N := ["_law_one_here", "_law_other", "_law_more", "_law_less_here"]) (ps := ["_law_one_here", "_law_other"]) (T.def_ 28 rfl) sc_l_less (fun vs H Q E h => ?_) (fun _ _ _ _ _ _ us hl => match us, hl with | [_, _], _ => rfl) (fun f cdv A outer s H vs Q E hr h => ?_)
  · obtain ⟨v1, v2, ns, ms, rfl, h1, h2, hn, q⟩ := h
    rfl
  · obtain ⟨v1, v2, ns, ms, rfl, h1, h2, hn, q⟩ := h
    have hu := hu_of hr
    have hu65 := hu65_of hr
    have hu64 := hr.units
    refine ⟨_, (pss_one (ps_ret (pe_callTy (call_tupleK K) (by rfl) (T.b 7 rfl) (by decide +kernel) (pa_cons (pe_lc (own := [("_law_more", 2), ("_law_less_here", 3)]) (g := gTup K 2 (gCons (gName 2) (gCons (gName 3) gNil))) rfl sc_l_less.nd  (RZ.pi_zipA (by rfl) (T.b 12 rfl) (pa_cons (pv 0) (pa_cons (pv 1) pa_nil))) (blkOk_by (N := ["_law_one_here", "_law_other", "_law_more", "_law_less_here"]) (sc := defScope (topS 38)) (by decide +kernel)) (fun _ _ _ _ _ => (pg_tup rfl (pgs_cons (pg_name (i := 2) sc_l_less.nd rfl (.inl rfl)) (pgs_cons (pg_name (i := 3) sc_l_less.nd rfl (.inl rfl)) pgs_nil)))) (fun _ _ _ _ _ => pts_nil) (fun _ _ _ _ _ => (pe_op op_sub (pv 2) (pv 3)))) pa_nil)))), ?_⟩
    walk_at "rds"
    obtain ⟨a1, rfl, e1⟩ := h1.ints_inv
    obtain ⟨a2, rfl, e2⟩ := h2.ints_inv
    refine ⟨a1, a2, _, _, rfl, .inr ⟨SqT.of e1, SqT.of e2, fun D nD => ?_⟩⟩
    refine lcwM walk_zipT (fun i => .int (ns.getD i 0 - ms.getD i 0)) (by simp; omega) nD (fun H1 s1 => ⟨SqT.of (s1 _ _ e1), SqT.of (s1 _ _ e2)⟩) (fun i x H1 H2 Q' hi s1 y q' => ?_) (fun H1 s1 hD => ?_)
    · obtain ⟨T, x, z, rfl, hT, s2, f1, f2⟩ := y
      obtain ⟨i1, rfl⟩ := map_at f1
      obtain ⟨i2, rfl⟩ := map_at f2
      refine rd_pair hT ⟨rfl, ?_⟩
      walk_at "rds"
      have e : ns[i] - ms[i] = ns.getD i 0 - ms.getD i 0 := by simp [List.getD_eq_getElem?_getD, i1, i2]
      rw [e]
      exact q' H2 s2
    · walk_at "rds"
      refine rd_tupL hD fun p H2 np s2 hp => ?_
      refine q p H2 (s1.trans s2) (TD.ints ?_)
      rw [hp]
      congr 2
      apply List.ext_getElem
      · simp
      · intro i a b
        simp at a b
        have x : i < ns.length := by omega
        have y : i < ms.length := by omega
        simp [List.getD_eq_getElem?_getD, x, y]
def sp_l_times (K : PySem.W.Frag) : Sp := fun vs H Q _ => ∃ (v1 : V) (ns : List Int) (m : Int), vs = [v1, .int m] ∧ TD H v1 (dI ns) ∧ ns.length ≤ 1000 ∧ 0 ≤ m ∧ m ≤ 1000000 ∧ ∀ p H', Same H H' → TD H' (.ref p) (dI (ns.map (· * m))) → Q (.ref p) H'
/-! ### _law_times -/
/- 0 amounts, 1 many*, 2 number' -/
theorem sc_l_times : FnScope ["_law_amounts", "_law_many", "_law_number"] ["_law_amounts", "_law_many"] (defScope (topS 39)) := ⟨rfl, rfl, rfl, by decide +kernel, rfl, by decide +kernel, by decide +kernel⟩
theorem cl_l_times (T : Top K mg) : Cl P w K mg base 1 "_law_times" (sp_l_times K) := by
  refine cl_of (k := 0) (N := ["_law_amounts", "_law_many", "_law_number"]) (ps := ["_law_amounts", "_law_many"]) (T.def_ 29 rfl) sc_l_times (fun vs H Q E h => ?_) (fun _ _ _ _ _ _ us hl => match us, hl with | [_, _], _ => rfl) (fun f cdv A outer s H vs Q E hr h => ?_)
  · obtain ⟨v1, ns, m, rfl, h1, hn, hm, hm2, q⟩ := h
    rfl
  · obtain ⟨v1, ns, m, rfl, h1, hn, hm, hm2, q⟩ := h
    have hu := hu_of hr
    have hu65 := hu65_of hr
    have hu64 := hr.units
    refine ⟨_, (pss_one (ps_ret (pe_callTy (call_tupleK K) (by rfl) (T.b 7 rfl) (by decide +kernel) (pa_cons (pe_lc (own := [("_law_number", 2)]) (g := gName 2) rfl sc_l_times.nd  (pi_tup (pv 0)) (blkOk_by (N := ["_law_amounts", "_law_many", "_law_number"]) (sc := defScope (topS 39)) (by decide +kernel)) (fun _ _ _ _ _ => (pg_name (i := 2) sc_l_times.nd rfl (.inl rfl))) (fun _ _ _ _ _ => pts_nil) (fun _ _ _ _ _ => (pe_op op_mul (pv 2) (pv 1)))) pa_nil)))), ?_⟩
    walk_at "rds"
    obtain ⟨a1, rfl, e1⟩ := h1.ints_inv
    refine ⟨a1, rfl, ⟨_, SqT.of e1⟩, fun D nD => ?_⟩
    refine lcwM walk_tup (fun i => .int (ns.getD i 0 * m)) (by simp; omega) nD (fun H1 s1 => SqT.of (s1 _ _ e1)) (fun i x H1 H2 Q' hi s1 y q' => ?_) (fun H1 s1 hD => ?_)
    · obtain ⟨rfl, f1⟩ := y
      obtain ⟨i1, rfl⟩ := map_at f1
      walk_at "rds"
      refine ⟨rfl, ?_⟩
      walk_at "rds"
      refine rd_I (.inr (by omega)) ?_
      have e : ns.getD i 0 = ns[i] := by simp [List.getD_eq_getElem?_getD, i1]
      rw [e] at q'
      exact q' _ (Same.refl _)
    · rw [List.length_map, map_range_getD ns 0 (fun x => V.int (x * m))] at hD
      walk_at "rds"
      refine rd_tupL hD fun p H2 np s2 hp => ?_
      refine q p H2 (s1.trans s2) (TD.ints ?_)
      rw [hp, List.map_map]
      rfl
def sp_l_names (K : PySem.W.Frag) : Sp := fun vs H Q _ => ∃ (bg c : Addr), vs = [.ref bg, .int 8] ∧ Bag H bg c ∧ ∀ p H' (ss : List Str), Gn bg c H H' → H p = none → H' p = some (.lst (ss.map V.str)) → ss.length = 8 → (∀ s ∈ ss, PyData.strOk s = true) → Q (.ref p) H'
theorem strs_perm {ys : List V} {ss : List Str} (h : ys.Perm (ss.map V.str)) : ∃ ts : List Str, ys = ts.map V.str ∧ ts.Perm ss := by
  obtain ⟨l', p1, p2⟩ := L2.perm_lift V.str h ss rfl
  exact ⟨l', p2.symm, p1⟩
/-! ### _law_names -/
/- 0 bag_here, 1 many, 2 menu -/
theorem sc_l_names : FnScope ["_law_bag_here", "_law_many", "_law_menu"] ["_law_bag_here", "_law_many"] (defScope (topS 40)) := ⟨rfl, rfl, rfl, by decide +kernel, rfl, by decide +kernel, by decide +kernel⟩
theorem cl_l_names (T : Top K mg) : Cl P w K mg base 3 "_law_names" (sp_l_names K) := by
  refine cl_of (k := 2) (N := ["_law_bag_here", "_law_many", "_law_menu"]) (ps := ["_law_bag_here", "_law_many"]) (T.def_ 30 rfl) sc_l_names (fun vs H Q E h => ?_) (fun _ _ _ _ _ _ us hl => match us, hl with | [_, _], _ => rfl) (fun f cdv A outer s H vs Q E hr h => ?_)
  · obtain ⟨bg, c, rfl, hB, q⟩ := h
    rfl
  · obtain ⟨bg, c, rfl, hB, q⟩ := h
    have hu := hu_of hr
    have hu65 := hu65_of hr
    have hu64 := hr.units
    refine ⟨_, (pss_cons (ps_set (i := 2) sc_l_names.nd rfl (.inl rfl) (pe_lst (pa_cons pe_str (pa_cons pe_str (pa_cons pe_str (pa_cons pe_str (pa_cons pe_str (pa_cons pe_str (pa_cons pe_str (pa_cons pe_str (pa_cons pe_str (pa_cons pe_str (pa_cons pe_str (pa_cons pe_str (pa_cons pe_str pa_nil)))))))))))))))
  (pss_one (ps_ret (pe_slice (sl_listK K) (pe_cl (k := 2) (j := 2) (cl_l_mixed T) hr (by decide) (by rfl) (pa_cons (pv 0) (pa_cons (pe_op op_cat (pv 2) (pe_lst (pa_cons pe_str (pa_cons pe_str (pa_cons pe_str (pa_cons pe_str (pa_cons pe_str (pa_cons pe_str pa_nil)))))))) pa_nil))) po_none (po_some (pv 1)))))), ?_⟩
    walk_at "rds"
    refine ⟨sz_ok (by simp), fun M nM => ?_⟩
    generalize eH1 : upd _ M _ = H1
    obtain ⟨s1, hM⟩ := new_of eH1 nM
    walk_at "rds"
    refine ⟨sz_ok (by simp), fun M2 nM2 => ?_⟩
    generalize eH2 : upd _ M2 _ = H2
    obtain ⟨s2, hM2⟩ := new_of eH2 nM2
    refine rd_cat (s2 _ _ hM) hM2 (by simp) fun p3 H3 n3 s3 h3 => ?_
    walk_at "rds"
    have s13 := s1.trans (s2.trans s3)
    have np3 : H p3 = none := (s1.trans s2).free n3
    refine ⟨bg, c, p3, _, rfl, hB.same s13, h3, hB.k1 np3, by simp, fun p4 H4 ys g4 n4 h4 pm => ?_⟩
    have g : Gn bg c H H4 := (Gn.of hB s13).trans g4
    obtain ⟨ts, rfl, pt⟩ := strs_perm (ss := ["a", "b", "c", "d", "ab", "to", "by", "with", "kinds", "hands", "recipe", "run", "places", "arrow", "gym", "jvl", "zzzzzz", "x", "fq"]) (ys := ys) pm
    walk_at "rds"
    refine rd_slL h4 (cutV_to _ 8) fun p5 H5 n5 s5 h5 => ?_
    refine q p5 H5 (ts.take 8) (g.same s5) (g.free n5) (by rw [h5, List.map_take]) ?_ fun s hs => ?_
    · rw [List.length_take, pt.length_eq]
      rfl
    · have z := pt.mem_iff.mp (List.mem_of_mem_take hs)
      have all : ∀ s ∈ (["a", "b", "c", "d", "ab", "to", "by", "with", "kinds", "hands", "recipe", "run", "places", "arrow", "gym", "jvl", "zzzzzz", "x", "fq"] : List Str), PyData.strOk s = true := by decide +kernel
      exact all s z
def sp_l_nothing (K : PySem.W.Frag) : Sp := fun vs H Q _ => ∃ (a k : Addr) (xs vs' : List V), vs = [.ref a] ∧ H a = some (.tup (.ref k :: vs')) ∧ SqT K H k xs ∧ xs.length ≤ 1000 ∧ ∀ p H', Same H H' → TD H' (.ref p) (dI (List.replicate xs.length 0)) → Q (.ref p) H'
/-! ### _law_nothing -/
/- 0 works_here -/
theorem sc_l_nothing : FnScope ["_law_works_here"] ["_law_works_here"] (defScope (topS 44)) := ⟨rfl, rfl, rfl, by decide +kernel, rfl, by decide +kernel, by decide +kernel⟩
theorem cl_l_nothing (T : Top K mg) : Cl P w K mg base 1 "_law_nothing" (sp_l_nothing K) := by
  refine cl_of (k := 0) (N := ["_law_works_here"]) (ps := ["_law_works_here"]) (T.def_ 34 rfl) sc_l_nothing (fun vs H Q E h => ?_) (fun _ _ _ _ _ _ us hl => match us, hl with | [_], _ => rfl) (fun f cdv A outer s H vs Q E hr h => ?_)
  · obtain ⟨a, k, xs, vs', rfl, hW, hx, hk, q⟩ := h
    rfl
  · obtain ⟨a, k, xs, vs', rfl, hW, hx, hk, q⟩ := h
    have hu := hu_of hr
    have hu65 := hu65_of hr
    have hu64 := hr.units
    refine ⟨_, (pss_one (ps_ret (pe_op op_repU (pe_tup (pa_cons pe_int pa_nil)) (pe_callB (call_lenK K) (by rfl) (T.b 0 rfl) PySem.boot_len (pa_cons (pe_ix (ix_tupK K) (pv 0) pe_int (fun _ _ => rfl)) pa_nil))))), ?_⟩
    walk_at "rds"
    refine ⟨sz_ok (by simp), fun p np => ?_⟩
    generalize eH1 : upd _ p _ = H1
    obtain ⟨s1, hp⟩ := new_of eH1 np
    walk_at "rds"
    refine rd_ixTi (j := 0) (s1 _ _ hW) rfl rfl ?_
    walk_at "rds"
    refine ⟨k, xs, rfl, .inr (SqT.to hx fun o ho => s1 _ _ ho), ?_⟩
    refine ⟨p, _, _, rfl, rfl, hp, by simp, by omega, by omega, by simp, fun p2 H2 s2 h2 => ?_⟩
    refine q p2 H2 (s1.trans s2) (TD.ints ?_)
    rw [h2]
    congr 2
    simp
def sp_l_part (K : PySem.W.Frag) : Sp := fun vs H Q _ => ∃ (bg c : Addr) (v : V) (ns : List Int), vs = [.ref bg, v] ∧ Bag H bg c ∧ TD H v (dI ns) ∧ ns.length ≤ 1000 ∧ (∀ n ∈ ns, 0 ≤ n ∧ n ≤ 100) ∧
  ∀ p H' (ms : List Int), Gn bg c H H' → TD H' (.ref p) (dI ms) → ms.length = ns.length → (∀ m ∈ ms, 0 ≤ m ∧ m ≤ 100) → Q (.ref p) H'
/-! ### _law_part -/
/- 0 bag_here*, 1 lot, 2 number' -/
theorem sc_l_part : FnScope ["_law_bag_here", "_law_lot", "_law_number"] ["_law_bag_here", "_law_lot"] (defScope (topS 47)) := ⟨rfl, rfl, rfl, by decide +kernel, rfl, by decide +kernel, by decide +kernel⟩
theorem cl_l_part (T : Top K mg) : Cl P w K mg base 2 "_law_part" (sp_l_part K) := by
  refine cl_of (k := 1) (N := ["_law_bag_here", "_law_lot", "_law_number"]) (ps := ["_law_bag_here", "_law_lot"]) (T.def_ 37 rfl) sc_l_part (fun vs H Q E h => ?_) (fun _ _ _ _ _ _ us hl => match us, hl with | [_, _], _ => rfl) (fun f cdv A outer s H vs Q E hr h => ?_)
  · obtain ⟨bg, c, v, ns, rfl, hB, hv, hn, hb, q⟩ := h
    rfl
  · obtain ⟨bg, c, v, ns, rfl, hB, hv, hn, hb, q⟩ := h
    have hu := hu_of hr
    have hu65 := hu65_of hr
    have hu64 := hr.units
    refine ⟨_, (pss_one (ps_ret (pe_callTy (call_tupleK K) (by rfl) (T.b 7 rfl) (by decide +kernel) (pa_cons (pe_lc (own := [("_law_number", 2)]) (g := gName 2) rfl sc_l_part.nd  (pi_tup (pv 1)) (blkOk_by (N := ["_law_bag_here", "_law_lot", "_law_number"]) (sc := defScope (topS 47)) (by decide +kernel)) (fun _ _ _ _ _ => (pg_name (i := 2) sc_l_part.nd rfl (.inl rfl))) (fun _ _ _ _ _ => pts_nil) (fun _ _ _ _ _ => (pe_cl (k := 1) (j := 1) (cl_l_take T) hr (by decide) (by rfl) (pa_cons (pv 0) (pa_cons (pe_op op_add (pv 2) pe_int) pa_nil))))) pa_nil)))), ?_⟩
    obtain ⟨a1, rfl, e1⟩ := hv.ints_inv
    have ea : a1 ≠ bg := fun e => by
      obtain ⟨_, _, _, h⟩ := hB.at_
      rw [← e, e1] at h
      cases h
    walk_at "rds"
    refine ⟨a1, rfl, ⟨_, SqT.of e1⟩, fun D nD => ?_⟩
    refine lcw walk_tup (fun i acc H1 => Gn bg c H H1 ∧ ∃ ms : List Int, acc = ms.map V.int ∧ ms.length = i ∧ ∀ m ∈ ms, 0 ≤ m ∧ m ≤ 100) ⟨(Gn.refl hB).upd nD, [], rfl, rfl, fun m hm => absurd hm List.not_mem_nil⟩ (fun i acc H1 p => SqT.of (p.1.at_ e1 ea))
      (fun i x acc H1 H2 hi hl hD p y => ?_) (fun acc H1 hD hl p => ?_)
    · obtain ⟨g1, ms, rfl, ml, mb⟩ := p
      obtain ⟨rfl, f1⟩ := y
      obtain ⟨i1, rfl⟩ := map_at f1
      have := hb _ (List.getElem_mem i1)
      walk_at "rds"
      refine ⟨rfl, ?_⟩
      walk_at "rds"
      refine iteT ?_
      walk_at "rds"
      refine ⟨bg, c, _, rfl, g1.bag, by omega, by omega, fun r H3 g3 r0 r1 => ?_⟩
      refine lcn (g3.at_ hD (hB.k1 nD)) hl (by omega) ⟨(g1.trans g3).upd nD, ms ++ [r], by rw [List.map_append]; rfl, by simp [ml], fun m hm => ?_⟩
      rcases List.mem_append.mp hm with z | z
      · exact mb m z
      · rw [List.mem_singleton.mp z]
        omega
    · obtain ⟨g1, ms, rfl, ml, mb⟩ := p
      rw [List.length_map] at ml
      walk_at "rds"
      refine rd_tupL hD fun p H2 np s2 hp => ?_
      exact q p H2 ms (g1.same s2) (TD.ints hp) ml mb
end
section
variable {P : Program} {w : World} {K : PySem.W.Frag} {mg : Str → Option Value} {base : Heap}
structure Recipe where
  takes : List Int
  puts : List Int
  hand : Option Str
def dHand : Option Str → PyData
  | none => .none
  | some s => .str s
def vHand : Option Str → V
  | none => .non
  | some s => .str s
def dRec (r : Recipe) : PyData := .tuple [dI r.takes, dI r.puts, dHand r.hand]
structure Recipe.Ok (r : Recipe) (n : Nat) (hands : List Str) : Prop where
  takes : r.takes.length = n
  puts : r.puts.length = n
  bt : ∀ x ∈ r.takes, 0 ≤ x ∧ x ≤ 200
  bp : ∀ x ∈ r.puts, 0 ≤ x ∧ x ≤ 200
  hand : ∀ h, r.hand = some h → h ∈ hands
/-- a list of n small ints -/
def IL (H : Hp) (p : Addr) (n : Nat) : Prop := ∃ ns : List Int, H p = some (.lst (ns.map V.int)) ∧ ns.length = n ∧ ∀ x ∈ ns, 0 ≤ x ∧ x ≤ 200
theorem IL.to {H H' : Hp} {p : Addr} {n : Nat} (h : IL H p n) (e : ∀ o, H p = some o → H' p = some o) : IL H' p n := by
  obtain ⟨ns, h1, h2⟩ := h
  exact ⟨ns, e _ h1, h2⟩
theorem rd_setIL {H : Hp} {p : Addr} {n : Nat} {i : Int} {x : Int} {R : Hp → Prop} (h : IL H p n) (h0 : 0 ≤ i) (h1 : i < n) (b0 : 0 ≤ x) (b1 : x ≤ 200) (q : ∀ H1, But p H H1 → IL H1 p n → R H1) : rSetL (.ref p) (.int i) (.int x) H R := by
  obtain ⟨ns, hp, hl, hb⟩ := h
  refine rd_setL (j := i.toNat) hp (by omega) (by rw [List.length_map]; omega) fun H1 b h1 => q H1 b ⟨ns.set i.toNat x, ?_, by rw [List.length_set]; exact hl, fun y hy => ?_⟩
  · rw [h1, List.map_set]
  · rcases List.mem_or_eq_of_mem_set hy with z | z
    · exact hb y z
    · rw [z]; exact ⟨b0, b1⟩
theorem rd_rep0 {H : Hp} {Q : VK} {l : Addr} {n : Nat} (h : H l = some (.lst [.int 0])) (hn : n ≤ 1000) (q : ∀ p H1, H p = none → Same H H1 → IL H1 p n → Q (.ref p) H1) : rRep (.ref l) (.int (n : Int)) H Q := by
  refine ⟨l, (n : Int), [.int 0], rfl, rfl, h, by omega, by omega, sz_ok (by simp; omega), rd_new (R := fun p H1 => Q (.ref p) H1) fun p H1 np s hp => q p H1 np s ⟨List.replicate n 0, ?_, by simp, fun x hx => ?_⟩⟩
  · rw [hp]
    congr 2
    rw [Int.toNat_natCast, List.flatten_replicate_singleton, List.map_replicate]
  · rw [(List.mem_replicate.mp hx).2]
    omega
/-- the hands, and None -/
theorem hands_mem {ss : List Str} {v : V} {k : Nat} (h : v ∈ (List.replicate k (ss.map V.str)).flatten ++ [V.non]) : ∃ o : Option Str, v = vHand o ∧ ∀ x, o = some x → x ∈ ss := by
  rcases List.mem_append.mp h with z | z
  · obtain ⟨l, hl, hv⟩ := List.mem_flatten.mp z
    rw [(List.mem_replicate.mp hl).2] at hv
    obtain ⟨x, hx, rfl⟩ := List.mem_map.mp hv
    exact ⟨some x, rfl, fun y hy => by cases hy; exact hx⟩
  · rw [List.mem_singleton.mp z]
    exact ⟨none, rfl, fun y hy => by cases hy⟩
theorem TD.hand {H : Hp} (o : Option Str) : TD H (vHand o) (dHand o) := by
  cases o with
  | none => exact .non
  | some s => exact .str s
def dStrs (ss : List Str) : PyData := .tuple (ss.map PyData.str)
theorem TDs.strs_eq {H : Hp} : ∀ {vs : List V} {ss : List Str}, TDs H vs (ss.map PyData.str) → vs = ss.map V.str
  | [], [], _ => rfl
  | [], _ :: _, h => by cases h
  | _ :: _, [], h => by cases h
  | v :: vs, n :: ns, h => by
    cases h with
    | cons a t => rw [a.str_eq, TDs.strs_eq t]; rfl
theorem TDs.strs {H : Hp} : ∀ ss : List Str, TDs H (ss.map V.str) (ss.map PyData.str)
  | [] => .nil
  | s :: ss => .cons (.str s) (TDs.strs ss)
theorem TD.strs_inv {H : Hp} {v : V} {ss : List Str} (h : TD H v (dStrs ss)) : ∃ a, v = .ref a ∧ H a = some (.tup (ss.map V.str)) := by
  obtain ⟨a, xs, e, h1, t⟩ := h.tup_inv
  rw [t.strs_eq] at h1
  exact ⟨a, e, h1⟩
theorem rd_handList {H : Hp} {Q : VK} {l : Addr} {ss : List Str} {k : Nat} (h : H l = some (.lst (ss.map V.str))) (hs : ss.length ≤ 100) (hk : k ≤ 10) (q : ∀ p H1, H p = none → Same H H1 → H1 p = some (.lst (List.replicate k (ss.map V.str)).flatten) → Q (.ref p) H1) : rRep (.ref l) (.int (k : Int)) H Q := by
  refine ⟨l, (k : Int), _, rfl, rfl, h, by omega, by omega, sz_ok ?_, rd_new (R := fun p H1 => Q (.ref p) H1) fun p H1 np s hp => q p H1 np s ?_⟩
  · rw [List.length_map, Int.toNat_natCast]
    have := Nat.mul_le_mul hs hk
    omega
  · rw [hp, Int.toNat_natCast]
theorem Gn.sq {K : PySem.W.Frag} {bg c : Addr} {H H' : Hp} {a : Addr} {xs : List V} (g : Gn bg c H H') (h : SqT K H a xs) : SqT K H' a xs := by
  obtain ⟨_, _, _, hb⟩ := g.from_.at_
  rcases h with (h | ⟨o', h⟩) | h
  · exact .inl (.inl (g.at_ h (ne_of h hb (fun z => by cases z))))
  · exact .inl (.inr ⟨o', g.at_ h (ne_of h hb (fun z => by cases z))⟩)
  · exact .inr h
theorem rd_listT {K : PySem.W.Frag} {H : Hp} {Q : VK} {a : Addr} {xs : List V} (h : SqT K H a xs) (q : ∀ p H1, H p = none → Same H H1 → H1 p = some (.lst xs) → Q (.ref p) H1) : rListOf K [.ref a] H Q :=
  ⟨a, xs, rfl, .inr h, rd_new (R := fun p H1 => Q (.ref p) H1) q⟩
theorem flat_len {ss : List Str} (k : Nat) (hs : ss.length ≤ 100) (hk : k ≤ 10) : ((List.replicate k (ss.map V.str)).flatten).length ≤ 1000 := by
  rw [List.length_flatten, List.map_replicate, List.sum_replicate_nat, List.length_map]
  have := Nat.mul_le_mul hk hs
  omega
def sp_l_recipe (K : PySem.W.Frag) : Sp := fun vs H Q _ => ∃ (bg c : Addr) (n : Nat) (av : Addr) (ss : List Str) (m : Int), vs = [.ref bg, .int (n : Int), .ref av, .int m] ∧ Bag H bg c ∧ 1 ≤ n ∧ n ≤ 100 ∧ SqT K H av (ss.map V.str) ∧ ss.length ≤ 100 ∧ 0 < m ∧ m ≤ 100 ∧
  ∀ p H' (r : Recipe), Gn bg c H H' → TD H' (.ref p) (dRec r) → r.Ok n ss → Q (.ref p) H'
/-! ### _law_recipe -/
/- 0 bag_here, 1 size, 2 hands, 3 most, 4 last, 5 menu, 6 takes, 7 puts, 8 place -/
theorem sc_l_recipe : FnScope ["_law_bag_here", "_law_size", "_law_hands", "_law_most", "_law_last", "_law_menu", "_law_takes", "_law_puts", "_law_place"] ["_law_bag_here", "_law_size", "_law_hands", "_law_most"] (defScope (topS 41)) := ⟨rfl, rfl, rfl, by decide +kernel, rfl, by decide +kernel, by decide +kernel⟩
theorem cl_l_recipe (T : Top K mg) : Cl P w K mg base 3 "_law_recipe" (sp_l_recipe K) := by
  refine cl_of (k := 2) (N := ["_law_bag_here", "_law_size", "_law_hands", "_law_most", "_law_last", "_law_menu", "_law_takes", "_law_puts", "_law_place"]) (ps := ["_law_bag_here", "_law_size", "_law_hands", "_law_most"]) (T.def_ 31 rfl) sc_l_recipe (fun vs H Q E h => ?_) (fun _ _ _ _ _ _ us hl => match us, hl with | [_, _, _, _], _ => rfl) (fun f cdv A outer s H vs Q E hr h => ?_)
  · obtain ⟨bg, c, n, av, ss, m, rfl, hB, hn, hn2, hav, hss, hm, hm2, q⟩ := h
    rfl
  · obtain ⟨bg, c, n, av, ss, m, rfl, hB, hn, hn2, hav, hss, hm, hm2, q⟩ := h
    have hu := hu_of hr
    have hu65 := hu65_of hr
    have hu64 := hr.units
    refine ⟨_, (pss_cons (ps_set (i := 4) sc_l_recipe.nd rfl (.inl rfl) (pe_cl (k := 1) (j := 2) (cl_l_take T) hr (by decide) (by rfl) (pa_cons (pv 0) (pa_cons (pv 1) pa_nil))))
  (pss_cons (ps_par3 (i := 5) (j := 6) (l := 7) rfl sc_l_recipe.nd rfl rfl rfl (by decide) (by decide) (by decide) rfl rfl rfl (pa_cons (pe_lst (pa_cons pe_int (pa_cons pe_int (pa_cons pe_int (pa_cons (pe_op op_add pe_int (pe_cl (k := 1) (j := 2) (cl_l_take T) hr (by decide) (by rfl) (pa_cons (pv 0) (pa_cons (pv 3) pa_nil)))) pa_nil))))) (pa_cons (pe_op op_rep (pe_lst (pa_cons pe_int pa_nil)) (pv 1)) (pa_cons (pe_op op_rep (pe_lst (pa_cons pe_int pa_nil)) (pv 1)) pa_nil))) (by rfl))
  (pss_cons (ps_for PassesOwn.never rfl (pi_range1 (by rfl) (T.b 1 rfl) (pa_cons (pv 1) pa_nil)) (pg_name (i := 8) sc_l_recipe.nd rfl (.inl rfl))
  (pss_one (ps_if (pt_cmpR op_lt (pv 8) (pv 4) (nomark _)) (pss_one (ps_asg (pe_cl (k := 2) (j := 2) (cl_l_one T) hr (by decide) (by rfl) (pa_cons (pv 0) (pa_cons (pv 5) pa_nil))) (pg_sub (pv 6) (pv 8) set_list))) (pss_one (ps_if (PW.pt (pw_and (pt_cmpR op_gt (pv 8) (pv 4) (nomark _)) (pw_and1 (pt_cmpR op_eq (pe_cl (k := 1) (j := 2) (cl_l_take T) hr (by decide) (by rfl) (pa_cons (pv 0) (pa_cons pe_int pa_nil))) pe_int (nomark _))))) (pss_one (ps_asg (pe_cl (k := 2) (j := 2) (cl_l_one T) hr (by decide) (by rfl) (pa_cons (pv 0) (pa_cons (pv 5) pa_nil))) (pg_sub (pv 7) (pv 8) set_list))) pss_nil)))))
  (pss_cons (ps_asg (pe_cl (k := 2) (j := 2) (cl_l_one T) hr (by decide) (by rfl) (pa_cons (pv 0) (pa_cons (pe_lst (pa_cons pe_int (pa_cons pe_int (pa_cons pe_int (pa_cons pe_int (pa_cons (pe_op op_add pe_int (pe_cl (k := 1) (j := 2) (cl_l_take T) hr (by decide) (by rfl) (pa_cons (pv 0) (pa_cons (pv 3) pa_nil)))) pa_nil)))))) pa_nil))) (pg_sub (pv 6) (pv 4) set_list))
  (pss_one (ps_ret (pe_tup (pa_cons (pe_callTy (call_tupleK K) (by rfl) (T.b 7 rfl) (by decide +kernel) (pa_cons (pv 6) pa_nil)) (pa_cons (pe_callTy (call_tupleK K) (by rfl) (T.b 7 rfl) (by decide +kernel) (pa_cons (pv 7) pa_nil)) (pa_cons (pe_cl (k := 2) (j := 2) (cl_l_one T) hr (by decide) (by rfl) (pa_cons (pv 0) (pa_cons (pe_op op_cat (pe_op op_rep (pe_callTy (call_listK K) (by rfl) (T.b 8 rfl) (by decide +kernel) (pa_cons (pv 2) pa_nil)) pe_int) (pe_lst (pa_cons pe_non pa_nil))) pa_nil))) pa_nil)))))))))), ?_⟩
    walk_at "rds"
    refine ⟨bg, c, _, rfl, hB, by omega, by omega, fun last H1 g1 l0 l1 => ?_⟩
    walk_at "rds"
    refine ⟨bg, c, _, rfl, g1.bag, by omega, by omega, fun x5 H2 g2 x0 x1 => ?_⟩
    walk_at "rds"
    refine ⟨sz_ok (by simp), fun M nM => ?_⟩
    generalize eH3 : upd _ M _ = H3
    obtain ⟨s3, hM⟩ := new_of eH3 nM
    walk_at "rds"
    refine ⟨sz_ok (by simp), fun z1 nz1 => ?_⟩
    generalize eH4 : upd _ z1 _ = H4
    obtain ⟨s4, hz1⟩ := new_of eH4 nz1
    walk_at "rds"
    refine rd_rep0 (n := n) hz1 (by omega) fun tk H5 n5 s5 h5 => ?_
    walk_at "rds"
    refine ⟨sz_ok (by simp), fun z2 nz2 => ?_⟩
    generalize eH6 : upd _ z2 _ = H6
    obtain ⟨s6, hz2⟩ := new_of eH6 nz2
    walk_at "rds"
    refine rd_rep0 (n := n) hz2 (by omega) fun pt H7 n7 s7 h7 => ?_
    walk_at "rds"
    have g12 := g1.trans g2
    have g7 : Gn bg c H H7 := g12.same (s3.trans (s4.trans (s5.trans (s6.trans s7))))
    have fM : H M = none := g12.free nM
    have ftk : H tk = none := (g12.same (s3.trans s4)).free n5
    have fpt : H pt = none := (g12.same (s3.trans (s4.trans (s5.trans s6)))).free n7
    have hM7 := (s4.trans (s5.trans (s6.trans s7))) _ _ hM
    have h57 := h5.to fun o ho => (s6.trans s7) _ _ ho
    have neMt : M ≠ tk := fun e => by rw [← e, s4 _ _ hM] at n5; cases n5
    have neMp : M ≠ pt := fun e => by rw [← e, (s4.trans (s5.trans s6)) _ _ hM] at n7; cases n7
    have netp : tk ≠ pt := fun e => by
      obtain ⟨ns, hh, _⟩ := h5
      rw [← e, s6 _ _ hh] at n7
      cases n7
    have bM := hB.k1 fM
    have btk := hB.k1 ftk
    have bpt := hB.k1 fpt
    have menu : ∀ w ∈ [V.int 0, V.int 1, V.int 0, V.int (1 + x5)], ∃ x : Int, w = .int x ∧ 0 ≤ x ∧ x ≤ 200 := fun w hw => by
      simp only [List.mem_cons, List.not_mem_nil, or_false] at hw
      rcases hw with e | e | e | e <;> exact ⟨_, e, by omega, by omega⟩
    refine ⟨_, rfl, by omega, by omega, ?_⟩
    refine forw walk_range0 (fun j σ H8 => ∃ y8, σ = [some (.ref bg), some (.int (n : Int)), some (.ref av), some (.int m), some (.int last), some (.ref M), some (.ref tk), some (.ref pt), y8] ∧ Gn bg c H H8 ∧ H8 M = some (.lst [V.int 0, V.int 1, V.int 0, V.int (1 + x5)]) ∧ IL H8 tk n ∧ IL H8 pt n)
      ⟨none, rfl, g7, hM7, h57, h7⟩ (fun _ _ _ _ _ => trivial) (fun j x σ H8 H9 hj pv y => ?_) (fun σ H8 pv => ?_)
    · obtain ⟨y8, rfl, g8, hM8, h8t, h8p⟩ := pv
      obtain ⟨rfl, rfl⟩ := y
      walk_at "rds"
      refine ite3 (fun hc => ?_) (fun hc => ?_)
      · have hc' := of_decide_eq_true hc
        walk_at "rds"
        refine ⟨bg, c, M, _, rfl, g8.bag, hM8, bM, by simp, by simp, fun w H10 g10 hw => ?_⟩
        obtain ⟨x, rfl, bx0, bx1⟩ := menu w hw
        walk_at "rds"
        refine rd_setIL (h8t.to fun o ho => g10.at_ ho btk) (by omega) (by omega) bx0 bx1 fun H11 b11 h11 => ?_
        exact ⟨_, rfl, (g8.trans g10).mut b11 ftk, b11 _ _ neMt (g10.at_ hM8 bM), h11, h8p.to fun o ho => b11 _ _ netp.symm (g10.at_ ho bpt)⟩
      · walk_at "rds"
        refine ite3 (fun hc => ?_) (fun hc => ?_)
        · walk_at "rds"
          refine ⟨bg, c, _, rfl, g8.bag, by omega, by omega, fun r H10 g10 r0 r1 => ?_⟩
          walk_at "rds"
          refine ite3 (fun hc => ?_) (fun hc => ?_)
          · walk_at "rds"
            have g810 := g8.trans g10
            have hM10 := g10.at_ hM8 bM
            refine ⟨bg, c, M, _, rfl, g810.bag, hM10, bM, by simp, by simp, fun w H11 g11 hw => ?_⟩
            obtain ⟨x, rfl, bx0, bx1⟩ := menu w hw
            walk_at "rds"
            have g1011 := g10.trans g11
            refine rd_setIL (h8p.to fun o ho => g1011.at_ ho bpt) (by omega) (by omega) bx0 bx1 fun H12 b12 h12 => ?_
            exact ⟨_, rfl, (g8.trans g1011).mut b12 fpt, b12 _ _ neMp (g1011.at_ hM8 bM), h8t.to fun o ho => b12 _ _ netp (g1011.at_ ho btk), h12⟩
          · walk_at "rds"
            exact ⟨_, rfl, g8.trans g10, g10.at_ hM8 bM, h8t.to fun o ho => g10.at_ ho btk, h8p.to fun o ho => g10.at_ ho bpt⟩
        · refine iteF ?_
          walk_at "rds"
          exact ⟨_, rfl, g8, hM8, h8t, h8p⟩
    · obtain ⟨y8, rfl, g8, hM8, h8t, h8p⟩ := pv
      walk_at "rds"
      refine ⟨bg, c, _, rfl, g8.bag, by omega, by omega, fun r H9 g9 r0 r1 => ?_⟩
      walk_at "rds"
      refine ⟨sz_ok (by simp), fun L nL => ?_⟩
      generalize eH10 : upd _ L _ = H10
      obtain ⟨s10, hL⟩ := new_of eH10 nL
      have fL := g9.free nL
      walk_at "rds"
      have g10 := g9.same s10
      refine ⟨bg, c, L, _, rfl, g10.bag, hL, g8.bag.k1 fL, by simp, by simp, fun w H11 g11 hw => ?_⟩
      obtain ⟨x, rfl, bx0, bx1⟩ : ∃ x : Int, w = .int x ∧ 0 ≤ x ∧ x ≤ 200 := by
        simp only [List.mem_cons, List.not_mem_nil, or_false] at hw
        rcases hw with e | e | e | e | e <;> exact ⟨_, e, by omega, by omega⟩
      have g11' := g10.trans g11
      walk_at "rds"
      refine rd_setIL (h8t.to fun o ho => g11'.at_ ho btk) l0 (by omega) bx0 bx1 fun H12 b12 h12 => ?_
      have g12 := (g8.trans g11').mut b12 ftk
      have h12p := h8p.to fun o ho => b12 _ _ netp.symm (g11'.at_ ho bpt)
      obtain ⟨ts, ht1, ht2, ht3⟩ := h12
      obtain ⟨us, hu1, hu2, hu3⟩ := h12p
      walk_at "rds"
      refine rd_tupL ht1 fun p13 H13 n13 s13 h13 => ?_
      walk_at "rds"
      refine rd_tupL (s13 _ _ hu1) fun p14 H14 n14 s14 h14 => ?_
      walk_at "rds"
      have s1314 := s13.trans s14
      have hav14 := SqT.to (g12.sq hav) fun o ho => s1314 _ _ ho
      refine rd_listT hav14 fun p15 H15 n15 s15 h15 => ?_
      walk_at "rds"
      refine rd_handList (k := 2) h15 hss (by omega) fun p16 H16 n16 s16 h16 => ?_
      walk_at "rds"
      refine ⟨sz_ok (by simp), fun p17 n17 => ?_⟩
      generalize eH17 : upd _ p17 _ = H17
      obtain ⟨s17, h17⟩ := new_of eH17 n17
      have fl := flat_len (ss := ss) 2 hss (by omega)
      refine rd_cat (s17 _ _ h16) h17 (by rw [List.length_singleton]; omega) fun p18 H18 n18 s18 h18 => ?_
      walk_at "rds"
      have s1418 : Same H14 H18 := s15.trans (s16.trans (s17.trans s18))
      have g18 := g12.same (s1314.trans s1418)
      have f18 : H p18 = none := (g12.same (s1314.trans (s15.trans (s16.trans s17)))).free n18
      refine ⟨bg, c, p18, _, rfl, g18.bag, h18, hB.k1 f18, by rw [List.length_append, List.length_singleton]; omega, by rw [List.length_append, List.length_singleton]; omega, fun w H19 g19 hw => ?_⟩
      obtain ⟨o, rfl, ho⟩ := hands_mem hw
      walk_at "rds"
      refine ⟨sz_ok (by simp), rd_new (R := fun p H1 => Q (.ref p) H1) fun p H20 np s20 hp => ?_⟩
      have le19 : Le H14 H20 := ((Same.le s1418).trans g19.le).trans (Same.le s20)
      exact q p H20 ⟨ts, us, o⟩ ((g18.trans g19).same s20) (.tup hp (.cons (TD.ints (le19 _ _ (s14 _ _ h13))) (.cons (TD.ints (le19 _ _ h14)) (.cons (TD.hand o) .nil)))) ⟨ht2, hu2, ht3, hu3, ho⟩
def sp_l_out (K : PySem.W.Frag) : Sp := fun vs H Q _ => ∃ (bg c : Addr) (n i : Nat) (av : Addr) (ss : List Str), vs = [.ref bg, .int (n : Int), .int (i : Int), .ref av] ∧ Bag H bg c ∧ i < n ∧ n ≤ 100 ∧ SqT K H av (ss.map V.str) ∧ ss.length ≤ 100 ∧
  ∀ p H' (r : Recipe), Gn bg c H H' → TD H' (.ref p) (dRec r) → r.Ok n ss → Q (.ref p) H'
/-! ### _law_out -/
/- 0 bag_here, 1 size, 2 place, 3 hands, 4 takes -/
theorem sc_l_out : FnScope ["_law_bag_here", "_law_size", "_law_place", "_law_hands", "_law_takes"] ["_law_bag_here", "_law_size", "_law_place", "_law_hands"] (defScope (topS 42)) := ⟨rfl, rfl, rfl, by decide +kernel, rfl, by decide +kernel, by decide +kernel⟩
theorem cl_l_out (T : Top K mg) : Cl P w K mg base 3 "_law_out" (sp_l_out K) := by
  refine cl_of (k := 2) (N := ["_law_bag_here", "_law_size", "_law_place", "_law_hands", "_law_takes"]) (ps := ["_law_bag_here", "_law_size", "_law_place", "_law_hands"]) (T.def_ 32 rfl) sc_l_out (fun vs H Q E h => ?_) (fun _ _ _ _ _ _ us hl => match us, hl with | [_, _, _, _], _ => rfl) (fun f cdv A outer s H vs Q E hr h => ?_)
  · obtain ⟨bg, c, n, i, av, ss, rfl, hB, hi, hn2, hav, hss, q⟩ := h
    rfl
  · obtain ⟨bg, c, n, i, av, ss, rfl, hB, hi, hn2, hav, hss, q⟩ := h
    have hu := hu_of hr
    have hu65 := hu65_of hr
    have hu64 := hr.units
    refine ⟨_, (pss_cons (ps_set (i := 4) sc_l_out.nd rfl (.inl rfl) (pe_op op_rep (pe_lst (pa_cons pe_int pa_nil)) (pv 1)))
  (pss_cons (ps_asg pe_int (pg_sub (pv 4) (pv 2) set_list))
  (pss_one (ps_ret (pe_tup (pa_cons (pe_callTy (call_tupleK K) (by rfl) (T.b 7 rfl) (by decide +kernel) (pa_cons (pv 4) pa_nil)) (pa_cons (pe_op op_repU (pe_tup (pa_cons pe_int pa_nil)) (pv 1)) (pa_cons (pe_cl (k := 2) (j := 2) (cl_l_one T) hr (by decide) (by rfl) (pa_cons (pv 0) (pa_cons (pe_op op_cat (pe_op op_rep (pe_callTy (call_listK K) (by rfl) (T.b 8 rfl) (by decide +kernel) (pa_cons (pv 3) pa_nil)) pe_int) (pe_lst (pa_cons pe_non pa_nil))) pa_nil))) pa_nil)))))))), ?_⟩
    walk_at "rds"
    refine ⟨sz_ok (by simp), fun z1 nz1 => ?_⟩
    generalize eH1 : upd _ z1 _ = H1
    obtain ⟨s1, hz1⟩ := new_of eH1 nz1
    walk_at "rds"
    refine rd_rep0 (n := n) hz1 (by omega) fun tk H2 n2 s2 h2 => ?_
    walk_at "rds"
    refine rd_setIL h2 (by omega) (by omega) (by omega) (by omega) fun H3 b3 h3 => ?_
    have g3 := (Gn.of hB (s1.trans s2)).mut b3 (s1.free n2)
    obtain ⟨ts, ht1, ht2, ht3⟩ := h3
    walk_at "rds"
    refine rd_tupL ht1 fun p13 H13 n13 s13 h13 => ?_
    walk_at "rds"
    refine ⟨sz_ok (by simp), fun z2 nz2 => ?_⟩
    generalize eH4 : upd _ z2 _ = H4
    obtain ⟨s4, hz2⟩ := new_of eH4 nz2
    walk_at "rds"
    refine ⟨z2, _, _, rfl, rfl, hz2, by simp, by omega, by omega, by simp, fun p14 H14 s14 h14 => ?_⟩
    have h14' : H14 p14 = some (.tup ((List.replicate n (0 : Int)).map V.int)) := by rw [h14, Int.toNat_natCast, List.flatten_replicate_singleton, List.map_replicate]
    walk_at "rds"
    have s1314 := s13.trans (s4.trans s14)
    have hav14 := SqT.to (g3.sq hav) fun o ho => s1314 _ _ ho
    refine rd_listT hav14 fun p15 H15 n15 s15 h15 => ?_
    walk_at "rds"
    refine rd_handList (k := 3) h15 hss (by omega) fun p16 H16 n16 s16 h16 => ?_
    walk_at "rds"
    refine ⟨sz_ok (by simp), fun p17 n17 => ?_⟩
    generalize eH17 : upd _ p17 _ = H17
    obtain ⟨s17, h17⟩ := new_of eH17 n17
    have fl := flat_len (ss := ss) 3 hss (by omega)
    refine rd_cat (s17 _ _ h16) h17 (by rw [List.length_singleton]; omega) fun p18 H18 n18 s18 h18 => ?_
    walk_at "rds"
    have s1418 : Same H14 H18 := s15.trans (s16.trans (s17.trans s18))
    have g18 := g3.same (s1314.trans s1418)
    have f18 : H p18 = none := (g3.same (s1314.trans (s15.trans (s16.trans s17)))).free n18
    refine ⟨bg, c, p18, _, rfl, g18.bag, h18, hB.k1 f18, by rw [List.length_append, List.length_singleton]; omega, by rw [List.length_append, List.length_singleton]; omega, fun w H19 g19 hw => ?_⟩
    obtain ⟨o, rfl, ho⟩ := hands_mem hw
    walk_at "rds"
    refine ⟨sz_ok (by simp), rd_new (R := fun p H1 => Q (.ref p) H1) fun p H20 np s20 hp => ?_⟩
    have le19 : Le H14 H20 := ((Same.le s1418).trans g19.le).trans (Same.le s20)
    exact q p H20 ⟨ts, List.replicate n 0, o⟩ ((g18.trans g19).same s20) (.tup hp (.cons (TD.ints (le19 _ _ ((s4.trans s14) _ _ h13))) (.cons (TD.ints (le19 _ _ h14')) (.cons (TD.hand o) .nil)))) ⟨ht2, by simp, ht3, fun x hx => by rw [(List.mem_replicate.mp hx).2]; omega, ho⟩
end
section
variable {P : Program} {w : World} {K : PySem.W.Frag} {mg : Str → Option Value} {base : Heap}
theorem layAll_of : ∀ {ds : List PyData}, (∀ d ∈ ds, d.canLay0 = true) → PyData.canLayAll0 ds = true
  | [], _ => rfl
  | d :: ds, h => by
    show (PyData.canLay0 d && PyData.canLayAll0 ds) = true
    rw [h d (by simp), layAll_of fun x hx => h x (List.mem_cons_of_mem _ hx)]
    rfl
theorem depthAll_of {n : Nat} : ∀ {ds : List PyData}, (∀ d ∈ ds, d.depth ≤ n) → PyData.depthAll ds ≤ n
  | [], _ => Nat.zero_le _
  | d :: ds, h => by
    show max (PyData.depth d) (PyData.depthAll ds) ≤ n
    exact Nat.max_le.mpr ⟨h d (by simp), depthAll_of fun x hx => h x (List.mem_cons_of_mem _ hx)⟩
theorem lay_dI (ns : List Int) : (dI ns).canLay0 = true := layAll_of fun d hd => by
  obtain ⟨x, _, rfl⟩ := List.mem_map.mp hd
  rfl
theorem depth_dI (ns : List Int) : (dI ns).depth ≤ 1 := by
  have : PyData.depthAll (ns.map PyData.int) ≤ 0 := depthAll_of fun d hd => by
    obtain ⟨x, _, rfl⟩ := List.mem_map.mp hd
    exact Nat.le_refl _
  show PyData.depthAll (ns.map PyData.int) + 1 ≤ 1
  omega
theorem shaped_list {ds : List PyData} (h1 : ∀ d ∈ ds, d.canLay0 = true) (h2 : ∀ d ∈ ds, d.depth ≤ 60) : SeqAt.shaped (.list ds) = true := by
  refine Bool.and_eq_true_iff.mpr ⟨layAll_of h1, decide_eq_true ?_⟩
  have := depthAll_of h2
  show PyData.depthAll ds + 1 ≤ 64
  omega
theorem shaped_tuple {ds : List PyData} (h1 : ∀ d ∈ ds, d.canLay0 = true) (h2 : ∀ d ∈ ds, d.depth ≤ 60) : SeqAt.shaped (.tuple ds) = true := by
  refine Bool.and_eq_true_iff.mpr ⟨layAll_of h1, decide_eq_true ?_⟩
  have := depthAll_of h2
  show PyData.depthAll ds + 1 ≤ 64
  omega
theorem rd_neNilL {K : PySem.W.Frag} {H : Hp} {Q : VK} {p e : Addr} {xs : List V} {ds : List PyData} (h : H p = some (.lst xs)) (he : H e = some (.lst [])) (t : TDs H xs ds) (h1 : ∀ d ∈ ds, d.canLay0 = true) (h2 : ∀ d ∈ ds, d.depth ≤ 60) (q : Q (.bl (!xs.isEmpty)) H) :
    rNeD K (.ref p) (.ref e) H Q := by
  refine ⟨.list ds, .list [], .lst (SqL.of h) t.dp, .lst (SqL.of he) .nil, shaped_list h1 h2, by decide, ?_⟩
  have e1 : PyData.eqv (.list ds) (.list []) = xs.isEmpty := by
    cases t <;> rfl
  rw [e1]
  exact q
theorem rd_neNilT {K : PySem.W.Frag} {H : Hp} {Q : VK} {v : V} {e : Addr} {ds : List PyData} (h : TD H v (.tuple ds)) (he : H e = some (.tup [])) (h1 : ∀ d ∈ ds, d.canLay0 = true) (h2 : ∀ d ∈ ds, d.depth ≤ 60) (q : Q (.bl (!ds.isEmpty)) H) :
    rNeD K v (.ref e) H Q := by
  refine ⟨.tuple ds, .tuple [], h.dp, .tup (SqT.of he) .nil, shaped_tuple h1 h2, by decide, ?_⟩
  have e1 : PyData.eqv (.tuple ds) (.tuple []) = ds.isEmpty := by
    cases ds <;> rfl
  rw [e1]
  exact q
structure Works where
  kinds : List Str
  hands : List Str
  recs : List Recipe
structure Works.Ok (W : Works) : Prop where
  k1 : 1 ≤ W.kinds.length
  k2 : W.kinds.length ≤ 10
  h : W.hands.length ≤ 10
  r : W.recs.length ≤ 10
  ok : ∀ r ∈ W.recs, r.Ok W.kinds.length W.hands
/-- works stand at a -/
structure WkAt (H : Hp) (a k h r : Addr) (W : Works) : Prop where
  at_ : H a = some (.tup [.ref k, .ref h, .ref r])
  kinds : H k = some (.tup (W.kinds.map V.str))
  hands : FzT H h (W.hands.map V.str)
  recs : ∃ xs, H r = some (.tup xs) ∧ TDs H xs (W.recs.map dRec)
  ok : W.Ok
theorem WkAt.same {H H' : Hp} {a k h r : Addr} {W : Works} (x : WkAt H a k h r W) (e : Same H H') : WkAt H' a k h r W := by
  obtain ⟨xs, h1, h2⟩ := x.recs
  exact ⟨e _ _ x.at_, e _ _ x.kinds, x.hands.to fun o ho => e _ _ ho, ⟨xs, e _ _ h1, h2.le (Same.le e)⟩, x.ok⟩
theorem Gn.tup {bg c : Addr} {H H' : Hp} (g : Gn bg c H H') {a : Addr} {xs : List V} (h : H a = some (.tup xs)) : H' a = some (.tup xs) := g.le _ _ h
theorem Gn.fz {bg c : Addr} {H H' : Hp} (g : Gn bg c H H') {a : Addr} {xs : List V} (h : FzT H a xs) : FzT H' a xs := by
  obtain ⟨_, _, _, hb⟩ := g.from_.at_
  obtain ⟨ob, h1, h2⟩ := h
  exact ⟨ob, h1, g.at_ h2 (ne_of h2 hb (fun z => by cases z))⟩
theorem WkAt.gn {bg c : Addr} {H H' : Hp} {a k h r : Addr} {W : Works} (x : WkAt H a k h r W) (g : Gn bg c H H') : WkAt H' a k h r W := by
  obtain ⟨xs, h1, h2⟩ := x.recs
  exact ⟨g.tup x.at_, g.tup x.kinds, g.fz x.hands, ⟨xs, g.tup h1, h2.le g.le⟩, x.ok⟩
/-- a list of recipes -/
def RL (H : Hp) (p : Addr) (n : Nat) (ss : List Str) (m : Nat) : Prop := ∃ (xs : List V) (rs : List Recipe), H p = some (.lst xs) ∧ TDs H xs (rs.map dRec) ∧ (∀ r ∈ rs, Recipe.Ok r n ss) ∧ rs.length ≤ m
theorem RL.gn {bg c : Addr} {H H' : Hp} {p : Addr} {n m : Nat} {ss : List Str} (h : RL H p n ss m) (g : Gn bg c H H') (ne : p ≠ bg) : RL H' p n ss m := by
  obtain ⟨xs, rs, h1, h2, h3⟩ := h
  exact ⟨xs, rs, g.at_ h1 ne, h2.le g.le, h3⟩
theorem RL.same {H H' : Hp} {p : Addr} {n m : Nat} {ss : List Str} (h : RL H p n ss m) (e : Same H H') : RL H' p n ss m := by
  obtain ⟨xs, rs, h1, h2, h3⟩ := h
  exact ⟨xs, rs, e _ _ h1, h2.le (Same.le e), h3⟩
theorem RL.mono {H : Hp} {p : Addr} {n m m' : Nat} {ss : List Str} (h : RL H p n ss m) (e : m ≤ m') : RL H p n ss m' := by
  obtain ⟨xs, rs, h1, h2, h3, h4⟩ := h
  exact ⟨xs, rs, h1, h2, h3, Nat.le_trans h4 e⟩
theorem rd_appR {H : Hp} {Q : VK} {p : Addr} {n m : Nat} {ss : List Str} {v : V} {r : Recipe} (h : RL H p n ss m) (hv : TD H v (dRec r)) (hr : r.Ok n ss) (hm : m ≤ 1000) (q : ∀ H1, But p H H1 → RL H1 p n ss (m + 1) → Q .non H1) : rAppend (.ref p) [v] H Q := by
  obtain ⟨xs, rs, h1, h2, h3, h4⟩ := h
  have hl := h2.length
  rw [List.length_map] at hl
  refine rd_append h1 (by omega) fun H1 b1 e1 => q H1 b1 ⟨xs ++ [v], rs ++ [r], e1, ?_, fun x hx => ?_, by simp; omega⟩
  · rw [List.map_append]
    exact (h2.le (b1.le h1)).append (.cons (hv.le (b1.le h1)) .nil)
  · rcases List.mem_append.mp hx with z | z
    · exact h3 x z
    · rw [List.mem_singleton.mp z]; exact hr
theorem TDs.mem {H : Hp} : ∀ {vs : List V} {ds : List PyData} {v : V}, TDs H vs ds → v ∈ vs → ∃ d ∈ ds, TD H v d
  | _, _, _, .cons a t, h => by
    rcases List.mem_cons.mp h with z | z
    · rw [z]; exact ⟨_, by simp, a⟩
    · obtain ⟨d, h1, h2⟩ := TDs.mem t z
      exact ⟨d, List.mem_cons_of_mem _ h1, h2⟩
theorem lay_rec {r : Recipe} {n : Nat} {ss : List Str} (h : r.Ok n ss) (hs : ∀ s ∈ ss, PyData.strOk s = true) : (dRec r).canLay0 = true ∧ (dRec r).depth ≤ 60 := by
  have hh : (dHand r.hand).canLay0 = true ∧ (dHand r.hand).depth ≤ 2 := by
    cases e : r.hand with
    | none => exact ⟨rfl, Nat.zero_le _⟩
    | some s => exact ⟨hs s (h.hand s e), Nat.zero_le _⟩
  refine ⟨layAll_of fun d hd => ?_, ?_⟩
  · simp only [List.mem_cons, List.not_mem_nil, or_false] at hd
    rcases hd with rfl | rfl | rfl
    · exact lay_dI _
    · exact lay_dI _
    · exact hh.1
  · have : PyData.depthAll [dI r.takes, dI r.puts, dHand r.hand] ≤ 2 := depthAll_of fun d hd => by
      simp only [List.mem_cons, List.not_mem_nil, or_false] at hd
      rcases hd with rfl | rfl | rfl
      · exact Nat.le_succ_of_le (depth_dI _)
      · exact Nat.le_succ_of_le (depth_dI _)
      · exact hh.2
    show PyData.depthAll [dI r.takes, dI r.puts, dHand r.hand] + 1 ≤ 60
    omega
theorem cutV_both (xs : List V) (a b : Nat) (h : a ≤ b) (hb : b ≤ xs.length) : cutV xs (some (a : Int)) (some (b : Int)) = (xs.drop a).take (b - a) := by
  unfold cutV
  rw [HT.sIx_nat, HT.sIx_nat, Nat.min_eq_left hb, Nat.min_eq_left (show a ≤ xs.length by omega)]
def sp_l_works (K : PySem.W.Frag) : Sp := fun vs H Q _ => ∃ (bg c : Addr), vs = [.ref bg, .int 3, .int 2, .int 3] ∧ Bag H bg c ∧
  ∀ p H' k h r (W : Works), Gn bg c H H' → WkAt H' p k h r W → Q (.ref p) H'
/-! ### _law_works -/
/- 0 bag_here, 1 kinds, 2 hands, 3 recipes, 4 names_here, 5 size, 6 many, 7 crew, 8 found, 9 most, 10 turn, 11 place -/
theorem sc_l_works : FnScope ["_law_bag_here", "_law_kinds", "_law_hands", "_law_recipes", "_law_names_here", "_law_size", "_law_many", "_law_crew", "_law_found", "_law_most", "_law_turn", "_law_place"] ["_law_bag_here", "_law_kinds", "_law_hands", "_law_recipes"] (defScope (topS 43)) := ⟨rfl, rfl, rfl, by decide +kernel, rfl, by decide +kernel, by decide +kernel⟩
theorem cl_l_works (T : Top K mg) : Cl P w K mg base 4 "_law_works" (sp_l_works K) := by
  refine cl_of (k := 3) (N := ["_law_bag_here", "_law_kinds", "_law_hands", "_law_recipes", "_law_names_here", "_law_size", "_law_many", "_law_crew", "_law_found", "_law_most", "_law_turn", "_law_place"]) (ps := ["_law_bag_here", "_law_kinds", "_law_hands", "_law_recipes"]) (T.def_ 33 rfl) sc_l_works (fun vs H Q E h => ?_) (fun _ _ _ _ _ _ us hl => match us, hl with | [_, _, _, _], _ => rfl) (fun f cdv A outer s H vs Q E hr h => ?_)
  · obtain ⟨bg, c, rfl, hB, q⟩ := h
    rfl
  · obtain ⟨bg, c, rfl, hB, q⟩ := h
    have hu := hu_of hr
    have hu65 := hu65_of hr
    have hu64 := hr.units
    refine ⟨_, (pss_cons (ps_par3 (i := 4) (j := 5) (l := 6) rfl sc_l_works.nd rfl rfl rfl (by decide) (by decide) (by decide) rfl rfl rfl (pa_cons (pe_cl (k := 3) (j := 3) (cl_l_names T) hr (by decide) (by rfl) (pa_cons (pv 0) (pa_cons pe_int pa_nil))) (pa_cons (pe_op op_add pe_int (pe_cl (k := 1) (j := 3) (cl_l_take T) hr (by decide) (by rfl) (pa_cons (pv 0) (pa_cons (pv 1) pa_nil)))) (pa_cons (pe_cl (k := 1) (j := 3) (cl_l_take T) hr (by decide) (by rfl) (pa_cons (pv 0) (pa_cons (pe_op op_add (pv 2) pe_int) pa_nil))) pa_nil))) (by rfl))
  (pss_cons (ps_par (i := 7) (j := 8) rfl sc_l_works.nd rfl rfl (by decide) rfl rfl (pa_cons (pe_callTy (call_tupleFzK K) (by rfl) (T.b 7 rfl) (by decide +kernel) (pa_cons (pe_slice (sl_listK K) (pv 4) (po_some (pv 5)) (po_some (pe_op op_add (pv 5) (pv 6)))) pa_nil)) (pa_cons (pe_lst pa_nil) pa_nil)) (by rfl))
  (pss_cons (ps_set (i := 9) sc_l_works.nd rfl (.inl rfl) (pe_cl (k := 2) (j := 3) (cl_l_one T) hr (by decide) (by rfl) (pa_cons (pv 0) (pa_cons (pe_lst (pa_cons pe_int (pa_cons pe_int (pa_cons pe_int (pa_cons pe_int pa_nil))))) pa_nil))))
  (pss_cons (ps_for PassesOwn.never rfl (pi_range1 (by rfl) (T.b 1 rfl) (pa_cons (pe_cl (k := 1) (j := 3) (cl_l_take T) hr (by decide) (by rfl) (pa_cons (pv 0) (pa_cons (pe_op op_add (pv 3) pe_int) pa_nil))) pa_nil)) (pg_name (i := 10) sc_l_works.nd rfl (.inl rfl))
  (pss_one (ps_expr (pe_bm PySem.F.plainAttrs_list PySem.F.slot_list_append PySem.F.type_list_append mt_append (pv 8) (pa_cons (pe_cl (k := 3) (j := 3) (cl_l_recipe T) hr (by decide) (by rfl) (pa_cons (pv 0) (pa_cons (pv 5) (pa_cons (pv 7) (pa_cons (pv 9) pa_nil))))) pa_nil)))))
  (pss_cons (ps_for PassesOwn.never rfl (pi_range1 (by rfl) (T.b 1 rfl) (pa_cons (pv 5) pa_nil)) (pg_name (i := 11) sc_l_works.nd rfl (.inl rfl))
  (pss_one (ps_if (pt_cmpR op_gt (pe_cl (k := 1) (j := 3) (cl_l_take T) hr (by decide) (by rfl) (pa_cons (pv 0) (pa_cons pe_int pa_nil))) pe_int (nomark _)) (pss_one (ps_expr (pe_bm PySem.F.plainAttrs_list PySem.F.slot_list_append PySem.F.type_list_append mt_append (pv 8) (pa_cons (pe_cl (k := 3) (j := 3) (cl_l_out T) hr (by decide) (by rfl) (pa_cons (pv 0) (pa_cons (pv 5) (pa_cons (pv 11) (pa_cons (pv 7) pa_nil))))) pa_nil)))) pss_nil)))
  (pss_cons (ps_if (PW.pt (pw_and (pt_cmpR (op_neDK K hr.units) (pv 8) (pe_lst pa_nil) (nomark _)) (pw_and1 (pt_cmpR op_eq (pe_cl (k := 1) (j := 3) (cl_l_take T) hr (by decide) (by rfl) (pa_cons (pv 0) (pa_cons pe_int pa_nil))) pe_int (nomark _))))) (pss_one (ps_expr (pe_bm PySem.F.plainAttrs_list PySem.F.slot_list_append PySem.F.type_list_append mt_append (pv 8) (pa_cons (pe_cl (k := 2) (j := 3) (cl_l_one T) hr (by decide) (by rfl) (pa_cons (pv 0) (pa_cons (pv 8) pa_nil))) pa_nil)))) pss_nil)
  (pss_one (ps_ret (pe_tup (pa_cons (pe_callTy (call_tupleK K) (by rfl) (T.b 7 rfl) (by decide +kernel) (pa_cons (pe_slice (sl_listK K) (pv 4) po_none (po_some (pv 5))) pa_nil)) (pa_cons (pv 7) (pa_cons (pe_callTy (call_tupleK K) (by rfl) (T.b 7 rfl) (by decide +kernel) (pa_cons (pe_slice (sl_listK K) (pe_cl (k := 2) (j := 3) (cl_l_mixed T) hr (by decide) (by rfl) (pa_cons (pv 0) (pa_cons (pv 8) pa_nil))) po_none (po_some (pv 3))) pa_nil)) pa_nil)))))))))))), ?_⟩
    walk_at "rds"
    refine ⟨bg, c, rfl, hB, fun N H1 ss g1 nN hN hlen hok => ?_⟩
    walk_at "rds"
    refine ⟨bg, c, _, rfl, g1.bag, by omega, by omega, fun r1 H2 g2 a0 a1 => ?_⟩
    walk_at "rds"
    refine ⟨bg, c, _, rfl, g2.bag, by omega, by omega, fun r2 H3 g3 b0 b1 => ?_⟩
    walk_at "rds"
    have nb := hB.k1 nN
    have hN3 := (g2.trans g3).at_ hN nb
    obtain ⟨z, hz⟩ : ∃ z : Nat, 1 + r1 = (z : Int) := ⟨(1 + r1).toNat, by omega⟩
    obtain ⟨m, hm⟩ : ∃ m : Nat, r2 = (m : Int) := ⟨r2.toNat, by omega⟩
    rw [hz, hm]
    have hz1 : 1 ≤ z ∧ z ≤ 3 := by omega
    have hm1 : m ≤ 2 := by omega
    refine rd_slL hN3 (cutV_both _ z (z + m) (by omega) (by rw [List.length_map]; omega)) fun p4 H4 n4 s4 h4 => ?_
    walk_at "rds"
    rw [← List.map_drop, ← List.map_take] at h4
    have hC : ((ss.drop z).take (z + m - z)).length ≤ 10 := by rw [List.length_take]; omega
    have hCs : ∀ s ∈ (ss.drop z).take (z + m - z), PyData.strOk s = true := fun s hs => hok s (List.mem_of_mem_drop (List.mem_of_mem_take hs))
    generalize (ss.drop z).take (z + m - z) = cs at h4 hC hCs
    refine ⟨p4, _, rfl, SqL.of h4, fun cw ob nc hob => ?_⟩
    generalize eH5 : upd _ cw _ = H5
    obtain ⟨s5, h5⟩ := new_of eH5 nc
    have hcw5 : FzT H5 cw (cs.map V.str) := ⟨ob, hob, h5⟩
    walk_at "rds"
    refine ⟨sz_ok (by simp), fun F nF => ?_⟩
    generalize eH6 : upd _ F _ = H6
    obtain ⟨s6, hF⟩ := new_of eH6 nF
    have g6 : Gn bg c H H6 := (g1.trans (g2.trans g3)).same (s4.trans (s5.trans s6))
    have fF : H F = none := ((g1.trans (g2.trans g3)).same (s4.trans s5)).free nF
    have bF := hB.k1 fF
    have hcw6 := hcw5.to fun o ho => s6 _ _ ho
    have hN6 := (s4.trans (s5.trans s6)) _ _ hN3
    walk_at "rds"
    refine ⟨sz_ok (by simp), fun L nL => ?_⟩
    generalize eH7 : upd _ L _ = H7
    obtain ⟨s7, hL⟩ := new_of eH7 nL
    have fL := g6.free nL
    walk_at "rds"
    have g7 := g6.same s7
    refine ⟨bg, c, L, _, rfl, g7.bag, hL, hB.k1 fL, by simp, by simp, fun w H8 g8 hw => ?_⟩
    obtain ⟨x, rfl, bx0, bx1⟩ : ∃ x : Int, w = .int x ∧ 0 < x ∧ x ≤ 4 := by
      simp only [List.mem_cons, List.not_mem_nil, or_false] at hw
      rcases hw with e | e | e | e <;> exact ⟨_, e, by omega, by omega⟩
    walk_at "rds"
    have g78 := (Gn.of g6.bag s7).trans g8
    have hF8 : RL H8 F z cs 0 := ⟨[], [], g78.at_ hF bF, .nil, fun r hr => absurd hr List.not_mem_nil, Nat.le_refl _⟩
    have hN8 := g78.at_ hN6 nb
    have hcw8 := g78.fz hcw6
    refine ⟨bg, c, _, rfl, g8.bag, by omega, by omega, fun r3 H9 g9 c0 c1 => ?_⟩
    walk_at "rds"
    refine ⟨_, rfl, by omega, by omega, ?_⟩
    refine forw walk_range0 (fun j σ H10 => ∃ y10, σ = [some (.ref bg), some (.int 3), some (.int 2), some (.int 3), some (.ref N), some (.int (z : Int)), some (.int (m : Int)), some (.ref cw), some (.ref F), some (.int x), y10, none] ∧ Gn bg c H H10 ∧ RL H10 F z cs j ∧ H10 N = some (.lst (ss.map V.str)) ∧ FzT H10 cw (cs.map V.str))
      ⟨none, rfl, (g6.trans g78).trans g9, hF8.gn g9 bF, g9.at_ hN8 nb, g9.fz hcw8⟩ (fun _ _ _ _ _ => trivial) (fun j x' σ H10 H11 hj pv y => ?_) (fun σ H10 pv => ?_)
    · obtain ⟨y10, rfl, g10, hF10, hN10, hcw10⟩ := pv
      obtain ⟨rfl, rfl⟩ := y
      obtain ⟨xs, rs, hx1, hx2, hx3⟩ := hF10
      walk_at "rds"
      refine ⟨tyL hx1, ?_⟩
      walk_at "rds"
      refine ⟨bg, c, z, cw, cs, x, rfl, g10.bag, hz1.1, by omega, hcw10.sq, by omega, bx0, by omega, fun p H12 r g12 hp hr => ?_⟩
      walk_at "rds"
      refine rd_appR (RL.gn ⟨xs, rs, hx1, hx2, hx3⟩ g12 bF) hp hr (by omega) fun H13 b13 h13 => ?_
      have g13 := (g10.trans g12).mut b13 fF
      have neN : N ≠ F := fun e => by rw [← e, (s4.trans s5) _ _ hN3] at nF; cases nF
      have neC : cw ≠ F := fun e => by rw [← e, h5] at nF; cases nF
      exact ⟨_, rfl, g13, h13, b13 _ _ neN (g12.at_ hN10 nb), (g12.fz hcw10).to fun o ho => b13 _ _ neC ho⟩
    · obtain ⟨y10, rfl, g10, hF10, hN10, hcw10⟩ := pv
      have hF10 := hF10.mono (m' := 3) (by omega)
      walk_at "rds"
      refine ⟨_, rfl, by omega, by omega, ?_⟩
      refine forw walk_range0 (fun j σ H10 => ∃ y10 y11, σ = [some (.ref bg), some (.int 3), some (.int 2), some (.int 3), some (.ref N), some (.int (z : Int)), some (.int (m : Int)), some (.ref cw), some (.ref F), some (.int x), y10, y11] ∧ Gn bg c H H10 ∧ RL H10 F z cs (3 + j) ∧ H10 N = some (.lst (ss.map V.str)) ∧ FzT H10 cw (cs.map V.str))
        ⟨_, none, rfl, g10, hF10, hN10, hcw10⟩ (fun _ _ _ _ _ => trivial) (fun j x' σ H10 H11 hj pv y => ?_) (fun σ H10 pv => ?_)
      · obtain ⟨y10, y11, rfl, g10, hF10, hN10, hcw10⟩ := pv
        obtain ⟨rfl, rfl⟩ := y
        walk_at "rds"
        refine ⟨bg, c, _, rfl, g10.bag, by omega, by omega, fun r4 H12 g12 d0 d1 => ?_⟩
        walk_at "rds"
        have hF12 := hF10.gn g12 bF
        have hN12 := g12.at_ hN10 nb
        have hcw12 := g12.fz hcw10
        refine ite3 (fun hc => ?_) (fun hc => ?_)
        · obtain ⟨xs, rs, hx1, hx2, hx3⟩ := hF12
          walk_at "rds"
          refine ⟨tyL hx1, ?_⟩
          walk_at "rds"
          refine ⟨bg, c, z, j, cw, cs, rfl, g12.bag, by omega, by omega, hcw12.sq, by omega, fun p H13 r g13 hp hr => ?_⟩
          walk_at "rds"
          refine rd_appR (RL.gn ⟨xs, rs, hx1, hx2, hx3⟩ g13 bF) hp hr (by omega) fun H14 b14 h14 => ?_
          have g14 := ((g10.trans g12).trans g13).mut b14 fF
          have neN : N ≠ F := fun e => by rw [← e, (s4.trans s5) _ _ hN3] at nF; cases nF
          have neC : cw ≠ F := fun e => by rw [← e, h5] at nF; cases nF
          exact ⟨_, _, rfl, g14, h14, b14 _ _ neN (g13.at_ hN12 nb), (g13.fz hcw12).to fun o ho => b14 _ _ neC ho⟩
        · walk_at "rds"
          exact ⟨_, _, rfl, g10.trans g12, hF12.mono (by omega), hN12, hcw12⟩
      · obtain ⟨y10, y11, rfl, g10, hF10, hN10, hcw10⟩ := pv
        have hF10 := hF10.mono (m' := 6) (by omega)
        refine rd_seq (rd_ifR (fun σ H11 => σ = [some (.ref bg), some (.int 3), some (.int 2), some (.int 3), some (.ref N), some (.int (z : Int)), some (.int (m : Int)), some (.ref cw), some (.ref F), some (.int x), y10, y11] ∧ Gn bg c H H11 ∧ RL H11 F z cs 7 ∧ H11 N = some (.lst (ss.map V.str)) ∧ FzT H11 cw (cs.map V.str)) ?_ fun nx' hnx => ?_)
        · rintro σ H11 ⟨rfl, g11, hF11, hN11, hcw11⟩
          walk_at "rds"
          refine rd_slL hN11 (cutV_to _ z) fun p12 H12 n12 s12 h12 => ?_
          walk_at "rds"
          refine rd_tupL h12 fun kt H13 n13 s13 h13 => ?_
          walk_at "rds"
          have s1213 := s12.trans s13
          obtain ⟨xs, rs, hx1, hx2, hx3, hx4⟩ := hF11.same s1213
          have hxl := hx2.length
          rw [List.length_map] at hxl
          have g13 := g11.same s1213
          refine ⟨bg, c, F, xs, rfl, g13.bag, hx1, bF, by omega, fun p14 H14 ys g14 n14 h14 pm => ?_⟩
          walk_at "rds"
          refine rd_slL h14 (cutV_to _ 3) fun p15 H15 n15 s15 h15 => ?_
          walk_at "rds"
          refine rd_tupL h15 fun rt H16 n16 s16 h16 => ?_
          walk_at "rds"
          refine ⟨sz_ok (by simp), rd_new (R := fun p H1 => Q (.ref p) H1) fun p H17 np s17 hp => ?_⟩
          have s1517 := s15.trans (s16.trans s17)
          have le17 : Le H13 H17 := g14.le.trans (Same.le s1517)
          obtain ⟨ds', pd, td'⟩ := TDs.perm pm (hx2.le g14.le)
          obtain ⟨rs', p1, p2⟩ := L2.perm_lift dRec pd rs rfl
          rw [← p2] at td'
          refine q p H17 kt cw rt ⟨ss.take z, cs, rs'.take 3⟩ ((g13.trans g14).same s1517) ⟨hp, ?_, ?_, ⟨ys.take 3, s17 _ _ h16, ?_⟩, ?_⟩
          · rw [← List.map_take] at h13
            exact le17 _ _ h13
          · exact ((g14.fz (hcw11.to fun o ho => s1213 _ _ ho))).to fun o ho => s1517 _ _ ho
          · have t3 := (td'.le (Same.le s1517)).take 3
            rw [← List.map_take] at t3
            exact t3
          · have hk : (ss.take z).length = z := by rw [List.length_take]; omega
            refine ⟨?_, ?_, hC, ?_, fun r hr => ?_⟩
            · show 1 ≤ (ss.take z).length
              omega
            · show (ss.take z).length ≤ 10
              omega
            · show (rs'.take 3).length ≤ 10
              rw [List.length_take]
              omega
            · show r.Ok (ss.take z).length cs
              rw [hk]
              exact hx3 r (p1.mem_iff.mp (List.mem_of_mem_take hr))
        · obtain ⟨xs, rs, hx1, hx2, hx3, hx4⟩ := hF10
          have hxl := hx2.length
          rw [List.length_map] at hxl
          walk_at "rds"
          refine ⟨sz_ok (by simp), fun e ne => ?_⟩
          generalize eH11 : upd _ e _ = H11
          obtain ⟨s11, h11⟩ := new_of eH11 ne
          have g11 := g10.same s11
          have hF11 : RL H11 F z cs 6 := RL.same ⟨xs, rs, hx1, hx2, hx3, hx4⟩ s11
          have hN11 := s11 _ _ hN10
          have hcw11 := hcw10.to fun o ho => s11 _ _ ho
          refine rd_neNilL (s11 _ _ hx1) h11 (hx2.le (Same.le s11)) (fun d hd => ?_) (fun d hd => ?_) ?_
          · obtain ⟨r, hr, rfl⟩ := List.mem_map.mp hd
            exact (lay_rec (hx3 r hr) hCs).1
          · obtain ⟨r, hr, rfl⟩ := List.mem_map.mp hd
            exact (lay_rec (hx3 r hr) hCs).2
          walk_at "rds"
          refine ite3 (fun hc => ?_) (fun hc => ?_)
          · have hxne : xs ≠ [] := fun z => by rw [z] at hc; cases hc
            walk_at "rds"
            refine ⟨bg, c, _, rfl, g11.bag, by omega, by omega, fun r4 H12 g12 d0 d1 => ?_⟩
            walk_at "rds"
            have hF12 := hF11.gn g12 bF
            have hN12 := g12.at_ hN11 nb
            have hcw12 := g12.fz hcw11
            refine ite3 (fun hc => ?_) (fun hc => ?_)
            · have hx12 := g12.at_ (s11 _ _ hx1) bF
              walk_at "rds"
              refine ⟨tyL hx12, ?_⟩
              walk_at "rds"
              refine ⟨bg, c, F, xs, rfl, g12.bag, hx12, bF, List.length_pos_iff.mpr hxne, by omega, fun v H13 g13 hv => ?_⟩
              obtain ⟨d, hd, tv⟩ := (hx2.le ((Same.le s11).trans (g12.le.trans g13.le))).mem hv
              obtain ⟨r, hr, rfl⟩ := List.mem_map.mp hd
              walk_at "rds"
              refine rd_appR (hF12.gn g13 bF) tv (hx3 r hr) (by omega) fun H14 b14 h14 => ?_
              have g14 := ((g11.trans g12).trans g13).mut b14 fF
              have neN : N ≠ F := fun e => by rw [← e, (s4.trans s5) _ _ hN3] at nF; cases nF
              have neC : cw ≠ F := fun e => by rw [← e, h5] at nF; cases nF
              exact hnx _ _ ⟨rfl, g14, h14, b14 _ _ neN (g13.at_ hN12 nb), (g13.fz hcw12).to fun o ho => b14 _ _ neC ho⟩
            · walk_at "rds"
              exact hnx _ _ ⟨rfl, g11.trans g12, hF12.mono (by omega), hN12, hcw12⟩
          · refine iteF ?_
            walk_at "rds"
            exact hnx _ _ ⟨rfl, g11, hF11.mono (by omega), hN11, hcw11⟩
end
section
variable {P : Program} {w : World} {K : PySem.W.Frag} {mg : Str → Option Value} {base : Heap}
def LI (H : Hp) (p : Addr) (n : Nat) (R : Int → Prop) : Prop := ∃ ns : List Int, H p = some (.lst (ns.map V.int)) ∧ ns.length = n ∧ ∀ x ∈ ns, R x
theorem LI.to {H H' : Hp} {p : Addr} {n : Nat} {R : Int → Prop} (h : LI H p n R) (e : ∀ o, H p = some o → H' p = some o) : LI H' p n R := by
  obtain ⟨ns, h1, h2⟩ := h
  exact ⟨ns, e _ h1, h2⟩
theorem LI.li {H : Hp} {p : Addr} {n : Nat} (h : IL H p n) : LI H p n (fun x => 0 ≤ x) := by
  obtain ⟨ns, h1, h2, h3⟩ := h
  exact ⟨ns, h1, h2, fun x hx => (h3 x hx).1⟩
theorem LI.mono {H : Hp} {p : Addr} {n : Nat} {R R' : Int → Prop} (h : LI H p n R) (e : ∀ x, R x → R' x) : LI H p n R' := by
  obtain ⟨ns, h1, h2, h3⟩ := h
  exact ⟨ns, h1, h2, fun x hx => e x (h3 x hx)⟩
theorem rd_getLI {K : PySem.W.Frag} {H : Hp} {Q : VK} {p : Addr} {n i : Nat} {R : Int → Prop} (h : LI H p n R) (hi : i < n) (q : ∀ x, R x → Q (.int x) H) : rIxL K (.ref p) (.int (i : Int)) H Q := by
  obtain ⟨ns, h1, h2, h3⟩ := h
  have hl : i < ns.length := by omega
  exact rd_ixL (SqL.of h1) rfl (by rw [List.getElem?_map, List.getElem?_eq_getElem hl]; rfl) (q _ (h3 _ (List.getElem_mem hl)))
theorem rd_setLI {H : Hp} {p : Addr} {n i : Nat} {x : Int} {R : Int → Prop} {R' : Hp → Prop} (h : LI H p n R) (hi : i < n) (hx : R x) (q : ∀ H1, But p H H1 → LI H1 p n R → R' H1) : rSetL (.ref p) (.int (i : Int)) (.int x) H R' := by
  obtain ⟨ns, h1, h2, h3⟩ := h
  refine rd_setL (j := i) h1 rfl (by rw [List.length_map]; omega) fun H1 b e => q H1 b ⟨ns.set i x, ?_, by rw [List.length_set]; exact h2, fun y hy => ?_⟩
  · rw [e, List.map_set]
  · rcases List.mem_or_eq_of_mem_set hy with z | z
    · exact h3 y z
    · rw [z]; exact hx
theorem rd_ixI {K : PySem.W.Frag} {H : Hp} {Q : VK} {v : V} {ns : List Int} {i : Nat} (h : TD H v (dI ns)) (hi : i < ns.length) (q : Q (.int ns[i]) H) : rIxT K v (.int (i : Int)) H Q := by
  refine rd_ixT (j := i) h rfl (by rw [List.getElem?_map, List.getElem?_eq_getElem hi]; rfl) fun w hw => ?_
  obtain rfl := hw.int_eq
  exact q
def sp_l_wants (K : PySem.W.Frag) : Sp := fun vs H Q _ => ∃ (a k h r cl : Addr) (W : Works) (ns : List Int), vs = [.ref a, .ref cl] ∧ WkAt H a k h r W ∧ H cl = some (.lst (ns.map V.int)) ∧ (∀ n ∈ ns, 0 ≤ n) ∧
  ∀ p H' (lot crew : List Int), Same H H' → TD H' (.ref p) (.tuple [dI lot, dI crew]) → lot.length = W.kinds.length → crew.length = W.hands.length → (∀ x ∈ crew, 0 ≤ x) → Q (.ref p) H'
/-! ### _law_wants -/
/- 0 works_here, 1 counts, 2 lot, 3 crew, 4 many, 5 takes, 6 puts, 7 hand, 8 place -/
theorem sc_l_wants : FnScope ["_law_works_here", "_law_counts", "_law_lot", "_law_crew", "_law_many", "_law_takes", "_law_puts", "_law_hand", "_law_place"] ["_law_works_here", "_law_counts"] (defScope (topS 45)) := ⟨rfl, rfl, rfl, by decide +kernel, rfl, by decide +kernel, by decide +kernel⟩
theorem cl_l_wants (T : Top K mg) : Cl P w K mg base 1 "_law_wants" (sp_l_wants K) := by
  refine cl_of (k := 0) (N := ["_law_works_here", "_law_counts", "_law_lot", "_law_crew", "_law_many", "_law_takes", "_law_puts", "_law_hand", "_law_place"]) (ps := ["_law_works_here", "_law_counts"]) (T.def_ 35 rfl) sc_l_wants (fun vs H Q E h => ?_) (fun _ _ _ _ _ _ us hl => match us, hl with | [_, _], _ => rfl) (fun f cdv A outer s H vs Q E hr h => ?_)
  · obtain ⟨a, k, h, r, cl, W, ns, rfl, hW, hcl, hns, q⟩ := h
    rfl
  · obtain ⟨a, k, h, r, cl, W, ns, rfl, hW, hcl, hns, q⟩ := h
    have hu := hu_of hr
    have hu65 := hu65_of hr
    have hu64 := hr.units
    refine ⟨_, (pss_cons (ps_par (i := 2) (j := 3) rfl sc_l_wants.nd rfl rfl (by decide) rfl rfl (pa_cons (pe_op op_rep (pe_lst (pa_cons pe_int pa_nil)) (pe_callB (call_lenK K) (by rfl) (T.b 0 rfl) PySem.boot_len (pa_cons (pe_ix (ix_tupK K) (pv 0) pe_int (fun _ _ => rfl)) pa_nil))) (pa_cons (pe_op op_rep (pe_lst (pa_cons pe_int pa_nil)) (pe_callB (call_lenK K) (by rfl) (T.b 0 rfl) PySem.boot_len (pa_cons (pe_ix (ix_tupK K) (pv 0) pe_int (fun _ _ => rfl)) pa_nil))) pa_nil)) (by rfl))
  (pss_cons (ps_for PassesOwn.never rfl (pi_zipLT (by rfl) (T.b 12 rfl) (pa_cons (pv 1) (pa_cons (pe_ix (ix_tupK K) (pv 0) pe_int (fun _ _ => rfl)) pa_nil))) (pg_tup rfl (pgs_cons (pg_name (i := 4) sc_l_wants.nd rfl (.inl rfl)) (pgs_cons (pg_tup rfl (pgs_cons (pg_name (i := 5) sc_l_wants.nd rfl (.inl rfl)) (pgs_cons (pg_name (i := 6) sc_l_wants.nd rfl (.inl rfl)) (pgs_cons (pg_name (i := 7) sc_l_wants.nd rfl (.inl rfl)) pgs_nil)))) pgs_nil)))
  (pss_cons (ps_for PassesOwn.never rfl (pi_range1 (by rfl) (T.b 1 rfl) (pa_cons (pe_callB (call_lenK K) (by rfl) (T.b 0 rfl) PySem.boot_len (pa_cons (pv 2) pa_nil)) pa_nil)) (pg_name (i := 8) sc_l_wants.nd rfl (.inl rfl))
  (pss_one (ps_augS (pv 2) (pv 8) get_list (pe_op op_mul (pv 4) (pe_op op_sub (pe_ix (ix_tupK K) (pv 5) (pv 8) (fun _ _ => rfl)) (pe_ix (ix_tupK K) (pv 6) (pv 8) (fun _ _ => rfl)))) ip_add set_list)))
  (pss_one (ps_if (pt_cmpR op_notN (pv 7) pe_non (nomark _)) (pss_one (ps_augS (pv 3) (pe_bmT PySem.F.plainAttrs_tuple PySem.F.slot_tuple_index PySem.F.type_tuple_index mt_tup_index (pe_ix (ix_tupK K) (pv 0) pe_int (fun _ _ => rfl)) (pa_cons (pv 7) pa_nil)) get_list (pv 4) ip_add set_list)) pss_nil))))
  (pss_one (ps_ret (pe_tup (pa_cons (pe_callTy (call_tupleK K) (by rfl) (T.b 7 rfl) (by decide +kernel) (pa_cons (pv 2) pa_nil)) (pa_cons (pe_callTy (call_tupleK K) (by rfl) (T.b 7 rfl) (by decide +kernel) (pa_cons (pv 3) pa_nil)) pa_nil))))))), ?_⟩
    obtain ⟨k1, k2, k3, k4, k5⟩ := hW.ok
    walk_at "rds"
    refine ⟨sz_ok (by simp), fun z1 nz1 => ?_⟩
    generalize eH1 : upd _ z1 _ = H1
    obtain ⟨s1, hz1⟩ := new_of eH1 nz1
    have hW1 := hW.same s1
    walk_at "rds"
    refine rd_ixTi (j := 0) hW1.at_ rfl rfl ?_
    walk_at "rds"
    refine ⟨k, _, rfl, .inr (SqT.of hW1.kinds), ?_⟩
    rw [List.length_map]
    refine rd_rep0 (n := W.kinds.length) hz1 (by omega) fun L H2 n2 s2 h2 => ?_
    walk_at "rds"
    refine ⟨sz_ok (by simp), fun z2 nz2 => ?_⟩
    generalize eH3 : upd _ z2 _ = H3
    obtain ⟨s3, hz2⟩ := new_of eH3 nz2
    have s13 := s1.trans (s2.trans s3)
    have hW3 := hW.same s13
    walk_at "rds"
    refine rd_ixTi (j := 1) hW3.at_ rfl rfl ?_
    walk_at "rds"
    refine ⟨h, _, rfl, .inr hW3.hands.sq, ?_⟩
    rw [List.length_map]
    refine rd_rep0 (n := W.hands.length) hz2 (by omega) fun C H4 n4 s4 h4 => ?_
    walk_at "rds"
    have s14 := s13.trans s4
    have hL4 : LI H4 L W.kinds.length (fun _ => True) := ((LI.li h2).to fun o ho => (s3.trans s4) _ _ ho).mono fun _ _ => trivial
    have hC4 := LI.li h4
    have fL : H L = none := s1.free n2
    have fC : H C = none := s13.free n4
    have neLC : L ≠ C := fun e => by
      obtain ⟨ms, hh, _⟩ := hL4
      obtain ⟨ms', hh', _⟩ := h2
      rw [← e, s3 _ _ hh'] at n4
      cases n4
    have hW4 := hW.same s14
    refine rd_ixTi (j := 2) hW4.at_ rfl rfl ?_
    obtain ⟨rx, hr1, hr2⟩ := hW4.recs
    walk_at "rds"
    refine ⟨cl, r, _, rx, rfl, SqL.of (s14 _ _ hcl), SqT.of hr1, ?_⟩
    have rl := hr2.length
    rw [List.length_map] at rl
    refine forw (walk_zipU (xs := ns.map V.int) (ys := rx)) (fun j σ H5 => ∃ y4 y5 y6 y7 y8, σ = [some (.ref a), some (.ref cl), some (.ref L), some (.ref C), y4, y5, y6, y7, y8] ∧ Same H H5 ∧ H5 r = some (.tup rx) ∧ TDs H5 rx (W.recs.map dRec) ∧ LI H5 L W.kinds.length (fun _ => True) ∧ LI H5 C W.hands.length (fun x => 0 ≤ x))
      ⟨none, none, none, none, none, rfl, s14, hr1, hr2, hL4, hC4⟩ (fun j σ H5 _ pv => ?_) (fun j x σ H5 H6 hj pv y => ?_) (fun σ H5 pv => ?_)
    · obtain ⟨_, _, _, _, _, _, s5, hr5, _⟩ := pv
      exact ⟨SqL.of (s5 _ _ hcl), SqT.of hr5⟩
    · obtain ⟨y4, y5, y6, y7, y8, rfl, s5, hr5, tr5, hL5, hC5⟩ := pv
      obtain ⟨T, x1, x2, rfl, hT, s6, f1, f2⟩ := y
      obtain ⟨j1, rfl⟩ := map_at f1
      have nj := hns _ (List.getElem_mem j1)
      generalize ns[j] = m at nj hT
      obtain ⟨d, hd, tx⟩ := tr5.get' f2
      obtain ⟨j2, rfl⟩ := map_at hd
      have rok := k5 _ (List.getElem_mem j2)
      generalize W.recs[j] = rec at tx rok
      obtain ⟨ax, xx, rfl, ex, ty⟩ := (tx.le (Same.le s6)).tup_inv
      cases ty with | cons t1 ty =>
      cases ty with | cons t2 ty =>
      cases ty with | cons t3 ty =>
      cases ty
      rename_i v1 v2 v3
      refine rd_gtup rfl (SqT.of hT) rfl ?_
      refine rd_gcons (rd_name (rd_gcons (rd_gtup rfl (SqT.of ex) rfl (rd_gcons (rd_name (rd_gcons (rd_name (rd_gcons (rd_name (rd_gnil (rd_gnil ?_))))))))))) 
      have s56 := s5.trans s6
      have hL6 := hL5.to fun o ho => s6 _ _ ho
      have hC6 := hC5.to fun o ho => s6 _ _ ho
      obtain ⟨ls, hls, lsl, _⟩ := hL6
      walk_at "rds"
      refine rd_lenL hls ?_
      rw [List.length_map, lsl]
      refine ⟨_, rfl, by omega, by omega, ?_⟩
      refine forw walk_range0 (fun i σ H7 => ∃ y8, σ = [some (.ref a), some (.ref cl), some (.ref L), some (.ref C), some (.int m), some v1, some v2, some v3, y8] ∧ Same H H7 ∧ H7 r = some (.tup rx) ∧ TDs H7 rx (W.recs.map dRec) ∧ LI H7 L W.kinds.length (fun _ => True) ∧ LI H7 C W.hands.length (fun x => 0 ≤ x) ∧ TD H7 v1 (dI rec.takes) ∧ TD H7 v2 (dI rec.puts))
        ⟨_, rfl, s56, s6 _ _ hr5, tr5.le (Same.le s6), ⟨ls, hls, lsl, fun _ _ => trivial⟩, hC6, t1, t2⟩ (fun _ _ _ _ _ => trivial) (fun i x σ H7 H8 hi pv y => ?_) (fun σ H7 pv => ?_)
      · obtain ⟨y8, rfl, s7, hr7, tr7, hL7, hC7, t17, t27⟩ := pv
        obtain ⟨rfl, rfl⟩ := y
        have hi' : i < W.kinds.length := by omega
        have ht : i < rec.takes.length := by rw [rok.takes]; exact hi'
        have hp : i < rec.puts.length := by rw [rok.puts]; exact hi'
        walk_at "rds"
        refine rd_getLI hL7 hi' fun x _ => ?_
        walk_at "rds"
        refine rd_ixI t17 ht ?_
        walk_at "rds"
        refine rd_ixI t27 hp ?_
        walk_at "rds"
        have b1 := rok.bt _ (List.getElem_mem ht)
        have b2 := rok.bp _ (List.getElem_mem hp)
        refine rd_I (.inr (by omega)) ?_
        walk_at "rds"
        refine rd_setLI hL7 hi' trivial fun H9 b9 h9 => ?_
        obtain ⟨ms, hms, _⟩ := hL7
        have le9 := b9.le hms
        exact ⟨_, rfl, Same.but s7 b9 fL, le9 _ _ hr7, tr7.le le9, h9, hC7.to fun o ho => b9 _ _ neLC.symm ho, t17.le le9, t27.le le9⟩
      · obtain ⟨y8, rfl, s7, hr7, tr7, hL7, hC7, t17, t27⟩ := pv
        have e3 : v3 = vHand rec.hand := by
          cases e : rec.hand with
          | none => rw [e] at t3; exact t3.non_eq
          | some s => rw [e] at t3; exact t3.str_eq
        subst e3
        cases e : rec.hand with
        | none =>
          walk_at "rds"
          refine ⟨rfl, ?_⟩
          walk_at "rds"
          refine iteF ?_
          walk_at "rds"
          exact ⟨_, _, _, _, _, rfl, s7, hr7, tr7, hL7, hC7⟩
        | some s =>
          have hs := rok.hand s e
          have il := List.idxOf_lt_length_iff.mpr hs
          have hW7 := hW.same s7
          walk_at "rds"
          refine ⟨rfl, ?_⟩
          walk_at "rds"
          refine iteT ?_
          walk_at "rds"
          refine rd_ixTi (j := 1) hW7.at_ rfl rfl ?_
          refine ⟨⟨h, _, rfl, hW7.hands⟩, ?_⟩
          walk_at "rds"
          refine ⟨h, W.hands, s, W.hands.idxOf s, rfl, rfl, hW7.hands.sq, ?_, fun m hm => ?_, ?_⟩
          · rw [List.getElem?_eq_getElem il, List.getElem_idxOf]
          · intro z
            have := List.not_of_lt_findIdx (p := fun y => y == s) (xs := W.hands) (i := m) hm
            obtain ⟨hm', ez⟩ := List.getElem?_eq_some_iff.mp z
            simp [ez] at this
          walk_at "rds"
          refine rd_getLI hC7 il fun x hx => ?_
          walk_at "rds"
          refine rd_setLI hC7 il (by omega) fun H9 b9 h9 => ?_
          obtain ⟨ms, hms, _⟩ := hC7
          have le9 := b9.le hms
          exact ⟨_, _, _, _, _, rfl, Same.but s7 b9 fC, le9 _ _ hr7, tr7.le le9, hL7.to fun o ho => b9 _ _ neLC ho, h9⟩
    · obtain ⟨y4, y5, y6, y7, y8, rfl, s5, hr5, tr5, hL5, hC5⟩ := pv
      obtain ⟨ls, hls, lsl, _⟩ := hL5
      obtain ⟨ms, hms, msl, msb⟩ := hC5
      walk_at "rds"
      refine rd_tupL hls fun p6 H6 n6 s6 h6 => ?_
      walk_at "rds"
      refine rd_tupL (s6 _ _ hms) fun p7 H7 n7 s7 h7 => ?_
      walk_at "rds"
      refine ⟨sz_ok (by simp), rd_new (R := fun p H1 => Q (.ref p) H1) fun p H8 np s8 hp => ?_⟩
      exact q p H8 ls ms (s5.trans (s6.trans (s7.trans s8))) (.tup hp (.cons (TD.ints ((s7.trans s8) _ _ h6)) (.cons (TD.ints (s8 _ _ h7)) .nil))) lsl msl msb
end
section
variable {P : Program} {w : World} {K : PySem.W.Frag} {mg : Str → Option Value} {base : Heap}
theorem TDs.nI {H : Hp} (bs : List Nat) : TDs H (bs.map nI) (bs.map fun (b : Nat) => PyData.int (b : Int)) := by
  have h := TDs.ints (H := H) (bs.map fun (b : Nat) => (b : Int))
  rw [List.map_map, List.map_map] at h
  exact h
theorem rd_neNilN {K : PySem.W.Frag} {H : Hp} {Q : VK} {p e : Addr} {bs : List Nat} (h : H p = some (.lst (bs.map NH.nI))) (he : H e = some (.lst [])) (q : Q (.bl (!bs.isEmpty)) H) : rNeD K (.ref p) (.ref e) H Q := by
  refine rd_neNilL h he (TDs.nI bs) (fun d hd => ?_) (fun d hd => ?_) ?_
  · obtain ⟨x, _, rfl⟩ := List.mem_map.mp hd
    rfl
  · obtain ⟨x, _, rfl⟩ := List.mem_map.mp hd
    exact Nat.zero_le _
  · have e1 : (bs.map NH.nI).isEmpty = bs.isEmpty := by cases bs <;> rfl
    rw [e1]
    exact q
theorem rd_catT {K : PySem.W.Frag} {H : Hp} {Q : VK} {a b : Addr} {xs ys : List V} (h1 : H a = some (.tup xs)) (h2 : H b = some (.tup ys)) (l : xs.length + ys.length ≤ 16000000) (q : ∀ p H1, Same H H1 → H1 p = some (.tup (xs ++ ys)) → Q (.ref p) H1) : rCatA K (.ref a) (.ref b) H Q := by
  refine ⟨a, b, xs, ys, rfl, rfl, SqT.of h1, SqT.of h2, sz_ok l, fun e => ?_, fun _ e => ?_, fun _ _ => rd_new (R := fun p H1 => Q (.ref p) H1) fun p H1 _ s hp => q p H1 s hp⟩
  · refine q b H (Same.refl _) ?_
    rw [e]
    exact h2
  · refine q a H (Same.refl _) ?_
    rw [e, List.append_nil]
    exact h1
theorem ne_of_isEmpty {α : Type} {l : List α} (h : (!l.isEmpty) = true) : l ≠ [] := fun e => by rw [e] at h; cases h
/-- what holds of a recipe at a place of the works -/
theorem rd_recAt {K : PySem.W.Frag} {H : Hp} {Q : VK} {a k h r : Addr} {W : Works} (hW : WkAt H a k h r W) {i : Nat} (hi : i < W.recs.length) (q : ∀ v, TD H v (dRec W.recs[i]) → Q v H) : rIxT K (.ref r) (.int (i : Int)) H Q := by
  obtain ⟨xs, h1, h2⟩ := hW.recs
  exact rd_ixT (j := i) (.tup h1 h2) rfl (by rw [List.getElem?_map, List.getElem?_eq_getElem hi]; rfl) q
structure Total (W : Works) (lot crew : List Int) : Prop where
  l1 : lot.length = W.kinds.length
  l2 : crew.length = W.hands.length
  b1 : ∀ x ∈ lot, 0 ≤ x ∧ x ≤ 100
  b2 : ∀ x ∈ crew, 0 ≤ x ∧ x ≤ 100
def sp_l_planted (K : PySem.W.Frag) : Sp := fun vs H Q _ => ∃ (bg c a k h r : Addr) (W : Works), vs = [.ref bg, .ref a, .int 2] ∧ Bag H bg c ∧ WkAt H a k h r W ∧
  ∀ p H' (lot crew counts : List Int), Gn bg c H H' → TD H' (.ref p) (.tuple [dI lot, dI crew, dI counts]) → Total W lot crew → Q (.ref p) H'
/-! ### _law_planted -/
/- 0 bag_here*, 1 works_here*, 2 most*, 3 turn, 4 counts*, 5 again, 6 lot*, 7 crew, 8 bad*, 9 takers, 10 recipe_here', 11 place', 12 k' -/
theorem sc_l_planted : FnScope ["_law_bag_here", "_law_works_here", "_law_most", "_law_turn", "_law_counts", "_law_again", "_law_lot", "_law_crew", "_law_bad", "_law_takers", "_law_recipe_here", "_law_place", "_law_k"] ["_law_bag_here", "_law_works_here", "_law_most"] (defScope (topS 46)) := ⟨rfl, rfl, rfl, by decide +kernel, rfl, by decide +kernel, by decide +kernel⟩
theorem cl_l_planted (T : Top K mg) : Cl P w K mg base 3 "_law_planted" (sp_l_planted K) := by
  refine cl_of (k := 2) (N := ["_law_bag_here", "_law_works_here", "_law_most", "_law_turn", "_law_counts", "_law_again", "_law_lot", "_law_crew", "_law_bad", "_law_takers", "_law_recipe_here", "_law_place", "_law_k"]) (ps := ["_law_bag_here", "_law_works_here", "_law_most"]) (T.def_ 36 rfl) sc_l_planted (fun vs H Q E h => ?_) (fun _ _ _ _ _ _ us hl => match us, hl with | [_, _, _], _ => rfl) (fun f cdv A outer s H vs Q E hr h => ?_)
  · obtain ⟨bg, c, a, k, h, r, W, rfl, hB, hW, q⟩ := h
    rfl
  · obtain ⟨bg, c, a, k, h, r, W, rfl, hB, hW, q⟩ := h
    have hu := hu_of hr
    have hu65 := hu65_of hr
    have hu64 := hr.units
    refine ⟨_, (pss_cons (ps_for PassesOwn.never rfl (pi_range1 (by rfl) (T.b 1 rfl) (pa_cons pe_int pa_nil)) (pg_name (i := 3) sc_l_planted.nd rfl (.inl rfl))
  (pss_cons (ps_set (i := 4) sc_l_planted.nd rfl (.inr rfl) (pe_lc (own := [("_law_recipe_here", 10)]) (g := gName 10) rfl sc_l_planted.nd  (pi_tup (pe_ix (ix_tupK K) (pv 1) pe_int (fun _ _ => rfl))) (blkOk_by (N := ["_law_bag_here", "_law_works_here", "_law_most", "_law_turn", "_law_counts", "_law_again", "_law_lot", "_law_crew", "_law_bad", "_law_takers", "_law_recipe_here", "_law_place", "_law_k"]) (sc := defScope (topS 46)) (by decide +kernel)) (fun _ _ _ _ _ => (pg_name (i := 10) sc_l_planted.nd rfl (.inl rfl))) (fun _ _ _ _ _ => pts_nil) (fun _ _ _ _ _ => (pe_cl (k := 1) (j := 2) (cl_l_take T) hr (by decide) (by rfl) (pa_cons (pv 0) (pa_cons (pe_op op_add (pv 2) pe_int) pa_nil))))))
  (pss_cons (ps_for PassesOwn.never rfl (pi_range1 (by rfl) (T.b 1 rfl) (pa_cons pe_int pa_nil)) (pg_name (i := 5) sc_l_planted.nd rfl (.inl rfl))
  (pss_cons (ps_asg (pe_cl (k := 1) (j := 2) (cl_l_wants T) hr (by decide) (by rfl) (pa_cons (pv 1) (pa_cons (pv 4) pa_nil))) (pg_tup rfl (pgs_cons (pg_name (i := 6) sc_l_planted.nd rfl (.inr rfl)) (pgs_cons (pg_name (i := 7) sc_l_planted.nd rfl (.inl rfl)) pgs_nil))))
  (pss_cons (ps_set (i := 8) sc_l_planted.nd rfl (.inr rfl) (pe_lc (own := [("_law_place", 11)]) (g := gName 11) rfl sc_l_planted.nd  (pi_range1 (by rfl) (T.b 1 rfl) (pa_cons (pe_callB (call_lenK K) (by rfl) (T.b 0 rfl) PySem.boot_len (pa_cons (pv 6) pa_nil)) pa_nil)) (blkOk_by (N := ["_law_bag_here", "_law_works_here", "_law_most", "_law_turn", "_law_counts", "_law_again", "_law_lot", "_law_crew", "_law_bad", "_law_takers", "_law_recipe_here", "_law_place", "_law_k"]) (sc := defScope (topS 46)) (by decide +kernel)) (fun _ _ _ _ _ => (pg_name (i := 11) sc_l_planted.nd rfl (.inl rfl))) (fun _ _ _ _ _ => (pts_one (pt_cmpR op_lt (pe_ix (ix_tupK K) (pv 6) (pv 11) (fun _ _ => rfl)) pe_int (nomark _)))) (fun _ _ _ _ _ => (pv 11))))
  (pss_cons (ps_setLc (i := 9) (own := [("_law_k", 12)]) (g := gName 12) rfl sc_l_planted.nd rfl rfl (sw_true rfl rfl rfl (by decide +kernel)) (pi_range1 (by rfl) (T.b 1 rfl) (pa_cons (pe_callB (call_lenK K) (by rfl) (T.b 0 rfl) PySem.boot_len (pa_cons (pv 4) pa_nil)) pa_nil)) (blkOk_by (N := ["_law_bag_here", "_law_works_here", "_law_most", "_law_turn", "_law_counts", "_law_again", "_law_lot", "_law_crew", "_law_bad", "_law_takers", "_law_recipe_here", "_law_place", "_law_k"]) (sc := defScope (topS 46)) (by decide +kernel)) (fun _ _ _ _ _ => (pg_name (i := 12) sc_l_planted.nd rfl (.inl rfl))) (fun _ _ _ _ _ => (pts_one (PW.pt (pw_and (pt_cmpR (op_neDK K hr.units) (pv 8) (pe_lst pa_nil) (nomark _)) (pw_and1 (pt_cmpR op_gt (pe_ix (ix_tupK K) (pe_ix (ix_tupK K) (pe_ix (ix_tupK K) (pe_ix (ix_tupK K) (pv 1) pe_int (fun _ _ => rfl)) (pv 12) (fun _ _ => rfl)) pe_int (fun _ _ => rfl)) (pe_ix (ix_listK K) (pv 8) pe_int (fun _ _ => rfl)) (fun _ _ => rfl)) pe_int (nomark _))))))) (fun _ _ _ _ _ => (pv 12)))
  (pss_one (ps_if (pt_cmpR (op_neDK K hr.units) (pv 9) (pe_lst pa_nil) (nomark _)) (pss_one (ps_augS (pv 4) (pe_cl (k := 2) (j := 2) (cl_l_one T) hr (by decide) (by rfl) (pa_cons (pv 0) (pa_cons (pv 9) pa_nil))) get_list pe_int ip_add set_list)) (pss_one (ps_if (pt_cmpR (op_neDK K hr.units) (pv 8) (pe_lst pa_nil) (nomark _)) (pss_one (ps_set (i := 4) sc_l_planted.nd rfl (.inr rfl) (pe_lc (own := [("_law_k", 12)]) (g := gName 12) rfl sc_l_planted.nd  (pi_range1 (by rfl) (T.b 1 rfl) (pa_cons (pe_callB (call_lenK K) (by rfl) (T.b 0 rfl) PySem.boot_len (pa_cons (pv 4) pa_nil)) pa_nil)) (blkOk_by (N := ["_law_bag_here", "_law_works_here", "_law_most", "_law_turn", "_law_counts", "_law_again", "_law_lot", "_law_crew", "_law_bad", "_law_takers", "_law_recipe_here", "_law_place", "_law_k"]) (sc := defScope (topS 46)) (by decide +kernel)) (fun _ _ _ _ _ => (pg_name (i := 12) sc_l_planted.nd rfl (.inl rfl))) (fun _ _ _ _ _ => pts_nil) (fun _ _ _ _ _ => (pe_ifExp (pt_cmpR op_gt (pe_ix (ix_tupK K) (pe_ix (ix_tupK K) (pe_ix (ix_tupK K) (pe_ix (ix_tupK K) (pv 1) pe_int (fun _ _ => rfl)) (pv 12) (fun _ _ => rfl)) pe_int (fun _ _ => rfl)) (pe_ix (ix_listK K) (pv 8) pe_int (fun _ _ => rfl)) (fun _ _ => rfl)) pe_int (nomark _)) pe_int (pe_ix (ix_listK K) (pv 4) (pv 12) (fun _ _ => rfl))))))) pss_nil))))))))
  (pss_cons (ps_asg (pe_cl (k := 1) (j := 2) (cl_l_wants T) hr (by decide) (by rfl) (pa_cons (pv 1) (pa_cons (pv 4) pa_nil))) (pg_tup rfl (pgs_cons (pg_name (i := 6) sc_l_planted.nd rfl (.inr rfl)) (pgs_cons (pg_name (i := 7) sc_l_planted.nd rfl (.inl rfl)) pgs_nil))))
  (pss_one (ps_if (PW.pt (pw_and (pt_cmpR op_ge (pe_callB (cr_minU rfl) (by rfl) (T.b 3 rfl) (by decide +kernel) (pa_cons (pv 6) pa_nil)) pe_int (nomark _)) (pw_and1 (pt_cmpR op_le (pe_callB (cr_maxU rfl) (by rfl) (T.b 4 rfl) (by decide +kernel) (pa_cons (pe_op (op_catAK K) (pv 6) (pv 7)) pa_nil)) pe_int (nomark _))))) (pss_one (ps_ret (pe_tup (pa_cons (pv 6) (pa_cons (pv 7) (pa_cons (pe_callTy (call_tupleK K) (by rfl) (T.b 7 rfl) (by decide +kernel) (pa_cons (pv 4) pa_nil)) pa_nil)))))) pss_nil))))))
  (pss_one (ps_ret (pe_tup (pa_cons (pe_cl (k := 1) (j := 2) (cl_l_nothing T) hr (by decide) (by rfl) (pa_cons (pv 1) pa_nil)) (pa_cons (pe_op op_repU (pe_tup (pa_cons pe_int pa_nil)) (pe_callB (call_lenK K) (by rfl) (T.b 0 rfl) PySem.boot_len (pa_cons (pe_ix (ix_tupK K) (pv 1) pe_int (fun _ _ => rfl)) pa_nil))) (pa_cons (pe_op op_repU (pe_tup (pa_cons pe_int pa_nil)) (pe_callB (call_lenK K) (by rfl) (T.b 0 rfl) PySem.boot_len (pa_cons (pe_ix (ix_tupK K) (pv 1) pe_int (fun _ _ => rfl)) pa_nil))) pa_nil))))))), ?_⟩
    obtain ⟨k1, k2, k3, k4, k5⟩ := hW.ok
    walk_at "rds"
    refine ⟨_, rfl, by omega, by omega, ?_⟩
    refine forw walk_range0 (fun j σ H1 => ∃ y3 y4 y5 y6 y7 y8 y9, σ = [some (.ref bg), some (.ref a), some (.int 2), y3, y4, y5, y6, y7, y8, y9, none, none, none] ∧ Gn bg c H H1)
      ⟨none, none, none, none, none, none, none, rfl, Gn.refl hB⟩ (fun _ _ _ _ _ => trivial) (fun j x σ H1 H2 hj pv y => ?_) (fun σ H1 pv => ?_)
    · obtain ⟨y3, y4, y5, y6, y7, y8, y9, rfl, g1⟩ := pv
      obtain ⟨rfl, rfl⟩ := y
      have hW1 := hW.gn g1
      walk_at "rds"
      refine rd_ixTi (j := 2) hW1.at_ rfl rfl ?_
      obtain ⟨rx, hr1, hr2⟩ := hW1.recs
      have rl := hr2.length
      rw [List.length_map] at rl
      have rb : r ≠ bg := fun e => by
        obtain ⟨_, _, _, hb⟩ := g1.bag.at_
        rw [← e, hr1] at hb
        cases hb
      refine ⟨r, rfl, ⟨_, SqT.of hr1⟩, fun D nD => ?_⟩
      have fD := g1.free nD
      refine lcw (walk_tup (xs := rx)) (fun i acc H3 => Gn bg c H2 H3 ∧ ∃ ms : List Int, acc = ms.map V.int ∧ ms.length = i ∧ ∀ m ∈ ms, 0 ≤ m) ⟨(Gn.refl g1.bag).upd nD, [], rfl, rfl, fun m hm => absurd hm List.not_mem_nil⟩ (fun i acc H3 p => SqT.of (p.1.tup hr1))
        (fun i x acc H3 H4 hi hl hD p y => ?_) (fun acc H3 hD hl p => ?_)
      · obtain ⟨g3, ms, rfl, ml, mb⟩ := p
        obtain ⟨rfl, f1⟩ := y
        walk_at "rds"
        refine ⟨rfl, ?_⟩
        walk_at "rds"
        refine iteT ?_
        walk_at "rds"
        refine ⟨bg, c, _, rfl, g3.bag, by omega, by omega, fun r H5 g5 r0 r1 => ?_⟩
        refine lcn (g5.at_ hD (hB.k1 fD)) hl (by omega) ⟨(g3.trans g5).upd nD, ms ++ [r], by rw [List.map_append]; rfl, by simp [ml], fun m hm => ?_⟩
        rcases List.mem_append.mp hm with z | z
        · exact mb m z
        · rw [List.mem_singleton.mp z]
          exact r0
      obtain ⟨g3, ms, rfl, ml, mb⟩ := p
      rw [rl] at ml
      have g13 := g1.trans g3
      walk_at "rds"
      refine ⟨_, rfl, by omega, by omega, ?_⟩
      refine forw walk_range0 (fun i σ H4 => ∃ (cl : Addr) (y5 y6 y7 y8 y9 : Option V), σ = [some (.ref bg), some (.ref a), some (.int 2), some (.int (j : Int)), some (.ref cl), y5, y6, y7, y8, y9, none, none, none] ∧ Gn bg c H H4 ∧ H cl = none ∧ LI H4 cl W.recs.length (fun x => 0 ≤ x))
        ⟨D, _, _, _, _, _, rfl, g13, fD, ms, hD, ml, mb⟩ (fun _ _ _ _ _ => trivial) (fun i x σ H4 H5 hi pv y => ?_) (fun σ H4 pv => ?_)
      · obtain ⟨cl, y5, y6, y7, y8, y9, rfl, g4, fcl, hcl⟩ := pv
        obtain ⟨rfl, rfl⟩ := y
        have hW4 := hW.gn g4
        obtain ⟨cs, hcs1, hcs2, hcs3⟩ := hcl
        walk_at "rds"
        refine ⟨a, k, h, r, cl, W, cs, rfl, hW4, hcs1, hcs3, fun p H6 lot crew s6 hp ll lc lb => ?_⟩
        obtain ⟨ap, xp, e, hap, tp⟩ := hp.tup_inv
        cases e
        cases tp with | cons t1 tp =>
        cases tp with | cons t2 tp =>
        cases tp
        rename_i v1 v2
        refine rd_gtup rfl (SqT.of hap) rfl ?_
        refine rd_gcons (rd_name (rd_gcons (rd_name (rd_gnil ?_))))
        walk_at "rds"
        refine rd_lenD t1 ?_
        rw [List.length_map, ll]
        refine ⟨_, rfl, by omega, by omega, fun B nB => ?_⟩
        refine lcw walk_range0 (fun i acc H7 => Same H6 H7 ∧ ∃ bs : List Nat, acc = bs.map nI ∧ ∀ b ∈ bs, b < W.kinds.length) ⟨Same.mut (Same.refl _) nB, [], rfl, fun b hb => absurd hb List.not_mem_nil⟩ (fun _ _ _ _ => trivial)
          (fun i x acc H7 H8 hi hl hB7 p y => ?_) (fun acc H7 hB7 hl7 p => ?_)
        · obtain ⟨s7, bs, rfl, bb⟩ := p
          obtain ⟨rfl, rfl⟩ := y
          have hi' : i < lot.length := by omega
          walk_at "rds"
          refine ⟨rfl, ?_⟩
          walk_at "rds"
          refine rd_ixI (t1.le (Same.le s7)) hi' ?_
          walk_at "rds"
          refine ite3 (fun hc => ?_) (fun hc => ?_)
          · walk_at "rds"
            refine lcn hB7 hl (by omega) ⟨Same.mut s7 nB, bs ++ [i], by rw [List.map_append]; rfl, fun b hb => ?_⟩
            rcases List.mem_append.mp hb with z | z
            · exact bb b z
            · rw [List.mem_singleton.mp z]; omega
          · exact lcs hB7 hl ⟨s7, bs, rfl, bb⟩
        obtain ⟨s7, bs, rfl, bb⟩ := p
        have g7 := g4.same (s6.trans s7)
        have hcs7 := (s6.trans s7) _ _ hcs1
        walk_at "rds"
        refine rd_lenL hcs7 ?_
        rw [List.length_map, hcs2]
        refine ⟨_, rfl, by omega, by omega, fun T nT => ?_⟩
        refine lcw walk_range0 (fun i acc H8 => Same H7 H8 ∧ ∃ ts : List Nat, acc = ts.map nI ∧ ∀ t ∈ ts, t < W.recs.length) ⟨Same.mut (Same.refl _) nT, [], rfl, fun b hb => absurd hb List.not_mem_nil⟩ (fun _ _ _ _ => trivial)
          (fun i x acc H8 H9 hi hl hT8 p y => ?_) (fun acc H8 hT8 hl8 p => ?_)
        · obtain ⟨s8, ts, rfl, tb⟩ := p
          obtain ⟨rfl, rfl⟩ := y
          have hi' : i < W.recs.length := by omega
          walk_at "rds"
          refine ⟨rfl, ?_⟩
          walk_at "rds"
          refine ⟨sz_ok (by simp), fun e ne => ?_⟩
          generalize eH9 : upd _ e _ = H9
          obtain ⟨s9, h9⟩ := new_of eH9 ne
          refine rd_neNilN ((s8.trans s9) _ _ hB7) h9 ?_
          walk_at "rds"
          have hW9 := hW.gn (g7.same (s8.trans s9))
          refine ite3 (fun hc => ?_) (fun hc => ?_)
          · obtain ⟨b0, bs', ebs⟩ := List.exists_cons_of_ne_nil (ne_of_isEmpty hc)
            walk_at "rds"
            refine rd_ixTi (j := 2) hW9.at_ rfl rfl ?_
            walk_at "rds"
            refine rd_recAt hW9 hi' fun v hv => ?_
            walk_at "rds"
            refine rd_ixT (j := 0) hv rfl rfl fun w hw => ?_
            walk_at "rds"
            refine rd_ixL (j := 0) (SqL.of ((s8.trans s9) _ _ hB7)) rfl (by rw [ebs]; rfl) ?_
            refine rd_ixI hw (by rw [(k5 _ (List.getElem_mem hi')).takes]; exact bb _ (by rw [ebs]; simp)) ?_
            walk_at "rds"
            refine ite3 (fun hc => ?_) (fun hc => ?_)
            · walk_at "rds"
              refine lcn (s9 _ _ hT8) hl (by omega) ⟨Same.mut (s8.trans s9) nT, ts ++ [i], by rw [List.map_append]; rfl, fun b hb => ?_⟩
              rcases List.mem_append.mp hb with z | z
              · exact tb b z
              · rw [List.mem_singleton.mp z]; omega
            · exact lcs (s9 _ _ hT8) hl ⟨s8.trans s9, ts, rfl, tb⟩
          · refine iteF ?_
            exact lcs (s9 _ _ hT8) hl ⟨s8.trans s9, ts, rfl, tb⟩
        obtain ⟨s8, ts, rfl, tb⟩ := p
        have g8 := g7.same s8
        have hcs8 := s8 _ _ hcs7
        have hB8 := s8 _ _ hB7
        walk_at "rds"
        refine ⟨sz_ok (by simp), fun e ne => ?_⟩
        generalize eH9 : upd _ e _ = H9
        obtain ⟨s9, h9⟩ := new_of eH9 ne
        refine rd_neNilN (s9 _ _ hT8) h9 ?_
        walk_at "rds"
        have g9 := g8.same s9
        have bcl := hB.k1 fcl
        have bT : T ≠ bg := hB.k1 (g7.free nT)
        refine ite3 (fun hc => ?_) (fun hc => ?_)
        · have hne := ne_of_isEmpty hc
          have tl : ts.length ≤ 1000 := by
            rw [List.length_map] at hl8
            omega
          walk_at "rds"
          refine ⟨bg, c, T, _, rfl, g9.bag, s9 _ _ hT8, bT, by rw [List.length_map]; exact List.length_pos_iff.mpr hne, by rw [List.length_map]; omega, fun v H10 g10 hv => ?_⟩
          obtain ⟨t, ht, rfl⟩ := List.mem_map.mp hv
          have hcl10 : LI H10 cl W.recs.length (fun x => 0 ≤ x) := ⟨cs, g10.at_ (s9 _ _ hcs8) bcl, hcs2, hcs3⟩
          refine rd_getLI hcl10 (tb t ht) fun x hx => ?_
          walk_at "rds"
          refine rd_setLI hcl10 (tb t ht) (by omega) fun H11 b11 h11 => ?_
          exact ⟨cl, _, _, _, _, _, rfl, (g9.trans g10).mut b11 fcl, fcl, h11⟩
        · walk_at "rds"
          refine ⟨sz_ok (by simp), fun e2 ne2 => ?_⟩
          generalize eH10 : upd _ e2 _ = H10
          obtain ⟨s10, h10⟩ := new_of eH10 ne2
          have hB10 := (s9.trans s10) _ _ hB8
          have hcs10 := (s9.trans s10) _ _ hcs8
          have g10 := g9.same s10
          refine rd_neNilN hB10 h10 ?_
          walk_at "rds"
          refine ite3 (fun hc => ?_) (fun hc => ?_)
          · obtain ⟨b0, bs', ebs⟩ := List.exists_cons_of_ne_nil (ne_of_isEmpty hc)
            walk_at "rds"
            refine rd_lenL hcs10 ?_
            rw [List.length_map, hcs2]
            refine ⟨_, rfl, by omega, by omega, fun E nE => ?_⟩
            refine lcw walk_range0 (fun i acc H11 => Same H10 H11 ∧ ∃ ms : List Int, acc = ms.map V.int ∧ ms.length = i ∧ ∀ m ∈ ms, 0 ≤ m) ⟨Same.mut (Same.refl _) nE, [], rfl, rfl, fun b hb => absurd hb List.not_mem_nil⟩ (fun _ _ _ _ => trivial)
              (fun i x acc H11 H12 hi hl hE p y => ?_) (fun acc H11 hE hl11 p => ?_)
            · obtain ⟨s11, ms, rfl, ml, mb⟩ := p
              obtain ⟨rfl, rfl⟩ := y
              have hi' : i < W.recs.length := by omega
              have hW11 := hW.gn (g10.same s11)
              have app : ∀ x : Int, 0 ≤ x → LcN E (fun i acc H11 => Same H10 H11 ∧ ∃ ms : List Int, acc = ms.map V.int ∧ ms.length = i ∧ ∀ m ∈ ms, 0 ≤ m) i (.int x) H12 := fun x hx =>
                lcn hE hl (by omega) ⟨Same.mut s11 nE, ms ++ [x], by rw [List.map_append]; rfl, by simp [ml], fun m hm => by
                  rcases List.mem_append.mp hm with z | z
                  · exact mb m z
                  · rw [List.mem_singleton.mp z]; exact hx⟩
              walk_at "rds"
              refine ⟨rfl, ?_⟩
              walk_at "rds"
              refine iteT ?_
              walk_at "rds"
              refine rd_ixTi (j := 2) hW11.at_ rfl rfl ?_
              walk_at "rds"
              refine rd_recAt hW11 hi' fun v hv => ?_
              walk_at "rds"
              refine rd_ixT (j := 1) hv rfl rfl fun w hw => ?_
              walk_at "rds"
              refine rd_ixL (j := 0) (SqL.of (s11 _ _ hB10)) rfl (by rw [ebs]; rfl) ?_
              refine rd_ixI hw (by rw [(k5 _ (List.getElem_mem hi')).puts]; exact bb _ (by rw [ebs]; simp)) ?_
              walk_at "rds"
              refine ite3 (fun hc => ?_) (fun hc => ?_)
              · walk_at "rds"
                exact app 0 (Int.le_refl _)
              · walk_at "rds"
                have hl2 : i < cs.length := by omega
                refine rd_ixL (j := i) (SqL.of (s11 _ _ hcs10)) rfl (by rw [List.getElem?_map, List.getElem?_eq_getElem hl2]; rfl) ?_
                exact app _ (hcs3 _ (List.getElem_mem hl2))
            · obtain ⟨s11, ms, rfl, ml, mb⟩ := p
              walk_at "rds"
              exact ⟨E, _, _, _, _, _, rfl, g10.same s11, g10.free nE, ms, hE, by omega, mb⟩
          · walk_at "rds"
            exact ⟨cl, _, _, _, _, _, rfl, g10, fcl, cs, hcs10, hcs2, hcs3⟩
      · obtain ⟨cl, y5, y6, y7, y8, y9, rfl, g4, fcl, hcl⟩ := pv
        have hW4 := hW.gn g4
        obtain ⟨cs, hcs1, hcs2, hcs3⟩ := hcl
        walk_at "rds"
        refine ⟨a, k, h, r, cl, W, cs, rfl, hW4, hcs1, hcs3, fun p H6 lot crew s6 hp ll lc lb => ?_⟩
        obtain ⟨ap, xp, e, hap, tp⟩ := hp.tup_inv
        cases e
        cases tp with | cons t1 tp =>
        cases tp with | cons t2 tp =>
        cases tp
        obtain ⟨a1, rfl, h1⟩ := t1.ints_inv
        obtain ⟨a2, rfl, h2⟩ := t2.ints_inv
        refine rd_gtup rfl (SqT.of hap) rfl ?_
        refine rd_gcons (rd_name (rd_gcons (rd_name (rd_gnil ?_))))
        have g6 := g4.same s6
        walk_at "rds"
        refine ⟨a1, lot, rfl, SqT.of h1, by omega, fun mn hmn hmn2 => ?_⟩
        walk_at "rds"
        refine ite3 (fun hc => ?_) (fun hc => ?_)
        · have hmn3 : 0 ≤ mn := of_decide_eq_true hc
          walk_at "rds"
          have lne : lot ≠ [] := fun z => by rw [z] at ll; simp at ll; omega
          refine rd_catT h1 h2 (by simp; omega) fun p7 H7 s7 h7 => ?_
          walk_at "rds"
          refine ⟨p7, lot ++ crew, rfl, SqT.of (by rw [h7, List.map_append]), by rw [List.length_append]; omega, fun mx hmx hmx2 => ?_⟩
          walk_at "rds"
          refine ite3 (fun hc => ?_) (fun hc => ?_)
          · have hmx3 : mx ≤ 4 := of_decide_eq_true hc
            walk_at "rds"
            refine rd_tupL (s7 _ _ (s6 _ _ hcs1)) fun p8 H8 n8 s8 h8 => ?_
            walk_at "rds"
            refine ⟨sz_ok (by simp), rd_new (R := fun p H1 => Q (.ref p) H1) fun p H9 np s9 hp => ?_⟩
            have s79 := s7.trans (s8.trans s9)
            refine q p H9 lot crew cs (g6.same s79) (.tup hp (.cons (TD.ints (s79 _ _ h1)) (.cons (TD.ints (s79 _ _ h2)) (.cons (TD.ints (s9 _ _ h8)) .nil)))) ⟨ll, lc, fun x hx => ?_, fun x hx => ?_⟩
            · have a1 := hmn2 x hx
              have a2 := hmx2 x (List.mem_append_left _ hx)
              omega
            · have a1 := lb x hx
              have a2 := hmx2 x (List.mem_append_right _ hx)
              omega
          · walk_at "rds"
            exact ⟨_, _, _, _, _, _, _, rfl, g6.same s7⟩
        · refine iteF ?_
          walk_at "rds"
          exact ⟨_, _, _, _, _, _, _, rfl, g6⟩
    · obtain ⟨y3, y4, y5, y6, y7, y8, y9, rfl, g1⟩ := pv
      have hW1 := hW.gn g1
      walk_at "rds"
      refine ⟨a, k, _, _, rfl, hW1.at_, SqT.of hW1.kinds, by rw [List.length_map]; omega, fun p2 H2 s2 h2 => ?_⟩
      walk_at "rds"
      refine ⟨sz_ok (by simp), fun z1 nz1 => ?_⟩
      generalize eH3 : upd _ z1 _ = H3
      obtain ⟨s3, hz1⟩ := new_of eH3 nz1
      have hW3 := hW1.same (s2.trans s3)
      walk_at "rds"
      refine rd_ixTi (j := 1) hW3.at_ rfl rfl ?_
      walk_at "rds"
      refine ⟨h, _, rfl, .inr hW3.hands.sq, ?_⟩
      rw [List.length_map]
      refine ⟨z1, _, _, rfl, rfl, hz1, by simp, by omega, by omega, by simp, fun p4 H4 s4 h4 => ?_⟩
      have h4' : H4 p4 = some (.tup ((List.replicate W.hands.length (0 : Int)).map V.int)) := by rw [h4, Int.toNat_natCast, List.flatten_replicate_singleton, List.map_replicate]
      walk_at "rds"
      refine ⟨sz_ok (by simp), fun z2 nz2 => ?_⟩
      generalize eH5 : upd _ z2 _ = H5
      obtain ⟨s5, hz2⟩ := new_of eH5 nz2
      have hW5 := hW3.same (s4.trans s5)
      walk_at "rds"
      refine rd_ixTi (j := 2) hW5.at_ rfl rfl ?_
      obtain ⟨rx, hr1, hr2⟩ := hW5.recs
      have rl := hr2.length
      rw [List.length_map] at rl
      walk_at "rds"
      refine ⟨r, rx, rfl, .inr (SqT.of hr1), ?_⟩
      refine ⟨z2, _, _, rfl, rfl, hz2, by simp, by omega, by omega, by simp, fun p6 H6 s6 h6 => ?_⟩
      have h6' : H6 p6 = some (.tup ((List.replicate rx.length (0 : Int)).map V.int)) := by rw [h6, Int.toNat_natCast, List.flatten_replicate_singleton, List.map_replicate]
      walk_at "rds"
      refine ⟨sz_ok (by simp), rd_new (R := fun p H1 => Q (.ref p) H1) fun p H7 np s7 hp => ?_⟩
      have s27 := s3.trans (s4.trans (s5.trans (s6.trans s7)))
      refine q p H7 (List.replicate (W.kinds.map V.str).length 0) (List.replicate W.hands.length 0) (List.replicate rx.length 0) (g1.same (s2.trans s27))
        (.tup hp (.cons (h2.le (Same.le s27)) (.cons (TD.ints ((s5.trans (s6.trans s7)) _ _ h4')) (.cons (TD.ints (s7 _ _ h6')) .nil)))) ⟨by simp, by simp, fun x hx => ?_, fun x hx => ?_⟩
      · rw [(List.mem_replicate.mp hx).2]
        omega
      · rw [(List.mem_replicate.mp hx).2]
        omega
end
section
variable {P : Program} {w : World} {K : PySem.W.Frag} {mg : Str → Option Value} {base : Heap}
/-- marks: an amounts tuple and a hands tuple for each place -/
def MarkAt (H : Hp) (v : V) (nk nh : Nat) : Prop := ∃ lot crew : List Int, TD H v (.tuple [dI lot, dI crew]) ∧ lot.length = nk ∧ crew.length = nh ∧ (∀ x ∈ lot, 0 ≤ x ∧ x ≤ 100) ∧ ∀ x ∈ crew, 0 ≤ x ∧ x ≤ 100
theorem MarkAt.le {H H' : Hp} {v : V} {nk nh : Nat} (h : MarkAt H v nk nh) (e : Le H H') : MarkAt H' v nk nh := by
  obtain ⟨lot, crew, h1, h2⟩ := h
  exact ⟨lot, crew, h1.le e, h2⟩
theorem zip_bd {f : Int → Int → Int} {a b : Int} : ∀ {ns ms : List Int}, (∀ x ∈ ns, ∀ y ∈ ms, a ≤ f x y ∧ f x y ≤ b) → ∀ z ∈ List.zipWith f ns ms, a ≤ z ∧ z ≤ b
  | [], _, _, z, hz => by simp at hz
  | _ :: _, [], _, z, hz => by simp at hz
  | n :: ns, m :: ms, h, z, hz => by
    rw [List.zipWith_cons_cons] at hz
    rcases List.mem_cons.mp hz with e | e
    · rw [e]
      exact h n (by simp) m (by simp)
    · exact zip_bd (fun x hx y hy => h x (List.mem_cons_of_mem _ hx) y (List.mem_cons_of_mem _ hy)) z e
theorem rd_minI {K : PySem.W.Frag} {H : Hp} {Q : VK} {v : V} {ns : List Int} (h : TD H v (dI ns)) (h0 : 0 < ns.length) (q : ∀ m : Int, Q (.int m) H) : rMinU K [v] H Q := by
  obtain ⟨a, rfl, e⟩ := h.ints_inv
  exact ⟨a, ns, rfl, SqT.of e, h0, fun m _ _ => q m⟩
def sp_l_arrow (K : PySem.W.Frag) : Sp := fun vs H Q _ => ∃ (v0 vt : V) (s t nk nh : Nat) (mk : Addr) (ms : List V) (tl tc : List Int) (td : PyData), vs = [v0, .int (s : Int), .int (t : Int), vt, .ref mk] ∧ H mk = some (.lst ms) ∧ (∀ v ∈ ms, MarkAt H v nk nh) ∧ s < ms.length ∧ t < ms.length ∧
  TD H vt (.tuple [dI tl, dI tc, td]) ∧ tl.length = nk ∧ tc.length = nh ∧ (∀ x ∈ tl, 0 ≤ x ∧ x ≤ 100) ∧ (∀ x ∈ tc, 0 ≤ x ∧ x ≤ 100) ∧ 1 ≤ nk ∧ nk ≤ 1000 ∧ nh ≤ 1000 ∧
  ∀ p H' (amt crew : List Int), Same H H' → TD H' (.ref p) (dArrow ⟨s, t, amt, crew⟩) → amt.length = nk → crew.length = nh → (∀ x ∈ amt, -200 ≤ x ∧ x ≤ 200) → (∀ x ∈ crew, -200 ≤ x ∧ x ≤ 200) → Q (.ref p) H'
/-! ### _law_arrow -/
/- 0 works_here, 1 source, 2 target, 3 total, 4 marks, 5 lot, 6 crew -/
theorem sc_l_arrow : FnScope ["_law_works_here", "_law_source", "_law_target", "_law_total", "_law_marks", "_law_lot", "_law_crew"] ["_law_works_here", "_law_source", "_law_target", "_law_total", "_law_marks"] (defScope (topS 48)) := ⟨rfl, rfl, rfl, by decide +kernel, rfl, by decide +kernel, by decide +kernel⟩
theorem cl_l_arrow (T : Top K mg) : Cl P w K mg base 2 "_law_arrow" (sp_l_arrow K) := by
  refine cl_of (k := 1) (N := ["_law_works_here", "_law_source", "_law_target", "_law_total", "_law_marks", "_law_lot", "_law_crew"]) (ps := ["_law_works_here", "_law_source", "_law_target", "_law_total", "_law_marks"]) (T.def_ 38 rfl) sc_l_arrow (fun vs H Q E h => ?_) (fun _ _ _ _ _ _ us hl => match us, hl with | [_, _, _, _, _], _ => rfl) (fun f cdv A outer s H vs Q E hr h => ?_)
  · obtain ⟨v0, vt, s, t, nk, nh, mk, ms, tl, tc, td, rfl, hmk, hms, hs, ht, hT, l1, l2, b1, b2, hk1, hk2, hh2, q⟩ := h
    rfl
  · obtain ⟨v0, vt, s, t, nk, nh, mk, ms, tl, tc, td, rfl, hmk, hms, hs, ht, hT, l1, l2, b1, b2, hk1, hk2, hh2, q⟩ := h
    have hu := hu_of hr
    have hu65 := hu65_of hr
    have hu64 := hr.units
    refine ⟨_, (pss_cons (ps_par (i := 5) (j := 6) rfl sc_l_arrow.nd rfl rfl (by decide) rfl rfl (pa_cons (pe_cl (k := 1) (j := 1) (cl_l_less T) hr (by decide) (by rfl) (pa_cons (pe_ix (ix_tupK K) (pe_ix (ix_listK K) (pv 4) (pv 2) (fun _ _ => rfl)) pe_int (fun _ _ => rfl)) (pa_cons (pe_ix (ix_tupK K) (pe_ix (ix_listK K) (pv 4) (pv 1) (fun _ _ => rfl)) pe_int (fun _ _ => rfl)) pa_nil))) (pa_cons (pe_cl (k := 1) (j := 1) (cl_l_less T) hr (by decide) (by rfl) (pa_cons (pe_ix (ix_tupK K) (pe_ix (ix_listK K) (pv 4) (pv 2) (fun _ _ => rfl)) pe_int (fun _ _ => rfl)) (pa_cons (pe_ix (ix_tupK K) (pe_ix (ix_listK K) (pv 4) (pv 1) (fun _ _ => rfl)) pe_int (fun _ _ => rfl)) pa_nil))) pa_nil)) (by rfl))
  (pss_cons (ps_if (pt_cmpR op_lt (pe_callB (cr_minU rfl) (by rfl) (T.b 3 rfl) (by decide +kernel) (pa_cons (pv 5) pa_nil)) pe_int (nomark _)) (pss_one (ps_par (i := 5) (j := 6) rfl sc_l_arrow.nd rfl rfl (by decide) rfl rfl (pa_cons (pe_cl (k := 1) (j := 1) (cl_l_sum T) hr (by decide) (by rfl) (pa_cons (pv 5) (pa_cons (pe_ix (ix_tupK K) (pv 3) pe_int (fun _ _ => rfl)) pa_nil))) (pa_cons (pe_cl (k := 1) (j := 1) (cl_l_sum T) hr (by decide) (by rfl) (pa_cons (pv 6) (pa_cons (pe_ix (ix_tupK K) (pv 3) pe_int (fun _ _ => rfl)) pa_nil))) pa_nil)) (by rfl))) (pss_one (ps_if (PW.pt (pw_and (pt_cmpR (op_neDK K hr.units) (pv 6) (pe_tup pa_nil) (nomark _)) (pw_and1 (pt_cmpR op_lt (pe_callB (cr_minU rfl) (by rfl) (T.b 3 rfl) (by decide +kernel) (pa_cons (pv 6) pa_nil)) pe_int (nomark _))))) (pss_one (ps_set (i := 6) sc_l_arrow.nd rfl (.inl rfl) (pe_cl (k := 1) (j := 1) (cl_l_sum T) hr (by decide) (by rfl) (pa_cons (pv 6) (pa_cons (pe_ix (ix_tupK K) (pv 3) pe_int (fun _ _ => rfl)) pa_nil))))) pss_nil)))
  (pss_one (ps_ret (pe_tup (pa_cons (pv 1) (pa_cons (pv 2) (pa_cons (pv 5) (pa_cons (pv 6) pa_nil))))))))), ?_⟩
    obtain ⟨ls, cs, hS, ls1, ls2, ls3, ls4⟩ := hms _ (List.getElem_mem hs)
    obtain ⟨lt, ct, hTt, lt1, lt2, lt3, lt4⟩ := hms _ (List.getElem_mem ht)
    walk_at "rds"
    refine rd_ixL (j := t) (SqL.of hmk) rfl (List.getElem?_eq_getElem ht) ?_
    walk_at "rds"
    refine rd_ixT (j := 0) hTt rfl rfl fun w1 h1 => ?_
    walk_at "rds"
    refine rd_ixL (j := s) (SqL.of hmk) rfl (List.getElem?_eq_getElem hs) ?_
    walk_at "rds"
    refine rd_ixT (j := 0) hS rfl rfl fun w2 h2 => ?_
    walk_at "rds"
    refine ⟨w1, w2, lt, ls, rfl, h1, h2, by omega, fun p1 H1 s1 hp1 => ?_⟩
    walk_at "rds"
    have hmk1 := s1 _ _ hmk
    refine rd_ixL (j := t) (SqL.of hmk1) rfl (List.getElem?_eq_getElem ht) ?_
    walk_at "rds"
    refine rd_ixT (j := 1) (hTt.le (Same.le s1)) rfl rfl fun w1 h1 => ?_
    walk_at "rds"
    refine rd_ixL (j := s) (SqL.of hmk1) rfl (List.getElem?_eq_getElem hs) ?_
    walk_at "rds"
    refine rd_ixT (j := 1) (hS.le (Same.le s1)) rfl rfl fun w2 h2 => ?_
    walk_at "rds"
    refine ⟨w1, w2, ct, cs, rfl, h1, h2, by omega, fun p2 H2 s2 hp2 => ?_⟩
    walk_at "rd"
    walk_at "rd"
    walk_at "rd"
    have hp1 := hp1.le (Same.le s2)
    have s12 := s1.trans s2
    have hT2 := hT.le (Same.le s12)
    have m1 : (List.zipWith (· - ·) lt ls).length = nk := by simp; omega
    have m2 : (List.zipWith (· - ·) ct cs).length = nh := by simp; omega
    have bd1 : ∀ z ∈ List.zipWith (· - ·) lt ls, (-100 : Int) ≤ z ∧ z ≤ 100 := zip_bd fun x hx y hy => by
      have a1 := lt3 x hx
      have a2 := ls3 y hy
      show (-100 : Int) ≤ x - y ∧ x - y ≤ 100
      omega
    have bd2 : ∀ z ∈ List.zipWith (· - ·) ct cs, (-100 : Int) ≤ z ∧ z ≤ 100 := zip_bd fun x hx y hy => by
      have a1 := lt4 x hx
      have a2 := ls4 y hy
      show (-100 : Int) ≤ x - y ∧ x - y ≤ 100
      omega
    generalize List.zipWith (· - ·) lt ls = u1 at *
    generalize List.zipWith (· - ·) ct cs = u2 at *
    refine rd_ifR (fun σ H3 => ∃ (p3 p4 : Addr) (amt crew : List Int), σ = [some v0, some (.int (s : Int)), some (.int (t : Int)), some vt, some (.ref mk), some (.ref p3), some (.ref p4)] ∧ Same H H3 ∧ TD H3 (.ref p3) (dI amt) ∧ TD H3 (.ref p4) (dI crew) ∧ amt.length = nk ∧ crew.length = nh ∧ (∀ x ∈ amt, -200 ≤ x ∧ x ≤ 200) ∧ (∀ x ∈ crew, -200 ≤ x ∧ x ≤ 200)) ?_ fun nx' hnx => ?_
    · rintro σ H3 ⟨p3, p4, amt, crew, rfl, s3, h3, h4, e1, e2, e3, e4⟩
      walk_at "rds"
      refine ⟨sz_ok (by simp), rd_new (R := fun p H1 => Q (.ref p) H1) fun p H4 np s4 hp => ?_⟩
      exact q p H4 amt crew (s3.trans s4) (.tup hp (.cons (.int _) (.cons (.int _) (.cons (h3.le (Same.le s4)) (.cons (h4.le (Same.le s4)) .nil))))) e1 e2 e3 e4
    · have sm1 : ∀ z ∈ List.zipWith (· + ·) u1 tl, (-200 : Int) ≤ z ∧ z ≤ 200 := zip_bd fun x hx y hy => by
        have a1 := bd1 x hx
        have a2 := b1 y hy
        show (-200 : Int) ≤ x + y ∧ x + y ≤ 200
        omega
      have sm2 : ∀ z ∈ List.zipWith (· + ·) u2 tc, (-200 : Int) ≤ z ∧ z ≤ 200 := zip_bd fun x hx y hy => by
        have a1 := bd2 x hx
        have a2 := b2 y hy
        show (-200 : Int) ≤ x + y ∧ x + y ≤ 200
        omega
      have bd1' : ∀ z ∈ u1, (-200 : Int) ≤ z ∧ z ≤ 200 := fun z hz => by have := bd1 z hz; omega
      have bd2' : ∀ z ∈ u2, (-200 : Int) ≤ z ∧ z ≤ 200 := fun z hz => by have := bd2 z hz; omega
      walk_at "rds"
      refine rd_minI hp1 (by omega) fun mn => ?_
      walk_at "rds"
      refine ite3 (fun hc => ?_) (fun hc => ?_)
      · walk_at "rds"
        refine rd_ixT (j := 0) hT2 rfl rfl fun w1 h1 => ?_
        walk_at "rds"
        refine ⟨_, w1, u1, tl, rfl, hp1, h1, by omega, fun p3 H3 s3 hp3 => ?_⟩
        walk_at "rds"
        refine rd_ixT (j := 1) (hT2.le (Same.le s3)) rfl rfl fun w1 h1 => ?_
        walk_at "rds"
        refine ⟨_, w1, u2, tc, rfl, hp2.le (Same.le s3), h1, by omega, fun p4 H4 s4 hp4 => ?_⟩
        walk_at "rds"
        exact hnx _ _ ⟨p3, p4, _, _, rfl, s12.trans (s3.trans s4), hp3.le (Same.le s4), hp4, by simp; omega, by simp; omega, sm1, sm2⟩
      · walk_at "rds"
        refine ⟨sz_ok (by simp), fun e ne => ?_⟩
        generalize eH3 : upd _ e _ = H3
        obtain ⟨s3, h3⟩ := new_of eH3 ne
        have hp2' := hp2.le (Same.le s3)
        refine rd_neNilT hp2' h3 (fun d hd => ?_) (fun d hd => ?_) ?_
        · obtain ⟨x, _, rfl⟩ := List.mem_map.mp hd
          rfl
        · obtain ⟨x, _, rfl⟩ := List.mem_map.mp hd
          exact Nat.zero_le _
        walk_at "rds"
        refine ite3 (fun hc => ?_) (fun hc => ?_)
        · have hne := ne_of_isEmpty hc
          have hu2 : 0 < u2.length := List.length_pos_iff.mpr fun z => hne (by rw [z]; rfl)
          walk_at "rds"
          refine rd_minI hp2' hu2 fun mn => ?_
          walk_at "rds"
          refine ite3 (fun hc => ?_) (fun hc => ?_)
          · walk_at "rds"
            refine rd_ixT (j := 1) (hT2.le (Same.le s3)) rfl rfl fun w1 h1 => ?_
            walk_at "rds"
            refine ⟨_, w1, u2, tc, rfl, hp2', h1, by omega, fun p4 H4 s4 hp4 => ?_⟩
            walk_at "rds"
            exact hnx _ _ ⟨p1, p4, u1, _, rfl, s12.trans (s3.trans s4), hp1.le (Same.le (s3.trans s4)), hp4, m1, by simp; omega, bd1', sm2⟩
          · walk_at "rds"
            exact hnx _ _ ⟨p1, p2, u1, u2, rfl, s12.trans s3, hp1.le (Same.le s3), hp2', m1, m2, bd1', bd2'⟩
        · refine iteF ?_
          walk_at "rds"
          exact hnx _ _ ⟨p1, p2, u1, u2, rfl, s12.trans s3, hp1.le (Same.le s3), hp2', m1, m2, bd1', bd2'⟩
def dPair (q : Nat × Nat) : PyData := .tuple [.int (q.1 : Int), .int (q.2 : Int)]
theorem paired_td {H : Hp} : ∀ {ts : List Addr} {qs : List (Nat × Nat)}, Paired (fun t (q : V × V) => H t = some (.tup [q.1, q.2])) ts (qs.map fun q => (nI q.1, nI q.2)) → TDs H (ts.map V.ref) (qs.map dPair)
  | [], [], _ => .nil
  | _ :: _, [], h => by cases h
  | [], _ :: _, h => by cases h
  | t :: ts, q :: qs, h => by
    cases h with
    | cons a r => exact .cons (.tup a (.cons (.int _) (.cons (.int _) .nil))) (paired_td r)
theorem zip_nI (ns ms : List Nat) : (ns.map nI).zip (ms.map nI) = (ns.zip ms).map fun q => (nI q.1, nI q.2) := by
  rw [List.zip_map]
  rfl
theorem rd_ixL' {K : PySem.W.Frag} {H : Hp} {Q : VK} {p : Addr} {os : List Nat} (h : H p = some (.lst (os.map nI))) (hl : 0 < os.length) (q : ∀ x : Nat, x ∈ os → Q (.int (x : Int)) H) : rIxL K (.ref p) (.int (-1)) H Q := by
  obtain ⟨ys, y, rfl⟩ := last_of (xs := os) (fun z => by rw [z] at hl; cases hl)
  refine ⟨p, _, -1, .int (y : Int), rfl, rfl, SqL.of h, ?_, q y (by simp)⟩
  rw [List.map_append]
  exact atI_last _ _
def sp_l_links (K : PySem.W.Frag) : Sp := fun vs H Q _ => ∃ (bg c : Addr) (n : Nat), vs = [.ref bg, .int (n : Int), .int 4] ∧ Bag H bg c ∧ 1 ≤ n ∧ n ≤ 6 ∧
  ∀ p H' (xs : List V) (L : List (Nat × Nat)), Gn bg c H H' → H p = none → H' p = some (.lst xs) → TDs H' xs (L.map dPair) → (∀ q ∈ L, q.1 < n ∧ q.2 < n) → L.length ≤ 10 → 1 ≤ L.length → ThinL L → Q (.ref p) H'
/-! ### _law_links -/
/- 0 bag_here, 1 places, 2 more, 3 order, 4 found, 5 turn -/
theorem sc_l_links : FnScope ["_law_bag_here", "_law_places", "_law_more", "_law_order", "_law_found", "_law_turn"] ["_law_bag_here", "_law_places", "_law_more"] (defScope (topS 49)) := ⟨rfl, rfl, rfl, by decide +kernel, rfl, by decide +kernel, by decide +kernel⟩
theorem cl_l_links (T : Top K mg) : Cl P w K mg base 3 "_law_links" (sp_l_links K) := by
  refine cl_of (k := 2) (N := ["_law_bag_here", "_law_places", "_law_more", "_law_order", "_law_found", "_law_turn"]) (ps := ["_law_bag_here", "_law_places", "_law_more"]) (T.def_ 39 rfl) sc_l_links (fun vs H Q E h => ?_) (fun _ _ _ _ _ _ us hl => match us, hl with | [_, _, _], _ => rfl) (fun f cdv A outer s H vs Q E hr h => ?_)
  · obtain ⟨bg, c, n, rfl, hB, hn, hn2, q⟩ := h
    rfl
  · obtain ⟨bg, c, n, rfl, hB, hn, hn2, q⟩ := h
    have hu := hu_of hr
    have hu65 := hu65_of hr
    have hu64 := hr.units
    refine ⟨_, (pss_cons (ps_set (i := 3) sc_l_links.nd rfl (.inl rfl) (pe_op op_cat (pe_lst (pa_cons pe_int pa_nil)) (pe_cl (k := 2) (j := 2) (cl_l_mixed T) hr (by decide) (by rfl) (pa_cons (pv 0) (pa_cons (pe_listRg rfl (by rfl) (T.b 8 rfl) (prg_2 (by rfl) (T.b 1 rfl) pe_int (pv 1))) pa_nil)))))
  (pss_cons (ps_set (i := 4) sc_l_links.nd rfl (.inl rfl) (pe_op op_cat (pe_listZip rfl (by rfl) (T.b 8 rfl) (by rfl) (T.b 12 rfl) (pa_cons (pv 3) (pa_cons (pe_slice (sl_listK K) (pv 3) (po_some pe_int) po_none) pa_nil))) (pe_lst (pa_cons (pe_tup (pa_cons (pe_ix (ix_listK K) (pv 3) (pe_un un_neg pe_int) (fun _ _ => rfl)) (pa_cons (pe_cl (k := 2) (j := 2) (cl_l_one T) hr (by decide) (by rfl) (pa_cons (pv 0) (pa_cons (pv 3) pa_nil))) pa_nil))) pa_nil))))
  (pss_cons (ps_for PassesOwn.never rfl (pi_range1 (by rfl) (T.b 1 rfl) (pa_cons (pe_cl (k := 1) (j := 2) (cl_l_take T) hr (by decide) (by rfl) (pa_cons (pv 0) (pa_cons (pe_op op_add (pv 2) pe_int) pa_nil))) pa_nil)) (pg_name (i := 5) sc_l_links.nd rfl (.inl rfl))
  (pss_one (ps_expr (pe_bm PySem.F.plainAttrs_list PySem.F.slot_list_append PySem.F.type_list_append mt_append (pv 4) (pa_cons (pe_tup (pa_cons (pe_cl (k := 1) (j := 2) (cl_l_take T) hr (by decide) (by rfl) (pa_cons (pv 0) (pa_cons (pv 1) pa_nil))) (pa_cons (pe_cl (k := 1) (j := 2) (cl_l_take T) hr (by decide) (by rfl) (pa_cons (pv 0) (pa_cons (pv 1) pa_nil))) pa_nil))) pa_nil)))))
  (pss_one (ps_ret (pe_cl (k := 2) (j := 2) (cl_l_mixed T) hr (by decide) (by rfl) (pa_cons (pv 0) (pa_cons (pv 4) pa_nil)))))))), ?_⟩
    walk_at "rds"
    refine ⟨sz_ok (by simp), fun Z nZ => ?_⟩
    generalize eH1 : upd _ Z _ = H1
    obtain ⟨s1, hZ⟩ := new_of eH1 nZ
    walk_at "rds"
    refine ⟨_, _, rfl, rfl, ⟨by omega, by omega, by omega, by omega, by omega⟩, fun R nR => ?_⟩
    generalize eH2 : upd _ R _ = H2
    obtain ⟨s2, hR⟩ := new_of eH2 nR
    have g2 := Gn.of hB (s1.trans s2)
    have fR := s1.free nR
    walk_at "rds"
    have eR : rgV 1 (n : Int) = ((List.range (n - 1)).map (· + 1)).map nI := by
      unfold rgV
      have e : ((n : Int) - 1).toNat = n - 1 := by omega
      rw [e, List.map_map]
      refine List.map_congr_left fun i _ => ?_
      show V.int (1 + (i : Int)) = V.int ((i + 1 : Nat) : Int)
      rw [Int.natCast_succ, Int.add_comm]
    rw [eR] at hR
    refine ⟨bg, c, R, _, rfl, g2.bag, hR, hB.k1 fR, by simp; omega, fun p3 H3 ys g3 n3 h3 pm => ?_⟩
    obtain ⟨ms, p1, p2⟩ := L2.perm_lift nI pm _ rfl
    rw [← p2] at h3
    have g3' := g2.trans g3
    have hZ3 := g3.at_ (s2 _ _ hZ) (hB.k1 nZ)
    have lms : ms.length = n - 1 := by rw [p1.length_eq]; simp
    refine rd_cat hZ3 h3 (by simp; omega) fun O H4 n4 s4 h4 => ?_
    have fO := g3'.free n4
    have h4' : H4 O = some (.lst ((0 :: ms).map nI)) := by rw [h4]; rfl
    have nd : (0 :: ms).Nodup := by
      rw [List.nodup_cons]
      refine ⟨fun z => ?_, p1.nodup_iff.mpr ?_⟩
      · obtain ⟨i, _, e⟩ := List.mem_map.mp (p1.mem_iff.mp z)
        omega
      · rw [List.Nodup, List.pairwise_map]
        exact List.nodup_range.imp fun h => by omega
    have lt : ∀ x ∈ 0 :: ms, x < n := fun x hx => by
      rcases List.mem_cons.mp hx with z | z
      · omega
      · obtain ⟨i, hi, e⟩ := List.mem_map.mp (p1.mem_iff.mp z)
        have := List.mem_range.mp hi
        omega
    have lo : (0 :: ms).length = n := by simp; omega
    generalize 0 :: ms = os at *
    walk_at "rds"
    refine rd_slL h4' (cutV_from _ 1) fun p5 H5 n5 s5 h5 => ?_
    walk_at "rds"
    rw [← List.map_drop] at h5
    refine ⟨O, p5, _, _, rfl, SqL.of (s5 _ _ h4'), SqL.of h5, fun H6 p6 ts s6 n6 h6 pr => ?_⟩
    rw [zip_nI] at pr
    have t6 := paired_td pr
    have g6 := (g3'.same (s4.trans (s5.trans s6)))
    have h4'6 := (s5.trans s6) _ _ h4'
    walk_at "rds"
    have bO := hB.k1 fO
    refine rd_ixL' h4'6 (by omega) fun last hlast => ?_
    walk_at "rds"
    refine ⟨bg, c, O, _, rfl, g6.bag, h4'6, bO, by rw [List.length_map]; omega, by rw [List.length_map]; omega, fun w H7 g7 hw => ?_⟩
    obtain ⟨en, hen, rfl⟩ := List.mem_map.mp hw
    walk_at "rds"
    refine ⟨sz_ok (by simp), fun tp ntp => ?_⟩
    generalize eH8 : upd _ tp _ = H8
    obtain ⟨s8, h8⟩ := new_of eH8 ntp
    walk_at "rds"
    refine ⟨sz_ok (by simp), fun l9 nl9 => ?_⟩
    generalize eH9 : upd _ l9 _ = H9
    obtain ⟨s9, h9⟩ := new_of eH9 nl9
    have f6 : H p6 = none := (g3'.same (s4.trans s5)).free n6
    have h69 := (s8.trans s9) _ _ (g7.at_ h6 (hB.k1 f6))
    have lts : ts.length = n - 1 := by
      have := t6.length
      simp at this
      omega
    refine rd_cat h69 h9 (by simp; omega) fun F H10 n10 s10 h10 => ?_
    walk_at "rds"
    have g9 := (g6.trans g7).same (s8.trans s9)
    have fF := g9.free n10
    have g10 := g9.same s10
    have le6 : Le H6 H10 := (g7.le.trans (Same.le (s8.trans s9))).trans (Same.le s10)
    have tm : TDs H10 (ts.map V.ref ++ [.ref tp]) (((((os.zip (os.drop 1)).map fun q => (q, false)) ++ [((last, en), true)]).map (·.1)).map dPair) := by
      have e : ((((os.zip (os.drop 1)).map fun q => (q, false)) ++ [((last, en), true)]).map (·.1)).map dPair = (os.zip (os.drop 1)).map dPair ++ [dPair (last, en)] := by
        rw [List.map_append, List.map_append, List.map_map, List.map_map]
        rfl
      rw [e]
      exact ((t6.le le6).append (.cons (.tup ((s9.trans s10) _ _ h8) (.cons (.int _) (.cons (.int _) .nil))) .nil))
    have th : ThinM (fun x => os.idxOf x) (((os.zip (os.drop 1)).map fun q => (q, false)) ++ [((last, en), true)]) 1 := (ThinM.base nd).snoc _
    have bd : ∀ m ∈ (((os.zip (os.drop 1)).map fun q => (q, false)) ++ [((last, en), true)]), m.1.1 < n ∧ m.1.2 < n := fun m hm => by
      rcases List.mem_append.mp hm with z | z
      · obtain ⟨q, hq, rfl⟩ := List.mem_map.mp z
        have := List.of_mem_zip hq
        exact ⟨lt _ this.1, lt _ (List.mem_of_mem_drop this.2)⟩
      · rw [List.mem_singleton.mp z]
        exact ⟨lt _ hlast, lt _ hen⟩
    have lM : (((os.zip (os.drop 1)).map fun q => (q, false)) ++ [((last, en), true)]).length = n := by simp; omega
    generalize (((os.zip (os.drop 1)).map fun q => (q, false)) ++ [((last, en), true)]) = M at tm th bd lM
    refine ⟨bg, c, _, rfl, g10.bag, by omega, by omega, fun r H11 g11 r0 r1 => ?_⟩
    walk_at "rds"
    refine ⟨_, rfl, by omega, by omega, ?_⟩
    have bF := hB.k1 fF
    refine forw walk_range0 (fun j σ H12 => ∃ (y5 : Option V) (xs : List V) (M : List ((Nat × Nat) × Bool)), σ = [some (.ref bg), some (.int (n : Int)), some (.int 4), some (.ref O), some (.ref F), y5] ∧ Gn bg c H H12 ∧ H12 F = some (.lst xs) ∧ TDs H12 xs ((M.map (·.1)).map dPair) ∧ ThinM (fun x => os.idxOf x) M (1 + j) ∧ (∀ m ∈ M, m.1.1 < n ∧ m.1.2 < n) ∧ M.length = n + j)
      ⟨none, _, M, rfl, g10.trans g11, g11.at_ h10 bF, tm.le g11.le, th, bd, lM⟩ (fun _ _ _ _ _ => trivial) (fun j x σ H12 H13 hj pv y => ?_) (fun σ H12 pv => ?_)
    · obtain ⟨y5, xs, M, rfl, g12, hF12, tm12, th12, bd12, lM12⟩ := pv
      obtain ⟨rfl, rfl⟩ := y
      have lx := tm12.length
      rw [List.length_map, List.length_map] at lx
      walk_at "rds"
      refine ⟨tyL hF12, ?_⟩
      walk_at "rds"
      refine ⟨bg, c, _, rfl, g12.bag, by omega, by omega, fun a1 H14 g14 a10 a11 => ?_⟩
      walk_at "rds"
      refine ⟨bg, c, _, rfl, g14.bag, by omega, by omega, fun a2 H15 g15 a20 a21 => ?_⟩
      walk_at "rds"
      refine ⟨sz_ok (by simp), fun tp ntp => ?_⟩
      generalize eH16 : upd _ tp _ = H16
      obtain ⟨s16, h16⟩ := new_of eH16 ntp
      walk_at "rds"
      have g1216 := ((g14.trans g15).same s16)
      have hF16 := g1216.at_ hF12 bF
      refine rd_append hF16 (by omega) fun H17 b17 h17 => ?_
      have le17 : Le _ H17 := g1216.le.trans (b17.le hF16)
      refine ⟨_, xs ++ [.ref tp], M ++ [((a1.toNat, a2.toNat), true)], rfl, (g12.trans g1216).mut b17 fF, h17, ?_, by rw [← Nat.add_assoc]; exact th12.snoc _, fun m hm => ?_, by simp; omega⟩
      · rw [List.map_append, List.map_append]
        have e1 : ((a1.toNat : Nat) : Int) = a1 := by omega
        have e2 : ((a2.toNat : Nat) : Int) = a2 := by omega
        refine (tm12.le le17).append (.cons (.tup (b17.le hF16 _ _ h16) ?_) .nil)
        show TDs H17 [.int a1, .int a2] [.int ((a1.toNat : Nat) : Int), .int ((a2.toNat : Nat) : Int)]
        rw [e1, e2]
        exact .cons (.int _) (.cons (.int _) .nil)
      · rcases List.mem_append.mp hm with z | z
        · exact bd12 m z
        · rw [List.mem_singleton.mp z]
          exact ⟨by show a1.toNat < n; omega, by show a2.toNat < n; omega⟩
    · obtain ⟨y5, xs, M, rfl, g12, hF12, tm12, th12, bd12, lM12⟩ := pv
      have lx := tm12.length
      rw [List.length_map, List.length_map] at lx
      walk_at "rds"
      refine ⟨bg, c, F, xs, rfl, g12.bag, hF12, bF, by omega, fun p13 H13 ys g13 n13 h13 pm => ?_⟩
      obtain ⟨ds', pd, td'⟩ := TDs.perm pm (tm12.le g13.le)
      rw [List.map_map] at pd
      obtain ⟨M', p1, p2⟩ := L2.perm_lift (fun m : (Nat × Nat) × Bool => dPair m.1) pd M rfl
      refine q p13 H13 ys (M'.map (·.1)) (g12.trans g13) (g12.free n13) h13 (by rw [List.map_map]; show TDs H13 ys (M'.map fun m => dPair m.1); rw [p2]; exact td') (fun x hx => ?_) ?_ ?_ ⟨_, M', rfl, (th12.perm p1).mono (by omega)⟩
      · obtain ⟨m, hm, rfl⟩ := List.mem_map.mp hx
        exact bd12 m (p1.mem_iff.mp hm)
      · rw [List.length_map, p1.length_eq]
        omega
      · rw [List.length_map, p1.length_eq]
        omega
end
section
variable {P : Program} {w : World} {K : PySem.W.Frag} {mg : Str → Option Value} {base : Heap}
theorem rd_slT {K : PySem.W.Frag} {H : Hp} {Q : VK} {a : Addr} {xs ys : List V} {lo hi : Option Int} (h : H a = some (.tup xs)) (e : cutV xs lo hi = ys) (q : ∀ p H1, Same H H1 → H1 p = some (.tup ys) → Q (.ref p) H1) : rSlA K (.ref a) lo hi H Q := by
  refine ⟨a, xs, rfl, SqT.of h, fun w => q a H (Same.refl _) ?_, fun _ => rd_new (R := fun p H1 => Q (.ref p) H1) fun p H1 _ s hp => q p H1 s (by rw [hp, e])⟩
  rw [← e]
  unfold cutV
  rw [w.1, w.2, List.drop_zero, Nat.sub_zero, List.take_length]
  exact h
structure Arrow.Ok (a : Arrow) (n nk nh : Nat) : Prop where
  src : a.src < n
  tgt : a.tgt < n
  amt : a.amt.length = nk
  crew : a.crew.length = nh
  ba : ∀ x ∈ a.amt, -1000 ≤ x ∧ x ≤ 1000
  bc : ∀ x ∈ a.crew, -1000 ≤ x ∧ x ≤ 1000
theorem Snd.Ok.mk' {n nk nh : Nat} {as : List Arrow} (h1 : 1 ≤ n) (h2 : n ≤ 6) (h3 : as.length ≤ 10) (h : ∀ a ∈ as, a.Ok n nk nh) (k1 : nk ≤ 1000) (k2 : nh ≤ 1000) : Snd.Ok ⟨n, as⟩ nk nh :=
  ⟨h1, h2, h3, fun a ha => (h a ha).src, fun a ha => (h a ha).tgt, fun a ha => (h a ha).amt, fun a ha => (h a ha).crew, fun a ha => (h a ha).ba, fun a ha => (h a ha).bc, k1, k2⟩
def SndAt (H : Hp) (v : V) (S : Snd) (nk nh : Nat) : Prop := AtS H v S nk nh ∧ S.Thin
/-- the sender's arrows, as a list grows -/
structure ArrL (H : Hp) (F : Addr) (L : List (Nat × Nat)) (j n nk nh : Nat) (as : List Arrow) : Prop where
  at_ : ∃ xs, H F = some (.lst xs) ∧ TDs H xs (as.map dArrow)
  links : (as.map fun a => (a.src, a.tgt)) = L.take j
  ok : ∀ a ∈ as, a.Ok n nk nh
theorem ArrL.gn {bg c : Addr} {H H' : Hp} {F : Addr} {L : List (Nat × Nat)} {j n nk nh : Nat} {as : List Arrow} (h : ArrL H F L j n nk nh as) (g : Gn bg c H H') (ne : F ≠ bg) : ArrL H' F L j n nk nh as := by
  obtain ⟨xs, h1, h2⟩ := h.at_
  exact ⟨⟨xs, g.at_ h1 ne, h2.le g.le⟩, h.links, h.ok⟩
theorem ArrL.len {H : Hp} {F : Addr} {L : List (Nat × Nat)} {j n nk nh : Nat} {as : List Arrow} (h : ArrL H F L j n nk nh as) : as.length ≤ L.length := by
  have := congrArg List.length h.links
  rw [List.length_map, List.length_take] at this
  omega
theorem rd_appA {H : Hp} {Q : VK} {F : Addr} {L : List (Nat × Nat)} {j n nk nh : Nat} {as : List Arrow} {v : V} {a : Arrow} (h : ArrL H F L j n nk nh as) (hv : TD H v (dArrow a)) (ha : a.Ok n nk nh) (hL : L.length ≤ 10) (hj : L[j]? = some (a.src, a.tgt))
    (q : ∀ H1, But F H H1 → ArrL H1 F L (j + 1) n nk nh (as ++ [a]) → Q .non H1) : rAppend (.ref F) [v] H Q := by
  have hl := h.len
  obtain ⟨xs, h1, h2⟩ := h.at_
  have lx := h2.length
  rw [List.length_map] at lx
  refine rd_append h1 (by omega) fun H1 b1 e1 => q H1 b1 ⟨⟨_, e1, ?_⟩, ?_, fun x hx => ?_⟩
  · rw [List.map_append]
    exact (h2.le (b1.le h1)).append (.cons (hv.le (b1.le h1)) .nil)
  · rw [List.map_append, h.links, List.take_add_one, hj]
    rfl
  · rcases List.mem_append.mp hx with z | z
    · exact h.ok x z
    · rw [List.mem_singleton.mp z]; exact ha
def sp_l_held_sender (K : PySem.W.Frag) : Sp := fun vs H Q _ => ∃ (bg c a k h r : Addr) (W : Works) (m : Int), vs = [.ref bg, .ref a, .int m, .int 4] ∧ Bag H bg c ∧ WkAt H a k h r W ∧ 1 ≤ m ∧ m ≤ 6 ∧
  ∀ p H' (S : Snd), Gn bg c H H' → SndAt H' (.ref p) S W.kinds.length W.hands.length → Q (.ref p) H'
/-! ### _law_held_sender -/
/- 0 bag_here, 1 works_here, 2 places, 3 more, 4 many, 5 total, 6 marks, 7 place, 8 arrows, 9 source, 10 target, 11 arrow_here -/
theorem sc_l_held_sender : FnScope ["_law_bag_here", "_law_works_here", "_law_places", "_law_more", "_law_many", "_law_total", "_law_marks", "_law_place", "_law_arrows", "_law_source", "_law_target", "_law_arrow_here"] ["_law_bag_here", "_law_works_here", "_law_places", "_law_more"] (defScope (topS 50)) := ⟨rfl, rfl, rfl, by decide +kernel, rfl, by decide +kernel, by decide +kernel⟩
theorem cl_l_held_sender (T : Top K mg) : Cl P w K mg base 4 "_law_held_sender" (sp_l_held_sender K) := by
  refine cl_of (k := 3) (N := ["_law_bag_here", "_law_works_here", "_law_places", "_law_more", "_law_many", "_law_total", "_law_marks", "_law_place", "_law_arrows", "_law_source", "_law_target", "_law_arrow_here"]) (ps := ["_law_bag_here", "_law_works_here", "_law_places", "_law_more"]) (T.def_ 40 rfl) sc_l_held_sender (fun vs H Q E h => ?_) (fun _ _ _ _ _ _ us hl => match us, hl with | [_, _, _, _], _ => rfl) (fun f cdv A outer s H vs Q E hr h => ?_)
  · obtain ⟨bg, c, a, k, h, r, W, m, rfl, hB, hW, hm, hm2, q⟩ := h
    rfl
  · obtain ⟨bg, c, a, k, h, r, W, m, rfl, hB, hW, hm, hm2, q⟩ := h
    have hu := hu_of hr
    have hu65 := hu65_of hr
    have hu64 := hr.units
    refine ⟨_, (pss_cons (ps_par (i := 4) (j := 5) rfl sc_l_held_sender.nd rfl rfl (by decide) rfl rfl (pa_cons (pe_op op_add pe_int (pe_cl (k := 1) (j := 3) (cl_l_take T) hr (by decide) (by rfl) (pa_cons (pv 0) (pa_cons (pv 2) pa_nil)))) (pa_cons (pe_cl (k := 3) (j := 3) (cl_l_planted T) hr (by decide) (by rfl) (pa_cons (pv 0) (pa_cons (pv 1) (pa_cons pe_int pa_nil)))) pa_nil)) (by rfl))
  (pss_cons (ps_set (i := 6) sc_l_held_sender.nd rfl (.inl rfl) (pe_lst (pa_cons (pe_tup (pa_cons (pe_cl (k := 1) (j := 3) (cl_l_nothing T) hr (by decide) (by rfl) (pa_cons (pv 1) pa_nil)) (pa_cons (pe_op op_repU (pe_tup (pa_cons pe_int pa_nil)) (pe_callB (call_lenK K) (by rfl) (T.b 0 rfl) PySem.boot_len (pa_cons (pe_ix (ix_tupK K) (pv 1) pe_int (fun _ _ => rfl)) pa_nil))) pa_nil))) pa_nil)))
  (pss_cons (ps_for PassesOwn.never rfl (pi_range2 (by rfl) (T.b 1 rfl) (pa_cons pe_int (pa_cons (pv 4) pa_nil))) (pg_name (i := 7) sc_l_held_sender.nd rfl (.inl rfl))
  (pss_one (ps_expr (pe_bm PySem.F.plainAttrs_list PySem.F.slot_list_append PySem.F.type_list_append mt_append (pv 6) (pa_cons (pe_tup (pa_cons (pe_cl (k := 2) (j := 3) (cl_l_part T) hr (by decide) (by rfl) (pa_cons (pv 0) (pa_cons (pe_ix (ix_tupK K) (pv 5) pe_int (fun _ _ => rfl)) pa_nil))) (pa_cons (pe_cl (k := 2) (j := 3) (cl_l_part T) hr (by decide) (by rfl) (pa_cons (pv 0) (pa_cons (pe_ix (ix_tupK K) (pv 5) pe_int (fun _ _ => rfl)) pa_nil))) pa_nil))) pa_nil)))))
  (pss_cons (ps_set (i := 8) sc_l_held_sender.nd rfl (.inl rfl) (pe_lst pa_nil))
  (pss_cons (ps_for PassesOwn.never rfl (pi_list (pe_cl (k := 3) (j := 3) (cl_l_links T) hr (by decide) (by rfl) (pa_cons (pv 0) (pa_cons (pv 4) (pa_cons (pv 3) pa_nil))))) (pg_tup rfl (pgs_cons (pg_name (i := 9) sc_l_held_sender.nd rfl (.inl rfl)) (pgs_cons (pg_name (i := 10) sc_l_held_sender.nd rfl (.inl rfl)) pgs_nil)))
  (pss_cons (ps_set (i := 11) sc_l_held_sender.nd rfl (.inl rfl) (pe_cl (k := 2) (j := 3) (cl_l_arrow T) hr (by decide) (by rfl) (pa_cons (pv 1) (pa_cons (pv 9) (pa_cons (pv 10) (pa_cons (pv 5) (pa_cons (pv 6) pa_nil)))))))
  (pss_cons (ps_if (PW.pt (pw_and (pt_cmpR op_eq (pv 9) (pv 10) (nomark _)) (pw_and1 (pt_cmpR op_eq (pe_cl (k := 1) (j := 3) (cl_l_take T) hr (by decide) (by rfl) (pa_cons (pv 0) (pa_cons pe_int pa_nil))) pe_int (nomark _))))) (pss_one (ps_set (i := 11) sc_l_held_sender.nd rfl (.inl rfl) (pe_op (op_catAK K) (pe_slice (sl_tupAK K) (pv 11) po_none (po_some pe_int)) (pe_slice (sl_tupAK K) (pv 5) po_none (po_some pe_int))))) pss_nil)
  (pss_one (ps_expr (pe_bm PySem.F.plainAttrs_list PySem.F.slot_list_append PySem.F.type_list_append mt_append (pv 8) (pa_cons (pv 11) pa_nil)))))))
  (pss_one (ps_ret (pe_tup (pa_cons (pv 4) (pa_cons (pe_callTy (call_tupleK K) (by rfl) (T.b 7 rfl) (by decide +kernel) (pa_cons (pv 8) pa_nil)) pa_nil)))))))))), ?_⟩
    obtain ⟨k1, k2, k3, k4, k5⟩ := hW.ok
    walk_at "rds"
    refine ⟨bg, c, _, rfl, hB, by omega, by omega, fun r1 H1 g1 a0 a1 => ?_⟩
    obtain ⟨n, hn⟩ : ∃ n : Nat, 1 + r1 = (n : Int) := ⟨(1 + r1).toNat, by omega⟩
    refine rd_I0 ?_
    rw [hn]
    have hn1 : 1 ≤ n ∧ n ≤ 6 := by omega
    walk_at "rds"
    have hW1 := hW.gn g1
    refine ⟨bg, c, a, k, h, r, W, rfl, g1.bag, hW1, fun tt H2 tl tc tcs g2 htt hTot => ?_⟩
    walk_at "rds"
    have hW2 := hW1.gn g2
    refine ⟨a, k, _, _, rfl, hW2.at_, SqT.of hW2.kinds, by rw [List.length_map]; omega, fun p3 H3 s3 h3 => ?_⟩
    walk_at "rds"
    refine ⟨sz_ok (by simp), fun z4 nz4 => ?_⟩
    generalize eH4 : upd _ z4 _ = H4
    obtain ⟨s4, hz4⟩ := new_of eH4 nz4
    have hW4 := hW2.same (s3.trans s4)
    walk_at "rds"
    refine rd_ixTi (j := 1) hW4.at_ rfl rfl ?_
    walk_at "rds"
    refine ⟨h, _, rfl, .inr hW4.hands.sq, ?_⟩
    rw [List.length_map]
    refine ⟨z4, _, _, rfl, rfl, hz4, by simp, by omega, by omega, by simp, fun p5 H5 s5 h5 => ?_⟩
    have h5' : H5 p5 = some (.tup ((List.replicate W.hands.length (0 : Int)).map V.int)) := by rw [h5, Int.toNat_natCast, List.flatten_replicate_singleton, List.map_replicate]
    walk_at "rds"
    refine ⟨sz_ok (by simp), fun p6 np6 => ?_⟩
    generalize eH6 : upd _ p6 _ = H6
    obtain ⟨s6, h6⟩ := new_of eH6 np6
    walk_at "rds"
    refine ⟨sz_ok (by simp), fun M nM => ?_⟩
    generalize eH7 : upd _ M _ = H7
    obtain ⟨s7, h7⟩ := new_of eH7 nM
    have s36 := s4.trans (s5.trans s6)
    have g12 := g1.trans g2
    have fM : H M = none := (g12.same (s3.trans s36)).free nM
    have g7 : Gn bg c H H7 := g12.same (s3.trans (s36.trans s7))
    have hm0 : MarkAt H7 (.ref p6) W.kinds.length W.hands.length := by
      refine ⟨List.replicate (W.kinds.map V.str).length 0, List.replicate W.hands.length 0, .tup (s7 _ _ h6) (.cons (h3.le (Same.le (s36.trans s7))) (.cons (TD.ints ((s6.trans s7) _ _ h5')) .nil)), by simp, by simp, fun x hx => ?_, fun x hx => ?_⟩
      · rw [(List.mem_replicate.mp hx).2]; omega
      · rw [(List.mem_replicate.mp hx).2]; omega
    have ht7 := htt.le (Same.le (s3.trans (s36.trans s7)))
    walk_at "rds"
    have bM := hB.k1 fM
    refine ⟨_, _, rfl, ⟨by omega, by omega, by omega, by omega⟩, ?_⟩
    refine forw walk_range (fun j σ H8 => ∃ (y7 : Option V) (ms : List V), σ = [some (.ref bg), some (.ref a), some (.int m), some (.int 4), some (.int (n : Int)), some (.ref tt), some (.ref M), y7, none, none, none, none] ∧ Gn bg c H H8 ∧ TD H8 (.ref tt) (.tuple [dI tl, dI tc, dI tcs]) ∧ H8 M = some (.lst ms) ∧ (∀ v ∈ ms, MarkAt H8 v W.kinds.length W.hands.length) ∧ ms.length = 1 + j)
      ⟨none, [.ref p6], rfl, g7, ht7, h7, fun v hv => by rw [List.mem_singleton.mp hv]; exact hm0, rfl⟩ (fun _ _ _ _ _ => trivial) (fun j x σ H8 H9 hj pv y => ?_) (fun σ H8 pv => ?_)
    · obtain ⟨y7, ms, rfl, g8, ht8, hM8, hms8, lms⟩ := pv
      obtain ⟨rfl, rfl⟩ := y
      walk_at "rds"
      refine ⟨tyL hM8, ?_⟩
      walk_at "rds"
      refine rd_ixT (j := 0) ht8 rfl rfl fun w1 h1 => ?_
      walk_at "rds"
      refine ⟨bg, c, w1, tl, rfl, g8.bag, h1, by rw [hTot.l1]; omega, hTot.b1, fun p10 H10 l1 g10 hp10 e1 b1 => ?_⟩
      walk_at "rds"
      refine rd_ixT (j := 1) (ht8.le g10.le) rfl rfl fun w2 h2 => ?_
      walk_at "rds"
      refine ⟨bg, c, w2, tc, rfl, g10.bag, h2, by rw [hTot.l2]; omega, hTot.b2, fun p11 H11 l2 g11 hp11 e2 b2 => ?_⟩
      walk_at "rds"
      refine ⟨sz_ok (by simp), fun p12 np12 => ?_⟩
      generalize eH12 : upd _ p12 _ = H12
      obtain ⟨s12, h12⟩ := new_of eH12 np12
      walk_at "rds"
      have g12' := (g10.trans g11).same s12
      have hM12 := g12'.at_ hM8 bM
      refine rd_append hM12 (by omega) fun H13 b13 h13 => ?_
      have le13 := b13.le hM12
      refine ⟨_, ms ++ [.ref p12], rfl, (g8.trans g12').mut b13 fM, (ht8.le g12'.le).le le13, h13, fun v hv => ?_, by simp; omega⟩
      rcases List.mem_append.mp hv with z | z
      · exact ((hms8 v z).le g12'.le).le le13
      · rw [List.mem_singleton.mp z]
        exact ⟨l1, l2, .tup (le13 _ _ h12) (.cons (((hp10.le g11.le).le (Same.le s12)).le le13) (.cons ((hp11.le (Same.le s12)).le le13) .nil)), by rw [e1, hTot.l1], by rw [e2, hTot.l2], b1, b2⟩
    · obtain ⟨y7, ms, rfl, g8, ht8, hM8, hms8, lms⟩ := pv
      have lmn : ms.length = n := by omega
      walk_at "rds"
      refine ⟨sz_ok (by simp), fun F nF => ?_⟩
      generalize eH9 : upd _ F _ = H9
      obtain ⟨s9, h9⟩ := new_of eH9 nF
      have fF := g8.free nF
      have bF := hB.k1 fF
      have neMF : M ≠ F := fun e => by rw [e, nF] at hM8; cases hM8
      walk_at "rds"
      have g9 := g8.same s9
      refine ⟨bg, c, n, rfl, g9.bag, hn1.1, hn1.2, fun LL H10 xs L g10 nLL hLL tLL bL lL lL1 thL => ?_⟩
      have fLL : H LL = none := g9.free nLL
      have neLF : LL ≠ F := fun e => by rw [e, h9] at nLL; cases nLL
      have neLM : LL ≠ M := fun e => by rw [e, s9 _ _ hM8] at nLL; cases nLL
      have bLL := hB.k1 fLL
      have lx := tLL.length
      rw [List.length_map] at lx
      refine ⟨LL, rfl, ⟨_, SqL.of hLL⟩, ?_⟩
      have g810 := (Gn.of g8.bag s9).trans g10
      refine forw (walk_list (xs := xs)) (fun j σ H11 => ∃ (y7 y9 y10 y11 : Option V) (as : List Arrow), σ = [some (.ref bg), some (.ref a), some (.int m), some (.int 4), some (.int (n : Int)), some (.ref tt), some (.ref M), y7, some (.ref F), y9, y10, y11] ∧ Gn bg c H H11 ∧ TD H11 (.ref tt) (.tuple [dI tl, dI tc, dI tcs]) ∧ H11 M = some (.lst ms) ∧
          (∀ v ∈ ms, MarkAt H11 v W.kinds.length W.hands.length) ∧ H11 LL = some (.lst xs) ∧ TDs H11 xs (L.map dPair) ∧ ArrL H11 F L j n W.kinds.length W.hands.length as)
        ⟨y7, none, none, none, [], rfl, g9.trans g10, ht8.le g810.le, g810.at_ hM8 bM, fun v hv => (hms8 v hv).le g810.le, hLL, tLL, ⟨[], g10.at_ h9 bF, .nil⟩, rfl, fun a ha => absurd ha List.not_mem_nil⟩ (fun j σ H11 _ pv => ?_) (fun j x σ H11 H12 hj pv y => ?_) (fun σ H11 pv => ?_)
      · obtain ⟨_, _, _, _, _, _, _, _, _, _, hLL11, _⟩ := pv
        exact SqL.of hLL11
      · obtain ⟨y7, y9, y10, y11, as, rfl, g11, ht11, hM11, hms11, hLL11, tLL11, hA⟩ := pv
        obtain ⟨rfl, f1⟩ := y
        obtain ⟨d, hd, tx⟩ := tLL11.get' f1
        obtain ⟨jL, rfl⟩ := map_at hd
        have bq := bL _ (List.getElem_mem jL)
        have hLj : L[j]? = some (L[j].1, L[j].2) := List.getElem?_eq_getElem jL
        generalize L[j] = qq at tx bq hLj
        obtain ⟨qs, qt⟩ := qq
        change qs < n ∧ qt < n at bq
        obtain ⟨ax, xx, rfl, ex, ty⟩ := tx.tup_inv
        cases ty with | cons t1 ty =>
        cases ty with | cons t2 ty =>
        cases ty
        obtain rfl := t1.int_eq
        obtain rfl := t2.int_eq
        refine rd_gtup rfl (SqT.of ex) rfl ?_
        refine rd_gcons (rd_name (rd_gcons (rd_name (rd_gnil ?_))))
        walk_at "rds"
        refine ⟨_, _, qs, qt, W.kinds.length, W.hands.length, M, ms, tl, tc, dI tcs, rfl, hM11, hms11, by omega, by omega, ht11, hTot.l1, hTot.l2, hTot.b1, hTot.b2, k1, by omega, by omega, fun p13 H13 amt crew s13 h13 e1 e2 b1 b2 => ?_⟩
        have hA13 := hA.gn (Gn.of g11.bag s13) bF
        refine rd_name ?_
        refine rd_seq (rd_ifR (fun σ H14 => ∃ (v : V) (ar : Arrow), σ = [some (.ref bg), some (.ref a), some (.int m), some (.int 4), some (.int (n : Int)), some (.ref tt), some (.ref M), y7, some (.ref F), some (.int (qs : Int)), some (.int (qt : Int)), some v] ∧ Gn bg c H13 H14 ∧ TD H14 v (dArrow ar) ∧ ar.Ok n W.kinds.length W.hands.length ∧ ar.src = qs ∧ ar.tgt = qt) ?_ fun nx' hnx => ?_)
        · rintro σ H14 ⟨v, ar, rfl, g14, hv, har, e3, e4⟩
          have hA14 := hA13.gn g14 bF
          obtain ⟨ys, hy1, hy2⟩ := hA14.at_
          walk_at "rds"
          refine ⟨tyL hy1, ?_⟩
          walk_at "rds"
          refine rd_appA ⟨⟨ys, hy1, hy2⟩, hA14.links, hA14.ok⟩ hv har lL (by rw [hLj, e3, e4]) fun H15 b15 h15 => ?_
          have g1114 := (Gn.of g11.bag s13).trans g14
          have le15 := b15.le hy1
          exact ⟨_, _, _, _, _, rfl, (g11.trans g1114).mut b15 fF, (ht11.le g1114.le).le le15, b15 _ _ neMF (g1114.at_ hM11 bM), fun v hv => ((hms11 v hv).le g1114.le).le le15, b15 _ _ neLF (g1114.at_ hLL11 bLL), (tLL11.le g1114.le).le le15, h15⟩
        · have fin : ∀ (amt crew : List Int) (v : V) (H14 : Hp), Gn bg c H13 H14 → TD H14 v (dArrow ⟨qs, qt, amt, crew⟩) → amt.length = W.kinds.length → crew.length = W.hands.length → (∀ x ∈ amt, -200 ≤ x ∧ x ≤ 200) → (∀ x ∈ crew, -200 ≤ x ∧ x ≤ 200) →
              nx' [some (.ref bg), some (.ref a), some (.int m), some (.int 4), some (.int (n : Int)), some (.ref tt), some (.ref M), y7, some (.ref F), some (.int (qs : Int)), some (.int (qt : Int)), some v] H14 := fun amt crew v H14 g14 hv e1 e2 b1 b2 =>
            hnx _ _ ⟨v, ⟨qs, qt, amt, crew⟩, rfl, g14, hv, ⟨bq.1, bq.2, e1, e2, fun x hx => by have := b1 x hx; omega, fun x hx => by have := b2 x hx; omega⟩, rfl, rfl⟩
          have gg := Gn.of g11.bag s13
          walk_at "rds"
          refine ite3 (fun hc => ?_) (fun hc => ?_)
          · walk_at "rds"
            refine ⟨bg, c, _, rfl, gg.bag, by omega, by omega, fun r2 H14 g14 c0 c1 => ?_⟩
            walk_at "rds"
            refine ite3 (fun hc => ?_) (fun hc => ?_)
            · obtain ⟨a13, x13, e, h13', t13⟩ := (h13.le g14.le).tup_inv
              cases e
              obtain ⟨at14, xt14, e, ht14, tt14⟩ := ((ht11.le (Same.le s13)).le g14.le).tup_inv
              cases e
              cases t13 with | cons u1 t13 =>
              cases t13 with | cons u2 t13 =>
              cases t13 with | cons u3 t13 =>
              cases t13 with | cons u4 t13 =>
              cases t13
              obtain rfl := u1.int_eq
              obtain rfl := u2.int_eq
              cases tt14 with | cons w1 tt14 =>
              cases tt14 with | cons w2 tt14 =>
              cases tt14 with | cons w3 tt14 =>
              cases tt14
              walk_at "rds"
              refine rd_slT h13' (cutV_to _ 2) fun p15 H15 s15 h15 => ?_
              walk_at "rds"
              refine rd_slT (s15 _ _ ht14) (cutV_to _ 2) fun p16 H16 s16 h16 => ?_
              refine rd_catT (s16 _ _ h15) h16 (by simp) fun p17 H17 s17 h17 => ?_
              walk_at "rds"
              have s1517 := s15.trans (s16.trans s17)
              exact fin tl tc _ H17 (g14.same s1517) (.tup h17 (.cons (.int _) (.cons (.int _) (.cons (w1.le (Same.le s1517)) (.cons (w2.le (Same.le s1517)) .nil))))) hTot.l1 hTot.l2 (fun x hx => by have := hTot.b1 x hx; omega) (fun x hx => by have := hTot.b2 x hx; omega)
            · walk_at "rds"
              exact fin amt crew _ H14 g14 (h13.le g14.le) e1 e2 b1 b2
          · refine iteF ?_
            walk_at "rds"
            exact fin amt crew _ H13 (Gn.refl gg.bag) h13 e1 e2 b1 b2
      · obtain ⟨y7, y9, y10, y11, as, rfl, g11, ht11, hM11, hms11, hLL11, tLL11, hA⟩ := pv
        rw [lx] at hA
        obtain ⟨ys, hy1, hy2⟩ := hA.at_
        walk_at "rds"
        refine rd_tupL hy1 fun p12 H12 n12 s12 h12 => ?_
        walk_at "rds"
        refine ⟨sz_ok (by simp), rd_new (R := fun p H1 => Q (.ref p) H1) fun p H13 np s13 hp => ?_⟩
        refine q p H13 ⟨n, as⟩ (g11.same (s12.trans s13)) ⟨⟨.tup hp (.cons (.int _) (.cons (.tup (s13 _ _ h12) (hy2.le (Same.le (s12.trans s13)))) .nil)), Snd.Ok.mk' hn1.1 hn1.2 (Nat.le_trans hA.len lL) hA.ok (by omega) (by omega)⟩, ?_⟩
        show ThinL (as.map fun a => (a.src, a.tgt))
        rw [hA.links, List.take_length]
        exact thL
end
section
variable {P : Program} {w : World} {K : PySem.W.Frag} {mg : Str → Option Value} {base : Heap}
theorem rd_eqNilT {K : PySem.W.Frag} {H : Hp} {Q : VK} {v : V} {e : Addr} {ds : List PyData} (h : TD H v (.tuple ds)) (he : H e = some (.tup [])) (h1 : ∀ d ∈ ds, d.canLay0 = true) (h2 : ∀ d ∈ ds, d.depth ≤ 60) (q : Q (.bl ds.isEmpty) H) :
    rEqD K v (.ref e) H Q := by
  refine ⟨.tuple ds, .tuple [], h.dp, .tup (SqT.of he) .nil, shaped_tuple h1 h2, by decide, ?_⟩
  have e1 : PyData.eqv (.tuple ds) (.tuple []) = ds.isEmpty := by
    cases ds <;> rfl
  rw [e1]
  exact q
theorem lay_arrow (a : Arrow) : (dArrow a).canLay0 = true ∧ (dArrow a).depth ≤ 60 := by
  refine ⟨layAll_of fun d hd => ?_, ?_⟩
  · simp only [List.mem_cons, List.not_mem_nil, or_false] at hd
    rcases hd with rfl | rfl | rfl | rfl
    · rfl
    · rfl
    · exact lay_dI _
    · exact lay_dI _
  · have : PyData.depthAll [.int a.src, .int a.tgt, dI a.amt, dI a.crew] ≤ 1 := depthAll_of fun d hd => by
      simp only [List.mem_cons, List.not_mem_nil, or_false] at hd
      rcases hd with rfl | rfl | rfl | rfl
      · exact Nat.zero_le _
      · exact Nat.zero_le _
      · exact depth_dI _
      · exact depth_dI _
    show PyData.depthAll [.int a.src, .int a.tgt, dI a.amt, dI a.crew] + 1 ≤ 60
    omega
/-- some ints by the bag -/
theorem lcInts {bg c : Addr} {K : PySem.W.Frag} {H1 : Hp} {t : Addr} {xs : List V} {D : Addr} {g : TG} {te : TE} {vs : List Nat} {σ : L2.St} {Q : VK} (hB : Bag H1 bg c) (ht : SqT K H1 t xs) (hl : xs.length ≤ 1000) (nD : H1 D = none)
    (hs : ∀ x H (Q' : VK), Gn bg c H1 H → (∀ (y : Int) H2, Gn bg c H H2 → 0 ≤ y → y ≤ 2 → Q' (.int y) H2) → g x (wipe σ vs) H fun σ2 H2 => wipe σ2 vs = wipe σ vs ∧ te σ2 H2 Q')
    (hd : ∀ H (ms : List Int), Gn bg c H1 H → H D = some (.lst (ms.map V.int)) → ms.length = xs.length → (∀ m ∈ ms, 0 ≤ m ∧ m ≤ 2) → Q (.ref D) H) : LcW (Itt K t) g tYes te vs σ D Q H1 := by
  refine lcw (walk_tup (xs := xs)) (fun i acc H => Gn bg c H1 H ∧ ∃ ms : List Int, acc = ms.map V.int ∧ ms.length = i ∧ ∀ m ∈ ms, 0 ≤ m ∧ m ≤ 2) ⟨(Gn.refl hB).upd nD, [], rfl, rfl, fun m hm => absurd hm List.not_mem_nil⟩ (fun i acc H p => p.1.sq ht)
    (fun i x acc H H' hi hl' hD p y => ?_) (fun acc H hD hl' p => ?_)
  · obtain ⟨g1, ms, rfl, ml, mb⟩ := p
    obtain ⟨rfl, _⟩ := y
    exact hs x _ _ g1 fun y H2 g2 y0 y1 => lcn (g2.at_ hD (hB.k1 nD)) hl' (by omega) ⟨(g1.trans g2).upd nD, ms ++ [y], by rw [List.map_append]; rfl, by simp [ml], fun m hm => by
      rcases List.mem_append.mp hm with z | z
      · exact mb m z
      · rw [List.mem_singleton.mp z]; exact ⟨y0, y1⟩⟩
  · obtain ⟨g1, ms, rfl, ml, mb⟩ := p
    exact hd H ms g1 hD ml mb
def sp_l_any_sender (K : PySem.W.Frag) : Sp := fun vs H Q _ => ∃ (bg c a k h r : Addr) (W : Works) (m : Int), vs = [.ref bg, .ref a, .int m, .int 4] ∧ Bag H bg c ∧ WkAt H a k h r W ∧ 1 ≤ m ∧ m ≤ 6 ∧
  ∀ p H' (S : Snd), Gn bg c H H' → SndAt H' (.ref p) S W.kinds.length W.hands.length → Q (.ref p) H'
/-! ### _law_any_sender -/
/- 0 bag_here*, 1 works_here, 2 places, 3 more, 4 many, 5 arrows, 6 links_here, 7 source, 8 target, 9 lot, 10 kind', 11 hand' -/
theorem sc_l_any_sender : FnScope ["_law_bag_here", "_law_works_here", "_law_places", "_law_more", "_law_many", "_law_arrows", "_law_links_here", "_law_source", "_law_target", "_law_lot", "_law_kind", "_law_hand"] ["_law_bag_here", "_law_works_here", "_law_places", "_law_more"] (defScope (topS 51)) := ⟨rfl, rfl, rfl, by decide +kernel, rfl, by decide +kernel, by decide +kernel⟩
theorem cl_l_any_sender (T : Top K mg) : Cl P w K mg base 4 "_law_any_sender" (sp_l_any_sender K) := by
  refine cl_of (k := 3) (N := ["_law_bag_here", "_law_works_here", "_law_places", "_law_more", "_law_many", "_law_arrows", "_law_links_here", "_law_source", "_law_target", "_law_lot", "_law_kind", "_law_hand"]) (ps := ["_law_bag_here", "_law_works_here", "_law_places", "_law_more"]) (T.def_ 41 rfl) sc_l_any_sender (fun vs H Q E h => ?_) (fun _ _ _ _ _ _ us hl => match us, hl with | [_, _, _, _], _ => rfl) (fun f cdv A outer s H vs Q E hr h => ?_)
  · obtain ⟨bg, c, a, k, h, r, W, m, rfl, hB, hW, hm, hm2, q⟩ := h
    rfl
  · obtain ⟨bg, c, a, k, h, r, W, m, rfl, hB, hW, hm, hm2, q⟩ := h
    have hu := hu_of hr
    have hu65 := hu65_of hr
    have hu64 := hr.units
    refine ⟨_, (pss_cons (ps_par (i := 4) (j := 5) rfl sc_l_any_sender.nd rfl rfl (by decide) rfl rfl (pa_cons (pe_op op_add pe_int (pe_cl (k := 1) (j := 3) (cl_l_take T) hr (by decide) (by rfl) (pa_cons (pv 0) (pa_cons (pv 2) pa_nil)))) (pa_cons (pe_lst pa_nil) pa_nil)) (by rfl))
  (pss_cons (ps_set (i := 6) sc_l_any_sender.nd rfl (.inl rfl) (pe_cl (k := 3) (j := 3) (cl_l_links T) hr (by decide) (by rfl) (pa_cons (pv 0) (pa_cons (pv 4) (pa_cons (pv 3) pa_nil)))))
  (pss_cons (ps_for PassesOwn.never rfl (pi_list (pe_slice (sl_listK K) (pv 6) po_none (po_some (pe_cl (k := 2) (j := 3) (cl_l_one T) hr (by decide) (by rfl) (pa_cons (pv 0) (pa_cons (pe_lst (pa_cons (pe_callB (call_lenK K) (by rfl) (T.b 0 rfl) PySem.boot_len (pa_cons (pv 6) pa_nil)) (pa_cons (pe_callB (call_lenK K) (by rfl) (T.b 0 rfl) PySem.boot_len (pa_cons (pv 6) pa_nil)) (pa_cons (pe_cl (k := 1) (j := 3) (cl_l_take T) hr (by decide) (by rfl) (pa_cons (pv 0) (pa_cons (pe_op op_add (pe_callB (call_lenK K) (by rfl) (T.b 0 rfl) PySem.boot_len (pa_cons (pv 6) pa_nil)) pe_int) pa_nil))) pa_nil)))) pa_nil)))))) (pg_tup rfl (pgs_cons (pg_name (i := 7) sc_l_any_sender.nd rfl (.inl rfl)) (pgs_cons (pg_name (i := 8) sc_l_any_sender.nd rfl (.inl rfl)) pgs_nil)))
  (pss_cons (ps_set (i := 9) sc_l_any_sender.nd rfl (.inl rfl) (pe_callTy (call_tupleK K) (by rfl) (T.b 7 rfl) (by decide +kernel) (pa_cons (pe_lc (own := [("_law_kind", 10)]) (g := gName 10) rfl sc_l_any_sender.nd  (pi_tup (pe_ix (ix_tupK K) (pv 1) pe_int (fun _ _ => rfl))) (blkOk_by (N := ["_law_bag_here", "_law_works_here", "_law_places", "_law_more", "_law_many", "_law_arrows", "_law_links_here", "_law_source", "_law_target", "_law_lot", "_law_kind", "_law_hand"]) (sc := defScope (topS 51)) (by decide +kernel)) (fun _ _ _ _ _ => (pg_name (i := 10) sc_l_any_sender.nd rfl (.inl rfl))) (fun _ _ _ _ _ => pts_nil) (fun _ _ _ _ _ => (pe_cl (k := 2) (j := 3) (cl_l_one T) hr (by decide) (by rfl) (pa_cons (pv 0) (pa_cons (pe_lst (pa_cons pe_int (pa_cons pe_int (pa_cons pe_int (pa_cons pe_int (pa_cons pe_int pa_nil)))))) pa_nil))))) pa_nil)))
  (pss_one (ps_expr (pe_bm PySem.F.plainAttrs_list PySem.F.slot_list_append PySem.F.type_list_append mt_append (pv 5) (pa_cons (pe_tup (pa_cons (pv 7) (pa_cons (pv 8) (pa_cons (pv 9) (pa_cons (pe_callTy (call_tupleK K) (by rfl) (T.b 7 rfl) (by decide +kernel) (pa_cons (pe_lc (own := [("_law_hand", 11)]) (g := gName 11) rfl sc_l_any_sender.nd  (pi_tup (pe_ix (ix_tupK K) (pv 1) pe_int (fun _ _ => rfl))) (blkOk_by (N := ["_law_bag_here", "_law_works_here", "_law_places", "_law_more", "_law_many", "_law_arrows", "_law_links_here", "_law_source", "_law_target", "_law_lot", "_law_kind", "_law_hand"]) (sc := defScope (topS 51)) (by decide +kernel)) (fun _ _ _ _ _ => (pg_name (i := 11) sc_l_any_sender.nd rfl (.inl rfl))) (fun _ _ _ _ _ => pts_nil) (fun _ _ _ _ _ => (pe_cl (k := 2) (j := 3) (cl_l_one T) hr (by decide) (by rfl) (pa_cons (pv 0) (pa_cons (pe_lst (pa_cons pe_int (pa_cons pe_int (pa_cons pe_int (pa_cons pe_int pa_nil))))) pa_nil))))) pa_nil)) pa_nil))))) pa_nil))))))
  (pss_one (ps_ret (pe_tup (pa_cons (pv 4) (pa_cons (pe_callTy (call_tupleK K) (by rfl) (T.b 7 rfl) (by decide +kernel) (pa_cons (pv 5) pa_nil)) pa_nil)))))))), ?_⟩
    obtain ⟨k1, k2, k3, k4, k5⟩ := hW.ok
    walk_at "rds"
    refine ⟨bg, c, _, rfl, hB, by omega, by omega, fun r1 H1 g1 a0 a1 => ?_⟩
    obtain ⟨n, hn⟩ : ∃ n : Nat, 1 + r1 = (n : Int) := ⟨(1 + r1).toNat, by omega⟩
    refine rd_I0 ?_
    rw [hn]
    have hn1 : 1 ≤ n ∧ n ≤ 6 := by omega
    walk_at "rds"
    refine ⟨sz_ok (by simp), fun F nF => ?_⟩
    generalize eH2 : upd _ F _ = H2
    obtain ⟨s2, h2⟩ := new_of eH2 nF
    have fF := g1.free nF
    have bF := hB.k1 fF
    have g2 := g1.same s2
    walk_at "rds"
    refine ⟨bg, c, n, rfl, g2.bag, hn1.1, hn1.2, fun LL H3 xs L g3 nLL hLL tLL bL lL lL1 thL => ?_⟩
    have fLL : H LL = none := g2.free nLL
    have neLF : LL ≠ F := fun e => by rw [e, h2] at nLL; cases nLL
    have bLL := hB.k1 fLL
    have lx := tLL.length
    rw [List.length_map] at lx
    have g23 := g2.trans g3
    walk_at "rds"
    refine rd_lenL hLL ?_
    walk_at "rds"
    refine rd_lenL hLL ?_
    walk_at "rds"
    refine rd_lenL hLL ?_
    walk_at "rds"
    refine ⟨bg, c, _, rfl, g3.bag, by omega, by omega, fun r2 H4 g4 b0 b1 => ?_⟩
    walk_at "rds"
    refine ⟨sz_ok (by simp), fun p5 np5 => ?_⟩
    generalize eH5 : upd _ p5 _ = H5
    obtain ⟨s5, h5⟩ := new_of eH5 np5
    have g5 := (g23.trans g4).same s5
    have f5 := (g23.trans g4).free np5
    walk_at "rds"
    refine ⟨bg, c, p5, _, rfl, g5.bag, h5, hB.k1 f5, by simp, by simp, fun v H6 g6 hv => ?_⟩
    obtain ⟨cu, rfl, hcu⟩ : ∃ cu : Nat, v = .int (cu : Int) ∧ cu ≤ xs.length := by
      simp only [List.mem_cons, List.not_mem_nil, or_false] at hv
      rcases hv with e | e | e
      · exact ⟨_, e, Nat.le_refl _⟩
      · exact ⟨_, e, Nat.le_refl _⟩
      · exact ⟨r2.toNat, by rw [e]; congr 1; omega, by omega⟩
    walk_at "rds"
    have g46 := (g4.same s5).trans g6
    have hLL6 := g46.at_ hLL bLL
    have tLL6 := tLL.le g46.le
    refine rd_slL hLL6 (cutV_to _ cu) fun p7 H7 n7 s7 h7 => ?_
    have tS := (tLL6.le (Same.le s7)).take cu
    rw [← List.map_take] at tS
    have bS : ∀ q ∈ L.take cu, q.1 < n ∧ q.2 < n := fun q hq => bL q (List.mem_of_mem_take hq)
    have thS := thL.take cu
    have lS : (L.take cu).length ≤ 10 := by rw [List.length_take]; omega
    have f7 : H p7 = none := (g23.trans g46).free n7
    have b7 := hB.k1 f7
    have lxS := tS.length
    rw [List.length_map] at lxS
    generalize L.take cu = LS at *
    generalize xs.take cu = xS at *
    refine ⟨p7, rfl, ⟨_, SqL.of h7⟩, ?_⟩
    have g37 := ((Gn.of g1.bag s2).trans (g3.trans g46)).same s7
    have ne7F : p7 ≠ F := fun e => by rw [e, (g3.trans g46).at_ h2 bF] at n7; cases n7
    refine forw (walk_list (xs := xS)) (fun j σ H8 => ∃ (y7 y8 y9 : Option V) (as : List Arrow), σ = [some (.ref bg), some (.ref a), some (.int m), some (.int 4), some (.int (n : Int)), some (.ref F), some (.ref LL), y7, y8, y9, none, none] ∧ Gn bg c H H8 ∧ H8 p7 = some (.lst xS) ∧ TDs H8 xS (LS.map dPair) ∧ ArrL H8 F LS j n W.kinds.length W.hands.length as)
      ⟨none, none, none, [], rfl, g1.trans g37, h7, tS, ⟨[], s7 _ _ ((g3.trans g46).at_ h2 bF), .nil⟩, rfl, fun a ha => absurd ha List.not_mem_nil⟩ (fun j σ H8 _ pv => ?_) (fun j x σ H8 H9 hj pv y => ?_) (fun σ H8 pv => ?_)
    · obtain ⟨_, _, _, _, _, _, h8, _⟩ := pv
      exact SqL.of h8
    · obtain ⟨y7, y8, y9, as, rfl, g8, hp8, tp8, hA⟩ := pv
      obtain ⟨rfl, f1⟩ := y
      obtain ⟨d, hd, tx⟩ := tp8.get' f1
      obtain ⟨jL, rfl⟩ := map_at hd
      have bq := bS _ (List.getElem_mem jL)
      have hLj : LS[j]? = some (LS[j].1, LS[j].2) := List.getElem?_eq_getElem jL
      generalize LS[j] = qq at tx bq hLj
      obtain ⟨qs, qt⟩ := qq
      change qs < n ∧ qt < n at bq
      obtain ⟨ax, xx, rfl, ex, ty⟩ := tx.tup_inv
      cases ty with | cons t1 ty =>
      cases ty with | cons t2 ty =>
      cases ty
      obtain rfl := t1.int_eq
      obtain rfl := t2.int_eq
      refine rd_gtup rfl (SqT.of ex) rfl ?_
      refine rd_gcons (rd_name (rd_gcons (rd_name (rd_gnil ?_))))
      have hW8 := hW.gn g8
      walk_at "rds"
      refine rd_ixTi (j := 0) hW8.at_ rfl rfl ?_
      refine ⟨k, rfl, ⟨_, SqT.of hW8.kinds⟩, fun D nD => ?_⟩
      refine lcInts g8.bag (SqT.of hW8.kinds) (by rw [List.length_map]; omega) nD (fun x H9 Q' g9 q' => ?_) (fun H9 lot g9 hD l1 b1 => ?_)
      · walk_at "rds"
        refine ⟨rfl, ?_⟩
        walk_at "rds"
        refine ⟨sz_ok (by simp), fun p10 np10 => ?_⟩
        generalize eH10 : upd _ p10 _ = H10
        obtain ⟨s10, h10⟩ := new_of eH10 np10
        walk_at "rds"
        have f10 := (g8.trans g9).free np10
        refine ⟨bg, c, p10, _, rfl, (g9.same s10).bag, h10, hB.k1 f10, by simp, by simp, fun w H11 g11 hw => ?_⟩
        obtain ⟨y, rfl, y0, y1⟩ : ∃ y : Int, w = .int y ∧ 0 ≤ y ∧ y ≤ 2 := by
          simp only [List.mem_cons, List.not_mem_nil, or_false] at hw
          rcases hw with e | e | e | e | e <;> exact ⟨_, e, by omega, by omega⟩
        exact q' y H11 ((Gn.of g9.bag s10).trans g11) y0 y1
      rw [List.length_map] at l1
      walk_at "rds"
      refine rd_tupL hD fun lt H10 n10 s10 h10 => ?_
      have g10 := g9.same s10
      have hA10 := hA.gn g10 bF
      obtain ⟨ys, hy1, hy2⟩ := hA10.at_
      walk_at "rds"
      refine ⟨tyL hy1, ?_⟩
      have hW10 := hW8.gn g10
      walk_at "rds"
      refine rd_ixTi (j := 1) hW10.at_ rfl rfl ?_
      refine ⟨h, rfl, ⟨_, hW10.hands.sq⟩, fun E nE => ?_⟩
      refine lcInts g10.bag hW10.hands.sq (by rw [List.length_map]; omega) nE (fun x H11 Q' g11 q' => ?_) (fun H11 crew g11 hE l2 b2 => ?_)
      · walk_at "rds"
        refine ⟨rfl, ?_⟩
        walk_at "rds"
        refine ⟨sz_ok (by simp), fun p12 np12 => ?_⟩
        generalize eH12 : upd _ p12 _ = H12
        obtain ⟨s12, h12⟩ := new_of eH12 np12
        walk_at "rds"
        have f12 := ((g8.trans g10).trans g11).free np12
        refine ⟨bg, c, p12, _, rfl, (g11.same s12).bag, h12, hB.k1 f12, by simp, by simp, fun w H13 g13 hw => ?_⟩
        obtain ⟨y, rfl, y0, y1⟩ : ∃ y : Int, w = .int y ∧ 0 ≤ y ∧ y ≤ 2 := by
          simp only [List.mem_cons, List.not_mem_nil, or_false] at hw
          rcases hw with e | e | e | e <;> exact ⟨_, e, by omega, by omega⟩
        exact q' y H13 ((Gn.of g11.bag s12).trans g13) y0 y1
      rw [List.length_map] at l2
      walk_at "rds"
      refine rd_tupL hE fun ct H12 n12 s12 h12 => ?_
      walk_at "rds"
      refine ⟨sz_ok (by simp), fun p13 np13 => ?_⟩
      generalize eH13 : upd _ p13 _ = H13
      obtain ⟨s13, h13⟩ := new_of eH13 np13
      have g1013 := g11.same (s12.trans s13)
      have hA13 := hA10.gn g1013 bF
      obtain ⟨zs, hz1, hz2⟩ := hA13.at_
      have g813 := g10.trans g1013
      have ht13 : TD H13 (.ref p13) (dArrow ⟨qs, qt, lot, crew⟩) := .tup h13 (.cons (.int _) (.cons (.int _) (.cons (TD.ints (g1013.tup h10)) (.cons (TD.ints (s13 _ _ h12)) .nil))))
      walk_at "rds"
      refine rd_appA hA13 ht13 ⟨bq.1, bq.2, l1, l2, fun x hx => by have := b1 x hx; omega, fun x hx => by have := b2 x hx; omega⟩ lS hLj fun H14 b14 h14 => ?_
      have le14 := b14.le hz1
      exact ⟨_, _, _, _, rfl, (g8.trans g813).mut b14 fF, b14 _ _ ne7F (g813.at_ hp8 b7), (tp8.le g813.le).le le14, h14⟩
    · obtain ⟨y7, y8, y9, as, rfl, g8, hp8, tp8, hA⟩ := pv
      have lxS' : xS.length = LS.length := lxS
      rw [lxS'] at hA
      obtain ⟨ys, hy1, hy2⟩ := hA.at_
      walk_at "rds"
      refine rd_tupL hy1 fun p12 H12 n12 s12 h12 => ?_
      walk_at "rds"
      refine ⟨sz_ok (by simp), rd_new (R := fun p H1 => Q (.ref p) H1) fun p H13 np s13 hp => ?_⟩
      refine q p H13 ⟨n, as⟩ (g8.same (s12.trans s13)) ⟨⟨.tup hp (.cons (.int _) (.cons (.tup (s13 _ _ h12) (hy2.le (Same.le (s12.trans s13)))) .nil)), Snd.Ok.mk' hn1.1 hn1.2 (Nat.le_trans hA.len lS) hA.ok (by omega) (by omega)⟩, ?_⟩
      show ThinL (as.map fun a => (a.src, a.tgt))
      rw [hA.links, List.take_length]
      exact thS
end
section
variable {P : Program} {w : World} {K : PySem.W.Frag} {mg : Str → Option Value} {base : Heap}
theorem TDs.set {H : Hp} : ∀ {vs : List V} {ds : List PyData} {i : Nat} {v : V} {d : PyData}, TDs H vs ds → TD H v d → TDs H (vs.set i v) (ds.set i d)
  | _, _, _, _, _, .nil, _ => .nil
  | _, _, 0, _, _, .cons _ t, h => .cons h t
  | _, _, i + 1, _, _, .cons a t, h => .cons a (TDs.set t h)
theorem set_cut {α : Type} {l : List α} {i : Nat} (x : α) (h : i < l.length) : l.take i ++ [x] ++ l.drop (i + 1) = l.set i x := by
  rw [List.set_eq_take_append_cons_drop, if_pos h, List.append_assoc]
  rfl
theorem set_bd {ns : List Int} {i : Nat} {x a b : Int} (h : ∀ y ∈ ns, a ≤ y ∧ y ≤ b) (h0 : a ≤ x) (h1 : x ≤ b) : ∀ y ∈ ns.set i x, a ≤ y ∧ y ≤ b := fun y hy => by
  rcases List.mem_or_eq_of_mem_set hy with z | z
  · exact h y z
  · rw [z]; exact ⟨h0, h1⟩
theorem rd_condC {σ : L2.St} {H : Hp} {c : TT} {A B : Hp → Prop} (RT RF : Hp → Prop) (hT : ∀ H1, RT H1 → A H1) (hF : ∀ H1, RF H1 → B H1) (h : ∀ T F : Hp → Prop, (∀ H1, RT H1 → T H1) → (∀ H1, RF H1 → F H1) → c σ H fun b H1 => if b = true then T H1 else F H1) :
    c σ H fun b H1 => if b = true then A H1 else B H1 := h A B hT hF
/-- a tuple of ints, one of them another -/
theorem ints_set {H H1 : Hp} {p : Addr} {ns : List Int} {i : Nat} {x : Int} (hi : i < ns.length) (h : H p = some (.tup ((ns.map V.int).take i ++ [V.int x] ++ (ns.map V.int).drop (i + 1)))) (le : Le H H1) : TD H1 (.ref p) (dI (ns.set i x)) := by
  refine TD.ints ?_
  rw [le _ _ h, set_cut _ (by rw [List.length_map]; exact hi), List.map_set]
def sp_l_bent_sender (K : PySem.W.Frag) : Sp := fun vs H Q _ => ∃ (bg c : Addr) (v0 v : V) (S : Snd) (nk nh : Nat), vs = [.ref bg, v0, v] ∧ Bag H bg c ∧ SndAt H v S nk nh ∧ 1 ≤ nk ∧
  ∀ v' H' (S' : Snd), Gn bg c H H' → SndAt H' v' S' nk nh → Q v' H'
/-! ### _law_bent_sender -/
/- 0 bag_here, 1 works_here, 2 sender_here, 3 at, 4 source, 5 target, 6 lot, 7 crew*, 8 place, 9 hands -/
theorem sc_l_bent_sender : FnScope ["_law_bag_here", "_law_works_here", "_law_sender_here", "_law_at", "_law_source", "_law_target", "_law_lot", "_law_crew", "_law_place", "_law_hands"] ["_law_bag_here", "_law_works_here", "_law_sender_here"] (defScope (topS 52)) := ⟨rfl, rfl, rfl, by decide +kernel, rfl, by decide +kernel, by decide +kernel⟩
theorem cl_l_bent_sender (T : Top K mg) : Cl P w K mg base 3 "_law_bent_sender" (sp_l_bent_sender K) := by
  refine cl_of (k := 2) (N := ["_law_bag_here", "_law_works_here", "_law_sender_here", "_law_at", "_law_source", "_law_target", "_law_lot", "_law_crew", "_law_place", "_law_hands"]) (ps := ["_law_bag_here", "_law_works_here", "_law_sender_here"]) (T.def_ 42 rfl) sc_l_bent_sender (fun vs H Q E h => ?_) (fun _ _ _ _ _ _ us hl => match us, hl with | [_, _, _], _ => rfl) (fun f cdv A outer s H vs Q E hr h => ?_)
  · obtain ⟨bg, c, v0, v, S, nk, nh, rfl, hB, ⟨hS, hth⟩, hk1, q⟩ := h
    rfl
  · obtain ⟨bg, c, v0, v, S, nk, nh, rfl, hB, ⟨hS, hth⟩, hk1, q⟩ := h
    have hu := hu_of hr
    have hu65 := hu65_of hr
    have hu64 := hr.units
    refine ⟨_, (pss_cons (ps_if (pt_cmpR (op_eqDK K hr.units) (pe_ix (ix_tupK K) (pv 2) pe_int (fun _ _ => rfl)) (pe_tup pa_nil) (nomark _)) (pss_one (ps_ret (pv 2))) pss_nil)
  (pss_cons (ps_set (i := 3) sc_l_bent_sender.nd rfl (.inl rfl) (pe_cl (k := 1) (j := 2) (cl_l_take T) hr (by decide) (by rfl) (pa_cons (pv 0) (pa_cons (pe_callB (call_lenK K) (by rfl) (T.b 0 rfl) PySem.boot_len (pa_cons (pe_ix (ix_tupK K) (pv 2) pe_int (fun _ _ => rfl)) pa_nil)) pa_nil))))
  (pss_cons (ps_asg (pe_ix (ix_tupK K) (pe_ix (ix_tupK K) (pv 2) pe_int (fun _ _ => rfl)) (pv 3) (fun _ _ => rfl)) (pg_tup rfl (pgs_cons (pg_name (i := 4) sc_l_bent_sender.nd rfl (.inl rfl)) (pgs_cons (pg_name (i := 5) sc_l_bent_sender.nd rfl (.inl rfl)) (pgs_cons (pg_name (i := 6) sc_l_bent_sender.nd rfl (.inl rfl)) (pgs_cons (pg_name (i := 7) sc_l_bent_sender.nd rfl (.inr rfl)) pgs_nil))))))
  (pss_cons (ps_setLc (i := 9) (own := [("_law_place", 8)]) (g := gName 8) rfl sc_l_bent_sender.nd rfl rfl (sw_true rfl rfl rfl (by decide +kernel)) (pi_range1 (by rfl) (T.b 1 rfl) (pa_cons (pe_callB (call_lenK K) (by rfl) (T.b 0 rfl) PySem.boot_len (pa_cons (pv 7) pa_nil)) pa_nil)) (blkOk_by (N := ["_law_bag_here", "_law_works_here", "_law_sender_here", "_law_at", "_law_source", "_law_target", "_law_lot", "_law_crew", "_law_place", "_law_hands"]) (sc := defScope (topS 52)) (by decide +kernel)) (fun _ _ _ _ _ => (pg_name (i := 8) sc_l_bent_sender.nd rfl (.inl rfl))) (fun _ _ _ _ _ => (pts_one (pt_cmpR op_gt (pe_ix (ix_tupK K) (pv 7) (pv 8) (fun _ _ => rfl)) pe_int (nomark _)))) (fun _ _ _ _ _ => (pv 8)))
  (pss_cons (ps_if (PW.pt (pw_and (pt_cmpR (op_neDK K hr.units) (pv 9) (pe_lst pa_nil) (nomark _)) (pw_and1 (pt_cmpR op_eq (pe_cl (k := 1) (j := 2) (cl_l_take T) hr (by decide) (by rfl) (pa_cons (pv 0) (pa_cons pe_int pa_nil))) pe_int (nomark _))))) (pss_cons (ps_set (i := 8) sc_l_bent_sender.nd rfl (.inl rfl) (pe_cl (k := 2) (j := 2) (cl_l_one T) hr (by decide) (by rfl) (pa_cons (pv 0) (pa_cons (pv 9) pa_nil))))
  (pss_one (ps_set (i := 7) sc_l_bent_sender.nd rfl (.inr rfl) (pe_op (op_catAK K) (pe_op (op_catAK K) (pe_slice (sl_tupAK K) (pv 7) po_none (po_some (pv 8))) (pe_tup (pa_cons (pe_op op_sub (pe_ix (ix_tupK K) (pv 7) (pv 8) (fun _ _ => rfl)) pe_int) pa_nil))) (pe_slice (sl_tupAK K) (pv 7) (po_some (pe_op op_add (pv 8) pe_int)) po_none))))) (pss_cons (ps_set (i := 8) sc_l_bent_sender.nd rfl (.inl rfl) (pe_cl (k := 1) (j := 2) (cl_l_take T) hr (by decide) (by rfl) (pa_cons (pv 0) (pa_cons (pe_callB (call_lenK K) (by rfl) (T.b 0 rfl) PySem.boot_len (pa_cons (pv 6) pa_nil)) pa_nil))))
  (pss_one (ps_set (i := 6) sc_l_bent_sender.nd rfl (.inl rfl) (pe_op (op_catAK K) (pe_op (op_catAK K) (pe_slice (sl_tupAK K) (pv 6) po_none (po_some (pv 8))) (pe_tup (pa_cons (pe_callB (call_min2 rfl) (by rfl) (T.b 3 rfl) (by decide +kernel) (pa_cons pe_int (pa_cons (pe_op op_add (pe_ix (ix_tupK K) (pv 6) (pv 8) (fun _ _ => rfl)) pe_int) pa_nil))) pa_nil))) (pe_slice (sl_tupAK K) (pv 6) (po_some (pe_op op_add (pv 8) pe_int)) po_none))))))
  (pss_one (ps_ret (pe_tup (pa_cons (pe_ix (ix_tupK K) (pv 2) pe_int (fun _ _ => rfl)) (pa_cons (pe_op (op_catAK K) (pe_op (op_catAK K) (pe_slice (sl_tupAK K) (pe_ix (ix_tupK K) (pv 2) pe_int (fun _ _ => rfl)) po_none (po_some (pv 3))) (pe_tup (pa_cons (pe_tup (pa_cons (pv 4) (pa_cons (pv 5) (pa_cons (pv 6) (pa_cons (pv 7) pa_nil))))) pa_nil))) (pe_slice (sl_tupAK K) (pe_ix (ix_tupK K) (pv 2) pe_int (fun _ _ => rfl)) (po_some (pe_op op_add (pv 3) pe_int)) po_none)) pa_nil)))))))))), ?_⟩
    have ok := hS.ok
    have k2 := ok.nk1
    have k3 := ok.nh1
    have om := ok.many
    walk_at "rds"
    refine rd_ixT (j := 1) hS.td rfl rfl fun w1 h1 => ?_
    walk_at "rds"
    refine ⟨sz_ok (by simp), fun e ne => ?_⟩
    generalize eH1 : upd _ e _ = H1
    obtain ⟨s1, he⟩ := new_of eH1 ne
    have hS1 := hS.le (Same.le s1)
    have g1 := Gn.of hB s1
    refine rd_eqNilT (h1.le (Same.le s1)) he (fun d hd => ?_) (fun d hd => ?_) ?_
    · obtain ⟨a, _, rfl⟩ := List.mem_map.mp hd
      exact (lay_arrow a).1
    · obtain ⟨a, _, rfl⟩ := List.mem_map.mp hd
      exact (lay_arrow a).2
    walk_at "rds"
    refine ite3 (fun hc => ?_) (fun hc => ?_)
    · walk_at "rds"
      exact q v H1 S g1 ⟨hS1, hth⟩
    · have hne : S.arrows ≠ [] := fun z => by rw [z] at hc; cases hc
      have hpos : 0 < S.arrows.length := List.length_pos_iff.mpr hne
      walk_at "rds"
      refine rd_ixT (j := 1) hS1.td rfl rfl fun w2 h2 => ?_
      walk_at "rds"
      refine rd_lenD h2 ?_
      rw [List.length_map]
      walk_at "rds"
      refine ⟨bg, c, _, rfl, g1.bag, by omega, by omega, fun r2 H2 g2 b0 b1 => ?_⟩
      obtain ⟨i, hi⟩ : ∃ i : Nat, r2 = (i : Int) := ⟨r2.toNat, by omega⟩
      subst hi
      have il : i < S.arrows.length := by omega
      have hS2 := hS1.le g2.le
      walk_at "rds"
      refine rd_ixT (j := 1) hS2.td rfl rfl fun w3 h3 => ?_
      walk_at "rds"
      refine rd_ixT h3 rfl (Snd.dat il) fun w4 h4 => ?_
      obtain ⟨l1, l2, l3, l4⟩ := ok.lt il
      obtain ⟨b3, b4⟩ := ok.bd il
      generalize eamt : S.amt i = amt at h4 l3 b3
      generalize ecrew : S.crew i = crew at h4 l4 b4
      obtain ⟨ax, xx, rfl, ex, ty⟩ := h4.tup_inv
      cases ty with | cons t1 ty =>
      cases ty with | cons t2 ty =>
      cases ty with | cons t3 ty =>
      cases ty with | cons t4 ty =>
      cases ty
      obtain rfl := t1.int_eq
      obtain rfl := t2.int_eq
      obtain ⟨a3, rfl, h3'⟩ := t3.ints_inv
      obtain ⟨a4, rfl, h4'⟩ := t4.ints_inv
      refine rd_gtup rfl (SqT.of ex) rfl ?_
      refine rd_gcons (rd_name (rd_gcons (rd_name (rd_gcons (rd_name (rd_gcons (rd_name (rd_gnil ?_))))))))
      walk_at "rds"
      refine rd_lenT h4' ?_
      rw [List.length_map]
      refine ⟨_, rfl, by omega, by omega, fun D nD => ?_⟩
      have g12 := g1.trans g2
      have fD := g12.free nD
      refine lcw walk_range0 (fun j acc H3 => Same H2 H3 ∧ ∃ bs : List Nat, acc = bs.map nI ∧ ∀ b ∈ bs, ∃ hb : b < crew.length, 0 < crew[b]) ⟨Same.mut (Same.refl _) nD, [], rfl, fun b hb => absurd hb List.not_mem_nil⟩ (fun _ _ _ _ => trivial)
        (fun j x acc H3 H4 hj hl hD p y => ?_) (fun acc H3 hD hl p => ?_)
      · obtain ⟨s3, bs, rfl, bb⟩ := p
        obtain ⟨rfl, rfl⟩ := y
        have hj' : j < crew.length := by omega
        walk_at "rds"
        refine ⟨rfl, ?_⟩
        walk_at "rds"
        refine rd_ixI (TD.ints (s3 _ _ h4')) hj' ?_
        walk_at "rds"
        refine ite3 (fun hc => ?_) (fun hc => ?_)
        · have hp := of_decide_eq_true hc
          walk_at "rds"
          refine lcn hD hl (by omega) ⟨Same.mut s3 nD, bs ++ [j], by rw [List.map_append]; rfl, fun b hb => ?_⟩
          rcases List.mem_append.mp hb with z | z
          · exact bb b z
          · rw [List.mem_singleton.mp z]
            exact ⟨hj', hp⟩
        · exact lcs hD hl ⟨s3, bs, rfl, bb⟩
      obtain ⟨s3, bs, rfl, bb⟩ := p
      have g3 := g12.same s3
      have hS3 := hS2.le (Same.le s3)
      have h33 := s3 _ _ h3'
      have h43 := s3 _ _ h4'
      refine rd_name ?_
      refine rd_seq (rd_ifR (fun σ H4 => ∃ (y8 y9 : Option V) (p3 p4 : Addr) (amt crew : List Int), σ = [some (.ref bg), some v0, some v, some (.int (i : Int)), some (.int (S.src i : Int)), some (.int (S.tgt i : Int)), some (.ref p3), some (.ref p4), y8, y9] ∧ Gn bg c H3 H4 ∧ TD H4 (.ref p3) (dI amt) ∧ TD H4 (.ref p4) (dI crew) ∧ amt.length = nk ∧ crew.length = nh ∧ (∀ x ∈ amt, -1000 ≤ x ∧ x ≤ 1000) ∧ (∀ x ∈ crew, -1000 ≤ x ∧ x ≤ 1000)) ?_ fun nx' hnx => ?_)
      · rintro σ H4 ⟨y8, y9, p3, p4, amt, crew, rfl, g4, h5, h6, e1, e2, c1, c2⟩
        have hS4 := hS3.le g4.le
        walk_at "rds"
        refine rd_ixT (j := 0) hS4.td rfl rfl fun w5 h7 => ?_
        obtain rfl := h7.int_eq
        walk_at "rds"
        refine rd_ixT (j := 1) hS4.td rfl rfl fun w6 h8 => ?_
        obtain ⟨aa, xs, rfl, hA⟩ := AtA.of h8
        have lA := hA.len
        walk_at "rds"
        refine rd_slT hA.at_ (cutV_to _ i) fun p5 H5 s5 h5' => ?_
        walk_at "rds"
        refine ⟨sz_ok (by simp), fun p6 np6 => ?_⟩
        generalize eH6 : upd _ p6 _ = H6
        obtain ⟨s6, h6'⟩ := new_of eH6 np6
        walk_at "rds"
        refine ⟨sz_ok (by simp), fun p7 np7 => ?_⟩
        generalize eH7 : upd _ p7 _ = H7
        obtain ⟨s7, h7'⟩ := new_of eH7 np7
        refine rd_catT ((s6.trans s7) _ _ h5') h7' (by simp; omega) fun p8 H8 s8 h8' => ?_
        walk_at "rds"
        have s48 := s5.trans (s6.trans (s7.trans s8))
        have hS8 := hS4.le (Same.le s48)
        refine rd_ixT (j := 1) hS8.td rfl rfl fun w7 h9 => ?_
        obtain ⟨aa', xs', rfl, hA'⟩ := AtA.of h9
        have lA' := hA'.len
        walk_at "rds"
        refine rd_slT hA'.at_ (cutV_from _ (i + 1)) fun p9 H9 s9 h9' => ?_
        refine rd_catT (s9 _ _ h8') h9' (by simp; omega) fun p10 H10 s10 h10 => ?_
        walk_at "rds"
        refine ⟨sz_ok (by simp), rd_new (R := fun p H1 => Q (.ref p) H1) fun p H11 np s11 hp => ?_⟩
        have s411 : Same H4 H11 := s48.trans (s9.trans (s10.trans s11))
        have le4 := Same.le s411
        have tA := (hA.td.le le4).take i
        have tA' := (hA'.td.le (Same.le (s9.trans (s10.trans s11)))).drop (i + 1)
        have tN : TD H11 (.ref p6) (dArrow ⟨S.src i, S.tgt i, amt, crew⟩) := .tup ((s7.trans (s8.trans (s9.trans (s10.trans s11)))) _ _ h6') (.cons (.int _) (.cons (.int _) (.cons (h5.le le4) (.cons (h6.le le4) .nil))))
        have tt := (tA.append (.cons tN .nil)).append tA'
        have el : i < (S.arrows.map dArrow).length := by rw [List.length_map]; exact il
        rw [set_cut _ el, ← List.map_set] at tt
        have hat : ∀ a ∈ S.arrows.set i ⟨S.src i, S.tgt i, amt, crew⟩, a.Ok S.n nk nh := fun a ha => by
          rcases List.mem_or_eq_of_mem_set ha with z | z
          · exact ⟨ok.src a z, ok.tgt a z, ok.amt a z, ok.crew a z, ok.ba a z, ok.bc a z⟩
          · rw [z]
            exact ⟨l1, l2, e1, e2, c1, c2⟩
        refine q (.ref p) H11 ⟨S.n, S.arrows.set i ⟨S.src i, S.tgt i, amt, crew⟩⟩ ((g3.trans g4).same s411) ⟨⟨.tup hp (.cons (.int _) (.cons (.tup (s11 _ _ h10) tt) .nil)), Snd.Ok.mk' ok.pos ok.few (by rw [List.length_set]; exact om) hat k2 k3⟩, ?_⟩
        have es : (S.arrows.set i ⟨S.src i, S.tgt i, amt, crew⟩).map (fun a => (a.src, a.tgt)) = S.arrows.map fun a => (a.src, a.tgt) := by
          rw [List.map_set]
          obtain ⟨a, h1, _, h3, h4, _⟩ := Snd.at il
          show (S.arrows.map fun a => (a.src, a.tgt)).set i (S.src i, S.tgt i) = _
          rw [h3, h4]
          apply List.ext_getElem
          · simp
          · intro n a1 a2
            rw [List.getElem_set]
            split
            · rename_i e
              subst e
              rw [List.getElem_map]
              obtain ⟨_, e3⟩ := List.getElem?_eq_some_iff.mp h1
              rw [e3]
            · rfl
        show ThinL ((S.arrows.set i ⟨S.src i, S.tgt i, amt, crew⟩).map fun a => (a.src, a.tgt))
        rw [es]
        exact hth
      · have g3b := Gn.refl g3.bag
        have bl : bs.length ≤ 1000 := by
          rw [List.length_map] at hl
          omega
        have bD := hB.k1 fD
        refine rd_condC (fun H4 => Gn bg c H3 H4 ∧ bs ≠ []) (fun H4 => Gn bg c H3 H4) ?_ ?_ fun T F hT hF => ?_
        · rintro H4 ⟨g4, hne⟩
          walk_at "rds"
          refine ⟨bg, c, D, _, rfl, g4.bag, g4.at_ hD bD, bD, by rw [List.length_map]; exact List.length_pos_iff.mpr hne, by rw [List.length_map]; omega, fun w H5 g5 hw => ?_⟩
          obtain ⟨pl, hpl, hw'⟩ := List.mem_map.mp hw
          obtain rfl : w = .int (pl : Int) := hw'.symm
          obtain ⟨pl1, pl2⟩ := bb pl hpl
          have g45 := g4.trans g5
          have h45 := g45.tup h43
          walk_at "rds"
          refine rd_slT h45 (cutV_to _ pl) fun p6 H6 s6 h6 => ?_
          walk_at "rds"
          refine rd_ixI (TD.ints (s6 _ _ h45)) pl1 ?_
          walk_at "rds"
          refine ⟨sz_ok (by simp), fun p7 np7 => ?_⟩
          generalize eH7 : upd _ p7 _ = H7
          obtain ⟨s7, h7⟩ := new_of eH7 np7
          refine rd_catT (s7 _ _ h6) h7 (by simp; omega) fun p8 H8 s8 h8 => ?_
          walk_at "rds"
          have s58 := s6.trans (s7.trans s8)
          refine rd_slT (s58 _ _ h45) (cutV_from _ (pl + 1)) fun p9 H9 s9 h9 => ?_
          refine rd_catT (s9 _ _ h8) h9 (by simp; omega) fun p10 H10 s10 h10 => ?_
          walk_at "rds"
          have b0 := b4 _ (List.getElem_mem pl1)
          exact hnx _ _ ⟨_, _, a3, p10, amt, _, rfl, g45.same (s58.trans (s9.trans s10)), TD.ints ((s58.trans (s9.trans s10)) _ _ (g45.tup h33)), ints_set pl1 h10 (Le.refl _), l3, by rw [List.length_set]; exact l4, b3, set_bd b4 (by omega) (by omega)⟩
        · rintro H4 g4
          have h34 := g4.tup h33
          walk_at "rds"
          refine rd_lenT h34 ?_
          rw [List.length_map]
          walk_at "rds"
          refine ⟨bg, c, _, rfl, g4.bag, by omega, by omega, fun r5 H5 g5 d0 d1 => ?_⟩
          obtain ⟨pl, hpl⟩ : ∃ pl : Nat, r5 = (pl : Int) := ⟨r5.toNat, by omega⟩
          subst hpl
          have pl1 : pl < amt.length := by omega
          have g45 := g4.trans g5
          have h35 := g45.tup h33
          walk_at "rds"
          refine rd_slT h35 (cutV_to _ pl) fun p6 H6 s6 h6 => ?_
          walk_at "rds"
          refine rd_ixI (TD.ints (s6 _ _ h35)) pl1 ?_
          walk_at "rds"
          refine ⟨_, _, rfl, ?_⟩
          walk_at "rds"
          have b0 := b3 _ (List.getElem_mem pl1)
          have bx : ∃ x : Int, (if amt[pl] + 1 < 9 then amt[pl] + 1 else 9) = x ∧ -1000 ≤ x ∧ x ≤ 1000 := ⟨_, rfl, by split <;> omega, by split <;> omega⟩
          obtain ⟨x, ex, x0, x1⟩ := bx
          rw [ex]
          refine ⟨sz_ok (by simp), fun p7 np7 => ?_⟩
          generalize eH7 : upd _ p7 _ = H7
          obtain ⟨s7, h7⟩ := new_of eH7 np7
          refine rd_catT (s7 _ _ h6) h7 (by simp; omega) fun p8 H8 s8 h8 => ?_
          walk_at "rds"
          have s58 := s6.trans (s7.trans s8)
          refine rd_slT (s58 _ _ h35) (cutV_from _ (pl + 1)) fun p9 H9 s9 h9 => ?_
          refine rd_catT (s9 _ _ h8) h9 (by simp; omega) fun p10 H10 s10 h10 => ?_
          walk_at "rds"
          exact hnx _ _ ⟨_, _, p10, a4, _, crew, rfl, g45.same (s58.trans (s9.trans s10)), ints_set pl1 h10 (Le.refl _), TD.ints ((s58.trans (s9.trans s10)) _ _ (g45.tup h43)), by rw [List.length_set]; exact l3, l4, set_bd b3 x0 x1, b4⟩
        · walk_at "rds"
          refine ⟨sz_ok (by simp), fun e2 ne2 => ?_⟩
          generalize eH4 : upd _ e2 _ = H4
          obtain ⟨s4, h4e⟩ := new_of eH4 ne2
          have g4 := g3b.same s4
          refine rd_neNilN (s4 _ _ hD) h4e ?_
          walk_at "rds"
          refine ite3 (fun hc => ?_) (fun hc => ?_)
          · have hne := ne_of_isEmpty hc
            walk_at "rds"
            refine ⟨bg, c, _, rfl, g4.bag, by omega, by omega, fun r5 H5 g5 d0 d1 => ?_⟩
            walk_at "rds"
            refine ite3 (fun hc => ?_) (fun hc => ?_)
            · exact hT _ ⟨g4.trans g5, hne⟩
            · exact hF _ (g4.trans g5)
          · exact iteF (hF _ g4)
def sp_l_sender (K : PySem.W.Frag) : Sp := fun vs H Q _ => ∃ (bg c a k h r : Addr) (W : Works) (m : Int), vs = [.ref bg, .ref a, .int m, .int 4] ∧ Bag H bg c ∧ WkAt H a k h r W ∧ 1 ≤ m ∧ m ≤ 6 ∧
  ∀ v H' (S : Snd), Gn bg c H H' → SndAt H' v S W.kinds.length W.hands.length → Q v H'
/-! ### _law_sender -/
/- 0 bag_here, 1 works_here, 2 places, 3 more, 4 way, 5 found -/
theorem sc_l_sender : FnScope ["_law_bag_here", "_law_works_here", "_law_places", "_law_more", "_law_way", "_law_found"] ["_law_bag_here", "_law_works_here", "_law_places", "_law_more"] (defScope (topS 53)) := ⟨rfl, rfl, rfl, by decide +kernel, rfl, by decide +kernel, by decide +kernel⟩
theorem cl_l_sender (T : Top K mg) : Cl P w K mg base 5 "_law_sender" (sp_l_sender K) := by
  refine cl_of (k := 4) (N := ["_law_bag_here", "_law_works_here", "_law_places", "_law_more", "_law_way", "_law_found"]) (ps := ["_law_bag_here", "_law_works_here", "_law_places", "_law_more"]) (T.def_ 43 rfl) sc_l_sender (fun vs H Q E h => ?_) (fun _ _ _ _ _ _ us hl => match us, hl with | [_, _, _, _], _ => rfl) (fun f cdv A outer s H vs Q E hr h => ?_)
  · obtain ⟨bg, c, a, k, h, r, W, m, rfl, hB, hW, hm, hm2, q⟩ := h
    rfl
  · obtain ⟨bg, c, a, k, h, r, W, m, rfl, hB, hW, hm, hm2, q⟩ := h
    have hu := hu_of hr
    have hu65 := hu65_of hr
    have hu64 := hr.units
    refine ⟨_, (pss_cons (ps_set (i := 4) sc_l_sender.nd rfl (.inl rfl) (pe_cl (k := 1) (j := 4) (cl_l_take T) hr (by decide) (by rfl) (pa_cons (pv 0) (pa_cons pe_int pa_nil))))
  (pss_cons (ps_if (pt_cmpR op_eq (pv 4) pe_int (nomark _)) (pss_one (ps_ret (pe_cl (k := 4) (j := 4) (cl_l_any_sender T) hr (by decide) (by rfl) (pa_cons (pv 0) (pa_cons (pv 1) (pa_cons (pv 2) (pa_cons (pv 3) pa_nil))))))) pss_nil)
  (pss_cons (ps_set (i := 5) sc_l_sender.nd rfl (.inl rfl) (pe_cl (k := 4) (j := 4) (cl_l_held_sender T) hr (by decide) (by rfl) (pa_cons (pv 0) (pa_cons (pv 1) (pa_cons (pv 2) (pa_cons (pv 3) pa_nil))))))
  (pss_one (ps_ret (pe_ifExp (pt_cmpR op_eq (pv 4) pe_int (nomark _)) (pe_cl (k := 3) (j := 4) (cl_l_bent_sender T) hr (by decide) (by rfl) (pa_cons (pv 0) (pa_cons (pv 1) (pa_cons (pv 5) pa_nil)))) (pv 5))))))), ?_⟩
    have k1 := hW.ok.k1
    walk_at "rds"
    refine ⟨bg, c, _, rfl, hB, by omega, by omega, fun r1 H1 g1 a0 a1 => ?_⟩
    walk_at "rds"
    refine ite3 (fun hc => ?_) (fun hc => ?_)
    · walk_at "rds"
      exact ⟨bg, c, a, k, h, r, W, m, rfl, g1.bag, hW.gn g1, hm, hm2, fun p H2 S g2 hS => q (.ref p) H2 S (g1.trans g2) hS⟩
    · walk_at "rds"
      refine ⟨bg, c, a, k, h, r, W, m, rfl, g1.bag, hW.gn g1, hm, hm2, fun p H2 S g2 hS => ?_⟩
      walk_at "rds"
      refine ite3 (fun hc => ?_) (fun hc => ?_)
      · walk_at "rds"
        exact ⟨bg, c, _, _, S, _, _, rfl, g2.bag, hS, k1, fun v H3 S' g3 hS' => q v H3 S' ((g1.trans g2).trans g3) hS'⟩
      · walk_at "rds"
        exact q _ H2 S (g1.trans g2) hS
end
section
variable {P : Program} {w : World} {K : PySem.W.Frag} {mg : Str → Option Value} {base : Heap}
theorem rd_asgR {σ : L2.St} {H : Hp} {nx bk ct : L2.St → Hp → Prop} {rt : VK} {te : TE} {g : TG} (R : V → Hp → Prop) (hR : ∀ w H1, R w H1 → g w σ H1 nx) (h : ∀ Q : VK, (∀ w H1, R w H1 → Q w H1) → te σ H Q) : tAsg te g ⟨nx, rt, bk, ct⟩ σ H := h _ hR
def sp_l_arrows_from (K : PySem.W.Frag) : Sp := fun vs H Q _ => ∃ (v : V) (S : Snd) (nk nh p : Nat), vs = [v, .int (p : Int)] ∧ AtS H v S nk nh ∧ ∀ q H', Same H H' → H q = none → H' q = some (.lst ((S.outs p).map nI)) → Q (.ref q) H'
/-! ### _law_arrows_from -/
/- 0 sender_here*, 1 place*, 2 index' -/
theorem sc_l_arrows_from : FnScope ["_law_sender_here", "_law_place", "_law_index"] ["_law_sender_here", "_law_place"] (defScope (topS 54)) := ⟨rfl, rfl, rfl, by decide +kernel, rfl, by decide +kernel, by decide +kernel⟩
theorem cl_l_arrows_from (T : Top K mg) : Cl P w K mg base 1 "_law_arrows_from" (sp_l_arrows_from K) := by
  refine cl_of (k := 0) (N := ["_law_sender_here", "_law_place", "_law_index"]) (ps := ["_law_sender_here", "_law_place"]) (T.def_ 44 rfl) sc_l_arrows_from (fun vs H Q E h => ?_) (fun _ _ _ _ _ _ us hl => match us, hl with | [_, _], _ => rfl) (fun f cdv A outer s H vs Q E hr h => ?_)
  · obtain ⟨v, S, nk, nh, p, rfl, hS, q⟩ := h
    rfl
  · obtain ⟨v, S, nk, nh, p, rfl, hS, q⟩ := h
    have hu := hu_of hr
    have hu65 := hu65_of hr
    have hu64 := hr.units
    refine ⟨_, (pss_one (ps_ret (pe_lc (own := [("_law_index", 2)]) (g := gName 2) rfl sc_l_arrows_from.nd  (pi_range1 (by rfl) (T.b 1 rfl) (pa_cons (pe_callB (call_lenK K) (by rfl) (T.b 0 rfl) PySem.boot_len (pa_cons (pe_ix (ix_tupK K) (pv 0) pe_int (fun _ _ => rfl)) pa_nil)) pa_nil)) (blkOk_by (N := ["_law_sender_here", "_law_place", "_law_index"]) (sc := defScope (topS 54)) (by decide +kernel)) (fun _ _ _ _ _ => (pg_name (i := 2) sc_l_arrows_from.nd rfl (.inl rfl))) (fun _ _ _ _ _ => (pts_one (pt_cmpR op_eq (pe_ix (ix_tupK K) (pe_ix (ix_tupK K) (pe_ix (ix_tupK K) (pv 0) pe_int (fun _ _ => rfl)) (pv 2) (fun _ _ => rfl)) pe_int (fun _ _ => rfl)) (pv 1) (nomark _)))) (fun _ _ _ _ _ => (pv 2))))), ?_⟩
    have om := hS.ok.many
    walk_at "rds"
    refine rd_ixT (j := 1) hS.td rfl rfl fun w1 h1 => ?_
    walk_at "rds"
    refine rd_lenD h1 ?_
    rw [List.length_map]
    refine ⟨_, rfl, by omega, by omega, fun D nD => ?_⟩
    refine lcw walk_range0 (fun i acc H1 => Same H H1 ∧ acc = (S.outsN i p).map nI) ⟨Same.mut (Same.refl H) nD, rfl⟩ (fun _ _ _ _ => trivial)
      (fun i x acc H1 H2 hi hl hD pv y => ?_) (fun acc H1 hD hl pv => ?_)
    · obtain ⟨s1, rfl⟩ := pv
      obtain ⟨rfl, rfl⟩ := y
      have il : i < S.arrows.length := by omega
      have hS1 := hS.le (Same.le s1)
      walk_at "rds"
      refine ⟨rfl, ?_⟩
      walk_at "rds"
      refine rd_ixT (j := 1) hS1.td rfl rfl fun w1 h1 => ?_
      walk_at "rds"
      refine rd_ixT h1 rfl (Snd.dat il) fun w2 h2 => ?_
      walk_at "rds"
      refine rd_ixT (j := 0) h2 rfl rfl fun w3 h3 => ?_
      obtain rfl := h3.int_eq
      walk_at "rds"
      refine ite3 (fun hc => ?_) (fun hc => ?_)
      · have e : S.src i = p := by
          have := of_decide_eq_true hc
          omega
        walk_at "rds"
        refine lcn hD hl (by omega) ⟨Same.mut s1 nD, ?_⟩
        rw [Snd.outsN_succ, if_pos e, List.map_append]
        rfl
      · have e : ¬ S.src i = p := by
          have := of_decide_eq_false hc
          omega
        refine lcs hD hl ⟨s1, ?_⟩
        rw [Snd.outsN_succ, if_neg e, List.append_nil]
    · obtain ⟨s1, rfl⟩ := pv
      exact q D H1 s1 nD (by rw [hD]; have e : ((S.arrows.length : Nat) : Int).toNat = S.arrows.length := by omega
                             rw [e]; rfl)
def sp_l_come_to (K : PySem.W.Frag) : Sp := fun vs H Q _ => ∃ (v : V) (S : Snd) (nk nh : Nat), vs = [v] ∧ AtS H v S nk nh ∧
  ∀ p H' (ns : List Nat), Same H H' → H p = none → H' p = some (.lst (ns.map nI)) → ns.Pairwise (· < ·) → (∀ x, x ∈ ns ↔ S.Reach x) → Q (.ref p) H'
/-! ### _law_come_to -/
/- 0 sender_here, 1 found, 2 todo, 3 index -/
theorem sc_l_come_to : FnScope ["_law_sender_here", "_law_found", "_law_todo", "_law_index"] ["_law_sender_here"] (defScope (topS 55)) := ⟨rfl, rfl, rfl, by decide +kernel, rfl, by decide +kernel, by decide +kernel⟩
theorem cl_l_come_to (T : Top K mg) : Cl P w K mg base 2 "_law_come_to" (sp_l_come_to K) := by
  refine cl_of (k := 1) (N := ["_law_sender_here", "_law_found", "_law_todo", "_law_index"]) (ps := ["_law_sender_here"]) (T.def_ 45 rfl) sc_l_come_to (fun vs H Q E h => ?_) (fun _ _ _ _ _ _ us hl => match us, hl with | [_], _ => rfl) (fun f cdv A outer s H vs Q E hr h => ?_)
  · obtain ⟨v, S, nk, nh, rfl, hS, q⟩ := h
    rfl
  · obtain ⟨v, S, nk, nh, rfl, hS, q⟩ := h
    have hu := hu_of hr
    have hu65 := hu65_of hr
    have hu64 := hr.units
    refine ⟨_, (pss_cons (ps_par (i := 1) (j := 2) rfl sc_l_come_to.nd rfl rfl (by decide) rfl rfl (pa_cons (pe_lst (pa_cons pe_int pa_nil)) (pa_cons (pe_lst (pa_cons pe_int pa_nil)) pa_nil)) (by rfl))
  (pss_cons (ps_while PassesOwn.never (pt_cmpR (op_neDK K hr.units) (pv 2) (pe_lst pa_nil) (nomark _)) (pss_one (ps_for PassesOwn.never rfl (pi_list (pe_cl (k := 1) (j := 1) (cl_l_arrows_from T) hr (by decide) (by rfl) (pa_cons (pv 0) (pa_cons (pe_bm0 PySem.F.plainAttrs_list PySem.F.slot_list_pop PySem.F.type_list_pop mt_pop (pv 2)) pa_nil)))) (pg_name (i := 3) sc_l_come_to.nd rfl (.inl rfl))
  (pss_one (ps_if (pt_cmpR (op_notInK K) (pe_ix (ix_tupK K) (pe_ix (ix_tupK K) (pe_ix (ix_tupK K) (pv 0) pe_int (fun _ _ => rfl)) (pv 3) (fun _ _ => rfl)) pe_int (fun _ _ => rfl)) (pv 1) (by rfl)) (pss_cons (ps_expr (pe_bm PySem.F.plainAttrs_list PySem.F.slot_list_append PySem.F.type_list_append mt_append (pv 1) (pa_cons (pe_ix (ix_tupK K) (pe_ix (ix_tupK K) (pe_ix (ix_tupK K) (pv 0) pe_int (fun _ _ => rfl)) (pv 3) (fun _ _ => rfl)) pe_int (fun _ _ => rfl)) pa_nil)))
  (pss_one (ps_expr (pe_bm PySem.F.plainAttrs_list PySem.F.slot_list_append PySem.F.type_list_append mt_append (pv 2) (pa_cons (pe_ix (ix_tupK K) (pe_ix (ix_tupK K) (pe_ix (ix_tupK K) (pv 0) pe_int (fun _ _ => rfl)) (pv 3) (fun _ _ => rfl)) pe_int (fun _ _ => rfl)) pa_nil))))) pss_nil)))))
  (pss_one (ps_ret (pe_callB (cr_sortedIK K) (by rfl) (T.b 6 rfl) (by decide +kernel) (pa_cons (pv 1) pa_nil)))))), ?_⟩
    have o1 := hS.ok.few
    have o2 := hS.ok.many
    walk_at "rds"
    refine ⟨sz_ok (by simp), fun F nF => ?_⟩
    generalize eH : upd _ F _ = H2
    obtain ⟨s2, hF⟩ := new_of eH nF
    walk_at "rds"
    refine ⟨sz_ok (by simp), fun D nD => ?_⟩
    generalize eH2 : upd _ D _ = H3
    obtain ⟨s3, hD⟩ := new_of eH2 nD
    have neFD : F ≠ D := fun e => by rw [← e, hF] at nD; cases nD
    walk_at "rds"
    refine rd_while (fun m σ H4 => ∃ fs ts y4, σ = [some v, some (.ref F), some (.ref D), y4] ∧ CtI H H4 F D S fs ts ∧ CT S fs ts ∧ 2 * (S.n - fs.length) + ts.length = m ∧ m ≤ 100)
      ⟨_, [0], [0], none, rfl, ⟨s2.trans s3, s3 _ _ hF, hD, nF, s2.free nD, neFD⟩, CT.init S, rfl, by simp; omega⟩ ?_
    rintro m σ H4 ⟨fs, ts, y4, rfl, cI, cT, hm, hm1⟩
    walk_at "rds"
    refine ⟨sz_ok (by simp), fun e ne => ?_⟩
    generalize eH5 : upd _ e _ = H5
    obtain ⟨s5, h5⟩ := new_of eH5 ne
    have cI := cI.same s5
    refine rd_neNilN cI.d h5 ?_
    walk_at "rds"
    refine ite3 (fun hb => ?_) (fun hb => ?_)
    · obtain ⟨ts', p, rfl⟩ := last_of (ne_of_isEmpty hb)
      have pf : p ∈ fs := cT.sub p (by simp)
      walk_at "rds"
      refine ⟨tyL cI.d, ?_⟩
      refine rd_pop (xs := ts'.map nI) (y := .int (p : Int)) (by rw [cI.d, List.map_append]; rfl) fun H5 b5 e5 => ?_
      have cI5 : CtI H H5 F D S fs ts' := ⟨Same.but cI.s b5 cI.nd, b5 _ _ cI.ne cI.f, e5, cI.nf, cI.nd, cI.ne⟩
      walk_at "rds"
      refine ⟨v, S, nk, nh, p, rfl, hS.le (Same.le cI5.s), fun O H6 s6 nO hO => ?_⟩
      have cI6 := cI5.same s6
      refine ⟨_, rfl, ⟨_, SqL.of hO⟩, ?_⟩
      have nOF : O ≠ F := fun e => by rw [e, cI5.f] at nO; cases nO
      have nOD : O ≠ D := fun e => by rw [e, cI5.d] at nO; cases nO
      refine forw (walk_list (xs := (S.outs p).map nI)) (fun j σ H7 => ∃ fs' ts'' y4, σ = [some v, some (.ref F), some (.ref D), y4] ∧ CtI H H7 F D S fs' ts'' ∧ H7 O = some (.lst ((S.outs p).map nI)) ∧ CTp S fs' ts'' p ((S.outs p).take j) ∧ 2 * (S.n - fs'.length) + ts''.length + 1 ≤ m)
        ⟨fs, ts', y4, rfl, cI6, hO, cT.pop, by rw [← hm]; simp; omega⟩ (fun j σ H7 _ pv => ?_) (fun j x σ H7 H8 hj pv y => ?_) (fun σ H7 pv => ?_)
      · obtain ⟨_, _, _, _, _, h7, _⟩ := pv
        exact SqL.of h7
      · obtain ⟨fs', ts'', z4, rfl, c6, hO6, cp, hm6⟩ := pv
        obtain ⟨rfl, f1⟩ := y
        obtain ⟨jl, rfl⟩ := nI_at f1
        obtain ⟨il, is⟩ := Snd.mem_outs.mp (List.getElem_mem jl)
        have tk : (S.outs p).take (j + 1) = (S.outs p).take j ++ [(S.outs p)[j]] := by rw [List.take_add_one, List.getElem?_eq_getElem jl]; rfl
        rw [tk]
        generalize (S.outs p)[j] = i at il is
        have hS6 := hS.le (Same.le c6.s)
        walk_at "rds"
        refine rd_ixT (j := 1) hS6.td rfl rfl fun w1 h1 => ?_
        walk_at "rds"
        refine rd_ixT h1 rfl (Snd.dat il) fun w2 h2 => ?_
        walk_at "rds"
        refine rd_ixT (j := 1) h2 rfl rfl fun w3 h3 => ?_
        obtain rfl := h3.int_eq
        walk_at "rds"
        refine rd_notInL c6.f ?_
        walk_at "rds"
        refine ite3 (fun hc => ?_) (fun hc => ?_)
        · have hn : S.tgt i ∉ fs' := by simpa using hc
          have cn := cp.new il is hn
          have few := cn.few hS.ok
          rw [List.length_append] at few
          simp at few
          walk_at "rds"
          refine ⟨tyL c6.f, ?_⟩
          walk_at "rds"
          refine rd_ixT (j := 1) hS6.td rfl rfl fun w1 h1 => ?_
          walk_at "rds"
          refine rd_ixT h1 rfl (Snd.dat il) fun w2 h2 => ?_
          walk_at "rds"
          refine rd_ixT (j := 1) h2 rfl rfl fun w3 h3 => ?_
          obtain rfl := h3.int_eq
          walk_at "rds"
          refine rd_append c6.f (by rw [List.length_map]; omega) fun H8 b8 e8 => ?_
          walk_at "rds"
          have d8 := b8 _ _ c6.ne.symm c6.d
          have hS8 := hS6.le (b8.le c6.f)
          refine ⟨tyL d8, ?_⟩
          walk_at "rds"
          refine rd_ixT (j := 1) hS8.td rfl rfl fun w1 h1 => ?_
          walk_at "rds"
          refine rd_ixT h1 rfl (Snd.dat il) fun w2 h2 => ?_
          walk_at "rds"
          refine rd_ixT (j := 1) h2 rfl rfl fun w3 h3 => ?_
          obtain rfl := h3.int_eq
          walk_at "rds"
          have tl : ts''.length ≤ 1000 := by omega
          refine rd_append d8 (by rw [List.length_map]; omega) fun H9 b9 e9 => ?_
          refine ⟨fs' ++ [S.tgt i], ts'' ++ [S.tgt i], _, rfl, ⟨Same.but (Same.but c6.s b8 c6.nf) b9 c6.nd, ?_, ?_, c6.nf, c6.nd, c6.ne⟩, b9 _ _ nOD (b8 _ _ nOF hO6), cn, by simp; omega⟩
          · rw [b9 _ _ c6.ne e8, List.map_append]
            rfl
          · rw [e9, List.map_append]
            rfl
        · have hn : S.tgt i ∈ fs' := by simpa using hc
          walk_at "rds"
          exact ⟨fs', ts'', _, rfl, c6, hO6, cp.old hn, hm6⟩
      · obtain ⟨fs', ts'', z4, rfl, c6, hO6, cp, hm6⟩ := pv
        rw [List.length_map, List.take_length] at cp
        exact ⟨_, by omega, fs', ts'', z4, rfl, c6, cp.fin, rfl, by omega⟩
    · have e : ts = [] := by
        cases ts with
        | nil => rfl
        | cons a r => cases hb
      subst e
      walk_at "rds"
      refine ⟨F, fs.map fun (i : Nat) => (i : Int), rfl, SqL.of (by rw [cI.f, List.map_map]; rfl), fun ns' p pm pw np => ?_⟩
      obtain ⟨gs, pg, rfl⟩ := perm_nats pm
      have asc := asc_of_nats pw (pg.nodup_iff.mpr cT.nd)
      generalize eH6 : upd _ p _ = H6
      obtain ⟨s6, h6⟩ := new_of eH6 np
      refine q p H6 gs (cI.s.trans s6) (cI.s.free np) (by rw [h6, List.map_map]; rfl) asc fun x => ?_
      rw [pg.mem_iff]
      exact cT.all x
def sp_l_end_of (K : PySem.W.Frag) : Sp := fun vs H Q _ => ∃ (v : V) (S : Snd) (nk nh : Nat) (a : Addr) (run : List Nat) (e : Nat), vs = [v, .ref a] ∧ AtS H v S nk nh ∧ H a = some (.tup (run.map nI)) ∧ S.Chain 0 run e ∧ ∀ H', Same H H' → Q (.int (e : Int)) H'
/-! ### _law_end_of -/
/- 0 sender_here, 1 run_here -/
theorem sc_l_end_of : FnScope ["_law_sender_here", "_law_run_here"] ["_law_sender_here", "_law_run_here"] (defScope (topS 57)) := ⟨rfl, rfl, rfl, by decide +kernel, rfl, by decide +kernel, by decide +kernel⟩
theorem cl_l_end_of (T : Top K mg) : Cl P w K mg base 1 "_law_end_of" (sp_l_end_of K) := by
  refine cl_of (k := 0) (N := ["_law_sender_here", "_law_run_here"]) (ps := ["_law_sender_here", "_law_run_here"]) (T.def_ 47 rfl) sc_l_end_of (fun vs H Q E h => ?_) (fun _ _ _ _ _ _ us hl => match us, hl with | [_, _], _ => rfl) (fun f cdv A outer s H vs Q E hr h => ?_)
  · obtain ⟨v, S, nk, nh, a, run, e, rfl, hS, hR, hC, q⟩ := h
    rfl
  · obtain ⟨v, S, nk, nh, a, run, e, rfl, hS, hR, hC, q⟩ := h
    have hu := hu_of hr
    have hu65 := hu65_of hr
    have hu64 := hr.units
    refine ⟨_, (pss_one (ps_ret (pe_ifExp (pt_cmpR (op_neDK K hr.units) (pv 1) (pe_tup pa_nil) (nomark _)) (pe_ix (ix_tupK K) (pe_ix (ix_tupK K) (pe_ix (ix_tupK K) (pv 0) pe_int (fun _ _ => rfl)) (pe_ix (ix_tupK K) (pv 1) (pe_un un_neg pe_int) (fun _ _ => rfl)) (fun _ _ => rfl)) pe_int (fun _ _ => rfl)) pe_int))), ?_⟩
    walk_at "rds"
    refine ⟨sz_ok (by simp), fun z nz => ?_⟩
    generalize eH1 : upd _ z _ = H1
    obtain ⟨s1, h1⟩ := new_of eH1 nz
    have hR1 := s1 _ _ hR
    refine rd_neNilT (TD.nats (ns := run) hR1) h1 (fun d hd => ?_) (fun d hd => ?_) ?_
    · obtain ⟨x, _, rfl⟩ := List.mem_map.mp hd
      rfl
    · obtain ⟨x, _, rfl⟩ := List.mem_map.mp hd
      exact Nat.zero_le _
    walk_at "rds"
    refine ite3 (fun hc => ?_) (fun hc => ?_)
    · have hne : run ≠ [] := fun z => by rw [z] at hc; cases hc
      obtain ⟨rs, i, rfl⟩ := last_of hne
      obtain ⟨u, _, c1, c2, c3⟩ := hC.split
      have c3 : S.tgt i = e := c3
      have hS1 := hS.le (Same.le s1)
      walk_at "rds"
      refine rd_ixT (j := 1) hS1.td rfl rfl fun w1 h1 => ?_
      walk_at "rds"
      have hR2 : H1 a = some (.tup (rs.map nI ++ [.int (i : Int)])) := by rw [hR1, List.map_append]; rfl
      refine rd_ixT1 hR2 ?_
      refine rd_ixT h1 rfl (Snd.dat c1) fun w2 h2 => ?_
      walk_at "rds"
      refine rd_ixT (j := 1) h2 rfl rfl fun w3 h3 => ?_
      obtain rfl := h3.int_eq
      rw [c3]
      exact q H1 s1
    · have hr : run = [] := by
        cases run with
        | nil => rfl
        | cons a r => cases hc
      subst hr
      have e0 : 0 = e := hC
      subst e0
      walk_at "rds"
      exact q H1 s1
def sp_l_run (K : PySem.W.Frag) : Sp := fun vs H Q _ => ∃ (bg c : Addr) (v : V) (S : Snd) (nk nh m : Nat), vs = [.ref bg, v, .int (m : Int)] ∧ Bag H bg c ∧ AtS H v S nk nh ∧ m ≤ 1000 ∧
  ∀ p H' (run : List Nat), Gn bg c H H' → H' p = some (.tup (run.map nI)) → S.IsRun run → run.length ≤ m → Q (.ref p) H'
/-! ### _law_run -/
/- 0 bag_here, 1 sender_here, 2 many, 3 place, 4 found, 5 last, 6 change, 7 turn, 8 some, 9 index -/
theorem sc_l_run : FnScope ["_law_bag_here", "_law_sender_here", "_law_many", "_law_place", "_law_found", "_law_last", "_law_change", "_law_turn", "_law_some", "_law_index"] ["_law_bag_here", "_law_sender_here", "_law_many"] (defScope (topS 56)) := ⟨rfl, rfl, rfl, by decide +kernel, rfl, by decide +kernel, by decide +kernel⟩
theorem cl_l_run (T : Top K mg) : Cl P w K mg base 3 "_law_run" (sp_l_run K) := by
  refine cl_of (k := 2) (N := ["_law_bag_here", "_law_sender_here", "_law_many", "_law_place", "_law_found", "_law_last", "_law_change", "_law_turn", "_law_some", "_law_index"]) (ps := ["_law_bag_here", "_law_sender_here", "_law_many"]) (T.def_ 46 rfl) sc_l_run (fun vs H Q E h => ?_) (fun _ _ _ _ _ _ us hl => match us, hl with | [_, _, _], _ => rfl) (fun f cdv A outer s H vs Q E hr h => ?_)
  · obtain ⟨bg, c, v, S, nk, nh, m, rfl, hB, hS, hm, q⟩ := h
    rfl
  · obtain ⟨bg, c, v, S, nk, nh, m, rfl, hB, hS, hm, q⟩ := h
    have hu := hu_of hr
    have hu65 := hu65_of hr
    have hu64 := hr.units
    refine ⟨_, (pss_cons (ps_par3 (i := 3) (j := 4) (l := 5) rfl sc_l_run.nd rfl rfl rfl (by decide) (by decide) (by decide) rfl rfl rfl (pa_cons pe_int (pa_cons (pe_lst pa_nil) (pa_cons pe_dnewK pa_nil))) (by rfl))
  (pss_cons (ps_set (i := 6) sc_l_run.nd rfl (.inl rfl) (pe_cl (k := 2) (j := 2) (cl_l_one T) hr (by decide) (by rfl) (pa_cons (pv 0) (pa_cons (pe_lst (pa_cons pe_int (pa_cons pe_int (pa_cons pe_int (pa_cons pe_int pa_nil))))) pa_nil))))
  (pss_cons (ps_for PassesOwn.never rfl (pi_range1 (by rfl) (T.b 1 rfl) (pa_cons (pv 2) pa_nil)) (pg_name (i := 7) sc_l_run.nd rfl (.inl rfl))
  (pss_cons (ps_set (i := 8) sc_l_run.nd rfl (.inl rfl) (pe_cl (k := 1) (j := 2) (cl_l_arrows_from T) hr (by decide) (by rfl) (pa_cons (pv 1) (pa_cons (pv 3) pa_nil))))
  (pss_one (ps_if (pt_cmpR (op_neDK K hr.units) (pv 8) (pe_lst pa_nil) (nomark _)) (pss_cons (ps_set (i := 9) sc_l_run.nd rfl (.inl rfl) (pe_ifExp (PW.pt (pw_or (pt_cmp (pc_dnotin hu (pv 3) (pv 5)) (by rfl)) (pw_or1 (pt_cmpR op_eq (pe_cl (k := 1) (j := 2) (cl_l_take T) hr (by decide) (by rfl) (pa_cons (pv 0) (pa_cons (pv 6) pa_nil))) pe_int (nomark _))))) (pe_cl (k := 2) (j := 2) (cl_l_one T) hr (by decide) (by rfl) (pa_cons (pv 0) (pa_cons (pv 8) pa_nil))) (pe_dget hu (pv 5) (pv 3) (fun _ _ => rfl))))
  (pss_cons (ps_dput hu (pv 5) (pv 3) (pv 9) rfl)
  (pss_cons (ps_expr (pe_bm PySem.F.plainAttrs_list PySem.F.slot_list_append PySem.F.type_list_append mt_append (pv 4) (pa_cons (pv 9) pa_nil)))
  (pss_one (ps_set (i := 3) sc_l_run.nd rfl (.inl rfl) (pe_ix (ix_tupK K) (pe_ix (ix_tupK K) (pe_ix (ix_tupK K) (pv 1) pe_int (fun _ _ => rfl)) (pv 9) (fun _ _ => rfl)) pe_int (fun _ _ => rfl))))))) pss_nil))))
  (pss_one (ps_ret (pe_callTy (call_tupleK K) (by rfl) (T.b 7 rfl) (by decide +kernel) (pa_cons (pv 4) pa_nil))))))), ?_⟩
    have om := hS.ok.many
    walk_at "rds"
    refine ⟨sz_ok (by simp), fun F nF => ?_⟩
    generalize eH1 : upd _ F _ = H1
    obtain ⟨s1, hF⟩ := new_of eH1 nF
    walk_at "rds"
    intro D nD
    generalize eH2 : upd _ D _ = H2
    obtain ⟨s2, hD⟩ := new_of eH2 nD
    have fD := s1.free nD
    have neFD : F ≠ D := fun e => by rw [← e, hF] at nD; cases nD
    have bF := hB.k1 nF
    have bD := hB.k1 fD
    walk_at "rds"
    refine ⟨sz_ok (by simp), fun M nM => ?_⟩
    generalize eH3 : upd _ M _ = H3
    obtain ⟨s3, hM⟩ := new_of eH3 nM
    have s13 := s1.trans (s2.trans s3)
    have fM := (s1.trans s2).free nM
    walk_at "rds"
    refine ⟨bg, c, M, _, rfl, hB.same s13, hM, hB.k1 fM, by simp, by simp, fun w H4 g4 hw => ?_⟩
    obtain ⟨ch, rfl, ch0, ch1⟩ : ∃ x : Int, w = .int x ∧ 0 < x ∧ x ≤ 30 := by
      simp only [List.mem_cons, List.not_mem_nil, or_false] at hw
      rcases hw with e | e | e | e <;> exact ⟨_, e, by omega, by omega⟩
    walk_at "rds"
    have g14 := (Gn.of hB s13).trans g4
    refine ⟨_, rfl, by omega, by omega, ?_⟩
    refine forw walk_range0 (fun j σ H5 => ∃ (p : Nat) (run : List Nat) (kvs : List (Key × V)) (y7 y8 y9 : Option V), σ = [some (.ref bg), some v, some (.int (m : Int)), some (.int (p : Int)), some (.ref F), some (.ref D), some (.int ch), y7, y8, y9] ∧ Gn bg c H H5 ∧ H5 F = some (.lst (run.map nI)) ∧ H5 D = some (.dK kvs) ∧
        S.Chain 0 run p ∧ run.length ≤ j ∧ kvs.length ≤ j ∧ ∀ key x, valV kvs key = some x → ∃ (p i : Nat), key = .inl (p : Int) ∧ x = .int (i : Int) ∧ i < S.arrows.length ∧ S.src i = p)
      ⟨0, [], [], none, none, none, rfl, g14, g4.at_ (s3 _ _ (s2 _ _ hF)) bF, g4.at_ (s3 _ _ hD) bD, rfl, Nat.le_refl _, Nat.le_refl _, fun key x h => by rw [valV_nil] at h; cases h⟩ (fun _ _ _ _ _ => trivial) (fun j x σ H5 H6 hj pv y => ?_) (fun σ H5 pv => ?_)
    · obtain ⟨p, run, kvs, y7, y8, y9, rfl, g5, hF5, hD5, hC, hl, hkl, hkv⟩ := pv
      obtain ⟨rfl, rfl⟩ := y
      have hS5 := hS.le g5.le
      walk_at "rds"
      refine ⟨v, S, nk, nh, p, rfl, hS5, fun O H7 s7 nO hO => ?_⟩
      have fO := g5.free nO
      have bO := hB.k1 fO
      walk_at "rds"
      refine ⟨sz_ok (by simp), fun z nz => ?_⟩
      generalize eH8 : upd _ z _ = H8
      obtain ⟨s8, h8⟩ := new_of eH8 nz
      have s78 := s7.trans s8
      have g8 := g5.same s78
      have hO8 := s8 _ _ hO
      have hF8 := s78 _ _ hF5
      have hD8 := s78 _ _ hD5
      refine rd_neNilN hO8 h8 ?_
      walk_at "rds"
      refine ite3 (fun hc => ?_) (fun hc => ?_)
      · have hne := ne_of_isEmpty hc
        refine rd_seq (rd_asgR (fun w H9 => ∃ i : Nat, w = .int (i : Int) ∧ i < S.arrows.length ∧ S.src i = p ∧ Gn bg c H8 H9) ?_ fun te' hte => ?_)
        · rintro w H9 ⟨i, rfl, il, is, g9⟩
          have hF9 := g9.at_ hF8 bF
          have hD9 := g9.at_ hD8 bD
          walk_at "rds"
          refine ⟨D, _, rfl, DPut.k (k := .inl (p : Int)) hD9 (sz_lt (by omega)), ?_⟩
          generalize eH10 : upd H9 D _ = H10
          have b10 : But D H9 H10 := by rw [← eH10]; exact But.self (But.refl _ _)
          have h10 : H10 D = some (.dK (putK kvs (.inl (p : Int)) (.int (i : Int)))) := by rw [← eH10]; exact upd_same
          have g10 := (g8.trans g9).mut b10 fD
          have hF10 := b10 _ _ neFD hF9
          walk_at "rds"
          refine ⟨tyL hF10, ?_⟩
          walk_at "rds"
          refine rd_append hF10 (by rw [List.length_map]; omega) fun H11 b11 h11 => ?_
          have g11 := g10.mut b11 nF
          have hS11 := hS.le g11.le
          walk_at "rds"
          refine rd_ixT (j := 1) hS11.td rfl rfl fun w1 h1 => ?_
          walk_at "rds"
          refine rd_ixT h1 rfl (Snd.dat il) fun w2 h2 => ?_
          walk_at "rds"
          refine rd_ixT (j := 1) h2 rfl rfl fun w3 h3 => ?_
          obtain rfl := h3.int_eq
          refine ⟨S.tgt i, run ++ [i], _, _, _, _, rfl, g11, by rw [h11, List.map_append]; rfl, b11 _ _ neFD.symm h10, hC.snoc il is, by simp; omega, ?_, fun key x hx => ?_⟩
          · have := length_putK kvs (.inl (p : Int)) (.int (i : Int))
            omega
          · rw [valV_put] at hx
            by_cases e : key = .inl (p : Int)
            · rw [if_pos e] at hx
              cases hx
              exact ⟨p, i, e, rfl, il, is⟩
            · rw [if_neg e] at hx
              exact hkv key x hx
        · have mem : ∀ w, w ∈ (S.outs p).map nI → ∃ i : Nat, w = .int (i : Int) ∧ i < S.arrows.length ∧ S.src i = p := fun w hw => by
            obtain ⟨i, hi, e⟩ := List.mem_map.mp hw
            obtain ⟨il, is⟩ := Snd.mem_outs.mp hi
            exact ⟨i, e.symm, il, is⟩
          have lO := S.outs_len p
          have one : ∀ H9, Gn bg c H8 H9 → ∃ (bg' c' l : Addr) (xs : List V), [V.ref bg, V.ref O] = [.ref bg', .ref l] ∧ Bag H9 bg' c' ∧ H9 l = some (.lst xs) ∧ l ≠ bg' ∧ 0 < xs.length ∧ xs.length < 1000000 ∧ ∀ (v : V) H', Gn bg' c' H9 H' → v ∈ xs → te' v H' := fun H9 g9 =>
            ⟨bg, c, O, _, rfl, g9.bag, g9.at_ hO8 bO, bO, by rw [List.length_map]; exact List.length_pos_iff.mpr hne, by rw [List.length_map]; omega, fun w H10 g10 hw => by
              obtain ⟨i, rfl, il, is⟩ := mem w hw
              exact hte _ _ ⟨i, rfl, il, is, g9.trans g10⟩⟩
          walk_at "rds"
          refine ⟨D, _, rfl, DGet.i (.inl hD8) _, ?_⟩
          walk_at "rds"
          refine ite3 (fun hc2 => ?_) (fun hc2 => ?_)
          · refine iteT ?_
            walk_at "rds"
            exact one _ (Gn.refl g8.bag)
          · obtain ⟨x, hx⟩ : ∃ x, valV kvs (.inl (p : Int)) = some x := Option.isSome_iff_exists.mp (by simpa using hc2)
            obtain ⟨p', i, e1, rfl, il, is⟩ := hkv _ _ hx
            have ep : p = p' := by
              have := Sum.inl.inj e1
              omega
            walk_at "rds"
            refine ⟨bg, c, _, rfl, g8.bag, by omega, by omega, fun r H9 g9 r0 r1 => ?_⟩
            walk_at "rds"
            refine ite3 (fun hc3 => ?_) (fun hc3 => ?_)
            · walk_at "rds"
              exact one _ g9
            · walk_at "rds"
              refine ⟨D, .int (i : Int), rfl, by rw [← hx]; exact DGet.i (.inl (g9.at_ hD8 bD)) _, ?_⟩
              exact hte _ _ ⟨i, rfl, il, by rw [is, ep], g9⟩
      · walk_at "rds"
        exact ⟨p, run, kvs, _, _, _, rfl, g8, hF8, hD8, hC, by omega, by omega, hkv⟩
    · obtain ⟨p, run, kvs, y7, y8, y9, rfl, g5, hF5, hD5, hC, hl, hkl, hkv⟩ := pv
      walk_at "rds"
      refine rd_tupL hF5 fun p6 H6 n6 s6 h6 => ?_
      exact q p6 H6 run (g5.same s6) h6 ⟨p, hC⟩ (by omega)
end
section
variable {P : Program} {w : World} {K : PySem.W.Frag} {mg : Str → Option Value} {base : Heap}
/-- some ints by the bag, all of a kind -/
theorem lcIntsR {bg c : Addr} {K : PySem.W.Frag} {H1 : Hp} {t : Addr} {xs : List V} {D : Addr} {g : TG} {te : TE} {vs : List Nat} {σ : L2.St} {Q : VK} (R : Int → Prop) (hB : Bag H1 bg c) (ht : SqT K H1 t xs) (hl : xs.length ≤ 1000) (nD : H1 D = none)
    (hs : ∀ x H (Q' : VK), Gn bg c H1 H → (∀ (y : Int) H2, Gn bg c H H2 → R y → Q' (.int y) H2) → g x (wipe σ vs) H fun σ2 H2 => wipe σ2 vs = wipe σ vs ∧ te σ2 H2 Q')
    (hd : ∀ H (ms : List Int), Gn bg c H1 H → H D = some (.lst (ms.map V.int)) → ms.length = xs.length → (∀ m ∈ ms, R m) → Q (.ref D) H) : LcW (Itt K t) g tYes te vs σ D Q H1 := by
  refine lcw (walk_tup (xs := xs)) (fun i acc H => Gn bg c H1 H ∧ ∃ ms : List Int, acc = ms.map V.int ∧ ms.length = i ∧ ∀ m ∈ ms, R m) ⟨(Gn.refl hB).upd nD, [], rfl, rfl, fun m hm => absurd hm List.not_mem_nil⟩ (fun i acc H p => p.1.sq ht)
    (fun i x acc H H' hi hl' hD p y => ?_) (fun acc H hD hl' p => ?_)
  · obtain ⟨g1, ms, rfl, ml, mb⟩ := p
    obtain ⟨rfl, _⟩ := y
    exact hs x _ _ g1 fun y H2 g2 ry => lcn (g2.at_ hD (hB.k1 nD)) hl' (by omega) ⟨(g1.trans g2).upd nD, ms ++ [y], by rw [List.map_append]; rfl, by simp [ml], fun m hm => by
      rcases List.mem_append.mp hm with z | z
      · exact mb m z
      · rw [List.mem_singleton.mp z]; exact ry⟩
  · obtain ⟨g1, ms, rfl, ml, mb⟩ := p
    exact hd H ms g1 hD ml mb
def sp_l_any_tariff (K : PySem.W.Frag) : Sp := fun vs H Q _ => ∃ (bg c a k h r : Addr) (W : Works), vs = [.ref bg, .ref a, .int 9] ∧ Bag H bg c ∧ WkAt H a k h r W ∧
  ∀ p H' (t : Tar), Gn bg c H H' → TD H' (.ref p) (dTar t) → t.Ok W.kinds.length W.hands.length → Q (.ref p) H'
/-! ### _law_any_tariff -/
/- 0 bag_here*, 1 works_here, 2 most, 3 menu*, 4 prices, 5 wages, 6 kind', 7 hand', 8 one_here' -/
theorem sc_l_any_tariff : FnScope ["_law_bag_here", "_law_works_here", "_law_most", "_law_menu", "_law_prices", "_law_wages", "_law_kind", "_law_hand", "_law_one_here"] ["_law_bag_here", "_law_works_here", "_law_most"] (defScope (topS 60)) := ⟨rfl, rfl, rfl, by decide +kernel, rfl, by decide +kernel, by decide +kernel⟩
theorem cl_l_any_tariff (T : Top K mg) : Cl P w K mg base 3 "_law_any_tariff" (sp_l_any_tariff K) := by
  refine cl_of (k := 2) (N := ["_law_bag_here", "_law_works_here", "_law_most", "_law_menu", "_law_prices", "_law_wages", "_law_kind", "_law_hand", "_law_one_here"]) (ps := ["_law_bag_here", "_law_works_here", "_law_most"]) (T.def_ 50 rfl) sc_l_any_tariff (fun vs H Q E h => ?_) (fun _ _ _ _ _ _ us hl => match us, hl with | [_, _, _], _ => rfl) (fun f cdv A outer s H vs Q E hr h => ?_)
  · obtain ⟨bg, c, a, k, h, r, W, rfl, hB, hW, q⟩ := h
    rfl
  · obtain ⟨bg, c, a, k, h, r, W, rfl, hB, hW, q⟩ := h
    have hu := hu_of hr
    have hu65 := hu65_of hr
    have hu64 := hr.units
    refine ⟨_, (pss_cons (ps_set (i := 3) sc_l_any_tariff.nd rfl (.inr rfl) (pe_lst (pa_cons pe_int (pa_cons pe_int (pa_cons (pe_un un_neg pe_int) (pa_cons pe_int (pa_cons (pe_op op_sub (pe_cl (k := 1) (j := 2) (cl_l_take T) hr (by decide) (by rfl) (pa_cons (pv 0) (pa_cons (pv 2) pa_nil))) (pe_op op_fdiv (pe_callTy call_int1 (by rfl) (T.b 10 rfl) (by decide +kernel) (pa_cons (pv 2) pa_nil)) pe_int)) (pa_cons (pe_un un_neg (pv 2)) (pa_cons (pv 2) pa_nil)))))))))
  (pss_cons (ps_par (i := 4) (j := 5) rfl sc_l_any_tariff.nd rfl rfl (by decide) rfl rfl (pa_cons (pe_callTy (call_tupleK K) (by rfl) (T.b 7 rfl) (by decide +kernel) (pa_cons (pe_lc (own := [("_law_kind", 6)]) (g := gName 6) rfl sc_l_any_tariff.nd  (pi_tup (pe_ix (ix_tupK K) (pv 1) pe_int (fun _ _ => rfl))) (blkOk_by (N := ["_law_bag_here", "_law_works_here", "_law_most", "_law_menu", "_law_prices", "_law_wages", "_law_kind", "_law_hand", "_law_one_here"]) (sc := defScope (topS 60)) (by decide +kernel)) (fun _ _ _ _ _ => (pg_name (i := 6) sc_l_any_tariff.nd rfl (.inl rfl))) (fun _ _ _ _ _ => pts_nil) (fun _ _ _ _ _ => (pe_cl (k := 2) (j := 2) (cl_l_one T) hr (by decide) (by rfl) (pa_cons (pv 0) (pa_cons (pv 3) pa_nil))))) pa_nil)) (pa_cons (pe_callTy (call_tupleK K) (by rfl) (T.b 7 rfl) (by decide +kernel) (pa_cons (pe_lc (own := [("_law_hand", 7)]) (g := gName 7) rfl sc_l_any_tariff.nd  (pi_tup (pe_ix (ix_tupK K) (pv 1) pe_int (fun _ _ => rfl))) (blkOk_by (N := ["_law_bag_here", "_law_works_here", "_law_most", "_law_menu", "_law_prices", "_law_wages", "_law_kind", "_law_hand", "_law_one_here"]) (sc := defScope (topS 60)) (by decide +kernel)) (fun _ _ _ _ _ => (pg_name (i := 7) sc_l_any_tariff.nd rfl (.inl rfl))) (fun _ _ _ _ _ => pts_nil) (fun _ _ _ _ _ => (pe_callB call_abs (by rfl) (T.b 2 rfl) (by decide +kernel) (pa_cons (pe_cl (k := 2) (j := 2) (cl_l_one T) hr (by decide) (by rfl) (pa_cons (pv 0) (pa_cons (pv 3) pa_nil))) pa_nil)))) pa_nil)) pa_nil)) (by rfl))
  (pss_one (ps_ret (pe_ifExp (pt_cmpR (op_neDK K hr.units) (pe_lc (own := [("_law_one_here", 8)]) (g := gName 8) rfl sc_l_any_tariff.nd  (pi_tup (pe_op (op_catAK K) (pv 4) (pv 5))) (blkOk_by (N := ["_law_bag_here", "_law_works_here", "_law_most", "_law_menu", "_law_prices", "_law_wages", "_law_kind", "_law_hand", "_law_one_here"]) (sc := defScope (topS 60)) (by decide +kernel)) (fun _ _ _ _ _ => (pg_name (i := 8) sc_l_any_tariff.nd rfl (.inl rfl))) (fun _ _ _ _ _ => (pts_one (pt_cmpR op_ne (pv 8) pe_int (nomark _)))) (fun _ _ _ _ _ => pe_int)) (pe_lst pa_nil) (nomark _)) (pe_tup (pa_cons (pv 4) (pa_cons (pv 5) pa_nil))) (pe_tup (pa_cons (pe_op (op_catAK K) (pe_slice (sl_tupAK K) (pv 4) (po_some pe_int) po_none) (pe_tup (pa_cons pe_int pa_nil))) (pa_cons (pv 5) pa_nil)))))))), ?_⟩
    obtain ⟨k1, k2, k3, k4, k5⟩ := hW.ok
    walk_at "rds"
    refine ⟨bg, c, _, rfl, hB, by omega, by omega, fun r1 H1 g1 a0 a1 => ?_⟩
    walk_at "rds"
    refine .inl ⟨_, rfl, ?_⟩
    walk_at "rds"
    refine rd_I ⟨by decide, by decide⟩ ?_
    walk_at "rds"
    refine ⟨sz_ok (by simp), fun M nM => ?_⟩
    generalize eH2 : upd _ M _ = H2
    obtain ⟨s2, hM⟩ := new_of eH2 nM
    have fM := g1.free nM
    have bM := hB.k1 fM
    have g2 := g1.same s2
    have menu : ∀ (l : List V), l = [V.int 0, V.int 1, V.int (-1), V.int 2, V.int (r1 - 9 / 2), V.int (-9), V.int 9] → ∀ w ∈ l, ∃ x : Int, w = .int x ∧ -1000 ≤ x ∧ x ≤ 1000 := fun l hl w hw => by
      subst hl
      simp only [List.mem_cons, List.not_mem_nil, or_false] at hw
      rcases hw with e | e | e | e | e | e | e <;> exact ⟨_, e, by omega, by omega⟩
    have menu := menu _ rfl
    walk_at "rds"
    have hW2 := hW.gn g2
    refine rd_ixTi (j := 0) hW2.at_ rfl rfl ?_
    refine ⟨k, rfl, ⟨_, SqT.of hW2.kinds⟩, fun D nD => ?_⟩
    refine lcIntsR (fun x => -1000 ≤ x ∧ x ≤ 1000) g2.bag (SqT.of hW2.kinds) (by rw [List.length_map]; omega) nD (fun x H3 Q' g3 q' => ?_) (fun H3 prices g3 hD l1 b1 => ?_)
    · walk_at "rds"
      refine ⟨rfl, ?_⟩
      walk_at "rds"
      refine ⟨bg, c, M, _, rfl, g3.bag, g3.at_ hM bM, bM, by simp, by simp, fun w H4 g4 hw => ?_⟩
      obtain ⟨y, rfl, hy⟩ := menu w hw
      exact q' y H4 g4 hy
    rw [List.length_map] at l1
    walk_at "rds"
    refine rd_tupL hD fun pt H4 n4 s4 h4 => ?_
    have g24 := g3.same s4
    have hW4 := hW2.gn g24
    walk_at "rds"
    refine rd_ixTi (j := 1) hW4.at_ rfl rfl ?_
    refine ⟨h, rfl, ⟨_, hW4.hands.sq⟩, fun E nE => ?_⟩
    refine lcIntsR (fun x => -1000 ≤ x ∧ x ≤ 1000) g24.bag hW4.hands.sq (by rw [List.length_map]; omega) nE (fun x H5 Q' g5 q' => ?_) (fun H5 wages g5 hE l2 b2 => ?_)
    · walk_at "rds"
      refine ⟨rfl, ?_⟩
      walk_at "rds"
      refine ⟨bg, c, M, _, rfl, g5.bag, (g24.trans g5).at_ hM bM, bM, by simp, by simp, fun w H6 g6 hw => ?_⟩
      obtain ⟨y, rfl, hy⟩ := menu w hw
      walk_at "rds"
      refine ⟨y, rfl, ?_⟩
      exact q' _ H6 g6 (by split <;> omega)
    rw [List.length_map] at l2
    walk_at "rds"
    refine rd_tupL hE fun wt H6 n6 s6 h6 => ?_
    have g26 := g24.trans (g5.same s6)
    have hpt : H6 pt = some (.tup (prices.map V.int)) := (g5.same s6).tup h4
    walk_at "rds"
    refine rd_catT hpt h6 (by simp; omega) fun ct H7 s7 h7 => ?_
    refine ⟨ct, rfl, ⟨_, SqT.of h7⟩, fun L nL => ?_⟩
    rw [← List.map_append] at h7
    refine lcw (walk_tup (xs := (prices ++ wages).map V.int)) (fun i acc H8 => Same H7 H8 ∧ ∃ bs : List Nat, acc = bs.map nI) ⟨Same.mut (Same.refl _) nL, [], rfl⟩ (fun i acc H8 p => SqT.of (p.1 _ _ h7))
      (fun i x acc H8 H9 hi hl hL p y => ?_) (fun acc H8 hL hl8 p => ?_)
    · obtain ⟨s8, bs, rfl⟩ := p
      obtain ⟨rfl, f1⟩ := y
      obtain ⟨i1, rfl⟩ := map_at f1
      walk_at "rds"
      refine ⟨rfl, ?_⟩
      walk_at "rds"
      have i2 : i < 1000000 := by
        rw [List.length_append] at i1
        omega
      refine ite3 (fun hc => ?_) (fun hc => ?_)
      · walk_at "rds"
        exact lcn hL hl i2 ⟨Same.mut s8 nL, bs ++ [1], by rw [List.map_append]; rfl⟩
      · exact lcs hL hl ⟨s8, bs, rfl⟩
    obtain ⟨s8, bs, rfl⟩ := p
    walk_at "rds"
    refine ⟨sz_ok (by simp), fun e ne => ?_⟩
    generalize eH9 : upd _ e _ = H9
    obtain ⟨s9, h9⟩ := new_of eH9 ne
    refine rd_neNilN (s9 _ _ hL) h9 ?_
    have s69 := s7.trans (s8.trans s9)
    have g9 := (g2.trans g26).same s69
    have hpt9 := s69 _ _ hpt
    have hwt9 := s69 _ _ h6
    walk_at "rds"
    refine ite3 (fun hc => ?_) (fun hc => ?_)
    · walk_at "rds"
      refine ⟨sz_ok (by simp), rd_new (R := fun p H1 => Q (.ref p) H1) fun p H10 np s10 hp => ?_⟩
      exact q p H10 ⟨prices, wages⟩ (g9.same s10) (.tup hp (.cons (TD.ints (s10 _ _ hpt9)) (.cons (TD.ints (s10 _ _ hwt9)) .nil))) ⟨l1, l2, b1, b2⟩
    · walk_at "rds"
      refine rd_slT hpt9 (cutV_from _ 1) fun p10 H10 s10 h10 => ?_
      walk_at "rds"
      refine ⟨sz_ok (by simp), fun p11 np11 => ?_⟩
      generalize eH11 : upd _ p11 _ = H11
      obtain ⟨s11, h11⟩ := new_of eH11 np11
      refine rd_catT (s11 _ _ h10) h11 (by simp; omega) fun p12 H12 s12 h12 => ?_
      walk_at "rds"
      refine ⟨sz_ok (by simp), rd_new (R := fun p H1 => Q (.ref p) H1) fun p H13 np s13 hp => ?_⟩
      have s913 := s10.trans (s11.trans (s12.trans s13))
      refine q p H13 ⟨prices.drop 1 ++ [1], wages⟩ (g9.same s913) (.tup hp (.cons (TD.ints ?_) (.cons (TD.ints (s913 _ _ hwt9)) .nil))) ⟨?_, l2, fun x hx => ?_, b2⟩
      · rw [s13 _ _ h12, List.map_append, List.map_drop]
        rfl
      · simp
        omega
      · rcases List.mem_append.mp hx with z | z
        · exact b1 x (List.mem_of_mem_drop z)
        · rw [List.mem_singleton.mp z]
          omega
def sp_l_world (K : PySem.W.Frag) : Sp := fun vs H Q _ => ∃ (bg c : Addr) (m : Int), vs = [.ref bg, .int 3, .int 3, .int m] ∧ Bag H bg c ∧ 1 ≤ m ∧ m ≤ 6 ∧
  ∀ p H' a k h r (W : Works) v (S : Snd), Gn bg c H H' → H' p = some (.tup [.ref a, v]) → WkAt H' a k h r W → SndAt H' v S W.kinds.length W.hands.length → Q (.ref p) H'
/-! ### _law_world -/
/- 0 bag_here, 1 kinds, 2 recipes, 3 places, 4 works_here -/
theorem sc_l_world : FnScope ["_law_bag_here", "_law_kinds", "_law_recipes", "_law_places", "_law_works_here"] ["_law_bag_here", "_law_kinds", "_law_recipes", "_law_places"] (defScope (topS 61)) := ⟨rfl, rfl, rfl, by decide +kernel, rfl, by decide +kernel, by decide +kernel⟩
theorem cl_l_world (T : Top K mg) : Cl P w K mg base 6 "_law_world" (sp_l_world K) := by
  refine cl_of (k := 5) (N := ["_law_bag_here", "_law_kinds", "_law_recipes", "_law_places", "_law_works_here"]) (ps := ["_law_bag_here", "_law_kinds", "_law_recipes", "_law_places"]) (T.def_ 51 rfl) sc_l_world (fun vs H Q E h => ?_) (fun _ _ _ _ _ _ us hl => match us, hl with | [_, _, _, _], _ => rfl) (fun f cdv A outer s H vs Q E hr h => ?_)
  · obtain ⟨bg, c, m, rfl, hB, hm, hm2, q⟩ := h
    rfl
  · obtain ⟨bg, c, m, rfl, hB, hm, hm2, q⟩ := h
    have hu := hu_of hr
    have hu65 := hu65_of hr
    have hu64 := hr.units
    refine ⟨_, (pss_cons (ps_set (i := 4) sc_l_world.nd rfl (.inl rfl) (pe_cl (k := 4) (j := 5) (cl_l_works T) hr (by decide) (by rfl) (pa_cons (pv 0) (pa_cons (pv 1) (pa_cons pe_int (pa_cons (pv 2) pa_nil))))))
  (pss_one (ps_ret (pe_tup (pa_cons (pv 4) (pa_cons (pe_cl (k := 5) (j := 5) (cl_l_sender T) hr (by decide) (by rfl) (pa_cons (pv 0) (pa_cons (pv 4) (pa_cons (pv 3) (pa_cons pe_int pa_nil))))) pa_nil)))))), ?_⟩
    walk_at "rds"
    refine ⟨bg, c, rfl, hB, fun a H1 k h r W g1 hW => ?_⟩
    walk_at "rds"
    refine ⟨bg, c, a, k, h, r, W, m, rfl, g1.bag, hW, hm, hm2, fun v H2 S g2 hS => ?_⟩
    walk_at "rds"
    refine ⟨sz_ok (by simp), rd_new (R := fun p H1 => Q (.ref p) H1) fun p H3 np s3 hp => ?_⟩
    exact q p H3 a k h r W v S ((g1.trans g2).same s3) hp ((hW.gn g2).same s3) ⟨hS.1.le (Same.le s3), hS.2⟩
def sp_l_cut (K : PySem.W.Frag) : Sp := fun vs H Q _ => ∃ (v : V) (S : Snd) (nk nh : Nat) (a : Addr) (run : List Nat), vs = [v, .ref a] ∧ AtS H v S nk nh ∧ H a = some (.tup (run.map nI)) ∧ S.IsRun run ∧ run.length ≤ 1000 ∧
  ∀ p H', Same H H' → CutAt H' p (S.cutF run) → Q (.ref p) H'
/-! ### _law_cut -/
/- 0 sender_here*, 1 run_here, 2 path, 3 rounds, 4 spot, 5 index, 6 places, 7 at, 8 ring, 9 least, 10 turn, 11 one_here' -/
theorem sc_l_cut : FnScope ["_law_sender_here", "_law_run_here", "_law_path", "_law_rounds", "_law_spot", "_law_index", "_law_places", "_law_at", "_law_ring", "_law_least", "_law_turn", "_law_one_here"] ["_law_sender_here", "_law_run_here"] (defScope (topS 59)) := ⟨rfl, rfl, rfl, by decide +kernel, rfl, by decide +kernel, by decide +kernel⟩
theorem cl_l_cut (T : Top K mg) : Cl P w K mg base 1 "_law_cut" (sp_l_cut K) := by
  refine cl_of (k := 0) (N := ["_law_sender_here", "_law_run_here", "_law_path", "_law_rounds", "_law_spot", "_law_index", "_law_places", "_law_at", "_law_ring", "_law_least", "_law_turn", "_law_one_here"]) (ps := ["_law_sender_here", "_law_run_here"]) (T.def_ 49 rfl) sc_l_cut (fun vs H Q E h => ?_) (fun _ _ _ _ _ _ us hl => match us, hl with | [_, _], _ => rfl) (fun f cdv A outer s H vs Q E hr h => ?_)
  · obtain ⟨v, S, nk, nh, a, run, rfl, hS, hR, hrun, hlen, q⟩ := h
    rfl
  · obtain ⟨v, S, nk, nh, a, run, rfl, hS, hR, hrun, hlen, q⟩ := h
    have hu := hu_of hr
    have hu65 := hu65_of hr
    have hu64 := hr.units
    refine ⟨_, (pss_cons (ps_par (i := 2) (j := 3) rfl sc_l_cut.nd rfl rfl (by decide) rfl rfl (pa_cons (pe_lst pa_nil) (pa_cons (pe_lst pa_nil) pa_nil)) (by rfl))
  (pss_cons (ps_for PassesOwn.never rfl (pi_enumU (by rfl) (T.b 13 rfl) (pa_cons (pv 1) pa_nil)) (pg_tup rfl (pgs_cons (pg_name (i := 4) sc_l_cut.nd rfl (.inl rfl)) (pgs_cons (pg_name (i := 5) sc_l_cut.nd rfl (.inl rfl)) pgs_nil)))
  (pss_cons (ps_expr (pe_bm PySem.F.plainAttrs_list PySem.F.slot_list_append PySem.F.type_list_append mt_append (pv 2) (pa_cons (pv 5) pa_nil)))
  (pss_cons (ps_setLc (i := 6) (own := [("_law_one_here", 11)]) (g := gName 11) rfl sc_l_cut.nd rfl rfl (sw_true rfl rfl rfl (by decide +kernel)) (pi_list (pv 2)) (blkOk_by (N := ["_law_sender_here", "_law_run_here", "_law_path", "_law_rounds", "_law_spot", "_law_index", "_law_places", "_law_at", "_law_ring", "_law_least", "_law_turn", "_law_one_here"]) (sc := defScope (topS 59)) (by decide +kernel)) (fun _ _ _ _ _ => (pg_name (i := 11) sc_l_cut.nd rfl (.inl rfl))) (fun _ _ _ _ _ => pts_nil) (fun _ _ _ _ _ => (pe_ix (ix_tupK K) (pe_ix (ix_tupK K) (pe_ix (ix_tupK K) (pv 0) pe_int (fun _ _ => rfl)) (pv 11) (fun _ _ => rfl)) pe_int (fun _ _ => rfl))))
  (pss_one (ps_if (pt_cmpR (op_inK K) (pe_ix (ix_tupK K) (pe_ix (ix_tupK K) (pe_ix (ix_tupK K) (pv 0) pe_int (fun _ _ => rfl)) (pv 5) (fun _ _ => rfl)) pe_int (fun _ _ => rfl)) (pv 6) (by rfl)) (pss_cons (ps_set (i := 7) sc_l_cut.nd rfl (.inl rfl) (pe_bm PySem.F.plainAttrs_list PySem.F.slot_list_index PySem.F.type_list_index (mt_indexK K) (pv 6) (pa_cons (pe_ix (ix_tupK K) (pe_ix (ix_tupK K) (pe_ix (ix_tupK K) (pv 0) pe_int (fun _ _ => rfl)) (pv 5) (fun _ _ => rfl)) pe_int (fun _ _ => rfl)) pa_nil)))
  (pss_cons (ps_par (i := 8) (j := 2) rfl sc_l_cut.nd rfl rfl (by decide) rfl rfl (pa_cons (pe_slice (sl_listK K) (pv 2) (po_some (pv 7)) po_none) (pa_cons (pe_slice (sl_listK K) (pv 2) po_none (po_some (pv 7))) pa_nil)) (by rfl))
  (pss_cons (ps_setLc (i := 9) (own := [("_law_one_here", 11)]) (g := gName 11) rfl sc_l_cut.nd rfl rfl (sw_true rfl rfl rfl (by decide +kernel)) (pi_list (pv 8)) (blkOk_by (N := ["_law_sender_here", "_law_run_here", "_law_path", "_law_rounds", "_law_spot", "_law_index", "_law_places", "_law_at", "_law_ring", "_law_least", "_law_turn", "_law_one_here"]) (sc := defScope (topS 59)) (by decide +kernel)) (fun _ _ _ _ _ => (pg_name (i := 11) sc_l_cut.nd rfl (.inl rfl))) (fun _ _ _ _ _ => pts_nil) (fun _ _ _ _ _ => (pe_ix (ix_tupK K) (pe_ix (ix_tupK K) (pe_ix (ix_tupK K) (pv 0) pe_int (fun _ _ => rfl)) (pv 11) (fun _ _ => rfl)) pe_int (fun _ _ => rfl))))
  (pss_cons (ps_set (i := 10) sc_l_cut.nd rfl (.inl rfl) (pe_bm PySem.F.plainAttrs_list PySem.F.slot_list_index PySem.F.type_list_index (mt_indexK K) (pv 9) (pa_cons (pe_callB (cr_minK' K rfl) (by rfl) (T.b 3 rfl) (by decide +kernel) (pa_cons (pv 9) pa_nil)) pa_nil)))
  (pss_one (ps_expr (pe_bm PySem.F.plainAttrs_list PySem.F.slot_list_append PySem.F.type_list_append mt_append (pv 3) (pa_cons (pe_tup (pa_cons (pv 4) (pa_cons (pe_callTy (call_tupleK K) (by rfl) (T.b 7 rfl) (by decide +kernel) (pa_cons (pe_op op_cat (pe_slice (sl_listK K) (pv 8) (po_some (pv 10)) po_none) (pe_slice (sl_listK K) (pv 8) po_none (po_some (pv 10)))) pa_nil)) pa_nil))) pa_nil)))))))) pss_nil)))))
  (pss_one (ps_ret (pe_tup (pa_cons (pv 3) (pa_cons (pe_callTy (call_tupleK K) (by rfl) (T.b 7 rfl) (by decide +kernel) (pa_cons (pv 2) pa_nil)) pa_nil))))))), ?_⟩
    have of := hS.ok.few
    have hrl : ∀ i ∈ run, i < S.arrows.length := fun i hi => hrun.choose_spec.lt i hi
    walk_at "rds"
    refine ⟨sz_ok (by simp), fun l nl => ?_⟩
    generalize eH1 : upd _ l _ = H1
    obtain ⟨s1, hl⟩ := new_of eH1 nl
    walk_at "rds"
    refine ⟨sz_ok (by simp), fun R nR => ?_⟩
    generalize eH2 : upd _ R _ = H2
    obtain ⟨s2, hRl⟩ := new_of eH2 nR
    have fR := s1.free nR
    walk_at "rds"
    refine ⟨a, _, rfl, SqT.of ((s1.trans s2) _ _ hR), ?_⟩
    refine forw (walk_enumU (xs := run.map nI)) (fun j σ H3 => ∃ (l : Addr) (xs : List V) (y4 y5 y6 y7 y8 y9 y10 : Option V), σ = [some v, some (.ref a), some (.ref l), some (.ref R), y4, y5, y6, y7, y8, y9, y10, none] ∧ Same H H3 ∧ H l = none ∧ l ≠ R ∧ H3 l = some (.lst ((S.cutN run j).2.map nI)) ∧ H3 R = some (.lst xs) ∧ TDs H3 xs ((S.cutN run j).1.map dRnd))
      ⟨l, [], none, none, none, none, none, none, none, rfl, s1.trans s2, nl, (fun e => by rw [← e, hl] at nR; cases nR), s2 _ _ hl, hRl, .nil⟩ (fun j σ H3 _ pv => ?_) (fun j x σ H3 H4 hj pv y => ?_) (fun σ H3 pv => ?_)
    · obtain ⟨_, _, _, _, _, _, _, _, _, _, s3, _⟩ := pv
      exact SqT.of (s3 _ _ hR)
    · obtain ⟨l, xs, y4, y5, y6, y7, y8, y9, y10, rfl, s3, fl, nlR, hl3, hR3, tR3⟩ := pv
      obtain ⟨T, x1, x2, rfl, hT, s4, f1, f2⟩ := y
      cases f1
      obtain ⟨j1, rfl⟩ := nI_at f2
      obtain ⟨e, ci⟩ := S.cutI hrun j (by omega)
      have ils := hrl _ (List.getElem_mem j1)
      have plen := ci.path.len hS.ok
      have pil : ∀ i ∈ (S.cutN run j).2, i < S.arrows.length := fun i hi => ci.path.chain.lt i hi
      have rlen : (S.cutN run j).1.length ≤ j := ci.few
      rw [Snd.cutN_succ j1]
      unfold Snd.cut1 Snd.grow
      generalize (S.cutN run j).2 = path at *
      generalize (S.cutN run j).1 = rds at *
      generalize run[j] = i at *
      refine rd_pair hT ?_
      have hl4 := s4 _ _ hl3
      walk_at "rds"
      refine ⟨tyL hl4, ?_⟩
      walk_at "rds"
      refine rd_append hl4 (by rw [List.length_map]; omega) fun H5 b5 h5 => ?_
      have hl5 : H5 l = some (.lst ((path ++ [i]).map nI)) := by rw [h5, List.map_append]; rfl
      have s5 := Same.but (s3.trans s4) b5 fl
      have hR5 := b5 _ _ nlR.symm (s4 _ _ hR3)
      have tR5 := (tR3.le (Same.le s4)).le (b5.le hl4)
      have pil' : ∀ x ∈ path ++ [i], x < S.arrows.length := fun x hx => by
        rcases List.mem_append.mp hx with z | z
        · exact pil x z
        · rw [List.mem_singleton.mp z]; exact ils
      have plen' : (path ++ [i]).length ≤ 1000 := by simp; omega
      generalize path ++ [i] = longer at *
      have hS5 := hS.le (Same.le s5)
      walk_at "rds"
      refine ⟨l, rfl, ⟨_, SqL.of hl5⟩, fun D nD => ?_⟩
      refine lcwM walk_list (fun i => nI (S.src (longer.getD i 0))) (by simp; omega) nD (fun H6 s6 => SqL.of (s6 _ _ hl5)) (fun m x H6 H7 Q' hm s6 y q' => ?_) (fun H6 s6 hD => ?_)
      · obtain ⟨rfl, f1⟩ := y
        obtain ⟨m1, rfl⟩ := nI_at f1
        have ml := pil' _ (List.getElem_mem m1)
        walk_at "rds"
        refine ⟨rfl, ?_⟩
        walk_at "rds"
        refine rd_ixT (j := 1) (hS5.le (Same.le s6)).td rfl rfl fun w1 h1 => ?_
        walk_at "rds"
        refine rd_ixT h1 rfl (Snd.dat ml) fun w2 h2 => ?_
        walk_at "rds"
        refine rd_ixT (j := 0) h2 rfl rfl fun w3 h3 => ?_
        obtain rfl := h3.int_eq
        have e : longer.getD m 0 = longer[m] := by simp [List.getD_eq_getElem?_getD, m1]
        rw [e] at q'
        exact q' _ (Same.refl _)
      rw [List.length_map, srcs] at hD
      have hS6 := hS5.le (Same.le s6)
      walk_at "rds"
      refine rd_ixT (j := 1) hS6.td rfl rfl fun w1 h1 => ?_
      walk_at "rds"
      refine rd_ixT h1 rfl (Snd.dat ils) fun w2 h2 => ?_
      walk_at "rds"
      refine rd_ixT (j := 1) h2 rfl rfl fun w3 h3 => ?_
      obtain rfl := h3.int_eq
      walk_at "rds"
      refine rd_inL hD ?_
      walk_at "rds"
      refine ite3 (fun hc => ?_) (fun hc => ?_)
      · have hn : S.tgt i ∈ longer.map S.src := of_decide_eq_true hc
        obtain ⟨hb, _⟩ := idxOf_map hn
        rw [if_pos hn]
        walk_at "rds"
        refine ⟨tyL hD, ?_⟩
        walk_at "rds"
        refine rd_ixT (j := 1) hS6.td rfl rfl fun w1 h1 => ?_
        walk_at "rds"
        refine rd_ixT h1 rfl (Snd.dat ils) fun w2 h2 => ?_
        walk_at "rds"
        refine rd_ixT (j := 1) h2 rfl rfl fun w3 h3 => ?_
        obtain rfl := h3.int_eq
        walk_at "rds"
        refine rd_indexN hD hn ?_
        generalize (longer.map S.src).idxOf (S.tgt i) = b at hb ⊢
        walk_at "rds"
        refine rd_slL (s6 _ _ hl5) (cutV_from _ _) fun rg H7 n7 s7 h7 => ?_
        walk_at "rds"
        refine rd_slL ((s6.trans s7) _ _ hl5) (cutV_to _ _) fun np H8 n8 s8 h8 => ?_
        walk_at "rds"
        rw [← List.map_drop] at h7
        rw [← List.map_take] at h8
        have rne : longer.drop b ≠ [] := fun z => by
          have := congrArg List.length z
          rw [List.length_drop] at this
          simp at this
          omega
        have rl : ∀ x ∈ longer.drop b, x < S.arrows.length := fun x hx => pil' x (List.mem_of_mem_drop hx)
        have rlen2 : (longer.drop b).length ≤ 1000 := by rw [List.length_drop]; omega
        generalize longer.drop b = ring at h7 rne rl rlen2 ⊢
        have h78 := s8 _ _ h7
        have s68 := s6.trans (s7.trans s8)
        have fnp : H np = none := s5.free ((s6.trans s7).free n8)
        have npR : np ≠ R := fun z => by rw [z, (s6.trans s7) _ _ hR5] at n8; cases n8
        refine ⟨rg, rfl, ⟨_, SqL.of h78⟩, fun D2 nD2 => ?_⟩
        refine lcwM walk_list (fun i => nI (S.src (ring.getD i 0))) (by simp; omega) nD2 (fun H9 s9 => SqL.of (s9 _ _ h78)) (fun m x H9 H10 Q' hm s9 y q' => ?_) (fun H9 s9 hD2 => ?_)
        · obtain ⟨rfl, f1⟩ := y
          obtain ⟨m1, rfl⟩ := nI_at f1
          have ml := rl _ (List.getElem_mem m1)
          walk_at "rds"
          refine ⟨rfl, ?_⟩
          walk_at "rds"
          refine rd_ixT (j := 1) (hS5.le (Same.le (s68.trans s9))).td rfl rfl fun w1 h1 => ?_
          walk_at "rds"
          refine rd_ixT h1 rfl (Snd.dat ml) fun w2 h2 => ?_
          walk_at "rds"
          refine rd_ixT (j := 0) h2 rfl rfl fun w3 h3 => ?_
          obtain rfl := h3.int_eq
          have e : ring.getD m 0 = ring[m] := by simp [List.getD_eq_getElem?_getD, m1]
          rw [e] at q'
          exact q' _ (Same.refl _)
        rw [List.length_map, srcs] at hD2
        have hne' : ring.map S.src ≠ [] := fun e => rne (List.map_eq_nil_iff.mp e)
        walk_at "rds"
        refine ⟨tyL hD2, ?_⟩
        walk_at "rds"
        refine rd_minN hD2 hne' ?_
        walk_at "rds"
        refine rd_indexN hD2 (leastN_mem hne').1 ?_
        have s59 := s68.trans s9
        have hR9 := s59 _ _ hR5
        walk_at "rds"
        refine ⟨tyL hR9, ?_⟩
        walk_at "rds"
        refine rd_slL (s9 _ _ h78) (cutV_from _ _) fun p10 H10 n10 s10 h10 => ?_
        walk_at "rds"
        refine rd_slL ((s9.trans s10) _ _ h78) (cutV_to _ _) fun p11 H11 n11 s11 h11 => ?_
        walk_at "rds"
        refine rd_cat (s11 _ _ h10) h11 (by simp; omega) fun p12 H12 n12 s12 h12 => ?_
        walk_at "rds"
        refine rd_tupL h12 fun p13 H13 n13 s13 h13 => ?_
        walk_at "rds"
        refine ⟨sz_ok (by simp), fun p14 np14 => ?_⟩
        generalize eH14 : upd _ p14 _ = H14
        obtain ⟨s14, h14⟩ := new_of eH14 np14
        walk_at "rds"
        have s914 := s10.trans (s11.trans (s12.trans (s13.trans s14)))
        have hR14 := s914 _ _ hR9
        have lx := tR3.length
        rw [List.length_map] at lx
        refine rd_append hR14 (by omega) fun H15 b15 h15 => ?_
        have le15 := b15.le hR14
        have s514 := s59.trans s914
        refine ⟨np, xs ++ [.ref p14], _, _, _, _, _, _, _, rfl, Same.but (s5.trans s514) b15 fR, fnp, npR, b15 _ _ npR ((s9.trans s914) _ _ h8), h15, ?_⟩
        rw [List.map_append]
        refine ((tR5.le (Same.le s514)).le le15).append (.cons (.tup (le15 _ _ h14) (.cons (.int _) (.cons (TD.nats (ns := S.turn ring) (le15 _ _ (s14 _ _ ?_))) .nil))) .nil)
        rw [h13, ← List.map_drop, ← List.map_take, ← List.map_append]
        rfl
      · have hn : S.tgt i ∉ longer.map S.src := of_decide_eq_false hc
        rw [if_neg hn]
        walk_at "rds"
        exact ⟨l, xs, _, _, _, _, _, _, _, rfl, s5.trans s6, fl, nlR, s6 _ _ hl5, s6 _ _ hR5, tR5.le (Same.le s6)⟩
    · obtain ⟨l, xs, y4, y5, y6, y7, y8, y9, y10, rfl, s3, fl, nlR, hl3, hR3, tR3⟩ := pv
      rw [List.length_map] at hl3 tR3
      walk_at "rds"
      refine rd_tupL hl3 fun p4 H4 n4 s4 h4 => ?_
      walk_at "rds"
      refine ⟨sz_ok (by simp), rd_new (R := fun p H1 => Q (.ref p) H1) fun p H5 np s5 hp => ?_⟩
      exact q p H5 (s3.trans (s4.trans s5)) ⟨R, p4, xs, hp, (s4.trans s5) _ _ hR3, tR3.le (Same.le (s4.trans s5)), s5 _ _ h4⟩
end
section
variable {P : Program} {w : World} {K : PySem.W.Frag} {mg : Str → Option Value} {base : Heap}
def dEn (S : Snd) (e : En) : PyData := .tuple [dN (e.w ++ [e.i]), .int (S.tgt e.i : Int)]
theorem lay_dEn (S : Snd) (e : En) : (dEn S e).canLay0 = true ∧ (dEn S e).depth ≤ 60 := by
  refine ⟨layAll_of fun d hd => ?_, ?_⟩
  · simp only [List.mem_cons, List.not_mem_nil, or_false] at hd
    rcases hd with rfl | rfl
    · exact lay_dI _
    · rfl
  · have : PyData.depthAll [dN (e.w ++ [e.i]), .int (S.tgt e.i : Int)] ≤ 1 := depthAll_of fun d hd => by
      simp only [List.mem_cons, List.not_mem_nil, or_false] at hd
      rcases hd with rfl | rfl
      · exact depth_dI _
      · exact Nat.zero_le _
    show PyData.depthAll [dN (e.w ++ [e.i]), .int (S.tgt e.i : Int)] + 1 ≤ 60
    omega
def sp_l_rings (K : PySem.W.Frag) : Sp := fun vs H Q _ => ∃ (v : V) (S : Snd) (nk nh N : Nat), vs = [v, .int 4000] ∧ AtS H v S nk nh ∧ (∀ ns : List Nat, ns.Pairwise (· < ·) → (∀ x, x ∈ ns ↔ S.Reach x) → (ns.map S.steps).sum = N) ∧ (4000 < N → ∀ H', Same H H' → Q .non H') ∧
  (N ≤ 4000 → ∀ p H' (xs : List V) (ns : List Nat), Same H H' → H' p = some (.lst xs) → ns.Pairwise (· < ·) → (∀ x, x ∈ ns ↔ S.Reach x) → xs.length = (ns.map S.total).sum → Q (.ref p) H')
/-- entries of the todo, made out of the arrows at hand -/
theorem lcEn {S : Snd} {K : PySem.W.Frag} {H1 : Hp} {O D : Addr} {os : List Nat} {w : List Nat} {g : TG} {te : TE} {vs : List Nat} {σ : L2.St} {Q : VK} (hO : H1 O = some (.lst (os.map nI))) (hl : os.length ≤ 1000) (nD : H1 D = none)
    (hs : ∀ j H (Q' : VK), j ∈ os → Same H1 H → (∀ x H2, Same H H2 → TD H2 x (dEn S ⟨w, j⟩) → Q' x H2) → g (nI j) (wipe σ vs) H fun σ2 H2 => wipe σ2 vs = wipe σ vs ∧ te σ2 H2 Q')
    (hd : ∀ H xs, Same H1 H → H D = some (.lst xs) → TDs H xs ((os.map fun j => (⟨w, j⟩ : En)).map (dEn S)) → Q (.ref D) H) : LcW (Itl K O) g tYes te vs σ D Q H1 := by
  refine lcw (walk_list (xs := os.map nI)) (fun i acc H => Same H1 H ∧ TDs H acc (((os.take i).map fun j => (⟨w, j⟩ : En)).map (dEn S))) ⟨Same.mut (Same.refl _) nD, .nil⟩ (fun i acc H p => SqL.of (p.1 _ _ hO))
    (fun i x acc H H' hi hl' hD p y => ?_) (fun acc H hD hl' p => ?_)
  · obtain ⟨s1, t1⟩ := p
    obtain ⟨rfl, f1⟩ := y
    obtain ⟨i1, e⟩ := nI_at f1
    have e' : x = nI os[i] := e
    subst e'
    have tk : os.take (i + 1) = os.take i ++ [os[i]] := by rw [List.take_add_one, List.getElem?_eq_getElem i1]; rfl
    refine hs _ _ _ (List.getElem_mem i1) s1 fun x H2 s2 hx => lcn (s2 _ _ hD) hl' (by omega) ⟨Same.mut (s1.trans s2) nD, ?_⟩
    have le : Le H2 (upd H2 D (.lst (acc ++ [x]))) := Le.lst (Le.refl _) (s2 _ _ hD)
    rw [tk, List.map_append, List.map_append]
    exact ((t1.le (Same.le s2)).le le).append (.cons (hx.le le) .nil)
  · obtain ⟨s1, t1⟩ := p
    rw [List.length_map, List.take_length] at t1
    exact hd H acc s1 hD t1
/-! ### _law_rings -/
/- 0 sender_here*, 1 most, 2 found, 3 steps, 4 there, 5 first, 6 todo, 7 way*, 8 place, 9 gone, 10 index' -/
theorem sc_l_rings : FnScope ["_law_sender_here", "_law_most", "_law_found", "_law_steps", "_law_there", "_law_first", "_law_todo", "_law_way", "_law_place", "_law_gone", "_law_index"] ["_law_sender_here", "_law_most"] (defScope (topS 58)) := ⟨rfl, rfl, rfl, by decide +kernel, rfl, by decide +kernel, by decide +kernel⟩
theorem cl_l_rings (T : Top K mg) : Cl P w K mg base 3 "_law_rings" (sp_l_rings K) := by
  refine cl_of (k := 2) (N := ["_law_sender_here", "_law_most", "_law_found", "_law_steps", "_law_there", "_law_first", "_law_todo", "_law_way", "_law_place", "_law_gone", "_law_index"]) (ps := ["_law_sender_here", "_law_most"]) (T.def_ 48 rfl) sc_l_rings (fun vs H Q E h => ?_) (fun _ _ _ _ _ _ us hl => match us, hl with | [_, _], _ => rfl) (fun f cdv A outer s H vs Q E hr h => ?_)
  · obtain ⟨v, S, nk, nh, N, rfl, hS, hN, qn, q⟩ := h
    rfl
  · obtain ⟨v, S, nk, nh, N, rfl, hS, hN, qn, q⟩ := h
    have hu := hu_of hr
    have hu65 := hu65_of hr
    have hu64 := hr.units
    refine ⟨_, (pss_cons (ps_par3 (i := 2) (j := 3) (l := 4) rfl sc_l_rings.nd rfl rfl rfl (by decide) (by decide) (by decide) rfl rfl rfl (pa_cons (pe_lst pa_nil) (pa_cons pe_int (pa_cons (pe_cl (k := 2) (j := 2) (cl_l_come_to T) hr (by decide) (by rfl) (pa_cons (pv 0) pa_nil)) pa_nil))) (by rfl))
  (pss_cons (ps_for PassesOwn.never rfl (pi_list (pv 4)) (pg_name (i := 5) sc_l_rings.nd rfl (.inl rfl))
  (pss_cons (ps_setLc (i := 6) (own := [("_law_index", 10)]) (g := gName 10) rfl sc_l_rings.nd rfl rfl (sw_true rfl rfl rfl (by decide +kernel)) (pi_list (pe_cl (k := 1) (j := 2) (cl_l_arrows_from T) hr (by decide) (by rfl) (pa_cons (pv 0) (pa_cons (pv 5) pa_nil)))) (blkOk_by (N := ["_law_sender_here", "_law_most", "_law_found", "_law_steps", "_law_there", "_law_first", "_law_todo", "_law_way", "_law_place", "_law_gone", "_law_index"]) (sc := defScope (topS 58)) (by decide +kernel)) (fun _ _ _ _ _ => (pg_name (i := 10) sc_l_rings.nd rfl (.inl rfl))) (fun _ _ _ _ _ => pts_nil) (fun _ _ _ _ _ => (pe_tup (pa_cons (pe_tup (pa_cons (pv 10) pa_nil)) (pa_cons (pe_ix (ix_tupK K) (pe_ix (ix_tupK K) (pe_ix (ix_tupK K) (pv 0) pe_int (fun _ _ => rfl)) (pv 10) (fun _ _ => rfl)) pe_int (fun _ _ => rfl)) pa_nil)))))
  (pss_one (ps_while PassesOwn.never (pt_cmpR (op_neDK K hr.units) (pv 6) (pe_lst pa_nil) (nomark _)) (pss_cons (ps_asg (pe_bm0 PySem.F.plainAttrs_list PySem.F.slot_list_pop PySem.F.type_list_pop mt_pop (pv 6)) (pg_tup rfl (pgs_cons (pg_name (i := 7) sc_l_rings.nd rfl (.inr rfl)) (pgs_cons (pg_name (i := 8) sc_l_rings.nd rfl (.inl rfl)) pgs_nil))))
  (pss_cons (ps_aug (i := 3) sc_l_rings.nd rfl (.inl rfl) pe_int ip_add)
  (pss_cons (ps_if (pt_cmpR op_gt (pv 3) (pv 1) (nomark _)) (pss_one (ps_ret pe_non)) pss_nil)
  (pss_cons (ps_setLc (i := 9) (own := [("_law_index", 10)]) (g := gName 10) rfl sc_l_rings.nd rfl rfl (sw_true rfl rfl rfl (by decide +kernel)) (pi_tup (pv 7)) (blkOk_by (N := ["_law_sender_here", "_law_most", "_law_found", "_law_steps", "_law_there", "_law_first", "_law_todo", "_law_way", "_law_place", "_law_gone", "_law_index"]) (sc := defScope (topS 58)) (by decide +kernel)) (fun _ _ _ _ _ => (pg_name (i := 10) sc_l_rings.nd rfl (.inl rfl))) (fun _ _ _ _ _ => pts_nil) (fun _ _ _ _ _ => (pe_ix (ix_tupK K) (pe_ix (ix_tupK K) (pe_ix (ix_tupK K) (pv 0) pe_int (fun _ _ => rfl)) (pv 10) (fun _ _ => rfl)) pe_int (fun _ _ => rfl))))
  (pss_one (ps_if (pt_cmpR op_eq (pv 8) (pv 5) (nomark _)) (pss_one (ps_expr (pe_bm PySem.F.plainAttrs_list PySem.F.slot_list_append PySem.F.type_list_append mt_append (pv 2) (pa_cons (pv 7) pa_nil)))) (pss_one (ps_if (PW.pt (pw_and (pt_cmpR op_gt (pv 8) (pv 5) (nomark _)) (pw_and1 (pt_cmpR (op_notInK K) (pv 8) (pv 9) (by rfl))))) (pss_one (ps_expr (pe_bm PySem.F.plainAttrs_list PySem.F.slot_list_extend PySem.F.type_list_extend mt_extend (pv 6) (pa_cons (pe_lc (own := [("_law_index", 10)]) (g := gName 10) rfl sc_l_rings.nd  (pi_list (pe_cl (k := 1) (j := 2) (cl_l_arrows_from T) hr (by decide) (by rfl) (pa_cons (pv 0) (pa_cons (pv 8) pa_nil)))) (blkOk_by (N := ["_law_sender_here", "_law_most", "_law_found", "_law_steps", "_law_there", "_law_first", "_law_todo", "_law_way", "_law_place", "_law_gone", "_law_index"]) (sc := defScope (topS 58)) (by decide +kernel)) (fun _ _ _ _ _ => (pg_name (i := 10) sc_l_rings.nd rfl (.inl rfl))) (fun _ _ _ _ _ => pts_nil) (fun _ _ _ _ _ => (pe_tup (pa_cons (pe_op (op_catAK K) (pv 7) (pe_tup (pa_cons (pv 10) pa_nil))) (pa_cons (pe_ix (ix_tupK K) (pe_ix (ix_tupK K) (pe_ix (ix_tupK K) (pv 0) pe_int (fun _ _ => rfl)) (pv 10) (fun _ _ => rfl)) pe_int (fun _ _ => rfl)) pa_nil))))) pa_nil)))) pss_nil))))))))))))
  (pss_one (ps_ret (pe_callB (cr_sortedTs hu64) (by rfl) (T.b 6 rfl) (by decide +kernel) (pa_cons (pv 2) pa_nil)))))), ?_⟩
    have o1 := hS.ok.few
    have o2 := hS.ok.many
    have o0 := hS.ok.pos
    walk_at "rds"
    refine ⟨sz_ok (by simp), fun F nF => ?_⟩
    generalize eH1 : upd _ F _ = H1
    obtain ⟨s1, hF⟩ := new_of eH1 nF
    walk_at "rds"
    refine ⟨v, S, nk, nh, rfl, hS.le (Same.le s1), fun C H2 ns s2 nC hC hasc hall => ?_⟩
    have fC := s1.free nC
    have hN := hN ns hasc hall
    have neCF : C ≠ F := fun e => by rw [e, hF] at nC; cases nC
    walk_at "rds"
    refine ⟨C, rfl, ⟨_, SqL.of hC⟩, ?_⟩
    refine forw (walk_list (xs := ns.map nI)) (fun j σ H3 => ∃ (xs : List V) (rs : List (List Nat)) (st : Nat) (y5 y6 y7 y8 y9 : Option V), σ = [some v, some (.int 4000), some (.ref F), some (.int (st : Int)), some (.ref C), y5, y6, y7, y8, y9, none] ∧ Same H H3 ∧ H3 C = some (.lst (ns.map nI)) ∧ H3 F = some (.lst xs) ∧ TDs H3 xs (rs.map dN) ∧
        rs.length = ((ns.take j).map S.total).sum ∧ rs.length ≤ st ∧ st ≤ 4000 ∧ (∀ r ∈ rs, r ≠ []) ∧ st + ((ns.drop j).map S.steps).sum = N)
      ⟨[], [], 0, none, none, none, none, none, rfl, s1.trans s2, hC, s2 _ _ hF, .nil, rfl, Nat.le_refl _, by omega, fun r hr => absurd hr List.not_mem_nil, by rw [Nat.zero_add]; exact hN⟩ (fun j σ H3 _ pv => ?_) (fun j x σ H3 H4 hj pv y => ?_) (fun σ H3 pv => ?_)
    · obtain ⟨_, _, _, _, _, _, _, _, _, _, hC3, _⟩ := pv
      exact SqL.of hC3
    · obtain ⟨xs, rs, st, y5, y6, y7, y8, y9, rfl, s3, hC3, hF3, tF3, cnt, hst, hst2, hne, hstp⟩ := pv
      obtain ⟨rfl, f1⟩ := y
      obtain ⟨j1, rfl⟩ := nI_at f1
      have tk : ns.take (j + 1) = ns.take j ++ [ns[j]] := by rw [List.take_add_one, List.getElem?_eq_getElem j1]; rfl
      have hsum : ((ns.take (j + 1)).map S.total).sum = ((ns.take j).map S.total).sum + S.total ns[j] := by rw [tk, List.map_append, List.sum_append, List.map_singleton, List.sum_singleton]
      rw [hsum]
      rw [List.drop_eq_getElem_cons j1, List.map_cons, List.sum_cons] at hstp
      generalize ((ns.drop (j + 1)).map S.steps).sum = rest at *
      generalize ns[j] = b at *
      generalize ((ns.take j).map S.total).sum = base0 at *
      have hS3 := hS.le (Same.le s3)
      walk_at "rds"
      refine ⟨v, S, nk, nh, b, rfl, hS3, fun O H5 s5 nO hO => ?_⟩
      refine ⟨O, rfl, ⟨_, SqL.of hO⟩, fun D nD => ?_⟩
      have lO := S.outs_len b
      have hS5 := hS3.le (Same.le s5)
      refine lcEn (S := S) (w := []) hO (by omega) nD (fun i H6 Q' hi s6 q' => ?_) (fun H6 ys s6 hD tD => ?_)
      · have il := (Snd.mem_outs.mp hi).1
        walk_at "rds"
        refine ⟨rfl, ?_⟩
        walk_at "rds"
        refine ⟨sz_ok (by simp), fun p7 np7 => ?_⟩
        generalize eH7 : upd _ p7 _ = H7
        obtain ⟨s7, h7⟩ := new_of eH7 np7
        have hS7 := hS5.le (Same.le (s6.trans s7))
        walk_at "rds"
        refine rd_ixT (j := 1) hS7.td rfl rfl fun w1 h1 => ?_
        walk_at "rds"
        refine rd_ixT h1 rfl (Snd.dat il) fun w2 h2 => ?_
        walk_at "rds"
        refine rd_ixT (j := 1) h2 rfl rfl fun w3 h3 => ?_
        obtain rfl := h3.int_eq
        walk_at "rds"
        refine ⟨sz_ok (by simp), rd_new (R := fun p H1 => Q' (.ref p) H1) fun p H8 np s8 hp => ?_⟩
        exact q' _ H8 (s7.trans s8) (.tup hp (.cons (TD.nats (ns := [i]) (s8 _ _ h7)) (.cons (.int _) .nil)))
      have s06 := s3.trans (s5.trans s6)
      have fD : H D = none := (s3.trans s5).free nD
      have neDF : D ≠ F := fun e => by rw [e, s5 _ _ hF3] at nD; cases nD
      have neDC : D ≠ C := fun e => by rw [e, s5 _ _ hC3] at nD; cases nD
      have s56 := s5.trans s6
      walk_at "rds"
      refine rd_while (fun m σ H7 => ∃ (xs : List V) (rs : List (List Nat)) (ys : List V) (es : List En) (st : Nat) (y7 y8 y9 : Option V), σ = [some v, some (.int 4000), some (.ref F), some (.int (st : Int)), some (.ref C), some (.int (b : Int)), some (.ref D), y7, y8, y9, none] ∧ Same H H7 ∧ H7 C = some (.lst (ns.map nI)) ∧ H7 F = some (.lst xs) ∧ TDs H7 xs (rs.map dN) ∧
          H7 D = some (.lst ys) ∧ TDs H7 ys (es.map (dEn S)) ∧ (∀ e ∈ es, En.Ok e S) ∧ rs.length + (es.map fun e => e.cnt S b).sum = base0 + S.total b ∧ rs.length ≤ st ∧ st ≤ 4000 ∧ (∀ r ∈ rs, r ≠ []) ∧ es.length ≤ 10 + 10 * st ∧ st + m = 4000 ∧ st + (es.map fun e => e.nod S b).sum + rest = N)
        ⟨4000 - st, xs, rs, ys, _, st, _, _, _, rfl, s06, s56 _ _ hC3, s56 _ _ hF3, tF3.le (Same.le s56), hD, tD, fun e he => by obtain ⟨i, hi, rfl⟩ := List.mem_map.mp he; exact En.Ok.first hi, by rw [List.map_map, cnt, Snd.total_eq o0]; rfl, hst, hst2, hne, by rw [List.length_map]; omega, by omega, by rw [List.map_map, ← hstp, Snd.steps_eq o0, ← Nat.add_assoc]; rfl⟩ ?_
      clear cnt hst hst2 hne tF3 hF3 tD hD hstp
      rintro m σ H7 ⟨xs, rs, ys, es, st, y7, y8, y9, rfl, s7, hC7, hF7, tF7, hD7, tD7, hok, cnt, hst, hst2, hne, les, hm, hstp⟩
      have lys := tD7.length
      rw [List.length_map] at lys
      have lxs := tF7.length
      rw [List.length_map] at lxs
      walk_at "rds"
      refine ⟨sz_ok (by simp), fun z nz => ?_⟩
      generalize eH8 : upd _ z _ = H8
      obtain ⟨s8, h8⟩ := new_of eH8 nz
      have s78 := s7.trans s8
      have hF8 := s8 _ _ hF7
      have tF8 := tF7.le (Same.le s8)
      have hC8 := s8 _ _ hC7
      have tD8 := tD7.le (Same.le s8)
      refine rd_neNilL (s8 _ _ hD7) h8 tD8 (fun d hd => ?_) (fun d hd => ?_) ?_
      · obtain ⟨e, _, rfl⟩ := List.mem_map.mp hd
        exact (lay_dEn S e).1
      · obtain ⟨e, _, rfl⟩ := List.mem_map.mp hd
        exact (lay_dEn S e).2
      walk_at "rds"
      refine ite3 (fun hb => ?_) (fun hb => ?_)
      · have hes : es ≠ [] := fun z => by
          subst z
          cases tD7
          cases hb
        obtain ⟨es', e, rfl⟩ := last_of hes
        rw [List.map_append] at tD8
        obtain ⟨ys', ly, rfl, ty1, ty2⟩ := tD8.split
        obtain ⟨ye, rfl, te⟩ := ty2.one
        have ek := hok e (by simp)
        rw [List.map_append, List.sum_append, List.map_singleton, List.sum_singleton] at cnt
        rw [List.map_append, List.sum_append, List.map_singleton, List.sum_singleton] at hstp
        have hn1 : 1 ≤ e.nod S b := by unfold En.nod; omega
        rw [List.length_append, List.length_singleton] at les
        rw [List.length_append, List.length_append, List.length_singleton, List.length_singleton] at lys
        have hD8 := s8 _ _ hD7
        walk_at "rds"
        refine ⟨tyL hD8, ?_⟩
        refine rd_pop hD8 fun H9 b9 h9 => ?_
        have le9 := b9.le hD8
        have s9 := Same.but s78 b9 fD
        have hF9 := b9 _ _ neDF.symm hF8
        have hC9 := b9 _ _ neDC.symm hC8
        have tF9 := tF8.le le9
        have ty9 := ty1.le le9
        obtain ⟨ae, xe, rfl, hae, tte⟩ := (te.le le9).tup_inv
        cases tte with | cons tw tte =>
        cases tte with | cons tt tte =>
        cases tte
        obtain rfl := tt.int_eq
        obtain ⟨aw, rfl, haw⟩ := tw.nats_inv
        refine rd_gtup rfl (SqT.of hae) rfl ?_
        refine rd_gcons (rd_name (rd_gcons (rd_name (rd_gnil ?_))))
        walk_at "rds"
        refine ite3 (fun hc => ?_) (fun hc => ?_)
        · walk_at "rds"
          have hgt := of_decide_eq_true hc
          exact qn (by omega) H9 s9
        have hc' := of_decide_eq_false hc
        have il : e.i < S.arrows.length := ek.lt _ (by simp)
        have hS9 := hS.le (Same.le s9)
        obtain ⟨_, tl, _, _⟩ := hS.ok.lt il
        walk_at "rds"
        refine ⟨aw, rfl, ⟨_, SqT.of haw⟩, fun G nG => ?_⟩
        have wl : (e.w ++ [e.i]).length ≤ 1000 := by
          have := nodup_lt S.n _ ek.nd fun x hx => by
            obtain ⟨j, hj, rfl⟩ := List.mem_map.mp hx
            exact (hS.ok.lt (ek.lt j hj)).1
          rw [En.vis, List.length_map] at this
          omega
        have evis : e.vis S = (e.w ++ [e.i]).map S.src := rfl
        have wall : ∀ x ∈ e.w ++ [e.i], x < S.arrows.length := ek.lt
        refine lcwM walk_tup (fun i => nI (S.src ((e.w ++ [e.i]).getD i 0))) (by rw [List.length_map]; omega) nG (fun H10 s10 => SqT.of (s10 _ _ haw)) (fun k x H10 H11 Q' hk s10 y q' => ?_) (fun H10 s10 hG => ?_)
        · obtain ⟨rfl, f1⟩ := y
          obtain ⟨k1, rfl⟩ := nI_at f1
          have kl := wall _ (List.getElem_mem k1)
          walk_at "rds"
          refine ⟨rfl, ?_⟩
          walk_at "rds"
          refine rd_ixT (j := 1) (hS9.le (Same.le s10)).td rfl rfl fun w1 h1 => ?_
          walk_at "rds"
          refine rd_ixT h1 rfl (Snd.dat kl) fun w2 h2 => ?_
          walk_at "rds"
          refine rd_ixT (j := 0) h2 rfl rfl fun w3 h3 => ?_
          obtain rfl := h3.int_eq
          have e' : (e.w ++ [e.i]).getD k 0 = (e.w ++ [e.i])[k] := by rw [List.getD_eq_getElem?_getD, List.getElem?_eq_getElem k1]; rfl
          rw [e'] at q'
          exact q' _ (Same.refl _)
        rw [List.length_map, srcs, ← evis] at hG
        have s10' := s9.trans s10
        have hF10 := s10 _ _ hF9
        have hC10 := s10 _ _ hC9
        have hD10 := s10 _ _ h9
        have tF10 := tF9.le (Same.le s10)
        have ty10 := ty9.le (Same.le s10)
        have haw10 := s10 _ _ haw
        have hok' : ∀ x ∈ es', En.Ok x S := fun x hx => hok x (List.mem_append_left _ hx)
        have hm1 : m - 1 < m := by omega
        walk_at "rds"
        refine ite3 (fun hc1 => ?_) (fun hc1 => ?_)
        · have e1 : S.tgt e.i = b := by
            have := of_decide_eq_true hc1
            omega
          rw [En.one e1] at cnt
          rw [En.nod1 (.inl e1)] at hstp
          walk_at "rds"
          refine ⟨tyL hF10, ?_⟩
          walk_at "rds"
          refine rd_append hF10 (by omega) fun H11 b11 h11 => ?_
          have le11 := b11.le hF10
          refine ⟨m - 1, hm1, xs ++ [.ref aw], rs ++ [e.w ++ [e.i]], ys', es', st + 1, _, _, _, rfl, Same.but s10' b11 nF, b11 _ _ neCF hC10, h11, ?_, b11 _ _ neDF hD10, ty10.le le11, hok', by rw [List.length_append, List.length_singleton]; omega, by rw [List.length_append, List.length_singleton]; omega, by omega, fun r hr => ?_, by omega, by omega, by omega⟩
          · rw [List.map_append]
            exact (tF10.le le11).append (.cons (TD.nats (ns := e.w ++ [e.i]) (le11 _ _ haw10)) .nil)
          · rcases List.mem_append.mp hr with z | z
            · exact hne r z
            · rw [List.mem_singleton.mp z]
              simp
        · have e1 : S.tgt e.i ≠ b := by
            have := of_decide_eq_false hc1
            omega
          have skip : ¬ (b < S.tgt e.i ∧ S.tgt e.i ∉ e.vis S) → ∀ (y7 y8 y9 : Option V), ∃ m', m' < m ∧ ∃ (xs : List V) (rs : List (List Nat)) (ys : List V) (es : List En) (st' : Nat) (y7' y8' y9' : Option V), [some v, some (.int 4000), some (.ref F), some (.int ((st : Int) + 1)), some (.ref C), some (.int (b : Int)), some (.ref D), y7, y8, y9, none] = [some v, some (.int 4000), some (.ref F), some (.int (st' : Int)), some (.ref C), some (.int (b : Int)), some (.ref D), y7', y8', y9', none] ∧ Same H H10 ∧ H10 C = some (.lst (ns.map nI)) ∧ H10 F = some (.lst xs) ∧ TDs H10 xs (rs.map dN) ∧
              H10 D = some (.lst ys) ∧ TDs H10 ys (es.map (dEn S)) ∧ (∀ e ∈ es, En.Ok e S) ∧ rs.length + (es.map fun e => e.cnt S b).sum = base0 + S.total b ∧ rs.length ≤ st' ∧ st' ≤ 4000 ∧ (∀ r ∈ rs, r ≠ []) ∧ es.length ≤ 10 + 10 * st' ∧ st' + m' = 4000 ∧ st' + (es.map fun e => e.nod S b).sum + rest = N := fun hno y7 y8 y9 => by
            rw [En.zero e1 hno] at cnt
            rw [En.nod1 (.inr hno)] at hstp
            exact ⟨m - 1, hm1, xs, rs, ys', es', st + 1, _, _, _, rfl, s10', hC10, hF10, tF10, hD10, ty10, hok', by omega, by omega, by omega, hne, by omega, by omega, by omega⟩
          walk_at "rds"
          refine ite3 (fun hc2 => ?_) (fun hc2 => ?_)
          · have e2 : b < S.tgt e.i := by
              have := of_decide_eq_true hc2
              omega
            walk_at "rds"
            refine rd_notInL hG ?_
            walk_at "rds"
            refine ite3 (fun hc3 => ?_) (fun hc3 => ?_)
            · have e3 : S.tgt e.i ∉ e.vis S := by simpa using hc3
              rw [En.more ek hS.ok tl e1 e2 e3] at cnt
              rw [En.nod2 ek hS.ok tl e1 e2 e3] at hstp
              walk_at "rds"
              refine ⟨tyL hD10, ?_⟩
              have hS10 := hS9.le (Same.le s10)
              walk_at "rds"
              refine ⟨v, S, nk, nh, S.tgt e.i, rfl, hS10, fun O2 H11 s11 nO2 hO2 => ?_⟩
              refine ⟨O2, rfl, ⟨_, SqL.of hO2⟩, fun D2 nD2 => ?_⟩
              have lO2 := S.outs_len (S.tgt e.i)
              have hS11 := hS10.le (Same.le s11)
              have haw11 := s11 _ _ haw10
              refine lcEn (S := S) (w := e.w ++ [e.i]) hO2 (by omega) nD2 (fun i H12 Q' hi s12 q' => ?_) (fun H12 zs s12 hD2 tD2 => ?_)
              · have il2 := (Snd.mem_outs.mp hi).1
                walk_at "rds"
                refine ⟨rfl, ?_⟩
                walk_at "rds"
                refine ⟨sz_ok (by simp), fun p13 np13 => ?_⟩
                generalize eH13 : upd _ p13 _ = H13
                obtain ⟨s13, h13⟩ := new_of eH13 np13
                refine rd_catT ((s12.trans s13) _ _ haw11) h13 (by rw [List.length_map]; simp at wl ⊢; omega) fun p14 H14 s14 h14 => ?_
                have hS14 := hS11.le (Same.le (s12.trans (s13.trans s14)))
                walk_at "rds"
                refine rd_ixT (j := 1) hS14.td rfl rfl fun w1 h1 => ?_
                walk_at "rds"
                refine rd_ixT h1 rfl (Snd.dat il2) fun w2 h2 => ?_
                walk_at "rds"
                refine rd_ixT (j := 1) h2 rfl rfl fun w3 h3 => ?_
                obtain rfl := h3.int_eq
                walk_at "rds"
                refine ⟨sz_ok (by simp), rd_new (R := fun p H1 => Q' (.ref p) H1) fun p H15 np s15 hp => ?_⟩
                refine q' _ H15 (s13.trans (s14.trans s15)) (.tup hp (.cons (TD.nats (ns := (e.w ++ [e.i]) ++ [i]) (s15 _ _ ?_)) (.cons (.int _) .nil)))
                rw [h14, List.map_append (l₁ := e.w ++ [e.i])]
                rfl
              have s1012 := s11.trans s12
              have lzs := tD2.length
              rw [List.length_map, List.length_map] at lzs
              have hD12 := s1012 _ _ hD10
              walk_at "rds"
              refine rd_extend hD12 hD2 (by omega) fun H13 b13 h13 => ?_
              have le13 := b13.le hD12
              refine ⟨m - 1, hm1, xs, rs, ys' ++ zs, es' ++ (S.outs (S.tgt e.i)).map (fun j => ⟨e.w ++ [e.i], j⟩), st + 1, _, _, _, rfl, Same.but (s10'.trans s1012) b13 fD, b13 _ _ neDC.symm (s1012 _ _ hC10), b13 _ _ neDF.symm (s1012 _ _ hF10), (tF10.le (Same.le s1012)).le le13, h13, ?_, fun x hx => ?_, ?_, by omega, by omega, hne, ?_, by omega, ?_⟩
              · rw [List.map_append]
                exact ((ty10.le (Same.le s1012)).le le13).append (tD2.le le13)
              · rcases List.mem_append.mp hx with z | z
                · exact hok' x z
                · obtain ⟨j, hj, rfl⟩ := List.mem_map.mp z
                  exact ek.next e3 hj
              · rw [List.map_append, List.sum_append, List.map_map]
                exact cnt
              · rw [List.length_append, List.length_map]
                omega
              · rw [List.map_append, List.sum_append, List.map_map]
                have hh : (List.map ((fun e : En => e.nod S b) ∘ fun j => (⟨e.w ++ [e.i], j⟩ : En)) (S.outs (S.tgt e.i))).sum = ((S.outs (S.tgt e.i)).map fun j => En.nod ⟨e.w ++ [e.i], j⟩ S b).sum := rfl
                rw [hh]
                omega
            · have e3 : S.tgt e.i ∈ e.vis S := by simpa using hc3
              walk_at "rds"
              exact skip (fun z => z.2 e3) _ _ _
          · have e2 : ¬ b < S.tgt e.i := by
              have := of_decide_eq_false hc2
              omega
            refine iteF ?_
            walk_at "rds"
            exact skip (fun z => e2 z.1) _ _ _
      · have hes : es = [] := by
          cases es with
          | nil => rfl
          | cons a r =>
            cases tD7
            cases hb
        subst hes
        walk_at "rds"
        exact ⟨xs, rs, st, _, _, _, _, _, rfl, s78, hC8, hF8, tF8, by simpa using cnt, hst, hst2, hne, by simpa using hstp⟩
    · obtain ⟨xs, rs, st, y5, y6, y7, y8, y9, rfl, s3, hC3, hF3, tF3, cnt, hst, hst2, hne, hstp⟩ := pv
      rw [List.length_map, List.take_length] at cnt
      rw [List.length_map, List.drop_length] at hstp
      have hNle : N ≤ 4000 := by simp at hstp; omega
      have lxs := tF3.length
      rw [List.length_map] at lxs
      walk_at "rds"
      refine ⟨F, xs, _, rfl, SqL.of hF3, tF3, ?_, fun xs' p px np => ?_⟩
      · rw [dN_dI]
        exact sortOk_ints fun r hr => by
          obtain ⟨t, ht, rfl⟩ := List.mem_map.mp hr
          intro z
          exact hne t ht (List.map_eq_nil_iff.mp z)
      · generalize eH5 : upd _ p _ = H5
        obtain ⟨s5, h5⟩ := new_of eH5 np
        exact q hNle p H5 xs' ns (s3.trans s5) h5 hasc hall (by rw [px.length_eq]; omega)
end
section
variable {P : Program} {w : World} {K : PySem.W.Frag} {mg : Str → Option Value} {base : Heap}
/-- data whose repr is known to fit -/
structure Fit (d : PyData) (n m : Nat) : Prop where
  lay : d.canLay0 = true
  show_ : d.showable = true
  nod : d.hasDict = false
  sh : d.leavesShort 13 = true
  w : d.weight ≤ n
  dep : d.depth ≤ m
theorem Fit.mono {d : PyData} {n m n' m' : Nat} (h : Fit d n m) (e : n ≤ n') (e' : m ≤ m') : Fit d n' m' := ⟨h.lay, h.show_, h.nod, h.sh, Nat.le_trans h.w e, Nat.le_trans h.dep e'⟩
theorem fit_int {i : Int} (h1 : -999999999999 ≤ i) (h2 : i ≤ 999999999999) : Fit (.int i) 41 0 := by
  have p40 : (2 : Nat) ^ 40 = 1099511627776 := by decide
  have lg : i.natAbs ≠ 0 → i.natAbs.log2 < 40 := fun h => (Nat.log2_lt h).mpr (by omega)
  refine ⟨rfl, ?_, rfl, ?_, ?_, Nat.le_refl _⟩
  · show decide (i.natAbs.log2 < 1920) = true
    refine decide_eq_true ?_
    by_cases h : i.natAbs = 0
    · rw [h]; decide
    · have := lg h
      omega
  · show decide ((PyData.shown (.int i)).length ≤ 13) = true
    exact decide_eq_true (PyData.shown_int_le2 h1 h2)
  · show (if i == 0 then 0 else i.natAbs.log2 + 1) ≤ 41
    split
    · omega
    · rename_i h
      have : i.natAbs ≠ 0 := fun z => h (by
        have : i = 0 := by omega
        rw [this]; rfl)
      have := lg this
      omega
theorem fit_small {i : Nat} (h2 : i < 1000000) : Fit (.int (i : Int)) 21 0 := by
  have f := fit_int (i := (i : Int)) (by omega) (by omega)
  refine ⟨f.lay, f.show_, f.nod, f.sh, ?_, f.dep⟩
  show (if (i : Int) == 0 then 0 else (i : Int).natAbs.log2 + 1) ≤ 21
  split
  · omega
  · rename_i h
    have h0 : i ≠ 0 := fun z => h (by rw [z]; rfl)
    have p20 : (2 : Nat) ^ 20 = 1048576 := by decide
    have : (i : Int).natAbs.log2 < 20 := (Nat.log2_lt (by omega)).mpr (by omega)
    omega
structure FitAll (ds : List PyData) (n m : Nat) : Prop where
  lay : PyData.canLayAll0 ds = true
  show_ : PyData.showableAll ds = true
  nod : PyData.hasDictAll ds = false
  sh : PyData.leavesShortAll 13 ds = true
  w : PyData.weightAll ds ≤ ds.length * (n + 1)
  dep : PyData.depthAll ds ≤ m
theorem fitAll {n m : Nat} : ∀ {ds : List PyData}, (∀ d ∈ ds, Fit d n m) → FitAll ds n m
  | [], _ => ⟨rfl, rfl, rfl, rfl, Nat.zero_le _, Nat.zero_le _⟩
  | d :: ds, h => by
    have a := h d (by simp)
    have r := fitAll fun x hx => h x (List.mem_cons_of_mem _ hx)
    refine ⟨?_, ?_, ?_, ?_, ?_, ?_⟩
    · show (PyData.canLay0 d && PyData.canLayAll0 ds) = true
      rw [a.lay, r.lay]; rfl
    · show (PyData.showable d && PyData.showableAll ds) = true
      rw [a.show_, r.show_]; rfl
    · show (PyData.hasDict d || PyData.hasDictAll ds) = false
      rw [a.nod, r.nod]; rfl
    · show (PyData.leavesShort 13 d && PyData.leavesShortAll 13 ds) = true
      rw [a.sh, r.sh]; rfl
    · show PyData.weight d + 1 + PyData.weightAll ds ≤ (ds.length + 1) * (n + 1)
      have h1 := a.w
      have h2 := r.w
      rw [Nat.succ_mul]
      omega
    · show max (PyData.depth d) (PyData.depthAll ds) ≤ m
      exact Nat.max_le.mpr ⟨a.dep, r.dep⟩
theorem fit_list {ds : List PyData} {n m k : Nat} (h : ∀ d ∈ ds, Fit d n m) (hk : ds.length ≤ k) : Fit (.list ds) (k * (n + 1)) (m + 1) := by
  have r := fitAll h
  exact ⟨r.lay, r.show_, r.nod, r.sh, Nat.le_trans r.w (Nat.mul_le_mul_right _ hk), Nat.succ_le_succ r.dep⟩
theorem fit_tuple {ds : List PyData} {n m k : Nat} (h : ∀ d ∈ ds, Fit d n m) (hk : ds.length ≤ k) : Fit (.tuple ds) (k * (n + 1)) (m + 1) := by
  have r := fitAll h
  exact ⟨r.lay, r.show_, r.nod, r.sh, Nat.le_trans r.w (Nat.mul_le_mul_right _ hk), Nat.succ_le_succ r.dep⟩
theorem fit_dN {is : List Nat} {k : Nat} (h : ∀ i ∈ is, i < 1000000) (hk : is.length ≤ k) : Fit (dN is) (k * 22) 1 := by
  refine fit_tuple (n := 21) (m := 0) (fun d hd => ?_) (by rw [List.length_map, List.length_map]; exact hk)
  obtain ⟨x, hx, rfl⟩ := List.mem_map.mp hd
  obtain ⟨i, hi, rfl⟩ := List.mem_map.mp hx
  exact fit_small (h i hi)
theorem fit_dI {ns : List Int} {k : Nat} (h : ∀ x ∈ ns, -999999999999 ≤ x ∧ x ≤ 999999999999) (hk : ns.length ≤ k) : Fit (dI ns) (k * 42) 1 := by
  refine fit_tuple (n := 41) (m := 0) (fun d hd => ?_) (by rw [List.length_map]; exact hk)
  obtain ⟨x, hx, rfl⟩ := List.mem_map.mp hd
  exact fit_int (h x hx).1 (h x hx).2
def sp_l_alike (K : PySem.W.Frag) : Sp := fun vs H Q _ => ∃ (a b : Addr) (d : PyData), vs = [.ref a, .ref b] ∧ Dp K H (.ref a) d ∧ Dp K H (.ref b) d ∧ Fit d 1000000 50 ∧ Q (.bl true) H
/-! ### _law_alike -/
/- 0 found, 1 due -/
theorem sc_l_alike : FnScope ["_law_found", "_law_due"] ["_law_found", "_law_due"] (defScope (topS 35)) := ⟨rfl, rfl, rfl, by decide +kernel, rfl, by decide +kernel, by decide +kernel⟩
theorem cl_l_alike (T : Top K mg) : ClG P w K mg base 1 "_law_alike" (sp_l_alike K) := by
  refine cl_ofG (k := 0) (N := ["_law_found", "_law_due"]) (ps := ["_law_found", "_law_due"]) (T.def_ 25 rfl) sc_l_alike (fun vs H Q E h => ?_) (fun _ _ _ _ _ _ us hl => match us, hl with | [_, _], _ => rfl) (fun f cdv A outer s H vs Q E hg hr h => ?_)
  · obtain ⟨a, b, d, rfl, ha, hb, hf, q⟩ := h
    rfl
  · obtain ⟨a, b, d, rfl, ha, hb, hf, q⟩ := h
    have hu := hu_of hr
    have hu65 := hu65_of hr
    have hu64 := hr.units
    refine ⟨_, (pss_one (ps_ret (pe_and (pe_cmpR (op_eqDK K hr.units) (pv 0) (pv 1) (nomark _)) (pe_one (pe_cmpR op_eq (pe_callB (cr_reprD hg hu64) (by rfl) (T.b 11 rfl) (by decide +kernel) (pa_cons (pv 0) pa_nil)) (pe_callB (cr_reprD hg hu64) (by rfl) (T.b 11 rfl) (by decide +kernel) (pa_cons (pv 1) pa_nil)) (nomark _)))))), ?_⟩
    have sd : SeqAt.shaped d = true := Bool.and_eq_true_iff.mpr ⟨hf.lay, decide_eq_true (Nat.le_trans hf.dep (by decide))⟩
    have sl : d.shown.length ≤ sizeLine := PyData.shown_fits (B := 13) (by decide) (by decide) hf.sh (Nat.le_trans hf.w (by decide))
    have dd := Nat.le_trans hf.dep (show 50 ≤ 60 by decide)
    walk_at "rds"
    refine ⟨d, d, ha, hb, sd, sd, ?_⟩
    rw [SeqAt.eqv_refl d hf.lay]
    walk_at "rds"
    refine iteT ?_
    walk_at "rds"
    refine ⟨a, d, rfl, ha, hf.show_, hf.nod, dd, sl, ?_⟩
    walk_at "rds"
    refine ⟨b, d, rfl, hb, hf.show_, hf.nod, dd, sl, ?_⟩
    refine ⟨rfl, ?_⟩
    rw [decide_eq_true rfl]
    exact q
end
section
variable {P : Program} {w : World} {K : PySem.W.Frag} {mg : Str → Option Value} {base : Heap}
theorem flat_sum (h : Nat → Int) : ∀ rs : List (Nat × List Nat), (rs.map fun q => (q.2.map h).sum).sum = ((rs.flatMap (·.2)).map h).sum
  | [] => rfl
  | q :: rs => by
    rw [List.map_cons, List.sum_cons, List.flatMap_cons, List.map_append, List.sum_append, flat_sum h rs]
def wsum (n : Nat) (f : Nat → List Int) (path : List Nat) (kvs : List (List Nat × Nat)) : List Int :=
  (List.range n).map fun c => (path.map fun i => (f i).getD c 0).sum + (kvs.map fun q => (q.2 : Int) * (q.1.map fun i => (f i).getD c 0).sum).sum
theorem wsum_len (n : Nat) (f : Nat → List Int) (path : List Nat) (kvs : List (List Nat × Nat)) : (wsum n f path kvs).length = n := by simp [wsum]
theorem wsum_nil (n : Nat) (f : Nat → List Int) (path : List Nat) : wsum n f path [] = vsum n f path := by
  unfold wsum vsum
  refine List.map_congr_left fun c _ => ?_
  simp
theorem wsum_snoc (n : Nat) (f : Nat → List Int) (path : List Nat) (kvs : List (List Nat × Nat)) (r : List Nat) (m : Nat) : List.zipWith (· + ·) (wsum n f path kvs) ((vsum n f r).map (· * (m : Int))) = wsum n f path (kvs ++ [(r, m)]) := by
  apply List.ext_getElem
  · simp [wsum, vsum]
  · intro c h1 h2
    simp only [wsum, vsum, List.getElem_zipWith, List.getElem_map, List.getElem_range, List.map_append, List.sum_append, List.map_cons, List.map_nil, List.sum_cons, List.sum_nil]
    rw [Int.mul_comm (List.sum _) (m : Int)]
    omega
theorem wsum_all {n : Nat} {f : Nat → List Int} {path run : List Nat} {rs : List (Nat × List Nat)} {kvs : List (List Nat × Nat)} (g : GroupOf rs kvs) (p : (rs.flatMap (·.2) ++ path).Perm run) : wsum n f path kvs = vsum n f run := by
  unfold wsum vsum
  refine List.map_congr_left fun c _ => ?_
  rw [g.sum fun r => (r.map fun i => (f i).getD c 0).sum, flat_sum, ← isum_perm (p.map _), List.map_append, List.sum_append]
  omega
def gsum (S : Snd) (t : Tar) (path : List Nat) (kvs : List (List Nat × Nat)) : Int := S.gain t path + (kvs.map fun q => (q.2 : Int) * S.gain t q.1).sum
theorem gsum_all {S : Snd} {t : Tar} {path run : List Nat} {rs : List (Nat × List Nat)} {kvs : List (List Nat × Nat)} (g : GroupOf rs kvs) (p : (rs.flatMap (·.2) ++ path).Perm run) : gsum S t path kvs = S.gain t run := by
  unfold gsum
  rw [g.sum fun r => S.gain t r]
  have : (rs.map fun q => S.gain t q.2).sum = S.gain t (rs.flatMap (·.2)) := flat_sum (S.gain1 t) rs
  rw [this, ← Snd.gain_perm p, Snd.gain_app]
  omega
/-- the gains of the rounds are bounded by the greatest mean -/
theorem mean_bound {S : Snd} {t : Tar} {f : Int × Int} (hall : ∀ r b, S.IsRing r b → S.gain t r * f.2 ≤ f.1 * (r.length : Int)) : ∀ rs : List (Nat × List Nat), (∀ q ∈ rs, ∃ b, S.IsRing q.2 b) → S.gain t (rs.flatMap (·.2)) * f.2 ≤ f.1 * ((rs.flatMap (·.2)).length : Int)
  | [], _ => by simp [Snd.gain]
  | q :: rs, h => by
    have ih := mean_bound hall rs fun x hx => h x (List.mem_cons_of_mem _ hx)
    obtain ⟨b, hb⟩ := h q (by simp)
    have h1 := hall q.2 b hb
    rw [List.flatMap_cons, Snd.gain_app, List.length_append, Int.add_mul, Int.natCast_add, Int.mul_add]
    omega
theorem sorted_eq : ∀ {a b : List Int}, a.Perm b → a.Pairwise (· ≤ ·) → b.Pairwise (· ≤ ·) → a = b
  | [], b, p, _, _ => (List.perm_nil.mp p.symm).symm
  | x :: a, [], p, _, _ => by have := p.length_eq; simp at this
  | x :: a, y :: b, p, ha, hb => by
    obtain ⟨h1, h2⟩ := List.pairwise_cons.mp ha
    obtain ⟨k1, k2⟩ := List.pairwise_cons.mp hb
    have e : x = y := by
      have hx : x ∈ y :: b := p.mem_iff.mp (by simp)
      have hy : y ∈ x :: a := p.mem_iff.mpr (by simp)
      have l1 : y ≤ x := by
        rcases List.mem_cons.mp hx with z | z
        · omega
        · exact k1 x z
      have l2 : x ≤ y := by
        rcases List.mem_cons.mp hy with z | z
        · omega
        · exact h1 y z
      omega
    subst e
    rw [sorted_eq (List.Perm.cons_inv p) h2 k2]
theorem sum_bd {g : Nat → Int} {B : Int} (hB : 0 ≤ B) : ∀ {l : List Nat}, (∀ i ∈ l, -B ≤ g i ∧ g i ≤ B) → -(B * (l.length : Int)) ≤ (l.map g).sum ∧ (l.map g).sum ≤ B * (l.length : Int)
  | [], _ => by simp
  | i :: l, h => by
    have ih := sum_bd hB fun x hx => h x (List.mem_cons_of_mem _ hx)
    have h1 := h i (by simp)
    rw [List.map_cons, List.sum_cons, List.length_cons, Int.natCast_succ, Int.mul_add]
    omega
theorem dot_bd {B : Int} (hB : 0 ≤ B) : ∀ {ns ms : List Int}, (∀ x ∈ ns, -1000 ≤ x ∧ x ≤ 1000) → (∀ x ∈ ms, -1000 ≤ x ∧ x ≤ 1000) → -(1000000 * (ns.length : Int)) ≤ dot ns ms ∧ dot ns ms ≤ 1000000 * (ns.length : Int)
  | [], _, _, _ => by simp [dot]
  | n :: ns, [], _, _ => by simp [dot]; omega
  | n :: ns, m :: ms, h1, h2 => by
    have ih := dot_bd hB (fun x hx => h1 x (List.mem_cons_of_mem _ hx)) (fun x hx => h2 x (List.mem_cons_of_mem _ hx))
    have a := h1 n (by simp)
    have b := h2 m (by simp)
    have e : dot (n :: ns) (m :: ms) = n * m + dot ns ms := by simp [dot]
    have hab : (n * m).natAbs ≤ 1000000 := by
      rw [Int.natAbs_mul]
      exact Nat.mul_le_mul (show n.natAbs ≤ 1000 by omega) (show m.natAbs ≤ 1000 by omega)
    rw [e, List.length_cons, Int.natCast_succ, Int.mul_add]
    omega
theorem Snd.gain1_bd {S : Snd} {t : Tar} {nk nh i : Nat} (o : S.Ok nk nh) (ot : t.Ok nk nh) (hk : nk ≤ 10) (hh : nh ≤ 10) (hi : i < S.arrows.length) : -20000000 ≤ S.gain1 t i ∧ S.gain1 t i ≤ 20000000 := by
  obtain ⟨b1, b2⟩ := o.bd hi
  have h1 := dot_bd (B := 0) (by omega) ot.bp b1
  have h2 := dot_bd (B := 0) (by omega) ot.bw b2
  rw [ot.prices] at h1
  rw [ot.wages] at h2
  unfold Snd.gain1
  omega
theorem vsum_bd {n : Nat} {f : Nat → List Int} {is : List Nat} (h : ∀ i ∈ is, ∀ x ∈ f i, -1000 ≤ x ∧ x ≤ 1000) (hl : is.length ≤ 1000) : ∀ x ∈ vsum n f is, -999999999999 ≤ x ∧ x ≤ 999999999999 := fun x hx => by
  obtain ⟨c, _, rfl⟩ := List.mem_map.mp hx
  have := sum_bd (g := fun i => (f i).getD c 0) (B := 1000) (by omega) (l := is) fun i hi => by
    rw [List.getD_eq_getElem?_getD]
    cases e : (f i)[c]? with
    | none => simp
    | some y => exact h i hi y (List.mem_of_getElem? e)
  omega
end
section
variable {P : Program} {w : World} {K : PySem.W.Frag} {mg : Str → Option Value} {base : Heap}
def dCut (c : List (Nat × List Nat) × List Nat) : PyData := .tuple [.list (c.1.map dRnd), dN c.2]
theorem CutAt.dp {K : PySem.W.Frag} {H : Hp} {p : Addr} {c : List (Nat × List Nat) × List Nat} (h : CutAt H p c) : Dp K H (.ref p) (dCut c) := by
  obtain ⟨r, b, xs, hp, hr, tr, hb⟩ := h
  exact .tup (SqT.of hp) (.cons (.lst (SqL.of hr) tr.dp) (.cons (TD.nats hb).dp .nil))
theorem CutAt.same {H H' : Hp} {p : Addr} {c : List (Nat × List Nat) × List Nat} (h : CutAt H p c) (e : Same H H') : CutAt H' p c := by
  obtain ⟨r, b, xs, hp, hr, tr, hb⟩ := h
  exact ⟨r, b, xs, e _ _ hp, e _ _ hr, tr.le (Same.le e), e _ _ hb⟩
theorem Snd.IsRing.len {S : Snd} {nk nh b : Nat} {r : List Nat} (o : S.Ok nk nh) (h : S.IsRing r b) : r.length ≤ 6 := by
  have p : S.Path b r b := ⟨h.chain, h.nd⟩
  exact Nat.le_trans (p.len o) o.few
structure RndOk (q : Nat × List Nat) : Prop where
  spot : q.1 < 1000000
  len : q.2.length ≤ 6
  lt : ∀ i ∈ q.2, i < 1000000
theorem fit_rnd {q : Nat × List Nat} (h : RndOk q) : Fit (dRnd q) 266 2 := by
  refine fit_tuple (n := 132) (m := 1) (k := 2) (fun d hd => ?_) (Nat.le_refl _)
  simp only [List.mem_cons, List.not_mem_nil, or_false] at hd
  rcases hd with rfl | rfl
  · exact (fit_small h.spot).mono (by omega) (by omega)
  · exact fit_dN (k := 6) h.lt h.len
theorem fit_rnds {rs : List (Nat × List Nat)} (h : ∀ q ∈ rs, RndOk q) (hl : rs.length ≤ 400) : Fit (.list (rs.map dRnd)) 106800 3 := by
  refine fit_list (n := 266) (m := 2) (k := 400) (fun d hd => ?_) (by rw [List.length_map]; exact hl)
  obtain ⟨q, hq, rfl⟩ := List.mem_map.mp hd
  exact fit_rnd (h q hq)
theorem fit_cut {c : List (Nat × List Nat) × List Nat} (h : ∀ q ∈ c.1, RndOk q) (hl : c.1.length ≤ 400) (hp : c.2.length ≤ 6) (hp2 : ∀ i ∈ c.2, i < 1000000) : Fit (dCut c) 1000000 50 := by
  refine (fit_tuple (n := 106800) (m := 3) (k := 2) (fun d hd => ?_) (Nat.le_refl _)).mono (by omega) (by omega)
  simp only [List.mem_cons, List.not_mem_nil, or_false] at hd
  rcases hd with rfl | rfl
  · exact fit_rnds h hl
  · exact (fit_dN (k := 6) hp2 hp).mono (by omega) (by omega)
/-- all that is known of the cut of a run -/
structure CutOk (S : Snd) (run : List Nat) (e : Nat) : Prop where
  c : S.CutI run run.length (S.cutF run) e
  rnd : ∀ q ∈ (S.cutF run).1, RndOk q
  path : (S.cutF run).2.length ≤ 6
  lt : ∀ i ∈ (S.cutF run).2, i < S.arrows.length
  lt2 : ∀ q ∈ (S.cutF run).1, ∀ i ∈ q.2, i < S.arrows.length
theorem cutOk {S : Snd} {nk nh : Nat} {run : List Nat} (o : S.Ok nk nh) (h : S.IsRun run) (hl : run.length ≤ 1000) : ∃ e, CutOk S run e := by
  obtain ⟨e, c⟩ := S.cutI h run.length (Nat.le_refl _)
  have om := o.many
  have lt2 : ∀ q ∈ (S.cutF run).1, ∀ i ∈ q.2, i < S.arrows.length := fun q hq i hi => by
    obtain ⟨b, hb⟩ := c.ring q hq
    exact hb.chain.lt i hi
  refine ⟨e, c, fun q hq => ?_, Nat.le_trans (c.path.len o) o.few, fun i hi => c.path.chain.lt i hi, lt2⟩
  obtain ⟨b, hb⟩ := c.ring q hq
  exact ⟨by have := c.spot q hq; omega, hb.len o, fun i hi => by have := lt2 q hq i hi; omega⟩
theorem CutOk.perm {S : Snd} {run : List Nat} {e : Nat} (c : CutOk S run e) : ((S.cutF run).1.flatMap (·.2) ++ (S.cutF run).2).Perm run := by
  have := c.c.perm
  rw [List.take_length] at this
  exact this
theorem rd_eqStr {H : Hp} {Q : VK} {x : Str} (q : Q (.bl true) H) : rEq (.str x) (.str x) H Q := ⟨rfl, by
  rw [decide_eq_true rfl]
  exact q⟩
theorem shaped_rings (rs : List (List Nat)) : SeqAt.shaped (.list (rs.map dN)) = true := shaped_list (fun d hd => by
  obtain ⟨r, _, rfl⟩ := List.mem_map.mp hd
  exact lay_dI _) fun d hd => by
  obtain ⟨r, _, rfl⟩ := List.mem_map.mp hd
  exact Nat.le_trans (depth_dI _) (by decide)
theorem shaped_dN (r : List Nat) : SeqAt.shaped (dN r) = true := Bool.and_eq_true_iff.mpr ⟨lay_dI _, decide_eq_true (Nat.le_trans (depth_dI _) (by decide))⟩
theorem any_ring {rs : List (List Nat)} {r : List Nat} (h : r ∈ rs) : ((rs.map dN).any fun z => PyData.eqv z (dN r)) = true :=
  List.any_eq_true.mpr ⟨dN r, List.mem_map_of_mem h, SeqAt.eqv_refl _ (lay_dI _)⟩
/-- lists of ints, not different -/
theorem rd_neSame {K : PySem.W.Frag} {H : Hp} {Q : VK} {a b : Addr} {ns : List Int} (h1 : H a = some (.lst (ns.map V.int))) (h2 : H b = some (.lst (ns.map V.int))) (q : Q (.bl false) H) : rNeD K (.ref a) (.ref b) H Q := by
  have lay : ∀ d ∈ ns.map PyData.int, d.canLay0 = true := fun d hd => by obtain ⟨x, _, rfl⟩ := List.mem_map.mp hd; rfl
  have dep : ∀ d ∈ ns.map PyData.int, d.depth ≤ 60 := fun d hd => by obtain ⟨x, _, rfl⟩ := List.mem_map.mp hd; exact Nat.zero_le _
  refine ⟨_, _, .lst (SqL.of h1) (TDs.ints ns).dp, .lst (SqL.of h2) (TDs.ints ns).dp, shaped_list lay dep, shaped_list lay dep, ?_⟩
  rw [SeqAt.eqv_refl (.list (ns.map PyData.int)) (layAll_of lay)]
  exact q
def lstAt (H : Hp) (q : Addr) : List V := match H q with
  | some (.lst xs) => xs
  | _ => []
theorem lstAt_of {H : Hp} {q : Addr} {xs : List V} (h : H q = some (.lst xs)) : lstAt H q = xs := by
  unfold lstAt
  rw [h]
theorem paired_flat {f : Addr → List V} : ∀ {qs : List Addr} {rs : List (Nat × List Nat)}, Paired (fun q (rd : Nat × List Nat) => f q = rd.2.map nI) qs rs → qs.flatMap f = (rs.flatMap (·.2)).map nI
  | [], [], _ => rfl
  | _ :: _, [], h => by cases h
  | [], _ :: _, h => by cases h
  | q :: qs, r :: rs, h => by
    cases h with
    | cons a t => rw [List.flatMap_cons, List.flatMap_cons, List.map_append, a, paired_flat t]
theorem paired_all {P : Addr → Prop} : ∀ {qs : List Addr} {rs : List (Nat × List Nat)}, Paired (fun q (_ : Nat × List Nat) => P q) qs rs → ∀ q ∈ qs, P q
  | [], _, _, q, hq => absurd hq List.not_mem_nil
  | _ :: _, [], h, _, _ => by cases h
  | x :: qs, r :: rs, h, q, hq => by
    cases h with
    | cons a t =>
      rcases List.mem_cons.mp hq with z | z
      · rw [z]; exact a
      · exact paired_all t q z
theorem few_ints {S : Snd} (h : S.Thin) {rs : List (Nat × List Nat)} (hr : ∀ q ∈ rs, ∃ b, S.IsRing q.2 b) (L : List (List Int)) (nd : L.Nodup) (hL : ∀ k ∈ L, k ∈ rs.map fun q => q.2.map fun (i : Nat) => (i : Int)) : L.length ≤ 60 := by
  have back : ∀ k ∈ L, ∃ q ∈ rs, k.map Int.toNat = q.2 ∧ k = q.2.map fun (i : Nat) => (i : Int) := fun k hk => by
    obtain ⟨q, hq, rfl⟩ := List.mem_map.mp (hL k hk)
    refine ⟨q, hq, ?_, rfl⟩
    rw [List.map_map]
    exact List.map_id' _
  have := h.few (L := L.map fun k => k.map Int.toNat) (by
    rw [List.Nodup, List.pairwise_map]
    refine List.Pairwise.imp_of_mem ?_ nd
    intro a b ha hb hab z
    obtain ⟨q1, _, e1, e1'⟩ := back a ha
    obtain ⟨q2, _, e2, e2'⟩ := back b hb
    rw [e1, e2] at z
    exact hab (by rw [e1', e2', z])) (fun r hr' => by
    obtain ⟨k, hk, rfl⟩ := List.mem_map.mp hr'
    obtain ⟨q, hq, e1, _⟩ := back k hk
    rw [e1]
    exact hr q hq)
  rw [List.length_map] at this
  omega
def sp_l_is_cut_right (K : PySem.W.Frag) : Sp := fun vs H Q _ => ∃ (a k h r : Addr) (W : Works) (v : V) (S : Snd) (ra : Addr) (run : List Nat) (tv : V) (t : Tar), vs = [.ref a, v, .ref ra, tv] ∧ WkAt H a k h r W ∧ SndAt H v S W.kinds.length W.hands.length ∧ H ra = some (.tup (run.map nI)) ∧ S.IsRun run ∧ run.length ≤ 400 ∧
  TD H tv (dTar t) ∧ t.Ok W.kinds.length W.hands.length ∧ RingFew S ∧ ∀ H', Same H H' → Q (.bl true) H'
/-! ### _law_is_cut_right -/
/- 0 works_here, 1 sender_here*, 2 run_here, 3 tariff, 4 rounds, 5 path, 6 ring, 7 rings_here, 8 every, 9 all_rings*, 10 places, 11 total, 12 beats, 13 lot, 14 crew, 15 many, 16 one_here, 17 other, 18 mean, 19 spot', 20 index' -/
theorem sc_l_is_cut_right : FnScope ["_law_works_here", "_law_sender_here", "_law_run_here", "_law_tariff", "_law_rounds", "_law_path", "_law_ring", "_law_rings_here", "_law_every", "_law_all_rings", "_law_places", "_law_total", "_law_beats", "_law_lot", "_law_crew", "_law_many", "_law_one_here", "_law_other", "_law_mean", "_law_spot", "_law_index"] ["_law_works_here", "_law_sender_here", "_law_run_here", "_law_tariff"] (defScope (topS 62)) := ⟨rfl, rfl, rfl, by decide +kernel, rfl, by decide +kernel, by decide +kernel⟩
theorem cl_l_is_cut_right (T : Top K mg) : ClG P w K mg base 6 "_law_is_cut_right" (sp_l_is_cut_right K) := by
  refine cl_ofG (k := 5) (N := ["_law_works_here", "_law_sender_here", "_law_run_here", "_law_tariff", "_law_rounds", "_law_path", "_law_ring", "_law_rings_here", "_law_every", "_law_all_rings", "_law_places", "_law_total", "_law_beats", "_law_lot", "_law_crew", "_law_many", "_law_one_here", "_law_other", "_law_mean", "_law_spot", "_law_index"]) (ps := ["_law_works_here", "_law_sender_here", "_law_run_here", "_law_tariff"]) (T.def_ 52 rfl) sc_l_is_cut_right (fun vs H Q E h => ?_) (fun _ _ _ _ _ _ us hl => match us, hl with | [_, _, _, _], _ => rfl) (fun f cdv A outer s H vs Q E hg hr h => ?_)
  · obtain ⟨a, k, h, r, W, v, S, ra, run, tv, t, rfl, hW, ⟨hS, hth⟩, hR, hrun, hlen, hT, hTo, hfew, q⟩ := h
    rfl
  · obtain ⟨a, k, h, r, W, v, S, ra, run, tv, t, rfl, hW, ⟨hS, hth⟩, hR, hrun, hlen, hT, hTo, hfew, q⟩ := h
    have hu := hu_of hr
    have hu65 := hu65_of hr
    have hu64 := hr.units
    refine ⟨_, (pss_cons (ps_asg (pe_cl (k := 3) (j := 5) (cl_cut T) hr (by decide) (by rfl) (pa_cons (pv 1) (pa_cons (pv 2) pa_nil))) (pg_tup rfl (pgs_cons (pg_name (i := 4) sc_l_is_cut_right.nd rfl (.inl rfl)) (pgs_cons (pg_name (i := 5) sc_l_is_cut_right.nd rfl (.inl rfl)) pgs_nil))))
  (pss_cons (ps_if (pt_not (pt_val (pe_clG (k := 1) (j := 5) (cl_l_alike T) hr hg (by decide) (by rfl) (pa_cons (pe_tup (pa_cons (pv 4) (pa_cons (pv 5) pa_nil))) (pa_cons (pe_cl (k := 1) (j := 5) (cl_l_cut T) hr (by decide) (by rfl) (pa_cons (pv 1) (pa_cons (pv 2) pa_nil))) pa_nil))))) (pss_one (ps_ret pe_bl)) pss_nil)
  (pss_cons (ps_setLc (i := 7) (own := [("_law_spot", 19), ("_law_ring", 6)]) (g := gTup K 2 (gCons (gName 19) (gCons (gName 6) gNil))) rfl sc_l_is_cut_right.nd rfl rfl (sw_true rfl rfl rfl (by decide +kernel)) (pi_list (pv 4)) (blkOk_by (N := ["_law_works_here", "_law_sender_here", "_law_run_here", "_law_tariff", "_law_rounds", "_law_path", "_law_ring", "_law_rings_here", "_law_every", "_law_all_rings", "_law_places", "_law_total", "_law_beats", "_law_lot", "_law_crew", "_law_many", "_law_one_here", "_law_other", "_law_mean", "_law_spot", "_law_index"]) (sc := defScope (topS 62)) (by decide +kernel)) (fun _ _ _ _ _ => (pg_tup rfl (pgs_cons (pg_name (i := 19) sc_l_is_cut_right.nd rfl (.inl rfl)) (pgs_cons (pg_name (i := 6) sc_l_is_cut_right.nd rfl (.inl rfl)) pgs_nil)))) (fun _ _ _ _ _ => pts_nil) (fun _ _ _ _ _ => (pv 6)))
  (pss_cons (ps_set (i := 8) sc_l_is_cut_right.nd rfl (.inl rfl) (pe_op op_cat (pe_cl (k := 1) (j := 5) (cl_l_flat T) hr (by decide) (by rfl) (pa_cons (pe_lc (own := [("_law_ring", 6)]) (g := gName 6) rfl sc_l_is_cut_right.nd  (pi_list (pv 7)) (blkOk_by (N := ["_law_works_here", "_law_sender_here", "_law_run_here", "_law_tariff", "_law_rounds", "_law_path", "_law_ring", "_law_rings_here", "_law_every", "_law_all_rings", "_law_places", "_law_total", "_law_beats", "_law_lot", "_law_crew", "_law_many", "_law_one_here", "_law_other", "_law_mean", "_law_spot", "_law_index"]) (sc := defScope (topS 62)) (by decide +kernel)) (fun _ _ _ _ _ => (pg_name (i := 6) sc_l_is_cut_right.nd rfl (.inl rfl))) (fun _ _ _ _ _ => pts_nil) (fun _ _ _ _ _ => (pe_callTy (call_listK K) (by rfl) (T.b 8 rfl) (by decide +kernel) (pa_cons (pv 6) pa_nil)))) pa_nil)) (pe_callTy (call_listK K) (by rfl) (T.b 8 rfl) (by decide +kernel) (pa_cons (pv 5) pa_nil))))
  (pss_cons (ps_set (i := 9) sc_l_is_cut_right.nd rfl (.inr rfl) (pe_cl (k := 3) (j := 5) (cl_rings_of T) hr (by decide) (by rfl) (pa_cons (pv 1) pa_nil)))
  (pss_cons (ps_if (PW.pt (pw_or (pt_cmpR (op_neDK K hr.units) (pe_callB (cr_sortedIK K) (by rfl) (T.b 6 rfl) (by decide +kernel) (pa_cons (pv 8) pa_nil)) (pe_callB cr_sortedIT (by rfl) (T.b 6 rfl) (by decide +kernel) (pa_cons (pv 2) pa_nil)) (nomark _)) (pw_or1 (pt_cmpR (op_neDK K hr.units) (pe_lc (own := [("_law_ring", 6)]) (g := gName 6) rfl sc_l_is_cut_right.nd  (pi_list (pe_sortedSet hu64 rfl (by rfl) (T.b 6 rfl) (by rfl) (T.b 9 rfl) (pv 7))) (blkOk_by (N := ["_law_works_here", "_law_sender_here", "_law_run_here", "_law_tariff", "_law_rounds", "_law_path", "_law_ring", "_law_rings_here", "_law_every", "_law_all_rings", "_law_places", "_law_total", "_law_beats", "_law_lot", "_law_crew", "_law_many", "_law_one_here", "_law_other", "_law_mean", "_law_spot", "_law_index"]) (sc := defScope (topS 62)) (by decide +kernel)) (fun _ _ _ _ _ => (pg_name (i := 6) sc_l_is_cut_right.nd rfl (.inl rfl))) (fun _ _ _ _ _ => (pts_one (pt_cmpR (op_notInDK K hu65) (pv 6) (pv 9) (by rfl)))) (fun _ _ _ _ _ => pe_int)) (pe_lst pa_nil) (nomark _))))) (pss_one (ps_ret pe_bl)) pss_nil)
  (pss_cons (ps_set (i := 10) sc_l_is_cut_right.nd rfl (.inl rfl) (pe_op op_cat (pe_lc (own := [("_law_index", 20)]) (g := gName 20) rfl sc_l_is_cut_right.nd  (pi_tup (pv 5)) (blkOk_by (N := ["_law_works_here", "_law_sender_here", "_law_run_here", "_law_tariff", "_law_rounds", "_law_path", "_law_ring", "_law_rings_here", "_law_every", "_law_all_rings", "_law_places", "_law_total", "_law_beats", "_law_lot", "_law_crew", "_law_many", "_law_one_here", "_law_other", "_law_mean", "_law_spot", "_law_index"]) (sc := defScope (topS 62)) (by decide +kernel)) (fun _ _ _ _ _ => (pg_name (i := 20) sc_l_is_cut_right.nd rfl (.inl rfl))) (fun _ _ _ _ _ => pts_nil) (fun _ _ _ _ _ => (pe_ix (ix_tupK K) (pe_ix (ix_tupK K) (pe_ix (ix_tupK K) (pv 1) pe_int (fun _ _ => rfl)) (pv 20) (fun _ _ => rfl)) pe_int (fun _ _ => rfl)))) (pe_lst (pa_cons (pe_cl (k := 1) (j := 5) (cl_l_end_of T) hr (by decide) (by rfl) (pa_cons (pv 1) (pa_cons (pv 2) pa_nil))) pa_nil))))
  (pss_cons (ps_if (PW.pt (pw_or (pt_cmpR op_ne (pe_ix (ix_listK K) (pv 10) pe_int (fun _ _ => rfl)) pe_int (nomark _)) (pw_or1 (pt_cmpR op_ne (pe_lenSetI rfl (by rfl) (T.b 0 rfl) (by rfl) (T.b 9 rfl) (pv 10)) (pe_callB (call_lenK K) (by rfl) (T.b 0 rfl) PySem.boot_len (pa_cons (pv 10) pa_nil)) (nomark _))))) (pss_one (ps_ret pe_bl)) pss_nil)
  (pss_cons (ps_par (i := 11) (j := 12) rfl sc_l_is_cut_right.nd rfl rfl (by decide) rfl rfl (pa_cons (pe_cl (k := 3) (j := 5) (cl_gain_of T) hr (by decide) (by rfl) (pa_cons (pv 1) (pa_cons (pv 3) (pa_cons (pv 5) pa_nil)))) (pa_cons (pe_op op_sub (pe_callB (call_lenK K) (by rfl) (T.b 0 rfl) PySem.boot_len (pa_cons (pv 2) pa_nil)) (pe_callB (call_lenK K) (by rfl) (T.b 0 rfl) PySem.boot_len (pa_cons (pv 5) pa_nil))) pa_nil)) (by rfl))
  (pss_cons (ps_asg (pe_cl (k := 1) (j := 5) (cl_sum_of T) hr (by decide) (by rfl) (pa_cons (pv 0) (pa_cons (pv 1) (pa_cons (pv 5) pa_nil)))) (pg_tup rfl (pgs_cons (pg_name (i := 13) sc_l_is_cut_right.nd rfl (.inl rfl)) (pgs_cons (pg_name (i := 14) sc_l_is_cut_right.nd rfl (.inl rfl)) pgs_nil))))
  (pss_cons (ps_for PassesOwn.never rfl (pi_list (pe_cl (k := 4) (j := 5) (cl_rounds_of T) hr (by decide) (by rfl) (pa_cons (pv 1) (pa_cons (pv 2) pa_nil)))) (pg_tup rfl (pgs_cons (pg_name (i := 6) sc_l_is_cut_right.nd rfl (.inl rfl)) (pgs_cons (pg_name (i := 15) sc_l_is_cut_right.nd rfl (.inl rfl)) pgs_nil)))
  (pss_cons (ps_asg (pe_cl (k := 1) (j := 5) (cl_sum_of T) hr (by decide) (by rfl) (pa_cons (pv 0) (pa_cons (pv 1) (pa_cons (pv 6) pa_nil)))) (pg_tup rfl (pgs_cons (pg_name (i := 16) sc_l_is_cut_right.nd rfl (.inl rfl)) (pgs_cons (pg_name (i := 17) sc_l_is_cut_right.nd rfl (.inl rfl)) pgs_nil))))
  (pss_one (ps_par3 (i := 13) (j := 14) (l := 11) rfl sc_l_is_cut_right.nd rfl rfl rfl (by decide) (by decide) (by decide) rfl rfl rfl (pa_cons (pe_cl (k := 1) (j := 5) (cl_l_sum T) hr (by decide) (by rfl) (pa_cons (pv 13) (pa_cons (pe_cl (k := 1) (j := 5) (cl_l_times T) hr (by decide) (by rfl) (pa_cons (pv 16) (pa_cons (pv 15) pa_nil))) pa_nil))) (pa_cons (pe_cl (k := 1) (j := 5) (cl_l_sum T) hr (by decide) (by rfl) (pa_cons (pv 14) (pa_cons (pe_cl (k := 1) (j := 5) (cl_l_times T) hr (by decide) (by rfl) (pa_cons (pv 17) (pa_cons (pv 15) pa_nil))) pa_nil))) (pa_cons (pe_op op_add (pv 11) (pe_op op_mul (pv 15) (pe_cl (k := 3) (j := 5) (cl_gain_of T) hr (by decide) (by rfl) (pa_cons (pv 1) (pa_cons (pv 3) (pa_cons (pv 6) pa_nil)))))) pa_nil))) (by rfl)))))
  (pss_cons (ps_if (pt_not (pt_val (pe_clG (k := 1) (j := 5) (cl_l_alike T) hr hg (by decide) (by rfl) (pa_cons (pe_lst (pa_cons (pe_tup (pa_cons (pv 13) (pa_cons (pv 14) pa_nil))) (pa_cons (pv 11) pa_nil))) (pa_cons (pe_lst (pa_cons (pe_cl (k := 1) (j := 5) (cl_sum_of T) hr (by decide) (by rfl) (pa_cons (pv 0) (pa_cons (pv 1) (pa_cons (pv 2) pa_nil)))) (pa_cons (pe_cl (k := 3) (j := 5) (cl_gain_of T) hr (by decide) (by rfl) (pa_cons (pv 1) (pa_cons (pv 3) (pa_cons (pv 2) pa_nil)))) pa_nil))) pa_nil))))) (pss_one (ps_ret pe_bl)) pss_nil)
  (pss_cons (ps_set (i := 18) sc_l_is_cut_right.nd rfl (.inl rfl) (pe_cl (k := 5) (j := 5) (cl_greatest_mean T) hr (by decide) (by rfl) (pa_cons (pv 1) (pa_cons (pv 3) pa_nil))))
  (pss_one (ps_ret (pe_or (pe_cmpR op_isN (pv 18) pe_non (nomark _)) (pe_one (pe_cmpR op_le (pe_op op_mul (pe_op op_sub (pv 11) (pe_cl (k := 3) (j := 5) (cl_gain_of T) hr (by decide) (by rfl) (pa_cons (pv 1) (pa_cons (pv 3) (pa_cons (pv 5) pa_nil))))) (pe_ix (ix_tupK K) (pv 18) pe_int (fun _ _ => rfl))) (pe_op op_mul (pe_ix (ix_tupK K) (pv 18) pe_int (fun _ _ => rfl)) (pv 12)) (nomark _))))))))))))))))))), ?_⟩
    obtain ⟨k1, k2, k3, k4, k5⟩ := hW.ok
    obtain ⟨e, hC⟩ := cutOk hS.ok hrun (by omega)
    have om := hS.ok.many
    have hperm := hC.perm
    have hrl : ∀ i ∈ run, i < S.arrows.length := fun i hi => hrun.choose_spec.lt i hi
    have hend : S.Chain 0 run e := by
      have := hC.c.end_
      rw [List.take_length] at this
      exact this
    have hfc : Fit (dCut (S.cutF run)) 1000000 50 := fit_cut hC.rnd (Nat.le_trans hC.c.few hlen) hC.path fun i hi => by have := hC.lt i hi; omega
    walk_at "rds"
    refine ⟨v, S, _, _, ra, run, rfl, hS, hR, hrun, by omega, fun p1 H1 s1 hc1 => ?_⟩
    obtain ⟨R, pa, xs, hp1, hR1, tR1, hpa1⟩ := id hc1
    refine rd_gtup rfl (SqT.of hp1) rfl ?_
    refine rd_gcons (rd_name (rd_gcons (rd_name (rd_gnil ?_))))
    walk_at "rds"
    refine ⟨sz_ok (by simp), fun p2 np2 => ?_⟩
    generalize eH2 : upd _ p2 _ = H2
    obtain ⟨s2, h2⟩ := new_of eH2 np2
    have s12 := s1.trans s2
    walk_at "rds"
    refine ⟨v, S, _, _, ra, run, rfl, hS.le (Same.le s12), s12 _ _ hR, hrun, by omega, fun p3 H3 s3 hc3 => ?_⟩
    have hc2 : CutAt H3 p2 (S.cutF run) := CutAt.same ⟨R, pa, xs, h2, s2 _ _ hR1, tR1.le (Same.le s2), s2 _ _ hpa1⟩ s3
    walk_at "rds"
    refine ⟨p2, p3, _, rfl, hc2.dp, hc3.dp, hfc, ?_⟩
    walk_at "rds"
    refine iteF ?_
    walk_at "rds"
    have s13 := s12.trans s3
    have hR3 := (s2.trans s3) _ _ hR1
    have tR3 := tR1.le (Same.le (s2.trans s3))
    have hpa3 := (s2.trans s3) _ _ hpa1
    have lxs := tR1.length
    rw [List.length_map] at lxs
    have hnr : (S.cutF run).1.length ≤ 400 := Nat.le_trans hC.c.few hlen
    have hrings := hC.c.ring
    have hrnd := hC.rnd
    have hpl := hC.path
    have hplt := hC.lt
    have hrlt := hC.lt2
    have hpath := hC.c.path
    have hfresh := hC.c.fresh
    clear hC hc1 hc2 hc3 hfc
    have hcut : S.cutF run = ((S.cutF run).1, (S.cutF run).2) := rfl
    generalize ers : (S.cutF run).1 = rs at *
    generalize epa : (S.cutF run).2 = path at *
    -- the rings
    refine ⟨R, rfl, ⟨_, SqL.of hR3⟩, fun D4 nD4 => ?_⟩
    refine lcw (walk_list (xs := xs)) (fun i acc H4 => Same H3 H4 ∧ TDs H4 acc ((rs.take i).map fun q => dN q.2)) ⟨Same.mut (Same.refl _) nD4, .nil⟩ (fun i acc H4 p => SqL.of (p.1 _ _ hR3))
      (fun i x acc H4 H5 hi hl hD p y => ?_) (fun rg4 H4 hD4 hl4 p => ?_)
    · obtain ⟨s4, ta⟩ := p
      obtain ⟨rfl, f1⟩ := y
      obtain ⟨d, hd, tx⟩ := (tR3.le (Same.le s4)).get' f1
      obtain ⟨i1, rfl⟩ := map_at hd
      have tk : rs.take (i + 1) = rs.take i ++ [rs[i]] := by rw [List.take_add_one, List.getElem?_eq_getElem i1]; rfl
      obtain ⟨ax, xx, rfl, ex, ty⟩ := tx.tup_inv
      cases ty with | cons t1 ty =>
      cases ty with | cons t2 ty =>
      cases ty
      rename_i v1 v2
      refine rd_gtup rfl (SqT.of ex) rfl ?_
      refine rd_gcons (rd_name (rd_gcons (rd_name (rd_gnil ⟨rfl, ?_⟩))))
      walk_at "rds"
      refine iteT ?_
      walk_at "rds"
      refine lcn hD hl (by omega) ⟨Same.mut s4 nD4, ?_⟩
      have le : Le H5 (upd H5 D4 (.lst (acc ++ [v2]))) := Le.lst (Le.refl _) hD
      rw [tk, List.map_append]
      exact (ta.le le).append (.cons (t2.le le) .nil)
    obtain ⟨s4, t4⟩ := p
    rw [lxs, List.take_length] at t4
    have l4 := t4.length
    rw [List.length_map] at l4
    have s14 := s13.trans s4
    have hpa4 := s4 _ _ hpa3
    walk_at "rds"
    -- every arrow
    refine ⟨D4, rfl, ⟨_, SqL.of hD4⟩, fun D5 nD5 => ?_⟩
    refine lcw (walk_list (xs := rg4)) (fun i acc H5 => Same H4 H5 ∧ ∃ qs : List Addr, acc = qs.map V.ref ∧ Paired (fun q (rd : Nat × List Nat) => H4 q = none ∧ q ≠ D5 ∧ H5 q = some (.lst (rd.2.map nI))) qs (rs.take i)) ⟨Same.mut (Same.refl _) nD5, [], rfl, .nil⟩ (fun i acc H5 p => SqL.of (p.1 _ _ hD4))
      (fun i x acc H5 H6 hi hl hD p y => ?_) (fun acc H5 hD5 hl5 p => ?_)
    · obtain ⟨s5, qs, rfl, pq⟩ := p
      obtain ⟨rfl, f1⟩ := y
      obtain ⟨d, hd, tx⟩ := (t4.le (Same.le s5)).get' f1
      obtain ⟨i1, rfl⟩ := map_at hd
      have tk : rs.take (i + 1) = rs.take i ++ [rs[i]] := by rw [List.take_add_one, List.getElem?_eq_getElem i1]; rfl
      obtain ⟨ax, rfl, hax⟩ := tx.nats_inv
      walk_at "rds"
      refine ⟨rfl, ?_⟩
      walk_at "rds"
      refine iteT ?_
      walk_at "rds"
      refine rd_listT (SqT.of hax) fun p6 H6 n6 s6 h6 => ?_
      have n6D : p6 ≠ D5 := fun z => by rw [z, hD] at n6; cases n6
      refine lcn (s6 _ _ hD) hl (by omega) ⟨Same.mut (s5.trans s6) nD5, qs ++ [p6], by rw [List.map_append]; rfl, ?_⟩
      rw [tk]
      refine Paired.snoc (Paired.mapP pq fun q rd hq => ?_) ⟨s5.free n6, n6D, ?_⟩
      · exact ⟨hq.1, hq.2.1, by rw [upd_ne hq.2.1]; exact s6 _ _ hq.2.2⟩
      · rw [upd_ne n6D]
        exact h6
    obtain ⟨s5, qs, rfl, pq⟩ := p
    rw [l4, List.take_length] at pq
    walk_at "rds"
    have hflat := paired_flat (f := lstAt H5) (Paired.mapP pq fun q rd hq => lstAt_of hq.2.2)
    have hlsum : (rs.flatMap (·.2)).length + path.length = run.length := by
      have := hperm.length_eq
      rw [List.length_append] at this
      exact this
    refine ⟨D5, qs, lstAt H5, rfl, hD5, paired_all (Paired.mapP pq fun q rd hq => by rw [lstAt_of hq.2.2]; exact hq.2.2), by rw [hflat, List.length_map]; omega, fun p6 H6 s6 n6 h6 => ?_⟩
    rw [hflat] at h6
    have s56 := s5.trans s6
    walk_at "rds"
    refine rd_listT (SqT.of (s56 _ _ hpa4)) fun p7 H7 n7 s7 h7 => ?_
    refine rd_cat (s7 _ _ h6) h7 (by rw [List.length_map, List.length_map]; omega) fun ev H8 n8 s8 h8 => ?_
    rw [← List.map_append] at h8
    have s48 := s56.trans (s7.trans s8)
    have s18 := s14.trans s48
    walk_at "rds"
    refine ⟨v, S, _, _, rfl, hS.le (Same.le s18), hfew, fun ar H9 xs9 rs9 s9 n9 h9 t9 l9 all9 => ?_⟩
    have hev := s9 _ _ h8
    have s19 := s18.trans s9
    walk_at "rds"
    refine ⟨ev, (rs.flatMap (·.2) ++ path).map fun (i : Nat) => (i : Int), rfl, SqL.of (by rw [hev, List.map_map]; rfl), fun ns1 p10 pm1 pw1 np10 => ?_⟩
    generalize eH10 : upd _ p10 _ = H10
    obtain ⟨s10, h10⟩ := new_of eH10 np10
    walk_at "rds"
    have hR10 := (s19.trans s10) _ _ hR
    refine ⟨ra, run.map fun (i : Nat) => (i : Int), rfl, SqT.of (by rw [hR10, List.map_map]; rfl), fun ns2 p11 pm2 pw2 np11 => ?_⟩
    generalize eH11 : upd _ p11 _ = H11
    obtain ⟨s11, h11⟩ := new_of eH11 np11
    obtain rfl : ns1 = ns2 := sorted_eq (pm1.trans ((hperm.map _).trans pm2.symm)) pw1 pw2
    refine rd_neSame (s11 _ _ h10) h11 ?_
    walk_at "rds"
    refine iteF ?_
    have s911 := s10.trans s11
    have s411 := s48.trans (s9.trans s911)
    walk_at "rds"
    have hD4' := s411 _ _ hD4
    have t4' := t4.le (Same.le s411)
    have eks : rs.map (fun q => dN q.2) = (rs.map fun q => q.2.map fun (i : Nat) => (i : Int)).map dI := by rw [List.map_map]; rfl
    refine ⟨D4, rg4, rs.map fun q => q.2.map fun (i : Nat) => (i : Int), rfl, SqL.of hD4', by rw [← eks]; exact t4', fun kk hk => ?_, by omega, fun L nd hL => few_ints hth hrings L nd hL, fun H12 ss ys s12' nss hys hss => ?_⟩
    · obtain ⟨q', hq', rfl⟩ := List.mem_map.mp hk
      obtain ⟨b, hb⟩ := hrings q' hq'
      exact fun z => hb.ne (List.map_eq_nil_iff.mp z)
    have h912 := (s911.trans s12') _ _ h9
    have t912 := t9.le (Same.le (s911.trans s12'))
    have t412 := t4'.le (Same.le s12')
    refine ⟨ss, rfl, ⟨_, SqL.of hss⟩, fun E nE => ?_⟩
    refine lcw (walk_list (xs := ys)) (fun i acc H13 => Same H12 H13 ∧ acc = []) ⟨Same.mut (Same.refl _) nE, rfl⟩ (fun i acc H13 p => SqL.of (p.1 _ _ hss)) (fun i x acc H13 H14 hi hl hE p y => ?_) (fun acc H13 hE hl13 p => ?_)
    · obtain ⟨s13', rfl⟩ := p
      obtain ⟨rfl, f1⟩ := y
      obtain ⟨d, hd, tx⟩ := t412.mem (hys x (List.mem_of_getElem? f1))
      obtain ⟨q', hq', rfl⟩ := List.mem_map.mp hd
      obtain ⟨b, hb⟩ := hrings q' hq'
      walk_at "rds"
      refine ⟨rfl, ?_⟩
      walk_at "rds"
      refine ⟨dN q'.2, rs9.map dN, (tx.le (Same.le s13')).dp, .lst (SqL.of (s13' _ _ h912)) (t912.le (Same.le s13')).dp, shaped_dN _, shaped_rings _, ?_⟩
      rw [any_ring (all9 q'.2 b hb)]
      walk_at "rds"
      refine iteF ?_
      exact lcs hE hl ⟨s13', rfl⟩
    obtain ⟨s13', rfl⟩ := p
    walk_at "rds"
    refine ⟨sz_ok (by simp), fun e14 ne14 => ?_⟩
    generalize eH14 : upd _ e14 _ = H14
    obtain ⟨s14', h14⟩ := new_of eH14 ne14
    refine rd_neNilN (bs := []) (s14' _ _ hE) h14 ?_
    walk_at "rds"
    refine iteF ?_
    walk_at "rds"
    have s414 := s411.trans (s12'.trans (s13'.trans s14'))
    have s114 := s14.trans s414
    have hpa14 := s414 _ _ hpa4
    have hS14 := hS.le (Same.le s114)
    -- the places
    refine ⟨pa, rfl, ⟨_, SqT.of hpa14⟩, fun D15 nD15 => ?_⟩
    refine lcwM walk_tup (fun i => nI (S.src (path.getD i 0))) (by rw [List.length_map]; omega) nD15 (fun H15 s15 => SqT.of (s15 _ _ hpa14)) (fun i x H15 H16 Q' hi s15 y q' => ?_) (fun H15 s15 hD15 => ?_)
    · obtain ⟨rfl, f1⟩ := y
      obtain ⟨i1, rfl⟩ := nI_at f1
      have il := hplt _ (List.getElem_mem i1)
      walk_at "rds"
      refine ⟨rfl, ?_⟩
      walk_at "rds"
      refine rd_ixT (j := 1) (hS14.le (Same.le s15)).td rfl rfl fun w1 h1 => ?_
      walk_at "rds"
      refine rd_ixT h1 rfl (Snd.dat il) fun w2 h2 => ?_
      walk_at "rds"
      refine rd_ixT (j := 0) h2 rfl rfl fun w3 h3 => ?_
      obtain rfl := h3.int_eq
      have e' : path.getD i 0 = path[i] := by rw [List.getD_eq_getElem?_getD, List.getElem?_eq_getElem i1]; rfl
      rw [e'] at q'
      exact q' _ (Same.refl _)
    rw [List.length_map, srcs] at hD15
    walk_at "rds"
    have s115 := s114.trans s15
    refine ⟨v, S, _, _, ra, run, e, rfl, hS.le (Same.le s115), s115 _ _ hR, hend, fun H16 s16 => ?_⟩
    walk_at "rds"
    refine ⟨sz_ok (by simp), fun l17 nl17 => ?_⟩
    generalize eH17 : upd _ l17 _ = H17
    obtain ⟨s17, h17⟩ := new_of eH17 nl17
    refine rd_cat ((s16.trans s17) _ _ hD15) h17 (by rw [List.length_map, List.length_map]; simp; omega) fun pl H18 n18 s18' h18 => ?_
    have hpl18 : H18 pl = some (.lst ((path.map S.src ++ [e]).map nI)) := by rw [h18, List.map_append (l₁ := path.map S.src)]; rfl
    have hnd : (path.map S.src ++ [e]).Nodup := by
      rw [List.nodup_append]
      exact ⟨hpath.nd, by simp, fun x hx y hy => by rw [List.mem_singleton.mp hy]; intro z; exact hfresh (z ▸ hx)⟩
    have hzero : ((path.map S.src ++ [e]).map nI)[0]? = some (.int ((0 : Nat) : Int)) := by
      cases hp : path with
      | nil =>
        have hc := hpath.chain
        rw [hp] at hc
        have : 0 = e := hc
        rw [← this]
        rfl
      | cons i tl =>
        have hc := hpath.chain
        rw [hp] at hc
        have : S.src i = 0 := hc.2.1
        show some (nI (S.src i)) = _
        rw [this]
        rfl
    have hll : (path.map S.src ++ [e]).length ≤ 7 := by simp; omega
    generalize path.map S.src ++ [e] = places at hpl18 hnd hzero hll
    walk_at "rds"
    refine rd_ixL (j := 0) (SqL.of hpl18) rfl hzero ?_
    walk_at "rds"
    refine iteF ?_
    walk_at "rds"
    refine ⟨pl, places.map fun (i : Nat) => (i : Int), rfl, SqL.of (by rw [hpl18, List.map_map]; rfl), by rw [List.length_map]; omega, ?_, ?_⟩
    · rw [List.Nodup, List.pairwise_map]
      exact hnd.imp fun hab z => hab (by omega)
    walk_at "rds"
    refine rd_lenL hpl18 ?_
    rw [List.length_map, List.length_map]
    walk_at "rds"
    rw [decide_eq_true rfl]
    refine iteF ?_
    have s118 := s115.trans (s16.trans (s17.trans s18'))
    have hS18 := hS.le (Same.le s118)
    have hpa18 := (s15.trans (s16.trans (s17.trans s18'))) _ _ hpa14
    have hR18 := s118 _ _ hR
    have hT18 := hT.le (Same.le s118)
    walk_at "rds"
    refine ⟨v, tv, .ref pa, S, t, _, _, path, rfl, hS18, hT18, hTo, TD.nats hpa18, hplt, by omega, fun H19 s19' => ?_⟩
    walk_at "rds"
    refine rd_lenT (s19' _ _ hR18) ?_
    walk_at "rds"
    refine rd_lenT (s19' _ _ hpa18) ?_
    rw [List.length_map, List.length_map]
    walk_at "rds"
    have s119 := s118.trans s19'
    have hW19 := hW.same s119
    have hS19 := hS.le (Same.le s119)
    have hpa19 := s19' _ _ hpa18
    refine ⟨a, k, h, .ref r, v, .ref pa, S, _, _, path, _, _, rfl, hW19.at_, SqT.of hW19.kinds, hW19.hands.sq, by rw [List.length_map], by rw [List.length_map], hS19, TD.nats hpa19, hplt, by omega, fun p20 H20 s20 h20 => ?_⟩
    obtain ⟨a20, x20, e20, hx20, tx20⟩ := h20.tup_inv
    cases e20
    cases tx20 with | cons u1 tx20 =>
    cases tx20 with | cons u2 tx20 =>
    cases tx20
    rename_i lv cv
    refine rd_gtup rfl (SqT.of hx20) rfl ?_
    refine rd_gcons (rd_name (rd_gcons (rd_name (rd_gnil ?_))))
    have s120 := s119.trans s20
    walk_at "rds"
    refine ⟨v, S, _, _, ra, run, rfl, hS.le (Same.le s120), s120 _ _ hR, hrun, by omega, fun g21 H21 ys21 kvs s21 n21 h21 t21 grp => ?_⟩
    have s121 := s120.trans s21
    refine ⟨g21, rfl, ⟨_, SqL.of h21⟩, ?_⟩
    rw [ers] at grp
    have l21 := t21.length
    rw [List.length_map] at l21
    have gle := grp.le
    have gmem := grp.mem
    rw [← wsum_nil] at u1 u2
    have hg0 : S.gain t path = gsum S t path [] := by simp [gsum]
    rw [hg0]
    refine forw (walk_list (xs := ys21)) (fun j σ H22 => ∃ (y6 y15 y16 y17 : Option V) (lv cv : V), σ = [some (.ref a), some v, some (.ref ra), some tv, some (.ref R), some (.ref pa), y6, some (.ref D4), some (.ref ev), some (.ref ar), some (.ref pl), some (.int (gsum S t path (kvs.take j))), some (.int ((run.length : Int) - (path.length : Int))), some lv, some cv, y15, y16, y17, none, none, none] ∧
        Same H21 H22 ∧ TD H22 lv (dI (wsum W.kinds.length S.amt path (kvs.take j))) ∧ TD H22 cv (dI (wsum W.hands.length S.crew path (kvs.take j))))
      ⟨_, _, _, _, lv, cv, rfl, Same.refl _, u1.le (Same.le s21), u2.le (Same.le s21)⟩ (fun j σ H22 _ pv => ?_) (fun j x σ H22 H23 hj pv y => ?_) (fun σ H22 pv => ?_)
    · obtain ⟨_, _, _, _, _, _, _, s22, _⟩ := pv
      exact SqL.of (s22 _ _ h21)
    · obtain ⟨y6, y15, y16, y17, lv, cv, rfl, s22, w1, w2⟩ := pv
      obtain ⟨rfl, f1⟩ := y
      obtain ⟨d, hd, tx⟩ := (t21.le (Same.le s22)).get' f1
      obtain ⟨j1, rfl⟩ := map_at hd
      have tk : kvs.take (j + 1) = kvs.take j ++ [kvs[j]] := by rw [List.take_add_one, List.getElem?_eq_getElem j1]; rfl
      have q1 := gle _ (List.getElem_mem j1)
      obtain ⟨q2, q3, q4⟩ := gmem _ (List.getElem_mem j1)
      have hlt := hrlt q2 q3
      have hrl2 := (hrnd q2 q3).len
      rw [q4] at hlt hrl2
      have eg : gsum S t path (kvs.take (j + 1)) = gsum S t path (kvs.take j) + (kvs[j].2 : Int) * S.gain t kvs[j].1 := by
        rw [tk]
        unfold gsum
        simp only [List.map_append, List.sum_append, List.map_cons, List.map_nil, List.sum_cons, List.sum_nil]
        omega
      have ew : ∀ (n : Nat) (f : Nat → List Int), wsum n f path (kvs.take (j + 1)) = List.zipWith (· + ·) (wsum n f path (kvs.take j)) ((vsum n f kvs[j].1).map (· * (kvs[j].2 : Int))) := fun n f => by rw [tk]; exact (wsum_snoc _ _ _ _ _ _).symm
      rw [eg, ew, ew]
      generalize kvs[j] = kv at *
      obtain ⟨ring, many⟩ := kv
      obtain ⟨ax, xx, rfl, ex, ty⟩ := tx.tup_inv
      cases ty with | cons t1 ty =>
      cases ty with | cons t2 ty =>
      cases ty
      rename_i v1 v2
      obtain rfl := t2.int_eq
      refine rd_gtup rfl (SqT.of ex) rfl ?_
      refine rd_gcons (rd_name (rd_gcons (rd_name (rd_gnil ?_))))
      have s122 := s121.trans s22
      have hW22 := hW.same s122
      have hS22 := hS.le (Same.le s122)
      walk_at "rds"
      refine ⟨a, k, h, .ref r, v, v1, S, _, _, ring, _, _, rfl, hW22.at_, SqT.of hW22.kinds, hW22.hands.sq, by rw [List.length_map], by rw [List.length_map], hS22, t1, hlt, by change ring.length ≤ 6 at hrl2; omega, fun p24 H24 s24 h24 => ?_⟩
      obtain ⟨a24, x24, e24, hx24, tx24⟩ := h24.tup_inv
      cases e24
      cases tx24 with | cons z1 tx24 =>
      cases tx24 with | cons z2 tx24 =>
      cases tx24
      rename_i o1 o2
      refine rd_gtup rfl (SqT.of hx24) rfl ?_
      refine rd_gcons (rd_name (rd_gcons (rd_name (rd_gnil ?_))))
      change many ≤ rs.length at q1
      walk_at "rds"
      refine ⟨o1, _, many, rfl, z1, by rw [vsum_len]; omega, by omega, by omega, fun p25 H25 s25 h25 => ?_⟩
      walk_at "rds"
      refine ⟨_, _, _, _, rfl, w1.le (Same.le (s24.trans s25)), h25, by rw [wsum_len]; omega, fun p26 H26 s26 h26 => ?_⟩
      walk_at "rds"
      refine ⟨o2, _, many, rfl, z2.le (Same.le (s25.trans s26)), by rw [vsum_len]; omega, by omega, by omega, fun p27 H27 s27 h27 => ?_⟩
      walk_at "rds"
      refine ⟨_, _, _, _, rfl, w2.le (Same.le (s24.trans (s25.trans (s26.trans s27)))), h27, by rw [wsum_len]; omega, fun p28 H28 s28 h28 => ?_⟩
      have s2428 := s24.trans (s25.trans (s26.trans (s27.trans s28)))
      have s128 := s122.trans s2428
      walk_at "rds"
      refine ⟨v, tv, v1, S, t, _, _, ring, rfl, hS.le (Same.le s128), hT.le (Same.le s128), hTo, t1.le (Same.le s2428), hlt, by change ring.length ≤ 6 at hrl2; omega, fun H29 s29 => ?_⟩
      refine rd_I (.inl (by omega)) ?_
      walk_at "rds"
      exact ⟨_, _, _, _, _, _, rfl, s22.trans (s2428.trans s29), h26.le (Same.le (s27.trans (s28.trans s29))), h28.le (Same.le s29)⟩
    · obtain ⟨y6, y15, y16, y17, lv, cv, rfl, s22, w1, w2⟩ := pv
      rw [l21, List.take_length] at w1 w2
      rw [l21, List.take_length]
      rw [wsum_all grp hperm] at w1 w2
      rw [gsum_all grp hperm]
      have s122 := s121.trans s22
      have hW22 := hW.same s122
      have hS22 := hS.le (Same.le s122)
      have hT22 := hT.le (Same.le s122)
      have hR22 := s122 _ _ hR
      have l1 := vsum_len W.kinds.length S.amt run
      have l2 := vsum_len W.hands.length S.crew run
      have b1 := vsum_bd (n := W.kinds.length) (f := S.amt) (is := run) (fun i hi => (hS.ok.bd (hrl i hi)).1) (by omega)
      have b2 := vsum_bd (n := W.hands.length) (f := S.crew) (is := run) (fun i hi => (hS.ok.bd (hrl i hi)).2) (by omega)
      have bg : -999999999999 ≤ S.gain t run ∧ S.gain t run ≤ 999999999999 := by
        have := sum_bd (g := S.gain1 t) (B := 20000000) (by omega) (l := run) fun i hi => Snd.gain1_bd hS.ok hTo k2 k3 (hrl i hi)
        unfold Snd.gain
        omega
      walk_at "rds"
      refine ⟨sz_ok (by simp), fun p30 np30 => ?_⟩
      generalize eH30 : upd _ p30 _ = H30
      obtain ⟨s30, h30⟩ := new_of eH30 np30
      walk_at "rds"
      refine ⟨sz_ok (by simp), fun p31 np31 => ?_⟩
      generalize eH31 : upd _ p31 _ = H31
      obtain ⟨s31, h31⟩ := new_of eH31 np31
      have s3031 := s30.trans s31
      have hW31 := hW22.same s3031
      walk_at "rds"
      refine ⟨a, k, h, .ref r, v, .ref ra, S, _, _, run, _, _, rfl, hW31.at_, SqT.of hW31.kinds, hW31.hands.sq, by rw [List.length_map], by rw [List.length_map], hS22.le (Same.le s3031), TD.nats (s3031 _ _ hR22), hrl, by omega, fun p32 H32 s32 h32 => ?_⟩
      walk_at "rds"
      have s2232 := s3031.trans s32
      refine ⟨v, tv, .ref ra, S, t, _, _, run, rfl, hS22.le (Same.le s2232), hT22.le (Same.le s2232), hTo, TD.nats (s2232 _ _ hR22), hrl, by omega, fun H33 s33 => ?_⟩
      walk_at "rds"
      refine ⟨sz_ok (by simp), fun p34 np34 => ?_⟩
      generalize eH34 : upd _ p34 _ = H34
      obtain ⟨s34, h34⟩ := new_of eH34 np34
      walk_at "rds"
      have s3134 := s32.trans (s33.trans s34)
      have le34 := Same.le (s3031.trans s3134)
      have d1 : TDs H34 [.ref p30, .int (S.gain t run)] [.tuple [dI (vsum W.kinds.length S.amt run), dI (vsum W.hands.length S.crew run)], .int (S.gain t run)] :=
        .cons (.tup ((s31.trans s3134) _ _ h30) (.cons (w1.le le34) (.cons (w2.le le34) .nil))) (.cons (.int _) .nil)
      have d2 : TDs H34 [.ref p32, .int (S.gain t run)] [.tuple [dI (vsum W.kinds.length S.amt run), dI (vsum W.hands.length S.crew run)], .int (S.gain t run)] :=
        .cons (h32.le (Same.le (s33.trans s34))) (.cons (.int _) .nil)
      have fit : Fit (.list [.tuple [dI (vsum W.kinds.length S.amt run), dI (vsum W.hands.length S.crew run)], .int (S.gain t run)]) 1000000 50 := by
        refine (fit_list (n := 842) (m := 2) (k := 2) (fun d hd => ?_) (Nat.le_refl _)).mono (by omega) (by omega)
        simp only [List.mem_cons, List.not_mem_nil, or_false] at hd
        rcases hd with rfl | rfl
        · refine fit_tuple (n := 420) (m := 1) (k := 2) (fun d hd => ?_) (Nat.le_refl _)
          simp only [List.mem_cons, List.not_mem_nil, or_false] at hd
          rcases hd with rfl | rfl
          · exact fit_dI (k := 10) b1 (by omega)
          · exact fit_dI (k := 10) b2 (by omega)
        · exact (fit_int bg.1 bg.2).mono (by omega) (by omega)
      refine ⟨p31, p34, _, rfl, .lst (SqL.of (s3134 _ _ h31)) d1.dp, .lst (SqL.of h34) d2.dp, fit, ?_⟩
      walk_at "rds"
      refine iteF ?_
      have s134 := s122.trans (s3031.trans s3134)
      walk_at "rds"
      refine ⟨v, tv, S, t, _, _, rfl, hS.le (Same.le s134), hT.le (Same.le s134), hTo, fun mv H35 s35 hm => ?_⟩
      have s135 := s134.trans s35
      walk_at "rds"
      rcases hm with ⟨rfl, _⟩ | ⟨mp, f, rfl, hf, hf1, hf2, hall⟩
      · refine ⟨rfl, ?_⟩
        walk_at "rds"
        refine iteT ?_
        exact q H35 s135
      · have hall' := hall f rfl
        refine ⟨rfl, ?_⟩
        walk_at "rds"
        refine iteF ?_
        walk_at "rds"
        have hpa35 := (s19'.trans (s20.trans (s21.trans (s22.trans (s3031.trans (s3134.trans s35)))))) _ _ hpa18
        refine ⟨v, tv, .ref pa, S, t, _, _, path, rfl, hS.le (Same.le s135), hT.le (Same.le s135), hTo, TD.nats hpa35, hplt, by omega, fun H36 s36 => ?_⟩
        walk_at "rds"
        refine rd_ixT (j := 1) (hf.le (Same.le s36)) rfl rfl fun w1 h1 => ?_
        obtain rfl := h1.int_eq
        refine rd_I (.inr (by omega)) ?_
        walk_at "rds"
        refine rd_ixT (j := 0) (hf.le (Same.le s36)) rfl rfl fun w2 h2 => ?_
        obtain rfl := h2.int_eq
        walk_at "rds"
        refine rd_I (.inr (by omega)) ?_
        walk_at "rds"
        have hb := mean_bound hall' rs hrings
        have eg : S.gain t run = S.gain t (rs.flatMap (·.2)) + S.gain t path := by rw [← Snd.gain_perm hperm, Snd.gain_app]
        have ed : (run.length : Int) - (path.length : Int) = ((rs.flatMap (·.2)).length : Int) := by omega
        have e1 : S.gain t run - S.gain t path = S.gain t (rs.flatMap (·.2)) := by omega
        rw [e1, ed, decide_eq_true hb]
        exact q H36 (s135.trans s36)
end
section
variable {P : Program} {w : World} {K : PySem.W.Frag} {mg : Str → Option Value} {base : Heap}
def sp_l_law (K : PySem.W.Frag) : Sp := fun vs H Q _ => ∃ (a : Addr) (ns : List Int), vs = [.ref a] ∧ SqL K H a (ns.map V.int) ∧ ns.length ≤ 1000000 ∧ ∀ H', Q (.bl true) H'
theorem steps_num (S : Snd) : ∃ N, ∀ ns : List Nat, ns.Pairwise (· < ·) → (∀ x, x ∈ ns ↔ S.Reach x) → (ns.map S.steps).sum = N := by
  by_cases h : ∃ ns : List Nat, ns.Pairwise (· < ·) ∧ ∀ x, x ∈ ns ↔ S.Reach x
  · obtain ⟨ms, h1, h2⟩ := h
    exact ⟨(ms.map S.steps).sum, fun ns k1 k2 => by rw [asc_ext k1 h1 fun x => (k2 x).trans (h2 x).symm]⟩
  · exact ⟨0, fun ns k1 k2 => absurd ⟨ns, k1, k2⟩ h⟩
theorem rd_cutList {H : Hp} {p : Addr} {c : List (Nat × List Nat) × List Nat} {K : PySem.W.Frag} {Q : VK} (h : CutAt H p c) (q : ∀ r xs, H r = some (.lst xs) → TDs H xs (c.1.map dRnd) → Q (.ref r) H) : rIxT K (.ref p) (.int 0) H Q := by
  obtain ⟨r, b, xs, hp, hr, tr, hb⟩ := h
  exact rd_ixTi (j := 0) hp rfl rfl (q r xs hr tr)
theorem Snd.IsRun.take {S : Snd} {run : List Nat} (h : S.IsRun run) (n : Nat) : S.IsRun (run.take n) := by
  obtain ⟨e, h⟩ := h
  rw [← List.take_append_drop n run] at h
  obtain ⟨u, h1, _⟩ := h.split
  exact ⟨u, h1⟩
/-! ### law -/
/- 0 script, 1 bag_here, 2 turn, 3 works_here, 4 sender_here, 5 run_here, 6 tariff, 7 at*, 8 less_here, 9 one_here' -/
theorem sc_l_law : FnScope ["_law_script", "_law_bag_here", "_law_turn", "_law_works_here", "_law_sender_here", "_law_run_here", "_law_tariff", "_law_at", "_law_less_here", "_law_one_here"] ["_law_script"] (defScope (topS 63)) := ⟨rfl, rfl, rfl, by decide +kernel, rfl, by decide +kernel, by decide +kernel⟩
theorem cl_l_law (T : Top K mg) : ClG P w K mg base 7 "law" (sp_l_law K) := by
  refine cl_ofG (k := 6) (N := ["_law_script", "_law_bag_here", "_law_turn", "_law_works_here", "_law_sender_here", "_law_run_here", "_law_tariff", "_law_at", "_law_less_here", "_law_one_here"]) (ps := ["_law_script"]) (T.def_ 53 rfl) sc_l_law (fun vs H Q E h => ?_) (fun _ _ _ _ _ _ us hl => match us, hl with | [_], _ => rfl) (fun f cdv A outer s H vs Q E hg hr h => ?_)
  · obtain ⟨a, ns, rfl, hA, hns, q⟩ := h
    rfl
  · obtain ⟨a, ns, rfl, hA, hns, q⟩ := h
    have hu := hu_of hr
    have hu65 := hu65_of hr
    have hu64 := hr.units
    refine ⟨_, (pss_cons (ps_set (i := 1) sc_l_law.nd rfl (.inl rfl) (pe_cl (k := 1) (j := 6) (cl_l_bag T) hr (by decide) (by rfl) (pa_cons (pv 0) pa_nil)))
  (pss_cons (ps_for PassesOwn.never rfl (pi_range1 (by rfl) (T.b 1 rfl) (pa_cons pe_int pa_nil)) (pg_name (i := 2) sc_l_law.nd rfl (.inl rfl))
  (pss_cons (ps_asg (pe_cl (k := 6) (j := 6) (cl_l_world T) hr (by decide) (by rfl) (pa_cons (pv 1) (pa_cons pe_int (pa_cons pe_int (pa_cons (pe_cl (k := 2) (j := 6) (cl_l_one T) hr (by decide) (by rfl) (pa_cons (pv 1) (pa_cons (pe_lst (pa_cons pe_int (pa_cons pe_int pa_nil))) pa_nil))) pa_nil))))) (pg_tup rfl (pgs_cons (pg_name (i := 3) sc_l_law.nd rfl (.inl rfl)) (pgs_cons (pg_name (i := 4) sc_l_law.nd rfl (.inl rfl)) pgs_nil))))
  (pss_cons (ps_par (i := 5) (j := 6) rfl sc_l_law.nd rfl rfl (by decide) rfl rfl (pa_cons (pe_cl (k := 3) (j := 6) (cl_l_run T) hr (by decide) (by rfl) (pa_cons (pv 1) (pa_cons (pv 4) (pa_cons (pe_cl (k := 2) (j := 6) (cl_l_one T) hr (by decide) (by rfl) (pa_cons (pv 1) (pa_cons (pe_lst (pa_cons pe_int (pa_cons pe_int (pa_cons pe_int pa_nil)))) pa_nil))) pa_nil)))) (pa_cons (pe_cl (k := 3) (j := 6) (cl_l_any_tariff T) hr (by decide) (by rfl) (pa_cons (pv 1) (pa_cons (pv 3) (pa_cons pe_int pa_nil)))) pa_nil)) (by rfl))
  (pss_one (ps_if (PW.pt (pw_and (pt_cmpR op_notN (pe_cl (k := 3) (j := 6) (cl_l_rings T) hr (by decide) (by rfl) (pa_cons (pv 4) (pa_cons pe_int pa_nil))) pe_non (nomark _)) (pw_and1 (pt_cmpR op_le (pe_callB (call_lenK K) (by rfl) (T.b 0 rfl) PySem.boot_len (pa_cons (pe_cl (k := 3) (j := 6) (cl_l_rings T) hr (by decide) (by rfl) (pa_cons (pv 4) (pa_cons pe_int pa_nil))) pa_nil)) pe_int (nomark _))))) (pss_cons (ps_if (pt_not (pt_val (pe_clG (k := 6) (j := 6) (cl_l_is_cut_right T) hr hg (by decide) (by rfl) (pa_cons (pv 3) (pa_cons (pv 4) (pa_cons (pv 5) (pa_cons (pv 6) pa_nil))))))) (pss_one (ps_ret pe_bl)) pss_nil)
  (pss_cons (ps_set (i := 7) sc_l_law.nd rfl (.inr rfl) (pe_cl (k := 1) (j := 6) (cl_l_take T) hr (by decide) (by rfl) (pa_cons (pv 1) (pa_cons (pe_op op_add (pe_callB (call_lenK K) (by rfl) (T.b 0 rfl) PySem.boot_len (pa_cons (pv 5) pa_nil)) pe_int) pa_nil))))
  (pss_cons (ps_setLc (i := 8) (own := [("_law_one_here", 9)]) (g := gName 9) rfl sc_l_law.nd rfl rfl (sw_true rfl rfl rfl (by decide +kernel)) (pi_list (pe_ix (ix_tupK K) (pe_cl (k := 3) (j := 6) (cl_cut T) hr (by decide) (by rfl) (pa_cons (pv 4) (pa_cons (pv 5) pa_nil))) pe_int (fun _ _ => rfl))) (blkOk_by (N := ["_law_script", "_law_bag_here", "_law_turn", "_law_works_here", "_law_sender_here", "_law_run_here", "_law_tariff", "_law_at", "_law_less_here", "_law_one_here"]) (sc := defScope (topS 63)) (by decide +kernel)) (fun _ _ _ _ _ => (pg_name (i := 9) sc_l_law.nd rfl (.inl rfl))) (fun _ _ _ _ _ => (pts_one (pt_cmpR op_lt (pe_ix (ix_tupK K) (pv 9) pe_int (fun _ _ => rfl)) (pv 7) (nomark _)))) (fun _ _ _ _ _ => (pv 9)))
  (pss_one (ps_if (pt_not (pt_val (pe_clG (k := 1) (j := 6) (cl_l_alike T) hr hg (by decide) (by rfl) (pa_cons (pe_ix (ix_tupK K) (pe_cl (k := 3) (j := 6) (cl_cut T) hr (by decide) (by rfl) (pa_cons (pv 4) (pa_cons (pe_slice (sl_tupAK K) (pv 5) po_none (po_some (pv 7))) pa_nil))) pe_int (fun _ _ => rfl)) (pa_cons (pv 8) pa_nil))))) (pss_one (ps_ret pe_bl)) pss_nil))))) pss_nil)))))
  (pss_one (ps_ret pe_bl)))), ?_⟩
    walk_at "rds"
    refine ⟨a, ns, rfl, hA, hns, fun bg c H1 s1 hB nbg => ?_⟩
    refine ⟨_, rfl, by omega, by omega, ?_⟩
    refine forw walk_range0 (fun j σ H2 => ∃ (y2 y3 y4 y5 y6 y7 y8 : Option V), σ = [some (.ref a), some (.ref bg), y2, y3, y4, y5, y6, y7, y8, none] ∧ Bag H2 bg c)
      ⟨none, none, none, none, none, none, none, rfl, hB⟩ (fun _ _ _ _ _ => trivial) (fun j x σ H2 H3 hj pv y => ?_) (fun σ H2 pv => ?_)
    · obtain ⟨y2, y3, y4, y5, y6, y7, y8, rfl, hB2⟩ := pv
      obtain ⟨rfl, rfl⟩ := y
      walk_at "rds"
      refine ⟨sz_ok (by simp), fun l3 nl3 => ?_⟩
      generalize eH3 : upd _ l3 _ = H3
      obtain ⟨s3, h3⟩ := new_of eH3 nl3
      walk_at "rds"
      have bl3 := hB2.k1 nl3
      refine ⟨bg, c, l3, _, rfl, hB2.same s3, h3, bl3, by simp, by simp, fun w H4 g4 hw => ?_⟩
      obtain ⟨m, rfl, m0, m1⟩ : ∃ m : Int, w = .int m ∧ 1 ≤ m ∧ m ≤ 6 := by
        simp only [List.mem_cons, List.not_mem_nil, or_false] at hw
        rcases hw with e | e <;> exact ⟨_, e, by omega, by omega⟩
      walk_at "rds"
      refine ⟨bg, c, m, rfl, g4.bag, m0, m1, fun p5 H5 wa k h r W v S g5 hp5 hW5 hS5 => ?_⟩
      refine rd_gtup rfl (SqT.of hp5) rfl ?_
      refine rd_gcons (rd_name (rd_gcons (rd_name (rd_gnil ?_))))
      walk_at "rds"
      refine ⟨sz_ok (by simp), fun l6 nl6 => ?_⟩
      generalize eH6 : upd _ l6 _ = H6
      obtain ⟨s6, h6⟩ := new_of eH6 nl6
      have g6 := Gn.of g5.bag s6
      walk_at "rds"
      refine ⟨bg, c, l6, _, rfl, g6.bag, h6, g5.bag.k1 nl6, by simp, by simp, fun w H7 g7 hw => ?_⟩
      obtain ⟨rm, rfl, rm1⟩ : ∃ m : Nat, w = .int (m : Int) ∧ m ≤ 400 := by
        simp only [List.mem_cons, List.not_mem_nil, or_false] at hw
        rcases hw with e | e | e
        · exact ⟨12, e, by omega⟩
        · exact ⟨40, e, by omega⟩
        · exact ⟨400, e, by omega⟩
      have g57 := g6.trans g7
      walk_at "rds"
      have hS7 : SndAt H7 v S _ _ := ⟨hS5.1.le g57.le, hS5.2⟩
      refine ⟨bg, c, v, S, _, _, rm, rfl, g7.bag, hS7.1, by omega, fun ra H8 run g8 hR8 hrun hlen => ?_⟩
      walk_at "rds"
      have g58 := g57.trans g8
      refine ⟨bg, c, wa, k, h, r, W, rfl, g8.bag, hW5.gn g58, fun ta H9 t g9 hT9 hTo => ?_⟩
      have g59 := g58.trans g9
      have hW9 := hW5.gn g59
      have hS9 : SndAt H9 v S _ _ := ⟨hS5.1.le g59.le, hS5.2⟩
      have hR9 := g9.tup hR8
      have hB9 := g9.bag
      obtain ⟨N, hN⟩ := steps_num S
      walk_at "rds"
      by_cases hNl : 4000 < N
      · refine ⟨v, S, _, _, N, rfl, hS9.1, hN, fun _ H10 s10 => ?_, fun z => absurd z (by omega)⟩
        walk_at "rds"
        refine ⟨rfl, ?_⟩
        walk_at "rds"
        refine iteF ?_
        refine iteF ?_
        walk_at "rds"
        exact ⟨_, _, _, _, _, _, _, rfl, hB9.same s10⟩
      · refine ⟨v, S, _, _, N, rfl, hS9.1, hN, fun z => absurd z hNl, fun _ p10 H10 xs10 ns10 s10 _ _ _ _ => ?_⟩
        walk_at "rds"
        refine ⟨rfl, ?_⟩
        walk_at "rds"
        refine iteT ?_
        walk_at "rds"
        refine ⟨v, S, _, _, N, rfl, hS9.1.le (Same.le s10), hN, fun z => absurd z hNl, fun _ p11 H11 xs11 ns11 s11 h11 asc11 all11 len11 => ?_⟩
        walk_at "rds"
        refine rd_lenL h11 ?_
        have s911 := s10.trans s11
        walk_at "rds"
        refine ite3 (fun hc => ?_) (fun hc => ?_)
        · have hle : xs11.length ≤ 2000 := by
            have := of_decide_eq_true hc
            omega
          have hfew : RingFew S := ⟨ns11, asc11, all11, by rw [len11] at hle; exact hle⟩
          have hW11 := hW9.same s911
          have hS11 : SndAt H11 v S _ _ := ⟨hS9.1.le (Same.le s911), hS9.2⟩
          have hR11 := s911 _ _ hR9
          have hT11 := hT9.le (Same.le s911)
          have hB11 := hB9.same s911
          walk_at "rds"
          refine ⟨wa, k, h, r, W, v, S, ra, run, .ref ta, t, rfl, hW11, hS11, hR11, hrun, by omega, hT11, hTo, hfew, fun H12 s12 => ?_⟩
          walk_at "rds"
          refine iteF ?_
          walk_at "rds"
          have hR12 := s12 _ _ hR11
          have hS12 := hS11.1.le (Same.le s12)
          refine rd_lenT hR12 ?_
          rw [List.length_map]
          walk_at "rds"
          refine ⟨bg, c, _, rfl, hB11.same s12, by omega, by omega, fun rat H13 g13 a0 a1 => ?_⟩
          obtain ⟨at_, hat⟩ : ∃ n : Nat, rat = (n : Int) := ⟨rat.toNat, by omega⟩
          subst hat
          have hat : at_ ≤ run.length := by omega
          have hR13 := g13.tup hR12
          have hS13 := hS12.le g13.le
          walk_at "rds"
          refine ⟨v, S, _, _, ra, run, rfl, hS13, hR13, hrun, by omega, fun p14 H14 s14 hc14 => ?_⟩
          walk_at "rds"
          refine rd_cutList hc14 fun R xs hR hx => ?_
          refine ⟨R, rfl, ⟨_, SqL.of hR⟩, fun D nD => ?_⟩
          obtain ⟨e, hC⟩ := cutOk hS13.ok hrun (by omega)
          have hnr : (S.cutF run).1.length ≤ 400 := Nat.le_trans hC.c.few (by omega)
          have hrnd := hC.rnd
          have hpre : (S.cutF (run.take at_)).1 = (S.cutF run).1.filter fun q => decide (q.1 < at_) := S.cutN_prefix run at_ hat
          have lxs := hx.length
          rw [List.length_map] at lxs
          generalize (S.cutF run).1 = rs at *
          refine lcw (walk_list (xs := xs)) (fun i acc H15 => Same H14 H15 ∧ TDs H15 acc (((rs.take i).filter fun q => decide (q.1 < at_)).map dRnd)) ⟨Same.mut (Same.refl _) nD, .nil⟩ (fun i acc H15 p => SqL.of (p.1 _ _ hR))
            (fun i x acc H15 H16 hi hl hD p y => ?_) (fun acc H15 hD hl15 p => ?_)
          · obtain ⟨s15, ta15⟩ := p
            obtain ⟨rfl, f1⟩ := y
            obtain ⟨d, hd, tx⟩ := (hx.le (Same.le s15)).get' f1
            obtain ⟨i1, rfl⟩ := map_at hd
            have tk : rs.take (i + 1) = rs.take i ++ [rs[i]] := by rw [List.take_add_one, List.getElem?_eq_getElem i1]; rfl
            walk_at "rds"
            refine ⟨rfl, ?_⟩
            walk_at "rds"
            refine rd_ixT (j := 0) tx rfl rfl fun w1 h1 => ?_
            obtain rfl := h1.int_eq
            walk_at "rds"
            refine ite3 (fun hc => ?_) (fun hc => ?_)
            · have hlt : rs[i].1 < at_ := by
                have := of_decide_eq_true hc
                omega
              walk_at "rds"
              refine lcn hD hl (by omega) ⟨Same.mut s15 nD, ?_⟩
              have le := Le.lst (o := .lst (acc ++ [x])) (Le.refl _) hD
              rw [tk, List.filter_append, List.map_append]
              refine (ta15.le le).append ?_
              rw [List.filter_cons, if_pos (decide_eq_true hlt)]
              exact .cons (tx.le le) .nil
            · have hge : ¬ rs[i].1 < at_ := by
                have := of_decide_eq_false hc
                omega
              refine lcs hD hl ⟨s15, ?_⟩
              rw [tk, List.filter_append, List.filter_cons, if_neg (by rw [decide_eq_false hge]; exact Bool.false_ne_true), List.filter_nil, List.append_nil]
              exact ta15
          · obtain ⟨s15, ta15⟩ := p
            rw [lxs, List.take_length, ← hpre] at ta15
            have s1315 := s14.trans s15
            have hR15 := s1315 _ _ hR13
            have hS15 := hS13.le (Same.le s1315)
            walk_at "rds"
            refine rd_slT hR15 (cutV_to _ at_) fun rb H16 s16 h16 => ?_
            rw [← List.map_take] at h16
            refine ⟨v, S, _, _, rb, run.take at_, rfl, hS15.le (Same.le s16), h16, hrun.take at_, by rw [List.length_take]; omega, fun p17 H17 s17 hc17 => ?_⟩
            walk_at "rds"
            refine rd_cutList hc17 fun R2 xs2 hR2 hx2 => ?_
            walk_at "rds"
            have s1517 := s16.trans s17
            have fit : Fit (.list ((S.cutF (run.take at_)).1.map dRnd)) 1000000 50 := by
              rw [hpre]
              refine (fit_rnds (fun q hq => hrnd q (List.mem_filter.mp hq).1) (Nat.le_trans (List.length_filter_le _ _) hnr)).mono (by omega) (by omega)
            refine ⟨R2, D, _, rfl, .lst (SqL.of hR2) hx2.dp, .lst (SqL.of (s1517 _ _ hD)) (ta15.le (Same.le s1517)).dp, fit, ?_⟩
            walk_at "rds"
            refine iteF ?_
            walk_at "rds"
            exact ⟨_, _, _, _, _, _, _, rfl, ((g13.bag.same s14).same s15).same s1517⟩
        · walk_at "rds"
          exact ⟨_, _, _, _, _, _, _, rfl, hB9.same s911⟩
    · obtain ⟨y2, y3, y4, y5, y6, y7, y8, rfl, hB2⟩ := pv
      walk_at "rds"
      exact q H2
end
end NH
open PySem PySem.W PyProof.Rows
set_option maxRecDepth 100000 in
set_option maxHeartbeats 0 in
theorem PySem.Challenge.cw_neverheaps_k41_whole_rounds_make_up_the_holds : PySem.Challenge.rw_neverheaps_k41_whole_rounds_make_up_the.Holds := by
  w_on; o_law; k_head; (case hw => w_witness2)
  k_fill
  refine NH.walkG (l := PySem.Challenge.rw_neverheaps_k41_whole_rounds_make_up_the) (n := 63) (k := 7) (sp := NH.sp_l_law) rfl (by decide) rfl ⟨rfl, by decide, by decide⟩ (fun w h Y => PySem.W.kIn_of Y) ?C fun K H a ns le S => ⟨a, ns, rfl, S, Nat.le_trans le (by decide), fun _ => rfl⟩
  intro w mg h KX G base
  refine NH.cl_l_law ?T
  refine' NH.top_mk KX G ?d ?n ?m
  (case m => k_is)
  case d =>
    refine' NH.all_cons (NH.has_def (x := "common") (i := 4) KX G ?a0 ?l0 ?c0) ?r0
    (case a0 => k_is); (case l0 => k_is); (case c0 => k_is)
    refine' NH.all_cons (NH.has_def (x := "lowest") (i := 5) KX G ?a1 ?l1 ?c1) ?r1
    (case a1 => k_is); (case l1 => k_is); (case c1 => k_is)
    refine' NH.all_cons (NH.has_def (x := "product_of") (i := 6) KX G ?a2 ?l2 ?c2) ?r2
    (case a2 => k_is); (case l2 => k_is); (case c2 => k_is)
    refine' NH.all_cons (NH.has_def (x := "worth") (i := 8) KX G ?a3 ?l3 ?c3) ?r3
    (case a3 => k_is); (case l3 => k_is); (case c3 => k_is)
    refine' NH.all_cons (NH.has_def (x := "pay") (i := 9) KX G ?a4 ?l4 ?c4) ?r4
    (case a4 => k_is); (case l4 => k_is); (case c4 => k_is)
    refine' NH.all_cons (NH.has_def (x := "arrows_from") (i := 12) KX G ?a5 ?l5 ?c5) ?r5
    (case a5 => k_is); (case l5 => k_is); (case c5 => k_is)
    refine' NH.all_cons (NH.has_def (x := "come_to") (i := 13) KX G ?a6 ?l6 ?c6) ?r6
    (case a6 => k_is); (case l6 => k_is); (case c6 => k_is)
    refine' NH.all_cons (NH.has_def (x := "leading_to") (i := 14) KX G ?a7 ?l7 ?c7) ?r7
    (case a7 => k_is); (case l7 => k_is); (case c7 => k_is)
    refine' NH.all_cons (NH.has_def (x := "rings_from") (i := 15) KX G ?a8 ?l8 ?c8) ?r8
    (case a8 => k_is); (case l8 => k_is); (case c8 => k_is)
    refine' NH.all_cons (NH.has_def (x := "rings_of") (i := 16) KX G ?a9 ?l9 ?c9) ?r9
    (case a9 => k_is); (case l9 => k_is); (case c9 => k_is)
    refine' NH.all_cons (NH.has_def (x := "sum_of") (i := 17) KX G ?a10 ?l10 ?c10) ?r10
    (case a10 => k_is); (case l10 => k_is); (case c10 => k_is)
    refine' NH.all_cons (NH.has_def (x := "gain_of") (i := 18) KX G ?a11 ?l11 ?c11) ?r11
    (case a11 => k_is); (case l11 => k_is); (case c11 => k_is)
    refine' NH.all_cons (NH.has_def (x := "is_above") (i := 20) KX G ?a12 ?l12 ?c12) ?r12
    (case a12 => k_is); (case l12 => k_is); (case c12 => k_is)
    refine' NH.all_cons (NH.has_def (x := "gains_by") (i := 21) KX G ?a13 ?l13 ?c13) ?r13
    (case a13 => k_is); (case l13 => k_is); (case c13 => k_is)
    refine' NH.all_cons (NH.has_def (x := "led_once") (i := 22) KX G ?a14 ?l14 ?c14) ?r14
    (case a14 => k_is); (case l14 => k_is); (case c14 => k_is)
    refine' NH.all_cons (NH.has_def (x := "least_mean_back") (i := 23) KX G ?a15 ?l15 ?c15) ?r15
    (case a15 => k_is); (case l15 => k_is); (case c15 => k_is)
    refine' NH.all_cons (NH.has_def (x := "greatest_mean") (i := 24) KX G ?a16 ?l16 ?c16) ?r16
    (case a16 => k_is); (case l16 => k_is); (case c16 => k_is)
    refine' NH.all_cons (NH.has_def (x := "turned_ring") (i := 25) KX G ?a17 ?l17 ?c17) ?r17
    (case a17 => k_is); (case l17 => k_is); (case c17 => k_is)
    refine' NH.all_cons (NH.has_def (x := "grown") (i := 27) KX G ?a18 ?l18 ?c18) ?r18
    (case a18 => k_is); (case l18 => k_is); (case c18 => k_is)
    refine' NH.all_cons (NH.has_def (x := "cut") (i := 28) KX G ?a19 ?l19 ?c19) ?r19
    (case a19 => k_is); (case l19 => k_is); (case c19 => k_is)
    refine' NH.all_cons (NH.has_def (x := "rounds_of") (i := 29) KX G ?a20 ?l20 ?c20) ?r20
    (case a20 => k_is); (case l20 => k_is); (case c20 => k_is)
    refine' NH.all_cons (NH.has_def (x := "_law_bag") (i := 31) KX G ?a21 ?l21 ?c21) ?r21
    (case a21 => k_is); (case l21 => k_is); (case c21 => k_is)
    refine' NH.all_cons (NH.has_def (x := "_law_take") (i := 32) KX G ?a22 ?l22 ?c22) ?r22
    (case a22 => k_is); (case l22 => k_is); (case c22 => k_is)
    refine' NH.all_cons (NH.has_def (x := "_law_one") (i := 33) KX G ?a23 ?l23 ?c23) ?r23
    (case a23 => k_is); (case l23 => k_is); (case c23 => k_is)
    refine' NH.all_cons (NH.has_def (x := "_law_mixed") (i := 34) KX G ?a24 ?l24 ?c24) ?r24
    (case a24 => k_is); (case l24 => k_is); (case c24 => k_is)
    refine' NH.all_cons (NH.has_def (x := "_law_alike") (i := 35) KX G ?a25 ?l25 ?c25) ?r25
    (case a25 => k_is); (case l25 => k_is); (case c25 => k_is)
    refine' NH.all_cons (NH.has_def (x := "_law_flat") (i := 36) KX G ?a26 ?l26 ?c26) ?r26
    (case a26 => k_is); (case l26 => k_is); (case c26 => k_is)
    refine' NH.all_cons (NH.has_def (x := "_law_sum") (i := 37) KX G ?a27 ?l27 ?c27) ?r27
    (case a27 => k_is); (case l27 => k_is); (case c27 => k_is)
    refine' NH.all_cons (NH.has_def (x := "_law_less") (i := 38) KX G ?a28 ?l28 ?c28) ?r28
    (case a28 => k_is); (case l28 => k_is); (case c28 => k_is)
    refine' NH.all_cons (NH.has_def (x := "_law_times") (i := 39) KX G ?a29 ?l29 ?c29) ?r29
    (case a29 => k_is); (case l29 => k_is); (case c29 => k_is)
    refine' NH.all_cons (NH.has_def (x := "_law_names") (i := 40) KX G ?a30 ?l30 ?c30) ?r30
    (case a30 => k_is); (case l30 => k_is); (case c30 => k_is)
    refine' NH.all_cons (NH.has_def (x := "_law_recipe") (i := 41) KX G ?a31 ?l31 ?c31) ?r31
    (case a31 => k_is); (case l31 => k_is); (case c31 => k_is)
    refine' NH.all_cons (NH.has_def (x := "_law_out") (i := 42) KX G ?a32 ?l32 ?c32) ?r32
    (case a32 => k_is); (case l32 => k_is); (case c32 => k_is)
    refine' NH.all_cons (NH.has_def (x := "_law_works") (i := 43) KX G ?a33 ?l33 ?c33) ?r33
    (case a33 => k_is); (case l33 => k_is); (case c33 => k_is)
    refine' NH.all_cons (NH.has_def (x := "_law_nothing") (i := 44) KX G ?a34 ?l34 ?c34) ?r34
    (case a34 => k_is); (case l34 => k_is); (case c34 => k_is)
    refine' NH.all_cons (NH.has_def (x := "_law_wants") (i := 45) KX G ?a35 ?l35 ?c35) ?r35
    (case a35 => k_is); (case l35 => k_is); (case c35 => k_is)
    refine' NH.all_cons (NH.has_def (x := "_law_planted") (i := 46) KX G ?a36 ?l36 ?c36) ?r36
    (case a36 => k_is); (case l36 => k_is); (case c36 => k_is)
    refine' NH.all_cons (NH.has_def (x := "_law_part") (i := 47) KX G ?a37 ?l37 ?c37) ?r37
    (case a37 => k_is); (case l37 => k_is); (case c37 => k_is)
    refine' NH.all_cons (NH.has_def (x := "_law_arrow") (i := 48) KX G ?a38 ?l38 ?c38) ?r38
    (case a38 => k_is); (case l38 => k_is); (case c38 => k_is)
    refine' NH.all_cons (NH.has_def (x := "_law_links") (i := 49) KX G ?a39 ?l39 ?c39) ?r39
    (case a39 => k_is); (case l39 => k_is); (case c39 => k_is)
    refine' NH.all_cons (NH.has_def (x := "_law_held_sender") (i := 50) KX G ?a40 ?l40 ?c40) ?r40
    (case a40 => k_is); (case l40 => k_is); (case c40 => k_is)
    refine' NH.all_cons (NH.has_def (x := "_law_any_sender") (i := 51) KX G ?a41 ?l41 ?c41) ?r41
    (case a41 => k_is); (case l41 => k_is); (case c41 => k_is)
    refine' NH.all_cons (NH.has_def (x := "_law_bent_sender") (i := 52) KX G ?a42 ?l42 ?c42) ?r42
    (case a42 => k_is); (case l42 => k_is); (case c42 => k_is)
    refine' NH.all_cons (NH.has_def (x := "_law_sender") (i := 53) KX G ?a43 ?l43 ?c43) ?r43
    (case a43 => k_is); (case l43 => k_is); (case c43 => k_is)
    refine' NH.all_cons (NH.has_def (x := "_law_arrows_from") (i := 54) KX G ?a44 ?l44 ?c44) ?r44
    (case a44 => k_is); (case l44 => k_is); (case c44 => k_is)
    refine' NH.all_cons (NH.has_def (x := "_law_come_to") (i := 55) KX G ?a45 ?l45 ?c45) ?r45
    (case a45 => k_is); (case l45 => k_is); (case c45 => k_is)
    refine' NH.all_cons (NH.has_def (x := "_law_run") (i := 56) KX G ?a46 ?l46 ?c46) ?r46
    (case a46 => k_is); (case l46 => k_is); (case c46 => k_is)
    refine' NH.all_cons (NH.has_def (x := "_law_end_of") (i := 57) KX G ?a47 ?l47 ?c47) ?r47
    (case a47 => k_is); (case l47 => k_is); (case c47 => k_is)
    refine' NH.all_cons (NH.has_def (x := "_law_rings") (i := 58) KX G ?a48 ?l48 ?c48) ?r48
    (case a48 => k_is); (case l48 => k_is); (case c48 => k_is)
    refine' NH.all_cons (NH.has_def (x := "_law_cut") (i := 59) KX G ?a49 ?l49 ?c49) ?r49
    (case a49 => k_is); (case l49 => k_is); (case c49 => k_is)
    refine' NH.all_cons (NH.has_def (x := "_law_any_tariff") (i := 60) KX G ?a50 ?l50 ?c50) ?r50
    (case a50 => k_is); (case l50 => k_is); (case c50 => k_is)
    refine' NH.all_cons (NH.has_def (x := "_law_world") (i := 61) KX G ?a51 ?l51 ?c51) ?r51
    (case a51 => k_is); (case l51 => k_is); (case c51 => k_is)
    refine' NH.all_cons (NH.has_def (x := "_law_is_cut_right") (i := 62) KX G ?a52 ?l52 ?c52) ?r52
    (case a52 => k_is); (case l52 => k_is); (case c52 => k_is)
    refine' NH.all_cons (NH.has_def (x := "law") (i := 63) KX G ?a53 ?l53 ?c53) ?r53
    (case a53 => k_is); (case l53 => k_is); (case c53 => k_is)
    exact NH.all_nil
  case n =>
    refine' NH.all_cons (show PySem.W.nsIn _ mainGlobals "len" = some none from ?z0) ?s0
    (case z0 => k_is)
    refine' NH.all_cons (show PySem.W.nsIn _ mainGlobals "range" = some none from ?z1) ?s1
    (case z1 => k_is)
    refine' NH.all_cons (show PySem.W.nsIn _ mainGlobals "abs" = some none from ?z2) ?s2
    (case z2 => k_is)
    refine' NH.all_cons (show PySem.W.nsIn _ mainGlobals "min" = some none from ?z3) ?s3
    (case z3 => k_is)
    refine' NH.all_cons (show PySem.W.nsIn _ mainGlobals "max" = some none from ?z4) ?s4
    (case z4 => k_is)
    refine' NH.all_cons (show PySem.W.nsIn _ mainGlobals "sum" = some none from ?z5) ?s5
    (case z5 => k_is)
    refine' NH.all_cons (show PySem.W.nsIn _ mainGlobals "sorted" = some none from ?z6) ?s6
    (case z6 => k_is)
    refine' NH.all_cons (show PySem.W.nsIn _ mainGlobals "tuple" = some none from ?z7) ?s7
    (case z7 => k_is)
    refine' NH.all_cons (show PySem.W.nsIn _ mainGlobals "list" = some none from ?z8) ?s8
    (case z8 => k_is)
    refine' NH.all_cons (show PySem.W.nsIn _ mainGlobals "set" = some none from ?z9) ?s9
    (case z9 => k_is)
    refine' NH.all_cons (show PySem.W.nsIn _ mainGlobals "int" = some none from ?z10) ?s10
    (case z10 => k_is)
    refine' NH.all_cons (show PySem.W.nsIn _ mainGlobals "repr" = some none from ?z11) ?s11
    (case z11 => k_is)
    refine' NH.all_cons (show PySem.W.nsIn _ mainGlobals "zip" = some none from ?z12) ?s12
    (case z12 => k_is)
    refine' NH.all_cons (show PySem.W.nsIn _ mainGlobals "enumerate" = some none from ?z13) ?s13
    (case z13 => k_is)
    exact NH.all_nil
