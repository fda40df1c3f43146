import PyProof.Rows.All
import Wide.All
import OpenK.AllK
import Wide.FinOn
import HandS.ForMost
import HandS.Wide
import HandS.IsInst
import HandS.SortInts
import HandS.TupAny
import HandS.WideBits
import HandS.Evl
import KE.KItemsList
import KE.KDictList
import KE.GoesMore
import HandS.Conv
import HandS.Sort
import HandS.More
import HandS.SetFor
import HandS.Style
import HandS.Set
import HandS.SortOrd
import PyProof.EnumMake
import PyProof.Draws
import PyProof.WalksMore
import PyProof.SumWalkG
import PySem.Challenge.RW_powernumbers_k21_can_be_by_rests
set_option Elab.async false
set_option linter.all false
set_option maxRecDepth 100000
namespace Pn
open PySem PySem.Spec PyProof.Rows L2
/-! ### a def that stands in the module, with its promise -/
structure Fn (P : Program) (w : World) (K : PySem.W.Frag) (mg : PySem.Str → Option Value) (base : Heap) (CX : CXT) (k : Nat) (x : PySem.Str) (ps : List PySem.Str) (sp : Sp) : Prop where
  ex : ∃ (f : Addr) (fd : FuncData), mg x = some (.ref f) ∧ PySem.W.keepIn K (.ref f) = true ∧ Binds K fd ps [] ∧ FnOk P w K mg base CX k f fd ps sp
def tFn (sp : Sp) (E : XK) (t : TA) : TE := fun σ H Q => t σ H fun vs H1 => sp vs H1 Q E
section
variable {X : Cx} {CX : CXT} {k : Nat} {x : PySem.Str} {ps : List PySem.Str} {sp : Sp} {E : XK} {t : TA} {e : Expr} {es : List Expr} {p pos : Pos}
theorem pe_fnX (h : Fn X.prog X.w X.K X.mg X.base CX k x ps sp) (hr : Room k X.A) (hg : Gl X x) (hx : Passes CX X E) (ha : PA X (e :: es) t) (hdb : (x == ("__debug__" : PySem.Str)) = false := by decide)
    (he : starEach (e :: es) X.env = (false, eval e X.env) :: starEach es X.env := by rfl) (hpl : (backTo pos (starEach es X.env)).any (·.1) = false := by rfl) :
    PE X (.Call (.Name x p) (e :: es) [] pos) (tFn sp E t) := by
  obtain ⟨f, fd, hm, hk, hb, F⟩ := h.ex
  have g := pe_call (p := p) (pos := pos) F hr hg hm hk hb .nil hx ha hdb he hpl
  have e1 : tCall sp [] E t = tFn sp E t := by
    unfold tCall tFn
    simp only [List.append_nil]
  rw [← e1]
  exact g
theorem pe_fn (h : Fn X.prog X.w X.K X.mg X.base CX0 k x ps sp) (hr : Room k X.A) (hg : Gl X x) (ha : PA X (e :: es) t) (hdb : (x == ("__debug__" : PySem.Str)) = false := by decide)
    (he : starEach (e :: es) X.env = (false, eval e X.env) :: starEach es X.env := by rfl) (hpl : (backTo pos (starEach es X.env)).any (·.1) = false := by rfl) :
    PE X (.Call (.Name x p) (e :: es) [] pos) (tFn sp E0 t) := pe_fnX h hr hg pass0 ha hdb he hpl
end
/-- a promise of nothing -/
theorem fn_vac {P : Program} {w : World} {K : PySem.W.Frag} {mg : PySem.Str → Option Value} {base : Heap} {CX : CXT} {k : Nat} {f : Addr} {fd : FuncData} {ps : List PySem.Str} {sp : Sp} (h : ∀ vs H Q E, ¬ sp vs H Q E) : FnOk P w K mg base CX k f fd ps sp :=
  ⟨fun vs H Q E q => (h vs H Q E q).elim, fun _ _ _ _ _ _ _ _ _ _ _ _ _ q => (h _ _ _ _ q).elim⟩
/-! ### rules by values, the written part named (in a comprehension's block X is another one) -/
def rLen (K : PySem.W.Frag) : List V → Hp → VK → Prop := fun xs H Q => ∃ p ys, xs = [.ref p] ∧ (SqL K H p ys ∨ SqT K H p ys) ∧ Q (.int ys.length) H
def rListO (K : PySem.W.Frag) : List V → Hp → VK → Prop := fun xs H Q => ∃ p ys, xs = [.ref p] ∧ (SqL K H p ys ∨ SqT K H p ys) ∧ ∀ l, H l = none → Q (.ref l) (upd H l (.lst ys))
def rTupO (K : PySem.W.Frag) : List V → Hp → VK → Prop := fun xs H Q => ∃ p ys, xs = [.ref p] ∧ ((SqL K H p ys ∧ ∀ l, H l = none → Q (.ref l) (upd H l (.tup ys))) ∨ (SqT K H p ys ∧ Q (.ref p) H))
section
variable {X : Cx} (K : PySem.W.Frag)
theorem k_len (h : X.K = K := by rfl) : CallR X (.builtin "len") (rLen K) := by subst h; exact call_len_seq
theorem k_isi (h : X.K = K := by rfl) : CallR X (.builtin "isinstance") (rIsi K) := by subst h; exact call_isi
theorem k_sum (h : X.K = K := by rfl) (hc : X.calm = true := by rfl) : CallR X (.builtin "sum") (rSum K) := by subst h; exact cr_sum hc
theorem k_min (h : X.K = K := by rfl) (hc : X.calm = true := by rfl) : CallR X (.builtin "min") (rMin K) := by subst h; exact cr_min hc
theorem k_max (h : X.K = K := by rfl) (hc : X.calm = true := by rfl) : CallR X (.builtin "max") (rMax K) := by subst h; exact cr_max hc
theorem k_sorted (h : X.K = K := by rfl) : CallR X (.builtin "sorted") (rSortedI K) := by subst h; exact cr_sortedI
theorem k_list (h : X.K = K := by rfl) : CallR X (.type "list") (rListO K) := by subst h; exact call_list_of
theorem k_tuple (h : X.K = K := by rfl) : CallR X (.type "tuple") (rTupO K) := by subst h; exact call_tuple_of
theorem k_ixL (h : X.K = K := by rfl) : IxR X (rIxL K) := by subst h; exact ix_list
theorem k_ixT (h : X.K = K := by rfl) : IxR X (rIxT K) := by subst h; exact ix_tup
theorem k_slL (h : X.K = K := by rfl) : SlR X (rSlL K) := by subst h; exact sl_list
theorem k_eqD (h : X.K = K := by rfl) (hu : X.A.units + 64 < cLine) : OpR X (compareOp .Eq) (rEqD K) := by subst h; exact op_eqD hu
theorem k_neD (h : X.K = K := by rfl) (hu : X.A.units + 64 < cLine) : OpR X (compareOp .NotEq) (rNeD K) := by subst h; exact op_neD hu
theorem k_in (h : X.K = K := by rfl) : OpR X (compareOp .In) (rIn K false) := by subst h; exact op_in_seq
theorem k_notIn (h : X.K = K := by rfl) : OpR X (compareOp .NotIn) (rIn K true) := by subst h; exact op_notIn_seq
theorem k_catT (h : X.K = K := by rfl) : OpR X (binaryOp .Add) (rCatA K) := by subst h; exact op_catA
def tTru (K : PySem.W.Frag) (ta : TE) : TT := fun σ H Q => ta σ H fun x H' => ∃ k, TruV K x H' k ∧ Q k H'
theorem pt_tru {a : Expr} {ta : TE} (ha : PE X a ta) (he : ∀ whole, isTrue a X.env whole = (do let v ← whole; standAt a.pos; holding [v] (truthy v)) := by intro _; rfl) (h : X.K = K := by rfl) : PT X a (tTru K ta) := by subst h; exact pt_truth ha he
end
/-! ### readings, applied -/
section
variable {σ : L2.St} {H : Hp} {Q : VK} {QT : Bool → Hp → Prop} {QA : List V → Hp → Prop} {K : PySem.W.Frag} {ta tb te : TE} {t u : TT} {tr : TA} {D : Ends} {s1 s2 : TS} {x y v : V}
theorem w_var {i : Nat} : tVar i σ H Q = ∃ v, σ[i]? = some (some v) ∧ Q v H := rfl
theorem w_c : tC v σ H Q = Q v H := rfl
theorem w_op {r : R2} : tOp r ta tb σ H Q = ta σ H fun x H1 => tb σ H1 fun y H2 => r x y H2 Q := rfl
theorem w_I0 {g : Int → Int → V} : rI0 g x y H Q = ∃ i j, x = .int i ∧ y = .int j ∧ Q (g i j) H := rfl
theorem w_I {C : Int → Int → Prop} {g : Int → Int → V} : rI C g x y H Q = ∃ i j, x = .int i ∧ y = .int j ∧ C i j ∧ Q (g i j) H := rfl
theorem w_un {r : V → Hp → VK → Prop} : tUn r ta σ H Q = ta σ H fun x H1 => r x H1 Q := rfl
theorem w_U {g : Int → V} : rU g x H Q = ∃ i, x = .int i ∧ Q (g i) H := rfl
theorem w_eq : rEq x y H Q = (scal x y = true ∧ Q (.bl (decide (x = y))) H) := rfl
theorem w_ne : rNe x y H Q = (scal x y = true ∧ Q (.bl (!decide (x = y))) H) := rfl
theorem w_test : tTest ta σ H QT = ta σ H fun x H1 => ∃ k, x = .bl k ∧ QT k H1 := rfl
theorem w_B : tB ta σ H QT = ta σ H fun x H1 => ∃ k, x = .bl k ∧ QT k H1 := rfl
theorem w_and : tAnd t u σ H QT = t σ H fun c H1 => if c = true then u σ H1 QT else QT false H1 := rfl
theorem w_or : tOr t u σ H QT = t σ H fun c H1 => if c = true then QT true H1 else u σ H1 QT := rfl
theorem w_not : tNot t σ H QT = t σ H fun c H1 => QT (!c) H1 := rfl
theorem w_andV : tAndV ta tb σ H Q = ta σ H fun x H1 => ∃ c, x = .bl c ∧ if c = true then tb σ H1 Q else Q (.bl false) H1 := rfl
theorem w_orV : tOrV ta tb σ H Q = ta σ H fun x H1 => ∃ c, x = .bl c ∧ if c = true then Q (.bl true) H1 else tb σ H1 Q := rfl
theorem w_notV : tNotV ta σ H Q = ta σ H fun x H1 => ∃ c, x = .bl c ∧ Q (.bl (!c)) H1 := rfl
theorem w_ife : tIf t ta tb σ H Q = t σ H fun c H1 => if c = true then ta σ H1 Q else tb σ H1 Q := rfl
theorem w_nil : tNil σ H QA = QA [] H := rfl
theorem w_cons : tCons ta tr σ H QA = ta σ H fun x H1 => tr σ H1 fun xs H2 => QA (x :: xs) H2 := rfl
theorem w_fn {sp : Sp} {E : XK} : tFn sp E tr σ H Q = tr σ H fun vs H1 => sp vs H1 Q E := rfl
theorem w_cb {r : List V → Hp → VK → Prop} : tCB r tr σ H Q = tr σ H fun vs H1 => r vs H1 Q := rfl
theorem w_tup : tTup tr σ H Q = tr σ H fun xs H1 => xs.length ≤ sizeLine ∧ ∀ p, H1 p = none → Q (.ref p) (upd H1 p (.tup xs)) := rfl
theorem w_lst : tLst tr σ H Q = tr σ H fun xs H1 => xs.length ≤ sizeLine ∧ ∀ p, H1 p = none → Q (.ref p) (upd H1 p (.lst xs)) := rfl
theorem w_seq : tSeq s1 s2 D σ H = s1 { D with nx := s2 D } σ H := rfl
theorem w_next : tNext D σ H = D.nx σ H := rfl
theorem w_brk : tBreak D σ H = D.bk σ H := rfl
theorem w_ct : tCont D σ H = D.ct σ H := rfl
theorem w_drop : tDrop te D σ H = te σ H fun _ H1 => D.nx σ H1 := rfl
theorem w_ret : tRet te D σ H = te σ H D.rt := rfl
theorem w_retN : tRetN D σ H = D.rt .non H := rfl
theorem w_ifS : tIfS t s1 s2 D σ H = t σ H fun b H1 => if b = true then s1 D σ H1 else s2 D σ H1 := rfl
theorem w_asgN {i : Nat} : tAsg te (gName i) D σ H = te σ H fun x H1 => D.nx (σ.set i (some x)) H1 := rfl
theorem w_asgT {n : Nat} {t : TGs} : tAsg te (gTup K n t) D σ H = te σ H fun v H1 => ∃ a xs, v = .ref a ∧ SqT K H1 a xs ∧ xs.length = n ∧ t xs σ H1 D.nx := rfl
theorem w_asgS {to ti : TE} {ts : TSet} : tAsg te (gSub to ti ts) D σ H = te σ H fun v H1 => to σ H1 fun o H2 => ti σ H2 fun i H3 => ts o i v H3 fun H4 => D.nx σ H4 := rfl
theorem w_gName {i : Nat} {QN : L2.St → Hp → Prop} : gName i v σ H QN = QN (σ.set i (some v)) H := rfl
theorem w_gNil {vs : List V} {QN : L2.St → Hp → Prop} : gNil vs σ H QN = (vs = [] ∧ QN σ H) := rfl
theorem w_gCons {g : TG} {gs : TGs} {vs : List V} {QN : L2.St → Hp → Prop} : gCons g gs vs σ H QN = ∃ v r, vs = v :: r ∧ g v σ H fun σ' H' => gs r σ' H' QN := rfl
theorem w_par {i j : Nat} : tPar i j tr D σ H = tr σ H fun vs H1 => ∃ v w, vs = [v, w] ∧ D.nx ((σ.set i (some v)).set j (some w)) H1 := rfl
theorem w_bits : tBits te σ H Q = te σ H fun x H1 => ∃ i, x = .int i ∧ Q (.int (Builtin.Int.intBits i : Nat)) H1 := rfl
theorem w_sl {r : V → Option Int → Option Int → Hp → VK → Prop} {tl th : TO} : tSl r te tl th σ H Q = te σ H fun x H1 => tl σ H1 fun l H2 => th σ H2 fun u H3 => r x l u H3 Q := rfl
theorem w_np {QO : Option Int → Hp → Prop} : tNoPart σ H QO = QO none H := rfl
theorem w_part {QO : Option Int → Hp → Prop} : tPart te σ H QO = te σ H fun x H1 => ∃ i, x = .int i ∧ QO (some i) H1 := rfl
theorem w_bm {T : String} {r : V → List V → Hp → VK → Prop} : tBM K T r te tr σ H Q = te σ H fun x H1 => tyV K T x H1 ∧ tr σ H1 fun xs H2 => r x xs H2 Q := rfl
theorem w_bm0 {T : String} {r : V → List V → Hp → VK → Prop} : tBM0 K T r te σ H Q = te σ H fun x H1 => tyV K T x H1 ∧ r x [] H1 Q := rfl
theorem w_cxK {CX : CXT} {P : Program} {w : World} {mg : PySem.Str → Option Value} {base : Heap} {N : List PySem.Str} {qual : PySem.Str} {scope : Scope} {f : Addr} {cd : Value} {A : Around} {outer : List Env} {s : Shared} {E : XK} : (cxOf CX P w K mg base N qual scope f cd A outer s H E).K = K := rfl
theorem w_aug {i : Nat} {ti : TIp} : tAug i te ti D σ H = ∃ x, σ[i]? = some (some x) ∧ te σ H fun y H1 => ti x y H1 fun z H2 => D.nx (σ.set i (some z)) H2 := rfl
theorem w_ipI {f : Int → Int → Int} : ipI f x y H Q = ∃ i j, x = .int i ∧ y = .int j ∧ Q (.int (f i j)) H := rfl
/-! ### readings that look into the heap -/
theorem r_ixL {p : Addr} {xs : List V} {i : Int} (h : SqL K H p xs) (ha : atI xs i = some v) (q : Q v H) : rIxL K (.ref p) (.int i) H Q := ⟨p, xs, i, v, rfl, rfl, h, ha, q⟩
theorem r_ixT {p : Addr} {xs : List V} {i : Int} (h : SqT K H p xs) (ha : atI xs i = some v) (q : Q v H) : rIxT K (.ref p) (.int i) H Q := ⟨p, xs, i, v, rfl, rfl, h, ha, q⟩
theorem r_slL {p : Addr} {xs : List V} {lo hi : Option Int} (h : SqL K H p xs) (q : ∀ l, H l = none → Q (.ref l) (upd H l (.lst (cutV xs lo hi)))) : rSlL K (.ref p) lo hi H Q := ⟨p, xs, rfl, h, q⟩
theorem r_sum {p : Addr} {ns : List Int} (h : SqL K H p (ns.map V.int)) (q : Q (.int ns.sum) H) : rSum K [.ref p] H Q := ⟨p, ns, rfl, h, q⟩
theorem r_setL {p : Addr} {xs : List V} {k : Int} {j : Nat} {QH : Hp → Prop} (h : H p = some (.lst xs)) (hj : ixN xs.length k = some j) (q : QH (upd H p (.lst (xs.set j v)))) : rSetL (.ref p) (.int k) v H QH := ⟨p, xs, k, j, rfl, rfl, h, hj, q⟩
theorem r_app {p : Addr} {xs : List V} (h : H p = some (.lst xs)) (hl : xs.length < sizeLine) (q : Q .non (upd H p (.lst (xs ++ [v])))) : rAppend (.ref p) [v] H Q := ⟨p, xs, v, rfl, rfl, h, hl, q⟩
theorem r_len {p : Addr} {xs : List V} (h : SqL K H p xs) (q : Q (.int (xs.length : Int)) H) : rLen K [.ref p] H Q := ⟨p, xs, rfl, .inl h, q⟩
theorem r_lenT {p : Addr} {xs : List V} (h : SqT K H p xs) (q : Q (.int (xs.length : Int)) H) : rLen K [.ref p] H Q := ⟨p, xs, rfl, .inr h, q⟩
theorem r_listL {p : Addr} {xs : List V} (h : SqL K H p xs) (q : ∀ l, H l = none → Q (.ref l) (upd H l (.lst xs))) : rListO K [.ref p] H Q := ⟨p, xs, rfl, .inl h, q⟩
theorem r_listT {p : Addr} {xs : List V} (h : SqT K H p xs) (q : ∀ l, H l = none → Q (.ref l) (upd H l (.lst xs))) : rListO K [.ref p] H Q := ⟨p, xs, rfl, .inr h, q⟩
theorem r_tupL {p : Addr} {xs : List V} (h : SqL K H p xs) (q : ∀ l, H l = none → Q (.ref l) (upd H l (.tup xs))) : rTupO K [.ref p] H Q := ⟨p, xs, rfl, .inl ⟨h, q⟩⟩
theorem r_tupT {p : Addr} {xs : List V} (h : SqT K H p xs) (q : Q (.ref p) H) : rTupO K [.ref p] H Q := ⟨p, xs, rfl, .inr ⟨h, q⟩⟩
theorem r_min {p : Addr} {ns : List Int} (h : SqL K H p (ns.map V.int)) (h0 : 0 < ns.length) (q : ∀ m, m ∈ ns → (∀ y, y ∈ ns → m ≤ y) → Q (.int m) H) : rMin K [.ref p] H Q := ⟨p, ns, rfl, h, h0, q⟩
theorem r_max {p : Addr} {ns : List Int} (h : SqL K H p (ns.map V.int)) (h0 : 0 < ns.length) (q : ∀ m, m ∈ ns → (∀ y, y ∈ ns → y ≤ m) → Q (.int m) H) : rMax K [.ref p] H Q := ⟨p, ns, rfl, h, h0, q⟩
theorem r_sortedI {p : Addr} {ns : List Int} (h : SqL K H p (ns.map V.int)) (q : ∀ (ns' : List Int) (l : Addr), ns'.Perm ns → ns'.Pairwise (· ≤ ·) → H l = none → Q (.ref l) (upd H l (.lst (ns'.map V.int)))) : rSortedI K [.ref p] H Q := ⟨p, ns, rfl, h, q⟩
theorem r_cat {l b : Addr} {xs zs : List V} (h1 : H l = some (.lst xs)) (h2 : H b = some (.lst zs)) (hl : xs.length + zs.length ≤ sizeLine) (q : ∀ p, H p = none → Q (.ref p) (upd H p (.lst (xs ++ zs)))) : rCat (.ref l) (.ref b) H Q := ⟨l, b, xs, zs, rfl, rfl, h1, h2, hl, q⟩
theorem r_catA {a b : Addr} {xs ys : List V} (h1 : SqT K H a xs) (h2 : SqT K H b ys) (hl : xs.length + ys.length ≤ sizeLine) (q0 : xs = [] → Q (.ref b) H) (q1 : xs ≠ [] → ys = [] → Q (.ref a) H) (q2 : xs ≠ [] → ys ≠ [] → ∀ p, H p = none → Q (.ref p) (upd H p (.tup (xs ++ ys)))) : rCatA K (.ref a) (.ref b) H Q :=
  ⟨a, b, xs, ys, rfl, rfl, h1, h2, hl, q0, q1, q2⟩
theorem ty_list {p : Addr} {xs : List V} (h : SqL K H p xs) : tyV K "list" (.ref p) H := .inl ⟨rfl, xs, h⟩
/-- a statement, then the rest, with a word between -/
theorem cut_m (Mid : L2.St → Hp → Prop) (h1 : ∀ N : L2.St → Hp → Prop, (∀ σ' H', Mid σ' H' → N σ' H') → s1 { D with nx := N } σ H) (h2 : ∀ σ' H', Mid σ' H' → s2 D σ' H') : Evl.tCut s1 s2 D σ H :=
  ⟨Mid, h1 Mid fun _ _ z => z, h2⟩
/-- a while, by a word with its measure; G: a turn is wanted, N: what is wanted behind it -/
theorem while_m {c : TT} (Pv : Nat → L2.St → Hp → Prop) (m0 : Nat) (h0 : Pv m0 σ H)
    (hs : ∀ m σ H, Pv m σ H → ∀ G : L2.St → Hp → Prop, (∀ σ1 H1, (∀ N : L2.St → Hp → Prop, (∀ m' σ' H', m' < m → Pv m' σ' H' → N σ' H') → s1 { D with nx := N, ct := N, bk := D.nx } σ1 H1) → G σ1 H1) →
      c σ H fun b H1 => if b = true then G σ H1 else D.nx σ H1) : tWhile c s1 D σ H :=
  ⟨Pv, ⟨m0, h0⟩, fun m σ H p => hs m σ H p (fun σ1 H1 => ∃ N : L2.St → Hp → Prop, (∀ σ' H', N σ' H' → ∃ m', m' < m ∧ Pv m' σ' H') ∧ s1 { D with nx := N, ct := N, bk := D.nx } σ1 H1)
    fun σ1 H1 h => ⟨_, fun _ _ z => z, h (fun σ' H' => ∃ m', m' < m ∧ Pv m' σ' H') fun m' _ _ h1 h2 => ⟨m', h1, h2⟩⟩⟩
/-- the turns of a for: over a list at a, a tuple at a, lo, lo + 1, .. (n of them) -/
def FJ (J : It) (g : TG) (s1 : TS) (D : Ends) (σ : L2.St) (H : Hp) : Prop := ∃ W : Nat → Nat → L2.St → Hp → Prop, (∃ m, W 0 m σ H) ∧ ∀ i m σ H, W i m σ H →
  (J.stop i H ∧ D.nx σ H) ∨ (J.go i H ∧ ∃ N : L2.St → Hp → Prop, (∀ σ' H', N σ' H' → ∃ m', m' < m ∧ W (i + 1) m' σ' H') ∧ ∀ x H', J.yld i H x H' → g x σ H' fun σ2 H2 => s1 { D with nx := N, ct := N, bk := D.nx } σ2 H2)
theorem w_tru : tTru K te σ H QT = te σ H fun x H1 => ∃ k, TruV K x H1 k ∧ QT k H1 := rfl
theorem w_forL {g : TG} : tFor (iList K te) g s1 D σ H = te σ H fun x H1 => ∃ a, x = .ref a ∧ (∃ xs, SqL K H1 a xs) ∧ FJ (Itl K a) g s1 D σ H1 := rfl
theorem w_forT {g : TG} : tFor (iTup K te) g s1 D σ H = te σ H fun x H1 => ∃ a, x = .ref a ∧ (∃ xs, SqT K H1 a xs) ∧ FJ (Itt K a) g s1 D σ H1 := rfl
theorem w_for1 {g : TG} : tFor (iRng1 tr) g s1 D σ H = tr σ H fun vs H1 => ∃ j : Int, vs = [.int j] ∧ -(2 ^ 62) ≤ j ∧ j < 2 ^ 62 ∧ FJ (Itr 0 j.toNat) g s1 D σ H1 := rfl
theorem w_for2 {g : TG} : tFor (iRng2 tr) g s1 D σ H = tr σ H fun vs H1 => ∃ i j : Int, vs = [.int i, .int j] ∧ (-(2 ^ 62) ≤ i ∧ i < 2 ^ 62 ∧ -(2 ^ 62) ≤ j ∧ j < 2 ^ 62) ∧ FJ (Itr i (j - i).toNat) g s1 D σ H1 := rfl
theorem w_for3 {g : TG} : tFor (iRng3 tr) g s1 D σ H = tr σ H fun vs H1 => ∃ (i j c : Int) (n : Nat), vs = [.int i, .int j, .int c] ∧ RgC i j c n ∧ FJ (Itc i c n) g s1 D σ H1 := rfl
theorem for_c {lo c : Int} {n : Nat} {g : TG} (Pv : Nat → L2.St → Hp → Prop) (h0 : Pv 0 σ H)
    (hs : ∀ i σ H, i < n → Pv i σ H → ∀ N : L2.St → Hp → Prop, (∀ σ' H', Pv (i + 1) σ' H' → N σ' H') → g (.int (lo + (i : Nat) * c)) σ H fun σ2 H2 => s1 { D with nx := N, ct := N, bk := D.nx } σ2 H2) (hd : ∀ σ H, Pv n σ H → D.nx σ H) :
    FJ (Itc lo c n) g s1 D σ H := for_rangeC Pv h0 (fun i σ H hx hp => hs i σ H hx hp _ fun _ _ z => z) hd
theorem for_l {a : Addr} {xs : List V} {g : TG} (Pv : Nat → L2.St → Hp → Prop) (h0 : Pv 0 σ H) (hl : ∀ i σ H, i ≤ xs.length → Pv i σ H → SqL K H a xs)
    (hs : ∀ i x σ H, xs[i]? = some x → Pv i σ H → ∀ N : L2.St → Hp → Prop, (∀ σ' H', Pv (i + 1) σ' H' → N σ' H') → g x σ H fun σ2 H2 => s1 { D with nx := N, ct := N, bk := D.nx } σ2 H2) (hd : ∀ σ H, Pv xs.length σ H → D.nx σ H) :
    FJ (Itl K a) g s1 D σ H := for_list Pv h0 hl (fun i x σ H hx hp => hs i x σ H hx hp _ fun _ _ z => z) hd
theorem for_t {a : Addr} {xs : List V} {g : TG} (Pv : Nat → L2.St → Hp → Prop) (h0 : Pv 0 σ H) (hl : ∀ i σ H, i ≤ xs.length → Pv i σ H → SqT K H a xs)
    (hs : ∀ i x σ H, xs[i]? = some x → Pv i σ H → ∀ N : L2.St → Hp → Prop, (∀ σ' H', Pv (i + 1) σ' H' → N σ' H') → g x σ H fun σ2 H2 => s1 { D with nx := N, ct := N, bk := D.nx } σ2 H2) (hd : ∀ σ H, Pv xs.length σ H → D.nx σ H) :
    FJ (Itt K a) g s1 D σ H := for_tup Pv h0 hl (fun i x σ H hx hp => hs i x σ H hx hp _ fun _ _ z => z) hd
theorem for_r {lo : Int} {n : Nat} {g : TG} (Pv : Nat → L2.St → Hp → Prop) (h0 : Pv 0 σ H)
    (hs : ∀ i σ H, i < n → Pv i σ H → ∀ N : L2.St → Hp → Prop, (∀ σ' H', Pv (i + 1) σ' H' → N σ' H') → g (.int (lo + i)) σ H fun σ2 H2 => s1 { D with nx := N, ct := N, bk := D.nx } σ2 H2) (hd : ∀ σ H, Pv n σ H → D.nx σ H) :
    FJ (Itr lo n) g s1 D σ H := for_range Pv h0 (fun i σ H hx hp => hs i σ H hx hp _ fun _ _ z => z) hd
end
/-! ### heaps -/
theorem ne_fresh {H : Hp} {a b : Addr} {o : HO} (h' : H b = none) (h : H a = some o) : a ≠ b := ne_of_none h h'
theorem upd_free {H : Hp} {a p : Addr} {o : HO} (h : upd H a o p = none) : H p = none := by
  unfold upd at h
  split at h
  · cases h
  · exact h
theorem upd_free_ne {H : Hp} {a p : Addr} {o : HO} (h : upd H a o p = none) : p ≠ a := by
  intro e
  rw [e, upd_same] at h
  cases h
theorem same_new {H : Hp} {p : Addr} {o : HO} (h : H p = none) : Same H (upd H p o) := fun b x e => by
  rw [upd_ne (ne_of_none e h)]
  exact e
/-- all that was tracked is as it was, but what stands at a -/
def Kp (a : Addr) (H H' : Hp) : Prop := ∀ b o, b ≠ a → H b = some o → H' b = some o
theorem Kp.refl (a : Addr) (H : Hp) : Kp a H H := fun _ _ _ h => h
theorem Kp.trans {a : Addr} {H H1 H2 : Hp} (x : Kp a H H1) (y : Kp a H1 H2) : Kp a H H2 := fun b o n h => y b o n (x b o n h)
theorem sm_kp {a : Addr} {H H' : Hp} (x : Same H H') : Kp a H H' := fun b o _ h => x b o h
theorem Kp.upd {a : Addr} {H H' : Hp} {o : HO} (x : Kp a H H') : Kp a H (upd H' a o) := fun b u n h => by
  rw [upd_ne n]
  exact x b u n h
theorem Kp.new {a p : Addr} {H H' : Hp} {o : HO} (x : Kp a H H') (hp : H p = none) : Kp a H (L2.upd H' p o) := fun b u n h => by
  rw [upd_ne (ne_of_none h hp)]
  exact x b u n h
theorem Kp.free {a p : Addr} {H H' : Hp} (x : Kp a H H') (n : p ≠ a) (hp : H' p = none) : H p = none := by
  cases q : H p with
  | none => rfl
  | some o =>
    rw [x p o n q] at hp
    cases hp
theorem Kp.seq {K : PySem.W.Frag} {a : Addr} {H H' : Hp} {l : Addr} {xs : List V} (x : Kp a H H') (n : l ≠ a) (h : SqL K H l xs) : SqL K H' l xs := by
  rcases h with (h | ⟨o, h⟩) | h
  · exact .inl (.inl (x _ _ n h))
  · exact .inl (.inr ⟨o, x _ _ n h⟩)
  · exact .inr h
theorem sm_new {p : Addr} {H H' : Hp} {o : HO} (x : Same H H') (hp : H p = none) : Same H (L2.upd H' p o) := fun b u h => by
  rw [upd_ne (ne_of_none h hp)]
  exact x b u h
theorem cut_to (xs : List V) (k : Nat) : cutV xs none (some (k : Int)) = xs.take k := by
  unfold cutV
  rw [HT.sIx_none, HT.sIx_nat]
  simp only [List.drop_zero, Nat.sub_zero]
  rcases Nat.le_total k xs.length with h | h
  · rw [Nat.min_eq_left h]
  · rw [Nat.min_eq_right h, List.take_of_length_le (Nat.le_refl _), List.take_of_length_le h]
theorem cut_from (xs : List V) (k : Nat) : cutV xs (some (k : Int)) none = xs.drop k := by
  unfold cutV
  rw [HT.sIx_none, HT.sIx_nat]
  rcases Nat.le_total k xs.length with h | h
  · rw [Nat.min_eq_left h, List.take_of_length_le (by simp)]
  · rw [Nat.min_eq_right h, List.drop_eq_nil_of_le (Nat.le_refl _), List.drop_eq_nil_of_le h]
    simp
theorem atI_mem {xs : List V} {i : Int} (h0 : 0 ≤ i) (h1 : i < xs.length) : ∃ v, v ∈ xs ∧ atI xs i = some v := by
  obtain ⟨j, rfl⟩ := Int.eq_ofNat_of_zero_le h0
  have hj : j < xs.length := by omega
  exact ⟨xs[j], List.getElem_mem hj, atI_nat (List.getElem?_eq_getElem hj)⟩
theorem atI_ints {ns : List Int} {i : Int} (h0 : 0 ≤ i) (h1 : i < ns.length) : ∃ z, z ∈ ns ∧ atI (ns.map V.int) i = some (.int z) := by
  obtain ⟨j, rfl⟩ := Int.eq_ofNat_of_zero_le h0
  have hj : j < ns.length := by omega
  exact ⟨ns[j], List.getElem_mem hj, atI_nat (by rw [List.getElem?_map, List.getElem?_eq_getElem hj]; rfl)⟩
/-! ### data that is compared: ints, tuples and lists of ints, pairs of ints -/
def dI (ns : List Int) : List PyData := ns.map PyData.int
theorem canLay_ints : ∀ ns : List Int, PyData.canLayAll0 (dI ns) = true
  | [] => by simp [dI, PyData.canLayAll0]
  | n :: r => by
    have := canLay_ints r
    simp only [dI] at this ⊢
    simp [PyData.canLayAll0, PyData.canLay0, this]
theorem depth_ints : ∀ ns : List Int, PyData.depthAll (dI ns) = 0
  | [] => by simp [dI, PyData.depthAll]
  | n :: r => by
    have := depth_ints r
    simp only [dI] at this ⊢
    simp [PyData.depthAll, PyData.depth, this]
theorem eqv_ints : ∀ ns ms : List Int, PyData.eqvAll (dI ns) (dI ms) = decide (ns = ms)
  | [], [] => by simp [dI, PyData.eqvAll]
  | [], _ :: _ => by simp [dI, PyData.eqvAll]
  | _ :: _, [] => by simp [dI, PyData.eqvAll]
  | n :: r, m :: t => by
    have := eqv_ints r t
    simp only [dI] at this ⊢
    simp only [List.map_cons, PyData.eqvAll, PyData.eqv, this, List.cons.injEq]
    rw [Bool.decide_and, Bool.beq_eq_decide_eq]
theorem dpAll_ints {K : PySem.W.Frag} {H : Hp} : ∀ ns : List Int, DpAll K H (ns.map V.int) (dI ns)
  | [] => .nil
  | n :: r => .cons (.int n) (dpAll_ints r)
theorem sh_tI (ns : List Int) : SeqAt.shaped (.tuple (dI ns)) = true := by
  unfold SeqAt.shaped
  simp [PyData.canLay0, PyData.depth, canLay_ints, depth_ints]
theorem sh_lI (ns : List Int) : SeqAt.shaped (.list (dI ns)) = true := by
  unfold SeqAt.shaped
  simp [PyData.canLay0, PyData.depth, canLay_ints, depth_ints]
/-- pairs of ints -/
def dP (ps : List (Int × Int)) : List PyData := ps.map fun p => PyData.tuple (dI [p.1, p.2])
theorem canLay_pairs : ∀ ps : List (Int × Int), PyData.canLayAll0 (dP ps) = true
  | [] => by simp [dP, PyData.canLayAll0]
  | n :: r => by
    have := canLay_pairs r
    simp only [dP] at this ⊢
    simp [PyData.canLayAll0, PyData.canLay0, this, canLay_ints]
theorem depth_pairs : ∀ ps : List (Int × Int), PyData.depthAll (dP ps) ≤ 1
  | [] => by simp [dP, PyData.depthAll]
  | n :: r => by
    have := depth_pairs r
    simp only [dP] at this ⊢
    simp only [List.map_cons, PyData.depthAll, PyData.depth, depth_ints]
    omega
theorem eqv_pairs : ∀ ns ms : List (Int × Int), PyData.eqvAll (dP ns) (dP ms) = decide (ns = ms)
  | [], [] => by simp [dP, PyData.eqvAll]
  | [], _ :: _ => by simp [dP, PyData.eqvAll]
  | _ :: _, [] => by simp [dP, PyData.eqvAll]
  | (a, b) :: r, (c, d) :: t => by
    have := eqv_pairs r t
    simp only [dP] at this ⊢
    simp only [List.map_cons, PyData.eqvAll, PyData.eqv, this, List.cons.injEq, eqv_ints, Prod.mk.injEq, and_true]
    simp only [Bool.decide_and]
theorem sh_tP (ns : List (Int × Int)) : SeqAt.shaped (.tuple (dP ns)) = true := by
  unfold SeqAt.shaped
  have := depth_pairs ns
  simp only [PyData.canLay0, PyData.depth, canLay_pairs, Bool.true_and, decide_eq_true_eq]
  exact decide_eq_true (by omega)
theorem sh_lP (ns : List (Int × Int)) : SeqAt.shaped (.list (dP ns)) = true := by
  unfold SeqAt.shaped
  have := depth_pairs ns
  simp only [PyData.canLay0, PyData.depth, canLay_pairs, Bool.true_and, decide_eq_true_eq]
  exact decide_eq_true (by omega)
/-- tuples of two ints stand at these addresses -/
def PairsAt (K : PySem.W.Frag) (H : Hp) (as : List Addr) (ps : List (Int × Int)) : Prop := as.length = ps.length ∧ ∀ (i : Nat) (a : Addr) (p : Int × Int), as[i]? = some a → ps[i]? = some p → SqT K H a [.int p.1, .int p.2]
theorem PairsAt.nil {K : PySem.W.Frag} {H : Hp} : PairsAt K H [] [] := ⟨rfl, fun _ _ _ h => by simp at h⟩
theorem PairsAt.snoc {K : PySem.W.Frag} {H : Hp} {as : List Addr} {ps : List (Int × Int)} {a : Addr} {p : Int × Int} (h : PairsAt K H as ps) (hp : SqT K H a [.int p.1, .int p.2]) : PairsAt K H (as ++ [a]) (ps ++ [p]) := by
  refine ⟨by simp [h.1], fun i b q h1 h2 => ?_⟩
  rcases Nat.lt_or_ge i as.length with c | c
  · rw [List.getElem?_append_left c] at h1
    rw [List.getElem?_append_left (by rw [← h.1]; exact c)] at h2
    exact h.2 i b q h1 h2
  · rw [List.getElem?_append_right c] at h1
    rw [List.getElem?_append_right (by rw [← h.1]; exact c)] at h2
    have e1 : i - as.length = 0 := by
      have := (List.getElem?_eq_some_iff.mp h1).1
      simp at this
      omega
    rw [← h.1, e1] at h2
    rw [e1] at h1
    simp at h1 h2
    subst h1 h2
    exact hp
theorem dpAll_pairs {K : PySem.W.Frag} {H : Hp} : ∀ {as : List Addr} {ps : List (Int × Int)}, PairsAt K H as ps → DpAll K H (as.map V.ref) (dP ps)
  | [], [], _ => .nil
  | [], _ :: _, h => by
    have := h.1
    simp at this
  | _ :: _, [], h => by
    have := h.1
    simp at this
  | a :: as, p :: ps, h => .cons (.tup (h.2 0 a p rfl rfl) (dpAll_ints [p.1, p.2])) (dpAll_pairs ⟨by have := h.1; simp at this; exact this, fun i b q h1 h2 => h.2 (i + 1) b q (by simpa using h1) (by simpa using h2)⟩)
/-- a number, or None -/
def vo : Option Nat → V
  | some n => .int (n : Int)
  | none => .non
def dO : Option Nat → PyData
  | some n => .int (n : Int)
  | none => .none
theorem dp_o {K : PySem.W.Frag} {H : Hp} : ∀ l : Option Nat, Dp K H (vo l) (dO l)
  | some n => .int _
  | none => .non
theorem eqv_o : ∀ l l' : Option Nat, PyData.eqv (dO l) (dO l') = decide (l = l')
  | some a, some b => by
    simp only [dO, PyData.eqv, Option.some.injEq, Int.natCast_inj, Bool.beq_eq_decide_eq]
  | some a, none => by simp [dO, PyData.eqv]
  | none, some b => by simp [dO, PyData.eqv]
  | none, none => by simp [dO, PyData.eqv]
theorem sh_o (l : Option Nat) (g : Int) : SeqAt.shaped (.tuple [dO l, .int g]) = true := by cases l <;> rfl
section
variable {K : PySem.W.Frag} {H : Hp} {Q : VK} {a b : Addr}
theorem r_eqT {ns ms : List Int} (hx : SqT K H a (ns.map V.int)) (hy : SqT K H b (ms.map V.int)) (q : Q (.bl (decide (ns = ms))) H) : rEqD K (.ref a) (.ref b) H Q :=
  ⟨.tuple (dI ns), .tuple (dI ms), .tup hx (dpAll_ints ns), .tup hy (dpAll_ints ms), sh_tI ns, sh_tI ms, by rw [PyData.eqv, eqv_ints]; exact q⟩
theorem r_neT {ns ms : List Int} (hx : SqT K H a (ns.map V.int)) (hy : SqT K H b (ms.map V.int)) (q : Q (.bl (!decide (ns = ms))) H) : rNeD K (.ref a) (.ref b) H Q :=
  ⟨.tuple (dI ns), .tuple (dI ms), .tup hx (dpAll_ints ns), .tup hy (dpAll_ints ms), sh_tI ns, sh_tI ms, by rw [PyData.eqv, eqv_ints]; exact q⟩
theorem r_eqL {ns ms : List Int} (hx : SqL K H a (ns.map V.int)) (hy : SqL K H b (ms.map V.int)) (q : Q (.bl (decide (ns = ms))) H) : rEqD K (.ref a) (.ref b) H Q :=
  ⟨.list (dI ns), .list (dI ms), .lst hx (dpAll_ints ns), .lst hy (dpAll_ints ms), sh_lI ns, sh_lI ms, by rw [PyData.eqv, eqv_ints]; exact q⟩
theorem r_neL {ns ms : List Int} (hx : SqL K H a (ns.map V.int)) (hy : SqL K H b (ms.map V.int)) (q : Q (.bl (!decide (ns = ms))) H) : rNeD K (.ref a) (.ref b) H Q :=
  ⟨.list (dI ns), .list (dI ms), .lst hx (dpAll_ints ns), .lst hy (dpAll_ints ms), sh_lI ns, sh_lI ms, by rw [PyData.eqv, eqv_ints]; exact q⟩
theorem r_eqTP {as bs : List Addr} {ns ms : List (Int × Int)} (hx : SqT K H a (as.map V.ref)) (ha : PairsAt K H as ns) (hy : SqT K H b (bs.map V.ref)) (hb : PairsAt K H bs ms) (q : Q (.bl (decide (ns = ms))) H) : rEqD K (.ref a) (.ref b) H Q :=
  ⟨.tuple (dP ns), .tuple (dP ms), .tup hx (dpAll_pairs ha), .tup hy (dpAll_pairs hb), sh_tP ns, sh_tP ms, by rw [PyData.eqv, eqv_pairs]; exact q⟩
theorem r_neTP {as bs : List Addr} {ns ms : List (Int × Int)} (hx : SqT K H a (as.map V.ref)) (ha : PairsAt K H as ns) (hy : SqT K H b (bs.map V.ref)) (hb : PairsAt K H bs ms) (q : Q (.bl (!decide (ns = ms))) H) : rNeD K (.ref a) (.ref b) H Q :=
  ⟨.tuple (dP ns), .tuple (dP ms), .tup hx (dpAll_pairs ha), .tup hy (dpAll_pairs hb), sh_tP ns, sh_tP ms, by rw [PyData.eqv, eqv_pairs]; exact q⟩
theorem r_eqLP {as bs : List Addr} {ns ms : List (Int × Int)} (hx : SqL K H a (as.map V.ref)) (ha : PairsAt K H as ns) (hy : SqL K H b (bs.map V.ref)) (hb : PairsAt K H bs ms) (q : Q (.bl (decide (ns = ms))) H) : rEqD K (.ref a) (.ref b) H Q :=
  ⟨.list (dP ns), .list (dP ms), .lst hx (dpAll_pairs ha), .lst hy (dpAll_pairs hb), sh_lP ns, sh_lP ms, by rw [PyData.eqv, eqv_pairs]; exact q⟩
theorem r_neLP {as bs : List Addr} {ns ms : List (Int × Int)} (hx : SqL K H a (as.map V.ref)) (ha : PairsAt K H as ns) (hy : SqL K H b (bs.map V.ref)) (hb : PairsAt K H bs ms) (q : Q (.bl (!decide (ns = ms))) H) : rNeD K (.ref a) (.ref b) H Q :=
  ⟨.list (dP ns), .list (dP ms), .lst hx (dpAll_pairs ha), .lst hy (dpAll_pairs hb), sh_lP ns, sh_lP ms, by rw [PyData.eqv, eqv_pairs]; exact q⟩
theorem r_neO {l l' : Option Nat} {g g' : Nat} (hx : SqT K H a [vo l, .int (g : Int)]) (hy : SqT K H b [vo l', .int (g' : Int)]) (q : Q (.bl (!decide (l = l' ∧ g = g'))) H) : rNeD K (.ref a) (.ref b) H Q :=
  ⟨.tuple [dO l, .int g], .tuple [dO l', .int g'], .tup hx (.cons (dp_o l) (.cons (.int _) .nil)), .tup hy (.cons (dp_o l') (.cons (.int _) .nil)), sh_o l g, sh_o l' g', by
    rw [PyData.eqv]
    simp only [PyData.eqvAll, eqv_o, PyData.eqv, Bool.and_true]
    have : (decide (l = l') && ((g : Int) == (g' : Int))) = decide (l = l' ∧ g = g') := by
      rw [Bool.decide_and, Bool.beq_eq_decide_eq]
      simp only [Int.natCast_inj]
    rw [this]
    exact q⟩
theorem r_eqO {l l' : Option Nat} {g g' : Nat} (hx : SqT K H a [vo l, .int (g : Int)]) (hy : SqT K H b [vo l', .int (g' : Int)]) (q : Q (.bl (decide (l = l' ∧ g = g'))) H) : rEqD K (.ref a) (.ref b) H Q :=
  ⟨.tuple [dO l, .int g], .tuple [dO l', .int g'], .tup hx (.cons (dp_o l) (.cons (.int _) .nil)), .tup hy (.cons (dp_o l') (.cons (.int _) .nil)), sh_o l g, sh_o l' g', by
    rw [PyData.eqv]
    simp only [PyData.eqvAll, eqv_o, PyData.eqv, Bool.and_true]
    have : (decide (l = l') && ((g : Int) == (g' : Int))) = decide (l = l' ∧ g = g') := by
      rw [Bool.decide_and, Bool.beq_eq_decide_eq]
      simp only [Int.natCast_inj]
    rw [this]
    exact q⟩
theorem ty_non : TyX K H .non (.type "NoneType") := .base .non
/-- isinstance of a built-in class -/
theorem r_isi {x : V} {T n : String} {c : Bool} (ty : TyX K H x (.type T)) (hk : kitB T n = some c) (q : Q (.bl c) H) : rIsi K [x, .ty n] H Q := ⟨x, .ty n, .type T, .type n, c, rfl, .ty n, ty, kit_ty hk, q⟩
theorem ty_int (i : Int) : TyX K H (.int i) (.type "int") := .base (.int i)
theorem ty_bl (c : Bool) : TyX K H (.bl c) (.type "bool") := .base (.bl c)
theorem ty_str (c : PySem.Str) : TyX K H (.str c) (.type "str") := .base (.str c)
theorem ty_tup {xs : List V} (h : SqT K H a xs) : TyX K H (.ref a) (.type "tuple") := by
  rcases h with (h | ⟨o, h⟩) | ⟨o, its, n, h1, h2, _⟩
  · exact .base (.tup h)
  · exact .fTuple h
  · exact .kTuple h1 h2
theorem ty_lst {xs : List V} (h : SqL K H a xs) : TyX K H (.ref a) (.type "list") := by
  rcases h with (h | ⟨o, h⟩) | ⟨o, its, n, h1, h2, _⟩
  · exact .base (.lst h)
  · exact .base (.frz h)
  · exact .kList h1 h2
end
/-- all of these stand at tuples of a number to 10 ** 40 and an exponent from 1 to 200 -/
def Jobs (H : Hp) (xs : List V) : Prop := ∀ x ∈ xs, ∃ (a : Addr) (n e : Nat), x = .ref a ∧ H a = some (.tup [.int n, .int e]) ∧ n ≤ 10 ^ 40 ∧ 1 ≤ e ∧ e ≤ 200
theorem Jobs.kp {H H' : Hp} {xs : List V} {d : Addr} (h : Jobs H xs) (k : Kp d H H') (hd : ∃ ys, H d = some (.lst ys)) : Jobs H' xs := fun x hx => by
  obtain ⟨a, n, e, h1, h2, h3⟩ := h x hx
  obtain ⟨ys, hy⟩ := hd
  exact ⟨a, n, e, h1, k _ _ (ne_of h2 hy (by intro z; cases z)) h2, h3⟩
theorem Jobs.same {H H' : Hp} {xs : List V} (h : Jobs H xs) (k : Same H H') : Jobs H' xs := fun x hx => by
  obtain ⟨a, n, e, h1, h2, h3⟩ := h x hx
  exact ⟨a, n, e, h1, k _ _ h2, h3⟩
/-- a value that is no truth -/
def tyFalse (K : PySem.W.Frag) (x : V) (H : Hp) : Prop := ∃ T : String, TyX K H x (.type T) ∧ kitB T "bool" = some false
/-! ### a comprehension whose turns change nothing that was there -/
section
variable {σ : L2.St} {H : Hp} {Q : VK} {K : PySem.W.Frag} {te tl : TE} {tt : TT} {tr : TA} {g : TG} {vs : List Nat}
/-- the turns of a comprehension -/
def LJ (J : It) (g : TG) (tt : TT) (te : TE) (vs : List Nat) (σ : L2.St) (H1 : Hp) (Q : VK) : Prop := ∀ D, H1 D = none → ∃ W : Nat → Nat → Hp → Prop, (∃ m, W 0 m (upd H1 D (.lst []))) ∧ ∀ i m H, W i m H →
  (J.stop i H ∧ Q (.ref D) H) ∨ (J.go i H ∧ ∃ Nx : Hp → Prop, (∀ H', Nx H' → ∃ m', m' < m ∧ W (i + 1) m' H') ∧ ∀ x H', J.yld i H x H' → g x (wipe σ vs) H' fun σ2 H2 => wipe σ2 vs = wipe σ vs ∧ tt σ2 H2 fun b H3 =>
    if b = true then te σ2 H3 fun y H4 => ∃ acc, H4 D = some (.lst acc) ∧ acc.length < sizeLine ∧ Nx (upd H4 D (.lst (acc ++ [y]))) else Nx H3)
theorem w_lcL : tLc (iList K tl) g tt te vs σ H Q = tl σ H fun x H1 => ∃ a, x = .ref a ∧ (∃ xs, SqL K H1 a xs) ∧ LJ (Itl K a) g tt te vs σ H1 Q := rfl
theorem w_lcT : tLc (iTup K tl) g tt te vs σ H Q = tl σ H fun x H1 => ∃ a, x = .ref a ∧ (∃ xs, SqT K H1 a xs) ∧ LJ (Itt K a) g tt te vs σ H1 Q := rfl
theorem w_lc1 : tLc (iRng1 tr) g tt te vs σ H Q = tr σ H fun xs H1 => ∃ j : Int, xs = [.int j] ∧ -(2 ^ 62) ≤ j ∧ j < 2 ^ 62 ∧ LJ (Itr 0 j.toNat) g tt te vs σ H1 Q := rfl
theorem w_lc2 : tLc (iRng2 tr) g tt te vs σ H Q = tr σ H fun xs H1 => ∃ i j : Int, xs = [.int i, .int j] ∧ (-(2 ^ 62) ≤ i ∧ i < 2 ^ 62 ∧ -(2 ^ 62) ≤ j ∧ j < 2 ^ 62) ∧ LJ (Itr i (j - i).toNat) g tt te vs σ H1 Q := rfl
theorem w_lc3 : tLc (iRng3 tr) g tt te vs σ H Q = tr σ H fun xs H1 => ∃ (i j c : Int) (n : Nat), xs = [.int i, .int j, .int c] ∧ RgC i j c n ∧ LJ (Itc i c n) g tt te vs σ H1 Q := rfl
theorem w_yes {QT : Bool → Hp → Prop} : tYes σ H QT = QT true H := rfl
theorem same_seqT {K : PySem.W.Frag} {H H' : Hp} {a : Addr} {xs : List V} (e : Same H H') (h : SqT K H a xs) : SqT K H' a xs := by
  rcases h with (h | ⟨o, h⟩) | h
  · exact .inl (.inl (e _ _ h))
  · exact .inl (.inr ⟨o, e _ _ h⟩)
  · exact .inr h
theorem Kp.seqT {K : PySem.W.Frag} {a : Addr} {H H' : Hp} {l : Addr} {xs : List V} (x : Kp a H H') (n : l ≠ a) (h : SqT K H l xs) : SqT K H' l xs := by
  rcases h with (h | ⟨o, h⟩) | h
  · exact .inl (.inl (x _ _ n h))
  · exact .inl (.inr ⟨o, x _ _ n h⟩)
  · exact .inr h
theorem PairsAt.same {K : PySem.W.Frag} {H H' : Hp} {as : List Addr} {ps : List (Int × Int)} (h : PairsAt K H as ps) (e : Same H H') : PairsAt K H' as ps := ⟨h.1, fun i a p h1 h2 => same_seqT e (h.2 i a p h1 h2)⟩
theorem filt_take {α β : Type} (f : α → Option β) {xs : List α} {i : Nat} {x : α} (h : xs[i]? = some x) : (xs.take (i + 1)).filterMap f = (xs.take i).filterMap f ++ (f x).toList := by
  rw [List.take_add_one, h, List.filterMap_append]
  cases e : f x <;> simp [e]
/-- f tells of an item what is put into the list, if anything -/
theorem lc_l {a : Addr} {xs : List V} (f : V → Option V) (hx : SqL K H a xs) (hl : xs.length < sizeLine)
    (hs : ∀ (i : Nat) (x : V) (H' : Hp), xs[i]? = some x → Same H H' → ∀ (N0 : Hp → Prop) (N1 : VK), (f x = none → ∀ H2, Same H' H2 → N0 H2) → (∀ y, f x = some y → ∀ H2, Same H' H2 → N1 y H2) →
      g x (wipe σ vs) H' fun σ2 H2 => wipe σ2 vs = wipe σ vs ∧ tt σ2 H2 fun b H3 => if b = true then te σ2 H3 N1 else N0 H3)
    (q : ∀ D H', H D = none → Same H H' → H' D = some (.lst (xs.filterMap f)) → Q (.ref D) H') : LJ (Itl K a) g tt te vs σ H Q := by
  intro D hD
  refine lc_list (K := K) (a := a) (xs := xs) (fun i H' => Same H H' ∧ H' D = some (.lst ((xs.take i).filterMap f))) ⟨same_new hD, by rw [upd_same]; simp⟩ (fun i H' _ p => p.1.seq hx) ?_ ?_
  · rintro i x H' hi ⟨p1, p2⟩
    have hlen : ((xs.take i).filterMap f).length < sizeLine := Nat.lt_of_le_of_lt (Nat.le_trans (List.length_filterMap_le _ _) (by rw [List.length_take]; exact Nat.min_le_right _ _)) hl
    refine hs i x H' hi p1 _ _ (fun hf H2 e2 => ⟨p1.trans e2, ?_⟩) fun y hf H2 e2 => ⟨_, e2 _ _ p2, hlen, fun b o h => ?_, ?_⟩
    · rw [e2 _ _ p2, filt_take f hi, hf]
      simp
    · rw [upd_ne (ne_of_none h hD)]
      exact e2 _ _ (p1 _ _ h)
    · rw [upd_same, filt_take f hi, hf]
      rfl
  · rintro H' ⟨p1, p2⟩
    rw [List.take_length] at p2
    exact q D H' hD p1 p2
theorem lc_t {a : Addr} {xs : List V} (f : V → Option V) (hx : SqT K H a xs) (hl : xs.length < sizeLine)
    (hs : ∀ (i : Nat) (x : V) (H' : Hp), xs[i]? = some x → Same H H' → ∀ (N0 : Hp → Prop) (N1 : VK), (f x = none → ∀ H2, Same H' H2 → N0 H2) → (∀ y, f x = some y → ∀ H2, Same H' H2 → N1 y H2) →
      g x (wipe σ vs) H' fun σ2 H2 => wipe σ2 vs = wipe σ vs ∧ tt σ2 H2 fun b H3 => if b = true then te σ2 H3 N1 else N0 H3)
    (q : ∀ D H', H D = none → Same H H' → H' D = some (.lst (xs.filterMap f)) → Q (.ref D) H') : LJ (Itt K a) g tt te vs σ H Q := by
  intro D hD
  refine lc_tup (K := K) (a := a) (xs := xs) (fun i H' => Same H H' ∧ H' D = some (.lst ((xs.take i).filterMap f))) ⟨same_new hD, by rw [upd_same]; simp⟩ (fun i H' _ p => same_seqT p.1 hx) ?_ ?_
  · rintro i x H' hi ⟨p1, p2⟩
    have hlen : ((xs.take i).filterMap f).length < sizeLine := Nat.lt_of_le_of_lt (Nat.le_trans (List.length_filterMap_le _ _) (by rw [List.length_take]; exact Nat.min_le_right _ _)) hl
    refine hs i x H' hi p1 _ _ (fun hf H2 e2 => ⟨p1.trans e2, ?_⟩) fun y hf H2 e2 => ⟨_, e2 _ _ p2, hlen, fun b o h => ?_, ?_⟩
    · rw [e2 _ _ p2, filt_take f hi, hf]
      simp
    · rw [upd_ne (ne_of_none h hD)]
      exact e2 _ _ (p1 _ _ h)
    · rw [upd_same, filt_take f hi, hf]
      rfl
  · rintro H' ⟨p1, p2⟩
    rw [List.take_length] at p2
    exact q D H' hD p1 p2
/-- over lo, lo + 1, .. (n of them), by the place -/
theorem lc_r {lo : Int} {n : Nat} (f : Nat → Option V) (hl : n < sizeLine)
    (hs : ∀ (i : Nat) (H' : Hp), i < n → Same H H' → ∀ (N0 : Hp → Prop) (N1 : VK), (f i = none → ∀ H2, Same H' H2 → N0 H2) → (∀ y, f i = some y → ∀ H2, Same H' H2 → N1 y H2) →
      g (.int (lo + i)) (wipe σ vs) H' fun σ2 H2 => wipe σ2 vs = wipe σ vs ∧ tt σ2 H2 fun b H3 => if b = true then te σ2 H3 N1 else N0 H3)
    (q : ∀ D H', H D = none → Same H H' → H' D = some (.lst ((List.range n).filterMap f)) → Q (.ref D) H') : LJ (Itr lo n) g tt te vs σ H Q := by
  intro D hD
  refine lc_range (lo := lo) (n := n) (fun i H' => Same H H' ∧ H' D = some (.lst ((List.range i).filterMap f))) ⟨same_new hD, by rw [upd_same]; simp⟩ ?_ ?_
  · rintro i H' hi ⟨p1, p2⟩
    have hlen : ((List.range i).filterMap f).length < sizeLine := Nat.lt_of_le_of_lt (List.length_filterMap_le _ _) (by rw [List.length_range]; omega)
    have hf1 : (List.range (i + 1)).filterMap f = (List.range i).filterMap f ++ (f i).toList := by
      rw [List.range_succ, List.filterMap_append]
      cases e : f i <;> simp [e]
    refine hs i H' hi p1 _ _ (fun hf H2 e2 => ⟨p1.trans e2, ?_⟩) fun y hf H2 e2 => ⟨_, e2 _ _ p2, hlen, fun b o h => ?_, ?_⟩
    · rw [e2 _ _ p2, hf1, hf]
      simp
    · rw [upd_ne (ne_of_none h hD)]
      exact e2 _ _ (p1 _ _ h)
    · rw [upd_same, hf1, hf]
      rfl
  · rintro H' ⟨p1, p2⟩
    exact q D H' hD p1 p2
/-- a comprehension by an invariant over what is made so far -/
theorem lc_rI {lo : Int} {n : Nat} (Pv : Nat → List V → Hp → Prop) (h0 : ∀ D, H D = none → Pv 0 [] (upd H D (.lst [])))
    (hs : ∀ (i : Nat) (acc : List V) (D : Addr) (H' : Hp), i < n → H D = none → H' D = some (.lst acc) → Pv i acc H' → ∀ (N0 : Hp → Prop) (N1 : VK), (∀ H2, H2 D = some (.lst acc) → Pv (i + 1) acc H2 → N0 H2) →
      (∀ y H2, H2 D = some (.lst acc) → acc.length < sizeLine → Pv (i + 1) (acc ++ [y]) (upd H2 D (.lst (acc ++ [y]))) → N1 y H2) →
      g (.int (lo + i)) (wipe σ vs) H' fun σ2 H2 => wipe σ2 vs = wipe σ vs ∧ tt σ2 H2 fun b H3 => if b = true then te σ2 H3 N1 else N0 H3)
    (q : ∀ D acc H', H D = none → H' D = some (.lst acc) → Pv n acc H' → Q (.ref D) H') : LJ (Itr lo n) g tt te vs σ H Q := by
  intro D hD
  refine lc_range (lo := lo) (n := n) (fun i H' => ∃ acc, H' D = some (.lst acc) ∧ Pv i acc H') ⟨[], upd_same, h0 D hD⟩ ?_ ?_
  · rintro i H' hi ⟨acc, p1, p2⟩
    exact hs i acc D H' hi hD p1 p2 _ _ (fun H2 e h => ⟨acc, e, h⟩) fun y H2 e hl h => ⟨acc, e, hl, _, upd_same, h⟩
  · rintro H' ⟨acc, p1, p2⟩
    exact q D acc H' hD p1 p2
theorem lc_lI {a : Addr} {xs : List V} (Pv : Nat → List V → Hp → Prop) (h0 : ∀ D, H D = none → Pv 0 [] (upd H D (.lst []))) (hl : ∀ i acc H', i ≤ xs.length → Pv i acc H' → SqL K H' a xs)
    (hs : ∀ (i : Nat) (x : V) (acc : List V) (D : Addr) (H' : Hp), xs[i]? = some x → H D = none → H' D = some (.lst acc) → Pv i acc H' → ∀ (N0 : Hp → Prop) (N1 : VK), (∀ H2, H2 D = some (.lst acc) → Pv (i + 1) acc H2 → N0 H2) →
      (∀ y H2, H2 D = some (.lst acc) → acc.length < sizeLine → Pv (i + 1) (acc ++ [y]) (upd H2 D (.lst (acc ++ [y]))) → N1 y H2) →
      g x (wipe σ vs) H' fun σ2 H2 => wipe σ2 vs = wipe σ vs ∧ tt σ2 H2 fun b H3 => if b = true then te σ2 H3 N1 else N0 H3)
    (q : ∀ D acc H', H D = none → H' D = some (.lst acc) → Pv xs.length acc H' → Q (.ref D) H') : LJ (Itl K a) g tt te vs σ H Q := by
  intro D hD
  refine lc_list (K := K) (a := a) (xs := xs) (fun i H' => ∃ acc, H' D = some (.lst acc) ∧ Pv i acc H') ⟨[], upd_same, h0 D hD⟩ (fun i H' hi ⟨acc, _, p⟩ => hl i acc H' hi p) ?_ ?_
  · rintro i x H' hi ⟨acc, p1, p2⟩
    exact hs i x acc D H' hi hD p1 p2 _ _ (fun H2 e h => ⟨acc, e, h⟩) fun y H2 e hl h => ⟨acc, e, hl, _, upd_same, h⟩
  · rintro H' ⟨acc, p1, p2⟩
    exact q D acc H' hD p1 p2
end
/-- range(i, j, c) upwards -/
theorem RgC.up {i j c : Int} (ha : -(2 ^ 62) ≤ i) (ha' : i < 2 ^ 62) (hb : -(2 ^ 62) ≤ j) (hb' : j < 2 ^ 62) (hc : 0 < c) (hc' : c < 1073741824) : RgC i j c (if i < j then ((j - i - 1) / c + 1).toNat else 0) := by
  have hd : i < j → 0 ≤ (j - i - 1) / c ∧ (j - i - 1) / c ≤ j - i - 1 := fun h => ⟨Int.ediv_nonneg (by omega) (by omega), Int.ediv_le_self _ (by omega)⟩
  refine ⟨by omega, by omega, ?_, ?_⟩
  · unfold Builtin.Range.small
    simp only [Builtin.Range.rangeFitsLong, Bool.and_eq_true, Bool.or_eq_true, decide_eq_true_eq, beq_iff_eq, Builtin.Range.rangeSize, show c > 0 from hc, if_true]
    split
    · rename_i h
      obtain ⟨h1, h2⟩ := hd h
      generalize (j - i - 1) / c = z at h1 h2 ⊢
      omega
    · omega
  · simp only [Builtin.Range.rangeSize, show c > 0 from hc, if_true]
    split
    · rename_i h
      obtain ⟨h1, h2⟩ := hd h
      omega
    · rfl
theorem bits_nat {n : Nat} (h : 1 ≤ n) : Builtin.Int.intBits (n : Int) = n.log2 + 1 := by
  unfold Builtin.Int.intBits
  rw [if_neg (by simp; omega)]
  rfl
theorem bits_0 : Builtin.Int.intBits 0 = 0 := rfl
theorem filt_ints (f : Nat → Int) (k : Nat) : (List.range k).filterMap (fun i => some (V.int (f i))) = ((List.range k).map f).map V.int := by
  rw [List.map_map]
  exact congrFun (List.filterMap_eq_map (f := V.int ∘ f)) _
theorem size_le {n : Nat} (h : n ≤ 1000000) : n < sizeLine := Nat.lt_of_le_of_lt h (by decide)
theorem size_le' {n : Nat} (h : n ≤ 1000000) : n ≤ sizeLine := Nat.le_of_lt (size_le h)
/-- the items of a list of ints that are kept -/
def keepI (p : Int → Bool) : V → Option V
  | .int z => if p z = true then some (.int z) else none
  | _ => none
theorem filt_keep (p : Int → Bool) : ∀ ns : List Int, (ns.map V.int).filterMap (keepI p) = (ns.filter p).map V.int
  | [] => rfl
  | n :: r => by
    have ih := filt_keep p r
    simp only [List.map_cons, List.filterMap_cons, keepI, List.filter_cons]
    by_cases h : p n = true
    · rw [if_pos h, if_pos h]
      simp only [ih, List.map_cons]
    · rw [if_neg h, if_neg h]
      simp only [ih]
theorem int_at {ns : List Int} {i : Nat} {x : V} (h : (ns.map V.int)[i]? = some x) : ∃ n, n ∈ ns ∧ x = V.int n := by
  rw [List.getElem?_map] at h
  cases e : ns[i]? with
  | none => simp [e] at h
  | some n =>
    simp [e] at h
    exact ⟨n, List.mem_of_getElem? e, h.symm⟩
def ofN (ns : List Nat) : List Int := List.map (fun n : Nat => (n : Int)) ns
theorem ofN_filter (p : Int → Bool) (ns : List Nat) : (ofN ns).filter p = ofN (ns.filter fun n => p n) := by
  unfold ofN
  rw [List.filter_map]
  rfl
/-! ### sizes -/
theorem cmulN {a b : Nat} (h : a.log2 + b.log2 < 1000000) : CMulW (a : Int) (b : Int) := h
end Pn
namespace Pn
/-! ### powers -/
theorem tk_odd {f b e X B : Nat} (h : f * b ^ e = X) (hX : X ≤ B) (he : 1 ≤ e) : f * b ≤ B := by
  rcases Nat.eq_zero_or_pos b with rfl | hb
  · omega
  · have : b ≤ b ^ e := Nat.le_self_pow (by omega) b
    calc f * b ≤ f * b ^ e := Nat.mul_le_mul_left f this
      _ ≤ B := by omega
theorem tk_sq {f b e X B : Nat} (h : f * b ^ e = X) (hX : X ≤ B) (he : 2 ≤ e) (hf : f = 0 → b = 0) : b * b ≤ B := by
  rcases Nat.eq_zero_or_pos b with rfl | hb
  · omega
  · have h1 : b ^ 2 ≤ b ^ e := Nat.pow_le_pow_right hb he
    have hf1 : 1 ≤ f := by omega
    have h2 : 1 * b ^ e ≤ f * b ^ e := Nat.mul_le_mul_right _ hf1
    have h3 : b * b = b ^ 2 := by rw [Nat.pow_two]
    omega
theorem tk_step1 {f b e X : Nat} (h : f * b ^ e = X) (he : e % 2 = 1) : f * b * (b * b) ^ (e / 2) = X := by
  have e1 : e = 2 * (e / 2) + 1 := by omega
  have e2 : b ^ e = b * (b * b) ^ (e / 2) := by
    conv => lhs; rw [e1]
    rw [Nat.pow_succ, Nat.pow_mul, Nat.pow_two, Nat.mul_comm]
  rw [Nat.mul_assoc, ← e2, h]
theorem tk_step0 {f b e X : Nat} (h : f * b ^ e = X) (he : e % 2 = 0) : f * (b * b) ^ (e / 2) = X := by
  have e1 : e = 2 * (e / 2) := by omega
  have e2 : b ^ e = (b * b) ^ (e / 2) := by
    conv => lhs; rw [e1]
    rw [Nat.pow_mul, Nat.pow_two]
  rw [← e2, h]
theorem log2_le_of_le {x n : Nat} (h : x ≤ 2 ^ n) : x.log2 ≤ n := by
  rcases Nat.eq_zero_or_pos x with rfl | hx
  · simp
  · have : x.log2 < n + 1 := (Nat.log2_lt (by omega)).mpr (by rw [Nat.pow_succ]; omega)
    omega
theorem shl_one (j : Nat) : (1 : Int) * 2 ^ ((j : Int)).toNat = ((2 ^ j : Nat) : Int) := by
  rw [Int.toNat_natCast, Int.one_mul, Int.natCast_pow]
  rfl
/-! ### roots by halving -/
theorem root_unique {n e r s : Nat} (he : 1 ≤ e) (h1 : r ^ e ≤ n) (h2 : n < (r + 1) ^ e) (h3 : s ^ e ≤ n) (h4 : n < (s + 1) ^ e) : r = s := by
  have a : r < s + 1 := (Nat.pow_lt_pow_iff_left (by omega : e ≠ 0)).mp (Nat.lt_of_le_of_lt h1 h4)
  have b : s < r + 1 := (Nat.pow_lt_pow_iff_left (by omega : e ≠ 0)).mp (Nat.lt_of_le_of_lt h3 h2)
  omega
end Pn
namespace Pn
/-! ### the root of a number by an exponent; all ways in which it is a power -/
def rootD (n e : Nat) : Nat → Nat
  | 0 => 0
  | k + 1 => if (k + 1) ^ e ≤ n then k + 1 else rootD n e k
theorem rootD_spec (n e : Nat) (he : 1 ≤ e) : ∀ k, rootD n e k ≤ k ∧ (rootD n e k) ^ e ≤ n ∧ ∀ j, rootD n e k < j → j ≤ k → n < j ^ e
  | 0 => ⟨Nat.le_refl _, by rw [rootD, Nat.zero_pow (by omega)]; omega, fun j h1 h2 => by omega⟩
  | k + 1 => by
    obtain ⟨h1, h2, h3⟩ := rootD_spec n e he k
    rw [rootD]
    split
    · rename_i h
      exact ⟨Nat.le_refl _, h, fun j a b => by omega⟩
    · rename_i h
      refine ⟨by omega, h2, fun j a b => ?_⟩
      rcases Nat.lt_or_ge j (k + 1) with c | c
      · exact h3 j a (by omega)
      · have : j = k + 1 := by omega
        subst this
        omega
def rootN (n e : Nat) : Nat := rootD n e n
theorem rootN_le {n e : Nat} (he : 1 ≤ e) : (rootN n e) ^ e ≤ n := (rootD_spec n e he n).2.1
theorem rootN_lt {n e : Nat} (he : 1 ≤ e) : n < (rootN n e + 1) ^ e := by
  obtain ⟨h1, h2, h3⟩ := rootD_spec n e he n
  unfold rootN
  rcases Nat.lt_or_ge (rootD n e n) n with c | c
  · exact h3 _ (by omega) (by omega)
  · have : rootD n e n = n := by omega
    rw [this]
    exact Nat.lt_of_lt_of_le (Nat.lt_succ_self n) (Nat.le_self_pow (by omega) _)
theorem rootN_is {n e r : Nat} (he : 1 ≤ e) (h1 : r ^ e ≤ n) (h2 : n < (r + 1) ^ e) : r = rootN n e := root_unique he h1 h2 (rootN_le he) (rootN_lt he)
theorem rootN_ge {n e b : Nat} (he : 1 ≤ e) (h : b ^ e ≤ n) : b ≤ rootN n e := by
  have : b < rootN n e + 1 := (Nat.pow_lt_pow_iff_left (by omega : e ≠ 0)).mp (Nat.lt_of_le_of_lt h (rootN_lt he))
  omega
theorem rootN_pow {b e : Nat} (he : 1 ≤ e) : rootN (b ^ e) e = b := (rootN_is he (Nat.le_refl _) (Nat.pow_lt_pow_left (Nat.lt_succ_self b) (by omega))).symm
theorem rootN_gt1 {n e : Nat} (he : 1 ≤ e) : 1 < rootN n e ↔ 2 ^ e ≤ n := by
  constructor
  · intro h
    exact Nat.le_trans (Nat.pow_le_pow_left h e) (rootN_le he)
  · intro h
    exact rootN_ge he h
def wayAt (n e : Nat) : Option (Nat × Nat) := if (rootN n e) ^ e = n then some (rootN n e, e) else none
/-- the ways by exponents 2, .., k + 1 -/
def waysTo (n k : Nat) : List (Nat × Nat) := (List.range k).filterMap fun i => wayAt n (i + 2)
theorem waysTo_succ (n k : Nat) : waysTo n (k + 1) = waysTo n k ++ (wayAt n (k + 2)).toList := by
  unfold waysTo
  rw [List.range_succ, List.filterMap_append]
  cases e : wayAt n (k + 2) <;> simp [e]
def waysN (n : Nat) : List (Nat × Nat) := if n = 0 then [] else if n = 1 then [(1, 2)] else waysTo n (n.log2 - 1)
def greatestN (n : Nat) : Nat × Nat := (waysN n).getLast?.getD (n, 1)
theorem last_filt {α : Type} {f : Nat → Option α} {v : α} {i : Nat} (hi : f i = some v) : ∀ k, i < k → (∀ j, i < j → j < k → f j = none) → ((List.range k).filterMap f).getLast? = some v
  | 0, h, _ => by omega
  | k + 1, h, hn => by
    rw [List.range_succ, List.filterMap_append]
    rcases Nat.lt_or_ge i k with c | c
    · have : f k = none := hn k c (Nat.lt_succ_self k)
      simp only [List.filterMap_cons, List.filterMap_nil, this, List.append_nil]
      exact last_filt hi k c fun j a b => hn j a (by omega)
    · have : i = k := by omega
      subst this
      simp [hi]
theorem none_filt {α : Type} {f : Nat → Option α} : ∀ k, (∀ j, j < k → f j = none) → (List.range k).filterMap f = []
  | 0, _ => rfl
  | k + 1, h => by
    rw [List.range_succ, List.filterMap_append, none_filt k fun j a => h j (by omega)]
    simp [h k (Nat.lt_succ_self k)]
theorem two_pow_le_iff {n e : Nat} (hn : n ≠ 0) : 2 ^ e ≤ n ↔ e ≤ n.log2 := by
  rw [Nat.le_log2 hn]
theorem greatest_of {n e : Nat} (hn : 2 ≤ n) (he : 2 ≤ e) (h1 : 2 ^ e ≤ n) (h2 : (rootN n e) ^ e = n) (h3 : ∀ e', e < e' → 2 ^ e' ≤ n → (rootN n e') ^ e' ≠ n) : greatestN n = (rootN n e, e) := by
  have hl : e ≤ n.log2 := (two_pow_le_iff (by omega)).mp h1
  unfold greatestN waysN
  rw [if_neg (by omega), if_neg (by omega)]
  unfold waysTo
  have hf : wayAt n (e - 2 + 2) = some (rootN n e, e) := by
    rw [show e - 2 + 2 = e by omega]
    unfold wayAt
    rw [if_pos h2]
  rw [last_filt (f := fun i => wayAt n (i + 2)) (i := e - 2) hf (n.log2 - 1) (by omega) fun j a b => ?_]
  · rfl
  · show wayAt n (j + 2) = none
    unfold wayAt
    rw [if_neg (h3 _ (by omega) ((two_pow_le_iff (by omega)).mpr (by omega)))]
theorem greatest_none {n : Nat} (hn : 2 ≤ n) (h : ∀ e, 2 ≤ e → 2 ^ e ≤ n → (rootN n e) ^ e ≠ n) : greatestN n = (n, 1) := by
  unfold greatestN waysN
  rw [if_neg (by omega), if_neg (by omega)]
  unfold waysTo
  rw [none_filt]
  · rfl
  · intro j hj
    show wayAt n (j + 2) = none
    unfold wayAt
    rw [if_neg (h _ (by omega) ((two_pow_le_iff (by omega)).mpr (by omega)))]
def zz (p : Nat × Nat) : Int × Int := ((p.1 : Int), (p.2 : Int))
/-! ### a power factor by factor, stopped beyond the number -/
theorem more_end {n x e j : Nat} (hx : 1 ≤ x) (hj : j ≤ e) (h : j = e ∨ n < x ^ j) : (x ^ j ≤ n ↔ x ^ e ≤ n) := by
  rcases h with rfl | h
  · exact Iff.rfl
  · have : x ^ j ≤ x ^ e := Nat.pow_le_pow_right hx hj
    constructor <;> omega
end Pn
namespace Pn
/-! ### Newton's steps to a root, in whole numbers -/
theorem rearr (r x k : Nat) : r * x ^ k + x * r ^ k ≤ x * x ^ k + r * r ^ k := by
  rcases Nat.le_total r x with h | h
  · obtain ⟨d, rfl⟩ := Nat.exists_eq_add_of_le h
    obtain ⟨c, hc⟩ := Nat.exists_eq_add_of_le (Nat.pow_le_pow_left h k)
    rw [hc]
    generalize r ^ k = y
    have : 0 ≤ d * c := Nat.zero_le _
    grind
  · obtain ⟨d, rfl⟩ := Nat.exists_eq_add_of_le h
    obtain ⟨c, hc⟩ := Nat.exists_eq_add_of_le (Nat.pow_le_pow_left h k)
    rw [hc]
    generalize x ^ k = y
    have : 0 ≤ d * c := Nat.zero_le _
    grind
theorem amgm (r x : Nat) : ∀ m, (m + 1) * r * x ^ m ≤ m * x ^ (m + 1) + r ^ (m + 1)
  | 0 => by simp
  | m + 1 => by
    have ih := amgm r x m
    have h1 := rearr r x (m + 1)
    have h2 : x * ((m + 1) * r * x ^ m) ≤ x * (m * x ^ (m + 1) + r ^ (m + 1)) := Nat.mul_le_mul_left x ih
    have e1 : x ^ (m + 1) = x * x ^ m := by rw [Nat.pow_succ, Nat.mul_comm]
    have e2 : x ^ (m + 1 + 1) = x * (x * x ^ m) := by rw [Nat.pow_succ, e1, Nat.mul_comm]
    have e3 : r ^ (m + 1 + 1) = r * r ^ (m + 1) := by rw [Nat.pow_succ, Nat.mul_comm]
    rw [e1] at h1 h2
    rw [e1, e2, e3]
    generalize x ^ m = y at *
    generalize r ^ (m + 1) = z at *
    grind
theorem newton_ge {n e r x : Nat} (he : 1 ≤ e) (hx : 1 ≤ x) (hr : r ^ e ≤ n) : r ≤ ((e - 1) * x + n / x ^ (e - 1)) / e := by
  obtain ⟨m, rfl⟩ : ∃ m, e = m + 1 := ⟨e - 1, by omega⟩
  rw [Nat.add_sub_cancel]
  have hy : 0 < x ^ m := Nat.pow_pos (by omega)
  have h := amgm r x m
  rw [Nat.le_div_iff_mul_le (by omega)]
  have e1 : x ^ (m + 1) = x * x ^ m := by rw [Nat.pow_succ, Nat.mul_comm]
  rw [e1] at h
  rcases Nat.le_total (r * (m + 1)) (m * x) with c | c
  · exact Nat.le_trans c (Nat.le_add_right _ _)
  · obtain ⟨d, hd⟩ := Nat.exists_eq_add_of_le c
    have : d ≤ n / x ^ m := by
      rw [Nat.le_div_iff_mul_le hy]
      have e2 : (m + 1) * r * x ^ m = m * (x * x ^ m) + d * x ^ m := by
        rw [show (m + 1) * r = r * (m + 1) by rw [Nat.mul_comm], hd, Nat.add_mul, Nat.mul_assoc]
      omega
    omega
theorem newton_stop {n e x : Nat} (he : 1 ≤ e) (hx : 1 ≤ x) (h : x ≤ ((e - 1) * x + n / x ^ (e - 1)) / e) : x ^ e ≤ n := by
  obtain ⟨m, rfl⟩ : ∃ m, e = m + 1 := ⟨e - 1, by omega⟩
  rw [Nat.add_sub_cancel] at h
  have hy : 0 < x ^ m := Nat.pow_pos (by omega)
  rw [Nat.le_div_iff_mul_le (by omega)] at h
  have h2 : x ≤ n / x ^ m := by
    have : x * (m + 1) = m * x + x := by rw [Nat.mul_add, Nat.mul_one, Nat.mul_comm]
    omega
  rw [Nat.le_div_iff_mul_le hy] at h2
  rw [Nat.pow_succ, Nat.mul_comm]
  exact h2
theorem newton_start {n e : Nat} (he : 1 ≤ e) : rootN n e ≤ 2 ^ ((n.log2 + 1 + e - 1) / e) := by
  have h1 : n < 2 ^ (n.log2 + 1) := Nat.lt_log2_self
  have h2 : n.log2 + 1 ≤ (n.log2 + 1 + e - 1) / e * e := by
    have := Nat.lt_div_mul_add (a := n.log2 + 1 + e - 1) (b := e) (by omega)
    omega
  have h3 : (rootN n e) ^ e < (2 ^ ((n.log2 + 1 + e - 1) / e)) ^ e := by
    rw [← Nat.pow_mul]
    exact Nat.lt_of_le_of_lt (rootN_le he) (Nat.lt_of_lt_of_le h1 (Nat.pow_le_pow_right (by decide) h2))
  exact Nat.le_of_lt ((Nat.pow_lt_pow_iff_left (by omega : e ≠ 0)).mp h3)
theorem rootN_0 {e : Nat} (he : 1 ≤ e) : rootN 0 e = 0 := (rootN_is he (by rw [Nat.zero_pow (by omega)]; omega) (by simp)).symm
theorem rootN_1 {e : Nat} (he : 1 ≤ e) : rootN 1 e = 1 := (rootN_is he (by simp) (Nat.one_lt_two_pow (by omega))).symm
theorem rootN_pos {n e : Nat} (he : 1 ≤ e) (hn : 1 ≤ n) : 1 ≤ rootN n e := rootN_ge he (by simpa using hn)
end Pn
namespace Pn
/-! ### powers, the next one, the one before -/
def IsPow (m : Nat) : Prop := ∃ b e : Nat, 1 ≤ b ∧ 2 ≤ e ∧ m = b ^ e
def NextPow (n g : Nat) : Prop := IsPow g ∧ n < g ∧ ∀ m, IsPow m → n < m → g ≤ m
def PrevPow (n l : Nat) : Prop := IsPow l ∧ l ≤ n ∧ ∀ m, IsPow m → m ≤ n → m ≤ l
theorem NextPow.eq {n g g' : Nat} (h : NextPow n g) (h' : NextPow n g') : g = g' := Nat.le_antisymm (h.2.2 _ h'.1 h'.2.1) (h'.2.2 _ h.1 h.2.1)
theorem PrevPow.eq {n g g' : Nat} (h : PrevPow n g) (h' : PrevPow n g') : g = g' := Nat.le_antisymm (h'.2.2 _ h.1 h.2.1) (h.2.2 _ h'.1 h'.2.1)
theorem isPow_one : IsPow 1 := ⟨1, 2, by omega, by omega, rfl⟩
theorem IsPow.pos {m : Nat} (h : IsPow m) : 1 ≤ m := by
  obtain ⟨b, e, h1, h2, rfl⟩ := h
  exact Nat.pow_pos (by omega)
theorem IsPow.base {m : Nat} (h : IsPow m) (hm : 2 ≤ m) : ∃ b e : Nat, 2 ≤ b ∧ 2 ≤ e ∧ m = b ^ e := by
  obtain ⟨b, e, h1, h2, rfl⟩ := h
  rcases (by omega : b = 1 ∨ 2 ≤ b) with rfl | h
  · simp at hm
  · exact ⟨b, e, h, h2, rfl⟩
theorem IsPow.four {m : Nat} (h : IsPow m) (hm : 2 ≤ m) : 4 ≤ m := by
  obtain ⟨b, e, h1, h2, rfl⟩ := h.base hm
  calc 4 = 2 ^ 2 := rfl
    _ ≤ b ^ 2 := Nat.pow_le_pow_left h1 2
    _ ≤ b ^ e := Nat.pow_le_pow_right (by omega) h2
theorem isPow_root {n e : Nat} (he : 2 ≤ e) (hn : 1 ≤ n) : IsPow (rootN n e ^ e) := ⟨_, e, rootN_pos (by omega) hn, he, rfl⟩
theorem isPow_up {n e : Nat} (he : 2 ≤ e) : IsPow ((rootN n e + 1) ^ e) := ⟨_, e, by omega, he, rfl⟩
/-- g is the next power above n where it is one of these, or no more than a power of two, and none of these is less -/
theorem nextPow_of {n g T : Nat} (hn : 1 ≤ n) (hg : IsPow g) (hgn : n < g) (hgT : ∀ m, IsPow m → n < m → 2 ^ (T + 1) ≤ m → g ≤ m) (hm : ∀ e, 2 ≤ e → e ≤ T → g ≤ (rootN n e + 1) ^ e) : NextPow n g := by
  refine ⟨hg, hgn, fun m hp hm2 => ?_⟩
  obtain ⟨b, e, h1, h2, rfl⟩ := hp.base (by omega)
  rcases Nat.lt_or_ge T e with c | c
  · exact hgT _ hp hm2 (Nat.le_trans (Nat.pow_le_pow_right (by omega) c) (Nat.pow_le_pow_left h1 e))
  · refine Nat.le_trans (hm e h2 c) (Nat.pow_le_pow_left ?_ e)
    have h3 : (rootN n e) ^ e < b ^ e := Nat.lt_of_le_of_lt (rootN_le (by omega)) hm2
    exact (Nat.pow_lt_pow_iff_left (by omega : e ≠ 0)).mp h3
theorem prevPow_of {n l : Nat} (hn : 1 ≤ n) (hl : IsPow l) (hln : l ≤ n) (hm : ∀ e, 2 ≤ e → e ≤ n.log2 → rootN n e ^ e ≤ l) : PrevPow n l := by
  refine ⟨hl, hln, fun m hp hm2 => ?_⟩
  rcases (by have := hp.pos; omega : m = 1 ∨ 2 ≤ m) with rfl | h
  · exact hl.pos
  · obtain ⟨b, e, h1, h2, rfl⟩ := hp.base h
    have he : e ≤ n.log2 := (two_pow_le_iff (by omega)).mp (Nat.le_trans (Nat.pow_le_pow_left h1 e) hm2)
    exact Nat.le_trans (Nat.pow_le_pow_left (rootN_ge (by omega) hm2) e) (hm e h2 he)
theorem lt_two_pow_log (n : Nat) : n < 2 ^ (n.log2 + 1) := Nat.lt_log2_self
theorem rootN_big {n e : Nat} (hn : 1 ≤ n) (h : n.log2 < e) : rootN n e = 1 := (rootN_is (by omega) (by simpa using hn) (Nat.lt_of_lt_of_le (lt_two_pow_log n) (Nat.pow_le_pow_right (by decide) h))).symm
theorem isPow_iff {n : Nat} : IsPow n ↔ n = 1 ∨ ∃ e, 2 ≤ e ∧ 2 ^ e ≤ n ∧ rootN n e ^ e = n := by
  constructor
  · intro h
    rcases (by have := h.pos; omega : n = 1 ∨ 2 ≤ n) with rfl | h2
    · exact .inl rfl
    · obtain ⟨b, e, h3, h4, rfl⟩ := h.base h2
      exact .inr ⟨e, h4, Nat.pow_le_pow_left h3 e, by rw [rootN_pow (by omega)]⟩
  · rintro (rfl | ⟨e, h1, h2, h3⟩)
    · exact isPow_one
    · exact ⟨rootN n e, e, by have := (rootN_gt1 (n := n) (e := e) (by omega)).mpr h2; omega, h1, h3.symm⟩
def Beside (n : Nat) (l : Option Nat) (g : Nat) : Prop := (n = 0 → g = 1) ∧ (1 ≤ n → NextPow n g) ∧ (n ≤ 1 → l = none) ∧ (2 ≤ n → ∃ x, l = some x ∧ PrevPow (n - 1) x)
theorem Beside.eq {n : Nat} {l l' : Option Nat} {g g' : Nat} (h : Beside n l g) (h' : Beside n l' g') : l = l' ∧ g = g' := by
  obtain ⟨a1, a2, a3, a4⟩ := h
  obtain ⟨b1, b2, b3, b4⟩ := h'
  constructor
  · rcases Nat.lt_or_ge n 2 with c | c
    · rw [a3 (by omega), b3 (by omega)]
    · obtain ⟨x, rfl, hx⟩ := a4 c
      obtain ⟨y, rfl, hy⟩ := b4 c
      rw [hx.eq hy]
  · rcases Nat.eq_zero_or_pos n with c | c
    · rw [a1 c, b1 c]
    · exact (a2 c).eq (b2 c)
def Nearest (n r : Nat) : Prop := (n = 0 → r = 1) ∧ (1 ≤ n → ∃ l g, PrevPow n l ∧ NextPow n g ∧ r = if n - l ≤ g - n then l else g)
theorem Nearest.eq {n r r' : Nat} (h : Nearest n r) (h' : Nearest n r') : r = r' := by
  rcases Nat.eq_zero_or_pos n with c | c
  · rw [h.1 c, h'.1 c]
  · obtain ⟨l, g, h1, h2, h3⟩ := h.2 c
    obtain ⟨l', g', h1', h2', h3'⟩ := h'.2 c
    rw [h3, h3', h1.eq h1', h2.eq h2']
theorem near_pow {n r : Nat} (hp : IsPow n) (h : Nearest n r) : r = n := by
  obtain ⟨l, g, h1, h2, h3⟩ := h.2 hp.pos
  have e : l = n := h1.eq ⟨hp, Nat.le_refl _, fun m _ hm => hm⟩
  subst e
  rw [h3, if_pos (by omega)]
theorem small_pow {m : Nat} (hp : IsPow m) (hm : m < 8) : m = 1 ∨ m = 4 := by
  rcases (by have := hp.pos; omega : m = 1 ∨ 2 ≤ m) with h | h
  · exact .inl h
  · right
    obtain ⟨b, e, h1, h2, rfl⟩ := hp.base h
    rcases (by omega : b = 2 ∨ 3 ≤ b) with rfl | hb
    · rcases (by omega : e = 2 ∨ 3 ≤ e) with rfl | he
      · rfl
      · have : 2 ^ 3 ≤ 2 ^ e := Nat.pow_le_pow_right (by decide) he
        omega
    · have h3 : 3 ^ 2 ≤ b ^ 2 := Nat.pow_le_pow_left hb 2
      have h4 : b ^ 2 ≤ b ^ e := Nat.pow_le_pow_right (by omega) h2
      omega
theorem isPow_four : IsPow 4 := ⟨2, 2, by omega, by omega, rfl⟩
theorem isPow_eight : IsPow 8 := ⟨2, 3, by omega, by omega, rfl⟩
theorem next_one : NextPow 1 4 := ⟨isPow_four, by omega, fun m hp h => hp.four h⟩
theorem next_two : NextPow 2 4 := ⟨isPow_four, by omega, fun m hp h => hp.four (by omega)⟩
theorem prev_two : PrevPow 2 1 := ⟨isPow_one, by omega, fun m hp h => by
  rcases small_pow hp (by omega) with h | h <;> omega⟩
theorem prev_six : PrevPow 6 4 := ⟨isPow_four, by omega, fun m hp h => by
  rcases small_pow hp (by omega) with h | h <;> omega⟩
theorem next_six : NextPow 6 8 := ⟨isPow_eight, by omega, fun m hp h => by
  rcases Nat.lt_or_ge m 8 with c | c
  · rcases small_pow hp c with h | h <;> omega
  · exact c⟩
end Pn
namespace Pn
/-! ### all powers to a number, in order -/
open Classical in
noncomputable def powAt (i : Nat) : Option Nat := if IsPow (1 + i) then some (1 + i) else none
noncomputable def powL (k : Nat) : List Nat := (List.range k).filterMap powAt
theorem mem_powL {k m : Nat} : m ∈ powL k ↔ 1 ≤ m ∧ m ≤ k ∧ IsPow m := by
  unfold powL powAt
  simp only [List.mem_filterMap, List.mem_range]
  constructor
  · rintro ⟨i, hi, h⟩
    split at h
    · rename_i hp
      cases h
      exact ⟨by omega, by omega, hp⟩
    · cases h
  · rintro ⟨h1, h2, h3⟩
    refine ⟨m - 1, by omega, ?_⟩
    have e : 1 + (m - 1) = m := by omega
    rw [e, if_pos h3]
theorem powL_sorted (k : Nat) : (powL k).Pairwise (· < ·) := by
  unfold powL
  rw [List.pairwise_filterMap]
  refine List.Pairwise.imp (R := fun a b => a < b) ?_ List.pairwise_lt_range
  intro a b hab x hx y hy
  unfold powAt at hx hy
  split at hx
  · split at hy
    · cases hx
      cases hy
      omega
    · cases hy
  · cases hx
theorem last_ge : ∀ {l : List Nat} {z : Nat}, l.Pairwise (· < ·) → l.getLast? = some z → ∀ y ∈ l, y ≤ z
  | [], _, _, h, _, _ => by simp at h
  | [x], z, _, h, y, hy => by
    simp at h hy
    omega
  | x :: x' :: r, z, hp, h, y, hy => by
    rw [List.getLast?_cons_cons] at h
    rw [List.pairwise_cons] at hp
    have ih := last_ge hp.2 h
    rcases List.mem_cons.mp hy with rfl | hy
    · have := hp.1 x' List.mem_cons_self
      have := ih x' List.mem_cons_self
      omega
    · exact ih y hy
theorem bs_list {n k g : Nat} {r : List Nat} (hn : n < 500) (hk : n + 60 ≤ k) (hm : (powL k).filter (fun m => decide (n < m)) = g :: r) : Beside n ((powL k).filter fun m => decide (m < n)).getLast? g := by
  have hs : ((powL k).filter fun m => decide (n < m)).Pairwise (· < ·) := (powL_sorted k).filter _
  rw [hm, List.pairwise_cons] at hs
  have hg : g ∈ (powL k).filter (fun m => decide (n < m)) := by rw [hm]; exact List.mem_cons_self
  rw [List.mem_filter, mem_powL, decide_eq_true_eq] at hg
  obtain ⟨⟨g1, g2, g3⟩, g4⟩ := hg
  have hmin : ∀ m, IsPow m → n < m → g ≤ m := by
    intro m hp hnm
    rcases Nat.lt_or_ge k m with c | c
    · omega
    · have : m ∈ (powL k).filter (fun m => decide (n < m)) := by
        rw [List.mem_filter, mem_powL, decide_eq_true_eq]
        exact ⟨⟨hp.pos, c, hp⟩, hnm⟩
      rw [hm] at this
      rcases List.mem_cons.mp this with rfl | h
      · exact Nat.le_refl _
      · exact Nat.le_of_lt (hs.1 m h)
  refine ⟨fun h0 => ?_, fun _ => ⟨g3, g4, hmin⟩, fun h1 => ?_, fun h2 => ?_⟩
  · have := hmin 1 isPow_one (by omega)
    omega
  · have : (powL k).filter (fun m => decide (m < n)) = [] := by
      rw [List.filter_eq_nil_iff]
      intro m hm
      rw [mem_powL] at hm
      simp
      omega
    rw [this]
    rfl
  · have h1 : 1 ∈ (powL k).filter (fun m => decide (m < n)) := by
      rw [List.mem_filter, mem_powL, decide_eq_true_eq]
      exact ⟨⟨by omega, by omega, isPow_one⟩, by omega⟩
    have hne : (powL k).filter (fun m => decide (m < n)) ≠ [] := fun e => by
      rw [e] at h1
      cases h1
    have hl := List.getLast?_eq_some_getLast hne
    refine ⟨_, hl, ?_⟩
    have hmem := List.getLast_mem hne
    have hge := last_ge ((powL_sorted k).filter _) hl
    rw [List.mem_filter, mem_powL, decide_eq_true_eq] at hmem
    obtain ⟨⟨a1, a2, a3⟩, a4⟩ := hmem
    refine ⟨a3, by omega, fun m hp hm => hge m ?_⟩
    rw [List.mem_filter, mem_powL, decide_eq_true_eq]
    exact ⟨⟨hp.pos, by omega, hp⟩, by omega⟩
theorem more_ex {n k : Nat} (hn : n < 500) (hk : n + 60 ≤ k) : ∃ g r, (powL k).filter (fun m => decide (n < m)) = g :: r := by
  have h1 := rootN_le (n := n) (e := 2) (by omega)
  have h2 := rootN_lt (n := n) (e := 2) (by omega)
  have h3 : rootN n 2 ≤ 22 := by
    refine Nat.le_of_not_lt fun c => ?_
    have : 23 ^ 2 ≤ rootN n 2 ^ 2 := Nat.pow_le_pow_left c 2
    omega
  have hp : IsPow ((rootN n 2 + 1) ^ 2) := isPow_up (by omega)
  have h4 : (rootN n 2 + 1) ^ 2 = rootN n 2 ^ 2 + 2 * rootN n 2 + 1 := by grind
  have : (rootN n 2 + 1) ^ 2 ∈ (powL k).filter (fun m => decide (n < m)) := by
    rw [List.mem_filter, mem_powL, decide_eq_true_eq]
    exact ⟨⟨hp.pos, by omega, hp⟩, h2⟩
  cases e : (powL k).filter (fun m => decide (n < m)) with
  | nil =>
    rw [e] at this
    cases this
  | cons g r => exact ⟨g, r, rfl⟩
end Pn
namespace Pn
/-! ### how often a rest comes -/
def sumN : Nat → (Nat → Nat) → Nat
  | 0, _ => 0
  | n + 1, f => sumN n f + f n
theorem sumN_congr {f g : Nat → Nat} : ∀ n, (∀ i, i < n → f i = g i) → sumN n f = sumN n g
  | 0, _ => rfl
  | n + 1, h => by rw [sumN, sumN, sumN_congr n fun i hi => h i (by omega), h n (by omega)]
/-- one place is greater by a -/
theorem sumN_one {f g : Nat → Nat} {a : Nat} : ∀ n j, j < n → (∀ i, i < n → i ≠ j → f i = g i) → f j = g j + a → sumN n f = sumN n g + a
  | 0, _, h, _, _ => by omega
  | n + 1, j, h, h1, h2 => by
    rw [sumN, sumN]
    rcases Nat.lt_or_ge j n with c | c
    · rw [sumN_one n j c (fun i hi => h1 i (by omega)) h2, h1 n (by omega) (by omega)]
      omega
    · have : j = n := by omega
      subst this
      rw [sumN_congr j fun i hi => h1 i (by omega) (by omega), h2]
      omega
theorem sumN_zero {f : Nat → Nat} {m : Nat} : ∀ n, m ≤ n → (∀ i, m ≤ i → i < n → f i = 0) → sumN n f = sumN m f
  | 0, h, _ => by
    have : m = 0 := by omega
    rw [this]
  | n + 1, h, h1 => by
    rcases Nat.lt_or_ge n m with c | c
    · have : m = n + 1 := by omega
      rw [this]
    · rw [sumN, sumN_zero n c fun i a b => h1 i a (by omega), h1 n c (by omega)]
      omega
theorem div_succ' {m d : Nat} (hd : 0 < d) : (m + 1) / d = m / d + if (m + 1) % d = 0 then 1 else 0 := by
  have h1 := Nat.div_add_mod m d
  have h2 := Nat.mod_lt m hd
  by_cases c : m % d + 1 = d
  · have e : m + 1 = d * (m / d + 1) := by rw [Nat.mul_add, Nat.mul_one]; omega
    rw [if_pos]
    · conv => lhs; rw [e]
      rw [Nat.mul_div_cancel_left _ hd]
    · rw [e, Nat.mul_mod_right]
  · have e : m + 1 = d * (m / d) + (m % d + 1) := by omega
    rw [if_neg]
    · conv => lhs; rw [e]
      rw [Nat.mul_add_div hd, Nat.div_eq_of_lt (show m % d + 1 < d by omega)]
    · rw [e, Nat.mul_add_mod, Nat.mod_eq_of_lt (by omega)]
      omega
/-- by the bases 1, .., d below one another -/
def cntS (B e d r : Nat) : Nat := sumN d fun i => if (i + 1) ^ e % d = r then (B + d - (i + 1)) / d else 0
def cntR (B e d r : Nat) : Nat := sumN B fun i => if (i + 1) ^ e % d = r then 1 else 0
theorem pow_mod_eq {a b e d : Nat} (h : a % d = b % d) : a ^ e % d = b ^ e % d := by
  rw [Nat.pow_mod, h, ← Nat.pow_mod]
theorem cntS_succ {B e d r : Nat} (hd : 0 < d) : cntS (B + 1) e d r = cntS B e d r + if (B + 1) ^ e % d = r then 1 else 0 := by
  unfold cntS
  have hj : B % d < d := Nat.mod_lt B hd
  have hB := Nat.div_add_mod B d
  refine sumN_one d (B % d) hj (fun i hi hne => ?_) ?_
  · have e1 : B + 1 + d - (i + 1) = (B + d - (i + 1)) + 1 := by omega
    rw [e1, div_succ' hd, if_neg (c := (B + d - (i + 1) + 1) % d = 0)]
    · rfl
    · intro h
      apply hne
      have h2 : B + d - (i + 1) + 1 = d * (B / d) + (B % d + d - i) := by omega
      rw [h2, Nat.mul_add_mod] at h
      rcases Nat.lt_or_ge (B % d + d - i) d with c | c
      · rw [Nat.mod_eq_of_lt c] at h
        omega
      · have h3 : B % d + d - i = (B % d - i) + d := by omega
        rw [h3, Nat.add_mod_right, Nat.mod_eq_of_lt (by omega)] at h
        omega
  · have hc : (B % d + 1) ^ e % d = (B + 1) ^ e % d := pow_mod_eq (by rw [Nat.mod_add_mod])
    rw [hc]
    by_cases c : (B + 1) ^ e % d = r
    · rw [if_pos c, if_pos c, if_pos c]
      have e1 : B + 1 + d - (B % d + 1) = (B + d - (B % d + 1)) + 1 := by omega
      rw [e1, div_succ' hd, if_pos]
      have h2 : B + d - (B % d + 1) + 1 = d * (B / d) + d := by omega
      rw [h2, Nat.mul_add_mod, Nat.mod_self]
    · rw [if_neg c, if_neg c, if_neg c]
theorem cntS_zero {e d r : Nat} (hd : 0 < d) : cntS 0 e d r = 0 := by
  unfold cntS
  rw [sumN_zero (m := 0) d (by omega)]
  · rfl
  · intro i _ hi
    split
    · rw [Nat.div_eq_of_lt (by omega)]
    · rfl
theorem cntS_eq {e d r : Nat} (hd : 0 < d) : ∀ B, cntS B e d r = cntR B e d r
  | 0 => cntS_zero hd
  | B + 1 => by
    rw [cntS_succ hd, cntS_eq hd B]
    rfl
/-- as the program sums -/
theorem cnt_prog {B e d r : Nat} (hd : 0 < d) : sumN (min d B) (fun i => if (i + 1) ^ e % d = r then (B - (i + 1)) / d + 1 else 0) = cntS B e d r := by
  unfold cntS
  rw [sumN_zero (m := min d B) d (by omega)]
  · refine sumN_congr _ fun i hi => ?_
    split
    · rw [show B + d - (i + 1) = (B - (i + 1)) + d by omega, Nat.add_div_right _ hd]
    · rfl
  · intro i h1 h2
    split
    · rw [Nat.div_eq_of_lt (by omega)]
    · rfl
theorem sumN_shift (f : Nat → Nat) : ∀ n, sumN (n + 1) f = f 0 + sumN n fun i => f (i + 1)
  | 0 => by simp [sumN]
  | n + 1 => by
    rw [sumN, sumN_shift f n, sumN]
    omega
/-- as the law sums: by the bases 0, .., d - 1 -/
theorem cnt_law {B e d r : Nat} (hd : 0 < d) : sumN d (fun i => if i ^ e % d = r then (B + d - i) / d - (if i = 0 then 1 else 0) else 0) = cntS B e d r := by
  obtain ⟨m, rfl⟩ : ∃ m, d = m + 1 := ⟨d - 1, by omega⟩
  unfold cntS
  rw [sumN_shift, sumN]
  have h0 : (0 : Nat) ^ e % (m + 1) = (m + 1) ^ e % (m + 1) := pow_mod_eq (by simp)
  have h1 : (if (0 : Nat) ^ e % (m + 1) = r then (B + (m + 1) - 0) / (m + 1) - (if (0 : Nat) = 0 then 1 else 0) else 0) = if (m + 1) ^ e % (m + 1) = r then (B + (m + 1) - (m + 1)) / (m + 1) else 0 := by
    rw [h0]
    split
    · rw [if_pos rfl, Nat.sub_zero, Nat.add_div_right _ hd, Nat.add_sub_cancel, Nat.add_sub_cancel]
    · rfl
  rw [h1, Nat.add_comm]
  congr 1
/-- a rest by halves -/
theorem rest_step1 {f b e d X : Nat} (h : f * b ^ e % d = X) (he : e % 2 = 1) : (f * b % d) * (b * b % d) ^ (e / 2) % d = X := by
  have e1 : e = 2 * (e / 2) + 1 := by omega
  have e2 : b ^ e = b * (b * b) ^ (e / 2) := by
    conv => lhs; rw [e1]
    rw [Nat.pow_succ, Nat.pow_mul, Nat.pow_two, Nat.mul_comm]
  rw [e2, ← Nat.mul_assoc] at h
  rw [Nat.mul_mod, Nat.mod_mod, ← Nat.pow_mod, ← Nat.mul_mod]
  exact h
theorem rest_step0 {f b e d X : Nat} (h : f * b ^ e % d = X) (he : e % 2 = 0) : f * (b * b % d) ^ (e / 2) % d = X := by
  have e1 : e = 2 * (e / 2) := by omega
  have e2 : b ^ e = (b * b) ^ (e / 2) := by
    conv => lhs; rw [e1]
    rw [Nat.pow_mul, Nat.pow_two]
  rw [e2] at h
  rw [Nat.mul_mod, ← Nat.pow_mod, ← Nat.mul_mod]
  exact h
theorem count_cntR (e d r : Nat) : ∀ B, ((List.range B).map fun i => (((1 + i) ^ e % d : Nat) : Int)).count (r : Int) = cntR B e d r
  | 0 => rfl
  | B + 1 => by
    have ih := count_cntR e d r B
    rw [List.range_succ, List.map_append, List.count_append, ih]
    unfold cntR
    rw [sumN]
    congr 1
    rw [List.map_singleton, List.count_singleton, Nat.add_comm 1 B]
    by_cases h : (B + 1) ^ e % d = r
    · rw [if_pos h, if_pos (by rw [h]; exact beq_self_eq_true _)]
    · rw [if_neg h, if_neg (by rw [beq_iff_eq]; omega)]
end Pn
namespace Pn
/-! ### by which exponents a number is a power -/
theorem pow_inj_left {a b n : Nat} (hn : n ≠ 0) (h : a ^ n = b ^ n) : a = b := by
  rcases Nat.lt_trichotomy a b with c | c | c
  · have := Nat.pow_lt_pow_left c hn
    omega
  · exact c
  · have := Nat.pow_lt_pow_left c hn
    omega
theorem dvd_of_pow_dvd {a b n : Nat} (hn : n ≠ 0) (h : a ^ n ∣ b ^ n) : a ∣ b := (Nat.pow_dvd_pow_iff hn).mp h
/-- two powers that are one, by exponents with nothing in common -/
theorem coprime_pow : ∀ (s a b x y : Nat), a + b ≤ s → 1 ≤ a → 1 ≤ b → 1 ≤ x → 1 ≤ y → Nat.gcd a b = 1 → x ^ a = y ^ b → ∃ z, x = z ^ b ∧ y = z ^ a
  | 0, a, b, _, _, h, ha, _, _, _, _, _ => by omega
  | s + 1, a, b, x, y, h, ha, hb, hx, hy, hg, he => by
    rcases Nat.lt_trichotomy a b with c | c | c
    · -- y divides x
      have hd : y ∣ x := dvd_of_pow_dvd (n := a) (by omega) (by rw [he]; exact Nat.pow_dvd_pow y (by omega))
      obtain ⟨k, rfl⟩ := hd
      have hk : 1 ≤ k := by
        rcases Nat.eq_zero_or_pos k with rfl | h0
        · simp at hx
        · exact h0
      have e1 : k ^ a = y ^ (b - a) := by
        have h1 : y ^ a * k ^ a = y ^ a * y ^ (b - a) := by
          rw [← Nat.mul_pow, he, ← Nat.pow_add]
          congr 1
          omega
        exact Nat.eq_of_mul_eq_mul_left (Nat.pow_pos (by omega)) h1
      have hg2 : Nat.gcd a (b - a) = 1 := by
        rw [Nat.gcd_sub_self_right (by omega)]
        exact hg
      obtain ⟨z, h1, h2⟩ := coprime_pow s a (b - a) k y (by omega) ha (by omega) hk hy hg2 e1
      refine ⟨z, ?_, h2⟩
      rw [h1, h2, ← Nat.pow_add]
      congr 1
      omega
    · subst c
      rw [Nat.gcd_self] at hg
      subst hg
      simp at he
      exact ⟨x, by simp, by simpa using he.symm⟩
    · have hd : x ∣ y := dvd_of_pow_dvd (n := b) (by omega) (by rw [← he]; exact Nat.pow_dvd_pow x (by omega))
      obtain ⟨k, rfl⟩ := hd
      have hk : 1 ≤ k := by
        rcases Nat.eq_zero_or_pos k with rfl | h0
        · simp at hy
        · exact h0
      have e1 : x ^ (a - b) = k ^ b := by
        have h1 : x ^ b * x ^ (a - b) = x ^ b * k ^ b := by
          rw [← Nat.mul_pow, ← he, ← Nat.pow_add]
          congr 1
          omega
        exact Nat.eq_of_mul_eq_mul_left (Nat.pow_pos (by omega)) h1
      have hg2 : Nat.gcd (a - b) b = 1 := by
        rw [Nat.gcd_sub_self_left (by omega)]
        exact hg
      obtain ⟨z, h1, h2⟩ := coprime_pow s (a - b) b x k (by omega) (by omega) hb hx hk hg2 e1
      refine ⟨z, h1, ?_⟩
      rw [h1, h2, ← Nat.pow_add]
      congr 1
      omega
/-- m is a power by e -/
def PowBy (m e : Nat) : Prop := ∃ b, m = b ^ e
theorem PowBy.lcm {m a b : Nat} (hm : 1 ≤ m) (ha : 1 ≤ a) (hb : 1 ≤ b) (h1 : PowBy m a) (h2 : PowBy m b) : PowBy m (Nat.lcm a b) := by
  obtain ⟨x, hx⟩ := h1
  obtain ⟨y, hy⟩ := h2
  have hg : 0 < Nat.gcd a b := Nat.gcd_pos_of_pos_left b ha
  have hx1 : 1 ≤ x := by
    rcases Nat.eq_zero_or_pos x with rfl | h
    · rw [Nat.zero_pow ha] at hx
      omega
    · exact h
  have hy1 : 1 ≤ y := by
    rcases Nat.eq_zero_or_pos y with rfl | h
    · rw [Nat.zero_pow hb] at hy
      omega
    · exact h
  have ea : a = a / Nat.gcd a b * Nat.gcd a b := (Nat.div_mul_cancel (Nat.gcd_dvd_left a b)).symm
  have eb : b = b / Nat.gcd a b * Nat.gcd a b := (Nat.div_mul_cancel (Nat.gcd_dvd_right a b)).symm
  have h3 : x ^ (a / Nat.gcd a b) = y ^ (b / Nat.gcd a b) := by
    refine pow_inj_left (n := Nat.gcd a b) (by omega) ?_
    rw [← Nat.pow_mul, ← Nat.pow_mul, ← ea, ← eb, ← hx, ← hy]
  have ha' : 1 ≤ a / Nat.gcd a b := Nat.div_pos (Nat.gcd_le_left b ha) hg
  have hb' : 1 ≤ b / Nat.gcd a b := Nat.div_pos (Nat.gcd_le_right a hb) hg
  have hc : Nat.gcd (a / Nat.gcd a b) (b / Nat.gcd a b) = 1 := by rw [Nat.gcd_div (Nat.gcd_dvd_left a b) (Nat.gcd_dvd_right a b), Nat.div_self hg]
  obtain ⟨z, h4, h5⟩ := coprime_pow _ _ _ x y (Nat.le_refl _) ha' hb' hx1 hy1 hc h3
  refine ⟨z, ?_⟩
  rw [hx, h4, ← Nat.pow_mul]
  congr 1
  unfold Nat.lcm
  rw [Nat.mul_comm a b]
  conv => lhs; rw [ea]
  rw [← Nat.mul_assoc, Nat.mul_comm]
  have : b / Nat.gcd a b * a = b * a / Nat.gcd a b := by
    rw [Nat.mul_comm b a, Nat.mul_div_assoc a (Nat.gcd_dvd_right a b), Nat.mul_comm]
  rw [← this]
  conv => rhs; rw [ea]
  rw [Nat.mul_comm (Nat.gcd a b), Nat.mul_assoc]
theorem powBy_iff {m e : Nat} (he : 1 ≤ e) : PowBy m e ↔ rootN m e ^ e = m := by
  constructor
  · rintro ⟨b, rfl⟩
    rw [rootN_pow he]
  · intro h
    exact ⟨_, h.symm⟩
instance powByDec (m e : Nat) : Decidable (1 ≤ e ∧ PowBy m e) :=
  if h : 1 ≤ e then
    if h2 : rootN m e ^ e = m then isTrue ⟨h, (powBy_iff h).mpr h2⟩ else isFalse fun c => h2 ((powBy_iff h).mp c.2)
  else isFalse fun c => h c.1
/-- the greatest exponent by which m (from 2 on) is a power, 1 where it is none -/
def gexpD (m : Nat) : Nat → Nat
  | 0 => 1
  | k + 1 => if rootN m (k + 1) ^ (k + 1) = m then k + 1 else gexpD m k
def gexp (m : Nat) : Nat := gexpD m m.log2
theorem gexpD_spec (m : Nat) : ∀ k, 1 ≤ gexpD m k ∧ PowBy m (gexpD m k) ∧ ∀ e, 1 ≤ e → e ≤ k → PowBy m e → e ≤ gexpD m k
  | 0 => ⟨Nat.le_refl _, ⟨m, by rw [gexpD, Nat.pow_one]⟩, fun e h1 h2 => by omega⟩
  | k + 1 => by
    obtain ⟨h1, h2, h3⟩ := gexpD_spec m k
    rw [gexpD]
    split
    · rename_i h
      exact ⟨by omega, (powBy_iff (by omega)).mpr h, fun e a b _ => b⟩
    · rename_i h
      refine ⟨h1, h2, fun e a b c => ?_⟩
      rcases Nat.lt_or_ge e (k + 1) with d | d
      · exact h3 e a (by omega) c
      · have : e = k + 1 := by omega
        subst this
        exact (h ((powBy_iff (by omega)).mp c)).elim
theorem powBy_le {m e : Nat} (hm : 2 ≤ m) (h : PowBy m e) : e ≤ m.log2 := by
  obtain ⟨b, rfl⟩ := h
  have hb : 2 ≤ b := by
    rcases (by omega : b = 0 ∨ b = 1 ∨ 2 ≤ b) with rfl | rfl | h
    · rcases Nat.eq_zero_or_pos e with rfl | h
      · simp at hm
      · rw [Nat.zero_pow h] at hm
        omega
    · simp at hm
    · exact h
  exact (two_pow_le_iff (by omega)).mp (Nat.pow_le_pow_left hb e)
theorem gexp_pos (m : Nat) : 1 ≤ gexp m := (gexpD_spec m _).1
theorem gexp_by (m : Nat) : PowBy m (gexp m) := (gexpD_spec m _).2.1
theorem gexp_max {m e : Nat} (hm : 2 ≤ m) (he : 1 ≤ e) (h : PowBy m e) : e ≤ gexp m := (gexpD_spec m _).2.2 e he (powBy_le hm h) h
theorem gexp_le {m : Nat} (hm : 2 ≤ m) : gexp m ≤ m.log2 := powBy_le hm (gexp_by m)
/-- a number is a power by just the divisors of its greatest exponent -/
theorem powBy_dvd {m e : Nat} (hm : 2 ≤ m) (he : 1 ≤ e) : PowBy m e ↔ e ∣ gexp m := by
  constructor
  · intro h
    have h1 := PowBy.lcm (by omega) he (gexp_pos m) h (gexp_by m)
    have h2 : 1 ≤ Nat.lcm e (gexp m) := Nat.lcm_pos he (gexp_pos m)
    have h3 := gexp_max hm h2 h1
    have h4 : gexp m ∣ Nat.lcm e (gexp m) := Nat.dvd_lcm_right _ _
    have h5 : Nat.lcm e (gexp m) = gexp m := Nat.le_antisymm h3 (Nat.le_of_dvd h2 h4)
    rw [← h5]
    exact Nat.dvd_lcm_left _ _
  · rintro ⟨k, hk⟩
    obtain ⟨b, hb⟩ := gexp_by m
    refine ⟨b ^ k, ?_⟩
    rw [← Nat.pow_mul, Nat.mul_comm k e, ← hk]
    exact hb
theorem isPow_gexp {m : Nat} (hm : 2 ≤ m) : IsPow m ↔ 2 ≤ gexp m := by
  constructor
  · intro h
    obtain ⟨b, e, h1, h2, h3⟩ := h.base hm
    exact Nat.le_trans h2 (gexp_max hm (by omega) ⟨b, h3⟩)
  · intro h
    obtain ⟨b, hb⟩ := gexp_by m
    refine ⟨b, gexp m, ?_, h, hb⟩
    rcases Nat.eq_zero_or_pos b with rfl | hb0
    · rw [Nat.zero_pow (by omega)] at hb
      omega
    · exact hb0
end Pn
namespace Pn
/-! ### how many powers there are to a number -/
theorem sumN_add (f g : Nat → Nat) : ∀ n, sumN n (fun i => f i + g i) = sumN n f + sumN n g
  | 0 => rfl
  | n + 1 => by
    rw [sumN, sumN, sumN, sumN_add f g n]
    omega
theorem sumN_nil : ∀ n, sumN n (fun _ => 0) = 0
  | 0 => rfl
  | n + 1 => by rw [sumN, sumN_nil n]
theorem sumN_swap (f : Nat → Nat → Nat) (m : Nat) : ∀ n, sumN n (fun i => sumN m fun j => f i j) = sumN m fun j => sumN n fun i => f i j
  | 0 => by
    show 0 = sumN m fun _ => 0
    rw [sumN_nil]
  | n + 1 => by
    rw [sumN, sumN_swap f m n, ← sumN_add]
    rfl
/-- just one place has 1 -/
theorem sumN_point {n j : Nat} {f : Nat → Nat} (hj : j < n) (h1 : f j = 1) (h0 : ∀ i, i < n → i ≠ j → f i = 0) : sumN n f = 1 := by
  have := sumN_one (f := f) (g := fun _ => 0) (a := 1) n j hj h0 (by rw [h1])
  rw [this, sumN_nil]
def cg (n e : Nat) : Nat := sumN (n + 1) fun m => if 2 ≤ m ∧ gexp m = e then 1 else 0
def cb (n e : Nat) : Nat := sumN (n + 1) fun m => if 2 ≤ m ∧ rootN m e ^ e = m then 1 else 0
def cp (n : Nat) : Nat := sumN (n + 1) fun m => if 2 ≤ m ∧ 2 ≤ gexp m then 1 else 0
theorem rootN_succ {n e : Nat} (he : 1 ≤ e) : rootN (n + 1) e = rootN n e + if rootN (n + 1) e ^ e = n + 1 then 1 else 0 := by
  have h1 := rootN_le (n := n) he
  have h2 := rootN_lt (n := n) he
  rcases Nat.lt_or_ge (n + 1) ((rootN n e + 1) ^ e) with c | c
  · have e1 : rootN n e = rootN (n + 1) e := rootN_is he (by omega) c
    rw [if_neg, ← e1, Nat.add_zero]
    rw [← e1]
    omega
  · have c2 : (rootN n e + 1) ^ e = n + 1 := by omega
    have e1 : rootN n e + 1 = rootN (n + 1) e := rootN_is he (by omega) (by rw [← c2]; exact Nat.pow_lt_pow_left (by omega) (by omega))
    rw [if_pos, ← e1]
    rw [← e1]
    exact c2
theorem cb_root {e : Nat} (he : 1 ≤ e) : ∀ n, 1 ≤ n → cb n e + 1 = rootN n e
  | 0, h => by omega
  | 1, _ => by
    rw [rootN_1 he]
    unfold cb
    rw [sumN, sumN, sumN]
    simp
  | n + 2, _ => by
    have ih := cb_root he (n + 1) (by omega)
    have e1 : cb (n + 2) e = cb (n + 1) e + if rootN (n + 2) e ^ e = n + 2 then 1 else 0 := by
      show sumN (n + 2 + 1) _ = sumN (n + 1 + 1) _ + _
      rw [sumN]
      congr 1
      by_cases h : rootN (n + 2) e ^ e = n + 2
      · rw [if_pos h, if_pos ⟨by omega, h⟩]
      · rw [if_neg h, if_neg fun c => h c.2]
    have e2 : rootN (n + 2) e = rootN (n + 1) e + if rootN (n + 2) e ^ e = n + 2 then 1 else 0 := rootN_succ he
    omega
theorem cb_sum {n e K : Nat} (he : 1 ≤ e) (hK : n.log2 < (K + 1) * e) : cb n e = sumN K fun i => cg n ((i + 1) * e) := by
  unfold cg
  rw [← sumN_swap (fun m i => if 2 ≤ m ∧ gexp m = (i + 1) * e then 1 else 0)]
  unfold cb
  refine sumN_congr _ fun m hm => ?_
  by_cases h2 : 2 ≤ m
  · have hmn : m.log2 ≤ n.log2 := by
      rw [Nat.le_log2 (by omega)]
      exact Nat.le_trans (Nat.log2_self_le (by omega)) (by omega)
    by_cases hp : rootN m e ^ e = m
    · rw [if_pos ⟨h2, hp⟩]
      have hd := (powBy_dvd h2 he).mp ((powBy_iff he).mpr hp)
      obtain ⟨k, hk⟩ := hd
      have hk1 : 1 ≤ k := by
        rcases Nat.eq_zero_or_pos k with rfl | h
        · have := gexp_pos m
          omega
        · exact h
      have hkK : k < K + 1 := by
        have h3 : e * k < (K + 1) * e := by
          have := gexp_le h2
          omega
        rw [Nat.mul_comm] at h3
        exact Nat.lt_of_mul_lt_mul_right h3
      refine (sumN_point (j := k - 1) (by omega) ?_ fun i hi hne => ?_).symm
      · rw [if_pos]
        refine ⟨h2, ?_⟩
        rw [show k - 1 + 1 = k by omega, hk, Nat.mul_comm]
      · rw [if_neg]
        rintro ⟨_, h4⟩
        rw [hk, Nat.mul_comm] at h4
        have := Nat.eq_of_mul_eq_mul_right (by omega) h4
        omega
    · rw [if_neg fun c => hp c.2]
      rw [sumN_congr (g := fun _ => 0) K, sumN_nil]
      intro i hi
      rw [if_neg]
      rintro ⟨_, h4⟩
      exact hp ((powBy_iff he).mp ((powBy_dvd h2 he).mpr ⟨i + 1, by rw [h4, Nat.mul_comm]⟩))
  · rw [if_neg fun c => h2 c.1]
    rw [sumN_congr (g := fun _ => 0) K, sumN_nil]
    intro i hi
    rw [if_neg fun c => h2 c.1]
theorem cp_sum {n L : Nat} (hL : n.log2 ≤ L + 1) : cp n = sumN L fun i => cg n (i + 2) := by
  unfold cg
  rw [← sumN_swap (fun m i => if 2 ≤ m ∧ gexp m = i + 2 then 1 else 0)]
  unfold cp
  refine sumN_congr _ fun m hm => ?_
  by_cases h2 : 2 ≤ m ∧ 2 ≤ gexp m
  · rw [if_pos h2]
    have hmn : m.log2 ≤ n.log2 := by
      rw [Nat.le_log2 (by omega)]
      exact Nat.le_trans (Nat.log2_self_le (by omega)) (by omega)
    have := gexp_le h2.1
    refine (sumN_point (j := gexp m - 2) (by omega) ?_ fun i hi hne => ?_).symm
    · rw [if_pos ⟨h2.1, by omega⟩]
    · rw [if_neg]
      rintro ⟨_, h4⟩
      omega
  · rw [if_neg h2]
    rw [sumN_congr (g := fun _ => 0) L, sumN_nil]
    intro i hi
    rw [if_neg]
    rintro ⟨h3, h4⟩
    exact h2 ⟨h3, by omega⟩
/-- how many powers there are to n -/
noncomputable def cntP (n : Nat) : Nat := (powL n).length
theorem powL_succ (n : Nat) : powL (n + 1) = powL n ++ (powAt n).toList := by
  unfold powL
  rw [List.range_succ, List.filterMap_append]
  cases e : powAt n <;> simp [e]
theorem cntP_zero : cntP 0 = 0 := rfl
open Classical in
theorem cntP_succ (n : Nat) : cntP (n + 1) = cntP n + if IsPow (n + 1) then 1 else 0 := by
  unfold cntP
  rw [powL_succ, List.length_append]
  congr 1
  unfold powAt
  rw [Nat.add_comm 1 n]
  by_cases h : IsPow (n + 1)
  · rw [if_pos h, if_pos h]
    rfl
  · rw [if_neg h, if_neg h]
    rfl
theorem cntP_cp : ∀ n, 1 ≤ n → cntP n = 1 + cp n
  | 0, h => by omega
  | 1, _ => by
    rw [cntP_succ, cntP_zero, if_pos isPow_one]
    rfl
  | n + 2, _ => by
    have ih := cntP_cp (n + 1) (by omega)
    rw [cntP_succ, ih]
    have e1 : cp (n + 2) = cp (n + 1) + if 2 ≤ gexp (n + 2) then 1 else 0 := by
      show sumN (n + 2 + 1) _ = sumN (n + 1 + 1) _ + _
      rw [sumN]
      congr 1
      by_cases h : 2 ≤ gexp (n + 2)
      · rw [if_pos h, if_pos ⟨by omega, h⟩]
      · rw [if_neg h, if_neg fun c => h c.2]
    rw [e1]
    have := isPow_gexp (m := n + 2) (by omega)
    by_cases h : IsPow (n + 2)
    · rw [if_pos h, if_pos (this.mp h)]
      omega
    · rw [if_neg h, if_neg fun c => h (this.mpr c)]
      omega
theorem cntP_mono {a b : Nat} (h : a ≤ b) : cntP a ≤ cntP b := by
  induction b with
  | zero =>
    have : a = 0 := by omega
    rw [this]
    exact Nat.le_refl _
  | succ b ih =>
    rcases Nat.lt_or_ge a (b + 1) with c | c
    · exact Nat.le_trans (ih (by omega)) (by rw [cntP_succ]; omega)
    · have : a = b + 1 := by omega
      rw [this]
      exact Nat.le_refl _
theorem cntP_le (n : Nat) : cntP n ≤ n := by
  induction n with
  | zero => exact Nat.le_refl _
  | succ n ih =>
    rw [cntP_succ]
    split <;> omega
end Pn
namespace Pn
/-! ### rests by all divisors, and by powers of primes -/
theorem inv_of : ∀ (s a b : Nat), a + b ≤ s → 1 ≤ a → 1 ≤ b → Nat.gcd a b = 1 → ∃ x y, a * x = b * y + 1
  | 0, a, b, h, ha, _, _ => by omega
  | s + 1, a, b, h, ha, hb, hg => by
    rcases Nat.lt_trichotomy a b with c | c | c
    · have hg' : Nat.gcd a (b - a) = 1 := by
        rw [Nat.gcd_comm] at hg
        rw [Nat.gcd_comm]
        have h2 : Nat.gcd (b - a) a = Nat.gcd b a := Nat.gcd_sub_self_left (by omega)
        rw [h2]
        exact hg
      obtain ⟨x, y, e⟩ := inv_of s a (b - a) (by omega) ha (by omega) hg'
      refine ⟨x + y, y, ?_⟩
      have : b * y = (b - a) * y + a * y := by
        rw [← Nat.add_mul]
        congr 1
        omega
      rw [Nat.mul_add, e, this]
      omega
    · subst c
      rw [Nat.gcd_self] at hg
      subst hg
      exact ⟨1, 0, rfl⟩
    · have hg' : Nat.gcd (a - b) b = 1 := by
        rw [Nat.gcd_sub_self_left (by omega)]
        exact hg
      obtain ⟨x, y, e⟩ := inv_of s (a - b) b (by omega) (by omega) hb hg'
      refine ⟨x, y + x, ?_⟩
      have : a * x = (a - b) * x + b * x := by
        rw [← Nat.add_mul]
        congr 1
        omega
      rw [this, e, Nat.mul_add]
      omega
theorem two_rests {a b : Nat} (ha : 1 ≤ a) (hb : 1 ≤ b) (hg : Nat.gcd a b = 1) (r s : Nat) : ∃ z, z % a = r % a ∧ z % b = s % b := by
  obtain ⟨x, y, e1⟩ := inv_of _ a b (Nat.le_refl _) ha hb hg
  obtain ⟨u, v, e2⟩ := inv_of _ b a (Nat.le_refl _) hb ha (by rw [Nat.gcd_comm]; exact hg)
  refine ⟨r * (b * u) + s * (a * x), ?_, ?_⟩
  · have : r * (b * u) + s * (a * x) = r + a * (r * v + s * x) := by
      rw [e2]
      grind
    rw [this, Nat.add_mul_mod_self_left]
  · have : r * (b * u) + s * (a * x) = s + b * (r * u + s * y) := by
      rw [e1]
      grind
    rw [this, Nat.add_mul_mod_self_left]
theorem both_rests {a b x n : Nat} (hg : Nat.gcd a b = 1) (h1 : x % a = n % a) (h2 : x % b = n % b) : x % (a * b) = n % (a * b) := by
  have key : ∀ x n : Nat, n ≤ x → x % a = n % a → x % b = n % b → x % (a * b) = n % (a * b) := fun x n hle h1 h2 => by
    have d1 : a ∣ x - n := Nat.dvd_of_mod_eq_zero (Nat.sub_mod_eq_zero_of_mod_eq h1)
    have d2 : b ∣ x - n := Nat.dvd_of_mod_eq_zero (Nat.sub_mod_eq_zero_of_mod_eq h2)
    obtain ⟨t, ht⟩ := Nat.Coprime.mul_dvd_of_dvd_of_dvd hg d1 d2
    have : x = n + a * b * t := by omega
    rw [this, Nat.add_mul_mod_self_left]
  rcases Nat.le_total n x with c | c
  · exact key x n c h1 h2
  · exact (key n x c h1.symm h2.symm).symm
def PrimeN (p : Nat) : Prop := 2 ≤ p ∧ ∀ d, 2 ≤ d → d < p → ¬ d ∣ p
theorem prime_in : ∀ n, 2 ≤ n → ∃ p, PrimeN p ∧ p ∣ n := fun n => by
  induction n using Nat.strongRecOn with
  | _ n ih =>
    intro h
    by_cases c : PrimeN n
    · exact ⟨n, c, Nat.dvd_refl n⟩
    · have : ∃ d, 2 ≤ d ∧ d < n ∧ d ∣ n := Classical.byContradiction fun z => c ⟨h, fun d h1 h2 h3 => z ⟨d, h1, h2, h3⟩⟩
      obtain ⟨d, h1, h2, h3⟩ := this
      obtain ⟨p, hp, hd⟩ := ih d h2 h1
      exact ⟨p, hp, Nat.dvd_trans hd h3⟩
theorem prime_cop {p m : Nat} (hp : PrimeN p) (h : ¬ p ∣ m) (k : Nat) : Nat.gcd (p ^ k) m = 1 := by
  have h1 : Nat.gcd p m = 1 := by
    have hd := Nat.gcd_dvd_left p m
    have hpos : 0 < Nat.gcd p m := Nat.gcd_pos_of_pos_left _ (by have := hp.1; omega)
    rcases (by omega : Nat.gcd p m = 1 ∨ 2 ≤ Nat.gcd p m) with c | c
    · exact c
    · exfalso
      have hle := Nat.le_of_dvd (by have := hp.1; omega) hd
      rcases Nat.lt_or_eq_of_le hle with d | d
      · exact hp.2 _ c d hd
      · refine h ?_
        rw [← d]
        exact Nat.gcd_dvd_right p m
  exact Nat.Coprime.pow_left k h1
theorem split_off {p : Nat} (hp : 2 ≤ p) : ∀ d, 1 ≤ d → ∃ k m, d = p ^ k * m ∧ ¬ p ∣ m := fun d => by
  induction d using Nat.strongRecOn with
  | _ d ih =>
    intro h
    by_cases c : p ∣ d
    · obtain ⟨t, ht⟩ := c
      have ht1 : 1 ≤ t := by
        rcases Nat.eq_zero_or_pos t with z | z
        · subst z
          omega
        · exact z
      have hlt : t < d := by
        rw [ht]
        have : 2 * t ≤ p * t := Nat.mul_le_mul_right t hp
        omega
      obtain ⟨k, m, e, hm⟩ := ih t hlt ht1
      refine ⟨k + 1, m, ?_, hm⟩
      rw [ht, e, Nat.pow_succ]
      grind
    · exact ⟨0, d, by simp, c⟩
/-- n can be a power by e, by its rests by all divisors to m -/
def CanBe (n e m : Nat) : Prop := ∀ d, 2 ≤ d → d ≤ m → ∃ b, b ^ e % d = n % d
theorem canBe_iff {n e m : Nat} : CanBe n e m ↔ ∀ p k, PrimeN p → 1 ≤ k → p ^ k ≤ m → ∃ b, b ^ e % p ^ k = n % p ^ k := by
  constructor
  · intro h p k hp hk hle
    refine h (p ^ k) ?_ hle
    exact Nat.le_trans hp.1 (Nat.le_self_pow (by omega) p)
  · intro h d
    induction d using Nat.strongRecOn with
    | _ d ih =>
      intro h2 hm
      obtain ⟨p, hp, hpd⟩ := prime_in d h2
      obtain ⟨k, t, e1, ht⟩ := split_off hp.1 d (by omega)
      have hk : 1 ≤ k := by
        rcases Nat.eq_zero_or_pos k with z | z
        · subst z
          rw [Nat.pow_zero, Nat.one_mul] at e1
          exact absurd (e1 ▸ hpd) ht
        · exact z
      have hpk : 2 ≤ p ^ k := Nat.le_trans hp.1 (Nat.le_self_pow (by omega) p)
      have ht1 : 1 ≤ t := by
        rcases Nat.eq_zero_or_pos t with z | z
        · subst z
          omega
        · exact z
      have hle : p ^ k ≤ d := by
        rw [e1]
        exact Nat.le_mul_of_pos_right _ ht1
      obtain ⟨b1, hb1⟩ := h p k hp hk (by omega)
      rcases (by omega : t = 1 ∨ 2 ≤ t) with c | c
      · subst c
        rw [Nat.mul_one] at e1
        rw [e1]
        exact ⟨b1, hb1⟩
      · have hlt : t < d := by
          rw [e1]
          have : 2 * t ≤ p ^ k * t := Nat.mul_le_mul_right t hpk
          omega
        obtain ⟨b2, hb2⟩ := ih t hlt c (by omega)
        have hg := prime_cop hp ht k
        obtain ⟨z, z1, z2⟩ := two_rests (by omega) ht1 hg b1 b2
        refine ⟨z, ?_⟩
        rw [e1]
        refine both_rests hg ?_ ?_
        · rw [pow_mod_eq z1]
          exact hb1
        · rw [pow_mod_eq z2]
          exact hb2
end Pn
/-! ListVals: list(d.values()). -/
namespace LiV
open PySem PySem.Spec PyProof.Rows L2
def rValsL : V → Hp → VK → Prop := fun x H Q => ∃ (d : Addr) (kvs : List (Key × V)), x = .ref d ∧ H d = some (.dK kvs) ∧
  ∀ p : Addr, H p = none → Q (.ref p) (upd H p (.lst (kvs.map fun kv => kv.2)))
def tListVals (te : TE) : TE := fun σ H Q => te σ H fun x H1 => rValsL x H1 Q
section
variable {X : Cx} {e : Expr} {te : TE} {p apos cpos pos : Pos}
/-- list(e.values()) -/
theorem pe_listVals (hc : X.calm = true) (he : PE X e te) (hg : Gl X "list") (hm : X.mg "list" = none) (hv : bootBuiltins "list" = some (.type "list")) (hbase : attributeBase e "values" X.env (eval e X.env) = eval e X.env := by rfl) (hline : (apos.endLine == cpos.line) = true := by rfl)
    (hs : starEach [.Call (.Attribute e "values" apos) [] [] cpos] X.env = (false, eval (.Call (.Attribute e "values" apos) [] [] cpos) X.env) :: starEach [] X.env := by rfl) :
    PE X (.Call (.Name "list" p) [.Call (.Attribute e "values" apos) [] [] cpos] [] pos) (tListVals te) := by
  refine ⟨fun pins s σ H Q I hq => ?_⟩
  refine wpAny_Call_Name_kw (ld_blt I hg hm hv ?_)
  refine PyProof.Rows.callWith_type1 ?_ hs rfl
  rw [hs]
  show wpAny _ _ (spliced ((false, eval (.Call (.Attribute e "values" apos) [] [] cpos) X.env) :: backTo pos (starEach [] X.env))) _ _ s
  refine Calls.spliced_cons ?_
  refine wpAny_Call_method (T := "dict") (id := "dict.values") hbase rfl hline F.plainAttrs_dict F.slot_dict_values F.type_dict_values (thn (he.run pins s σ H _ I hq) fun u s1 ⟨x, H1, I1, rx, d, kvs, ex, hd, q⟩ => ?_)
  subst ex
  obtain rfl : u = Value.ref d := rx
  obtain ⟨hz, hs0, vs, kv, hdo⟩ := I1.hok d _ hd
  obtain ⟨ep, hat⟩ := hdo.dictAt
  have lk : kvs.length = vs.length := Paired.length kv
  have I2 : Inv X pins σ H1 { s1 with heap := s1.heap.push { cls := .type "dict_values", data := .fields #[.ref d] } } := I1.kept (t' := s1.toks) fun b ob q => Heap.get?_push_of_some _ q
  refine ⟨hdo.typeIs, hdo.mapOf.noDict, ?_⟩
  show wpAny _ _ (callWith cpos (.builtin "dict.values") [.ref d] [] []) _ X.xe s1
  refine method_meetsIn F.slot_dict_values F.entry_dict_values rfl (PySem.evalArgs_none ⟨rfl, hdo.typeIs, F.args_dict_values_1 _, _, meets_dict_values (mixKind X.prog X.w) d hs0, ⟨vs, hdo⟩, ?_⟩)
  refine Calls.spliced_nil ?_
  refine PySem.W.kdl_call (PySem.W.kdl_values (knd := mixKind X.prog X.w) (d := d) (kvs := vs) (ep := ep)) (I1.ok.hd hc) ⟨⟨_, Heap.get?_push_size _ rfl, rfl, rfl⟩, hat.push _⟩ (by rw [← lk]; exact hz) fun h' tk acc' c' hk hS hacc => ?_
  have e0 : ∀ o : Obj, (s1.heap.push o).objs.size = s1.heap.objs.size + 1 := fun o => Heap.size_push _ _
  refine ⟨.ref (s1.heap.push { cls := .type "dict_values", data := .fields #[.ref d] }).objs.size, upd H1 (s1.heap.push { cls := .type "dict_values", data := .fields #[.ref d] }).objs.size (.lst (kvs.map fun kv => kv.2)), I2.laid hk (Nat.le_refl _) (show ObjOk X.prog X.w _ _ _ (.lst (kvs.map fun kv => kv.2)) from ⟨?_, acc'.toList, c', ?_, ?_⟩), rfl, q _ (I2.hok.fresh (Nat.le_refl _))⟩
  · rw [List.length_map]; exact hz
  · have el : acc'.toList.length = acc'.size := by simp
    refine vals_of_at (by rw [List.length_map, el, hacc.1, lk]) fun j x w h1 h2 => ?_
    obtain ⟨k, hky⟩ := hacc.2 j w (by rw [← Array.getElem?_toList]; exact h2)
    obtain ⟨x', g1, g2⟩ := KV.at' kv hky
    have e2 : (kvs.map fun kv => kv.2)[j]? = some x' := by rw [List.getElem?_map, g1] <;> rfl
    rw [e2] at h1
    cases h1
    exact g2
  · rw [Array.toArray_toList]; exact hS
end
end LiV

namespace Pn
open PySem PySem.Spec PyProof.Rows L2 LiV
/-! ### dicts by whole numbers -/
section
variable {σ : L2.St} {H : Hp} {Q : VK} {D : Ends} {K : PySem.W.Frag} {td ty tv tx te : TE}
theorem w_dget : tDGet td ty σ H Q = td σ H fun x H1 => ty σ H1 fun y H2 => ∃ a v, x = .ref a ∧ DGet H2 a y (some v) ∧ Q v H2 := rfl
theorem w_dget2 : tDGet2 td ty tx σ H Q = td σ H fun x H1 => ∃ a, x = .ref a ∧ IsD H1 a ∧ ty σ H1 fun y H2 => tx σ H2 fun z H3 => ∃ o, DGet H3 a y o ∧ Q (o.getD z) H3 := rfl
theorem w_dput : sDPut td ty tv D σ H = tv σ H fun v H1 => td σ H1 fun x H2 => ty σ H2 fun y H3 => ∃ a H4, x = .ref a ∧ DPut H3 a y v H4 ∧ D.nx σ H4 := rfl
theorem w_dnew : tDNewK σ H Q = ∀ p, H p = none → Q (.ref p) (upd H p (.dK [])) := rfl
theorem w_lv : tListVals te σ H Q = te σ H fun x H1 => ∃ (d : Addr) (kvs : List (Key × V)), x = .ref d ∧ H1 d = some (.dK kvs) ∧ ∀ p : Addr, H1 p = none → Q (.ref p) (upd H1 p (.lst (kvs.map fun kv => kv.2))) := rfl
end
/-- the dict with the keys ks, each with what g tells -/
def dN (ks : List Nat) (g : Nat → V) : List (Key × V) := ks.map fun k : Nat => ((Sum.inl (k : Int) : Key), g k)
theorem dN_val (g : Nat → V) (m : Nat) : ∀ ks : List Nat, valV (dN ks g) (Sum.inl (m : Int)) = if m ∈ ks then some (g m) else none
  | [] => rfl
  | k :: ks => by
    show valV (((Sum.inl (k : Int) : Key), g k) :: dN ks g) (Sum.inl (m : Int)) = _
    by_cases e : k = m
    · subst e
      rw [valV_pos rfl, if_pos (by simp)]
    · rw [valV_neg (fun z => e (by injection z with z; omega)), dN_val g m ks]
      have : (m ∈ k :: ks) = (m ∈ ks) := by
        simp
        intro z
        exact absurd z.symm e
      simp only [this]
theorem dN_get {H : Hp} {a : Addr} {ks : List Nat} {g : Nat → V} {m : Nat} (h : H a = some (.dK (dN ks g))) : DGet H a (.int (m : Int)) (if m ∈ ks then some (g m) else none) := by
  have := DGet.k (k := (Sum.inl (m : Int) : Key)) h
  rw [dN_val] at this
  exact this
theorem dN_at {H : Hp} {a : Addr} {ks : List Nat} {g : Nat → V} {m : Nat} (h : H a = some (.dK (dN ks g))) (hm : m ∈ ks) : DGet H a (.int (m : Int)) (some (g m)) := by
  have := dN_get (m := m) h
  rwa [if_pos hm] at this
theorem dN_put {H : Hp} {a : Addr} {ks : List Nat} {g : Nat → V} {m : Nat} (h : H a = some (.dK (dN ks g))) (hm : m ∉ ks) (hl : ks.length < sizeLine) : DPut H a (.int (m : Int)) (g m) (upd H a (.dK (dN (ks ++ [m]) g))) := by
  have e : dN (ks ++ [m]) g = putK (dN ks g) (Sum.inl (m : Int)) (g m) := by
    rw [putK_new (g m) (by rw [dN_val, if_neg hm])]
    simp [dN]
  rw [e]
  exact DPut.k (k := (Sum.inl (m : Int) : Key)) h (by simpa [dN] using hl)
theorem dN_vals (ks : List Nat) (g : Nat → V) : (dN ks g).map (fun kv => kv.2) = ks.map g := by simp [dN]
theorem dN_len (ks : List Nat) (g : Nat → V) : (dN ks g).length = ks.length := by simp [dN]
theorem w_isB {x y : V} {H : Hp} {Q : VK} : rIsB x y H Q = ∃ a b : Bool, x = .bl a ∧ y = .bl b ∧ Q (.bl (decide (a = b))) H := rfl
theorem w_notB {x y : V} {H : Hp} {Q : VK} : rNotB x y H Q = ∃ a b : Bool, x = .bl a ∧ y = .bl b ∧ Q (.bl (!decide (a = b))) H := rfl
/-! ### methods within a comprehension -/
theorem k_bm {X : Cx} {K : PySem.W.Frag} {e : Expr} {T : String} {r : V → List V → Hp → VK → Prop} {to : TE} {t : TA} (h : PE X e (tBM X.K T r to t)) (hk : X.K = K := by rfl) : PE X e (tBM K T r to t) := by
  subst hk
  exact h
theorem k_count {X : Cx} (K : PySem.W.Frag) (hk : X.K = K := by rfl) : MtR X "list.count" (rCntI K) := by
  subst hk
  exact mt_lcount
/-! ### xs[i] op= e of a list -/
theorem pget_list {X : Cx} (K : PySem.W.Frag) (h : X.K = K := by rfl) : PGet X (rIxL K) := by
  subst h
  intro pins s σ H o at' ov iv Q I ro ri hg
  obtain ⟨l, ys, k, z, rfl, rfl, hS, hA, hq⟩ := hg
  cases ro
  obtain ⟨tk, rfl⟩ := ri
  obtain ⟨raw, rel, isl, size⟩ := I.list hS
  obtain ⟨n, g1, g2, g3, g4, g5⟩ := atI_get hA
  obtain ⟨got, ge, gr⟩ := rel.get g2
  have len := rel.length
  have top := line63
  have done : EP X pins σ Q got s := ⟨z, H, I, gr, hq⟩
  by_cases neg : k < 0
  · have en : (k + (raw.toArray.size : Int)).toNat = n := by
      have g := g1
      rw [seqIndex_neg neg g4] at g
      rw [List.size_toArray, ← len]
      exact Option.some.inj g
    refine wpAny_getItem_list_neg isl.isList neg ?_ (by omega) ?_ done
    · rw [List.size_toArray]
      omega
    · rw [en]
      simpa using ge
  · have en : k.toNat = n := by
      have g := g1
      rw [seqIndex_of (by omega) g5] at g
      exact Option.some.inj g
    refine wpAny_getItem_list isl.isList (by omega) (by omega) ?_ done
    rw [en]
    simpa using ge
theorem w_augS {to ti te : TE} {tget : V → V → Hp → VK → Prop} {tip : TIp} {tset : TSet} {D : Ends} {σ : L2.St} {H : Hp} : tAugS to ti te tget tip tset D σ H = to σ H fun o H1 => ti σ H1 fun i H2 => tget o i H2 fun x H3 => te σ H3 fun y H4 => tip x y H4 fun z H5 => tset o i z H5 fun H6 => D.nx σ H6 := rfl
/-! ### comprehensions over ranges by steps -/
section
variable {σ : L2.St} {H : Hp} {Q : VK} {K : PySem.W.Frag} {te tl : TE} {tt : TT} {tr : TA} {g : TG} {vs : List Nat}
theorem lc_c {lo c : Int} {n : Nat} (f : Nat → Option V) (hl : n < sizeLine)
    (hs : ∀ (i : Nat) (H' : Hp), i < n → Same H H' → ∀ (N0 : Hp → Prop) (N1 : VK), (f i = none → ∀ H2, Same H' H2 → N0 H2) → (∀ y, f i = some y → ∀ H2, Same H' H2 → N1 y H2) →
      g (.int (lo + (i : Nat) * c)) (wipe σ vs) H' fun σ2 H2 => wipe σ2 vs = wipe σ vs ∧ tt σ2 H2 fun b H3 => if b = true then te σ2 H3 N1 else N0 H3)
    (q : ∀ D H', H D = none → Same H H' → H' D = some (.lst ((List.range n).filterMap f)) → Q (.ref D) H') : LJ (Itc lo c n) g tt te vs σ H Q := by
  intro D hD
  refine ⟨fun j left Hw => left + j = n ∧ Same H Hw ∧ Hw D = some (.lst ((List.range j).filterMap f)), ⟨n, Nat.add_zero n, same_new hD, by rw [upd_same]; simp⟩, fun j left Hw => ?_⟩
  rintro ⟨ej, p1, p2⟩
  rcases Nat.eq_zero_or_pos left with h0 | h0
  · left
    obtain rfl : j = n := by omega
    exact ⟨Nat.le_refl j, q D Hw hD p1 p2⟩
  · right
    have hj : j < n := by omega
    refine ⟨hj, fun Hz => Same H Hz ∧ Hz D = some (.lst ((List.range (j + 1)).filterMap f)), fun Hz hz => ⟨left - 1, by omega, by omega, hz.1, hz.2⟩, fun x Hy hy => ?_⟩
    obtain ⟨e1, e2⟩ := hy
    subst e1 e2
    have hlen : ((List.range j).filterMap f).length < sizeLine := Nat.lt_of_le_of_lt (List.length_filterMap_le _ _) (by rw [List.length_range]; omega)
    have hf1 : (List.range (j + 1)).filterMap f = (List.range j).filterMap f ++ (f j).toList := by
      rw [List.range_succ, List.filterMap_append]
      cases e : f j <;> simp [e]
    refine hs j Hy hj p1 _ _ (fun hf H2 k2 => ⟨p1.trans k2, ?_⟩) fun y hf H2 k2 => ⟨_, k2 _ _ p2, hlen, fun b o h => ?_, ?_⟩
    · rw [k2 _ _ p2, hf1, hf]
      simp
    · rw [upd_ne (ne_of_none h hD)]
      exact k2 _ _ (p1 _ _ h)
    · rw [upd_same, hf1, hf]
      rfl
end
/-! ### a comprehension over a dict's keys -/
section
variable {σ : L2.St} {H : Hp} {Q : VK} {K : PySem.W.Frag} {te tl td : TE} {tt : TT} {tr : TA} {g : TG} {vs : List Nat}
theorem w_lockE {t : TE} : tLockE t σ H Q = ∃ d u, H d = some u ∧ Mut (some u) ∧ ∀ od, t σ (upd H d (.frz od u)) fun v H' => H' d = some (.frz od u) ∧ Q v (upd H' d u) := rfl
theorem w_lcK : tLc (iKeys td) g tt te vs σ H Q = td σ H fun x H1 => ∃ d o, x = .ref d ∧ ((∃ kvs, H1 d = some (.frz o (.dK kvs)) ∧ LJ (Itk d o kvs) g tt te vs σ H1 Q) ∨ ∃ kvs, H1 d = some (.frz o (.dT kvs)) ∧ LJ (Itkt d o kvs) g tt te vs σ H1 Q) := rfl
theorem same_unlock {H0 H' : Hp} {d : Addr} {x u : HO} (s : Same (upd H0 d x) H') (h : H0 d = some u) : Same H0 (upd H' d u) := fun b o hb => by
  by_cases e : b = d
  · subst e
    rw [upd_same, ← h, hb]
  · rw [upd_ne e]
    exact s _ _ ((upd_ne e).trans hb)
theorem lc_k {d : Addr} {o : Obj} {kvs : List (Key × V)} (f : Key → Option V) (hx : H d = some (.frz o (.dK kvs))) (hl : kvs.length < sizeLine)
    (hs : ∀ (i : Nat) (k : Key) (v : V) (H' : Hp), kvs[i]? = some (k, v) → Same H H' → ∀ (N0 : Hp → Prop) (N1 : VK), (f k = none → ∀ H2, Same H' H2 → N0 H2) → (∀ y, f k = some y → ∀ H2, Same H' H2 → N1 y H2) →
      g (kV k) (wipe σ vs) H' fun σ2 H2 => wipe σ2 vs = wipe σ vs ∧ tt σ2 H2 fun b H3 => if b = true then te σ2 H3 N1 else N0 H3)
    (q : ∀ D H', H D = none → Same H H' → H' D = some (.lst ((kvs.map (·.1)).filterMap f)) → Q (.ref D) H') : LJ (Itk d o kvs) g tt te vs σ H Q := by
  intro D hD
  have hDd : d ≠ D := ne_of_none hx hD
  refine ⟨fun j left Hw => left + j = kvs.length ∧ Same H Hw ∧ Hw D = some (.lst (((kvs.map (·.1)).take j).filterMap f)), ⟨kvs.length, Nat.add_zero _, same_new hD, by rw [upd_same]; simp⟩, fun j left Hw => ?_⟩
  rintro ⟨ej, p1, p2⟩
  rcases Nat.eq_zero_or_pos left with h0 | h0
  · left
    have e : j = kvs.length := by omega
    refine ⟨⟨p1 _ _ hx, by omega⟩, q D Hw hD p1 ?_⟩
    rw [p2, List.take_of_length_le (by simp; omega)]
  · right
    have hj : j < kvs.length := by omega
    refine ⟨⟨p1 _ _ hx, hj⟩, fun Hz => Same H Hz ∧ Hz D = some (.lst (((kvs.map (·.1)).take (j + 1)).filterMap f)), fun Hz hz => ⟨left - 1, by omega, by omega, hz.1, hz.2⟩, fun x Hy hy => ?_⟩
    obtain ⟨e1, k, v, hk, e2⟩ := hy
    subst e1 e2
    have hk1 : (kvs.map (·.1))[j]? = some k := by rw [List.getElem?_map, hk]; rfl
    have hlen : (((kvs.map (·.1)).take j).filterMap f).length < sizeLine := Nat.lt_of_le_of_lt (Nat.le_trans (List.length_filterMap_le _ _) (by rw [List.length_take, List.length_map]; exact Nat.min_le_right _ _)) hl
    refine hs j k v Hy hk p1 _ _ (fun hf H2 k2 => ⟨p1.trans k2, ?_⟩) fun y hf H2 k2 => ⟨_, k2 _ _ p2, hlen, fun b o h => ?_, ?_⟩
    · rw [k2 _ _ p2, filt_take f hk1, hf]
      simp
    · rw [upd_ne (ne_of_none h hD)]
      exact k2 _ _ (p1 _ _ h)
    · rw [upd_same, filt_take f hk1, hf]
      rfl
/-- within the lock the dict still tells -/
theorem dN_atF {H : Hp} {a : Addr} {o : Obj} {ks : List Nat} {g : Nat → V} {m : Nat} (h : H a = some (.frz o (.dK (dN ks g)))) (hm : m ∈ ks) : DGet H a (.int (m : Int)) (some (g m)) := by
  refine .inl ⟨dN ks g, Sum.inl (m : Int), .inr ⟨o, h⟩, rfl, ?_⟩
  rw [dN_val, if_pos hm]
end
/-- the dict with one more, or one told anew -/
theorem dN_upd {H : Hp} {a : Addr} {ks : List Nat} {g : Nat → V} {v : V} {m : Nat} (h : H a = some (.dK (dN ks g))) (hl : ks.length < sizeLine) : DPut H a (.int (m : Int)) v (upd H a (.dK (dN (if m ∈ ks then ks else ks ++ [m]) fun k => if k = m then v else g k))) := by
  by_cases e : m ∈ ks
  · have e1 : dN ks (fun k => if k = m then v else g k) = putK (dN ks g) (Sum.inl (m : Int)) v := by
      unfold putK
      rw [valV_any, dN_val, if_pos e]
      simp only [Option.isSome_some, if_true]
      unfold dN
      rw [List.map_map]
      refine List.map_congr_left fun k hk => ?_
      show ((Sum.inl (k : Int) : Key), if k = m then v else g k) = if (Sum.inl (k : Int) : Key) = Sum.inl (m : Int) then ((Sum.inl (k : Int) : Key), v) else ((Sum.inl (k : Int) : Key), g k)
      by_cases c : k = m
      · subst c
        rw [if_pos rfl, if_pos rfl]
      · rw [if_neg c, if_neg fun z => c (by injection z with z; omega)]
    rw [if_pos e, e1]
    exact DPut.k (k := (Sum.inl (m : Int) : Key)) h (by simpa [dN] using hl)
  · rw [if_neg e]
    have e1 : dN (ks ++ [m]) (fun k => if k = m then v else g k) = putK (dN ks g) (Sum.inl (m : Int)) v := by
      rw [putK_new v (by rw [dN_val, if_neg e])]
      unfold dN
      rw [List.map_append]
      congr 1
      · refine List.map_congr_left fun k hk => ?_
        show ((Sum.inl (k : Int) : Key), if k = m then v else g k) = ((Sum.inl (k : Int) : Key), g k)
        rw [if_neg fun z : k = m => e (by rw [← z]; exact hk)]
      · simp
    rw [e1]
    exact DPut.k (k := (Sum.inl (m : Int) : Key)) h (by simpa [dN] using hl)
end Pn
/-! PnS: sorted(set(xs)), xs a list of whole numbers of any length. -/
namespace SetL
open PySem PySem.Spec PyProof.Rows L2
/-- a set as it is made -/
abbrev bare (w : World) : Obj := ⟨.type "set", none, .set #[] 0 (.fresh 0 0 (!w.params.followText "set-order")), #[]⟩
/-- the heap with one more object -/
abbrev plus (h : Heap) (o : Obj) : Heap := h.push o
section
variable {P : Program} {w : World} {A : Around} {E : Value → Shared → Prop} {s : Shared}
/-- what stands behind set(xs) -/
abbrev Made (w : World) (s : Shared) (ns : List Int) (h' : Heap) (c : Nat) : Prop :=
  SetR w h' s.heap.objs.size (fun j => decide (j ∈ ns)) c ∧ c ≤ ns.length ∧ ∀ b o, s.heap.get? b = some o → h'.get? b = some o
set_option maxHeartbeats 3200000 in
theorem made_list {l : Addr} {raw : Array Value} (ns : List Int) {Q : Value → Shared → Prop} (calm : A.handled = none) (isl : s.heap.IsList l raw) (are : IntsAre raw.toList ns) (few : ns.length + 1 < scanBound)
    (q : ∀ (h' : Heap) (tk c : Nat), Made w s ns h' c → Q (.ref s.heap.objs.size) { s with heap := h', toks := tk }) : wpAny (model P w) A (call (.type "set") [.ref l]) Q E s := by
  have size : raw.size = ns.length := by
    have := IntsAre.length are
    rwa [Array.length_toList] at this
  obtain ⟨cc, mt, mro⟩ := F.called_set.mro
  have g1 := F.called_set.made
  have g2 := F.called_set.sub
  have g3 := F.called_set.notType
  have g4 := F.called_set.canCreate
  have g5 := F.typeCall_set_1 (.ref l)
  refine wpAny_call (codeAny_of_tree ?_)
  show wpAny _ _ (callAny (.type "set") _) _ _ _
  refine wpAny_pure ⟨Code.quiet_builtin _ (by decide +kernel), codeAny_builtin F.entry_type_call ?_⟩
  rw [Around.under_plain (weight_type_call_type "set" [.ref l] []) rfl]
  repeat (any_goals (first | assumption | wp_step))
  refine codeAny_mono (code_set_led1 (.ref l) (E := E) (Q₁ := fun z t => z = .ref s.heap.objs.size ∧ t = { s with heap := plus s.heap (bare w) }) ⟨rfl, rfl⟩) fun r t hr => ?_
  cases r with
  | error _ => exact hr
  | ok fl =>
    cases fl with
    | ret z =>
      obtain ⟨rfl, rfl⟩ := hr
      have at0 : (plus s.heap (bare w)).get? s.heap.objs.size = some (bare w) := Heap.get?_push_size _ rfl
      have ty : Shared.TypeIs { s with heap := plus s.heap (bare w) } (.ref s.heap.objs.size) "set" := ⟨_, at0, rfl⟩
      have g6 := F.called_set.init.lookup
      have g7 := F.called_set.init.bind (.ref s.heap.objs.size)
      repeat (any_goals (first | assumption | wp_step))
      refine codeAny_mono (codeAny_call_builtin (R := wants (fun r t => r = .none ∧ ∃ h' tk c, t = { s with heap := h', toks := tk } ∧ Made w s ns h' c) E) F.called_set.init.plain F.entry_set_init (check_set_init_1 ty ?_)) fun r2 t2 hr2 => ?_
      · obtain ⟨⟨oc, od, odt, osl⟩, here, ec, ne, ed⟩ := isl
        simp only at ec ed
        subst ec ed
        have isl1 : (plus s.heap (bare w)).IsList l raw := ⟨_, Heap.get?_push_of_some _ here, rfl, ne, rfl⟩
        have here1 : (plus s.heap (bare w)).get? l = some ⟨.type "list", od, .seq raw ne, osl⟩ := Heap.get?_push_of_some _ here
        have g8 := F.sub_list_set
        have g9 := F.sub_list_frozenset
        have g10 : (Value.type "list" == Value.type "dict") = false := by decide
        have low : l < s.heap.objs.size := Heap.lt_size here
        have sz : (plus s.heap (bare w)).objs.size = s.heap.objs.size + 1 := Heap.size_push ..
        have off : l ≠ (plus s.heap (bare w)).objs.size := by
          rw [sz]
          exact Nat.ne_of_lt (Nat.lt_succ_of_lt low)
        have out : s.heap.objs.size ∉ [(plus s.heap (bare w)).objs.size, l] := by
          rw [sz]
          intro z
          rcases List.mem_cons.mp z with z | z
          · exact absurd z (Nat.ne_of_lt (Nat.lt_succ_self _))
          · exact absurd (List.mem_singleton.mp z) (Nat.ne_of_gt low)
        have vals : ∀ (i : Nat) (v : Value), raw[i]? = some v → ∃ k t, ns[i]? = some k ∧ v = .int k t := fun i v hv => by
          have lt : i < ns.length := by
            have := (Array.getElem?_eq_some_iff.mp hv).1
            omega
          obtain ⟨t, e⟩ := PyProof.Rows.IntsAre.int_at are i v (by rw [Array.getElem?_toList]; exact hv)
          refine ⟨ns[i], t, List.getElem?_eq_getElem lt, ?_⟩
          rw [e, List.getD_eq_getElem?_getD, List.getElem?_eq_getElem lt] <;> rfl
        unfold Builtin.«set.__init__» noKeywords Builtin.Frozenset.updateFrom
        generalize hPI : pyIter = PI
        wp_walk
        subst hPI
        refine wpAny_pyIter_list isl1 (wpAny_bind (wpAny_runValue ?_))
        have calm3 : A.in1.in1.in1.handled = none := by simp [calm]
        refine set_update_ints ((Walks.list calm3 _ l off raw).toS) s.heap.objs.size out ns size few vals (raw.size - 0) 0 _ (by omega) (Nat.zero_le _) ⟨⟨_, Heap.get?_push_size _ rfl, rfl, rfl⟩, isl1.push _⟩ ?first ?last
        case first => exact ⟨0, Nat.le_refl 0, setR_new_at (Heap.get?_push_of_some _ at0)⟩
        case last =>
          rintro ⟨h', g', d', tk', os'⟩ c mv hc hS
          have e1 : g' = s.gens := mv.gens
          have e2 : d' = s.drawn := mv.drawn
          have e3 : os' = s.os := mv.os
          subst e1 e2 e3
          show wpAny _ _ _ _ _ _
          refine wpAny_pure ?_
          show wpAny _ _ (ret Value.none) _ _ _
          refine wpAny_pure ⟨rfl, h', tk', c, rfl, hS, by omega, fun b o e => ?_⟩
          have lb : b < s.heap.objs.size := Heap.lt_size e
          refine mv.heap b o ?_ (Heap.get?_push_of_some _ (Heap.get?_push_of_some _ e))
          rw [sz]
          intro z
          rcases List.mem_cons.mp z with z | z
          · exact absurd z (Nat.ne_of_lt lb)
          · exact absurd (List.mem_singleton.mp z) (Nat.ne_of_lt (Nat.lt_succ_of_lt lb))
      · cases r2 with
        | error _ => exact hr2
        | ok f2 =>
          cases f2 with
          | ret _ =>
            obtain ⟨rfl, h', tk, c, rfl, made⟩ := hr2
            repeat (any_goals (first | assumption | wp_step))
            exact q _ _ _ made
          | _ => exact hr2.elim
    | _ => exact hr.elim
end
end SetL
namespace SetL
open PySem PySem.Spec PyProof.Rows L2
section
variable {P : Program} {w : World} {A : Around} {E : Value → Shared → Prop} {s : Shared}
/-- sorted of a set of whole numbers, however many -/
theorem sorted_made {S : Int → Bool} {n : Nat} {a : Addr} {Q : Value → Shared → Prop} (R : SetR w s.heap a S n) (calm : A.handled = none)
    (q : ∀ t p (out : Array Value) (c : Nat) (ns : List Int), (∀ b o, s.heap.get? b = some o → t.heap.get? b = some o) → t.gens = s.gens → t.os = s.os → s.heap.objs.size ≤ p →
      t.heap.get? p = some (seqObj "list" out c) → IntsAre out.toList ns → ns.Pairwise (· < ·) → (∀ k, k ∈ ns ↔ S k = true) → ns.length = n → Q (.ref p) t) : wpAny (model P w) A (call (.builtin "sorted") [.ref a]) Q E s := by
  obtain ⟨o, es, ep, tb, here, exact1, dat, good, once, mem, room, fits, cnt, rising, known⟩ := R
  refine Calls.call_function_entry kind_sorted plain_sorted entry_sorted (args_sorted1 _) ?_
  unfold Builtin.«sorted»
  refine wpAny_bind (m := checkCount "sorted" 1 1 _) (wpAny_pure ?_)
  refine wpAny_bind (collect_set (A := A.in1) calm ⟨o, here, exact1.1, dat⟩ fits room rising known fun t vs keep grew gens os perm => ?_)
  have hvl : vs.length = n := by rw [perm.length_eq, List.length_map, Array.length_toList, cnt]
  have hz : vs.length ≤ sizeLine := by
    rw [hvl, ← cnt]
    exact fits_of_scanBound room
  have iare : IntsAre vs (vs.map Builtin.Re.reRawOf) := ints_of vs fun v hv => by
    obtain ⟨e, he, z⟩ := List.mem_map.mp (perm.mem_iff.mp hv)
    obtain ⟨k, tk, h1, _⟩ := good e he
    exact ⟨k, tk, by rw [← z]; exact h1⟩
  have pk : (vs.map Builtin.Re.reRawOf).Perm (es.toList.map keyOf) := by
    have z := perm.map Builtin.Re.reRawOf
    rwa [List.map_map] at z
  refine wpAny_bind (wpAny_newList ?_ hz)
  have newL : (t.heap.push (seqObj "list" vs.toArray 0)).get? t.heap.objs.size = some (seqObj "list" vs.toArray 0) := Heap.get?_push_size _ rfl
  refine wpAny_bind (wpAny_holding (wpAny_call_entry slot_list_sort ⟨_, newL, rfl⟩ entry_list_sort (SrtO.list_sort_ord SrtO.swo_int newL hz (fun h2 => SrtO.ints_sortable iare h2) fun out o1 o2 => ⟨_, rfl, ?_⟩) (args_list_sort _)))
  obtain ⟨c, hc⟩ := sortedHeap_at (vs := vs) (out := out.toArray) newL
  obtain ⟨k1, k2, k3⟩ := SrtO.ints_out iare o1 o2
  have pn := k2.trans pk
  refine wpAny_pure ⟨_, rfl, q _ t.heap.objs.size out.toArray c (out.map SrtO.iv) (fun b u e => ?_) gens os grew hc (by simpa using k1) (lt_of_le_nodup _ k3 (pn.nodup_iff.mpr once)) (fun k => by rw [pn.mem_iff, ← mem k]) ?_⟩
  · have z := keep b u e
    have lt := Heap.lt_size z
    show (sortedHeap (t.heap.push (seqObj "list" vs.toArray 0)) t.heap.objs.size vs out.toArray).get? b = some u
    rw [sortedHeap_old (Nat.ne_of_lt lt) (by rw [size_push']; exact Nat.lt_succ_of_lt lt)]
    exact Heap.get?_push_of_some _ z
  · rw [pn.length_eq, List.length_map, Array.length_toList, cnt]
end
/-- sorted(set(a)), a a list of whole numbers -/
def tSortSet (K : PySem.W.Frag) (ta : TE) : TE := fun σ H Q => ta σ H fun x H1 => ∃ (l : Addr) (ns : List Int), x = .ref l ∧ SqL K H1 l (ns.map V.int) ∧ ns.length ≤ 4000 ∧
  ∀ (ms : List Int) (p : Addr), ms.Pairwise (· < ·) → (∀ k, k ∈ ms ↔ k ∈ ns) → H1 p = none → Q (.ref p) (upd H1 p (.lst (ms.map V.int)))
theorem pe_sortSet {X : Cx} {K : PySem.W.Frag} {a : Expr} {ta : TE} {p p2 q pos : Pos} (hc : X.calm = true) (g1 : Gl X "sorted") (m1 : X.mg "sorted" = none) (b1 : bootBuiltins "sorted" = some (.builtin "sorted")) (g2 : Gl X "set") (m2 : X.mg "set" = none) (b2 : bootBuiltins "set" = some (.type "set")) (ha : PE X a ta)
    (na : starEach [a] X.env = (false, eval a X.env) :: starEach [] X.env := by rfl) (hK : X.K = K := by rfl) : PE X (.Call (.Name "sorted" p) [.Call (.Name "set" p2) [a] [] q] [] pos) (tSortSet K ta) := by
  subst hK
  refine ⟨fun pins s σ H Q I h => ?_⟩
  refine Call_ (ld_blt I g1 m1 b1 (PyProof.Rows.callWith_builtin1 (PyProof.Rows.args_cons ?_ rfl) rfl rfl))
  refine Call_ (ld_blt I g2 m2 b2 (PyProof.Rows.callWith_type1 (PyProof.Rows.args_cons (thn (ha.run pins s σ H _ I h) fun v s1 ⟨x, H1, I1, r1, z⟩ => PyProof.Rows.args_nil ?_) na) na rfl))
  obtain ⟨l, ns, rfl, hq, few, z⟩ := z
  cases r1
  obtain ⟨raw, rel, isl, size⟩ := I1.list hq
  refine made_list ns (I1.ok.hd hc) isl.isList (by simpa using rel.ints) (by unfold scanBound; omega) fun h' tk c made => PyProof.Rows.args_nil ?_
  obtain ⟨R, cl, keep⟩ := made
  have I2 : Inv X pins σ H1 { s1 with heap := h', toks := tk } := I1.kept keep
  replace R : SetR X.w ({ s1 with heap := h', toks := tk } : Shared).heap s1.heap.objs.size (fun j => decide (j ∈ ns)) c := R
  generalize ({ s1 with heap := h', toks := tk } : Shared) = s2 at I2 R ⊢
  refine sorted_made R (I2.ok.hd hc) fun t p out c2 ms keep2 gens os grew at2 iare lt mem cnt => ?_
  have hlen : (ms.map V.int).length ≤ sizeLine := by
    rw [List.length_map, cnt, sizeLine_eq]
    omega
  have hn : H1 p = none := I2.hok.fresh grew
  have J : Inv X pins σ (upd H1 p (.lst (ms.map V.int))) { s2 with heap := t.heap, gens := t.gens, drawn := t.drawn, toks := t.toks } :=
    I2.call (ch := []) (Un.laid keep2 grew hn) (I2.hok.laid keep2 grew ⟨hlen, out.toList, c2, vals_of_ints iare, at2⟩) (by rw [gens]; exact I2.bare) (fun _ u => nomatch u)
  have e : t = { s2 with heap := t.heap, gens := t.gens, drawn := t.drawn, toks := t.toks } := by
    cases t
    cases s2
    cases os
    rfl
  rw [e]
  exact ⟨.ref p, _, J, rfl, z ms p lt (fun k => by rw [mem k]; simp) hn⟩
theorem w_sortSet {K : PySem.W.Frag} {ta : TE} {σ : L2.St} {H : Hp} {Q : VK} : tSortSet K ta σ H Q = ta σ H fun x H1 => ∃ (l : Addr) (ns : List Int), x = .ref l ∧ SqL K H1 l (ns.map V.int) ∧ ns.length ≤ 4000 ∧
  ∀ (ms : List Int) (p : Addr), ms.Pairwise (· < ·) → (∀ k, k ∈ ms ↔ k ∈ ns) → H1 p = none → Q (.ref p) (upd H1 p (.lst (ms.map V.int))) := rfl
end SetL
/-! PnE: enumerate(t) and sum(t) of a tuple t. -/
namespace TupE
open PySem PySem.Spec PyProof.Rows L2
abbrev itOf (l : Addr) : Obj := ⟨.type "tuple_iterator", none, .fields #[.ref l, .int 0 0] , #[]⟩
abbrev enumOf (it : Addr) : Obj := ⟨.type "enumerate", none, .fields #[.none, .bool false, .ref it, rawInt 0, .none, .none], #[]⟩
theorem meets_new (l : Addr) (raw : Array Value) (n : Nat) (dct : Option Addr) (sl : Array (Option Value)) :
    Meets (Builtin.«enumerate.__new__» ⟨[.type "enumerate", .ref l], []⟩) (fun _ R s => s.heap.get? l = some ⟨.type "tuple", dct, .seq raw n, sl⟩ ∧
      R (.ok (.ret (.ref (s.heap.push (itOf l)).objs.size))) { s with heap := (s.heap.push (itOf l)).push (enumOf s.heap.objs.size) }) :=
  .of_wp fun prog w A R s h => by
    obtain ⟨hp, gn, dr, tk, os⟩ := s
    obtain ⟨here, go⟩ := h
    have sub := sub_enumerate
    have ist : Heap.IsTuple (Shared.heap ⟨hp, gn, dr, tk, os⟩) l raw := ⟨_, here, rfl, n, rfl⟩
    wp_walk using AutoSeq1.wpAny_loadPart' here
    refine wpAny_stack_any fun st => wpAny_pure ?_
    split
    · rename_i c _ _ _ _ _
      cases (c == Value.type "enumerate")
      · wp_walk using AutoSeq1.wpAny_loadPart' here, wpAny_pyIter_tuple ist
        exact ⟨_, rfl, go⟩
      · wp_walk using AutoSeq1.wpAny_loadPart' here, wpAny_pyIter_tuple ist
        exact ⟨_, rfl, go⟩
    · wp_walk using AutoSeq1.wpAny_loadPart' here, wpAny_pyIter_tuple ist
      exact ⟨_, rfl, go⟩
section
variable {prog : Program} {w : World} {A : Around} {E : Value → Shared → Prop} {s : Shared}
theorem call_enum {l : Addr} {raw : Array Value} {Q : Value → Shared → Prop} (ist : s.heap.IsTuple l raw)
    (q : ∀ h', IsEnum h' (s.heap.objs.size + 1) s.heap.objs.size 0 .none → h'.IsTupleIter s.heap.objs.size l 0 → (∀ b o, s.heap.get? b = some o → h'.get? b = some o) → Q (.ref (s.heap.objs.size + 1)) { s with heap := h' }) :
    wpAny (model prog w) A (call (.type "enumerate") [.ref l]) Q E s := by
  obtain ⟨⟨oc, od, odt, osl⟩, here, ec, n, ed⟩ := ist
  replace ec : oc = .type "tuple" := ec
  replace ed : odt = .seq raw n := ed
  subst ec ed
  have size : (s.heap.push (itOf l)).objs.size = s.heap.objs.size + 1 := Heap.size_push ..
  refine callType_new F.called_enumerate (by decide) (F.typeCall_enumerate_1 _) (F.newCall_enumerate_1 _) (fun obj => F.args_object_init_2 obj _) F.entry_enumerate_new (meets_new l raw n od osl) ⟨here, ?_⟩
  show _ ∧ _
  rw [size]
  have ise : IsEnum ((s.heap.push (itOf l)).push (enumOf s.heap.objs.size)) (s.heap.objs.size + 1) s.heap.objs.size 0 .none := by
    have := Heap.get?_push_size (s.heap.push (itOf l)) (o := enumOf s.heap.objs.size) rfl
    rw [size] at this
    exact this
  exact ⟨⟨_, ise, rfl⟩, q _ ise ⟨_, Heap.get?_push_of_some _ (Heap.get?_push_size _ rfl), rfl, rfl⟩ fun b o x => Heap.get?_push_of_some _ (Heap.get?_push_of_some _ x)⟩
end
/-- the tuple at a as it stands at each turn, each item with its place in a new pair -/
def Itp (K : PySem.W.Frag) (a : Addr) : It where
  go := fun i H => ∃ (xs : List V) (x : V), SqT K H a xs ∧ xs[i]? = some x
  yld := fun i H v H' => ∃ T x, v = .ref T ∧ H T = none ∧ H' = upd H T (.tup [.int (i : Nat), x]) ∧ ∀ xs, SqT K H a xs → xs[i]? = some x
  stop := fun i H => ∃ xs : List V, SqT K H a xs ∧ xs.length = i
theorem calm1 {A : Around} (h : A.handled = none) : A.in1.handled = none := by simp [h]
theorem turn_te {P : Program} {w : World} {K : PySem.W.Frag} {elts : List Expr} {kk : Nat} {tpos : Pos} (a e it : Addr) :
    Turn P w K (.Tuple elts kk tpos) (Itp K a) [e, it] e (fun i h => (∃ old, IsEnum h e it ((i : Nat) : Int) old) ∧ h.IsTupleIter it a i ∧ e ≠ it ∧ e ≠ a ∧ a ≠ it) where
  mem := by simp
  obj := fun i h st b hb => by
    obtain ⟨⟨old, ise⟩, ⟨o, ho, hc, hd⟩, _⟩ := st
    rcases List.mem_cons.mp hb with z | z
    · subst z
      exact ⟨_, ise, fun v q => nomatch q⟩
    · rw [List.mem_singleton.mp z]
      exact ⟨o, ho, fun v q => by rw [hd] at q; cases q⟩
  keep := fun i h h' st k => ⟨st.1.elim fun old z => ⟨old, k e (by simp) _ z⟩, st.2.1.at fun o q => k it (by simp) o q, st.2.2⟩
  item := by
    intro X eP ew eK hc i pins s σ H E I hf st hg
    subst eP ew eK
    obtain ⟨⟨old, ise⟩, isi, n1, n2, n3⟩ := st
    obtain ⟨xs, x, hq, hx⟩ := hg
    obtain ⟨raw, rel, ist, size⟩ := I.tuple hq
    have len := rel.length
    have lt : i < raw.toArray.size := by
      have := (List.getElem?_eq_some_iff.mp hx).1
      rw [List.size_toArray]
      omega
    have le : e < s.heap.objs.size := Heap.lt_size ise
    have li : it < s.heap.objs.size := isi.elim fun _ z => Heap.lt_size z.1
    refine wpAny_pyNext_enum_itemD (Draws.tuple (A := X.A.in1) (calm1 (I.ok.hd hc)) it a n3 raw.toArray) ise ⟨isi, ist⟩ lt n1 (by simp [n1, n2]) fun u h' tk hu out st' made grew keep => ?_
    have hu2 : raw[i]? = some u := by simpa using hu
    obtain ⟨u', hu', ru⟩ := rel.get hx
    have eu : u' = u := Option.some.inj (hu'.symm.trans hu2)
    subst eu
    refine ⟨_, rfl, wpAny_letOwnedTupleGo_enum (s := { s with heap := h', toks := tk + 1 }) out fun h2 ise2 sb => ?_⟩
    have made2 : h2.get? s.heap.objs.size = some { cls := .type "tuple", data := .seq #[.int i tk, u'] } := (sb.2 _ (Nat.ne_of_gt le)).trans made
    have pair : ObjOk X.prog X.w (upd H s.heap.objs.size (.tup [.int (i : Nat), x])) h2 s.heap.objs.size (.tup [.int (i : Nat), x]) :=
      ⟨by show 2 ≤ sizeLine; decide, [.int i tk, u'], .cons ⟨_, rfl⟩ (.cons ru .nil), ⟨_, made2, rfl, _, rfl⟩⟩
    have J : Inv X pins σ (upd H s.heap.objs.size (.tup [.int (i : Nat), x])) { s with heap := h2, toks := tk + 1 } :=
      I.turnedNew (ch := [e, it]) (fun b ob hb q => (sb.2 b fun z => hb (by simp [z])).trans (keep b ob (fun z => hb (by simp [z])) (fun z => hb (by simp [z])) q)) hf (Nat.le_refl _) pair
    refine ⟨.ref s.heap.objs.size, _, J, rfl, ⟨_, x, rfl, I.hok.fresh (Nat.le_refl _), rfl, fun ys hy => I.tuple_inj hy hq ▸ hx⟩, ⟨⟨u', ?_⟩, st'.1.at fun o q => (sb.2 it (Ne.symm n1)).trans q, n1, n2, n3⟩, fun b hb => ?_⟩
    · rw [show ((i + 1 : Nat) : Int) = (i : Int) + 1 by omega]
      exact ise2
    · have lb : b < s.heap.objs.size := by
        rcases List.mem_cons.mp hb with z | z
        · rw [z]
          exact le
        · rw [List.mem_singleton.mp z]
          exact li
      rw [upd_ne (Nat.ne_of_lt lb)]
      exact (hf b hb).1
  done := by
    intro X eP ew eK hc i pins s σ H E I hf st hg
    subst eP ew eK
    obtain ⟨⟨old, ise⟩, isi, n1, n2, n3⟩ := st
    obtain ⟨xs, hq, hx⟩ := hg
    obtain ⟨raw, rel, ist, size⟩ := I.tuple hq
    obtain ⟨f0, f1, f2, f3, f4, f5⟩ := hf it (by simp)
    have len := rel.length
    have ei : i = raw.toArray.size := by
      rw [List.size_toArray]
      omega
    refine wpAny_pyNext_enum_endD (Draws.tuple (A := X.A.in1) (calm1 (I.ok.hd hc)) it a n3 raw.toArray) ise ⟨by rw [← ei]; exact isi, ist⟩ fun h' eb => ⟨rfl, I.turned (t' := s.toks) (fun b o hb q => eb b o hb q) f0 f1 f3 f4 f5⟩
  self := fun A i s Q E st h => st.1.elim fun _ z => wpAny_pyIter_enum z h
/-- for i, x in enumerate(t) -/
def iTe (K : PySem.W.Frag) (ta : TA) : TI := fun σ H R => ta σ H fun vs H1 => ∃ a xs, vs = [.ref a] ∧ SqT K H1 a xs ∧ R (Itp K a) H1
theorem pi_te {X : Cx} {K : PySem.W.Frag} {e : Expr} {ta : TA} {p pos tpos : Pos} {elts : List Expr} {kk : Nat} (hg : Gl X "enumerate") (hm : X.mg "enumerate" = none) (b1 : bootBuiltins "enumerate" = some (.type "enumerate")) (ha : PA X [e] ta) (hs : starEach [e] X.env = [(false, eval e X.env)] := by rfl) (hK : X.K = K := by rfl) :
    PI X (.Tuple elts kk tpos) (.Call (.Name "enumerate" p) [e] [] pos) (iTe K ta) := by
  subst hK
  refine ⟨fun pins s σ H R I h => ?_⟩
  refine Call_ (ld_blt I hg hm b1 (PyProof.Rows.callWith_type1 (thn (ha.run pos pins s σ H _ I h) fun us s1 ⟨vs, H1, I1, r1, q1⟩ => ?_) hs rfl))
  obtain ⟨a, xs, rfl, hq, q⟩ := q1
  rw [Vals.ref1 r1]
  obtain ⟨raw, rel, ist, size⟩ := I1.tuple hq
  have la : a < s1.heap.objs.size := ist.lt
  refine call_enum ist fun h' ise isi keep => wpAny_pyIter_enum ise ?_
  have I2 : Inv X pins σ H1 { s1 with heap := h' } := I1.kept (t' := s1.toks) keep
  refine ⟨s1.heap.objs.size + 1, [s1.heap.objs.size + 1, s1.heap.objs.size], _, _, H1, rfl, I2, turn_te a (s1.heap.objs.size + 1) s1.heap.objs.size, ⟨⟨.none, ise⟩, isi, Nat.succ_ne_self _, Nat.ne_of_gt (Nat.lt_succ_of_lt la), Nat.ne_of_lt la⟩, fun b hb => ?_, q⟩
  have lb : s1.heap.objs.size ≤ b := by
    rcases List.mem_cons.mp hb with z | z
    · rw [z]
      exact Nat.le_succ _
    · rw [List.mem_singleton.mp z]
      exact Nat.le_refl _
  exact I1.fpOk lb (I1.hok.fresh lb)
/-! ### sum(t) -/
theorem pre_sum (ns : List Int) : ∀ k, preSum (fun i => ns.getD i 0) k = (ns.take k).sum
  | 0 => rfl
  | k + 1 => by
    rw [preSum, pre_sum ns k, List.take_add_one, List.sum_append, List.getD_eq_getElem?_getD]
    cases ns[k]? <;> simp
def rSumT (K : PySem.W.Frag) : List V → Hp → VK → Prop := fun vs H Q => ∃ (a : Addr) (ns : List Int), vs = [V.ref a] ∧ SqT K H a (ns.map V.int) ∧ Q (.int ns.sum) H
theorem cr_sumT {X : Cx} (K : PySem.W.Frag) (hc : X.calm = true := by rfl) (hK : X.K = K := by rfl) : CallR X (.builtin "sum") (rSumT K) := by
  subst hK
  intro pins s σ H vs us Q I r h
  obtain ⟨a, ns, rfl, hq, q⟩ := h
  rw [Vals.ref1 r]
  obtain ⟨raw, rel, ist, size⟩ := I.tuple hq
  have are := rel.ints
  have la : a < s.heap.objs.size := ist.lt
  have len : raw.length = ns.length := by rw [← rel.length, List.length_map]
  refine call_sum_walkG (wpAny_pyIter_tuple ist ?_)
  refine ⟨_, _, _, _, _, _, fun i => ns.getD i 0, rfl, Walks.tuple (A := X.A.in1) (calm1 (I.ok.hd hc)) s.heap.objs.size a (Nat.ne_of_lt la) raw.toArray, ⟨⟨_, Heap.get?_push_size _ rfl, rfl, rfl⟩, ist.push _⟩, fun b hb => ?_, fun i v hv => PyProof.Rows.IntsAre.int_at (by simpa using are) i v (by simpa using hv), fun h' tk t' keep => ?_⟩
  · show b < (s.heap.push _).objs.size
    rw [Heap.size_push]
    rcases List.mem_cons.mp hb with z | z
    · rw [z]
      exact Nat.lt_succ_self _
    · rw [List.mem_singleton.mp z]
      exact Nat.lt_succ_of_lt la
  · rw [pre_sum, List.take_of_length_le (by rw [List.size_toArray]; omega)]
    refine ⟨.int ns.sum, H, I.kept (t' := tk) fun b o e => keep b o (fun z => ?_) (Heap.get?_push_of_some _ e), ⟨_, rfl⟩, q⟩
    rw [List.mem_singleton.mp z] at e
    exact absurd (Heap.lt_size e) (Nat.lt_irrefl _)
/-! ### turns -/
section
variable {σ : L2.St} {H : Hp} {Q : VK} {D : Ends} {K : PySem.W.Frag} {tr : TA} {s1 : TS} {g : TG} {tt : TT} {te : TE} {vs : List Nat}
theorem w_lcTe : tLc (iTe K tr) g tt te vs σ H Q = tr σ H fun xs H1 => ∃ a ys, xs = [.ref a] ∧ SqT K H1 a ys ∧ Pn.LJ (Itp K a) g tt te vs σ H1 Q := rfl
/-- f tells of a place and its item what is put into the list, if anything -/
theorem lc_te {a : Addr} {xs : List V} (f : Nat → V → Option V) (hx : SqT K H a xs) (hl : xs.length < sizeLine)
    (hs : ∀ (i : Nat) (x : V) (T : Addr) (H' : Hp), xs[i]? = some x → Same H H' → H' T = some (.tup [.int (i : Nat), x]) → ∀ (N0 : Hp → Prop) (N1 : VK), (f i x = none → ∀ H2, Same H' H2 → N0 H2) → (∀ y, f i x = some y → ∀ H2, Same H' H2 → N1 y H2) →
      g (.ref T) (wipe σ vs) H' fun σ2 H2 => wipe σ2 vs = wipe σ vs ∧ tt σ2 H2 fun b H3 => if b = true then te σ2 H3 N1 else N0 H3)
    (q : ∀ D H' (ys : List V), H D = none → Same H H' → H' D = some (.lst ys) → ys = (List.range xs.length).filterMap (fun i => xs[i]?.bind (f i)) → Q (.ref D) H') : Pn.LJ (Itp K a) g tt te vs σ H Q := by
  intro D hD
  refine ⟨fun j left Hw => left + j = xs.length ∧ Same H Hw ∧ Hw D = some (.lst ((List.range j).filterMap fun i => xs[i]?.bind (f i))), ⟨xs.length, Nat.add_zero _, Pn.same_new hD, by rw [upd_same]; simp⟩, fun j left Hw => ?_⟩
  rintro ⟨ej, p1, p2⟩
  have sq := Pn.same_seqT p1 hx
  rcases Nat.eq_zero_or_pos left with h0 | h0
  · left
    have e : j = xs.length := by omega
    subst e
    exact ⟨⟨xs, sq, rfl⟩, q D Hw _ hD p1 p2 rfl⟩
  · right
    have hj : j < xs.length := by omega
    refine ⟨⟨xs, xs[j], sq, List.getElem?_eq_getElem hj⟩, fun Hz => Same H Hz ∧ Hz D = some (.lst ((List.range (j + 1)).filterMap fun i => xs[i]?.bind (f i))), fun Hz hz => ⟨left - 1, by omega, by omega, hz.1, hz.2⟩, fun x Hy hy => ?_⟩
    obtain ⟨T, y, rfl, hT, rfl, hxy⟩ := hy
    have hyj := hxy xs sq
    have s1 : Same Hw (upd Hw T (.tup [.int (j : Nat), y])) := Pn.same_new hT
    have hlen : ((List.range j).filterMap fun i => xs[i]?.bind (f i)).length < sizeLine := Nat.lt_of_le_of_lt (List.length_filterMap_le _ _) (by rw [List.length_range]; omega)
    have hf1 : (List.range (j + 1)).filterMap (fun i => xs[i]?.bind (f i)) = (List.range j).filterMap (fun i => xs[i]?.bind (f i)) ++ (f j y).toList := by
      rw [List.range_succ, List.filterMap_append]
      congr 1
      simp only [List.filterMap_cons, List.filterMap_nil, hyj, Option.bind_some]
      cases f j y <;> rfl
    have hD2 := s1 _ _ p2
    refine hs j y T _ hyj (p1.trans s1) upd_same _ _ (fun hf H2 k2 => ⟨(p1.trans s1).trans k2, ?_⟩) fun z hf H2 k2 => ⟨_, k2 _ _ hD2, hlen, fun b o h => ?_, ?_⟩
    · rw [k2 _ _ hD2, hf1, hf]
      simp
    · rw [upd_ne (ne_of_none h hD)]
      exact k2 _ _ (s1 _ _ (p1 _ _ h))
    · rw [upd_same, hf1, hf]
      rfl
theorem w_lcE : tLc (iEnum K tr) g tt te vs σ H Q = tr σ H fun xs H1 => ∃ a ys, xs = [.ref a] ∧ SqL K H1 a ys ∧ Pn.LJ (Ite K a) g tt te vs σ H1 Q := rfl
/-- f tells of a place and its item what is put into the list, if anything -/
theorem lc_e {a : Addr} {xs : List V} (f : Nat → V → Option V) (hx : SqL K H a xs) (hl : xs.length < sizeLine)
    (hs : ∀ (i : Nat) (x : V) (T : Addr) (H' : Hp), xs[i]? = some x → Same H H' → H' T = some (.tup [.int (i : Nat), x]) → ∀ (N0 : Hp → Prop) (N1 : VK), (f i x = none → ∀ H2, Same H' H2 → N0 H2) → (∀ y, f i x = some y → ∀ H2, Same H' H2 → N1 y H2) →
      g (.ref T) (wipe σ vs) H' fun σ2 H2 => wipe σ2 vs = wipe σ vs ∧ tt σ2 H2 fun b H3 => if b = true then te σ2 H3 N1 else N0 H3)
    (q : ∀ D H' (ys : List V), H D = none → Same H H' → H' D = some (.lst ys) → ys = (List.range xs.length).filterMap (fun i => xs[i]?.bind (f i)) → Q (.ref D) H') : Pn.LJ (Ite K a) g tt te vs σ H Q := by
  intro D hD
  refine ⟨fun j left Hw => left + j = xs.length ∧ Same H Hw ∧ Hw D = some (.lst ((List.range j).filterMap fun i => xs[i]?.bind (f i))), ⟨xs.length, Nat.add_zero _, Pn.same_new hD, by rw [upd_same]; simp⟩, fun j left Hw => ?_⟩
  rintro ⟨ej, p1, p2⟩
  have sq := p1.seq hx
  rcases Nat.eq_zero_or_pos left with h0 | h0
  · left
    have e : j = xs.length := by omega
    subst e
    exact ⟨⟨xs, sq, Nat.le_refl _⟩, q D Hw _ hD p1 p2 rfl⟩
  · right
    have hj : j < xs.length := by omega
    refine ⟨⟨xs, xs[j], sq, List.getElem?_eq_getElem hj⟩, fun Hz => Same H Hz ∧ Hz D = some (.lst ((List.range (j + 1)).filterMap fun i => xs[i]?.bind (f i))), fun Hz hz => ⟨left - 1, by omega, by omega, hz.1, hz.2⟩, fun x Hy hy => ?_⟩
    obtain ⟨T, y, rfl, hT, rfl, hxy⟩ := hy
    have hyj := hxy xs sq
    have s1 : Same Hw (upd Hw T (.tup [.int (j : Nat), y])) := Pn.same_new hT
    have hlen : ((List.range j).filterMap fun i => xs[i]?.bind (f i)).length < sizeLine := Nat.lt_of_le_of_lt (List.length_filterMap_le _ _) (by rw [List.length_range]; omega)
    have hf1 : (List.range (j + 1)).filterMap (fun i => xs[i]?.bind (f i)) = (List.range j).filterMap (fun i => xs[i]?.bind (f i)) ++ (f j y).toList := by
      rw [List.range_succ, List.filterMap_append]
      congr 1
      simp only [List.filterMap_cons, List.filterMap_nil, hyj, Option.bind_some]
      cases f j y <;> rfl
    have hD2 := s1 _ _ p2
    refine hs j y T _ hyj (p1.trans s1) upd_same _ _ (fun hf H2 k2 => ⟨(p1.trans s1).trans k2, ?_⟩) fun z hf H2 k2 => ⟨_, k2 _ _ hD2, hlen, fun b o h => ?_, ?_⟩
    · rw [k2 _ _ hD2, hf1, hf]
      simp
    · rw [upd_ne (ne_of_none h hD)]
      exact k2 _ _ (s1 _ _ (p1 _ _ h))
    · rw [upd_same, hf1, hf]
      rfl
end
end TupE
namespace Pn
open PySem PySem.Spec PyProof.Rows L2
/-- a seed at a: four whole numbers -/
def Sd (H : Hp) (a : Addr) : Prop := ∃ (x f c s : Int), H a = some (.lst [.int x, .int f, .int c, .int s])
theorem Sd.same {H H' : Hp} {a : Addr} (h : Sd H a) (e : Same H H') : Sd H' a := by
  obtain ⟨x, f, c, s, h1⟩ := h
  exact ⟨x, f, c, s, e _ _ h1⟩
theorem Sd.lst {H : Hp} {a : Addr} (h : Sd H a) : ∃ ys, H a = some (.lst ys) := by
  obtain ⟨x, f, c, s, h1⟩ := h
  exact ⟨_, h1⟩
theorem Sd.ne {H : Hp} {a p : Addr} (h : Sd H a) (hp : H p = none) : p ≠ a := by
  obtain ⟨_, h1⟩ := h.lst
  exact (ne_of_none h1 hp).symm
theorem Sd.upd {H : Hp} {a p : Addr} {o : HO} (h : Sd H a) (n1 : p ≠ a) : Sd (upd H p o) a := by
  obtain ⟨x, f, c, s, h1⟩ := h
  exact ⟨x, f, c, s, (upd_ne n1.symm).trans h1⟩
end Pn
namespace Pn
open PySem PySem.Spec PyProof.Rows L2
local macro_rules | `(tactic| walk_at "w") => `(tactic| try simp only [w_var, w_c, w_op, w_I0, w_I, w_un, w_U, w_eq, w_ne, w_test, w_B, w_and, w_or, w_not, w_andV, w_orV, w_notV, w_ife, w_nil, w_cons, w_fn, w_cb, w_tup, w_lst, w_seq, w_next, w_brk, w_ct, w_drop, w_ret, w_retN, w_ifS, w_asgN, w_asgT, w_asgS, w_gName, w_gNil, w_gCons, w_par, w_aug, w_ipI, w_sl, w_np, w_part, w_bm, w_bm0, w_cxK, w_bits, w_forL, w_forT, w_for1, w_for2, w_for3, w_lc3, w_lcL, w_lcT, w_lc1, w_lc2, w_yes, w_tru, wipe, scal,
   L2.start, List.map_cons, List.map_nil, List.length_cons, List.length_nil, List.replicate, List.cons_append, List.nil_append, Nat.reduceAdd, Nat.reduceSub, Nat.zero_add,
   List.getElem?_cons_zero, List.getElem?_cons_succ, List.set_cons_zero, List.set_cons_succ, Option.some.injEq, V.int.injEq, V.bl.injEq, V.ref.injEq, V.str.injEq, exists_eq_left, exists_eq_left', exists_and_left, exists_and_right, exists_eq', exists_eq, and_assoc, and_true, true_and, decide_eq_true_eq, Bool.not_eq_true', decide_eq_false_iff_not, List.cons.injEq, if_true, if_false, Bool.true_eq_false, Bool.false_eq_true, ite_true, ite_false, reduceIte, reduceCtorEq, not_true_eq_false, not_false_eq_true, decide_true, decide_false, Bool.not_true, Bool.not_false, false_and, and_false, exists_false, false_or, or_false])
local macro_rules | `(tactic| walk_at "lk") => `(tactic| first | assumption | exact upd_same | exact Eq.trans (upd_ne (by walk_at "ne")) (by walk_at "lk"))
local macro_rules | `(tactic| walk_at "ne") => `(tactic| first | assumption | exact Ne.symm (by assumption) | exact ne_fresh (by assumption) (by walk_at "lk") | exact Ne.symm (ne_fresh (by assumption) (by walk_at "lk")))
local macro_rules | `(tactic| walk_at "sq") => `(tactic| first | assumption | exact SqL.of (by walk_at "lk"))
local macro_rules | `(tactic| walk_at "ix") => `(tactic| (refine r_ixL (by walk_at "sq") (by rfl) ?_; walk_at "w"))
local macro_rules | `(tactic| walk_at "st") => `(tactic| (refine r_setL (by walk_at "lk") (by rfl) ?_; walk_at "w"))
local macro_rules | `(tactic| walk_at "d") => `(tactic| (walk_at "w"; (try simp only [w_dget, w_dget2, w_dput, w_dnew, w_lv, w_augS, w_lockE, w_lcK, w_isB, w_notB]); walk_at "w"))
local macro_rules | `(tactic| walk_at "e") => `(tactic| (walk_at "d"; (try simp only [SetL.w_sortSet]); walk_at "d"))
local macro_rules | `(tactic| walk_at "f") => `(tactic| (walk_at "d"; (try simp only [TupE.w_lcTe, TupE.w_lcE]); walk_at "d"))
def top (i : Nat) : Stmt := PySem.Challenge.pw_powernumbers_k21_can_be_by_rests.main.body.getD i (.Pass ⟨0, 0, 0, 0⟩)
structure Bt (mg : PySem.Str → Option Value) : Prop where
  range : mg "range" = none
  len : mg "len" = none
  sum : mg "sum" = none
  min : mg "min" = none
  max : mg "max" = none
  abs : mg "abs" = none
  sorted : mg "sorted" = none
  isinstance : mg "isinstance" = none
  enumerate : mg "enumerate" = none
  zip : mg "zip" = none
  int : mg "int" = none
  bool : mg "bool" = none
  str : mg "str" = none
  list : mg "list" = none
  tuple : mg "tuple" = none
  dict : mg "dict" = none
  set : mg "set" = none
abbrev s_power_of : Stmt := top 1
theorem sc_power_of : FnScope ["base", "exponent", "half"] ["base", "exponent"] (defScope s_power_of) := ⟨rfl, rfl, rfl, by decide +kernel, rfl, by decide +kernel, by decide +kernel⟩
def sp_power_of_k (K : PySem.W.Frag) (k : Nat) : Sp := fun vs H Q _ => ∃ (b e a : Nat), vs = [.int (b : Int), .int (e : Int)] ∧ 1 ≤ k ∧ e < 2 ^ (k - 1) ∧ b < 2 ^ a ∧ a * e ≤ 300000 ∧ a ≤ 300000 ∧ ∀ H', Same H H' → Q (.int ((b ^ e : Nat) : Int)) H'
section
variable {P : Program} {w : World} {K : PySem.W.Frag} {mg : PySem.Str → Option Value} {base : Heap}
theorem bi_power_of {f : Addr} {fd : FuncData} (F : Fun K "power_of" "power_of" s_power_of f fd) : Binds K fd ["base", "exponent"] [] := F.binds (ps := ["base", "exponent"]) fun _ _ _ _ _ _ us hl => match us, hl with | [_, _], _ => rfl
set_option maxHeartbeats 4000000 in
theorem ok_power_of {f : Addr} {fd : FuncData} (F : Fun K "power_of" "power_of" s_power_of f fd) (B : Bt mg) (mf : mg "power_of" = some (.ref f))  : ∀ k : Nat, FnOk P w K mg base CX0 k f fd ["base", "exponent"] (sp_power_of_k K k)
  | 0 => fn_vac fun vs H Q E h => by
    obtain ⟨b, e, a, rfl, hk1, hk, hb, ha, ha2, q⟩ := h
    omega
  | k + 1 => by
    have h_power_of : Fn P w K mg base CX0 k "power_of" ["base", "exponent"] (sp_power_of_k K k) := ⟨f, fd, mf, F.kp, bi_power_of F, ok_power_of F B mf  k⟩
    refine F.ok sc_power_of (fun vs H Q E h => ?_) (fun cdv A outer s H vs Q E hr h => ?_)
    · obtain ⟨b, e, a, rfl, hk1, hk, hb, ha, ha2, q⟩ := h
      rfl
    · obtain ⟨b, e, a, rfl, hk1, hk, hb, ha, ha2, q⟩ := h
      refine ⟨_, (pss_cons (ps_if (pt_cmpR op_eq (pv 1) pe_int (nomark _))
        (pss_one (ps_ret pe_int))
        pss_nil)
      (pss_cons (ps_set (i := 2) sc_power_of.nd rfl (Or.inl rfl) (pe_fn h_power_of hr (by rfl) (pa_cons (pv 0) (pa_cons (pe_op op_fdiv (pv 1) pe_int) pa_nil))))
      (pss_one (ps_ret (pe_op op_mulW (pe_op op_mulW (pv 2) (pv 2)) (pe_ix (k_ixL K) (pe_lst (pa_cons pe_int (pa_cons (pv 0) pa_nil))) (pe_op op_mod (pv 1) pe_int) (fun _ _ => rfl))))))), ?_⟩
      walk_at "w"
      refine ite2 (fun h0 => ?_) (fun h0 => ?_)
      · have h0 : e = 0 := by omega
        subst h0
        rw [Nat.pow_zero] at q
        exact q _ (Same.refl _)
      · have he : 0 < e := by omega
        have hk2 : 1 ≤ k := by
          rcases Nat.eq_zero_or_pos k with rfl | h
          · simp at hk
            omega
          · exact h
        have hhalf : e / 2 < 2 ^ (k - 1) := by
          have : 2 ^ (k + 1 - 1) = 2 * 2 ^ (k - 1) := by
            rw [show k + 1 - 1 = (k - 1) + 1 by omega, Nat.pow_succ]
            omega
          omega
        have e2 : (e : Int) / 2 = ((e / 2 : Nat) : Int) := by omega
        have hsz : ∀ j, j ≤ e → b ^ j ≤ 2 ^ (a * e) := fun j hj => by
          rw [Nat.pow_mul]
          exact Nat.le_trans (Nat.pow_le_pow_left (Nat.le_of_lt hb) j) (Nat.pow_le_pow_right (Nat.two_pow_pos a) hj)
        have l1 := log2_le_of_le (hsz (e / 2) (by omega))
        have hml : a * (e / 2) ≤ a * e := Nat.mul_le_mul_left a (by omega)
        walk_at "w"
        rw [e2]
        refine ⟨by unfold CDiv; omega, b, e / 2, a, rfl, hk2, hhalf, hb, by omega, ha2, fun H' s' => ?_⟩
        have em : ((b ^ (e / 2) : Nat) : Int) * ((b ^ (e / 2) : Nat) : Int) = ((b ^ (e / 2 + e / 2) : Nat) : Int) := by
          rw [Nat.pow_add]
          push_cast
          rfl
        have l2 := log2_le_of_le (hsz (e / 2 + e / 2) (by omega))
        walk_at "w"
        rw [em]
        refine ⟨cmulN (by omega), by show 2 ≤ sizeLine; decide, fun p hp => ⟨by omega, ?_⟩⟩
        rcases (by omega : e % 2 = 0 ∨ e % 2 = 1) with h | h
        · have eo : (e : Int) % 2 = 0 := by omega
          rw [eo]
          refine r_ixL (SqL.of upd_same) (by rfl) ?_
          walk_at "w"
          have l3 : (1 : Nat).log2 = 0 := rfl
          have ee : e / 2 + e / 2 = e := by omega
          rw [ee] at l2 ⊢
          refine ⟨cmulN (b := 1) (by omega), ?_⟩
          rw [Int.mul_one]
          exact q _ (sm_new s' (s'.free hp))
        · have eo : (e : Int) % 2 = 1 := by omega
          rw [eo]
          refine r_ixL (SqL.of upd_same) (by rfl) ?_
          walk_at "w"
          have l3 := log2_le_of_le (Nat.le_of_lt hb)
          refine ⟨cmulN (by omega), ?_⟩
          have ee : ((b ^ (e / 2 + e / 2) : Nat) : Int) * (b : Int) = ((b ^ e : Nat) : Int) := by
            rw [show b ^ e = b ^ (e / 2 + e / 2) * b by rw [← Nat.pow_succ]; congr 1; omega]
            push_cast
            rfl
          rw [ee]
          exact q _ (sm_new s' (s'.free hp))
end
abbrev sp_power_of (K : PySem.W.Frag) : Sp := sp_power_of_k K 9
abbrev s_floor_root : Stmt := top 2
theorem sc_floor_root : FnScope ["number", "exponent", "found", "less", "lower"] ["number", "exponent"] (defScope s_floor_root) := ⟨rfl, rfl, rfl, by decide +kernel, rfl, by decide +kernel, by decide +kernel⟩
def sp_floor_root (K : PySem.W.Frag) : Sp := fun vs H Q _ => ∃ (n e c : Nat), vs = [.int (n : Int), .int (e : Int)] ∧ 1 ≤ e ∧ e ≤ 256 ∧ n < 2 ^ c ∧ c ≤ 8000 ∧ ∀ H', Same H H' → Q (.int (rootN n e : Nat)) H'
section
variable {P : Program} {w : World} {K : PySem.W.Frag} {mg : PySem.Str → Option Value} {base : Heap}
theorem bi_floor_root {f : Addr} {fd : FuncData} (F : Fun K "floor_root" "floor_root" s_floor_root f fd) : Binds K fd ["number", "exponent"] [] := F.binds (ps := ["number", "exponent"]) fun _ _ _ _ _ _ us hl => match us, hl with | [_, _], _ => rfl
set_option maxHeartbeats 4000000 in
theorem ok_floor_root {f : Addr} {fd : FuncData} (F : Fun K "floor_root" "floor_root" s_floor_root f fd) (B : Bt mg) (h_power_of : Fn P w K mg base CX0 9 "power_of" ["base", "exponent"] (sp_power_of K)) : FnOk P w K mg base CX0 10 f fd ["number", "exponent"] (sp_floor_root K) := by
  refine F.ok sc_floor_root (fun vs H Q E h => ?_) (fun cdv A outer s H vs Q E hr h => ?_)
  · obtain ⟨n, e, c, rfl, he, he2, hn, hc, q⟩ := h
    rfl
  · obtain ⟨n, e, c, rfl, he, he2, hn, hc, q⟩ := h
    refine ⟨_, (pss_cons (ps_if (pt_cmpR op_lt (pv 0) pe_int (nomark _))
        (pss_one (ps_ret (pv 0)))
        pss_nil)
      (pss_cons (ps_set (i := 2) sc_floor_root.nd rfl (Or.inl rfl) (pe_op op_shl pe_int (pe_op op_fdivW (pe_op op_sub (pe_op op_add (pe_bits (pv 0)) (pv 1)) pe_int) (pv 1))))
      (pss_one (ps_while PassesOwn.never (pt_val pe_bl)
        (pss_cons (ps_set (i := 3) sc_floor_root.nd rfl (Or.inl rfl) (pe_fn h_power_of (hr.mono (by decide)) (by rfl) (pa_cons (pv 2) (pa_cons (pe_op op_sub (pv 1) pe_int) pa_nil))))
        (pss_cons (ps_set (i := 4) sc_floor_root.nd rfl (Or.inl rfl) (pe_op op_fdivW (pe_op op_add (pe_op op_mulW (pe_op op_sub (pv 1) pe_int) (pv 2)) (pe_op op_fdivW (pv 0) (pv 3))) (pv 1)))
        (pss_cons (ps_if (pt_cmpR op_ge (pv 4) (pv 2) (nomark _))
          (pss_one (ps_ret (pv 2)))
          pss_nil)
        (pss_one (ps_set (i := 2) sc_floor_root.nd rfl (Or.inl rfl) (pv 4)))))))))), ?_⟩
    walk_at "w"
    refine ite2 (fun h2 => ?_) (fun h2 => ?_)
    · have hr : rootN n e = n := by
        rcases (by omega : n = 0 ∨ n = 1) with rfl | rfl
        · exact rootN_0 he
        · exact rootN_1 he
      rw [hr] at q
      exact q _ (Same.refl _)
    · have hn1 : 1 ≤ n := by omega
      have hl : n.log2 < c := (Nat.log2_lt (by omega)).mpr hn
      rw [bits_nat hn1]
      have hst := newton_start (n := n) he
      have et : (((n.log2 + 1 : Nat) : Int) + (e : Int) - 1) / (e : Int) = (((n.log2 + 1 + e - 1) / e : Nat) : Int) := by
        have : ((n.log2 + 1 : Nat) : Int) + (e : Int) - 1 = ((n.log2 + 1 + e - 1 : Nat) : Int) := by omega
        rw [this]
        exact (Int.natCast_ediv _ _).symm
      have hte : (n.log2 + 1 + e - 1) / e * e ≤ n.log2 + 1 + e - 1 := Nat.div_mul_le_self _ _
      have htc : (n.log2 + 1 + e - 1) / e ≤ n.log2 + 1 := by
        rw [Nat.div_le_iff_le_mul_add_pred (by omega)]
        have h3 : n.log2 + 1 ≤ (n.log2 + 1) * e := Nat.le_mul_of_pos_right _ he
        rw [Nat.mul_comm e]
        omega
      rw [et]
      generalize (n.log2 + 1 + e - 1) / e = t at hst hte htc ⊢
      clear et
      rw [shl_one]
      refine ⟨wide_div (b := 10) (by omega) (by omega) (by decide) (by decide), by unfold CPow; omega, ?_⟩
      refine while_m (fun m σ H' => ∃ (v3 v4 : Option V), σ = [some (.int n), some (.int e), some (.int (m : Int)), v3, v4] ∧ Same H H' ∧ rootN n e ≤ m ∧ m ≤ 2 ^ t) (2 ^ t) ⟨none, none, rfl, Same.refl _, hst, Nat.le_refl _⟩ ?_
      rintro x σ H' ⟨v3, v4, rfl, s1, hx, hx2⟩ G hG
      walk_at "w"
      refine hG _ _ fun N hN => ?_
      have hx1 : 1 ≤ x := Nat.le_trans (rootN_pos he hn1) hx
      have hxt : x < 2 ^ (t + 1) := by
        rw [Nat.pow_succ]
        omega
      have ee : (e : Int) - 1 = ((e - 1 : Nat) : Int) := by omega
      have hsz : (t + 1) * (e - 1) ≤ c + 2 * e := by
        have h4 : (t + 1) * (e - 1) ≤ (t + 1) * e := Nat.mul_le_mul_left _ (by omega)
        have h5 : (t + 1) * e = t * e + e := by rw [Nat.add_mul, Nat.one_mul]
        omega
      walk_at "w"
      rw [ee]
      refine ⟨x, e - 1, t + 1, rfl, by decide, by omega, hxt, by omega, by omega, fun H2 s2 => ?_⟩
      walk_at "w"
      have hy : x ^ (e - 1) ≤ 2 ^ (c + 2 * e) := by
        refine Nat.le_trans (Nat.pow_le_pow_left (Nat.le_of_lt hxt) _) ?_
        rw [← Nat.pow_mul]
        exact Nat.pow_le_pow_right (by decide) hsz
      have hy0 : 0 < x ^ (e - 1) := Nat.pow_pos (by omega)
      have l1 := log2_le_of_le (Nat.le_of_lt hxt)
      have l2 : (e - 1).log2 ≤ 8 := log2_le_of_le (by omega)
      have l3 := log2_le_of_le hy
      have ev : (((e - 1 : Nat) : Int) * (x : Int) + (n : Int) / ((x ^ (e - 1) : Nat) : Int)) / (e : Int) = ((((e - 1) * x + n / x ^ (e - 1)) / e : Nat) : Int) := by
        rw [Int.natCast_ediv, Int.natCast_add, Int.natCast_mul, Int.natCast_ediv]
      have hd : CDivW (n : Int) ((x ^ (e - 1) : Nat) : Int) := ⟨by omega, Nat.lt_of_le_of_lt (show (x ^ (e - 1)).log2 ≤ _ from l3) (by omega)⟩
      have hd2 : ∀ z : Int, CDivW z (e : Int) := fun z => wide_div (b := 10) (by omega) (by omega) (by decide) (by decide)
      rw [ev]
      have hge := newton_ge (n := n) he hx1 (rootN_le (n := n) he)
      generalize hlow : ((e - 1) * x + n / x ^ (e - 1)) / e = low at hge ⊢
      refine ⟨cmulN (by omega), hd, hd2 _, ite2 (fun hs => ?_) (fun hs => ?_)⟩
      · have hle : x ^ e ≤ n := newton_stop he hx1 (by rw [hlow]; omega)
        have : x = rootN n e := Nat.le_antisymm (rootN_ge he hle) hx
        rw [← this] at q
        exact q _ (s1.trans s2)
      · exact hN low _ _ (by omega) ⟨_, _, rfl, s1.trans s2, hge, by omega⟩
end
abbrev s_rest_of : Stmt := top 4
theorem sc_rest_of : FnScope ["base", "exponent", "divisor", "found"] ["base", "exponent", "divisor"] (defScope s_rest_of) := ⟨rfl, rfl, rfl, by decide +kernel, rfl, by decide +kernel, by decide +kernel⟩
def sp_rest_of (K : PySem.W.Frag) : Sp := fun vs H Q _ => ∃ (b e d : Nat), vs = [.int (b : Int), .int (e : Int), .int (d : Int)] ∧ 1 ≤ d ∧ d < 2 ^ 64 ∧ b < 2 ^ 64 ∧ Q (.int ((b ^ e % d : Nat) : Int)) H
section
variable {P : Program} {w : World} {K : PySem.W.Frag} {mg : PySem.Str → Option Value} {base : Heap}
theorem bi_rest_of {f : Addr} {fd : FuncData} (F : Fun K "rest_of" "rest_of" s_rest_of f fd) : Binds K fd ["base", "exponent", "divisor"] [] := F.binds (ps := ["base", "exponent", "divisor"]) fun _ _ _ _ _ _ us hl => match us, hl with | [_, _, _], _ => rfl
set_option maxHeartbeats 4000000 in
theorem ok_rest_of {f : Addr} {fd : FuncData} (F : Fun K "rest_of" "rest_of" s_rest_of f fd) (B : Bt mg)  : FnOk P w K mg base CX0 1 f fd ["base", "exponent", "divisor"] (sp_rest_of K) := by
  refine F.ok sc_rest_of (fun vs H Q E h => ?_) (fun cdv A outer s H vs Q E hr h => ?_)
  · obtain ⟨b, e, d, rfl, hd, hd2, hb, q⟩ := h
    rfl
  · obtain ⟨b, e, d, rfl, hd, hd2, hb, q⟩ := h
    refine ⟨_, (pss_cons (ps_set (i := 3) sc_rest_of.nd rfl (Or.inl rfl) (pe_op op_mod pe_int (pv 2)))
      (pss_cons (ps_while PassesOwn.never (pt_cmpR op_gt (pv 1) pe_int (nomark _))
        (pss_cons (ps_if (pt_cmpR op_eq (pe_op op_mod (pv 1) pe_int) pe_int (nomark _))
          (pss_one (ps_set (i := 3) sc_rest_of.nd rfl (Or.inl rfl) (pe_op op_mod (pe_op op_mulW (pv 3) (pv 0)) (pv 2))))
          pss_nil)
        (pss_cons (ps_set (i := 0) sc_rest_of.nd rfl (Or.inl rfl) (pe_op op_mod (pe_op op_mulW (pv 0) (pv 0)) (pv 2)))
        (pss_one (ps_set (i := 1) sc_rest_of.nd rfl (Or.inl rfl) (pe_op op_fdiv (pv 1) pe_int))))))
      (pss_one (ps_ret (pv 3))))), ?_⟩
    have mod : ∀ x y : Nat, (x : Int) * (y : Int) % (d : Int) = ((x * y % d : Nat) : Int) := fun x y => by rw [← Int.natCast_mul, ← Int.natCast_emod]
    have cm : ∀ x y : Nat, x < 2 ^ 64 → y < 2 ^ 64 → CMulW (x : Int) (y : Int) := fun x y h1 h2 => wide_mul (a := 64) (b := 64) (by omega) (by omega) (by decide) (by decide) (by decide)
    have one : (1 : Int) % (d : Int) = ((1 % d : Nat) : Int) := by simp
    have lt : ∀ x : Nat, x % d < 2 ^ 64 := fun x => Nat.lt_trans (Nat.mod_lt x hd) hd2
    walk_at "w"
    rw [one]
    refine ⟨by omega, while_m (fun m σ H' => ∃ (f b' : Nat), σ = [some (.int b'), some (.int (m : Int)), some (.int d), some (.int f)] ∧ H' = H ∧ f < d ∧ b' < 2 ^ 64 ∧ f * b' ^ m % d = b ^ e % d) e ⟨1 % d, b, rfl, rfl, Nat.mod_lt _ hd, hb, by rw [Nat.mod_mul_mod, Nat.one_mul]⟩ ?_⟩
    rintro m σ H' ⟨f, b', rfl, rfl, hf, hb', h1⟩ G hG
    have m2 : (m : Int) / 2 = ((m / 2 : Nat) : Int) := by omega
    walk_at "w"
    refine ite2 (fun hc => hG _ _ fun N hN => ?_) (fun hc => ?_)
    · walk_at "w"
      rw [m2, mod, mod]
      refine ⟨by omega, ite2 (fun ho => ?_) (fun ho => ?_)⟩
      · refine ⟨cm _ _ (by omega) hb', by omega, cm _ _ hb' hb', by omega, by unfold CDiv; omega, hN (m / 2) _ _ (by omega) ⟨f * b' % d, b' * b' % d, rfl, rfl, Nat.mod_lt _ hd, lt _, rest_step1 h1 (by omega)⟩⟩
      · refine ⟨cm _ _ hb' hb', by omega, by unfold CDiv; omega, hN (m / 2) _ _ (by omega) ⟨f, b' * b' % d, rfl, rfl, hf, lt _, rest_step0 h1 (by omega)⟩⟩
    · have : m = 0 := by omega
      subst this
      walk_at "w"
      rw [Nat.pow_zero, Nat.mul_one, Nat.mod_eq_of_lt hf] at h1
      rw [h1]
      exact q
end
abbrev s_rests_of : Stmt := top 5
theorem sc_rests_of : FnScope ["divisor", "exponent", "base"] ["divisor", "exponent"] (defScope s_rests_of) := ⟨rfl, rfl, rfl, by decide +kernel, rfl, by decide +kernel, by decide +kernel⟩
def sp_rests_of (K : PySem.W.Frag) : Sp := fun vs H Q _ => ∃ (d e : Nat), vs = [.int (d : Int), .int (e : Int)] ∧ 1 ≤ d ∧ d ≤ 1000 ∧ e ≤ 256 ∧ ∀ (p : Addr) (ms : List Int) (H' : Hp), H p = none → Same H H' → ms.Pairwise (· < ·) → ms.length ≤ 4000 → (∀ k, k ∈ ms ↔ ∃ b : Nat, b < d ∧ k = ((b ^ e % d : Nat) : Int)) → H' p = some (.tup (ms.map V.int)) → Q (.ref p) H'
section
variable {P : Program} {w : World} {K : PySem.W.Frag} {mg : PySem.Str → Option Value} {base : Heap}
theorem bi_rests_of {f : Addr} {fd : FuncData} (F : Fun K "rests_of" "rests_of" s_rests_of f fd) : Binds K fd ["divisor", "exponent"] [] := F.binds (ps := ["divisor", "exponent"]) fun _ _ _ _ _ _ us hl => match us, hl with | [_, _], _ => rfl
set_option maxHeartbeats 4000000 in
theorem ok_rests_of {f : Addr} {fd : FuncData} (F : Fun K "rests_of" "rests_of" s_rests_of f fd) (B : Bt mg) (h_rest_of : Fn P w K mg base CX0 1 "rest_of" ["base", "exponent", "divisor"] (sp_rest_of K)) : FnOk P w K mg base CX0 2 f fd ["divisor", "exponent"] (sp_rests_of K) := by
  refine F.ok sc_rests_of (fun vs H Q E h => ?_) (fun cdv A outer s H vs Q E hr h => ?_)
  · obtain ⟨d, e, rfl, hd1, hd, he, q⟩ := h
    rfl
  · obtain ⟨d, e, rfl, hd1, hd, he, q⟩ := h
    refine ⟨_, (pss_one (ps_ret (pe_callTy (k_tuple K) (by rfl) B.tuple (by decide +kernel) (pa_cons (SetL.pe_sortSet (K := K) rfl (by rfl) B.sorted (by decide +kernel) (by rfl) B.set (by decide +kernel) (pe_lc (own := [("base", 2)]) (g := gName 2) (tt := tYes) rfl sc_rests_of.nd (pi_range1 rfl B.range (pa_cons (pv 0) pa_nil)) (blkOk_by (own := [("base", 2)]) (N := ["divisor", "exponent", "base"]) (sc := defScope s_rests_of) (by decide +kernel)) (fun _ _ _ _ _ => (pg_name (i := 2) sc_rests_of.nd rfl (Or.inl rfl))) (fun _ _ _ _ _ => pts_nil) (fun _ _ _ _ _ => (pe_fn h_rest_of (hr.mono (by decide)) (by rfl) (pa_cons (pv 2) (pa_cons (pv 1) (pa_cons (pv 0) pa_nil))))))) pa_nil)))), ?_⟩
    walk_at "e"
    refine ⟨by omega, by omega, ?_⟩
    have hk : ((d : Int)).toNat = d := by omega
    rw [hk]
    refine lc_r (fun i => some (.int ((i ^ e % d : Nat) : Int))) (size_le (by omega)) ?_ ?_
    · intro i H1 hi s1 N0 N1 h0 h1
      have e0 : (0 : Int) + (i : Int) = ((i : Nat) : Int) := by omega
      walk_at "e"
      rw [e0]
      refine ⟨i, e, d, rfl, hd1, by omega, by omega, ?_⟩
      exact h1 _ rfl _ (Same.refl _)
    · intro D H1 hD s1 hL
      rw [filt_ints (fun i => ((i ^ e % d : Nat) : Int))] at hL
      walk_at "e"
      refine ⟨_, SqL.of hL, by simp; omega, fun ms p hs hm hp => ?_⟩
      have hlen : ms.length ≤ 4000 := by
        have h1 : ms ⊆ (List.range d).map fun i => ((i ^ e % d : Nat) : Int) := fun x hx => (hm x).mp hx
        have := List.Nodup.length_le_of_subset (hs.imp fun z => Int.ne_of_lt z) h1
        simp at this
        omega
      refine r_tupL (SqL.of upd_same) fun u hu => ?_
      have s2 := sm_new (o := .lst (ms.map V.int)) s1 (s1.free hp)
      refine q u ms _ (s2.free hu) (sm_new s2 (s2.free hu)) hs hlen (fun k => ?_) upd_same
      rw [hm k, List.mem_map]
      constructor
      · rintro ⟨b, hb, rfl⟩
        exact ⟨b, List.mem_range.mp hb, rfl⟩
      · rintro ⟨b, hb, rfl⟩
        exact ⟨b, List.mem_range.mpr hb, rfl⟩
end
abbrev s_count_rest : Stmt := top 6
theorem sc_count_rest : FnScope ["most", "exponent", "divisor", "rest", "bases", "found", "base"] ["most", "exponent", "divisor", "rest"] (defScope s_count_rest) := ⟨rfl, rfl, rfl, by decide +kernel, rfl, by decide +kernel, by decide +kernel⟩
def sp_count_rest (K : PySem.W.Frag) : Sp := fun vs H Q _ => ∃ (n e d : Nat) (r : Nat), vs = [.int (n : Int), .int (e : Int), .int (d : Int), .int (r : Int)] ∧ n < 2 ^ 200 ∧ 1 ≤ e ∧ e ≤ 256 ∧ 1 ≤ d ∧ d ≤ 1000000 ∧ ∀ H', Same H H' → Q (.int ((cntS (rootN n e) e d r : Nat) : Int)) H'
section
variable {P : Program} {w : World} {K : PySem.W.Frag} {mg : PySem.Str → Option Value} {base : Heap}
theorem bi_count_rest {f : Addr} {fd : FuncData} (F : Fun K "count_rest" "count_rest" s_count_rest f fd) : Binds K fd ["most", "exponent", "divisor", "rest"] [] := F.binds (ps := ["most", "exponent", "divisor", "rest"]) fun _ _ _ _ _ _ us hl => match us, hl with | [_, _, _, _], _ => rfl
set_option maxHeartbeats 4000000 in
theorem ok_count_rest {f : Addr} {fd : FuncData} (F : Fun K "count_rest" "count_rest" s_count_rest f fd) (B : Bt mg) (h_floor_root : Fn P w K mg base CX0 10 "floor_root" ["number", "exponent"] (sp_floor_root K)) (h_rest_of : Fn P w K mg base CX0 1 "rest_of" ["base", "exponent", "divisor"] (sp_rest_of K)) : FnOk P w K mg base CX0 11 f fd ["most", "exponent", "divisor", "rest"] (sp_count_rest K) := by
  refine F.ok sc_count_rest (fun vs H Q E h => ?_) (fun cdv A outer s H vs Q E hr h => ?_)
  · obtain ⟨n, e, d, r, rfl, hn, he, he2, hd, hd2, q⟩ := h
    rfl
  · obtain ⟨n, e, d, r, rfl, hn, he, he2, hd, hd2, q⟩ := h
    refine ⟨_, (pss_cons (ps_set (i := 4) sc_count_rest.nd rfl (Or.inl rfl) (pe_fn h_floor_root (hr.mono (by decide)) (by rfl) (pa_cons (pv 0) (pa_cons (pv 1) pa_nil))))
      (pss_cons (ps_set (i := 5) sc_count_rest.nd rfl (Or.inl rfl) pe_int)
      (pss_cons (ps_for PassesOwn.never rfl (pi_range2 rfl B.range (pa_cons pe_int (pa_cons (pe_op op_add (pe_callB (call_min2 rfl) (by rfl) B.min (by decide +kernel) (pa_cons (pv 2) (pa_cons (pv 4) pa_nil))) pe_int) pa_nil))) (pg_name (i := 6) sc_count_rest.nd rfl (Or.inl rfl))
        (pss_one (ps_if (pt_cmpR op_eq (pe_fn h_rest_of (hr.mono (by decide)) (by rfl) (pa_cons (pv 6) (pa_cons (pv 1) (pa_cons (pv 2) pa_nil)))) (pv 3) (nomark _))
          (pss_one (ps_aug (i := 5) sc_count_rest.nd rfl (Or.inl rfl) (pe_op op_add (pe_op op_fdivW (pe_op op_sub (pv 4) (pv 6)) (pv 2)) pe_int) ip_add))
          pss_nil)))
      (pss_one (ps_ret (pv 5)))))), ?_⟩
    walk_at "w"
    refine ⟨n, e, 200, rfl, he, he2, hn, by omega, fun H1 s1 => ?_⟩
    generalize hB : rootN n e = B at q ⊢
    have em : (if (B : Int) < (d : Int) then (B : Int) else (d : Int)) = ((min d B : Nat) : Int) := by split <;> omega
    walk_at "w"
    rw [em]
    have hk : (((min d B : Nat) : Int) + 1 - 1).toNat = min d B := by omega
    rw [hk]
    refine ⟨by omega, by omega, by omega, by omega, for_r (fun i σ H' => ∃ (v : Option V), σ = [some (.int n), some (.int e), some (.int d), some (.int r), some (.int (B : Int)), some (.int ((sumN i (fun i => if (i + 1) ^ e % d = r then (B - (i + 1)) / d + 1 else 0) : Nat) : Int)), v] ∧ H' = H1) ⟨none, rfl, rfl⟩ ?_ ?_⟩
    · rintro i σ H' hi ⟨v, rfl, rfl⟩ N hN
      have e1 : (1 : Int) + (i : Int) = ((i + 1 : Nat) : Int) := by omega
      have e2 : ((B : Int) - ((i + 1 : Nat) : Int)) / (d : Int) + 1 = (((B - (i + 1)) / d + 1 : Nat) : Int) := by
        have : (B : Int) - ((i + 1 : Nat) : Int) = ((B - (i + 1) : Nat) : Int) := by omega
        rw [this, ← Int.natCast_ediv]
        rfl
      walk_at "w"
      rw [e1]
      refine ⟨i + 1, e, d, rfl, hd, by omega, by omega, ?_⟩
      walk_at "w"
      rw [e2]
      have eS : ((sumN (i + 1) (fun i => if (i + 1) ^ e % d = r then (B - (i + 1)) / d + 1 else 0) : Nat) : Int) = ((sumN i (fun i => if (i + 1) ^ e % d = r then (B - (i + 1)) / d + 1 else 0) : Nat) : Int) + (((if (i + 1) ^ e % d = r then (B - (i + 1)) / d + 1 else 0 : Nat)) : Int) := by
        rw [sumN, Int.natCast_add]
      refine ite2 (fun hq => ?_) (fun hq => ?_)
      · rw [if_pos (show (i + 1) ^ e % d = r by omega)] at eS
        rw [← eS]
        exact ⟨wide_div (b := 64) (by omega) (by omega) (by decide) (by decide), hN _ _ ⟨_, rfl, rfl⟩⟩
      · rw [if_neg (show ¬ (i + 1) ^ e % d = r by omega)] at eS
        have eS' : ((sumN i (fun i => if (i + 1) ^ e % d = r then (B - (i + 1)) / d + 1 else 0) : Nat) : Int) = ((sumN (i + 1) (fun i => if (i + 1) ^ e % d = r then (B - (i + 1)) / d + 1 else 0) : Nat) : Int) := by omega
        rw [eS']
        exact hN _ _ ⟨_, rfl, rfl⟩
    · rintro σ H' ⟨v, rfl, rfl⟩
      walk_at "w"
      rw [cnt_prog hd]
      exact q _ s1
end
abbrev s_prime_powers_to : Stmt := top 7
theorem sc_prime_powers_to : FnScope ["most", "found", "left", "prime", "other", "power"] ["most"] (defScope s_prime_powers_to) := ⟨rfl, rfl, rfl, by decide +kernel, rfl, by decide +kernel, by decide +kernel⟩
def sp_prime_powers_to (K : PySem.W.Frag) : Sp := fun vs H Q _ => ∃ (m : Nat), vs = [.int (m : Int)] ∧ m ≤ 200 ∧ ∀ (f : Addr) (ps : List Nat) (H' : Hp), H f = none → Same H H' → ps.length ≤ 4000 → (∀ x, x ∈ ps ↔ ∃ p k, PrimeN p ∧ 1 ≤ k ∧ x = p ^ k ∧ x ≤ m) → H' f = some (.lst ((ofN ps).map V.int)) → Q (.ref f) H'
theorem rg_mult' {M e : Nat} (h2 : 2 ≤ e) (hM : M < 1000) (he : e ≤ M) : RgC (2 * (e : Int)) ((M : Int) + 1) (e : Int) (M / e - 1) := by
  have h := RgC.up (i := 2 * (e : Int)) (j := (M : Int) + 1) (c := (e : Int)) (by omega) (by omega) (by omega) (by omega) (by omega) (by omega)
  have e1 : (if 2 * (e : Int) < (M : Int) + 1 then (((M : Int) + 1 - 2 * (e : Int) - 1) / (e : Int) + 1).toNat else 0) = M / e - 1 := by
    split
    · rename_i hlt
      have hle : 2 * e ≤ M := by omega
      have e2 : (M : Int) + 1 - 2 * (e : Int) - 1 = ((M - 2 * e : Nat) : Int) := by omega
      have e3 : M / e = (M - 2 * e) / e + 2 := by
        have := Nat.add_mul_div_right (M - 2 * e) 2 (show 0 < e by omega)
        rw [show M - 2 * e + 2 * e = M by omega] at this
        exact this
      rw [e2, ← Int.natCast_ediv, e3]
      omega
    · rename_i hlt
      have : M / e < 2 := (Nat.div_lt_iff_lt_mul (by omega)).mpr (by omega)
      omega
  rw [e1] at h
  exact h
def bL (m : Nat) (g : Nat → Bool) : List V := (List.range (m + 1)).map fun j => V.bl (g j)
theorem bL_len (m : Nat) (g : Nat → Bool) : (bL m g).length = m + 1 := by simp [bL]
theorem bL_at {m j : Nat} {g : Nat → Bool} (h : j ≤ m) : (bL m g)[j]? = some (V.bl (g j)) := by
  unfold bL
  rw [List.getElem?_map, List.getElem?_range (by omega)]
  rfl
theorem bL_set {m j : Nat} {g : Nat → Bool} (h : j ≤ m) : (bL m g).set j (V.bl false) = bL m fun k => if k = j then false else g k := by
  refine List.ext_getElem? fun i => ?_
  rw [List.getElem?_set]
  by_cases e : j = i
  · subst e
    rw [if_pos rfl, if_pos (by rw [bL_len]; omega), bL_at h, if_pos rfl]
  · rw [if_neg e]
    by_cases hi : i ≤ m
    · rw [bL_at hi, bL_at hi, if_neg fun z => e z.symm]
    · rw [List.getElem?_eq_none (by rw [bL_len]; omega), List.getElem?_eq_none (by rw [bL_len]; omega)]
theorem bL_start (m : Nat) : (List.replicate ((m : Int) + 1).toNat [V.bl true]).flatten = bL m fun _ => true := by
  have h1 : ∀ k : Nat, (List.replicate k [V.bl true]).flatten = List.replicate k (V.bl true) := fun k => by
    induction k with
    | zero => rfl
    | succ m ih => rw [List.replicate_succ, List.flatten_cons, ih]; rfl
  rw [h1, show ((m : Int) + 1).toNat = m + 1 by omega]
  refine List.ext_getElem? fun i => ?_
  by_cases hi : i ≤ m
  · rw [bL_at hi, List.getElem?_replicate, if_pos (by omega)]
  · rw [List.getElem?_eq_none (by simp; omega), List.getElem?_eq_none (by rw [bL_len]; omega)]
/-- no divisor below 2 + i but j itself -/
def Free (i j : Nat) : Prop := ∀ d, 2 ≤ d → d < 2 + i → d < j → ¬ d ∣ j
theorem free_prime {i : Nat} : Free i (2 + i) ↔ PrimeN (2 + i) := ⟨fun h => ⟨by omega, fun d h1 h2 => h d h1 h2 h2⟩, fun h d h1 h2 h3 => h.2 d h1 h3⟩
theorem free_succ {i j : Nat} : Free (i + 1) j ↔ Free i j ∧ ¬ (2 + i < j ∧ (2 + i) ∣ j) := by
  constructor
  · intro h
    exact ⟨fun d h1 h2 h3 => h d h1 (by omega) h3, fun z => h (2 + i) (by omega) (by omega) z.1 z.2⟩
  · rintro ⟨h, h'⟩ d h1 h2 h3 h4
    rcases (by omega : d < 2 + i ∨ d = 2 + i) with c | c
    · exact h d h1 c h3 h4
    · subst c
      exact h' ⟨h3, h4⟩
theorem free_same {i j : Nat} (hp : ¬ PrimeN (2 + i)) : Free (i + 1) j ↔ Free i j := by
  rw [free_succ]
  refine ⟨fun z => z.1, fun z => ⟨z, fun h => ?_⟩⟩
  have : ∃ d, 2 ≤ d ∧ d < 2 + i ∧ d ∣ 2 + i := Classical.byContradiction fun y => hp ⟨by omega, fun d h1 h2 h3 => y ⟨d, h1, h2, h3⟩⟩
  obtain ⟨d, h1, h2, h3⟩ := this
  exact z d h1 h2 (by omega) (Nat.dvd_trans h3 h.2)
/-- the powers of primes below 2 + i -/
def PPow (m i : Nat) (ps : List Nat) : Prop := ∀ x, x ∈ ps ↔ ∃ p k, PrimeN p ∧ p < 2 + i ∧ 1 ≤ k ∧ x = p ^ k ∧ x ≤ m
section
variable {P : Program} {w : World} {K : PySem.W.Frag} {mg : PySem.Str → Option Value} {base : Heap}
theorem bi_prime_powers_to {f : Addr} {fd : FuncData} (F : Fun K "prime_powers_to" "prime_powers_to" s_prime_powers_to f fd) : Binds K fd ["most"] [] := F.binds (ps := ["most"]) fun _ _ _ _ _ _ us hl => match us, hl with | [_], _ => rfl
set_option maxHeartbeats 4000000 in
theorem ok_prime_powers_to {f : Addr} {fd : FuncData} (F : Fun K "prime_powers_to" "prime_powers_to" s_prime_powers_to f fd) (B : Bt mg)  : FnOk P w K mg base CX0 1 f fd ["most"] (sp_prime_powers_to K) := by
  refine F.ok sc_prime_powers_to (fun vs H Q E h => ?_) (fun cdv A outer s H vs Q E hr h => ?_)
  · obtain ⟨m, rfl, hm, q⟩ := h
    rfl
  · obtain ⟨m, rfl, hm, q⟩ := h
    refine ⟨_, (pss_cons (ps_set (i := 1) sc_prime_powers_to.nd rfl (Or.inl rfl) (pe_lst pa_nil))
      (pss_cons (ps_set (i := 2) sc_prime_powers_to.nd rfl (Or.inl rfl) (pe_op op_rep (pe_lst (pa_cons pe_bl pa_nil)) (pe_op op_add (pv 0) pe_int)))
      (pss_cons (ps_for PassesOwn.never rfl (pi_range2 rfl B.range (pa_cons pe_int (pa_cons (pe_op op_add (pv 0) pe_int) pa_nil))) (pg_name (i := 3) sc_prime_powers_to.nd rfl (Or.inl rfl))
        (pss_one (ps_if (pt_val (pe_ix (k_ixL K) (pv 2) (pv 3) (fun _ _ => rfl)))
          (pss_cons (ps_for PassesOwn.never rfl (pi_range3 rfl B.range (pa_cons (pe_op op_mul pe_int (pv 3)) (pa_cons (pe_op op_add (pv 0) pe_int) (pa_cons (pv 3) pa_nil)))) (pg_name (i := 4) sc_prime_powers_to.nd rfl (Or.inl rfl))
            (pss_one (ps_asg pe_bl (pg_sub (pv 2) (pv 4) set_list))))
          (pss_cons (ps_set (i := 5) sc_prime_powers_to.nd rfl (Or.inl rfl) (pv 3))
          (pss_one (ps_while PassesOwn.never (pt_cmpR op_le (pv 5) (pv 0) (nomark _))
            (pss_cons (ps_expr (pe_bm PySem.F.plainAttrs_list PySem.F.slot_list_append PySem.F.type_list_append mt_append (pv 1) (pa_cons (pv 5) pa_nil)))
            (pss_one (ps_aug (i := 5) sc_prime_powers_to.nd rfl (Or.inl rfl) (pv 3) iop_mul)))))))
          pss_nil)))
      (pss_one (ps_ret (pv 1)))))), ?_⟩
    walk_at "w"
    refine ⟨by show 0 ≤ sizeLine; decide, fun f hf => ⟨by show 1 ≤ sizeLine; decide, fun p2 hp2 => ?_⟩⟩
    refine ⟨p2, (m : Int) + 1, [V.bl true], rfl, rfl, upd_same, by omega, by omega, size_le' (by simp; omega), fun l hl => ?_⟩
    rw [bL_start]
    have fl := upd_free (upd_free hl)
    have s0 : Same H (upd (upd (upd H f (.lst [])) p2 (.lst [V.bl true])) l (.lst (bL m fun _ => true))) := sm_new (sm_new (same_new hf) (upd_free hp2)) fl
    have hF0 : (upd (upd (upd H f (.lst [])) p2 (.lst [V.bl true])) l (.lst (bL m fun _ => true))) f = some (.lst []) := (upd_ne (ne_of_none ((upd_ne (ne_of_none upd_same hp2)).trans upd_same) hl)).trans ((upd_ne (ne_of_none upd_same hp2)).trans upd_same)
    have nfl : f ≠ l := ne_of_none ((upd_ne (ne_of_none upd_same hp2)).trans upd_same) hl
    walk_at "w"
    have hk : ((m : Int) + 1 - 2).toNat = m - 1 := by omega
    rw [hk]
    refine ⟨by omega, by omega, by omega, by omega, for_r (fun i σ H' => ∃ (v3 v4 v5 : Option V) (g : Nat → Bool) (ps : List Nat), σ = [some (.int (m : Int)), some (.ref f), some (.ref l), v3, v4, v5] ∧ Same H H' ∧ H' f = some (.lst ((ofN ps).map V.int)) ∧ H' l = some (.lst (bL m g)) ∧ ps.length ≤ 10 * i ∧ PPow m i ps ∧ ∀ j, 1 ≤ j → j ≤ m → (g j = true ↔ Free i j)) ⟨_, _, _, _, [], rfl, s0, hF0, upd_same, by simp, fun x => ⟨fun h => by simp at h, fun ⟨p, k, h1, h2, _⟩ => by have := h1.1; omega⟩, fun j h1 h2 => ⟨fun _ d h3 h4 => by omega, fun _ => rfl⟩⟩ ?_ ?_⟩
    · rintro i σ H1 hi ⟨v3, v4, v5, g, ps, rfl, s1, hF, hL, hlen, hP, hg⟩ N hN
      have e1 : (2 : Int) + (i : Int) = ((2 + i : Nat) : Int) := by omega
      have him : 2 + i ≤ m := by omega
      walk_at "w"
      rw [e1]
      refine r_ixL (SqL.of hL) (atI_nat (bL_at him)) ?_
      walk_at "w"
      by_cases hpr : PrimeN (2 + i)
      · have hgt : g (2 + i) = true := (hg _ (by omega) him).mpr (free_prime.mpr hpr)
        rw [hgt]
        walk_at "w"
        generalize hpe : 2 + i = p at hpr him ⊢
        refine ⟨by unfold CMul; omega, m / p - 1, rg_mult' (by omega) (by omega) him, for_c (fun t σ H' => ∃ (v4 : Option V) (g' : Nat → Bool), σ = [some (.int (m : Int)), some (.ref f), some (.ref l), some (.int (p : Int)), v4, v5] ∧ Same H H' ∧ H' f = some (.lst ((ofN ps).map V.int)) ∧ H' l = some (.lst (bL m g')) ∧ ∀ j, g' j = true ↔ g j = true ∧ ¬ ∃ t', t' < t ∧ j = (t' + 2) * p) ⟨_, g, rfl, s1, hF, hL, fun j => ⟨fun z => ⟨z, fun ⟨t', h, _⟩ => by omega⟩, fun z => z.1⟩⟩ ?_ ?_⟩
        · rintro t σ H2 ht ⟨v4, g', rfl, s2, hF2, hL2, hg'⟩ N2 hN2
          have e2 : 2 * (p : Int) + (t : Int) * (p : Int) = (((t + 2) * p : Nat) : Int) := by
            rw [Int.natCast_mul, Int.natCast_add, Int.add_mul, Int.add_comm]
            rfl
          have hle : (t + 2) * p ≤ m := (Nat.le_div_iff_mul_le (by omega)).mp (by omega)
          walk_at "w"
          rw [e2]
          refine r_setL hL2 (Evl.ixN_nat (j := (t + 2) * p) (by rw [bL_len]; omega)) ?_
          rw [bL_set hle]
          refine hN2 _ _ ⟨_, fun k => if k = (t + 2) * p then false else g' k, rfl, sm_new s2 fl, (upd_ne nfl).trans hF2, upd_same, fun j => ?_⟩
          by_cases c : j = (t + 2) * p
          · simp only [if_pos c]
            exact ⟨fun z => by simp at z, fun z => absurd ⟨t, by omega, c⟩ z.2⟩
          · simp only [if_neg c]
            rw [hg' j]
            constructor
            · rintro ⟨z1, z2⟩
              refine ⟨z1, fun ⟨t', h1, h2⟩ => ?_⟩
              rcases (by omega : t' < t ∨ t' = t) with d | d
              · exact z2 ⟨t', d, h2⟩
              · exact c (d ▸ h2)
            · rintro ⟨z1, z2⟩
              exact ⟨z1, fun ⟨t', h1, h2⟩ => z2 ⟨t', by omega, h2⟩⟩
        · rintro σ H2 ⟨v4, g', rfl, s2, hF2, hL2, hg'⟩
          have hfr : ∀ j, 1 ≤ j → j ≤ m → (g' j = true ↔ Free (i + 1) j) := fun j h1 h2 => by
            rw [hg' j, hg j h1 h2, free_succ, hpe]
            refine ⟨fun z => ⟨z.1, fun y => z.2 ?_⟩, fun z => ⟨z.1, fun y => z.2 ?_⟩⟩
            · obtain ⟨y1, c, y2⟩ := y
              have hc : 2 ≤ c := by
                rcases (by omega : c = 0 ∨ c = 1 ∨ 2 ≤ c) with d | d | d
                · rw [d, Nat.mul_zero] at y2
                  omega
                · rw [d, Nat.mul_one] at y2
                  omega
                · exact d
              refine ⟨c - 2, ?_, by rw [y2, show c - 2 + 2 = c by omega, Nat.mul_comm]⟩
              have : c ≤ m / p := (Nat.le_div_iff_mul_le (by omega)).mpr (by rw [Nat.mul_comm, ← y2]; exact h2)
              omega
            · obtain ⟨t', _, y2⟩ := y
              refine ⟨?_, ⟨t' + 2, by rw [y2, Nat.mul_comm]⟩⟩
              rw [y2, Nat.add_mul]
              omega
          have pw : ∀ t, p ^ t ≤ m → t ≤ 8 := fun t h => by
            rcases (by omega : t ≤ 8 ∨ 9 ≤ t) with c | c
            · exact c
            · have h1 : 2 ^ 9 ≤ p ^ 9 := Nat.pow_le_pow_left (by omega) 9
              have h2 : p ^ 9 ≤ p ^ t := Nat.pow_le_pow_right (by omega) c
              omega
          walk_at "w"
          refine while_m (fun z σ H' => ∃ (t : Nat) (ps' : List Nat) (v4 : Option V), σ = [some (.int (m : Int)), some (.ref f), some (.ref l), some (.int (p : Int)), v4, some (.int ((p ^ t : Nat) : Int))] ∧ 20 - t = z ∧ 1 ≤ t ∧ (t = 1 ∨ p ^ (t - 1) ≤ m) ∧ Same H H' ∧ H' f = some (.lst ((ofN ps').map V.int)) ∧ H' l = some (.lst (bL m g')) ∧ ps'.length ≤ 10 * i + (t - 1) ∧ ∀ x, x ∈ ps' ↔ x ∈ ps ∨ ∃ k, 1 ≤ k ∧ k < t ∧ x = p ^ k) 19
            ⟨1, ps, _, by rw [Nat.pow_one], rfl, Nat.le_refl _, .inl rfl, s2, hF2, hL2, by omega, fun x => ⟨fun z => .inl z, fun z => z.elim id fun ⟨k, h1, h2, _⟩ => by omega⟩⟩ ?_
          rintro z σ H3 ⟨t, ps', v4, rfl, rfl, ht1, htp, s3, hF3, hL3, hlen3, hmem3⟩ G hG
          have ht9 : t ≤ 9 := by
            rcases htp with c | c
            · omega
            · have := pw _ c
              omega
          walk_at "w"
          refine ite2 (fun hc => hG _ _ fun N3 hN3 => ?_) (fun hc => ?_)
          · have hle : p ^ t ≤ m := by omega
            walk_at "w"
            refine ⟨ty_list (SqL.of hF3), r_app hF3 (size_le (by simp [ofN]; omega)) ?_⟩
            walk_at "w"
            have e3 : ((p ^ t : Nat) : Int) * (p : Int) = ((p ^ (t + 1) : Nat) : Int) := by
              rw [Nat.pow_succ]
              push_cast
              rfl
            rw [e3]
            have e4 : (ofN ps').map V.int ++ [V.int ((p ^ t : Nat) : Int)] = (ofN (ps' ++ [p ^ t])).map V.int := by simp [ofN]
            rw [e4]
            refine ⟨by unfold CMul; omega, hN3 _ _ _ (by omega) ⟨t + 1, ps' ++ [p ^ t], _, rfl, rfl, by omega, .inr (by rw [Nat.add_sub_cancel]; exact hle), sm_new s3 hf, upd_same, (upd_ne (Ne.symm nfl)).trans hL3, by rw [List.length_append]; simp; omega, fun x => ?_⟩⟩
            rw [List.mem_append, hmem3 x, List.mem_singleton]
            constructor
            · rintro ((y | ⟨k, k1, k2, k3⟩) | y)
              · exact .inl y
              · exact .inr ⟨k, k1, by omega, k3⟩
              · exact .inr ⟨t, ht1, by omega, y⟩
            · rintro (y | ⟨k, k1, k2, k3⟩)
              · exact .inl (.inl y)
              · rcases (by omega : k < t ∨ k = t) with c | c
                · exact .inl (.inr ⟨k, k1, c, k3⟩)
                · exact .inr (c ▸ k3)
          · refine hN _ _ ⟨_, _, _, g', ps', rfl, s3, hF3, hL3, by omega, fun x => ?_, hfr⟩
            rw [hmem3 x, hP x]
            constructor
            · rintro (⟨r, k, h1, h2, h3⟩ | ⟨k, k1, k2, k3⟩)
              · exact ⟨r, k, h1, by omega, h3⟩
              · refine ⟨p, k, hpr, by omega, k1, k3, ?_⟩
                rw [k3]
                rcases htp with c | c
                · omega
                · exact Nat.le_trans (Nat.pow_le_pow_right (by omega) (by omega)) c
            · rintro ⟨r, k, h1, h2, h3, h4, h5⟩
              rcases (by omega : r < 2 + i ∨ r = p) with c | c
              · exact .inl ⟨r, k, h1, c, h3, h4, h5⟩
              · subst c
                refine .inr ⟨k, h3, Nat.lt_of_not_le fun y => ?_, h4⟩
                have : r ^ t ≤ r ^ k := Nat.pow_le_pow_right (by omega) y
                omega
      · have hgf : g (2 + i) = false := by
          cases c : g (2 + i) with
          | false => rfl
          | true => exact absurd (free_prime.mp ((hg _ (by omega) him).mp c)) hpr
        rw [hgf]
        walk_at "w"
        refine hN _ _ ⟨_, _, _, g, ps, rfl, s1, hF, hL, by omega, fun x => ?_, fun j h1 h2 => by rw [hg j h1 h2, free_same hpr]⟩
        rw [hP x]
        constructor
        · rintro ⟨p, k, h1, h2, h3⟩
          exact ⟨p, k, h1, by omega, h3⟩
        · rintro ⟨p, k, h1, h2, h3⟩
          refine ⟨p, k, h1, ?_, h3⟩
          rcases (by omega : p < 2 + i ∨ p = 2 + i) with c | c
          · exact c
          · exact absurd (c ▸ h1) hpr
    · rintro σ H1 ⟨v3, v4, v5, g, ps, rfl, s1, hF, hL, hlen, hP, hg⟩
      walk_at "w"
      refine q f ps _ hf s1 (by omega) (fun x => ?_) hF
      rw [hP x]
      constructor
      · rintro ⟨p, k, h1, h2, h3⟩
        exact ⟨p, k, h1, h3⟩
      · rintro ⟨p, k, h1, h2, h3, h4⟩
        refine ⟨p, k, h1, ?_, h2, h3, h4⟩
        have : p ≤ p ^ k := Nat.le_self_pow (by omega) p
        omega
end
abbrev s_can_be : Stmt := top 8
theorem sc_can_be : FnScope ["number", "exponent", "most", "divisor"] ["number", "exponent", "most"] (defScope s_can_be) := ⟨rfl, rfl, rfl, by decide +kernel, rfl, by decide +kernel, by decide +kernel⟩
def sp_can_be (K : PySem.W.Frag) : Sp := fun vs H Q _ => ∃ (n e m : Nat), vs = [.int (n : Int), .int (e : Int), .int (m : Int)] ∧ n < 2 ^ 200 ∧ e ≤ 256 ∧ m ≤ 200 ∧ ∀ (b : Bool) (H' : Hp), Same H H' → (b = true ↔ n ≠ 0 ∧ CanBe n e m) → Q (.bl b) H'
theorem inV_ints (r : Int) : ∀ ms : List Int, inV (.int r) (ms.map V.int) = decide (r ∈ ms)
  | [] => rfl
  | x :: ms => by
    have ih := inV_ints r ms
    unfold inV at ih ⊢
    rw [List.map_cons, List.any_cons, ih]
    by_cases c : x = r
    · subst c
      simp [eqV]
    · have : ¬ r = x := fun z => c z.symm
      simp [eqV, c, this]
theorem flat_ints (ms : List Int) : (ms.map V.int).all flatV = true := by
  rw [List.all_eq_true]
  intro x hx
  obtain ⟨y, _, rfl⟩ := List.mem_map.mp hx
  rfl
theorem rest_mem {n e d : Nat} {ms : List Int} (hd : 1 ≤ d) (hm : ∀ k, k ∈ ms ↔ ∃ b : Nat, b < d ∧ k = ((b ^ e % d : Nat) : Int)) : ((n % d : Nat) : Int) ∈ ms ↔ ∃ b, b ^ e % d = n % d := by
  rw [hm]
  constructor
  · rintro ⟨b, _, h⟩
    exact ⟨b, by omega⟩
  · rintro ⟨b, h⟩
    refine ⟨b % d, Nat.mod_lt _ (by omega), ?_⟩
    rw [pow_mod_eq (a := b % d) (b := b) (Nat.mod_mod _ _), h]
section
variable {P : Program} {w : World} {K : PySem.W.Frag} {mg : PySem.Str → Option Value} {base : Heap}
theorem bi_can_be {f : Addr} {fd : FuncData} (F : Fun K "can_be" "can_be" s_can_be f fd) : Binds K fd ["number", "exponent", "most"] [] := F.binds (ps := ["number", "exponent", "most"]) fun _ _ _ _ _ _ us hl => match us, hl with | [_, _, _], _ => rfl
set_option maxHeartbeats 4000000 in
theorem ok_can_be {f : Addr} {fd : FuncData} (F : Fun K "can_be" "can_be" s_can_be f fd) (B : Bt mg) (h_prime_powers_to : Fn P w K mg base CX0 1 "prime_powers_to" ["most"] (sp_prime_powers_to K)) (h_rests_of : Fn P w K mg base CX0 2 "rests_of" ["divisor", "exponent"] (sp_rests_of K)) : FnOk P w K mg base CX0 3 f fd ["number", "exponent", "most"] (sp_can_be K) := by
  refine F.ok sc_can_be (fun vs H Q E h => ?_) (fun cdv A outer s H vs Q E hr h => ?_)
  · obtain ⟨n, e, m, rfl, hn, he, hm, q⟩ := h
    rfl
  · obtain ⟨n, e, m, rfl, hn, he, hm, q⟩ := h
    refine ⟨_, (pss_cons (ps_if (pt_cmpR op_eq (pv 0) pe_int (nomark _))
        (pss_one (ps_ret pe_bl))
        pss_nil)
      (pss_cons (ps_for PassesOwn.never rfl (pi_list (pe_fn h_prime_powers_to (hr.mono (by decide)) (by rfl) (pa_cons (pv 2) pa_nil))) (pg_name (i := 3) sc_can_be.nd rfl (Or.inl rfl))
        (pss_one (ps_if (pt_cmpR (k_notIn K) (pe_op op_mod (pv 0) (pv 3)) (pe_fn h_rests_of (hr.mono (by decide)) (by rfl) (pa_cons (pv 3) (pa_cons (pv 1) pa_nil))) (by rfl))
          (pss_one (ps_ret pe_bl))
          pss_nil)))
      (pss_one (ps_ret pe_bl)))), ?_⟩
    walk_at "w"
    refine ite2 (fun h0 => ?_) (fun h0 => ?_)
    · refine q false _ (Same.refl _) ⟨fun z => by simp at z, fun z => absurd (show n = 0 by omega) z.1⟩
    · have hn0 : n ≠ 0 := by omega
      refine ⟨m, rfl, hm, fun f ps H1 hf s1 hlen hP hF => ?_⟩
      walk_at "w"
      refine ⟨⟨_, SqL.of hF⟩, for_l (xs := (ofN ps).map V.int) (fun i σ H' => ∃ (v3 : Option V), σ = [some (.int (n : Int)), some (.int (e : Int)), some (.int (m : Int)), v3] ∧ Same H H' ∧ H' f = some (.lst ((ofN ps).map V.int)) ∧ ∀ j x, j < i → ps[j]? = some x → ∃ b, b ^ e % x = n % x) ⟨_, rfl, s1, hF, fun j x h => by omega⟩ ?_ ?_ ?_⟩
      · rintro i σ H2 _ ⟨v3, _, _, h, _⟩
        exact SqL.of h
      · rintro i x σ H2 hx ⟨v3, rfl, s2, hF2, hA⟩ N hN
        obtain ⟨y, hy, rfl⟩ : ∃ y, ps[i]? = some y ∧ x = V.int (y : Int) := by
          rw [ofN, List.map_map, List.getElem?_map] at hx
          cases c : ps[i]? with
          | none => simp [c] at hx
          | some y =>
            simp [c] at hx
            exact ⟨y, rfl, hx.symm⟩
        obtain ⟨p, k, hp, hk, ey, hle⟩ := (hP y).mp (List.mem_of_getElem? hy)
        have hy2 : 2 ≤ y := by
          rw [ey]
          exact Nat.le_trans hp.1 (Nat.le_self_pow (by omega) p)
        have em : (n : Int) % (y : Int) = ((n % y : Nat) : Int) := (Int.natCast_emod n y).symm
        walk_at "w"
        rw [em]
        refine ⟨by omega, y, e, rfl, by omega, by omega, he, fun p3 ms H3 hp3 s3 so3 hl3 me3 hT3 => ?_⟩
        refine ⟨p3, _, rfl, .inr (SqT.of hT3), rfl, flat_ints ms, ?_⟩
        rw [inV_ints]
        have hrm := rest_mem (n := n) (e := e) (d := y) (by omega) me3
        by_cases c : ∃ b, b ^ e % y = n % y
        · have hd : decide (((n % y : Nat) : Int) ∈ ms) = true := by simpa using hrm.mpr c
          rw [hd]
          refine ⟨_, rfl, ?_⟩
          walk_at "w"
          refine hN _ _ ⟨_, rfl, s2.trans s3, s3 _ _ hF2, fun j x h1 h2 => ?_⟩
          rcases (by omega : j < i ∨ j = i) with d | d
          · exact hA j x d h2
          · subst d
            rw [hy] at h2
            cases h2
            exact c
        · have hd : decide (((n % y : Nat) : Int) ∈ ms) = false := by
            rw [decide_eq_false_iff_not]
            exact fun z => c (hrm.mp z)
          rw [hd]
          refine ⟨_, rfl, ?_⟩
          walk_at "w"
          refine q false _ (s2.trans s3) ⟨fun z => by simp at z, fun z => absurd (z.2 y hy2 hle) c⟩
      · rintro σ H2 ⟨v3, rfl, s2, hF2, hA⟩
        walk_at "w"
        refine q true _ s2 ⟨fun _ => ⟨hn0, canBe_iff.mpr fun p k h1 h2 h3 => ?_⟩, fun _ => rfl⟩
        have hin := (hP (p ^ k)).mpr ⟨p, k, h1, h2, rfl, h3⟩
        obtain ⟨j, hj⟩ := List.mem_iff_getElem?.mp hin
        have hjl : j < ((ofN ps).map V.int).length := by
          have := (List.getElem?_eq_some_iff.mp hj).1
          simpa [ofN] using this
        exact hA j (p ^ k) hjl hj
end
abbrev s_count_by : Stmt := top 10
theorem sc_count_by : FnScope ["number", "exponent"] ["number", "exponent"] (defScope s_count_by) := ⟨rfl, rfl, rfl, by decide +kernel, rfl, by decide +kernel, by decide +kernel⟩
def sp_count_by (K : PySem.W.Frag) : Sp := fun vs H Q _ => ∃ (n e c : Nat), vs = [.int (n : Int), .int (e : Int)] ∧ 1 ≤ e ∧ e ≤ 256 ∧ n < 2 ^ c ∧ c ≤ 8000 ∧ ∀ H', Same H H' → Q (.int (rootN n e : Nat)) H'
section
variable {P : Program} {w : World} {K : PySem.W.Frag} {mg : PySem.Str → Option Value} {base : Heap}
theorem bi_count_by {f : Addr} {fd : FuncData} (F : Fun K "count_by" "count_by" s_count_by f fd) : Binds K fd ["number", "exponent"] [] := F.binds (ps := ["number", "exponent"]) fun _ _ _ _ _ _ us hl => match us, hl with | [_, _], _ => rfl
set_option maxHeartbeats 4000000 in
theorem ok_count_by {f : Addr} {fd : FuncData} (F : Fun K "count_by" "count_by" s_count_by f fd) (B : Bt mg) (h_floor_root : Fn P w K mg base CX0 10 "floor_root" ["number", "exponent"] (sp_floor_root K)) : FnOk P w K mg base CX0 11 f fd ["number", "exponent"] (sp_count_by K) := by
  refine F.ok sc_count_by (fun vs H Q E h => ?_) (fun cdv A outer s H vs Q E hr h => ?_)
  · obtain ⟨n, e, c, rfl, he, he2, hn, hc, q⟩ := h
    rfl
  · obtain ⟨n, e, c, rfl, he, he2, hn, hc, q⟩ := h
    refine ⟨_, (pss_one (ps_ret (pe_fn h_floor_root (hr.mono (by decide)) (by rfl) (pa_cons (pv 0) (pa_cons (pv 1) pa_nil))))), ?_⟩
    walk_at "w"
    exact ⟨n, e, c, rfl, he, he2, hn, hc, q⟩
end
abbrev s__law_folded : Stmt := top 12
theorem sc__law_folded : FnScope ["script", "found", "cell"] ["script"] (defScope s__law_folded) := ⟨rfl, rfl, rfl, by decide +kernel, rfl, by decide +kernel, by decide +kernel⟩
def sp__law_folded (K : PySem.W.Frag) : Sp := fun vs H Q _ => ∃ (a : Addr) (ns : List Int), vs = [.ref a] ∧ SqL K H a (ns.map V.int) ∧ ∀ r : Int, 0 ≤ r → Q (.int r) H
section
variable {P : Program} {w : World} {K : PySem.W.Frag} {mg : PySem.Str → Option Value} {base : Heap}
theorem bi__law_folded {f : Addr} {fd : FuncData} (F : Fun K "_law_folded" "_law_folded" s__law_folded f fd) : Binds K fd ["script"] [] := F.binds (ps := ["script"]) fun _ _ _ _ _ _ us hl => match us, hl with | [_], _ => rfl
set_option maxHeartbeats 4000000 in
theorem ok__law_folded {f : Addr} {fd : FuncData} (F : Fun K "_law_folded" "_law_folded" s__law_folded f fd) (B : Bt mg)  : FnOk P w K mg base CX0 1 f fd ["script"] (sp__law_folded K) := by
  refine F.ok sc__law_folded (fun vs H Q E h => ?_) (fun cdv A outer s H vs Q E hr h => ?_)
  · obtain ⟨a, ns, rfl, hS, q⟩ := h
    rfl
  · obtain ⟨a, ns, rfl, hS, q⟩ := h
    refine ⟨_, (pss_cons (ps_set (i := 1) sc__law_folded.nd rfl (Or.inl rfl) (pe_callB (k_len K) (by rfl) B.len (by decide +kernel) (pa_cons (pv 0) pa_nil)))
      (pss_cons (ps_for PassesOwn.never rfl (pi_list (pv 0)) (pg_name (i := 2) sc__law_folded.nd rfl (Or.inl rfl))
        (pss_one (ps_set (i := 1) sc__law_folded.nd rfl (Or.inl rfl) (pe_op op_mod (pe_op op_add (pe_op op_mul (pv 1) pe_int) (pe_op op_mod (pv 2) pe_int)) pe_int))))
      (pss_one (ps_ret (pv 1))))), ?_⟩
    walk_at "w"
    refine r_len hS ?_
    walk_at "w"
    refine ⟨⟨_, hS⟩, for_l (fun i σ H' => ∃ (f : Int) (v : Option V), σ = [some (.ref a), some (.int f), v] ∧ H' = H ∧ 0 ≤ f) ⟨_, none, rfl, rfl, by omega⟩ (fun i σ H' _ ⟨f, v, _, h, _⟩ => by subst h; exact hS) ?_ ?_⟩
    · rintro i x σ H' hx ⟨f, v, rfl, rfl, h0⟩ N hN
      obtain ⟨n, rfl⟩ : ∃ n, x = V.int n := by
        rw [List.getElem?_map] at hx
        cases h : ns[i]? with
        | none => simp [h] at hx
        | some n => simp [h] at hx; exact ⟨n, hx.symm⟩
      walk_at "w"
      refine ⟨by unfold CMul; omega, by omega, by omega, hN _ _ ⟨_, _, rfl, rfl, Int.emod_nonneg _ (by omega)⟩⟩
    · rintro σ H' ⟨f, v, rfl, rfl, h0⟩
      walk_at "w"
      exact q _ h0
end
abbrev s__law_seed : Stmt := top 13
theorem sc__law_seed : FnScope ["cell", "number"] ["cell"] (defScope s__law_seed) := ⟨rfl, rfl, rfl, by decide +kernel, rfl, by decide +kernel, by decide +kernel⟩
def sp__law_seed (K : PySem.W.Frag) : Sp := fun vs H Q _ => ∃ (c : Int), vs = [.int c] ∧ ∀ (p : Addr) (H' : Hp), H p = none → Same H H' → Sd H' p → Q (.ref p) H'
section
variable {P : Program} {w : World} {K : PySem.W.Frag} {mg : PySem.Str → Option Value} {base : Heap}
theorem bi__law_seed {f : Addr} {fd : FuncData} (F : Fun K "_law_seed" "_law_seed" s__law_seed f fd) : Binds K fd ["cell"] [] := F.binds (ps := ["cell"]) fun _ _ _ _ _ _ us hl => match us, hl with | [_], _ => rfl
set_option maxHeartbeats 4000000 in
theorem ok__law_seed {f : Addr} {fd : FuncData} (F : Fun K "_law_seed" "_law_seed" s__law_seed f fd) (B : Bt mg)  : FnOk P w K mg base CX0 1 f fd ["cell"] (sp__law_seed K) := by
  refine F.ok sc__law_seed (fun vs H Q E h => ?_) (fun cdv A outer s H vs Q E hr h => ?_)
  · obtain ⟨c, rfl, q⟩ := h
    rfl
  · obtain ⟨c, rfl, q⟩ := h
    refine ⟨_, (pss_cons (ps_set (i := 1) sc__law_seed.nd rfl (Or.inl rfl) (pe_callB (call_max2 rfl) (by rfl) B.max (by decide +kernel) (pa_cons (pv 0) (pa_cons (pe_op op_sub pe_int (pv 0)) pa_nil))))
      (pss_one (ps_ret (pe_lst (pa_cons (pv 1) (pa_cons (pe_callTy call_int1 (by rfl) B.int (by decide +kernel) (pa_cons (pe_cmpR op_ge (pv 1) (pe_op op_pow pe_int pe_int) (nomark _)) pa_nil)) (pa_cons pe_int (pa_cons (pe_op op_mod (pv 0) pe_int) pa_nil)))))))), ?_⟩
    walk_at "w"
    refine ⟨by unfold CPow; omega, by omega, by show 4 ≤ sizeLine; decide, fun p hp => q p _ hp (same_new hp) ⟨_, _, _, _, upd_same⟩⟩
end
abbrev s__law_draw : Stmt := top 14
theorem sc__law_draw : FnScope ["seed", "most", "found", "number"] ["seed", "most"] (defScope s__law_draw) := ⟨rfl, rfl, rfl, by decide +kernel, rfl, by decide +kernel, by decide +kernel⟩
def sp__law_draw (K : PySem.W.Frag) : Sp := fun vs H Q _ => ∃ (a : Addr) (m : Int), vs = [.ref a, .int m] ∧ Sd H a ∧ 1 ≤ m ∧ m < 2 ^ 200 ∧ ∀ (r : Int) (H' : Hp), Kp a H H' → Sd H' a → 0 ≤ r → r < m → Q (.int r) H'
theorem use_draw {K : PySem.W.Frag} {a : Addr} {m : Int} {H H0 : Hp} {Q : VK} {E : XK} (k : Kp a H0 H) (d : Sd H a) (h1 : 1 ≤ m) (h2 : m < 2 ^ 200)
    (q : ∀ (r : Int) (H' : Hp), Kp a H H' → Kp a H0 H' → Sd H' a → 0 ≤ r → r < m → Q (.int r) H') : sp__law_draw K [.ref a, .int m] H Q E :=
  ⟨a, m, rfl, d, h1, h2, fun r H' k' d' => q r H' k' (k.trans k') d'⟩
theorem use_pick {K : PySem.W.Frag} {a p : Addr} {m : Int} {xs : List V} {H H0 : Hp} {Q : VK} {E : XK} (P : V → Prop) (hP : ∀ x ∈ xs, P x) (k : Kp a H0 H) (d : Sd H a) (hp : H p = none) (hm : (xs.length : Int) = m) (h1 : 1 ≤ m) (h2 : m < 2 ^ 200)
    (q : ∀ (v : V) (H' : Hp), P v → Kp a H H' → Kp a H0 H' → Sd H' a → Q v H') : sp__law_draw K [.ref a, .int m] (upd H p (.lst xs)) (fun y H2 => rIxL K (.ref p) y H2 Q) E := by
  have np := d.ne hp
  refine use_draw (K := K) (k.trans (sm_kp (same_new hp))) (d.same (same_new hp)) h1 h2 fun r H' k' K' d' r0 r1 => ?_
  obtain ⟨v, hv, hat⟩ := atI_mem (xs := xs) r0 (by omega)
  exact r_ixL (SqL.of (k' _ _ np upd_same)) hat (q v H' (hP v hv) ((sm_kp (same_new hp)).trans k') K' d')
section
variable {P : Program} {w : World} {K : PySem.W.Frag} {mg : PySem.Str → Option Value} {base : Heap}
theorem bi__law_draw {f : Addr} {fd : FuncData} (F : Fun K "_law_draw" "_law_draw" s__law_draw f fd) : Binds K fd ["seed", "most"] [] := F.binds (ps := ["seed", "most"]) fun _ _ _ _ _ _ us hl => match us, hl with | [_, _], _ => rfl
set_option maxHeartbeats 4000000 in
theorem ok__law_draw {f : Addr} {fd : FuncData} (F : Fun K "_law_draw" "_law_draw" s__law_draw f fd) (B : Bt mg)  : FnOk P w K mg base CX0 1 f fd ["seed", "most"] (sp__law_draw K) := by
  refine F.ok sc__law_draw (fun vs H Q E h => ?_) (fun cdv A outer s H vs Q E hr h => ?_)
  · obtain ⟨a, m, rfl, hD, hm, hm2, q⟩ := h
    rfl
  · obtain ⟨a, m, rfl, hD, hm, hm2, q⟩ := h
    refine ⟨_, (pss_cons (ps_asg (pe_op op_add (pe_ix (k_ixL K) (pv 0) pe_int (fun _ _ => rfl)) pe_int) (pg_sub (pv 0) pe_int set_list))
      (pss_cons (ps_if (PW.pt (pw_and (pt_cmpR op_eq (pe_ix (k_ixL K) (pv 0) pe_int (fun _ _ => rfl)) pe_int (nomark _)) (pw_and1 (pt_cmpR op_gt (pe_ix (k_ixL K) (pv 0) pe_int (fun _ _ => rfl)) pe_int (nomark _)))))
        (pss_cons (ps_set (i := 2) sc__law_draw.nd rfl (Or.inl rfl) (pe_op op_mod (pe_ix (k_ixL K) (pv 0) pe_int (fun _ _ => rfl)) (pv 1)))
        (pss_cons (ps_asg (pe_op op_fdivW (pe_ix (k_ixL K) (pv 0) pe_int (fun _ _ => rfl)) (pv 1)) (pg_sub (pv 0) pe_int set_list))
        (pss_one (ps_ret (pv 2)))))
        pss_nil)
      (pss_cons (ps_set (i := 3) sc__law_draw.nd rfl (Or.inl rfl) (pe_op op_mod (pe_op op_mul (pe_op op_add (pe_op op_add (pe_ix (k_ixL K) (pv 0) pe_int (fun _ _ => rfl)) (pe_op op_mul pe_int (pe_ix (k_ixL K) (pv 0) pe_int (fun _ _ => rfl)))) pe_int) pe_int) pe_int))
      (pss_cons (ps_set (i := 3) sc__law_draw.nd rfl (Or.inl rfl) (pe_op op_mod (pe_op op_mul (pe_op op_mod (pe_op op_mulW (pv 3) (pv 3)) pe_int) pe_int) pe_int))
      (pss_one (ps_ret (pe_op op_mod (pe_op op_fdiv (pv 3) pe_int) (pv 1)))))))), ?_⟩
    obtain ⟨x, f, c, s, h1⟩ := hD
    have hk : ∀ o, Kp a H (upd H a o) := fun o => (Kp.refl a H).upd
    have q2 : ∀ (z x' f' c' s' : Int), Q (.int (z % m)) (upd H a (.lst [.int x', .int f', .int c', .int s'])) := fun z x' f' c' s' => q _ _ (hk _) ⟨_, _, _, _, upd_same⟩ (Int.emod_nonneg _ (by omega)) (Int.emod_lt_of_pos _ (by omega))
    have hdv : ∀ z : Int, CDivW z m := fun z => wide_div (b := 200) (by omega) (by omega) (by decide) (by decide)
    have rest : ∀ (s c : Int), CMul (s + 6997 * c + 11) 48271 := fun _ _ => by unfold CMul; omega
    walk_at "w"
    walk_at "ix"
    walk_at "st"
    walk_at "ix"
    refine ite2 (fun hf => ?_) (fun hf => ?_)
    · walk_at "ix"
      refine ite2 (fun hx => ?_) (fun hx => ?_)
      · walk_at "ix"
        refine ⟨by omega, ?_⟩
        walk_at "ix"
        refine ⟨hdv _, ?_⟩
        walk_at "st"
        rw [upd_upd]
        exact q2 _ _ _ _ _
      · walk_at "ix"
        walk_at "ix"
        generalize hz : (s + 6997 * (c + 1) + 11) * 48271 % 2147483647 = z
        have hz1 : 0 ≤ z ∧ z < 2147483647 := by omega
        generalize hy : z * z % 2147483629 = y
        have hy1 : 0 ≤ y ∧ y < 2147483629 := by omega
        refine ⟨by unfold CMul; omega, by unfold CMul; omega, by omega, wide_mul (a := 64) (b := 64) (by omega) (by omega) (by decide) (by decide) (by decide), by omega, by unfold CMul; omega, by omega, by unfold CDiv; omega, by omega, q2 _ _ _ _ _⟩
    · walk_at "ix"
      walk_at "ix"
      generalize hz : (s + 6997 * (c + 1) + 11) * 48271 % 2147483647 = z
      have hz1 : 0 ≤ z ∧ z < 2147483647 := by omega
      generalize hy : z * z % 2147483629 = y
      have hy1 : 0 ≤ y ∧ y < 2147483629 := by omega
      refine ⟨by unfold CMul; omega, by unfold CMul; omega, by omega, wide_mul (a := 64) (b := 64) (by omega) (by omega) (by decide) (by decide) (by decide), by omega, by unfold CMul; omega, by omega, by unfold CDiv; omega, by omega, q2 _ _ _ _ _⟩
end
abbrev s__law_power : Stmt := top 15
theorem sc__law_power : FnScope ["base", "exponent", "found", "turn"] ["base", "exponent"] (defScope s__law_power) := ⟨rfl, rfl, rfl, by decide +kernel, rfl, by decide +kernel, by decide +kernel⟩
def sp__law_power (K : PySem.W.Frag) : Sp := fun vs H Q _ => ∃ (b e a : Nat), vs = [.int (b : Int), .int (e : Int)] ∧ b < 2 ^ a ∧ e ≤ 1000000 ∧ a * e ≤ 300000 ∧ Q (.int ((b ^ e : Nat) : Int)) H
section
variable {P : Program} {w : World} {K : PySem.W.Frag} {mg : PySem.Str → Option Value} {base : Heap}
theorem bi__law_power {f : Addr} {fd : FuncData} (F : Fun K "_law_power" "_law_power" s__law_power f fd) : Binds K fd ["base", "exponent"] [] := F.binds (ps := ["base", "exponent"]) fun _ _ _ _ _ _ us hl => match us, hl with | [_, _], _ => rfl
set_option maxHeartbeats 4000000 in
theorem ok__law_power {f : Addr} {fd : FuncData} (F : Fun K "_law_power" "_law_power" s__law_power f fd) (B : Bt mg)  : FnOk P w K mg base CX0 1 f fd ["base", "exponent"] (sp__law_power K) := by
  refine F.ok sc__law_power (fun vs H Q E h => ?_) (fun cdv A outer s H vs Q E hr h => ?_)
  · obtain ⟨b, e, a, rfl, hb, he, ha, q⟩ := h
    rfl
  · obtain ⟨b, e, a, rfl, hb, he, ha, q⟩ := h
    refine ⟨_, (pss_cons (ps_set (i := 2) sc__law_power.nd rfl (Or.inl rfl) pe_int)
      (pss_cons (ps_for PassesOwn.never rfl (pi_range1 rfl B.range (pa_cons (pv 1) pa_nil)) (pg_name (i := 3) sc__law_power.nd rfl (Or.inl rfl))
        (pss_one (ps_set (i := 2) sc__law_power.nd rfl (Or.inl rfl) (pe_op op_mulW (pv 2) (pv 0)))))
      (pss_one (ps_ret (pv 2))))), ?_⟩
    walk_at "w"
    refine ⟨by omega, by omega, for_r (fun i σ H' => ∃ (v : Option V), σ = [some (.int b), some (.int e), some (.int ((b ^ i : Nat) : Int)), v] ∧ H' = H) ⟨none, by simp, rfl⟩ ?_ ?_⟩
    · rintro i σ H' hi ⟨v, rfl, rfl⟩ N hN
      have hi : i < e := by omega
      have h1 : b ^ i ≤ 2 ^ (a * e) := by
        rw [Nat.pow_mul]
        refine Nat.le_trans (Nat.pow_le_pow_left (Nat.le_of_lt hb) i) (Nat.pow_le_pow_right (Nat.two_pow_pos a) (by omega))
      have h2 : b ≤ 2 ^ (a * e) := Nat.le_trans (Nat.le_of_lt hb) (Nat.pow_le_pow_right (by decide) (Nat.le_mul_of_pos_right a (by omega)))
      have l1 := log2_le_of_le h1
      have l2 := log2_le_of_le h2
      walk_at "w"
      rw [show ((b ^ i : Nat) : Int) * (b : Int) = ((b ^ (i + 1) : Nat) : Int) by simp [Nat.pow_succ]]
      exact ⟨cmulN (by omega), hN _ _ ⟨_, rfl, rfl⟩⟩
    · rintro σ H' ⟨v, rfl, rfl⟩
      walk_at "w"
      exact q
end
abbrev s__law_root : Stmt := top 16
theorem sc__law_root : FnScope ["number", "exponent", "low", "high", "amid"] ["number", "exponent"] (defScope s__law_root) := ⟨rfl, rfl, rfl, by decide +kernel, rfl, by decide +kernel, by decide +kernel⟩
def sp__law_root (K : PySem.W.Frag) : Sp := fun vs H Q _ => ∃ (n e c : Nat), vs = [.int (n : Int), .int (e : Int)] ∧ 1 ≤ e ∧ n < 2 ^ c ∧ c + 2 * e ≤ 300000 ∧ Q (.int (rootN n e : Nat)) H
theorem rt_bits_half {j e n c : Nat} (h1 : (2 ^ j) ^ e ≤ n) (hn : n < 2 ^ c) : j * e < c := by
  rw [← Nat.pow_mul] at h1
  exact (Nat.pow_lt_pow_iff_right (by omega : 1 < 2)).mp (Nat.lt_of_le_of_lt h1 hn)
section
variable {P : Program} {w : World} {K : PySem.W.Frag} {mg : PySem.Str → Option Value} {base : Heap}
theorem bi__law_root {f : Addr} {fd : FuncData} (F : Fun K "_law_root" "_law_root" s__law_root f fd) : Binds K fd ["number", "exponent"] [] := F.binds (ps := ["number", "exponent"]) fun _ _ _ _ _ _ us hl => match us, hl with | [_, _], _ => rfl
set_option maxHeartbeats 4000000 in
theorem ok__law_root {f : Addr} {fd : FuncData} (F : Fun K "_law_root" "_law_root" s__law_root f fd) (B : Bt mg) (h__law_power : Fn P w K mg base CX0 1 "_law_power" ["base", "exponent"] (sp__law_power K)) : FnOk P w K mg base CX0 2 f fd ["number", "exponent"] (sp__law_root K) := by
  refine F.ok sc__law_root (fun vs H Q E h => ?_) (fun cdv A outer s H vs Q E hr h => ?_)
  · obtain ⟨n, e, c, rfl, he, hn, hc, q⟩ := h
    rfl
  · obtain ⟨n, e, c, rfl, he, hn, hc, q⟩ := h
    refine ⟨_, (pss_cons (ps_set (i := 2) sc__law_root.nd rfl (Or.inl rfl) pe_int)
      (pss_cons (ps_set (i := 3) sc__law_root.nd rfl (Or.inl rfl) pe_int)
      (pss_cons (ps_while PassesOwn.never (pt_cmpR op_le (pe_fn h__law_power (hr.mono (by decide)) (by rfl) (pa_cons (pv 3) (pa_cons (pv 1) pa_nil))) (pv 0) (nomark _))
        (pss_one (ps_set (i := 3) sc__law_root.nd rfl (Or.inl rfl) (pe_op op_mul pe_int (pv 3)))))
      (pss_cons (ps_while PassesOwn.never (pt_cmpR op_gt (pe_op op_sub (pv 3) (pv 2)) pe_int (nomark _))
        (pss_cons (ps_set (i := 4) sc__law_root.nd rfl (Or.inl rfl) (pe_op op_fdiv (pe_op op_add (pv 2) (pv 3)) pe_int))
        (pss_one (ps_if (pt_cmpR op_le (pe_fn h__law_power (hr.mono (by decide)) (by rfl) (pa_cons (pv 4) (pa_cons (pv 1) pa_nil))) (pv 0) (nomark _))
          (pss_one (ps_set (i := 2) sc__law_root.nd rfl (Or.inl rfl) (pv 4)))
          (pss_one (ps_set (i := 3) sc__law_root.nd rfl (Or.inl rfl) (pv 4)))))))
      (pss_one (ps_ret (pv 2))))))), ?_⟩
    walk_at "w"
    have key : ∀ j : Nat, (j = 0 ∨ (2 ^ (j - 1)) ^ e ≤ n) → (j + 1) * e ≤ c + 2 * e := by
      intro j hj
      rcases hj with rfl | hj
      · omega
      · rcases Nat.eq_zero_or_pos j with rfl | hp
        · omega
        · have := rt_bits_half hj hn
          have e1 : j + 1 = (j - 1) + 2 := by omega
          rw [e1, Nat.add_mul]
          omega
    refine while_m (fun m σ H' => ∃ j : Nat, σ = [some (.int n), some (.int e), some (.int 0), some (.int ((2 ^ j : Nat) : Int)), none] ∧ H' = H ∧ m = n + 1 - j ∧ j ≤ n + 1 ∧ (j = 0 ∨ (2 ^ (j - 1)) ^ e ≤ n)) (n + 1) ⟨0, by simp, rfl, rfl, by omega, .inl rfl⟩ ?_
    rintro m σ H' ⟨j, rfl, rfl, rfl, hjn, hj⟩ G hG
    walk_at "w"
    refine ⟨2 ^ j, e, j + 1, rfl, Nat.pow_lt_pow_right (by omega) (by omega), by omega, by have := key j hj; omega, ?_⟩
    walk_at "w"
    refine ite2 (fun ht => hG _ _ fun N hN => ?_) (fun ht => ?_)
    · have ht' : (2 ^ j) ^ e ≤ n := by omega
      have hjlt : j ≤ n := by
        have h2 : 2 ^ j ≤ (2 ^ j) ^ e := Nat.le_self_pow (by omega) _
        have h3 : j < 2 ^ j := Nat.lt_two_pow_self
        omega
      walk_at "w"
      refine ⟨by unfold CMul; omega, hN (n + 1 - (j + 1)) _ _ (by omega) ⟨j + 1, ?_, rfl, rfl, by omega, .inr (by simpa using ht')⟩⟩
      simp [Nat.pow_succ, Nat.mul_comm]
    · have ht' : n < (2 ^ j) ^ e := by omega
      refine while_m (fun m σ H2 => ∃ (lo hi : Nat) (b : Option V), σ = [some (.int n), some (.int e), some (.int lo), some (.int hi), b] ∧ H2 = H' ∧ hi - lo = m ∧ lo < hi ∧ hi ≤ 2 ^ j ∧ lo ^ e ≤ n ∧ n < hi ^ e) (2 ^ j) ⟨0, 2 ^ j, none, rfl, rfl, Nat.sub_zero _, Nat.two_pow_pos j, Nat.le_refl _, by rw [Nat.zero_pow (by omega)]; omega, ht'⟩ ?_
      rintro m σ H2 ⟨lo, hi, b, rfl, rfl, rfl, hlt, hle, h1, h2⟩ G hG
      have key2 := key j hj
      walk_at "w"
      refine ite2 (fun hw => hG _ _ fun N hN => ?_) (fun hw => ?_)
      · have e1 : ((lo : Int) + hi) / 2 = (((lo + hi) / 2 : Nat) : Int) := by omega
        have hpow : 2 ^ j < 2 ^ (j + 1) := Nat.pow_lt_pow_right (by omega) (by omega)
        walk_at "w"
        refine ⟨by unfold CDiv; omega, (lo + hi) / 2, e, j + 1, by rw [e1], by omega, by omega, by omega, ?_⟩
        walk_at "w"
        refine ite2 (fun hs => hN (hi - (lo + hi) / 2) _ _ (by omega) ⟨(lo + hi) / 2, hi, _, by rw [e1], rfl, rfl, by omega, hle, by omega, h2⟩)
          (fun hs => hN ((lo + hi) / 2 - lo) _ _ (by omega) ⟨lo, (lo + hi) / 2, _, by rw [e1], rfl, rfl, by omega, by omega, h1, by omega⟩)
      · have e2 : hi = lo + 1 := by omega
        subst e2
        walk_at "w"
        have := rootN_is he h1 h2
        rw [this]
        exact q
end
abbrev s__law_number : Stmt := top 17
theorem sc__law_number : FnScope ["seed", "way", "number", "turn", "exponent", "base"] ["seed"] (defScope s__law_number) := ⟨rfl, rfl, rfl, by decide +kernel, rfl, by decide +kernel, by decide +kernel⟩
def sp__law_number (K : PySem.W.Frag) : Sp := fun vs H Q _ => ∃ (a : Addr), vs = [.ref a] ∧ Sd H a ∧ ∀ (r : Nat) (H' : Hp), Kp a H H' → Sd H' a → r ≤ 10 ^ 40 → Q (.int (r : Int)) H'
theorem use_number {K : PySem.W.Frag} {a : Addr} {H H0 : Hp} {Q : VK} {E : XK} (k : Kp a H0 H) (d : Sd H a)
    (q : ∀ (r : Nat) (H' : Hp), Kp a H H' → Kp a H0 H' → Sd H' a → r ≤ 10 ^ 40 → Q (.int (r : Int)) H') : sp__law_number K [.ref a] H Q E :=
  ⟨a, rfl, d, fun r H' k' d' => q r H' k' (k.trans k') d'⟩
section
variable {P : Program} {w : World} {K : PySem.W.Frag} {mg : PySem.Str → Option Value} {base : Heap}
theorem bi__law_number {f : Addr} {fd : FuncData} (F : Fun K "_law_number" "_law_number" s__law_number f fd) : Binds K fd ["seed"] [] := F.binds (ps := ["seed"]) fun _ _ _ _ _ _ us hl => match us, hl with | [_], _ => rfl
set_option maxHeartbeats 4000000 in
theorem ok__law_number {f : Addr} {fd : FuncData} (F : Fun K "_law_number" "_law_number" s__law_number f fd) (B : Bt mg) (h__law_draw : Fn P w K mg base CX0 1 "_law_draw" ["seed", "most"] (sp__law_draw K)) (h__law_power : Fn P w K mg base CX0 1 "_law_power" ["base", "exponent"] (sp__law_power K)) (h__law_root : Fn P w K mg base CX0 2 "_law_root" ["number", "exponent"] (sp__law_root K)) : FnOk P w K mg base CX0 3 f fd ["seed"] (sp__law_number K) := by
  refine F.ok sc__law_number (fun vs H Q E h => ?_) (fun cdv A outer s H vs Q E hr h => ?_)
  · obtain ⟨a, rfl, hD, q⟩ := h
    rfl
  · obtain ⟨a, rfl, hD, q⟩ := h
    refine ⟨_, (pss_cons (ps_set (i := 1) sc__law_number.nd rfl (Or.inl rfl) (pe_fn h__law_draw (hr.mono (by decide)) (by rfl) (pa_cons (pv 0) (pa_cons pe_int pa_nil))))
      (pss_cons (ps_if (pt_cmpR op_eq (pv 1) pe_int (nomark _))
        (pss_one (ps_ret (pe_fn h__law_draw (hr.mono (by decide)) (by rfl) (pa_cons (pv 0) (pa_cons pe_int pa_nil)))))
        pss_nil)
      (pss_cons (ps_if (pt_cmpR op_eq (pv 1) pe_int (nomark _))
        (pss_one (ps_ret (pe_fn h__law_draw (hr.mono (by decide)) (by rfl) (pa_cons (pv 0) (pa_cons (pe_op op_pow pe_int pe_int) pa_nil)))))
        pss_nil)
      (pss_cons (ps_set (i := 2) sc__law_number.nd rfl (Or.inl rfl) pe_int)
      (pss_cons (ps_for PassesOwn.never rfl (pi_range1 rfl B.range (pa_cons (pe_op op_add pe_int (pe_fn h__law_draw (hr.mono (by decide)) (by rfl) (pa_cons (pv 0) (pa_cons pe_int pa_nil)))) pa_nil)) (pg_name (i := 3) sc__law_number.nd rfl (Or.inl rfl))
        (pss_one (ps_set (i := 2) sc__law_number.nd rfl (Or.inl rfl) (pe_op op_add (pe_op op_mulW (pv 2) (pe_op op_pow pe_int pe_int)) (pe_fn h__law_draw (hr.mono (by decide)) (by rfl) (pa_cons (pv 0) (pa_cons (pe_op op_pow pe_int pe_int) pa_nil)))))))
      (pss_cons (ps_if (pt_cmpR op_gt (pv 1) pe_int (nomark _))
        (pss_cons (ps_set (i := 4) sc__law_number.nd rfl (Or.inl rfl) (pe_op op_add pe_int (pe_fn h__law_draw (hr.mono (by decide)) (by rfl) (pa_cons (pv 0) (pa_cons (pe_ix (k_ixL K) (pe_lst (pa_cons pe_int (pa_cons pe_int (pa_cons pe_int pa_nil)))) (pe_fn h__law_draw (hr.mono (by decide)) (by rfl) (pa_cons (pv 0) (pa_cons pe_int pa_nil))) (fun _ _ => rfl)) pa_nil)))))
        (pss_cons (ps_set (i := 5) sc__law_number.nd rfl (Or.inl rfl) (pe_op op_add pe_int (pe_fn h__law_draw (hr.mono (by decide)) (by rfl) (pa_cons (pv 0) (pa_cons (pe_callB (call_max2 rfl) (by rfl) B.max (by decide +kernel) (pa_cons pe_int (pa_cons (pe_fn h__law_root (hr.mono (by decide)) (by rfl) (pa_cons (pe_op op_pow pe_int pe_int) (pa_cons (pv 4) pa_nil))) pa_nil))) pa_nil)))))
        (pss_cons (ps_set (i := 5) sc__law_number.nd rfl (Or.inl rfl) (pe_ix (k_ixL K) (pe_lst (pa_cons (pv 5) (pa_cons (pe_op op_add pe_int (pe_fn h__law_draw (hr.mono (by decide)) (by rfl) (pa_cons (pv 0) (pa_cons pe_int pa_nil)))) pa_nil))) (pe_fn h__law_draw (hr.mono (by decide)) (by rfl) (pa_cons (pv 0) (pa_cons pe_int pa_nil))) (fun _ _ => rfl)))
        (pss_cons (ps_set (i := 2) sc__law_number.nd rfl (Or.inl rfl) (pe_fn h__law_power (hr.mono (by decide)) (by rfl) (pa_cons (pv 5) (pa_cons (pv 4) pa_nil))))
        (pss_one (ps_set (i := 2) sc__law_number.nd rfl (Or.inl rfl) (pe_op op_add (pv 2) (pe_ix (k_ixL K) (pe_lst (pa_cons pe_int (pa_cons pe_int (pa_cons pe_int (pa_cons (pe_un un_neg pe_int) (pa_cons pe_int (pa_cons (pe_un un_neg pe_int) pa_nil))))))) (pe_fn h__law_draw (hr.mono (by decide)) (by rfl) (pa_cons (pv 0) (pa_cons pe_int pa_nil))) (fun _ _ => rfl)))))))))
        pss_nil)
      (pss_one (ps_ret (pe_callB (call_max2 rfl) (by rfl) B.max (by decide +kernel) (pa_cons pe_int (pa_cons (pe_callB (call_min2 rfl) (by rfl) B.min (by decide +kernel) (pa_cons (pv 2) (pa_cons (pe_op op_pow pe_int pe_int) pa_nil))) pa_nil))))))))))), ?_⟩
    have e40 : (10 : Int) ^ Int.toNat 40 = ((10 ^ 40 : Nat) : Int) := rfl
    have e6 : (10 : Int) ^ Int.toNat 6 = 1000000 := rfl
    have c40 : CPow 10 40 := by unfold CPow; omega
    have c6 : CPow 10 6 := by unfold CPow; omega
    -- the last row, from any number
    have fin : ∀ (z : Int) (H' : Hp), Kp a H H' → Sd H' a → Q (.int (if (if ((10 ^ 40 : Nat) : Int) < z then ((10 ^ 40 : Nat) : Int) else z) > 0 then (if ((10 ^ 40 : Nat) : Int) < z then ((10 ^ 40 : Nat) : Int) else z) else 0)) H' := by
      intro z H' k d
      have hb : ∃ r : Nat, (if (if ((10 ^ 40 : Nat) : Int) < z then ((10 ^ 40 : Nat) : Int) else z) > 0 then (if ((10 ^ 40 : Nat) : Int) < z then ((10 ^ 40 : Nat) : Int) else z) else 0) = (r : Int) ∧ r ≤ 10 ^ 40 := by
        generalize hT : 10 ^ 40 = T
        refine ⟨(if (if ((T : Nat) : Int) < z then ((T : Nat) : Int) else z) > 0 then (if ((T : Nat) : Int) < z then ((T : Nat) : Int) else z) else 0).toNat, ?_, ?_⟩
        · split <;> split at * <;> omega
        · split <;> split at * <;> omega
      obtain ⟨r, e, hr⟩ := hb
      rw [e]
      exact q r H' k d hr
    walk_at "w"
    refine use_draw (Kp.refl a H) hD (by omega) (by omega) fun w H1 k1 K1 d1 a1 b1 => ?_
    walk_at "w"
    refine ite2 (fun h => ?_) (fun h => ?_)
    · refine use_draw K1 d1 (by omega) (by omega) fun r H2 k2 K2 d2 a2 b2 => ?_
      obtain ⟨r, rfl⟩ := Int.eq_ofNat_of_zero_le a2
      exact q r _ K2 d2 (by omega)
    · refine ite2 (fun h => ?_) (fun h => ?_)
      · refine ⟨c6, use_draw K1 d1 (by omega) (by rw [e6]; decide) fun r H2 k2 K2 d2 a2 b2 => ?_⟩
        obtain ⟨r, rfl⟩ := Int.eq_ofNat_of_zero_le a2
        exact q r _ K2 d2 (by omega)
      · refine use_draw K1 d1 (by omega) (by omega) fun t H2 k2 K2 d2 a2 b2 => ?_
        walk_at "w"
        refine ⟨by omega, by omega, for_r (fun i σ H' => ∃ (z : Int) (v : Option V), σ = [some (.ref a), some (.int w), some (.int z), v, none, none] ∧ Kp a H H' ∧ Sd H' a ∧ 0 ≤ z ∧ z + 1 ≤ ((1000000 ^ i : Nat) : Int)) ⟨0, none, rfl, K2, d2, by omega, by decide⟩ ?_ ?_⟩
        · rintro i σ H' hi ⟨z, v, rfl, k, hd, h0, h1⟩ N hN
          have hb : 1000000 ^ i ≤ 1000000 ^ 8 := Nat.pow_le_pow_right (by decide) (by omega)
          have hb8 : 1000000 ^ 8 < 2 ^ 200 := by decide
          walk_at "w"
          rw [e6]
          refine ⟨c6, wide_mul (a := 200) (b := 200) (by omega) (by omega) (by decide) (by decide) (by decide), c6, use_draw k hd (by omega) (by omega) fun r H3 k3 K3 d3 r0 r1 => ?_⟩
          walk_at "w"
          refine hN _ _ ⟨z * 1000000 + r, _, rfl, K3, d3, by omega, ?_⟩
          rw [Nat.pow_succ]
          omega
        · rintro σ H' ⟨z, v, rfl, k, hd, h0, h1⟩
          walk_at "w"
          rw [e40]
          refine ite2 (fun h3 => ?_) (fun h3 => ?_)
          · refine ⟨by show 3 ≤ sizeLine; decide, fun p hp => ?_⟩
            have np := hd.ne hp
            refine use_draw (k.trans (sm_kp (same_new hp))) (hd.same (same_new hp)) (by omega) (by omega) fun r4 H4 k4 K4 d4 a4 b4 => ?_
            obtain ⟨v, hv, hat⟩ := atI_mem (xs := [.int 3, .int 6, .int 130]) a4 b4
            obtain ⟨e, rfl, g1, g2⟩ : ∃ e : Int, v = .int e ∧ 1 ≤ e ∧ e ≤ 130 := by
              simp only [List.mem_cons, List.not_mem_nil, or_false] at hv
              rcases hv with rfl | rfl | rfl <;> exact ⟨_, rfl, by omega, by omega⟩
            refine r_ixL (SqL.of (k4 _ _ np upd_same)) hat ?_
            refine use_draw K4 d4 (by omega) (by omega) fun r5 H5 k5 K5 d5 a5 b5 => ?_
            obtain ⟨r5, rfl⟩ := Int.eq_ofNat_of_zero_le a5
            walk_at "w"
            refine ⟨c40, 10 ^ 40, 2 + r5, 133, by simp, by omega, by decide, by omega, ?_⟩
            walk_at "w"
            have hr40 : rootN (10 ^ 40) (2 + r5) ≤ 10 ^ 40 := Nat.le_trans (Nat.le_self_pow (by omega) _) (rootN_le (n := 10 ^ 40) (e := 2 + r5) (by omega))
            have h133 : (10 : Nat) ^ 40 < 2 ^ 133 := by decide
            generalize hR : rootN (10 ^ 40) (2 + r5) = R at hr40 ⊢
            refine use_draw K5 d5 (by split <;> omega) (by split <;> omega) fun r6 H6 k6 K6 d6 a6 b6 => ?_
            have b6' : r6 ≤ 10 ^ 40 := by split at b6 <;> omega
            walk_at "w"
            refine use_draw K6 d6 (by omega) (by omega) fun r7 H7 k7 K7 d7 a7 b7 => ?_
            walk_at "w"
            refine ⟨by show 2 ≤ sizeLine; decide, fun p2 hp2 => ?_⟩
            have np2 := d7.ne hp2
            refine use_draw (K7.trans (sm_kp (same_new hp2))) (d7.same (same_new hp2)) (by omega) (by omega) fun r8 H8 k8 K8 d8 a8 b8 => ?_
            obtain ⟨v, hv, hat⟩ := atI_mem (xs := [.int (1 + r6), .int (1 + r7)]) a8 b8
            obtain ⟨b, rfl, g3⟩ : ∃ e : Nat, v = .int (e : Int) ∧ e < 2 ^ 134 := by
              simp only [List.mem_cons, List.not_mem_nil, or_false] at hv
              rcases hv with rfl | rfl
              · exact ⟨(1 + r6).toNat, by congr 1; omega, by omega⟩
              · exact ⟨(1 + r7).toNat, by congr 1; omega, by omega⟩
            refine r_ixL (SqL.of (k8 _ _ np2 upd_same)) hat ?_
            refine ⟨b, 2 + r5, 134, by simp, g3, by omega, by omega, ?_⟩
            walk_at "w"
            refine ⟨by show 6 ≤ sizeLine; decide, fun p3 hp3 => ?_⟩
            have np3 := d8.ne hp3
            refine use_draw (K8.trans (sm_kp (same_new hp3))) (d8.same (same_new hp3)) (by omega) (by omega) fun r9 H9 k9 K9 d9 a9 b9 => ?_
            obtain ⟨v, hv, hat⟩ := atI_mem (xs := [.int 0, .int 0, .int 1, .int (-1), .int 2, .int (-2)]) a9 b9
            obtain ⟨z, rfl⟩ : ∃ e : Int, v = .int e := by
              simp only [List.mem_cons, List.not_mem_nil, or_false] at hv
              rcases hv with rfl | rfl | rfl | rfl | rfl | rfl <;> exact ⟨_, rfl⟩
            refine r_ixL (SqL.of (k9 _ _ np3 upd_same)) hat ?_
            walk_at "w"
            exact ⟨c40, fin _ _ K9 d9⟩
          · exact ⟨c40, fin _ _ k hd⟩
end
abbrev s__law_rest : Stmt := top 18
theorem sc__law_rest : FnScope ["base", "exponent", "divisor", "found"] ["base", "exponent", "divisor"] (defScope s__law_rest) := ⟨rfl, rfl, rfl, by decide +kernel, rfl, by decide +kernel, by decide +kernel⟩
def sp__law_rest (K : PySem.W.Frag) : Sp := fun vs H Q _ => ∃ (b e d : Nat), vs = [.int (b : Int), .int (e : Int), .int (d : Int)] ∧ 1 ≤ d ∧ d < 2 ^ 64 ∧ b < 2 ^ 64 ∧ Q (.int ((b ^ e % d : Nat) : Int)) H
section
variable {P : Program} {w : World} {K : PySem.W.Frag} {mg : PySem.Str → Option Value} {base : Heap}
theorem bi__law_rest {f : Addr} {fd : FuncData} (F : Fun K "_law_rest" "_law_rest" s__law_rest f fd) : Binds K fd ["base", "exponent", "divisor"] [] := F.binds (ps := ["base", "exponent", "divisor"]) fun _ _ _ _ _ _ us hl => match us, hl with | [_, _, _], _ => rfl
set_option maxHeartbeats 4000000 in
theorem ok__law_rest {f : Addr} {fd : FuncData} (F : Fun K "_law_rest" "_law_rest" s__law_rest f fd) (B : Bt mg)  : FnOk P w K mg base CX0 1 f fd ["base", "exponent", "divisor"] (sp__law_rest K) := by
  refine F.ok sc__law_rest (fun vs H Q E h => ?_) (fun cdv A outer s H vs Q E hr h => ?_)
  · obtain ⟨b, e, d, rfl, hd, hd2, hb, q⟩ := h
    rfl
  · obtain ⟨b, e, d, rfl, hd, hd2, hb, q⟩ := h
    refine ⟨_, (pss_cons (ps_set (i := 3) sc__law_rest.nd rfl (Or.inl rfl) (pe_op op_mod pe_int (pv 2)))
      (pss_cons (ps_while PassesOwn.never (pt_cmpR op_gt (pv 1) pe_int (nomark _))
        (pss_cons (ps_if (pt_cmpR op_eq (pe_op op_mod (pv 1) pe_int) pe_int (nomark _))
          (pss_one (ps_set (i := 3) sc__law_rest.nd rfl (Or.inl rfl) (pe_op op_mod (pe_op op_mulW (pv 3) (pv 0)) (pv 2))))
          pss_nil)
        (pss_cons (ps_set (i := 0) sc__law_rest.nd rfl (Or.inl rfl) (pe_op op_mod (pe_op op_mulW (pv 0) (pv 0)) (pv 2)))
        (pss_one (ps_set (i := 1) sc__law_rest.nd rfl (Or.inl rfl) (pe_op op_fdiv (pv 1) pe_int))))))
      (pss_one (ps_ret (pv 3))))), ?_⟩
    have mod : ∀ x y : Nat, (x : Int) * (y : Int) % (d : Int) = ((x * y % d : Nat) : Int) := fun x y => by rw [← Int.natCast_mul, ← Int.natCast_emod]
    have cm : ∀ x y : Nat, x < 2 ^ 64 → y < 2 ^ 64 → CMulW (x : Int) (y : Int) := fun x y h1 h2 => wide_mul (a := 64) (b := 64) (by omega) (by omega) (by decide) (by decide) (by decide)
    have one : (1 : Int) % (d : Int) = ((1 % d : Nat) : Int) := by simp
    have lt : ∀ x : Nat, x % d < 2 ^ 64 := fun x => Nat.lt_trans (Nat.mod_lt x hd) hd2
    walk_at "w"
    rw [one]
    refine ⟨by omega, while_m (fun m σ H' => ∃ (f b' : Nat), σ = [some (.int b'), some (.int (m : Int)), some (.int d), some (.int f)] ∧ H' = H ∧ f < d ∧ b' < 2 ^ 64 ∧ f * b' ^ m % d = b ^ e % d) e ⟨1 % d, b, rfl, rfl, Nat.mod_lt _ hd, hb, by rw [Nat.mod_mul_mod, Nat.one_mul]⟩ ?_⟩
    rintro m σ H' ⟨f, b', rfl, rfl, hf, hb', h1⟩ G hG
    have m2 : (m : Int) / 2 = ((m / 2 : Nat) : Int) := by omega
    walk_at "w"
    refine ite2 (fun hc => hG _ _ fun N hN => ?_) (fun hc => ?_)
    · walk_at "w"
      rw [m2, mod, mod]
      refine ⟨by omega, ite2 (fun ho => ?_) (fun ho => ?_)⟩
      · refine ⟨cm _ _ (by omega) hb', by omega, cm _ _ hb' hb', by omega, by unfold CDiv; omega, hN (m / 2) _ _ (by omega) ⟨f * b' % d, b' * b' % d, rfl, rfl, Nat.mod_lt _ hd, lt _, rest_step1 h1 (by omega)⟩⟩
      · refine ⟨cm _ _ hb' hb', by omega, by unfold CDiv; omega, hN (m / 2) _ _ (by omega) ⟨f, b' * b' % d, rfl, rfl, hf, lt _, rest_step0 h1 (by omega)⟩⟩
    · have : m = 0 := by omega
      subst this
      walk_at "w"
      rw [Nat.pow_zero, Nat.mul_one, Nat.mod_eq_of_lt hf] at h1
      rw [h1]
      exact q
end
abbrev s__law_rests : Stmt := top 19
theorem sc__law_rests : FnScope ["divisor", "exponent", "found", "base"] ["divisor", "exponent"] (defScope s__law_rests) := ⟨rfl, rfl, rfl, by decide +kernel, rfl, by decide +kernel, by decide +kernel⟩
open Classical in
noncomputable def mkL (d e i : Nat) : List V := (List.range d).map fun k => V.int (if ∃ b, b < i ∧ b ^ e % d = k then 1 else 0)
theorem mk_start (d e : Nat) : (List.replicate (d : Int).toNat [V.int 0]).flatten = mkL d e 0 := by
  have h1 : (List.replicate (d : Int).toNat [V.int 0]).flatten = List.replicate d (V.int 0) := by
    rw [Int.toNat_natCast]
    induction d with
    | zero => rfl
    | succ m ih => rw [List.replicate_succ, List.flatten_cons, ih]; rfl
  rw [h1]
  unfold mkL
  refine List.ext_getElem? fun i => ?_
  rw [List.getElem?_replicate, List.getElem?_map]
  by_cases h : i < d
  · rw [if_pos h, List.getElem?_range h, Option.map_some, if_neg]
    rintro ⟨b, hb, _⟩
    omega
  · rw [if_neg h, List.getElem?_eq_none (by simp; omega)]
    rfl
theorem mk_set (d e i : Nat) (hd : 1 ≤ d) : (mkL d e i).set (i ^ e % d) (V.int 1) = mkL d e (i + 1) := by
  unfold mkL
  refine List.ext_getElem? fun j => ?_
  rw [List.getElem?_set]
  have hlt : i ^ e % d < d := Nat.mod_lt _ (by omega)
  by_cases h : i ^ e % d = j
  · subst h
    rw [if_pos rfl, if_pos (by simp; exact hlt), List.getElem?_map, List.getElem?_range hlt, Option.map_some, if_pos ⟨i, by omega, rfl⟩]
  · rw [if_neg h, List.getElem?_map, List.getElem?_map]
    by_cases hj : j < d
    · rw [List.getElem?_range hj, Option.map_some, Option.map_some]
      have : (∃ b, b < i ∧ b ^ e % d = j) ↔ ∃ b, b < i + 1 ∧ b ^ e % d = j := by
        constructor
        · rintro ⟨b, hb, z⟩
          exact ⟨b, by omega, z⟩
        · rintro ⟨b, hb, z⟩
          rcases (by omega : b < i ∨ b = i) with c | c
          · exact ⟨b, c, z⟩
          · subst c
            exact absurd z h
      by_cases c : ∃ b, b < i ∧ b ^ e % d = j
      · rw [if_pos c, if_pos (this.mp c)]
      · rw [if_neg c, if_neg fun z => c (this.mpr z)]
    · rw [List.getElem?_eq_none (by simp; omega)]
      rfl
theorem mk_len (d e i : Nat) : (mkL d e i).length = d := by simp [mkL]
open Classical in
theorem mk_at {d e i k : Nat} (hk : k < d) : (mkL d e i)[k]? = some (V.int (if ∃ b, b < i ∧ b ^ e % d = k then 1 else 0)) := by
  unfold mkL
  rw [List.getElem?_map, List.getElem?_range hk]
  rfl
open Classical in
noncomputable def sp__law_rests (K : PySem.W.Frag) : Sp := fun vs H Q _ => ∃ (d e : Nat), vs = [.int (d : Int), .int (e : Int)] ∧ 1 ≤ d ∧ d ≤ 1000 ∧ e ≤ 256 ∧ ∀ (p : Addr) (H' : Hp), H p = none → Same H H' → H' p = some (.lst (mkL d e d)) → Q (.ref p) H'
section
variable {P : Program} {w : World} {K : PySem.W.Frag} {mg : PySem.Str → Option Value} {base : Heap}
theorem bi__law_rests {f : Addr} {fd : FuncData} (F : Fun K "_law_rests" "_law_rests" s__law_rests f fd) : Binds K fd ["divisor", "exponent"] [] := F.binds (ps := ["divisor", "exponent"]) fun _ _ _ _ _ _ us hl => match us, hl with | [_, _], _ => rfl
set_option maxHeartbeats 4000000 in
theorem ok__law_rests {f : Addr} {fd : FuncData} (F : Fun K "_law_rests" "_law_rests" s__law_rests f fd) (B : Bt mg) (h__law_rest : Fn P w K mg base CX0 1 "_law_rest" ["base", "exponent", "divisor"] (sp__law_rest K)) : FnOk P w K mg base CX0 2 f fd ["divisor", "exponent"] (sp__law_rests K) := by
  refine F.ok sc__law_rests (fun vs H Q E h => ?_) (fun cdv A outer s H vs Q E hr h => ?_)
  · obtain ⟨d, e, rfl, hd1, hd, he, q⟩ := h
    rfl
  · obtain ⟨d, e, rfl, hd1, hd, he, q⟩ := h
    refine ⟨_, (pss_cons (ps_set (i := 2) sc__law_rests.nd rfl (Or.inl rfl) (pe_op op_rep (pe_lst (pa_cons pe_int pa_nil)) (pv 0)))
      (pss_cons (ps_for PassesOwn.never rfl (pi_range1 rfl B.range (pa_cons (pv 0) pa_nil)) (pg_name (i := 3) sc__law_rests.nd rfl (Or.inl rfl))
        (pss_one (ps_asg pe_int (pg_sub (pv 2) (pe_fn h__law_rest (hr.mono (by decide)) (by rfl) (pa_cons (pv 3) (pa_cons (pv 1) (pa_cons (pv 0) pa_nil)))) set_list))))
      (pss_one (ps_ret (pv 2))))), ?_⟩
    walk_at "w"
    refine ⟨by show 1 ≤ sizeLine; decide, fun p2 hp2 => ?_⟩
    refine ⟨p2, (d : Int), [V.int 0], rfl, rfl, upd_same, by omega, by omega, size_le' (by simp; omega), fun p hp => ?_⟩
    rw [mk_start d e]
    have hpH : H p = none := upd_free hp
    have s0 : Same H (upd (upd H p2 (.lst [V.int 0])) p (.lst (mkL d e 0))) := sm_new (same_new hp2) hpH
    have hk : ((d : Int)).toNat = d := by omega
    walk_at "w"
    rw [hk]
    refine ⟨by omega, by omega, for_r (fun i σ H' => ∃ (v3 : Option V), σ = [some (.int (d : Int)), some (.int (e : Int)), some (.ref p), v3] ∧ Same H H' ∧ H' p = some (.lst (mkL d e i))) ⟨_, rfl, s0, upd_same⟩ ?_ ?_⟩
    · rintro i σ H1 hi ⟨v3, rfl, s1, hL⟩ N hN
      have e0 : (0 : Int) + (i : Int) = (i : Int) := by omega
      walk_at "w"
      rw [e0]
      refine ⟨i, e, d, rfl, hd1, by omega, by omega, ?_⟩
      have hlt : i ^ e % d < d := Nat.mod_lt _ (by omega)
      refine r_setL hL (Evl.ixN_nat (j := i ^ e % d) (by rw [mk_len]; exact hlt)) ?_
      rw [mk_set d e i hd1]
      exact hN _ _ ⟨_, rfl, sm_new s1 hpH, upd_same⟩
    · rintro σ H1 ⟨v3, rfl, s1, hL⟩
      walk_at "w"
      exact q p _ hpH s1 hL
end
abbrev s__law_due : Stmt := top 20
theorem sc__law_due : FnScope ["number", "exponent", "most", "divisor"] ["number", "exponent", "most"] (defScope s__law_due) := ⟨rfl, rfl, rfl, by decide +kernel, rfl, by decide +kernel, by decide +kernel⟩
def sp__law_due (K : PySem.W.Frag) : Sp := fun vs H Q _ => ∃ (n e m : Nat), vs = [.int (n : Int), .int (e : Int), .int (m : Int)] ∧ n < 2 ^ 200 ∧ e ≤ 256 ∧ m ≤ 200 ∧ ∀ (b : Bool) (H' : Hp), Same H H' → (b = true ↔ n ≠ 0 ∧ CanBe n e m) → Q (.bl b) H'
theorem rest_few {n e d : Nat} (hd : 1 ≤ d) : (∃ b, b < d ∧ b ^ e % d = n % d) ↔ ∃ b, b ^ e % d = n % d := by
  constructor
  · rintro ⟨b, _, h⟩
    exact ⟨b, h⟩
  · rintro ⟨b, h⟩
    exact ⟨b % d, Nat.mod_lt _ (by omega), by rw [pow_mod_eq (a := b % d) (b := b) (Nat.mod_mod _ _), h]⟩
section
variable {P : Program} {w : World} {K : PySem.W.Frag} {mg : PySem.Str → Option Value} {base : Heap}
theorem bi__law_due {f : Addr} {fd : FuncData} (F : Fun K "_law_due" "_law_due" s__law_due f fd) : Binds K fd ["number", "exponent", "most"] [] := F.binds (ps := ["number", "exponent", "most"]) fun _ _ _ _ _ _ us hl => match us, hl with | [_, _, _], _ => rfl
set_option maxHeartbeats 4000000 in
theorem ok__law_due {f : Addr} {fd : FuncData} (F : Fun K "_law_due" "_law_due" s__law_due f fd) (B : Bt mg) (h__law_rests : Fn P w K mg base CX0 2 "_law_rests" ["divisor", "exponent"] (sp__law_rests K)) : FnOk P w K mg base CX0 3 f fd ["number", "exponent", "most"] (sp__law_due K) := by
  refine F.ok sc__law_due (fun vs H Q E h => ?_) (fun cdv A outer s H vs Q E hr h => ?_)
  · obtain ⟨n, e, m, rfl, hn, he, hm, q⟩ := h
    rfl
  · obtain ⟨n, e, m, rfl, hn, he, hm, q⟩ := h
    refine ⟨_, (pss_cons (ps_if (pt_cmpR op_eq (pv 0) pe_int (nomark _))
        (pss_one (ps_ret pe_bl))
        pss_nil)
      (pss_cons (ps_for PassesOwn.never rfl (pi_range2 rfl B.range (pa_cons pe_int (pa_cons (pe_op op_add (pv 2) pe_int) pa_nil))) (pg_name (i := 3) sc__law_due.nd rfl (Or.inl rfl))
        (pss_one (ps_if (pt_cmpR op_eq (pe_ix (k_ixL K) (pe_fn h__law_rests (hr.mono (by decide)) (by rfl) (pa_cons (pv 3) (pa_cons (pv 1) pa_nil))) (pe_op op_mod (pv 0) (pv 3)) (fun _ _ => rfl)) pe_int (nomark _))
          (pss_one (ps_ret pe_bl))
          pss_nil)))
      (pss_one (ps_ret pe_bl)))), ?_⟩
    classical
    walk_at "w"
    refine ite2 (fun h0 => ?_) (fun h0 => ?_)
    · refine q false _ (Same.refl _) ⟨fun z => by simp at z, fun z => absurd (show n = 0 by omega) z.1⟩
    · have hn0 : n ≠ 0 := by omega
      have hk : ((m : Int) + 1 - 2).toNat = m - 1 := by omega
      walk_at "w"
      rw [hk]
      refine ⟨by omega, by omega, by omega, by omega, for_r (fun i σ H' => ∃ (v3 : Option V), σ = [some (.int (n : Int)), some (.int (e : Int)), some (.int (m : Int)), v3] ∧ Same H H' ∧ ∀ d, 2 ≤ d → d < 2 + i → ∃ b, b ^ e % d = n % d) ⟨_, rfl, Same.refl _, fun d h1 h2 => by omega⟩ ?_ ?_⟩
      · rintro i σ H1 hi ⟨v3, rfl, s1, hA⟩ N hN
        have e1 : (2 : Int) + (i : Int) = ((2 + i : Nat) : Int) := by omega
        walk_at "w"
        rw [e1]
        generalize hd : 2 + i = d
        refine ⟨d, e, rfl, by omega, by omega, he, fun p H2 hp s2 hL => ?_⟩
        have em : (n : Int) % (d : Int) = ((n % d : Nat) : Int) := (Int.natCast_emod n d).symm
        have hlt : n % d < d := Nat.mod_lt _ (by omega)
        walk_at "w"
        rw [em]
        refine ⟨by omega, ?_⟩
        refine r_ixL (SqL.of hL) (atI_nat (mk_at hlt)) ?_
        walk_at "w"
        have hrf := rest_few (n := n) (e := e) (d := d) (by omega)
        by_cases c : ∃ b, b < d ∧ b ^ e % d = n % d
        · rw [if_pos c, if_neg (by omega)]
          refine hN _ _ ⟨_, rfl, s1.trans s2, fun d' h1 h2 => ?_⟩
          rcases (by omega : d' < 2 + i ∨ d' = d) with y | y
          · exact hA d' h1 y
          · exact y ▸ hrf.mp c
        · rw [if_neg c, if_pos rfl]
          refine q false _ (s1.trans s2) ⟨fun z => by simp at z, fun z => absurd (hrf.mpr (z.2 d (by omega) (by omega))) c⟩
      · rintro σ H1 ⟨v3, rfl, s1, hA⟩
        walk_at "w"
        exact q true _ s1 ⟨fun _ => ⟨hn0, fun d h1 h2 => hA d h1 (by omega)⟩, fun _ => rfl⟩
end
abbrev s__law_right : Stmt := top 21
theorem sc__law_right : FnScope ["seed", "number", "exponent", "most", "due", "turn", "found", "fewer", "far", "power"] ["seed", "number"] (defScope s__law_right) := ⟨rfl, rfl, rfl, by decide +kernel, rfl, by decide +kernel, by decide +kernel⟩
def sp__law_right (K : PySem.W.Frag) : Sp := fun vs H Q _ => ∃ (a : Addr) (n : Nat), vs = [.ref a, .int (n : Int)] ∧ Sd H a ∧ n ≤ 10 ^ 40 ∧ ∀ H', Kp a H H' → Sd H' a → Q (.bl true) H'
def isMost (v : V) : Prop := ∃ z : Nat, v = .int (z : Int) ∧ z ≤ 200
def isExp (v : V) : Prop := ∃ z : Int, v = .int z ∧ 1 ≤ z ∧ z ≤ 199
section
variable {P : Program} {w : World} {K : PySem.W.Frag} {mg : PySem.Str → Option Value} {base : Heap}
theorem bi__law_right {f : Addr} {fd : FuncData} (F : Fun K "_law_right" "_law_right" s__law_right f fd) : Binds K fd ["seed", "number"] [] := F.binds (ps := ["seed", "number"]) fun _ _ _ _ _ _ us hl => match us, hl with | [_, _], _ => rfl
set_option maxHeartbeats 4000000 in
theorem ok__law_right {f : Addr} {fd : FuncData} (F : Fun K "_law_right" "_law_right" s__law_right f fd) (B : Bt mg) (h__law_power : Fn P w K mg base CX0 1 "_law_power" ["base", "exponent"] (sp__law_power K)) (h__law_draw : Fn P w K mg base CX0 1 "_law_draw" ["seed", "most"] (sp__law_draw K)) (h__law_due : Fn P w K mg base CX0 3 "_law_due" ["number", "exponent", "most"] (sp__law_due K)) (h_can_be : Fn P w K mg base CX0 3 "can_be" ["number", "exponent", "most"] (sp_can_be K)) : FnOk P w K mg base CX0 4 f fd ["seed", "number"] (sp__law_right K) := by
  refine F.ok sc__law_right (fun vs H Q E h => ?_) (fun cdv A outer s H vs Q E hr h => ?_)
  · obtain ⟨a, n, rfl, hD, hn, q⟩ := h
    rfl
  · obtain ⟨a, n, rfl, hD, hn, q⟩ := h
    refine ⟨_, (pss_cons (ps_set (i := 2) sc__law_right.nd rfl (Or.inl rfl) (pe_op op_add pe_int (pe_fn h__law_draw (hr.mono (by decide)) (by rfl) (pa_cons (pv 0) (pa_cons (pe_ix (k_ixL K) (pe_lst (pa_cons pe_int (pa_cons pe_int (pa_cons pe_int (pa_cons pe_int pa_nil))))) (pe_fn h__law_draw (hr.mono (by decide)) (by rfl) (pa_cons (pv 0) (pa_cons pe_int pa_nil))) (fun _ _ => rfl)) pa_nil)))))
      (pss_cons (ps_for PassesOwn.never rfl (pi_tup (pe_tup (pa_cons pe_int (pa_cons (pe_op op_add pe_int (pe_fn h__law_draw (hr.mono (by decide)) (by rfl) (pa_cons (pv 0) (pa_cons pe_int pa_nil)))) (pa_cons (pe_ix (k_ixL K) (pe_lst (pa_cons pe_int (pa_cons pe_int (pa_cons pe_int (pa_cons pe_int (pa_cons (pe_op op_add pe_int (pe_fn h__law_draw (hr.mono (by decide)) (by rfl) (pa_cons (pv 0) (pa_cons pe_int pa_nil)))) pa_nil)))))) (pe_fn h__law_draw (hr.mono (by decide)) (by rfl) (pa_cons (pv 0) (pa_cons pe_int pa_nil))) (fun _ _ => rfl)) pa_nil))))) (pg_name (i := 3) sc__law_right.nd rfl (Or.inl rfl))
        (pss_cons (ps_set (i := 4) sc__law_right.nd rfl (Or.inl rfl) (pe_fn h__law_due (hr.mono (by decide)) (by rfl) (pa_cons (pv 1) (pa_cons (pv 2) (pa_cons (pv 3) pa_nil)))))
        (pss_one (ps_for PassesOwn.never rfl (pi_range1 rfl B.range (pa_cons pe_int pa_nil)) (pg_name (i := 5) sc__law_right.nd rfl (Or.inl rfl))
          (pss_cons (ps_set (i := 6) sc__law_right.nd rfl (Or.inl rfl) (pe_fn h_can_be (hr.mono (by decide)) (by rfl) (pa_cons (pv 1) (pa_cons (pv 2) (pa_cons (pv 3) pa_nil)))))
          (pss_one (ps_if (PW.pt (pw_or (pt_not (pt_val (pe_callB (k_isi K) (by rfl) B.isinstance (by decide +kernel) (pa_cons (pv 6) (pa_cons (pe_bltn (v := .ty "bool") (u := .type "bool") (by rfl) B.bool (by decide +kernel) rfl) pa_nil))))) (pw_or1 (pt_cmpR op_ne (pv 6) (pv 4) (nomark _)))))
            (pss_one (ps_ret pe_bl))
            pss_nil)))))))
      (pss_cons (ps_set (i := 7) sc__law_right.nd rfl (Or.inl rfl) (pe_op op_add pe_int (pe_fn h__law_draw (hr.mono (by decide)) (by rfl) (pa_cons (pv 0) (pa_cons pe_int pa_nil)))))
      (Evl.pss_cut (ps_if (PW.pt (pw_and (pt_val (pe_fn h_can_be (hr.mono (by decide)) (by rfl) (pa_cons (pv 1) (pa_cons (pv 2) (pa_cons pe_int pa_nil))))) (pw_and1 (pt_not (pt_val (pe_fn h_can_be (hr.mono (by decide)) (by rfl) (pa_cons (pv 1) (pa_cons (pv 2) (pa_cons (pv 7) pa_nil)))))))))
        (pss_one (ps_ret pe_bl))
        pss_nil)
      (pss_cons (ps_set (i := 8) sc__law_right.nd rfl (Or.inl rfl) (pe_op op_add pe_int (pe_fn h__law_draw (hr.mono (by decide)) (by rfl) (pa_cons (pv 0) (pa_cons pe_int pa_nil)))))
      (pss_cons (ps_set (i := 9) sc__law_right.nd rfl (Or.inl rfl) (pe_fn h__law_power (hr.mono (by decide)) (by rfl) (pa_cons (pe_op op_add pe_int (pe_fn h__law_draw (hr.mono (by decide)) (by rfl) (pa_cons (pv 0) (pa_cons (pe_ix (k_ixL K) (pe_lst (pa_cons pe_int (pa_cons pe_int pa_nil))) (pe_callTy call_int1 (by rfl) B.int (by decide +kernel) (pa_cons (pe_cmpR op_lt (pv 8) pe_int (nomark _)) pa_nil)) (fun _ _ => rfl)) pa_nil)))) (pa_cons (pv 8) pa_nil))))
      (pss_one (ps_ret (pe_or (pe_cmpR op_gt (pv 9) (pe_op op_pow pe_int pe_int) (nomark _)) (pe_one (pe_cmpR op_isBl (pe_fn h_can_be (hr.mono (by decide)) (by rfl) (pa_cons (pv 9) (pa_cons (pv 8) (pa_cons pe_int pa_nil)))) pe_bl (nomark _)))))))))))), ?_⟩
    have h200 : n < 2 ^ 200 := Nat.lt_of_le_of_lt hn (by decide)
    walk_at "f"
    refine ⟨by show 4 ≤ sizeLine; decide, fun p hp => ?_⟩
    refine use_pick isExp ?_ (Kp.refl a H) hD hp rfl (by omega) (by omega) fun v H1 hv k1 K1 d1 => ?_
    · intro x hx
      simp only [List.mem_cons, List.not_mem_nil, or_false] at hx
      rcases hx with rfl | rfl | rfl | rfl
      · exact ⟨2, rfl, by omega, by omega⟩
      · exact ⟨5, rfl, by omega, by omega⟩
      · exact ⟨11, rfl, by omega, by omega⟩
      · exact ⟨199, rfl, by omega, by omega⟩
    obtain ⟨w, rfl, w1, w2⟩ := hv
    refine use_draw K1 d1 (by omega) (by omega) fun r H2 k2 K2 d2 a2 b2 => ?_
    obtain ⟨r, rfl⟩ := Int.eq_ofNat_of_zero_le a2
    have e1 : (2 : Int) + (r : Int) = ((2 + r : Nat) : Int) := by omega
    walk_at "f"
    rw [e1]
    generalize he : 2 + r = e
    refine use_draw K2 d2 (by omega) (by omega) fun r3 H3 k3 K3 d3 a3 b3 => ?_
    walk_at "f"
    refine use_draw K3 d3 (by omega) (by omega) fun r4 H4 k4 K4 d4 a4 b4 => ?_
    walk_at "f"
    refine ⟨by show 5 ≤ sizeLine; decide, fun p5 hp5 => ?_⟩
    refine use_pick isMost ?_ K4 d4 hp5 rfl (by omega) (by omega) fun v H5 hv k5 K5 d5 => ?_
    · intro x hx
      simp only [List.mem_cons, List.not_mem_nil, or_false] at hx
      rcases hx with rfl | rfl | rfl | rfl | rfl
      · exact ⟨30, rfl, by omega⟩
      · exact ⟨60, rfl, by omega⟩
      · exact ⟨120, rfl, by omega⟩
      · exact ⟨200, rfl, by omega⟩
      · exact ⟨(2 + r4).toNat, by congr 1; omega, by omega⟩
    obtain ⟨w5, rfl, hw5⟩ := hv
    walk_at "f"
    obtain ⟨r3, rfl⟩ := Int.eq_ofNat_of_zero_le a3
    have e3 : (2 : Int) + (r3 : Int) = ((2 + r3 : Nat) : Int) := by omega
    rw [e3]
    refine ⟨by show 3 ≤ sizeLine; decide, fun p6 hp6 => ⟨⟨_, SqT.of upd_same⟩, for_t (xs := [V.int 1, V.int ((2 + r3 : Nat) : Int), V.int (w5 : Int)]) (fun i σ H' => ∃ (v3 v4 v5 v6 : Option V), σ = [some (.ref a), some (.int (n : Int)), some (.int (e : Int)), v3, v4, v5, v6, none, none, none] ∧ Kp a H H' ∧ Sd H' a ∧ H' p6 = some (.tup [V.int 1, V.int ((2 + r3 : Nat) : Int), V.int (w5 : Int)])) ⟨_, _, _, _, rfl, K5.trans (sm_kp (same_new hp6)), d5.same (same_new hp6), upd_same⟩ ?_ ?_ ?_⟩⟩
    · rintro i σ H7 _ ⟨_, _, _, _, _, _, _, h⟩
      exact SqT.of h
    · rintro i x σ H7 hx ⟨v3, v4, v5, v6, rfl, K7, d7, hT7⟩ N hN
      have hin : isMost x := by
        have := List.mem_of_getElem? hx
        simp only [List.mem_cons, List.not_mem_nil, or_false] at this
        rcases this with rfl | rfl | rfl
        · exact ⟨1, rfl, by omega⟩
        · exact ⟨_, rfl, by omega⟩
        · exact ⟨_, rfl, hw5⟩
      obtain ⟨m, rfl, hm⟩ := hin
      walk_at "f"
      refine ⟨n, e, m, rfl, h200, by omega, hm, fun b H8 s8 hb => ?_⟩
      walk_at "f"
      refine ⟨by omega, by omega, for_r (fun j σ H' => ∃ (v5 v6 : Option V), σ = [some (.ref a), some (.int (n : Int)), some (.int (e : Int)), some (.int (m : Int)), some (.bl b), v5, v6, none, none, none] ∧ Same H7 H') ⟨_, _, rfl, s8⟩ ?_ ?_⟩
      · rintro j σ H9 hj ⟨v5, v6, rfl, s9⟩ N2 hN2
        walk_at "f"
        refine ⟨n, e, m, rfl, h200, by omega, hm, fun b2 H10 s10 hb2 => ?_⟩
        have eb : b2 = b := by
          rw [Bool.eq_iff_iff, hb2, hb]
        subst eb
        walk_at "f"
        refine r_isi (ty_bl b2) (c := true) (by decide +kernel) ?_
        walk_at "f"
        exact hN2 _ _ ⟨_, _, rfl, s9.trans s10⟩
      · rintro σ H9 ⟨v5, v6, rfl, s9⟩
        exact hN _ _ ⟨_, _, _, _, rfl, K7.trans (sm_kp s9), d7.same s9, s9 _ _ hT7⟩
    · rintro σ H7 ⟨v3, v4, v5, v6, rfl, K7, d7, hT7⟩
      walk_at "f"
      refine use_draw K7 d7 (by omega) (by omega) fun r8 H8 k8 K8 d8 a8 b8 => ?_
      obtain ⟨r8, rfl⟩ := Int.eq_ofNat_of_zero_le a8
      have e8 : (2 : Int) + (r8 : Int) = ((2 + r8 : Nat) : Int) := by omega
      walk_at "f"
      rw [e8]
      refine cut_m (fun σ H' => ∃ (v3 v4 v5 v6 v7 : Option V), σ = [some (.ref a), some (.int (n : Int)), some (.int (e : Int)), v3, v4, v5, v6, v7, none, none] ∧ Kp a H H' ∧ Sd H' a) (fun N hN => ?_) ?_
      · walk_at "f"
        refine ⟨n, e, 200, rfl, h200, by omega, by omega, fun b9 H9 s9 hb9 => ?_⟩
        walk_at "f"
        cases b9 with
        | false =>
          walk_at "f"
          exact hN _ _ ⟨_, _, _, _, _, rfl, K8.trans (sm_kp s9), d8.same s9⟩
        | true =>
          walk_at "f"
          refine ⟨n, e, 2 + r8, rfl, h200, by omega, by omega, fun b10 H10 s10 hb10 => ?_⟩
          have ht : b10 = true := by
            obtain ⟨h1, h2⟩ := hb9.mp rfl
            exact hb10.mpr ⟨h1, fun d h3 h4 => h2 d h3 (by omega)⟩
          subst ht
          walk_at "f"
          exact hN _ _ ⟨_, _, _, _, _, rfl, K8.trans (sm_kp (s9.trans s10)), d8.same (s9.trans s10)⟩
      · rintro σ H9 ⟨v3, v4, v5, v6, v7, rfl, K9, d9⟩
        walk_at "f"
        refine use_draw K9 d9 (by omega) (by omega) fun r10 H10 k10 K10 d10 a10 b10 => ?_
        obtain ⟨r10, rfl⟩ := Int.eq_ofNat_of_zero_le a10
        have e10 : (2 : Int) + (r10 : Int) = ((2 + r10 : Nat) : Int) := by omega
        walk_at "f"
        rw [e10]
        generalize hfar : 2 + r10 = far
        have e40 : (10 : Int) ^ Int.toNat 40 = ((10 ^ 40 : Nat) : Int) := rfl
        have c40 : CPow 10 40 := by unfold CPow; omega
        refine ⟨by show 2 ≤ sizeLine; decide, fun p11 hp11 => ?_⟩
        have hat : ∃ z : Int, atI [V.int 1, V.int 3] (if (far : Int) < 80 then 1 else 0) = some (.int z) ∧ 1 ≤ z ∧ z ≤ 3 := by
          split
          · exact ⟨3, rfl, by omega, by omega⟩
          · exact ⟨1, rfl, by omega, by omega⟩
        obtain ⟨z, hat, z0, z1⟩ := hat
        refine r_ixL (SqL.of upd_same) hat ?_
        have s11 := same_new (o := .lst [V.int 1, V.int 3]) hp11
        refine use_draw (K10.trans (sm_kp s11)) (d10.same s11) (by omega) (by omega) fun r12 H12 k12 K12 d12 a12 b12 => ?_
        obtain ⟨r12, rfl⟩ := Int.eq_ofNat_of_zero_le a12
        have e12 : (1 : Int) + (r12 : Int) = ((1 + r12 : Nat) : Int) := by omega
        walk_at "f"
        rw [e12]
        generalize hbb : 1 + r12 = b
        refine ⟨b, far, 2, rfl, by omega, by omega, by omega, ?_⟩
        walk_at "f"
        rw [e40]
        refine ⟨c40, ite2 (fun hc => ?_) (fun hc => ?_)⟩
        · exact q _ K12 d12
        · have hle : b ^ far ≤ 10 ^ 40 := by
            generalize 10 ^ 40 = T at hc ⊢
            omega
          refine ⟨b ^ far, far, 200, rfl, Nat.lt_of_le_of_lt hle (by decide), by omega, by omega, fun b13 H13 s13 hb13 => ?_⟩
          have ht : b13 = true := hb13.mpr ⟨Nat.pos_iff_ne_zero.mp (Nat.pow_pos (by omega)), fun d h1 h2 => ⟨b, rfl⟩⟩
          subst ht
          walk_at "f"
          exact q _ (K12.trans (sm_kp s13)) (d12.same s13)
end
abbrev s__law_together_right : Stmt := top 22
theorem sc__law_together_right : FnScope ["seed", "number", "exponent", "divisor", "counts", "some", "told", "rest", "many"] ["seed", "number"] (defScope s__law_together_right) := ⟨rfl, rfl, rfl, by decide +kernel, rfl, by decide +kernel, by decide +kernel⟩
def sp__law_together_right (K : PySem.W.Frag) : Sp := fun vs H Q _ => ∃ (a : Addr) (n : Nat), vs = [.ref a, .int (n : Int)] ∧ Sd H a ∧ n ≤ 10 ^ 40 ∧ ∀ H', Kp a H H' → Sd H' a → Q (.bl true) H'
theorem cnt_all {B e d : Nat} (hd : 1 ≤ d) : sumN d (fun r => cntR B e d r) = B := by
  unfold cntR
  rw [← sumN_swap (fun i r => if (i + 1) ^ e % d = r then 1 else 0)]
  have : ∀ i, i < B → sumN d (fun r => if (i + 1) ^ e % d = r then 1 else 0) = 1 := fun i _ => sumN_point (j := (i + 1) ^ e % d) (Nat.mod_lt _ (by omega)) (by rw [if_pos rfl]) fun r _ hne => by rw [if_neg fun z => hne z.symm]
  rw [sumN_congr (g := fun _ => 1) B this]
  induction B with
  | zero => rfl
  | succ b ih =>
    rw [sumN, ih fun i hi => this i (by omega)]
theorem cnt_pos {B e d r : Nat} : 0 < cntR B e d r ↔ ∃ i, i < B ∧ (i + 1) ^ e % d = r := by
  unfold cntR
  induction B with
  | zero =>
    rw [sumN]
    exact ⟨fun h => by omega, fun ⟨i, h, _⟩ => by omega⟩
  | succ b ih =>
    rw [sumN]
    by_cases c : (b + 1) ^ e % d = r
    · rw [if_pos c]
      exact ⟨fun _ => ⟨b, by omega, c⟩, fun _ => by omega⟩
    · rw [if_neg c, Nat.add_zero, ih]
      constructor
      · rintro ⟨i, h1, h2⟩
        exact ⟨i, by omega, h2⟩
      · rintro ⟨i, h1, h2⟩
        rcases (by omega : i < b ∨ i = b) with y | y
        · exact ⟨i, y, h2⟩
        · exact absurd (y ▸ h2) c
theorem sum_rng (f : Nat → Nat) : ∀ n, ((List.range n).map fun i => (f i : Int)).sum = (sumN n f : Int)
  | 0 => rfl
  | n + 1 => by
    rw [List.range_succ, List.map_append, List.sum_append, sum_rng f n, sumN]
    simp
theorem due_up (p : Nat → Prop) [DecidablePred p] : ∀ d, ((List.range d).filterMap fun k => if p k then some ((k : Nat) : Int) else none).Pairwise (· < ·)
  | 0 => List.Pairwise.nil
  | d + 1 => by
    rw [List.range_succ, List.filterMap_append, List.pairwise_append]
    refine ⟨due_up p d, ?_, ?_⟩
    · by_cases c : p d <;> simp [c]
    · intro x hx y hy
      obtain ⟨k, hk, hs⟩ := List.mem_filterMap.mp hx
      obtain ⟨k', hk', hs'⟩ := List.mem_filterMap.mp hy
      simp at hk'
      subst hk'
      have hkd := List.mem_range.mp hk
      by_cases c : p k
      · rw [if_pos c] at hs
        by_cases c' : p k'
        · rw [if_pos c'] at hs'
          cases hs
          cases hs'
          omega
        · rw [if_neg c'] at hs'
          cases hs'
      · rw [if_neg c] at hs
        cases hs
theorem due_mem (p : Nat → Prop) [DecidablePred p] (d : Nat) (k : Int) : k ∈ ((List.range d).filterMap fun k => if p k then some ((k : Nat) : Int) else none) ↔ ∃ r : Nat, r < d ∧ p r ∧ k = (r : Int) := by
  rw [List.mem_filterMap]
  constructor
  · rintro ⟨r, hr, hs⟩
    by_cases c : p r
    · rw [if_pos c] at hs
      exact ⟨r, List.mem_range.mp hr, c, (Option.some.inj hs).symm⟩
    · rw [if_neg c] at hs
      cases hs
  · rintro ⟨r, h1, h2, rfl⟩
    exact ⟨r, List.mem_range.mpr h1, if_pos h2⟩
theorem same_l {xs ys : List Int} (hx : xs.Pairwise (· < ·)) (hy : ys.Pairwise (· < ·)) (m : ∀ k, k ∈ xs ↔ k ∈ ys) : xs = ys := by
  have pm : xs.Perm ys := by
    rw [List.perm_ext_iff_of_nodup (hx.imp fun z => Int.ne_of_lt z) (hy.imp fun z => Int.ne_of_lt z)]
    exact m
  exact pm.eq_of_pairwise (le := fun a b => a < b) (fun a b _ _ x y => by omega) hx hy
theorem inV_i (r : Int) : ∀ ms : List Int, inV (.int r) (ms.map V.int) = decide (r ∈ ms)
  | [] => rfl
  | x :: ms => by
    have ih := inV_i r ms
    unfold inV at ih ⊢
    rw [List.map_cons, List.any_cons, ih]
    by_cases c : x = r
    · subst c
      simp [eqV]
    · have : ¬ r = x := fun z => c z.symm
      simp [eqV, c, this]
theorem flat_i (ms : List Int) : (ms.map V.int).all flatV = true := by
  rw [List.all_eq_true]
  intro x hx
  obtain ⟨y, _, rfl⟩ := List.mem_map.mp hx
  rfl
theorem fm_con {α β : Type} {f g : α → Option β} : ∀ l : List α, (∀ i ∈ l, f i = g i) → l.filterMap f = l.filterMap g
  | [], _ => rfl
  | x :: l, h => by
    rw [List.filterMap_cons, List.filterMap_cons, h x (by simp), fm_con l fun i hi => h i (by simp [hi])]
section
variable {P : Program} {w : World} {K : PySem.W.Frag} {mg : PySem.Str → Option Value} {base : Heap}
theorem bi__law_together_right {f : Addr} {fd : FuncData} (F : Fun K "_law_together_right" "_law_together_right" s__law_together_right f fd) : Binds K fd ["seed", "number"] [] := F.binds (ps := ["seed", "number"]) fun _ _ _ _ _ _ us hl => match us, hl with | [_, _], _ => rfl
set_option maxHeartbeats 4000000 in
theorem ok__law_together_right {f : Addr} {fd : FuncData} (F : Fun K "_law_together_right" "_law_together_right" s__law_together_right f fd) (B : Bt mg) (h__law_draw : Fn P w K mg base CX0 1 "_law_draw" ["seed", "most"] (sp__law_draw K)) (h_count_rest : Fn P w K mg base CX0 11 "count_rest" ["most", "exponent", "divisor", "rest"] (sp_count_rest K)) (h_count_by : Fn P w K mg base CX0 11 "count_by" ["number", "exponent"] (sp_count_by K)) (h_rests_of : Fn P w K mg base CX0 2 "rests_of" ["divisor", "exponent"] (sp_rests_of K)) : FnOk P w K mg base CX0 12 f fd ["seed", "number"] (sp__law_together_right K) := by
  refine F.ok sc__law_together_right (fun vs H Q E h => ?_) (fun cdv A outer s H vs Q E hr h => ?_)
  · obtain ⟨a, n, rfl, hD, hn, q⟩ := h
    rfl
  · obtain ⟨a, n, rfl, hD, hn, q⟩ := h
    refine ⟨_, (pss_cons (ps_set (i := 2) sc__law_together_right.nd rfl (Or.inr rfl) (pe_op op_add pe_int (pe_fn h__law_draw (hr.mono (by decide)) (by rfl) (pa_cons (pv 0) (pa_cons pe_int pa_nil)))))
      (pss_cons (ps_set (i := 3) sc__law_together_right.nd rfl (Or.inr rfl) (pe_op op_add pe_int (pe_fn h__law_draw (hr.mono (by decide)) (by rfl) (pa_cons (pv 0) (pa_cons (pe_ix (k_ixL K) (pe_lst (pa_cons pe_int (pa_cons pe_int pa_nil))) (pe_fn h__law_draw (hr.mono (by decide)) (by rfl) (pa_cons (pv 0) (pa_cons pe_int pa_nil))) (fun _ _ => rfl)) pa_nil)))))
      (pss_cons (ps_setLc (i := 4) (own := [("rest", 7)]) (g := gName 7) (tt := tYes) rfl sc__law_together_right.nd rfl rfl (sw_true rfl rfl rfl (by decide +kernel)) (pi_range1 rfl B.range (pa_cons (pv 3) pa_nil)) (blkOk_by (own := [("rest", 7)]) (N := ["seed", "number", "exponent", "divisor", "counts", "some", "told", "rest", "many"]) (sc := defScope s__law_together_right) (by decide +kernel)) (fun _ _ _ _ _ => (pg_name (i := 7) sc__law_together_right.nd rfl (Or.inl rfl))) (fun _ _ _ _ _ => pts_nil) (fun _ _ _ _ _ => (pe_fn h_count_rest (hr.mono (by decide)) (by rfl) (pa_cons (pv 1) (pa_cons (pv 2) (pa_cons (pv 3) (pa_cons (pv 7) pa_nil)))))))
      (pss_cons (ps_if (pt_cmpR op_ne (pe_callB (k_sum K) (by rfl) B.sum (by decide +kernel) (pa_cons (pv 4) pa_nil)) (pe_fn h_count_by (hr.mono (by decide)) (by rfl) (pa_cons (pv 1) (pa_cons (pv 2) pa_nil))) (nomark _))
        (pss_one (ps_ret pe_bl))
        pss_nil)
      (pss_cons (ps_setLc (i := 5) (own := [("rest", 7), ("many", 8)]) (g := gTup K 2 (gCons (gName 7) (gCons (gName 8) gNil))) rfl sc__law_together_right.nd rfl rfl (sw_true rfl rfl rfl (by decide +kernel)) (pi_enum (by rfl) B.enumerate (pa_cons (pv 4) pa_nil)) (blkOk_by (own := [("rest", 7), ("many", 8)]) (N := ["seed", "number", "exponent", "divisor", "counts", "some", "told", "rest", "many"]) (sc := defScope s__law_together_right) (by decide +kernel)) (fun _ _ _ _ _ => (pg_tup rfl (pgs_cons (pg_name (i := 7) sc__law_together_right.nd rfl (Or.inl rfl)) (pgs_cons (pg_name (i := 8) sc__law_together_right.nd rfl (Or.inl rfl)) pgs_nil)))) (fun _ _ _ _ _ => (pts_one (pt_cmpR op_gt (pv 8) pe_int (nomark _)))) (fun _ _ _ _ _ => (pv 7)))
      (pss_cons (ps_set (i := 6) sc__law_together_right.nd rfl (Or.inr rfl) (pe_callTy (k_list K) (by rfl) B.list (by decide +kernel) (pa_cons (pe_fn h_rests_of (hr.mono (by decide)) (by rfl) (pa_cons (pv 3) (pa_cons (pv 2) pa_nil))) pa_nil)))
      (pss_cons (ps_if (pt_cmpR (k_neD K rfl hr.units) (pe_lc (own := [("rest", 7)]) (g := gName 7) rfl sc__law_together_right.nd (pi_list (pv 5)) (blkOk_by (own := [("rest", 7)]) (N := ["seed", "number", "exponent", "divisor", "counts", "some", "told", "rest", "many"]) (sc := defScope s__law_together_right) (by decide +kernel)) (fun _ _ _ _ _ => (pg_name (i := 7) sc__law_together_right.nd rfl (Or.inl rfl))) (fun _ _ _ _ _ => (pts_one (pt_cmpR (k_notIn K) (pv 7) (pv 6) (by rfl)))) (fun _ _ _ _ _ => (pv 7))) (pe_lst pa_nil) (nomark _))
        (pss_one (ps_ret pe_bl))
        pss_nil)
      (pss_one (ps_ret (pe_or (pe_cmpR op_lt (pe_fn h_count_by (hr.mono (by decide)) (by rfl) (pa_cons (pv 1) (pa_cons (pv 2) pa_nil))) (pv 3) (nomark _)) (pe_one (pe_cmpR (k_eqD K rfl hr.units) (pv 5) (pv 6) (nomark _))))))))))))), ?_⟩
    have h200 : n < 2 ^ 200 := Nat.lt_of_le_of_lt hn (by decide)
    walk_at "f"
    refine use_draw (Kp.refl a H) hD (by omega) (by omega) fun r1 H1 k1 K1 d1 a1 b1 => ?_
    obtain ⟨r1, rfl⟩ := Int.eq_ofNat_of_zero_le a1
    have e1 : (2 : Int) + (r1 : Int) = ((2 + r1 : Nat) : Int) := by omega
    walk_at "f"
    rw [e1]
    generalize he : 2 + r1 = e
    refine ⟨by show 2 ≤ sizeLine; decide, fun p hp => ?_⟩
    refine use_pick (fun v => ∃ z : Int, v = .int z ∧ 1 ≤ z ∧ z ≤ 40) ?_ K1 d1 hp rfl (by omega) (by omega) fun v H2 hv k2 K2 d2 => ?_
    · intro x hx
      simp only [List.mem_cons, List.not_mem_nil, or_false] at hx
      rcases hx with rfl | rfl
      · exact ⟨9, rfl, by omega, by omega⟩
      · exact ⟨40, rfl, by omega, by omega⟩
    obtain ⟨w, rfl, w1, w2⟩ := hv
    refine use_draw K2 d2 (by omega) (by omega) fun r3 H3 k3 K3 d3 a3 b3 => ?_
    obtain ⟨r3, rfl⟩ := Int.eq_ofNat_of_zero_le a3
    have e3 : (1 : Int) + (r3 : Int) = ((1 + r3 : Nat) : Int) := by omega
    walk_at "f"
    rw [e3]
    generalize hd : 1 + r3 = d
    generalize hB : rootN n e = B
    have hk : ((d : Int)).toNat = d := by omega
    rw [hk]
    refine ⟨by omega, by omega, lc_r (fun r => some (.int ((cntR B e d r : Nat) : Int))) (size_le (by omega)) ?_ ?_⟩
    · intro r H4 hr s4 N0 N1 h0 h1
      have e4 : (0 : Int) + (r : Int) = (r : Int) := by omega
      walk_at "f"
      rw [e4]
      refine ⟨n, e, d, r, rfl, h200, by omega, by omega, by omega, by omega, fun H5 s5 => ?_⟩
      rw [hB, cntS_eq (by omega)]
      exact h1 _ rfl _ s5
    · intro D H4 hD4 s4 hL4
      rw [filt_ints (fun r => ((cntR B e d r : Nat) : Int))] at hL4
      walk_at "f"
      refine r_sum (SqL.of hL4) ?_
      rw [sum_rng (fun r => cntR B e d r), cnt_all (by omega)]
      walk_at "f"
      refine ⟨n, e, 200, rfl, by omega, by omega, h200, by omega, fun H5 s5 => ?_⟩
      rw [hB]
      walk_at "f"
      have hL5 := SqL.of (K := K) (s5 _ _ hL4)
      have xl : (((List.range d).map fun r => ((cntR B e d r : Nat) : Int)).map V.int).length = d := by simp
      refine ⟨⟨_, hL5⟩, TupE.lc_e (fun i _ => if 0 < cntR B e d i then some (V.int (i : Int)) else none) hL5 (by rw [xl]; exact size_le (by omega)) ?_ ?_⟩
      · intro i x T H6 hx s6 hT N0 N1 h0 h1
        have hi : i < d := by
          have := (List.getElem?_eq_some_iff.mp hx).1
          omega
        have ex : x = V.int ((cntR B e d i : Nat) : Int) := by
          simp [hi] at hx
          exact hx.symm
        subst ex
        refine ⟨T, _, rfl, SqT.of hT, rfl, ?_⟩
        walk_at "f"
        refine ite2 (fun h => h1 _ (if_pos (by omega)) _ (Same.refl _)) (fun h => h0 (if_neg (by omega)) _ (Same.refl _))
      · intro D2 H6 ys hD6 s6 hL6 ey
        have ey2 : ys = ((List.range d).filterMap fun k => if 0 < cntR B e d k then some ((k : Nat) : Int) else none).map V.int := by
          rw [ey, xl, List.map_filterMap]
          refine fm_con _ fun i hi => ?_
          have hi := List.mem_range.mp hi
          by_cases c : 0 < cntR B e d i
          · simp [hi, c]
          · simp [hi, c]
        subst ey2
        walk_at "f"
        refine ⟨d, e, rfl, by omega, by omega, by omega, fun p7 ms H7 hp7 s7 so7 hl7 me7 hT7 => ?_⟩
        refine r_listT (SqT.of hT7) fun p8 hp8 => ?_
        have hS7 := s7 _ _ hL6
        have s8 := same_new (o := .lst (ms.map V.int)) hp8
        have hS8 := s8 _ _ hS7
        have hM8 : upd H7 p8 (.lst (ms.map V.int)) p8 = _ := upd_same
        have sAll := (((s4.trans s5).trans s6).trans s7).trans s8
        generalize upd H7 p8 (.lst (ms.map V.int)) = H8 at s8 hS8 hM8 sAll ⊢
        have hsub : ∀ k, k ∈ ((List.range d).filterMap fun k => if 0 < cntR B e d k then some ((k : Nat) : Int) else none) → k ∈ ms := fun k hk => by
          obtain ⟨r, h1, h2, rfl⟩ := (due_mem _ d k).mp hk
          obtain ⟨i, i1, i2⟩ := cnt_pos.mp h2
          rw [me7]
          refine ⟨(i + 1) % d, Nat.mod_lt _ (by omega), ?_⟩
          rw [pow_mod_eq (a := (i + 1) % d) (b := i + 1) (Nat.mod_mod _ _), i2]
        have hsl : ((List.range d).filterMap fun k => if 0 < cntR B e d k then some ((k : Nat) : Int) else none).length ≤ 1000 := Nat.le_trans (List.length_filterMap_le _ _) (by rw [List.length_range]; omega)
        have hup := due_up (fun k => 0 < cntR B e d k) d
        have hfull : d ≤ B → ∀ k, k ∈ ((List.range d).filterMap fun k => if 0 < cntR B e d k then some ((k : Nat) : Int) else none) ↔ k ∈ ms := fun hdB k => by
          refine ⟨hsub k, fun hk => ?_⟩
          obtain ⟨b, hb, rfl⟩ := (me7 k).mp hk
          rw [due_mem]
          refine ⟨b ^ e % d, Nat.mod_lt _ (by omega), cnt_pos.mpr ?_, rfl⟩
          rcases Nat.eq_zero_or_pos b with c | c
          · subst c
            refine ⟨d - 1, by omega, ?_⟩
            rw [show d - 1 + 1 = d by omega]
            refine pow_mod_eq ?_
            rw [Nat.mod_self, Nat.zero_mod]
          · exact ⟨b - 1, by omega, by rw [show b - 1 + 1 = b by omega]⟩
        generalize ((List.range d).filterMap fun k => if 0 < cntR B e d k then some ((k : Nat) : Int) else none) = ss at hsub hsl hup hfull hS8 ⊢
        refine ⟨⟨_, SqL.of hS8⟩, lc_l (fun _ => none) (SqL.of hS8) (by rw [List.length_map]; exact size_le (by omega)) ?_ ?_⟩
        · intro i x H9 hx s9 N0 N1 h0 h1
          obtain ⟨y, hy, rfl⟩ := int_at hx
          walk_at "f"
          refine ⟨p8, _, rfl, .inl (SqL.of (s9 _ _ hM8)), rfl, flat_i ms, ?_⟩
          rw [inV_i]
          have hd1 : decide (y ∈ ms) = true := by simpa using hsub y hy
          rw [hd1]
          refine ⟨_, rfl, ?_⟩
          walk_at "f"
          exact h0 rfl _ (Same.refl _)
        · intro D9 H9 hD9 s9 hL9
          have e0 : (ss.map V.int).filterMap (fun _ => (none : Option V)) = [] := by simp
          rw [e0] at hL9
          refine ⟨by show 0 ≤ sizeLine; decide, fun p10 hp10 => ?_⟩
          refine r_neL (ns := []) (ms := []) (SqL.of ((upd_ne (ne_of_none hL9 hp10)).trans hL9)) (SqL.of upd_same) ?_
          walk_at "f"
          have s10 := sm_new (o := .lst []) (sAll.trans s9) ((sAll.trans s9).free hp10)
          have s10' := same_new (o := .lst []) hp10
          refine ⟨n, e, 200, rfl, by omega, by omega, h200, by omega, fun H11 s11 => ?_⟩
          rw [hB]
          refine ⟨_, rfl, ite2 (fun hc => ?_) (fun hc => ?_)⟩
          · exact q _ (K3.trans (sm_kp (s10.trans s11))) (d3.same (s10.trans s11))
          · have ess : ss = ms := same_l hup so7 (hfull (by omega))
            subst ess
            refine r_eqL (SqL.of (s11 _ _ (s10' _ _ (s9 _ _ hS8)))) (SqL.of (s11 _ _ (s10' _ _ (s9 _ _ hM8)))) ?_
            simp only [decide_true]
            exact q _ (K3.trans (sm_kp (s10.trans s11))) (d3.same (s10.trans s11))
end
abbrev s_law : Stmt := top 23
theorem sc_law : FnScope ["script", "cell", "seed", "turn", "number"] ["script"] (defScope s_law) := ⟨rfl, rfl, rfl, by decide +kernel, rfl, by decide +kernel, by decide +kernel⟩
def sp_law (K : PySem.W.Frag) : Sp := fun vs H Q _ => ∃ (a : Addr) (ns : List Int), vs = [.ref a] ∧ SqL K H a (ns.map V.int) ∧ ns.length ≤ 63 ∧ ∀ H', Q (.bl true) H'
theorem can_3 : CanBe 3 2 3 := fun d h1 h2 => by
  rcases (by omega : d = 2 ∨ d = 3) with c | c <;> subst c
  · exact ⟨1, rfl⟩
  · exact ⟨0, rfl⟩
theorem can_4 : ¬ CanBe 3 2 4 := fun h => by
  obtain ⟨b, hb⟩ := h 4 (by omega) (by omega)
  have h1 : (b % 4) ^ 2 % 4 = b ^ 2 % 4 := pow_mod_eq (Nat.mod_mod _ _)
  rw [hb] at h1
  have hlt : b % 4 < 4 := Nat.mod_lt _ (by omega)
  generalize b % 4 = r at h1 hlt
  rcases (by omega : r = 0 ∨ r = 1 ∨ r = 2 ∨ r = 3) with c | c | c | c <;> subst c <;> simp at h1
section
variable {P : Program} {w : World} {K : PySem.W.Frag} {mg : PySem.Str → Option Value} {base : Heap}
theorem bi_law {f : Addr} {fd : FuncData} (F : Fun K "law" "law" s_law f fd) : Binds K fd ["script"] [] := F.binds (ps := ["script"]) fun _ _ _ _ _ _ us hl => match us, hl with | [_], _ => rfl
set_option maxHeartbeats 4000000 in
theorem ok_law {f : Addr} {fd : FuncData} (F : Fun K "law" "law" s_law f fd) (B : Bt mg) (h__law_seed : Fn P w K mg base CX0 1 "_law_seed" ["cell"] (sp__law_seed K)) (h__law_folded : Fn P w K mg base CX0 1 "_law_folded" ["script"] (sp__law_folded K)) (h__law_number : Fn P w K mg base CX0 3 "_law_number" ["seed"] (sp__law_number K)) (h_can_be : Fn P w K mg base CX0 3 "can_be" ["number", "exponent", "most"] (sp_can_be K)) (h__law_right : Fn P w K mg base CX0 4 "_law_right" ["seed", "number"] (sp__law_right K)) (h__law_together_right : Fn P w K mg base CX0 12 "_law_together_right" ["seed", "number"] (sp__law_together_right K)) : FnOk P w K mg base CX0 13 f fd ["script"] (sp_law K) := by
  refine F.ok sc_law (fun vs H Q E h => ?_) (fun cdv A outer s H vs Q E hr h => ?_)
  · obtain ⟨a, ns, rfl, hS, hlen, q⟩ := h
    rfl
  · obtain ⟨a, ns, rfl, hS, hlen, q⟩ := h
    refine ⟨_, (pss_cons (ps_for PassesOwn.never rfl (pi_list (pe_op op_cat (pe_slice (k_slL K) (pv 0) po_none (po_some pe_int)) (pe_lst (pa_cons (pe_fn h__law_folded (hr.mono (by decide)) (by rfl) (pa_cons (pv 0) pa_nil)) pa_nil)))) (pg_name (i := 1) sc_law.nd rfl (Or.inl rfl))
        (pss_cons (ps_set (i := 2) sc_law.nd rfl (Or.inl rfl) (pe_fn h__law_seed (hr.mono (by decide)) (by rfl) (pa_cons (pv 1) pa_nil)))
        (pss_one (ps_for PassesOwn.never rfl (pi_range1 rfl B.range (pa_cons pe_int pa_nil)) (pg_name (i := 3) sc_law.nd rfl (Or.inl rfl))
          (pss_cons (ps_set (i := 4) sc_law.nd rfl (Or.inl rfl) (pe_fn h__law_number (hr.mono (by decide)) (by rfl) (pa_cons (pv 2) pa_nil)))
          (pss_cons (ps_if (pt_not (pt_val (pe_fn h__law_right (hr.mono (by decide)) (by rfl) (pa_cons (pv 2) (pa_cons (pv 4) pa_nil)))))
            (pss_one (ps_ret pe_bl))
            pss_nil)
          (pss_one (ps_if (pt_not (pt_val (pe_fn h__law_together_right (hr.mono (by decide)) (by rfl) (pa_cons (pv 2) (pa_cons (pv 4) pa_nil)))))
            (pss_one (ps_ret pe_bl))
            pss_nil))))))))
      (pss_cons (ps_if (PW.pt (pw_or (pt_cmpR op_notBl (pe_fn h_can_be (hr.mono (by decide)) (by rfl) (pa_cons pe_int (pa_cons pe_int (pa_cons pe_int pa_nil)))) pe_bl (nomark _)) (pw_or1 (pt_cmpR op_notBl (pe_fn h_can_be (hr.mono (by decide)) (by rfl) (pa_cons pe_int (pa_cons pe_int (pa_cons pe_int pa_nil)))) pe_bl (nomark _)))))
        (pss_one (ps_ret pe_bl))
        pss_nil)
      (pss_one (ps_ret (pe_and (pe_cmpR op_isBl (pe_fn h_can_be (hr.mono (by decide)) (by rfl) (pa_cons pe_int (pa_cons pe_int (pa_cons pe_int pa_nil)))) pe_bl (nomark _)) (pe_one (pe_cmpR op_isBl (pe_fn h_can_be (hr.mono (by decide)) (by rfl) (pa_cons pe_int (pa_cons pe_int (pa_cons pe_int pa_nil)))) pe_bl (nomark _)))))))), ?_⟩
    walk_at "w"
    have hS0 := hS
    refine r_slL hS0 fun t ht => ?_
    have e1 : cutV (ns.map V.int) none (some 1) = (ns.take 1).map V.int := by
      have := cut_to (ns.map V.int) 1
      rw [List.map_take]
      exact this
    rw [e1]
    refine ⟨a, ns, rfl, (same_new ht).seq hS0, fun f hf => ?_⟩
    walk_at "w"
    refine ⟨by show 1 ≤ sizeLine; decide, fun u hu => ?_⟩
    refine r_cat ((upd_ne (ne_of_none upd_same hu)).trans upd_same) upd_same ?_ fun x hx => ?_
    · refine size_le' ?_
      simp only [List.length_map, List.length_take, List.length_cons, List.length_nil]
      omega
    have eL : (ns.take 1).map V.int ++ [V.int f] = (ns.take 1 ++ [f]).map V.int := by simp
    rw [eL]
    generalize hH2 : upd (upd (upd H t (.lst ((ns.take 1).map V.int))) u (.lst [V.int f])) x (.lst ((ns.take 1 ++ [f]).map V.int)) = H2
    have hX : H2 x = some (.lst ((ns.take 1 ++ [f]).map V.int)) := by rw [← hH2]; exact upd_same
    generalize ns.take 1 ++ [f] = cells at hX
    refine ⟨x, rfl, ⟨_, SqL.of hX⟩, for_l (xs := cells.map V.int) (fun i σ H' => ∃ (v2 v3 v4 v5 : Option V), σ = [some (.ref a), v2, v3, v4, v5] ∧ H' x = some (.lst (cells.map V.int))) ⟨_, _, _, _, rfl, hX⟩ ?_ ?_ ?_⟩
    · rintro i σ H' _ ⟨_, _, _, _, _, h⟩
      exact SqL.of h
    · rintro i y σ H' hy ⟨v2, v3, v4, v5, rfl, hx'⟩ N hN
      obtain ⟨c, _, rfl⟩ := int_at hy
      walk_at "w"
      refine ⟨c, rfl, fun s H3 hs s3 d3 => ?_⟩
      have hx3 := s3 _ _ hx'
      have nxs : x ≠ s := ne_of_none hx' hs
      walk_at "w"
      refine ⟨by omega, by omega, for_r (fun j σ H' => ∃ (v3 v4 : Option V), σ = [some (.ref a), some (.int c), some (.ref s), v3, v4] ∧ Sd H' s ∧ H' x = some (.lst (cells.map V.int))) ⟨_, _, rfl, d3, hx3⟩ ?_ ?_⟩
      · rintro j σ H5 hj ⟨v3, v4, rfl, d5, hx5⟩ N2 hN2
        walk_at "w"
        refine use_number (Kp.refl _ _) d5 fun n H6 k6 _ d6 hn => ?_
        have hx6 := k6 _ _ nxs hx5
        walk_at "w"
        refine ⟨s, n, rfl, d6, hn, fun H7 k7 d7 => ?_⟩
        walk_at "w"
        refine ⟨s, n, rfl, d7, hn, fun H8 k8 d8 => ?_⟩
        walk_at "w"
        exact hN2 _ _ ⟨_, _, rfl, d8, k8 _ _ nxs (k7 _ _ nxs hx6)⟩
      · rintro σ H5 ⟨v3, v4, rfl, d5, hx5⟩
        exact hN _ _ ⟨_, _, _, _, rfl, hx5⟩
    · rintro σ H' ⟨v2, v3, v4, v5, rfl, hx'⟩
      walk_at "d"
      refine ⟨0, 2, 1, rfl, by decide, by omega, by omega, fun b1 H3 s3 h1 => ?_⟩
      have f1 : b1 = false := by
        cases b1 with
        | false => rfl
        | true => exact absurd rfl (h1.mp rfl).1
      subst f1
      walk_at "d"
      refine ⟨0, 3, 9, rfl, by decide, by omega, by omega, fun b2 H4 s4 h2 => ?_⟩
      have f2 : b2 = false := by
        cases b2 with
        | false => rfl
        | true => exact absurd rfl (h2.mp rfl).1
      subst f2
      walk_at "d"
      refine ⟨3, 2, 3, rfl, by decide, by omega, by omega, fun b3 H5 s5 h3 => ?_⟩
      have f3 : b3 = true := h3.mpr ⟨by decide, can_3⟩
      subst f3
      walk_at "d"
      refine ⟨3, 2, 4, rfl, by decide, by omega, by omega, fun b4 H6 s6 h4 => ?_⟩
      have f4 : b4 = false := by
        cases b4 with
        | false => rfl
        | true => exact absurd (h4.mp rfl).2 can_4
      subst f4
      walk_at "d"
      exact q _
end
theorem all_mk {l : PySem.W.OpenLaw} {w : World} {K : PySem.W.Frag} {h : Heap} {mg : PySem.Str → Option Value} {fa : Addr} (X : K.In h) (G : h.Ns mainGlobals mg) (hfa : mg "law" = some (.ref fa))
    {f0 : Addr} {od0 an0 : Option Addr} {sl0 : Array (Option Value)} {oc0 kV0 dc0 pm0 cd0 ct0 : Value}
    (a0 : PySem.W.nsIn K mainGlobals "power_of" = some (some (.ref f0))) (l0 : K.lookup f0 = some ⟨oc0, od0, .func (PySem.W.fnOf "power_of" "power_of" (defArgs s_power_of) (defBody s_power_of) (defScope s_power_of) .none kV0 dc0 pm0 an0 cd0 ct0), sl0⟩) (c0 : PySem.W.codeIn K cd0 "power_of" = true) (k0 : PySem.W.keepIn K (.ref f0) = true)
    {f1 : Addr} {od1 an1 : Option Addr} {sl1 : Array (Option Value)} {oc1 kV1 dc1 pm1 cd1 ct1 : Value}
    (a1 : PySem.W.nsIn K mainGlobals "floor_root" = some (some (.ref f1))) (l1 : K.lookup f1 = some ⟨oc1, od1, .func (PySem.W.fnOf "floor_root" "floor_root" (defArgs s_floor_root) (defBody s_floor_root) (defScope s_floor_root) .none kV1 dc1 pm1 an1 cd1 ct1), sl1⟩) (c1 : PySem.W.codeIn K cd1 "floor_root" = true) (k1 : PySem.W.keepIn K (.ref f1) = true)
    {f2 : Addr} {od2 an2 : Option Addr} {sl2 : Array (Option Value)} {oc2 kV2 dc2 pm2 cd2 ct2 : Value}
    (a2 : PySem.W.nsIn K mainGlobals "rest_of" = some (some (.ref f2))) (l2 : K.lookup f2 = some ⟨oc2, od2, .func (PySem.W.fnOf "rest_of" "rest_of" (defArgs s_rest_of) (defBody s_rest_of) (defScope s_rest_of) .none kV2 dc2 pm2 an2 cd2 ct2), sl2⟩) (c2 : PySem.W.codeIn K cd2 "rest_of" = true) (k2 : PySem.W.keepIn K (.ref f2) = true)
    {f3 : Addr} {od3 an3 : Option Addr} {sl3 : Array (Option Value)} {oc3 kV3 dc3 pm3 cd3 ct3 : Value}
    (a3 : PySem.W.nsIn K mainGlobals "rests_of" = some (some (.ref f3))) (l3 : K.lookup f3 = some ⟨oc3, od3, .func (PySem.W.fnOf "rests_of" "rests_of" (defArgs s_rests_of) (defBody s_rests_of) (defScope s_rests_of) .none kV3 dc3 pm3 an3 cd3 ct3), sl3⟩) (c3 : PySem.W.codeIn K cd3 "rests_of" = true) (k3 : PySem.W.keepIn K (.ref f3) = true)
    {f4 : Addr} {od4 an4 : Option Addr} {sl4 : Array (Option Value)} {oc4 kV4 dc4 pm4 cd4 ct4 : Value}
    (a4 : PySem.W.nsIn K mainGlobals "count_rest" = some (some (.ref f4))) (l4 : K.lookup f4 = some ⟨oc4, od4, .func (PySem.W.fnOf "count_rest" "count_rest" (defArgs s_count_rest) (defBody s_count_rest) (defScope s_count_rest) .none kV4 dc4 pm4 an4 cd4 ct4), sl4⟩) (c4 : PySem.W.codeIn K cd4 "count_rest" = true) (k4 : PySem.W.keepIn K (.ref f4) = true)
    {f5 : Addr} {od5 an5 : Option Addr} {sl5 : Array (Option Value)} {oc5 kV5 dc5 pm5 cd5 ct5 : Value}
    (a5 : PySem.W.nsIn K mainGlobals "prime_powers_to" = some (some (.ref f5))) (l5 : K.lookup f5 = some ⟨oc5, od5, .func (PySem.W.fnOf "prime_powers_to" "prime_powers_to" (defArgs s_prime_powers_to) (defBody s_prime_powers_to) (defScope s_prime_powers_to) .none kV5 dc5 pm5 an5 cd5 ct5), sl5⟩) (c5 : PySem.W.codeIn K cd5 "prime_powers_to" = true) (k5 : PySem.W.keepIn K (.ref f5) = true)
    {f6 : Addr} {od6 an6 : Option Addr} {sl6 : Array (Option Value)} {oc6 kV6 dc6 pm6 cd6 ct6 : Value}
    (a6 : PySem.W.nsIn K mainGlobals "can_be" = some (some (.ref f6))) (l6 : K.lookup f6 = some ⟨oc6, od6, .func (PySem.W.fnOf "can_be" "can_be" (defArgs s_can_be) (defBody s_can_be) (defScope s_can_be) .none kV6 dc6 pm6 an6 cd6 ct6), sl6⟩) (c6 : PySem.W.codeIn K cd6 "can_be" = true) (k6 : PySem.W.keepIn K (.ref f6) = true)
    {f7 : Addr} {od7 an7 : Option Addr} {sl7 : Array (Option Value)} {oc7 kV7 dc7 pm7 cd7 ct7 : Value}
    (a7 : PySem.W.nsIn K mainGlobals "count_by" = some (some (.ref f7))) (l7 : K.lookup f7 = some ⟨oc7, od7, .func (PySem.W.fnOf "count_by" "count_by" (defArgs s_count_by) (defBody s_count_by) (defScope s_count_by) .none kV7 dc7 pm7 an7 cd7 ct7), sl7⟩) (c7 : PySem.W.codeIn K cd7 "count_by" = true) (k7 : PySem.W.keepIn K (.ref f7) = true)
    {f8 : Addr} {od8 an8 : Option Addr} {sl8 : Array (Option Value)} {oc8 kV8 dc8 pm8 cd8 ct8 : Value}
    (a8 : PySem.W.nsIn K mainGlobals "_law_folded" = some (some (.ref f8))) (l8 : K.lookup f8 = some ⟨oc8, od8, .func (PySem.W.fnOf "_law_folded" "_law_folded" (defArgs s__law_folded) (defBody s__law_folded) (defScope s__law_folded) .none kV8 dc8 pm8 an8 cd8 ct8), sl8⟩) (c8 : PySem.W.codeIn K cd8 "_law_folded" = true) (k8 : PySem.W.keepIn K (.ref f8) = true)
    {f9 : Addr} {od9 an9 : Option Addr} {sl9 : Array (Option Value)} {oc9 kV9 dc9 pm9 cd9 ct9 : Value}
    (a9 : PySem.W.nsIn K mainGlobals "_law_seed" = some (some (.ref f9))) (l9 : K.lookup f9 = some ⟨oc9, od9, .func (PySem.W.fnOf "_law_seed" "_law_seed" (defArgs s__law_seed) (defBody s__law_seed) (defScope s__law_seed) .none kV9 dc9 pm9 an9 cd9 ct9), sl9⟩) (c9 : PySem.W.codeIn K cd9 "_law_seed" = true) (k9 : PySem.W.keepIn K (.ref f9) = true)
    {f10 : Addr} {od10 an10 : Option Addr} {sl10 : Array (Option Value)} {oc10 kV10 dc10 pm10 cd10 ct10 : Value}
    (a10 : PySem.W.nsIn K mainGlobals "_law_draw" = some (some (.ref f10))) (l10 : K.lookup f10 = some ⟨oc10, od10, .func (PySem.W.fnOf "_law_draw" "_law_draw" (defArgs s__law_draw) (defBody s__law_draw) (defScope s__law_draw) .none kV10 dc10 pm10 an10 cd10 ct10), sl10⟩) (c10 : PySem.W.codeIn K cd10 "_law_draw" = true) (k10 : PySem.W.keepIn K (.ref f10) = true)
    {f11 : Addr} {od11 an11 : Option Addr} {sl11 : Array (Option Value)} {oc11 kV11 dc11 pm11 cd11 ct11 : Value}
    (a11 : PySem.W.nsIn K mainGlobals "_law_power" = some (some (.ref f11))) (l11 : K.lookup f11 = some ⟨oc11, od11, .func (PySem.W.fnOf "_law_power" "_law_power" (defArgs s__law_power) (defBody s__law_power) (defScope s__law_power) .none kV11 dc11 pm11 an11 cd11 ct11), sl11⟩) (c11 : PySem.W.codeIn K cd11 "_law_power" = true) (k11 : PySem.W.keepIn K (.ref f11) = true)
    {f12 : Addr} {od12 an12 : Option Addr} {sl12 : Array (Option Value)} {oc12 kV12 dc12 pm12 cd12 ct12 : Value}
    (a12 : PySem.W.nsIn K mainGlobals "_law_root" = some (some (.ref f12))) (l12 : K.lookup f12 = some ⟨oc12, od12, .func (PySem.W.fnOf "_law_root" "_law_root" (defArgs s__law_root) (defBody s__law_root) (defScope s__law_root) .none kV12 dc12 pm12 an12 cd12 ct12), sl12⟩) (c12 : PySem.W.codeIn K cd12 "_law_root" = true) (k12 : PySem.W.keepIn K (.ref f12) = true)
    {f13 : Addr} {od13 an13 : Option Addr} {sl13 : Array (Option Value)} {oc13 kV13 dc13 pm13 cd13 ct13 : Value}
    (a13 : PySem.W.nsIn K mainGlobals "_law_number" = some (some (.ref f13))) (l13 : K.lookup f13 = some ⟨oc13, od13, .func (PySem.W.fnOf "_law_number" "_law_number" (defArgs s__law_number) (defBody s__law_number) (defScope s__law_number) .none kV13 dc13 pm13 an13 cd13 ct13), sl13⟩) (c13 : PySem.W.codeIn K cd13 "_law_number" = true) (k13 : PySem.W.keepIn K (.ref f13) = true)
    {f14 : Addr} {od14 an14 : Option Addr} {sl14 : Array (Option Value)} {oc14 kV14 dc14 pm14 cd14 ct14 : Value}
    (a14 : PySem.W.nsIn K mainGlobals "_law_rest" = some (some (.ref f14))) (l14 : K.lookup f14 = some ⟨oc14, od14, .func (PySem.W.fnOf "_law_rest" "_law_rest" (defArgs s__law_rest) (defBody s__law_rest) (defScope s__law_rest) .none kV14 dc14 pm14 an14 cd14 ct14), sl14⟩) (c14 : PySem.W.codeIn K cd14 "_law_rest" = true) (k14 : PySem.W.keepIn K (.ref f14) = true)
    {f15 : Addr} {od15 an15 : Option Addr} {sl15 : Array (Option Value)} {oc15 kV15 dc15 pm15 cd15 ct15 : Value}
    (a15 : PySem.W.nsIn K mainGlobals "_law_rests" = some (some (.ref f15))) (l15 : K.lookup f15 = some ⟨oc15, od15, .func (PySem.W.fnOf "_law_rests" "_law_rests" (defArgs s__law_rests) (defBody s__law_rests) (defScope s__law_rests) .none kV15 dc15 pm15 an15 cd15 ct15), sl15⟩) (c15 : PySem.W.codeIn K cd15 "_law_rests" = true) (k15 : PySem.W.keepIn K (.ref f15) = true)
    {f16 : Addr} {od16 an16 : Option Addr} {sl16 : Array (Option Value)} {oc16 kV16 dc16 pm16 cd16 ct16 : Value}
    (a16 : PySem.W.nsIn K mainGlobals "_law_due" = some (some (.ref f16))) (l16 : K.lookup f16 = some ⟨oc16, od16, .func (PySem.W.fnOf "_law_due" "_law_due" (defArgs s__law_due) (defBody s__law_due) (defScope s__law_due) .none kV16 dc16 pm16 an16 cd16 ct16), sl16⟩) (c16 : PySem.W.codeIn K cd16 "_law_due" = true) (k16 : PySem.W.keepIn K (.ref f16) = true)
    {f17 : Addr} {od17 an17 : Option Addr} {sl17 : Array (Option Value)} {oc17 kV17 dc17 pm17 cd17 ct17 : Value}
    (a17 : PySem.W.nsIn K mainGlobals "_law_right" = some (some (.ref f17))) (l17 : K.lookup f17 = some ⟨oc17, od17, .func (PySem.W.fnOf "_law_right" "_law_right" (defArgs s__law_right) (defBody s__law_right) (defScope s__law_right) .none kV17 dc17 pm17 an17 cd17 ct17), sl17⟩) (c17 : PySem.W.codeIn K cd17 "_law_right" = true) (k17 : PySem.W.keepIn K (.ref f17) = true)
    {f18 : Addr} {od18 an18 : Option Addr} {sl18 : Array (Option Value)} {oc18 kV18 dc18 pm18 cd18 ct18 : Value}
    (a18 : PySem.W.nsIn K mainGlobals "_law_together_right" = some (some (.ref f18))) (l18 : K.lookup f18 = some ⟨oc18, od18, .func (PySem.W.fnOf "_law_together_right" "_law_together_right" (defArgs s__law_together_right) (defBody s__law_together_right) (defScope s__law_together_right) .none kV18 dc18 pm18 an18 cd18 ct18), sl18⟩) (c18 : PySem.W.codeIn K cd18 "_law_together_right" = true) (k18 : PySem.W.keepIn K (.ref f18) = true)
    {f19 : Addr} {od19 an19 : Option Addr} {sl19 : Array (Option Value)} {oc19 kV19 dc19 pm19 cd19 ct19 : Value}
    (a19 : PySem.W.nsIn K mainGlobals "law" = some (some (.ref f19))) (l19 : K.lookup f19 = some ⟨oc19, od19, .func (PySem.W.fnOf "law" "law" (defArgs s_law) (defBody s_law) (defScope s_law) .none kV19 dc19 pm19 an19 cd19 ct19), sl19⟩) (c19 : PySem.W.codeIn K cd19 "law" = true) (k19 : PySem.W.keepIn K (.ref f19) = true)
    (z_range : PySem.W.nsIn K mainGlobals "range" = some none)
    (z_len : PySem.W.nsIn K mainGlobals "len" = some none)
    (z_sum : PySem.W.nsIn K mainGlobals "sum" = some none)
    (z_min : PySem.W.nsIn K mainGlobals "min" = some none)
    (z_max : PySem.W.nsIn K mainGlobals "max" = some none)
    (z_abs : PySem.W.nsIn K mainGlobals "abs" = some none)
    (z_sorted : PySem.W.nsIn K mainGlobals "sorted" = some none)
    (z_isinstance : PySem.W.nsIn K mainGlobals "isinstance" = some none)
    (z_enumerate : PySem.W.nsIn K mainGlobals "enumerate" = some none)
    (z_zip : PySem.W.nsIn K mainGlobals "zip" = some none)
    (z_int : PySem.W.nsIn K mainGlobals "int" = some none)
    (z_bool : PySem.W.nsIn K mainGlobals "bool" = some none)
    (z_str : PySem.W.nsIn K mainGlobals "str" = some none)
    (z_list : PySem.W.nsIn K mainGlobals "list" = some none)
    (z_tuple : PySem.W.nsIn K mainGlobals "tuple" = some none)
    (z_dict : PySem.W.nsIn K mainGlobals "dict" = some none)
    (z_set : PySem.W.nsIn K mainGlobals "set" = some none)
    : ∃ fd : FuncData, (∀ (s : Shared) (v : Value), BindsTo s fd ⟨[v], []⟩ [("script", v)]) ∧ ∀ base : Heap, K.In base → base.Ns mainGlobals mg → FnOk l.prog w K mg base CX0 13 fa fd ["script"] (sp_law K) := by
  have e := hfa.symm.trans (PySem.W.mg_of X G a19)
  cases e
  have B : Bt mg := ⟨PySem.W.mg_none_of X G z_range, PySem.W.mg_none_of X G z_len, PySem.W.mg_none_of X G z_sum, PySem.W.mg_none_of X G z_min, PySem.W.mg_none_of X G z_max, PySem.W.mg_none_of X G z_abs, PySem.W.mg_none_of X G z_sorted, PySem.W.mg_none_of X G z_isinstance, PySem.W.mg_none_of X G z_enumerate, PySem.W.mg_none_of X G z_zip, PySem.W.mg_none_of X G z_int, PySem.W.mg_none_of X G z_bool, PySem.W.mg_none_of X G z_str, PySem.W.mg_none_of X G z_list, PySem.W.mg_none_of X G z_tuple, PySem.W.mg_none_of X G z_dict, PySem.W.mg_none_of X G z_set⟩
  refine ⟨PySem.W.fnOf "law" "law" (defArgs s_law) (defBody s_law) (defScope s_law) .none kV19 dc19 pm19 an19 cd19 ct19, fun s v => .of_eq rfl, fun base _ _ => ?_⟩
  have F0 := fun_mk (st := s_power_of) l0 c0 k0
  have h_power_of : Fn l.prog w K mg base CX0 9 "power_of" ["base", "exponent"] (sp_power_of K) := ⟨_, _, PySem.W.mg_of X G a0, k0, bi_power_of F0, ok_power_of F0 B (PySem.W.mg_of X G a0) 9⟩
  have F1 := fun_mk (st := s_floor_root) l1 c1 k1
  have h_floor_root : Fn l.prog w K mg base CX0 10 "floor_root" ["number", "exponent"] (sp_floor_root K) := ⟨_, _, PySem.W.mg_of X G a1, k1, bi_floor_root F1, ok_floor_root F1 B h_power_of⟩
  have F2 := fun_mk (st := s_rest_of) l2 c2 k2
  have h_rest_of : Fn l.prog w K mg base CX0 1 "rest_of" ["base", "exponent", "divisor"] (sp_rest_of K) := ⟨_, _, PySem.W.mg_of X G a2, k2, bi_rest_of F2, ok_rest_of F2 B⟩
  have F3 := fun_mk (st := s_rests_of) l3 c3 k3
  have h_rests_of : Fn l.prog w K mg base CX0 2 "rests_of" ["divisor", "exponent"] (sp_rests_of K) := ⟨_, _, PySem.W.mg_of X G a3, k3, bi_rests_of F3, ok_rests_of F3 B h_rest_of⟩
  have F4 := fun_mk (st := s_count_rest) l4 c4 k4
  have h_count_rest : Fn l.prog w K mg base CX0 11 "count_rest" ["most", "exponent", "divisor", "rest"] (sp_count_rest K) := ⟨_, _, PySem.W.mg_of X G a4, k4, bi_count_rest F4, ok_count_rest F4 B h_floor_root h_rest_of⟩
  have F5 := fun_mk (st := s_prime_powers_to) l5 c5 k5
  have h_prime_powers_to : Fn l.prog w K mg base CX0 1 "prime_powers_to" ["most"] (sp_prime_powers_to K) := ⟨_, _, PySem.W.mg_of X G a5, k5, bi_prime_powers_to F5, ok_prime_powers_to F5 B⟩
  have F6 := fun_mk (st := s_can_be) l6 c6 k6
  have h_can_be : Fn l.prog w K mg base CX0 3 "can_be" ["number", "exponent", "most"] (sp_can_be K) := ⟨_, _, PySem.W.mg_of X G a6, k6, bi_can_be F6, ok_can_be F6 B h_prime_powers_to h_rests_of⟩
  have F7 := fun_mk (st := s_count_by) l7 c7 k7
  have h_count_by : Fn l.prog w K mg base CX0 11 "count_by" ["number", "exponent"] (sp_count_by K) := ⟨_, _, PySem.W.mg_of X G a7, k7, bi_count_by F7, ok_count_by F7 B h_floor_root⟩
  have F8 := fun_mk (st := s__law_folded) l8 c8 k8
  have h__law_folded : Fn l.prog w K mg base CX0 1 "_law_folded" ["script"] (sp__law_folded K) := ⟨_, _, PySem.W.mg_of X G a8, k8, bi__law_folded F8, ok__law_folded F8 B⟩
  have F9 := fun_mk (st := s__law_seed) l9 c9 k9
  have h__law_seed : Fn l.prog w K mg base CX0 1 "_law_seed" ["cell"] (sp__law_seed K) := ⟨_, _, PySem.W.mg_of X G a9, k9, bi__law_seed F9, ok__law_seed F9 B⟩
  have F10 := fun_mk (st := s__law_draw) l10 c10 k10
  have h__law_draw : Fn l.prog w K mg base CX0 1 "_law_draw" ["seed", "most"] (sp__law_draw K) := ⟨_, _, PySem.W.mg_of X G a10, k10, bi__law_draw F10, ok__law_draw F10 B⟩
  have F11 := fun_mk (st := s__law_power) l11 c11 k11
  have h__law_power : Fn l.prog w K mg base CX0 1 "_law_power" ["base", "exponent"] (sp__law_power K) := ⟨_, _, PySem.W.mg_of X G a11, k11, bi__law_power F11, ok__law_power F11 B⟩
  have F12 := fun_mk (st := s__law_root) l12 c12 k12
  have h__law_root : Fn l.prog w K mg base CX0 2 "_law_root" ["number", "exponent"] (sp__law_root K) := ⟨_, _, PySem.W.mg_of X G a12, k12, bi__law_root F12, ok__law_root F12 B h__law_power⟩
  have F13 := fun_mk (st := s__law_number) l13 c13 k13
  have h__law_number : Fn l.prog w K mg base CX0 3 "_law_number" ["seed"] (sp__law_number K) := ⟨_, _, PySem.W.mg_of X G a13, k13, bi__law_number F13, ok__law_number F13 B h__law_draw h__law_power h__law_root⟩
  have F14 := fun_mk (st := s__law_rest) l14 c14 k14
  have h__law_rest : Fn l.prog w K mg base CX0 1 "_law_rest" ["base", "exponent", "divisor"] (sp__law_rest K) := ⟨_, _, PySem.W.mg_of X G a14, k14, bi__law_rest F14, ok__law_rest F14 B⟩
  have F15 := fun_mk (st := s__law_rests) l15 c15 k15
  have h__law_rests : Fn l.prog w K mg base CX0 2 "_law_rests" ["divisor", "exponent"] (sp__law_rests K) := ⟨_, _, PySem.W.mg_of X G a15, k15, bi__law_rests F15, ok__law_rests F15 B h__law_rest⟩
  have F16 := fun_mk (st := s__law_due) l16 c16 k16
  have h__law_due : Fn l.prog w K mg base CX0 3 "_law_due" ["number", "exponent", "most"] (sp__law_due K) := ⟨_, _, PySem.W.mg_of X G a16, k16, bi__law_due F16, ok__law_due F16 B h__law_rests⟩
  have F17 := fun_mk (st := s__law_right) l17 c17 k17
  have h__law_right : Fn l.prog w K mg base CX0 4 "_law_right" ["seed", "number"] (sp__law_right K) := ⟨_, _, PySem.W.mg_of X G a17, k17, bi__law_right F17, ok__law_right F17 B h__law_power h__law_draw h__law_due h_can_be⟩
  have F18 := fun_mk (st := s__law_together_right) l18 c18 k18
  have h__law_together_right : Fn l.prog w K mg base CX0 12 "_law_together_right" ["seed", "number"] (sp__law_together_right K) := ⟨_, _, PySem.W.mg_of X G a18, k18, bi__law_together_right F18, ok__law_together_right F18 B h__law_draw h_count_rest h_count_by h_rests_of⟩
  exact ok_law (fun_mk (st := s_law) l19 c19 k19) B h__law_seed h__law_folded h__law_number h_can_be h__law_right h__law_together_right
end Pn
open PySem PySem.W PyProof.Rows
set_option maxHeartbeats 0 in
theorem PySem.Challenge.cw_powernumbers_k21_can_be_by_rests_holds : PySem.Challenge.rw_powernumbers_k21_can_be_by_rests.Holds := by
  w_on; o_law; k_head; (case hw => w_witness2)
  k_fill
  refine L2.walk_of (l := PySem.Challenge.rw_powernumbers_k21_can_be_by_rests) (n := 63) (k := 13) (x := "script") (CX := fun _ => L2.CX0) (sp := fun w => Pn.sp_law _) rfl (by decide) rfl ⟨rfl, by decide, by decide⟩ (fun w h Y => PySem.W.kIn_of Y) ?F (fun _ _ a ns hl _ hS => ⟨a, ns, rfl, hS, hl, fun _ => rfl⟩) (fun _ _ _ _ _ h => h)
  case F =>
    intro w mg fa h KX G hmg
    refine' Pn.all_mk KX G hmg ?a0 ?l0 ?c0 ?k0 ?a1 ?l1 ?c1 ?k1 ?a2 ?l2 ?c2 ?k2 ?a3 ?l3 ?c3 ?k3 ?a4 ?l4 ?c4 ?k4 ?a5 ?l5 ?c5 ?k5 ?a6 ?l6 ?c6 ?k6 ?a7 ?l7 ?c7 ?k7 ?a8 ?l8 ?c8 ?k8 ?a9 ?l9 ?c9 ?k9 ?a10 ?l10 ?c10 ?k10 ?a11 ?l11 ?c11 ?k11 ?a12 ?l12 ?c12 ?k12 ?a13 ?l13 ?c13 ?k13 ?a14 ?l14 ?c14 ?k14 ?a15 ?l15 ?c15 ?k15 ?a16 ?l16 ?c16 ?k16 ?a17 ?l17 ?c17 ?k17 ?a18 ?l18 ?c18 ?k18 ?a19 ?l19 ?c19 ?k19 ?z_range ?z_len ?z_sum ?z_min ?z_max ?z_abs ?z_sorted ?z_isinstance ?z_enumerate ?z_zip ?z_int ?z_bool ?z_str ?z_list ?z_tuple ?z_dict ?z_set
    (case a0 => k_is)
    (case l0 => k_is)
    (case c0 => k_is)
    (case k0 => k_is)
    (case a1 => k_is)
    (case l1 => k_is)
    (case c1 => k_is)
    (case k1 => k_is)
    (case a2 => k_is)
    (case l2 => k_is)
    (case c2 => k_is)
    (case k2 => k_is)
    (case a3 => k_is)
    (case l3 => k_is)
    (case c3 => k_is)
    (case k3 => k_is)
    (case a4 => k_is)
    (case l4 => k_is)
    (case c4 => k_is)
    (case k4 => k_is)
    (case a5 => k_is)
    (case l5 => k_is)
    (case c5 => k_is)
    (case k5 => k_is)
    (case a6 => k_is)
    (case l6 => k_is)
    (case c6 => k_is)
    (case k6 => k_is)
    (case a7 => k_is)
    (case l7 => k_is)
    (case c7 => k_is)
    (case k7 => k_is)
    (case a8 => k_is)
    (case l8 => k_is)
    (case c8 => k_is)
    (case k8 => k_is)
    (case a9 => k_is)
    (case l9 => k_is)
    (case c9 => k_is)
    (case k9 => k_is)
    (case a10 => k_is)
    (case l10 => k_is)
    (case c10 => k_is)
    (case k10 => k_is)
    (case a11 => k_is)
    (case l11 => k_is)
    (case c11 => k_is)
    (case k11 => k_is)
    (case a12 => k_is)
    (case l12 => k_is)
    (case c12 => k_is)
    (case k12 => k_is)
    (case a13 => k_is)
    (case l13 => k_is)
    (case c13 => k_is)
    (case k13 => k_is)
    (case a14 => k_is)
    (case l14 => k_is)
    (case c14 => k_is)
    (case k14 => k_is)
    (case a15 => k_is)
    (case l15 => k_is)
    (case c15 => k_is)
    (case k15 => k_is)
    (case a16 => k_is)
    (case l16 => k_is)
    (case c16 => k_is)
    (case k16 => k_is)
    (case a17 => k_is)
    (case l17 => k_is)
    (case c17 => k_is)
    (case k17 => k_is)
    (case a18 => k_is)
    (case l18 => k_is)
    (case c18 => k_is)
    (case k18 => k_is)
    (case a19 => k_is)
    (case l19 => k_is)
    (case c19 => k_is)
    (case k19 => k_is)
    (case z_range => k_is)
    (case z_len => k_is)
    (case z_sum => k_is)
    (case z_min => k_is)
    (case z_max => k_is)
    (case z_abs => k_is)
    (case z_sorted => k_is)
    (case z_isinstance => k_is)
    (case z_enumerate => k_is)
    (case z_zip => k_is)
    (case z_int => k_is)
    (case z_bool => k_is)
    (case z_str => k_is)
    (case z_list => k_is)
    (case z_tuple => k_is)
    (case z_dict => k_is)
    (case z_set => k_is)
