import PyProof.Rows.All
import Wide.All
import OpenK.AllK
import Wide.FinOn
import HandS.ForMost
import HandS.Wide
import HandS.IsInst
import HandS.SortInts
import HandS.TupAny
import HandS.WideBits
import HandS.Evl
import KE.KItemsList
import KE.KDictList
import HandS.Conv
import HandS.Sort
import HandS.More
import HandS.SetFor
import HandS.Style
import HandS.SortOrd
import HandS.Walk
import HandS.Zip
import HandS.EndBits
import PySem.Challenge.RW_powernumbers_k15_greatest_gaps
set_option Elab.async false
set_option linter.all false
set_option maxRecDepth 100000
namespace Pn
open PySem PySem.Spec PyProof.Rows L2
/-! ### a def that stands in the module, with its promise -/
structure Fn (P : Program) (w : World) (K : PySem.W.Frag) (mg : PySem.Str → Option Value) (base : Heap) (CX : CXT) (k : Nat) (x : PySem.Str) (ps : List PySem.Str) (sp : Sp) : Prop where
  ex : ∃ (f : Addr) (fd : FuncData), mg x = some (.ref f) ∧ PySem.W.keepIn K (.ref f) = true ∧ Binds K fd ps [] ∧ FnOk P w K mg base CX k f fd ps sp
def tFn (sp : Sp) (E : XK) (t : TA) : TE := fun σ H Q => t σ H fun vs H1 => sp vs H1 Q E
section
variable {X : Cx} {CX : CXT} {k : Nat} {x : PySem.Str} {ps : List PySem.Str} {sp : Sp} {E : XK} {t : TA} {e : Expr} {es : List Expr} {p pos : Pos}
theorem pe_fnX (h : Fn X.prog X.w X.K X.mg X.base CX k x ps sp) (hr : Room k X.A) (hg : Gl X x) (hx : Passes CX X E) (ha : PA X (e :: es) t) (hdb : (x == ("__debug__" : PySem.Str)) = false := by decide)
    (he : starEach (e :: es) X.env = (false, eval e X.env) :: starEach es X.env := by rfl) (hpl : (backTo pos (starEach es X.env)).any (·.1) = false := by rfl) :
    PE X (.Call (.Name x p) (e :: es) [] pos) (tFn sp E t) := by
  obtain ⟨f, fd, hm, hk, hb, F⟩ := h.ex
  have g := pe_call (p := p) (pos := pos) F hr hg hm hk hb .nil hx ha hdb he hpl
  have e1 : tCall sp [] E t = tFn sp E t := by
    unfold tCall tFn
    simp only [List.append_nil]
  rw [← e1]
  exact g
theorem pe_fn (h : Fn X.prog X.w X.K X.mg X.base CX0 k x ps sp) (hr : Room k X.A) (hg : Gl X x) (ha : PA X (e :: es) t) (hdb : (x == ("__debug__" : PySem.Str)) = false := by decide)
    (he : starEach (e :: es) X.env = (false, eval e X.env) :: starEach es X.env := by rfl) (hpl : (backTo pos (starEach es X.env)).any (·.1) = false := by rfl) :
    PE X (.Call (.Name x p) (e :: es) [] pos) (tFn sp E0 t) := pe_fnX h hr hg pass0 ha hdb he hpl
end
/-- a promise of nothing -/
theorem fn_vac {P : Program} {w : World} {K : PySem.W.Frag} {mg : PySem.Str → Option Value} {base : Heap} {CX : CXT} {k : Nat} {f : Addr} {fd : FuncData} {ps : List PySem.Str} {sp : Sp} (h : ∀ vs H Q E, ¬ sp vs H Q E) : FnOk P w K mg base CX k f fd ps sp :=
  ⟨fun vs H Q E q => (h vs H Q E q).elim, fun _ _ _ _ _ _ _ _ _ _ _ _ _ q => (h _ _ _ _ q).elim⟩
/-! ### rules by values, the written part named (in a comprehension's block X is another one) -/
def rLen (K : PySem.W.Frag) : List V → Hp → VK → Prop := fun xs H Q => ∃ p ys, xs = [.ref p] ∧ (SqL K H p ys ∨ SqT K H p ys) ∧ Q (.int ys.length) H
def rListO (K : PySem.W.Frag) : List V → Hp → VK → Prop := fun xs H Q => ∃ p ys, xs = [.ref p] ∧ (SqL K H p ys ∨ SqT K H p ys) ∧ ∀ l, H l = none → Q (.ref l) (upd H l (.lst ys))
def rTupO (K : PySem.W.Frag) : List V → Hp → VK → Prop := fun xs H Q => ∃ p ys, xs = [.ref p] ∧ ((SqL K H p ys ∧ ∀ l, H l = none → Q (.ref l) (upd H l (.tup ys))) ∨ (SqT K H p ys ∧ Q (.ref p) H))
section
variable {X : Cx} (K : PySem.W.Frag)
theorem k_len (h : X.K = K := by rfl) : CallR X (.builtin "len") (rLen K) := by subst h; exact call_len_seq
theorem k_isi (h : X.K = K := by rfl) : CallR X (.builtin "isinstance") (rIsi K) := by subst h; exact call_isi
theorem k_sum (h : X.K = K := by rfl) (hc : X.calm = true := by rfl) : CallR X (.builtin "sum") (rSum K) := by subst h; exact cr_sum hc
theorem k_min (h : X.K = K := by rfl) (hc : X.calm = true := by rfl) : CallR X (.builtin "min") (rMin K) := by subst h; exact cr_min hc
theorem k_max (h : X.K = K := by rfl) (hc : X.calm = true := by rfl) : CallR X (.builtin "max") (rMax K) := by subst h; exact cr_max hc
theorem k_sorted (h : X.K = K := by rfl) : CallR X (.builtin "sorted") (rSortedI K) := by subst h; exact cr_sortedI
theorem k_list (h : X.K = K := by rfl) : CallR X (.type "list") (rListO K) := by subst h; exact call_list_of
theorem k_tuple (h : X.K = K := by rfl) : CallR X (.type "tuple") (rTupO K) := by subst h; exact call_tuple_of
theorem k_ixL (h : X.K = K := by rfl) : IxR X (rIxL K) := by subst h; exact ix_list
theorem k_ixT (h : X.K = K := by rfl) : IxR X (rIxT K) := by subst h; exact ix_tup
theorem k_slL (h : X.K = K := by rfl) : SlR X (rSlL K) := by subst h; exact sl_list
theorem k_eqD (h : X.K = K := by rfl) (hu : X.A.units + 64 < cLine) : OpR X (compareOp .Eq) (rEqD K) := by subst h; exact op_eqD hu
theorem k_neD (h : X.K = K := by rfl) (hu : X.A.units + 64 < cLine) : OpR X (compareOp .NotEq) (rNeD K) := by subst h; exact op_neD hu
theorem k_in (h : X.K = K := by rfl) : OpR X (compareOp .In) (rIn K false) := by subst h; exact op_in_seq
theorem k_notIn (h : X.K = K := by rfl) : OpR X (compareOp .NotIn) (rIn K true) := by subst h; exact op_notIn_seq
theorem k_catT (h : X.K = K := by rfl) : OpR X (binaryOp .Add) (rCatA K) := by subst h; exact op_catA
def tTru (K : PySem.W.Frag) (ta : TE) : TT := fun σ H Q => ta σ H fun x H' => ∃ k, TruV K x H' k ∧ Q k H'
theorem pt_tru {a : Expr} {ta : TE} (ha : PE X a ta) (he : ∀ whole, isTrue a X.env whole = (do let v ← whole; standAt a.pos; holding [v] (truthy v)) := by intro _; rfl) (h : X.K = K := by rfl) : PT X a (tTru K ta) := by subst h; exact pt_truth ha he
end
/-! ### readings, applied -/
section
variable {σ : L2.St} {H : Hp} {Q : VK} {QT : Bool → Hp → Prop} {QA : List V → Hp → Prop} {K : PySem.W.Frag} {ta tb te : TE} {t u : TT} {tr : TA} {D : Ends} {s1 s2 : TS} {x y v : V}
theorem w_var {i : Nat} : tVar i σ H Q = ∃ v, σ[i]? = some (some v) ∧ Q v H := rfl
theorem w_c : tC v σ H Q = Q v H := rfl
theorem w_op {r : R2} : tOp r ta tb σ H Q = ta σ H fun x H1 => tb σ H1 fun y H2 => r x y H2 Q := rfl
theorem w_I0 {g : Int → Int → V} : rI0 g x y H Q = ∃ i j, x = .int i ∧ y = .int j ∧ Q (g i j) H := rfl
theorem w_I {C : Int → Int → Prop} {g : Int → Int → V} : rI C g x y H Q = ∃ i j, x = .int i ∧ y = .int j ∧ C i j ∧ Q (g i j) H := rfl
theorem w_un {r : V → Hp → VK → Prop} : tUn r ta σ H Q = ta σ H fun x H1 => r x H1 Q := rfl
theorem w_U {g : Int → V} : rU g x H Q = ∃ i, x = .int i ∧ Q (g i) H := rfl
theorem w_eq : rEq x y H Q = (scal x y = true ∧ Q (.bl (decide (x = y))) H) := rfl
theorem w_ne : rNe x y H Q = (scal x y = true ∧ Q (.bl (!decide (x = y))) H) := rfl
theorem w_test : tTest ta σ H QT = ta σ H fun x H1 => ∃ k, x = .bl k ∧ QT k H1 := rfl
theorem w_B : tB ta σ H QT = ta σ H fun x H1 => ∃ k, x = .bl k ∧ QT k H1 := rfl
theorem w_and : tAnd t u σ H QT = t σ H fun c H1 => if c = true then u σ H1 QT else QT false H1 := rfl
theorem w_or : tOr t u σ H QT = t σ H fun c H1 => if c = true then QT true H1 else u σ H1 QT := rfl
theorem w_not : tNot t σ H QT = t σ H fun c H1 => QT (!c) H1 := rfl
theorem w_andV : tAndV ta tb σ H Q = ta σ H fun x H1 => ∃ c, x = .bl c ∧ if c = true then tb σ H1 Q else Q (.bl false) H1 := rfl
theorem w_orV : tOrV ta tb σ H Q = ta σ H fun x H1 => ∃ c, x = .bl c ∧ if c = true then Q (.bl true) H1 else tb σ H1 Q := rfl
theorem w_notV : tNotV ta σ H Q = ta σ H fun x H1 => ∃ c, x = .bl c ∧ Q (.bl (!c)) H1 := rfl
theorem w_ife : tIf t ta tb σ H Q = t σ H fun c H1 => if c = true then ta σ H1 Q else tb σ H1 Q := rfl
theorem w_nil : tNil σ H QA = QA [] H := rfl
theorem w_cons : tCons ta tr σ H QA = ta σ H fun x H1 => tr σ H1 fun xs H2 => QA (x :: xs) H2 := rfl
theorem w_fn {sp : Sp} {E : XK} : tFn sp E tr σ H Q = tr σ H fun vs H1 => sp vs H1 Q E := rfl
theorem w_cb {r : List V → Hp → VK → Prop} : tCB r tr σ H Q = tr σ H fun vs H1 => r vs H1 Q := rfl
theorem w_tup : tTup tr σ H Q = tr σ H fun xs H1 => xs.length ≤ sizeLine ∧ ∀ p, H1 p = none → Q (.ref p) (upd H1 p (.tup xs)) := rfl
theorem w_lst : tLst tr σ H Q = tr σ H fun xs H1 => xs.length ≤ sizeLine ∧ ∀ p, H1 p = none → Q (.ref p) (upd H1 p (.lst xs)) := rfl
theorem w_seq : tSeq s1 s2 D σ H = s1 { D with nx := s2 D } σ H := rfl
theorem w_next : tNext D σ H = D.nx σ H := rfl
theorem w_brk : tBreak D σ H = D.bk σ H := rfl
theorem w_ct : tCont D σ H = D.ct σ H := rfl
theorem w_drop : tDrop te D σ H = te σ H fun _ H1 => D.nx σ H1 := rfl
theorem w_ret : tRet te D σ H = te σ H D.rt := rfl
theorem w_retN : tRetN D σ H = D.rt .non H := rfl
theorem w_ifS : tIfS t s1 s2 D σ H = t σ H fun b H1 => if b = true then s1 D σ H1 else s2 D σ H1 := rfl
theorem w_asgN {i : Nat} : tAsg te (gName i) D σ H = te σ H fun x H1 => D.nx (σ.set i (some x)) H1 := rfl
theorem w_asgT {n : Nat} {t : TGs} : tAsg te (gTup K n t) D σ H = te σ H fun v H1 => ∃ a xs, v = .ref a ∧ SqT K H1 a xs ∧ xs.length = n ∧ t xs σ H1 D.nx := rfl
theorem w_asgS {to ti : TE} {ts : TSet} : tAsg te (gSub to ti ts) D σ H = te σ H fun v H1 => to σ H1 fun o H2 => ti σ H2 fun i H3 => ts o i v H3 fun H4 => D.nx σ H4 := rfl
theorem w_gName {i : Nat} {QN : L2.St → Hp → Prop} : gName i v σ H QN = QN (σ.set i (some v)) H := rfl
theorem w_gNil {vs : List V} {QN : L2.St → Hp → Prop} : gNil vs σ H QN = (vs = [] ∧ QN σ H) := rfl
theorem w_gCons {g : TG} {gs : TGs} {vs : List V} {QN : L2.St → Hp → Prop} : gCons g gs vs σ H QN = ∃ v r, vs = v :: r ∧ g v σ H fun σ' H' => gs r σ' H' QN := rfl
theorem w_par {i j : Nat} : tPar i j tr D σ H = tr σ H fun vs H1 => ∃ v w, vs = [v, w] ∧ D.nx ((σ.set i (some v)).set j (some w)) H1 := rfl
theorem w_bits : tBits te σ H Q = te σ H fun x H1 => ∃ i, x = .int i ∧ Q (.int (Builtin.Int.intBits i : Nat)) H1 := rfl
theorem w_sl {r : V → Option Int → Option Int → Hp → VK → Prop} {tl th : TO} : tSl r te tl th σ H Q = te σ H fun x H1 => tl σ H1 fun l H2 => th σ H2 fun u H3 => r x l u H3 Q := rfl
theorem w_np {QO : Option Int → Hp → Prop} : tNoPart σ H QO = QO none H := rfl
theorem w_part {QO : Option Int → Hp → Prop} : tPart te σ H QO = te σ H fun x H1 => ∃ i, x = .int i ∧ QO (some i) H1 := rfl
theorem w_bm {T : String} {r : V → List V → Hp → VK → Prop} : tBM K T r te tr σ H Q = te σ H fun x H1 => tyV K T x H1 ∧ tr σ H1 fun xs H2 => r x xs H2 Q := rfl
theorem w_bm0 {T : String} {r : V → List V → Hp → VK → Prop} : tBM0 K T r te σ H Q = te σ H fun x H1 => tyV K T x H1 ∧ r x [] H1 Q := rfl
theorem w_cxK {CX : CXT} {P : Program} {w : World} {mg : PySem.Str → Option Value} {base : Heap} {N : List PySem.Str} {qual : PySem.Str} {scope : Scope} {f : Addr} {cd : Value} {A : Around} {outer : List Env} {s : Shared} {E : XK} : (cxOf CX P w K mg base N qual scope f cd A outer s H E).K = K := rfl
theorem w_aug {i : Nat} {ti : TIp} : tAug i te ti D σ H = ∃ x, σ[i]? = some (some x) ∧ te σ H fun y H1 => ti x y H1 fun z H2 => D.nx (σ.set i (some z)) H2 := rfl
theorem w_ipI {f : Int → Int → Int} : ipI f x y H Q = ∃ i j, x = .int i ∧ y = .int j ∧ Q (.int (f i j)) H := rfl
/-! ### readings that look into the heap -/
theorem r_ixL {p : Addr} {xs : List V} {i : Int} (h : SqL K H p xs) (ha : atI xs i = some v) (q : Q v H) : rIxL K (.ref p) (.int i) H Q := ⟨p, xs, i, v, rfl, rfl, h, ha, q⟩
theorem r_ixT {p : Addr} {xs : List V} {i : Int} (h : SqT K H p xs) (ha : atI xs i = some v) (q : Q v H) : rIxT K (.ref p) (.int i) H Q := ⟨p, xs, i, v, rfl, rfl, h, ha, q⟩
theorem r_slL {p : Addr} {xs : List V} {lo hi : Option Int} (h : SqL K H p xs) (q : ∀ l, H l = none → Q (.ref l) (upd H l (.lst (cutV xs lo hi)))) : rSlL K (.ref p) lo hi H Q := ⟨p, xs, rfl, h, q⟩
theorem r_sum {p : Addr} {ns : List Int} (h : SqL K H p (ns.map V.int)) (q : Q (.int ns.sum) H) : rSum K [.ref p] H Q := ⟨p, ns, rfl, h, q⟩
theorem r_setL {p : Addr} {xs : List V} {k : Int} {j : Nat} {QH : Hp → Prop} (h : H p = some (.lst xs)) (hj : ixN xs.length k = some j) (q : QH (upd H p (.lst (xs.set j v)))) : rSetL (.ref p) (.int k) v H QH := ⟨p, xs, k, j, rfl, rfl, h, hj, q⟩
theorem r_app {p : Addr} {xs : List V} (h : H p = some (.lst xs)) (hl : xs.length < sizeLine) (q : Q .non (upd H p (.lst (xs ++ [v])))) : rAppend (.ref p) [v] H Q := ⟨p, xs, v, rfl, rfl, h, hl, q⟩
theorem r_len {p : Addr} {xs : List V} (h : SqL K H p xs) (q : Q (.int (xs.length : Int)) H) : rLen K [.ref p] H Q := ⟨p, xs, rfl, .inl h, q⟩
theorem r_lenT {p : Addr} {xs : List V} (h : SqT K H p xs) (q : Q (.int (xs.length : Int)) H) : rLen K [.ref p] H Q := ⟨p, xs, rfl, .inr h, q⟩
theorem r_listL {p : Addr} {xs : List V} (h : SqL K H p xs) (q : ∀ l, H l = none → Q (.ref l) (upd H l (.lst xs))) : rListO K [.ref p] H Q := ⟨p, xs, rfl, .inl h, q⟩
theorem r_listT {p : Addr} {xs : List V} (h : SqT K H p xs) (q : ∀ l, H l = none → Q (.ref l) (upd H l (.lst xs))) : rListO K [.ref p] H Q := ⟨p, xs, rfl, .inr h, q⟩
theorem r_tupL {p : Addr} {xs : List V} (h : SqL K H p xs) (q : ∀ l, H l = none → Q (.ref l) (upd H l (.tup xs))) : rTupO K [.ref p] H Q := ⟨p, xs, rfl, .inl ⟨h, q⟩⟩
theorem r_tupT {p : Addr} {xs : List V} (h : SqT K H p xs) (q : Q (.ref p) H) : rTupO K [.ref p] H Q := ⟨p, xs, rfl, .inr ⟨h, q⟩⟩
theorem r_min {p : Addr} {ns : List Int} (h : SqL K H p (ns.map V.int)) (h0 : 0 < ns.length) (q : ∀ m, m ∈ ns → (∀ y, y ∈ ns → m ≤ y) → Q (.int m) H) : rMin K [.ref p] H Q := ⟨p, ns, rfl, h, h0, q⟩
theorem r_max {p : Addr} {ns : List Int} (h : SqL K H p (ns.map V.int)) (h0 : 0 < ns.length) (q : ∀ m, m ∈ ns → (∀ y, y ∈ ns → y ≤ m) → Q (.int m) H) : rMax K [.ref p] H Q := ⟨p, ns, rfl, h, h0, q⟩
theorem r_sortedI {p : Addr} {ns : List Int} (h : SqL K H p (ns.map V.int)) (q : ∀ (ns' : List Int) (l : Addr), ns'.Perm ns → ns'.Pairwise (· ≤ ·) → H l = none → Q (.ref l) (upd H l (.lst (ns'.map V.int)))) : rSortedI K [.ref p] H Q := ⟨p, ns, rfl, h, q⟩
theorem r_cat {l b : Addr} {xs zs : List V} (h1 : H l = some (.lst xs)) (h2 : H b = some (.lst zs)) (hl : xs.length + zs.length ≤ sizeLine) (q : ∀ p, H p = none → Q (.ref p) (upd H p (.lst (xs ++ zs)))) : rCat (.ref l) (.ref b) H Q := ⟨l, b, xs, zs, rfl, rfl, h1, h2, hl, q⟩
theorem r_catA {a b : Addr} {xs ys : List V} (h1 : SqT K H a xs) (h2 : SqT K H b ys) (hl : xs.length + ys.length ≤ sizeLine) (q0 : xs = [] → Q (.ref b) H) (q1 : xs ≠ [] → ys = [] → Q (.ref a) H) (q2 : xs ≠ [] → ys ≠ [] → ∀ p, H p = none → Q (.ref p) (upd H p (.tup (xs ++ ys)))) : rCatA K (.ref a) (.ref b) H Q :=
  ⟨a, b, xs, ys, rfl, rfl, h1, h2, hl, q0, q1, q2⟩
theorem ty_list {p : Addr} {xs : List V} (h : SqL K H p xs) : tyV K "list" (.ref p) H := .inl ⟨rfl, xs, h⟩
/-- a statement, then the rest, with a word between -/
theorem cut_m (Mid : L2.St → Hp → Prop) (h1 : ∀ N : L2.St → Hp → Prop, (∀ σ' H', Mid σ' H' → N σ' H') → s1 { D with nx := N } σ H) (h2 : ∀ σ' H', Mid σ' H' → s2 D σ' H') : Evl.tCut s1 s2 D σ H :=
  ⟨Mid, h1 Mid fun _ _ z => z, h2⟩
/-- a while, by a word with its measure; G: a turn is wanted, N: what is wanted behind it -/
theorem while_m {c : TT} (Pv : Nat → L2.St → Hp → Prop) (m0 : Nat) (h0 : Pv m0 σ H)
    (hs : ∀ m σ H, Pv m σ H → ∀ G : L2.St → Hp → Prop, (∀ σ1 H1, (∀ N : L2.St → Hp → Prop, (∀ m' σ' H', m' < m → Pv m' σ' H' → N σ' H') → s1 { D with nx := N, ct := N, bk := D.nx } σ1 H1) → G σ1 H1) →
      c σ H fun b H1 => if b = true then G σ H1 else D.nx σ H1) : tWhile c s1 D σ H :=
  ⟨Pv, ⟨m0, h0⟩, fun m σ H p => hs m σ H p (fun σ1 H1 => ∃ N : L2.St → Hp → Prop, (∀ σ' H', N σ' H' → ∃ m', m' < m ∧ Pv m' σ' H') ∧ s1 { D with nx := N, ct := N, bk := D.nx } σ1 H1)
    fun σ1 H1 h => ⟨_, fun _ _ z => z, h (fun σ' H' => ∃ m', m' < m ∧ Pv m' σ' H') fun m' _ _ h1 h2 => ⟨m', h1, h2⟩⟩⟩
/-- the turns of a for: over a list at a, a tuple at a, lo, lo + 1, .. (n of them) -/
def FJ (J : It) (g : TG) (s1 : TS) (D : Ends) (σ : L2.St) (H : Hp) : Prop := ∃ W : Nat → Nat → L2.St → Hp → Prop, (∃ m, W 0 m σ H) ∧ ∀ i m σ H, W i m σ H →
  (J.stop i H ∧ D.nx σ H) ∨ (J.go i H ∧ ∃ N : L2.St → Hp → Prop, (∀ σ' H', N σ' H' → ∃ m', m' < m ∧ W (i + 1) m' σ' H') ∧ ∀ x H', J.yld i H x H' → g x σ H' fun σ2 H2 => s1 { D with nx := N, ct := N, bk := D.nx } σ2 H2)
theorem w_tru : tTru K te σ H QT = te σ H fun x H1 => ∃ k, TruV K x H1 k ∧ QT k H1 := rfl
theorem w_forL {g : TG} : tFor (iList K te) g s1 D σ H = te σ H fun x H1 => ∃ a, x = .ref a ∧ (∃ xs, SqL K H1 a xs) ∧ FJ (Itl K a) g s1 D σ H1 := rfl
theorem w_forT {g : TG} : tFor (iTup K te) g s1 D σ H = te σ H fun x H1 => ∃ a, x = .ref a ∧ (∃ xs, SqT K H1 a xs) ∧ FJ (Itt K a) g s1 D σ H1 := rfl
theorem w_for1 {g : TG} : tFor (iRng1 tr) g s1 D σ H = tr σ H fun vs H1 => ∃ j : Int, vs = [.int j] ∧ -(2 ^ 62) ≤ j ∧ j < 2 ^ 62 ∧ FJ (Itr 0 j.toNat) g s1 D σ H1 := rfl
theorem w_for2 {g : TG} : tFor (iRng2 tr) g s1 D σ H = tr σ H fun vs H1 => ∃ i j : Int, vs = [.int i, .int j] ∧ (-(2 ^ 62) ≤ i ∧ i < 2 ^ 62 ∧ -(2 ^ 62) ≤ j ∧ j < 2 ^ 62) ∧ FJ (Itr i (j - i).toNat) g s1 D σ H1 := rfl
theorem w_for3 {g : TG} : tFor (iRng3 tr) g s1 D σ H = tr σ H fun vs H1 => ∃ (i j c : Int) (n : Nat), vs = [.int i, .int j, .int c] ∧ RgC i j c n ∧ FJ (Itc i c n) g s1 D σ H1 := rfl
theorem for_c {lo c : Int} {n : Nat} {g : TG} (Pv : Nat → L2.St → Hp → Prop) (h0 : Pv 0 σ H)
    (hs : ∀ i σ H, i < n → Pv i σ H → ∀ N : L2.St → Hp → Prop, (∀ σ' H', Pv (i + 1) σ' H' → N σ' H') → g (.int (lo + (i : Nat) * c)) σ H fun σ2 H2 => s1 { D with nx := N, ct := N, bk := D.nx } σ2 H2) (hd : ∀ σ H, Pv n σ H → D.nx σ H) :
    FJ (Itc lo c n) g s1 D σ H := for_rangeC Pv h0 (fun i σ H hx hp => hs i σ H hx hp _ fun _ _ z => z) hd
theorem for_l {a : Addr} {xs : List V} {g : TG} (Pv : Nat → L2.St → Hp → Prop) (h0 : Pv 0 σ H) (hl : ∀ i σ H, i ≤ xs.length → Pv i σ H → SqL K H a xs)
    (hs : ∀ i x σ H, xs[i]? = some x → Pv i σ H → ∀ N : L2.St → Hp → Prop, (∀ σ' H', Pv (i + 1) σ' H' → N σ' H') → g x σ H fun σ2 H2 => s1 { D with nx := N, ct := N, bk := D.nx } σ2 H2) (hd : ∀ σ H, Pv xs.length σ H → D.nx σ H) :
    FJ (Itl K a) g s1 D σ H := for_list Pv h0 hl (fun i x σ H hx hp => hs i x σ H hx hp _ fun _ _ z => z) hd
theorem for_t {a : Addr} {xs : List V} {g : TG} (Pv : Nat → L2.St → Hp → Prop) (h0 : Pv 0 σ H) (hl : ∀ i σ H, i ≤ xs.length → Pv i σ H → SqT K H a xs)
    (hs : ∀ i x σ H, xs[i]? = some x → Pv i σ H → ∀ N : L2.St → Hp → Prop, (∀ σ' H', Pv (i + 1) σ' H' → N σ' H') → g x σ H fun σ2 H2 => s1 { D with nx := N, ct := N, bk := D.nx } σ2 H2) (hd : ∀ σ H, Pv xs.length σ H → D.nx σ H) :
    FJ (Itt K a) g s1 D σ H := for_tup Pv h0 hl (fun i x σ H hx hp => hs i x σ H hx hp _ fun _ _ z => z) hd
theorem for_r {lo : Int} {n : Nat} {g : TG} (Pv : Nat → L2.St → Hp → Prop) (h0 : Pv 0 σ H)
    (hs : ∀ i σ H, i < n → Pv i σ H → ∀ N : L2.St → Hp → Prop, (∀ σ' H', Pv (i + 1) σ' H' → N σ' H') → g (.int (lo + i)) σ H fun σ2 H2 => s1 { D with nx := N, ct := N, bk := D.nx } σ2 H2) (hd : ∀ σ H, Pv n σ H → D.nx σ H) :
    FJ (Itr lo n) g s1 D σ H := for_range Pv h0 (fun i σ H hx hp => hs i σ H hx hp _ fun _ _ z => z) hd
end
/-! ### heaps -/
theorem ne_fresh {H : Hp} {a b : Addr} {o : HO} (h' : H b = none) (h : H a = some o) : a ≠ b := ne_of_none h h'
theorem upd_free {H : Hp} {a p : Addr} {o : HO} (h : upd H a o p = none) : H p = none := by
  unfold upd at h
  split at h
  · cases h
  · exact h
theorem upd_free_ne {H : Hp} {a p : Addr} {o : HO} (h : upd H a o p = none) : p ≠ a := by
  intro e
  rw [e, upd_same] at h
  cases h
theorem same_new {H : Hp} {p : Addr} {o : HO} (h : H p = none) : Same H (upd H p o) := fun b x e => by
  rw [upd_ne (ne_of_none e h)]
  exact e
/-- all that was tracked is as it was, but what stands at a -/
def Kp (a : Addr) (H H' : Hp) : Prop := ∀ b o, b ≠ a → H b = some o → H' b = some o
theorem Kp.refl (a : Addr) (H : Hp) : Kp a H H := fun _ _ _ h => h
theorem Kp.trans {a : Addr} {H H1 H2 : Hp} (x : Kp a H H1) (y : Kp a H1 H2) : Kp a H H2 := fun b o n h => y b o n (x b o n h)
theorem sm_kp {a : Addr} {H H' : Hp} (x : Same H H') : Kp a H H' := fun b o _ h => x b o h
theorem Kp.upd {a : Addr} {H H' : Hp} {o : HO} (x : Kp a H H') : Kp a H (upd H' a o) := fun b u n h => by
  rw [upd_ne n]
  exact x b u n h
theorem Kp.new {a p : Addr} {H H' : Hp} {o : HO} (x : Kp a H H') (hp : H p = none) : Kp a H (L2.upd H' p o) := fun b u n h => by
  rw [upd_ne (ne_of_none h hp)]
  exact x b u n h
theorem Kp.free {a p : Addr} {H H' : Hp} (x : Kp a H H') (n : p ≠ a) (hp : H' p = none) : H p = none := by
  cases q : H p with
  | none => rfl
  | some o =>
    rw [x p o n q] at hp
    cases hp
theorem Kp.seq {K : PySem.W.Frag} {a : Addr} {H H' : Hp} {l : Addr} {xs : List V} (x : Kp a H H') (n : l ≠ a) (h : SqL K H l xs) : SqL K H' l xs := by
  rcases h with (h | ⟨o, h⟩) | h
  · exact .inl (.inl (x _ _ n h))
  · exact .inl (.inr ⟨o, x _ _ n h⟩)
  · exact .inr h
theorem sm_new {p : Addr} {H H' : Hp} {o : HO} (x : Same H H') (hp : H p = none) : Same H (L2.upd H' p o) := fun b u h => by
  rw [upd_ne (ne_of_none h hp)]
  exact x b u h
theorem cut_to (xs : List V) (k : Nat) : cutV xs none (some (k : Int)) = xs.take k := by
  unfold cutV
  rw [HT.sIx_none, HT.sIx_nat]
  simp only [List.drop_zero, Nat.sub_zero]
  rcases Nat.le_total k xs.length with h | h
  · rw [Nat.min_eq_left h]
  · rw [Nat.min_eq_right h, List.take_of_length_le (Nat.le_refl _), List.take_of_length_le h]
theorem cut_from (xs : List V) (k : Nat) : cutV xs (some (k : Int)) none = xs.drop k := by
  unfold cutV
  rw [HT.sIx_none, HT.sIx_nat]
  rcases Nat.le_total k xs.length with h | h
  · rw [Nat.min_eq_left h, List.take_of_length_le (by simp)]
  · rw [Nat.min_eq_right h, List.drop_eq_nil_of_le (Nat.le_refl _), List.drop_eq_nil_of_le h]
    simp
theorem atI_mem {xs : List V} {i : Int} (h0 : 0 ≤ i) (h1 : i < xs.length) : ∃ v, v ∈ xs ∧ atI xs i = some v := by
  obtain ⟨j, rfl⟩ := Int.eq_ofNat_of_zero_le h0
  have hj : j < xs.length := by omega
  exact ⟨xs[j], List.getElem_mem hj, atI_nat (List.getElem?_eq_getElem hj)⟩
theorem atI_ints {ns : List Int} {i : Int} (h0 : 0 ≤ i) (h1 : i < ns.length) : ∃ z, z ∈ ns ∧ atI (ns.map V.int) i = some (.int z) := by
  obtain ⟨j, rfl⟩ := Int.eq_ofNat_of_zero_le h0
  have hj : j < ns.length := by omega
  exact ⟨ns[j], List.getElem_mem hj, atI_nat (by rw [List.getElem?_map, List.getElem?_eq_getElem hj]; rfl)⟩
/-! ### data that is compared: ints, tuples and lists of ints, pairs of ints -/
def dI (ns : List Int) : List PyData := ns.map PyData.int
theorem canLay_ints : ∀ ns : List Int, PyData.canLayAll0 (dI ns) = true
  | [] => by simp [dI, PyData.canLayAll0]
  | n :: r => by
    have := canLay_ints r
    simp only [dI] at this ⊢
    simp [PyData.canLayAll0, PyData.canLay0, this]
theorem depth_ints : ∀ ns : List Int, PyData.depthAll (dI ns) = 0
  | [] => by simp [dI, PyData.depthAll]
  | n :: r => by
    have := depth_ints r
    simp only [dI] at this ⊢
    simp [PyData.depthAll, PyData.depth, this]
theorem eqv_ints : ∀ ns ms : List Int, PyData.eqvAll (dI ns) (dI ms) = decide (ns = ms)
  | [], [] => by simp [dI, PyData.eqvAll]
  | [], _ :: _ => by simp [dI, PyData.eqvAll]
  | _ :: _, [] => by simp [dI, PyData.eqvAll]
  | n :: r, m :: t => by
    have := eqv_ints r t
    simp only [dI] at this ⊢
    simp only [List.map_cons, PyData.eqvAll, PyData.eqv, this, List.cons.injEq]
    rw [Bool.decide_and, Bool.beq_eq_decide_eq]
theorem dpAll_ints {K : PySem.W.Frag} {H : Hp} : ∀ ns : List Int, DpAll K H (ns.map V.int) (dI ns)
  | [] => .nil
  | n :: r => .cons (.int n) (dpAll_ints r)
theorem sh_tI (ns : List Int) : SeqAt.shaped (.tuple (dI ns)) = true := by
  unfold SeqAt.shaped
  simp [PyData.canLay0, PyData.depth, canLay_ints, depth_ints]
theorem sh_lI (ns : List Int) : SeqAt.shaped (.list (dI ns)) = true := by
  unfold SeqAt.shaped
  simp [PyData.canLay0, PyData.depth, canLay_ints, depth_ints]
/-- pairs of ints -/
def dP (ps : List (Int × Int)) : List PyData := ps.map fun p => PyData.tuple (dI [p.1, p.2])
theorem canLay_pairs : ∀ ps : List (Int × Int), PyData.canLayAll0 (dP ps) = true
  | [] => by simp [dP, PyData.canLayAll0]
  | n :: r => by
    have := canLay_pairs r
    simp only [dP] at this ⊢
    simp [PyData.canLayAll0, PyData.canLay0, this, canLay_ints]
theorem depth_pairs : ∀ ps : List (Int × Int), PyData.depthAll (dP ps) ≤ 1
  | [] => by simp [dP, PyData.depthAll]
  | n :: r => by
    have := depth_pairs r
    simp only [dP] at this ⊢
    simp only [List.map_cons, PyData.depthAll, PyData.depth, depth_ints]
    omega
theorem eqv_pairs : ∀ ns ms : List (Int × Int), PyData.eqvAll (dP ns) (dP ms) = decide (ns = ms)
  | [], [] => by simp [dP, PyData.eqvAll]
  | [], _ :: _ => by simp [dP, PyData.eqvAll]
  | _ :: _, [] => by simp [dP, PyData.eqvAll]
  | (a, b) :: r, (c, d) :: t => by
    have := eqv_pairs r t
    simp only [dP] at this ⊢
    simp only [List.map_cons, PyData.eqvAll, PyData.eqv, this, List.cons.injEq, eqv_ints, Prod.mk.injEq, and_true]
    simp only [Bool.decide_and]
theorem sh_tP (ns : List (Int × Int)) : SeqAt.shaped (.tuple (dP ns)) = true := by
  unfold SeqAt.shaped
  have := depth_pairs ns
  simp only [PyData.canLay0, PyData.depth, canLay_pairs, Bool.true_and, decide_eq_true_eq]
  exact decide_eq_true (by omega)
theorem sh_lP (ns : List (Int × Int)) : SeqAt.shaped (.list (dP ns)) = true := by
  unfold SeqAt.shaped
  have := depth_pairs ns
  simp only [PyData.canLay0, PyData.depth, canLay_pairs, Bool.true_and, decide_eq_true_eq]
  exact decide_eq_true (by omega)
/-- tuples of two ints stand at these addresses -/
def PairsAt (K : PySem.W.Frag) (H : Hp) (as : List Addr) (ps : List (Int × Int)) : Prop := as.length = ps.length ∧ ∀ (i : Nat) (a : Addr) (p : Int × Int), as[i]? = some a → ps[i]? = some p → SqT K H a [.int p.1, .int p.2]
theorem PairsAt.nil {K : PySem.W.Frag} {H : Hp} : PairsAt K H [] [] := ⟨rfl, fun _ _ _ h => by simp at h⟩
theorem PairsAt.snoc {K : PySem.W.Frag} {H : Hp} {as : List Addr} {ps : List (Int × Int)} {a : Addr} {p : Int × Int} (h : PairsAt K H as ps) (hp : SqT K H a [.int p.1, .int p.2]) : PairsAt K H (as ++ [a]) (ps ++ [p]) := by
  refine ⟨by simp [h.1], fun i b q h1 h2 => ?_⟩
  rcases Nat.lt_or_ge i as.length with c | c
  · rw [List.getElem?_append_left c] at h1
    rw [List.getElem?_append_left (by rw [← h.1]; exact c)] at h2
    exact h.2 i b q h1 h2
  · rw [List.getElem?_append_right c] at h1
    rw [List.getElem?_append_right (by rw [← h.1]; exact c)] at h2
    have e1 : i - as.length = 0 := by
      have := (List.getElem?_eq_some_iff.mp h1).1
      simp at this
      omega
    rw [← h.1, e1] at h2
    rw [e1] at h1
    simp at h1 h2
    subst h1 h2
    exact hp
theorem dpAll_pairs {K : PySem.W.Frag} {H : Hp} : ∀ {as : List Addr} {ps : List (Int × Int)}, PairsAt K H as ps → DpAll K H (as.map V.ref) (dP ps)
  | [], [], _ => .nil
  | [], _ :: _, h => by
    have := h.1
    simp at this
  | _ :: _, [], h => by
    have := h.1
    simp at this
  | a :: as, p :: ps, h => .cons (.tup (h.2 0 a p rfl rfl) (dpAll_ints [p.1, p.2])) (dpAll_pairs ⟨by have := h.1; simp at this; exact this, fun i b q h1 h2 => h.2 (i + 1) b q (by simpa using h1) (by simpa using h2)⟩)
/-- a number, or None -/
def vo : Option Nat → V
  | some n => .int (n : Int)
  | none => .non
def dO : Option Nat → PyData
  | some n => .int (n : Int)
  | none => .none
theorem dp_o {K : PySem.W.Frag} {H : Hp} : ∀ l : Option Nat, Dp K H (vo l) (dO l)
  | some n => .int _
  | none => .non
theorem eqv_o : ∀ l l' : Option Nat, PyData.eqv (dO l) (dO l') = decide (l = l')
  | some a, some b => by
    simp only [dO, PyData.eqv, Option.some.injEq, Int.natCast_inj, Bool.beq_eq_decide_eq]
  | some a, none => by simp [dO, PyData.eqv]
  | none, some b => by simp [dO, PyData.eqv]
  | none, none => by simp [dO, PyData.eqv]
theorem sh_o (l : Option Nat) (g : Int) : SeqAt.shaped (.tuple [dO l, .int g]) = true := by cases l <;> rfl
section
variable {K : PySem.W.Frag} {H : Hp} {Q : VK} {a b : Addr}
theorem r_eqT {ns ms : List Int} (hx : SqT K H a (ns.map V.int)) (hy : SqT K H b (ms.map V.int)) (q : Q (.bl (decide (ns = ms))) H) : rEqD K (.ref a) (.ref b) H Q :=
  ⟨.tuple (dI ns), .tuple (dI ms), .tup hx (dpAll_ints ns), .tup hy (dpAll_ints ms), sh_tI ns, sh_tI ms, by rw [PyData.eqv, eqv_ints]; exact q⟩
theorem r_neT {ns ms : List Int} (hx : SqT K H a (ns.map V.int)) (hy : SqT K H b (ms.map V.int)) (q : Q (.bl (!decide (ns = ms))) H) : rNeD K (.ref a) (.ref b) H Q :=
  ⟨.tuple (dI ns), .tuple (dI ms), .tup hx (dpAll_ints ns), .tup hy (dpAll_ints ms), sh_tI ns, sh_tI ms, by rw [PyData.eqv, eqv_ints]; exact q⟩
theorem r_eqL {ns ms : List Int} (hx : SqL K H a (ns.map V.int)) (hy : SqL K H b (ms.map V.int)) (q : Q (.bl (decide (ns = ms))) H) : rEqD K (.ref a) (.ref b) H Q :=
  ⟨.list (dI ns), .list (dI ms), .lst hx (dpAll_ints ns), .lst hy (dpAll_ints ms), sh_lI ns, sh_lI ms, by rw [PyData.eqv, eqv_ints]; exact q⟩
theorem r_neL {ns ms : List Int} (hx : SqL K H a (ns.map V.int)) (hy : SqL K H b (ms.map V.int)) (q : Q (.bl (!decide (ns = ms))) H) : rNeD K (.ref a) (.ref b) H Q :=
  ⟨.list (dI ns), .list (dI ms), .lst hx (dpAll_ints ns), .lst hy (dpAll_ints ms), sh_lI ns, sh_lI ms, by rw [PyData.eqv, eqv_ints]; exact q⟩
theorem r_eqTP {as bs : List Addr} {ns ms : List (Int × Int)} (hx : SqT K H a (as.map V.ref)) (ha : PairsAt K H as ns) (hy : SqT K H b (bs.map V.ref)) (hb : PairsAt K H bs ms) (q : Q (.bl (decide (ns = ms))) H) : rEqD K (.ref a) (.ref b) H Q :=
  ⟨.tuple (dP ns), .tuple (dP ms), .tup hx (dpAll_pairs ha), .tup hy (dpAll_pairs hb), sh_tP ns, sh_tP ms, by rw [PyData.eqv, eqv_pairs]; exact q⟩
theorem r_neTP {as bs : List Addr} {ns ms : List (Int × Int)} (hx : SqT K H a (as.map V.ref)) (ha : PairsAt K H as ns) (hy : SqT K H b (bs.map V.ref)) (hb : PairsAt K H bs ms) (q : Q (.bl (!decide (ns = ms))) H) : rNeD K (.ref a) (.ref b) H Q :=
  ⟨.tuple (dP ns), .tuple (dP ms), .tup hx (dpAll_pairs ha), .tup hy (dpAll_pairs hb), sh_tP ns, sh_tP ms, by rw [PyData.eqv, eqv_pairs]; exact q⟩
theorem r_eqLP {as bs : List Addr} {ns ms : List (Int × Int)} (hx : SqL K H a (as.map V.ref)) (ha : PairsAt K H as ns) (hy : SqL K H b (bs.map V.ref)) (hb : PairsAt K H bs ms) (q : Q (.bl (decide (ns = ms))) H) : rEqD K (.ref a) (.ref b) H Q :=
  ⟨.list (dP ns), .list (dP ms), .lst hx (dpAll_pairs ha), .lst hy (dpAll_pairs hb), sh_lP ns, sh_lP ms, by rw [PyData.eqv, eqv_pairs]; exact q⟩
theorem r_neLP {as bs : List Addr} {ns ms : List (Int × Int)} (hx : SqL K H a (as.map V.ref)) (ha : PairsAt K H as ns) (hy : SqL K H b (bs.map V.ref)) (hb : PairsAt K H bs ms) (q : Q (.bl (!decide (ns = ms))) H) : rNeD K (.ref a) (.ref b) H Q :=
  ⟨.list (dP ns), .list (dP ms), .lst hx (dpAll_pairs ha), .lst hy (dpAll_pairs hb), sh_lP ns, sh_lP ms, by rw [PyData.eqv, eqv_pairs]; exact q⟩
theorem r_neO {l l' : Option Nat} {g g' : Nat} (hx : SqT K H a [vo l, .int (g : Int)]) (hy : SqT K H b [vo l', .int (g' : Int)]) (q : Q (.bl (!decide (l = l' ∧ g = g'))) H) : rNeD K (.ref a) (.ref b) H Q :=
  ⟨.tuple [dO l, .int g], .tuple [dO l', .int g'], .tup hx (.cons (dp_o l) (.cons (.int _) .nil)), .tup hy (.cons (dp_o l') (.cons (.int _) .nil)), sh_o l g, sh_o l' g', by
    rw [PyData.eqv]
    simp only [PyData.eqvAll, eqv_o, PyData.eqv, Bool.and_true]
    have : (decide (l = l') && ((g : Int) == (g' : Int))) = decide (l = l' ∧ g = g') := by
      rw [Bool.decide_and, Bool.beq_eq_decide_eq]
      simp only [Int.natCast_inj]
    rw [this]
    exact q⟩
theorem r_eqO {l l' : Option Nat} {g g' : Nat} (hx : SqT K H a [vo l, .int (g : Int)]) (hy : SqT K H b [vo l', .int (g' : Int)]) (q : Q (.bl (decide (l = l' ∧ g = g'))) H) : rEqD K (.ref a) (.ref b) H Q :=
  ⟨.tuple [dO l, .int g], .tuple [dO l', .int g'], .tup hx (.cons (dp_o l) (.cons (.int _) .nil)), .tup hy (.cons (dp_o l') (.cons (.int _) .nil)), sh_o l g, sh_o l' g', by
    rw [PyData.eqv]
    simp only [PyData.eqvAll, eqv_o, PyData.eqv, Bool.and_true]
    have : (decide (l = l') && ((g : Int) == (g' : Int))) = decide (l = l' ∧ g = g') := by
      rw [Bool.decide_and, Bool.beq_eq_decide_eq]
      simp only [Int.natCast_inj]
    rw [this]
    exact q⟩
theorem ty_non : TyX K H .non (.type "NoneType") := .base .non
/-- isinstance of a built-in class -/
theorem r_isi {x : V} {T n : String} {c : Bool} (ty : TyX K H x (.type T)) (hk : kitB T n = some c) (q : Q (.bl c) H) : rIsi K [x, .ty n] H Q := ⟨x, .ty n, .type T, .type n, c, rfl, .ty n, ty, kit_ty hk, q⟩
theorem ty_int (i : Int) : TyX K H (.int i) (.type "int") := .base (.int i)
theorem ty_bl (c : Bool) : TyX K H (.bl c) (.type "bool") := .base (.bl c)
theorem ty_str (c : PySem.Str) : TyX K H (.str c) (.type "str") := .base (.str c)
theorem ty_tup {xs : List V} (h : SqT K H a xs) : TyX K H (.ref a) (.type "tuple") := by
  rcases h with (h | ⟨o, h⟩) | ⟨o, its, n, h1, h2, _⟩
  · exact .base (.tup h)
  · exact .fTuple h
  · exact .kTuple h1 h2
theorem ty_lst {xs : List V} (h : SqL K H a xs) : TyX K H (.ref a) (.type "list") := by
  rcases h with (h | ⟨o, h⟩) | ⟨o, its, n, h1, h2, _⟩
  · exact .base (.lst h)
  · exact .base (.frz h)
  · exact .kList h1 h2
end
/-- all of these stand at tuples of a number to 10 ** 40 and an exponent from 1 to 200 -/
def Jobs (H : Hp) (xs : List V) : Prop := ∀ x ∈ xs, ∃ (a : Addr) (n e : Nat), x = .ref a ∧ H a = some (.tup [.int n, .int e]) ∧ n ≤ 10 ^ 40 ∧ 1 ≤ e ∧ e ≤ 200
theorem Jobs.kp {H H' : Hp} {xs : List V} {d : Addr} (h : Jobs H xs) (k : Kp d H H') (hd : ∃ ys, H d = some (.lst ys)) : Jobs H' xs := fun x hx => by
  obtain ⟨a, n, e, h1, h2, h3⟩ := h x hx
  obtain ⟨ys, hy⟩ := hd
  exact ⟨a, n, e, h1, k _ _ (ne_of h2 hy (by intro z; cases z)) h2, h3⟩
theorem Jobs.same {H H' : Hp} {xs : List V} (h : Jobs H xs) (k : Same H H') : Jobs H' xs := fun x hx => by
  obtain ⟨a, n, e, h1, h2, h3⟩ := h x hx
  exact ⟨a, n, e, h1, k _ _ h2, h3⟩
/-- a value that is no truth -/
def tyFalse (K : PySem.W.Frag) (x : V) (H : Hp) : Prop := ∃ T : String, TyX K H x (.type T) ∧ kitB T "bool" = some false
/-! ### a comprehension whose turns change nothing that was there -/
section
variable {σ : L2.St} {H : Hp} {Q : VK} {K : PySem.W.Frag} {te tl : TE} {tt : TT} {tr : TA} {g : TG} {vs : List Nat}
/-- the turns of a comprehension -/
def LJ (J : It) (g : TG) (tt : TT) (te : TE) (vs : List Nat) (σ : L2.St) (H1 : Hp) (Q : VK) : Prop := ∀ D, H1 D = none → ∃ W : Nat → Nat → Hp → Prop, (∃ m, W 0 m (upd H1 D (.lst []))) ∧ ∀ i m H, W i m H →
  (J.stop i H ∧ Q (.ref D) H) ∨ (J.go i H ∧ ∃ Nx : Hp → Prop, (∀ H', Nx H' → ∃ m', m' < m ∧ W (i + 1) m' H') ∧ ∀ x H', J.yld i H x H' → g x (wipe σ vs) H' fun σ2 H2 => wipe σ2 vs = wipe σ vs ∧ tt σ2 H2 fun b H3 =>
    if b = true then te σ2 H3 fun y H4 => ∃ acc, H4 D = some (.lst acc) ∧ acc.length < sizeLine ∧ Nx (upd H4 D (.lst (acc ++ [y]))) else Nx H3)
theorem w_lcL : tLc (iList K tl) g tt te vs σ H Q = tl σ H fun x H1 => ∃ a, x = .ref a ∧ (∃ xs, SqL K H1 a xs) ∧ LJ (Itl K a) g tt te vs σ H1 Q := rfl
theorem w_lcT : tLc (iTup K tl) g tt te vs σ H Q = tl σ H fun x H1 => ∃ a, x = .ref a ∧ (∃ xs, SqT K H1 a xs) ∧ LJ (Itt K a) g tt te vs σ H1 Q := rfl
theorem w_lc1 : tLc (iRng1 tr) g tt te vs σ H Q = tr σ H fun xs H1 => ∃ j : Int, xs = [.int j] ∧ -(2 ^ 62) ≤ j ∧ j < 2 ^ 62 ∧ LJ (Itr 0 j.toNat) g tt te vs σ H1 Q := rfl
theorem w_lc2 : tLc (iRng2 tr) g tt te vs σ H Q = tr σ H fun xs H1 => ∃ i j : Int, xs = [.int i, .int j] ∧ (-(2 ^ 62) ≤ i ∧ i < 2 ^ 62 ∧ -(2 ^ 62) ≤ j ∧ j < 2 ^ 62) ∧ LJ (Itr i (j - i).toNat) g tt te vs σ H1 Q := rfl
theorem w_lc3 : tLc (iRng3 tr) g tt te vs σ H Q = tr σ H fun xs H1 => ∃ (i j c : Int) (n : Nat), xs = [.int i, .int j, .int c] ∧ RgC i j c n ∧ LJ (Itc i c n) g tt te vs σ H1 Q := rfl
theorem w_yes {QT : Bool → Hp → Prop} : tYes σ H QT = QT true H := rfl
theorem same_seqT {K : PySem.W.Frag} {H H' : Hp} {a : Addr} {xs : List V} (e : Same H H') (h : SqT K H a xs) : SqT K H' a xs := by
  rcases h with (h | ⟨o, h⟩) | h
  · exact .inl (.inl (e _ _ h))
  · exact .inl (.inr ⟨o, e _ _ h⟩)
  · exact .inr h
theorem Kp.seqT {K : PySem.W.Frag} {a : Addr} {H H' : Hp} {l : Addr} {xs : List V} (x : Kp a H H') (n : l ≠ a) (h : SqT K H l xs) : SqT K H' l xs := by
  rcases h with (h | ⟨o, h⟩) | h
  · exact .inl (.inl (x _ _ n h))
  · exact .inl (.inr ⟨o, x _ _ n h⟩)
  · exact .inr h
theorem PairsAt.same {K : PySem.W.Frag} {H H' : Hp} {as : List Addr} {ps : List (Int × Int)} (h : PairsAt K H as ps) (e : Same H H') : PairsAt K H' as ps := ⟨h.1, fun i a p h1 h2 => same_seqT e (h.2 i a p h1 h2)⟩
theorem filt_take {α β : Type} (f : α → Option β) {xs : List α} {i : Nat} {x : α} (h : xs[i]? = some x) : (xs.take (i + 1)).filterMap f = (xs.take i).filterMap f ++ (f x).toList := by
  rw [List.take_add_one, h, List.filterMap_append]
  cases e : f x <;> simp [e]
/-- f tells of an item what is put into the list, if anything -/
theorem lc_l {a : Addr} {xs : List V} (f : V → Option V) (hx : SqL K H a xs) (hl : xs.length < sizeLine)
    (hs : ∀ (i : Nat) (x : V) (H' : Hp), xs[i]? = some x → Same H H' → ∀ (N0 : Hp → Prop) (N1 : VK), (f x = none → ∀ H2, Same H' H2 → N0 H2) → (∀ y, f x = some y → ∀ H2, Same H' H2 → N1 y H2) →
      g x (wipe σ vs) H' fun σ2 H2 => wipe σ2 vs = wipe σ vs ∧ tt σ2 H2 fun b H3 => if b = true then te σ2 H3 N1 else N0 H3)
    (q : ∀ D H', H D = none → Same H H' → H' D = some (.lst (xs.filterMap f)) → Q (.ref D) H') : LJ (Itl K a) g tt te vs σ H Q := by
  intro D hD
  refine lc_list (K := K) (a := a) (xs := xs) (fun i H' => Same H H' ∧ H' D = some (.lst ((xs.take i).filterMap f))) ⟨same_new hD, by rw [upd_same]; simp⟩ (fun i H' _ p => p.1.seq hx) ?_ ?_
  · rintro i x H' hi ⟨p1, p2⟩
    have hlen : ((xs.take i).filterMap f).length < sizeLine := Nat.lt_of_le_of_lt (Nat.le_trans (List.length_filterMap_le _ _) (by rw [List.length_take]; exact Nat.min_le_right _ _)) hl
    refine hs i x H' hi p1 _ _ (fun hf H2 e2 => ⟨p1.trans e2, ?_⟩) fun y hf H2 e2 => ⟨_, e2 _ _ p2, hlen, fun b o h => ?_, ?_⟩
    · rw [e2 _ _ p2, filt_take f hi, hf]
      simp
    · rw [upd_ne (ne_of_none h hD)]
      exact e2 _ _ (p1 _ _ h)
    · rw [upd_same, filt_take f hi, hf]
      rfl
  · rintro H' ⟨p1, p2⟩
    rw [List.take_length] at p2
    exact q D H' hD p1 p2
theorem lc_t {a : Addr} {xs : List V} (f : V → Option V) (hx : SqT K H a xs) (hl : xs.length < sizeLine)
    (hs : ∀ (i : Nat) (x : V) (H' : Hp), xs[i]? = some x → Same H H' → ∀ (N0 : Hp → Prop) (N1 : VK), (f x = none → ∀ H2, Same H' H2 → N0 H2) → (∀ y, f x = some y → ∀ H2, Same H' H2 → N1 y H2) →
      g x (wipe σ vs) H' fun σ2 H2 => wipe σ2 vs = wipe σ vs ∧ tt σ2 H2 fun b H3 => if b = true then te σ2 H3 N1 else N0 H3)
    (q : ∀ D H', H D = none → Same H H' → H' D = some (.lst (xs.filterMap f)) → Q (.ref D) H') : LJ (Itt K a) g tt te vs σ H Q := by
  intro D hD
  refine lc_tup (K := K) (a := a) (xs := xs) (fun i H' => Same H H' ∧ H' D = some (.lst ((xs.take i).filterMap f))) ⟨same_new hD, by rw [upd_same]; simp⟩ (fun i H' _ p => same_seqT p.1 hx) ?_ ?_
  · rintro i x H' hi ⟨p1, p2⟩
    have hlen : ((xs.take i).filterMap f).length < sizeLine := Nat.lt_of_le_of_lt (Nat.le_trans (List.length_filterMap_le _ _) (by rw [List.length_take]; exact Nat.min_le_right _ _)) hl
    refine hs i x H' hi p1 _ _ (fun hf H2 e2 => ⟨p1.trans e2, ?_⟩) fun y hf H2 e2 => ⟨_, e2 _ _ p2, hlen, fun b o h => ?_, ?_⟩
    · rw [e2 _ _ p2, filt_take f hi, hf]
      simp
    · rw [upd_ne (ne_of_none h hD)]
      exact e2 _ _ (p1 _ _ h)
    · rw [upd_same, filt_take f hi, hf]
      rfl
  · rintro H' ⟨p1, p2⟩
    rw [List.take_length] at p2
    exact q D H' hD p1 p2
/-- over lo, lo + 1, .. (n of them), by the place -/
theorem lc_r {lo : Int} {n : Nat} (f : Nat → Option V) (hl : n < sizeLine)
    (hs : ∀ (i : Nat) (H' : Hp), i < n → Same H H' → ∀ (N0 : Hp → Prop) (N1 : VK), (f i = none → ∀ H2, Same H' H2 → N0 H2) → (∀ y, f i = some y → ∀ H2, Same H' H2 → N1 y H2) →
      g (.int (lo + i)) (wipe σ vs) H' fun σ2 H2 => wipe σ2 vs = wipe σ vs ∧ tt σ2 H2 fun b H3 => if b = true then te σ2 H3 N1 else N0 H3)
    (q : ∀ D H', H D = none → Same H H' → H' D = some (.lst ((List.range n).filterMap f)) → Q (.ref D) H') : LJ (Itr lo n) g tt te vs σ H Q := by
  intro D hD
  refine lc_range (lo := lo) (n := n) (fun i H' => Same H H' ∧ H' D = some (.lst ((List.range i).filterMap f))) ⟨same_new hD, by rw [upd_same]; simp⟩ ?_ ?_
  · rintro i H' hi ⟨p1, p2⟩
    have hlen : ((List.range i).filterMap f).length < sizeLine := Nat.lt_of_le_of_lt (List.length_filterMap_le _ _) (by rw [List.length_range]; omega)
    have hf1 : (List.range (i + 1)).filterMap f = (List.range i).filterMap f ++ (f i).toList := by
      rw [List.range_succ, List.filterMap_append]
      cases e : f i <;> simp [e]
    refine hs i H' hi p1 _ _ (fun hf H2 e2 => ⟨p1.trans e2, ?_⟩) fun y hf H2 e2 => ⟨_, e2 _ _ p2, hlen, fun b o h => ?_, ?_⟩
    · rw [e2 _ _ p2, hf1, hf]
      simp
    · rw [upd_ne (ne_of_none h hD)]
      exact e2 _ _ (p1 _ _ h)
    · rw [upd_same, hf1, hf]
      rfl
  · rintro H' ⟨p1, p2⟩
    exact q D H' hD p1 p2
/-- a comprehension by an invariant over what is made so far -/
theorem lc_rI {lo : Int} {n : Nat} (Pv : Nat → List V → Hp → Prop) (h0 : ∀ D, H D = none → Pv 0 [] (upd H D (.lst [])))
    (hs : ∀ (i : Nat) (acc : List V) (D : Addr) (H' : Hp), i < n → H D = none → H' D = some (.lst acc) → Pv i acc H' → ∀ (N0 : Hp → Prop) (N1 : VK), (∀ H2, H2 D = some (.lst acc) → Pv (i + 1) acc H2 → N0 H2) →
      (∀ y H2, H2 D = some (.lst acc) → acc.length < sizeLine → Pv (i + 1) (acc ++ [y]) (upd H2 D (.lst (acc ++ [y]))) → N1 y H2) →
      g (.int (lo + i)) (wipe σ vs) H' fun σ2 H2 => wipe σ2 vs = wipe σ vs ∧ tt σ2 H2 fun b H3 => if b = true then te σ2 H3 N1 else N0 H3)
    (q : ∀ D acc H', H D = none → H' D = some (.lst acc) → Pv n acc H' → Q (.ref D) H') : LJ (Itr lo n) g tt te vs σ H Q := by
  intro D hD
  refine lc_range (lo := lo) (n := n) (fun i H' => ∃ acc, H' D = some (.lst acc) ∧ Pv i acc H') ⟨[], upd_same, h0 D hD⟩ ?_ ?_
  · rintro i H' hi ⟨acc, p1, p2⟩
    exact hs i acc D H' hi hD p1 p2 _ _ (fun H2 e h => ⟨acc, e, h⟩) fun y H2 e hl h => ⟨acc, e, hl, _, upd_same, h⟩
  · rintro H' ⟨acc, p1, p2⟩
    exact q D acc H' hD p1 p2
theorem lc_lI {a : Addr} {xs : List V} (Pv : Nat → List V → Hp → Prop) (h0 : ∀ D, H D = none → Pv 0 [] (upd H D (.lst []))) (hl : ∀ i acc H', i ≤ xs.length → Pv i acc H' → SqL K H' a xs)
    (hs : ∀ (i : Nat) (x : V) (acc : List V) (D : Addr) (H' : Hp), xs[i]? = some x → H D = none → H' D = some (.lst acc) → Pv i acc H' → ∀ (N0 : Hp → Prop) (N1 : VK), (∀ H2, H2 D = some (.lst acc) → Pv (i + 1) acc H2 → N0 H2) →
      (∀ y H2, H2 D = some (.lst acc) → acc.length < sizeLine → Pv (i + 1) (acc ++ [y]) (upd H2 D (.lst (acc ++ [y]))) → N1 y H2) →
      g x (wipe σ vs) H' fun σ2 H2 => wipe σ2 vs = wipe σ vs ∧ tt σ2 H2 fun b H3 => if b = true then te σ2 H3 N1 else N0 H3)
    (q : ∀ D acc H', H D = none → H' D = some (.lst acc) → Pv xs.length acc H' → Q (.ref D) H') : LJ (Itl K a) g tt te vs σ H Q := by
  intro D hD
  refine lc_list (K := K) (a := a) (xs := xs) (fun i H' => ∃ acc, H' D = some (.lst acc) ∧ Pv i acc H') ⟨[], upd_same, h0 D hD⟩ (fun i H' hi ⟨acc, _, p⟩ => hl i acc H' hi p) ?_ ?_
  · rintro i x H' hi ⟨acc, p1, p2⟩
    exact hs i x acc D H' hi hD p1 p2 _ _ (fun H2 e h => ⟨acc, e, h⟩) fun y H2 e hl h => ⟨acc, e, hl, _, upd_same, h⟩
  · rintro H' ⟨acc, p1, p2⟩
    exact q D acc H' hD p1 p2
end
/-- range(i, j, c) upwards -/
theorem RgC.up {i j c : Int} (ha : -(2 ^ 62) ≤ i) (ha' : i < 2 ^ 62) (hb : -(2 ^ 62) ≤ j) (hb' : j < 2 ^ 62) (hc : 0 < c) (hc' : c < 1073741824) : RgC i j c (if i < j then ((j - i - 1) / c + 1).toNat else 0) := by
  have hd : i < j → 0 ≤ (j - i - 1) / c ∧ (j - i - 1) / c ≤ j - i - 1 := fun h => ⟨Int.ediv_nonneg (by omega) (by omega), Int.ediv_le_self _ (by omega)⟩
  refine ⟨by omega, by omega, ?_, ?_⟩
  · unfold Builtin.Range.small
    simp only [Builtin.Range.rangeFitsLong, Bool.and_eq_true, Bool.or_eq_true, decide_eq_true_eq, beq_iff_eq, Builtin.Range.rangeSize, show c > 0 from hc, if_true]
    split
    · rename_i h
      obtain ⟨h1, h2⟩ := hd h
      generalize (j - i - 1) / c = z at h1 h2 ⊢
      omega
    · omega
  · simp only [Builtin.Range.rangeSize, show c > 0 from hc, if_true]
    split
    · rename_i h
      obtain ⟨h1, h2⟩ := hd h
      omega
    · rfl
theorem bits_nat {n : Nat} (h : 1 ≤ n) : Builtin.Int.intBits (n : Int) = n.log2 + 1 := by
  unfold Builtin.Int.intBits
  rw [if_neg (by simp; omega)]
  rfl
theorem bits_0 : Builtin.Int.intBits 0 = 0 := rfl
theorem filt_ints (f : Nat → Int) (k : Nat) : (List.range k).filterMap (fun i => some (V.int (f i))) = ((List.range k).map f).map V.int := by
  rw [List.map_map]
  exact congrFun (List.filterMap_eq_map (f := V.int ∘ f)) _
theorem size_le {n : Nat} (h : n ≤ 1000000) : n < sizeLine := Nat.lt_of_le_of_lt h (by decide)
theorem size_le' {n : Nat} (h : n ≤ 1000000) : n ≤ sizeLine := Nat.le_of_lt (size_le h)
/-- the items of a list of ints that are kept -/
def keepI (p : Int → Bool) : V → Option V
  | .int z => if p z = true then some (.int z) else none
  | _ => none
theorem filt_keep (p : Int → Bool) : ∀ ns : List Int, (ns.map V.int).filterMap (keepI p) = (ns.filter p).map V.int
  | [] => rfl
  | n :: r => by
    have ih := filt_keep p r
    simp only [List.map_cons, List.filterMap_cons, keepI, List.filter_cons]
    by_cases h : p n = true
    · rw [if_pos h, if_pos h]
      simp only [ih, List.map_cons]
    · rw [if_neg h, if_neg h]
      simp only [ih]
theorem int_at {ns : List Int} {i : Nat} {x : V} (h : (ns.map V.int)[i]? = some x) : ∃ n, n ∈ ns ∧ x = V.int n := by
  rw [List.getElem?_map] at h
  cases e : ns[i]? with
  | none => simp [e] at h
  | some n =>
    simp [e] at h
    exact ⟨n, List.mem_of_getElem? e, h.symm⟩
def ofN (ns : List Nat) : List Int := List.map (fun n : Nat => (n : Int)) ns
theorem ofN_filter (p : Int → Bool) (ns : List Nat) : (ofN ns).filter p = ofN (ns.filter fun n => p n) := by
  unfold ofN
  rw [List.filter_map]
  rfl
/-! ### sizes -/
theorem cmulN {a b : Nat} (h : a.log2 + b.log2 < 1000000) : CMulW (a : Int) (b : Int) := h
end Pn
namespace Pn
/-! ### powers -/
theorem tk_odd {f b e X B : Nat} (h : f * b ^ e = X) (hX : X ≤ B) (he : 1 ≤ e) : f * b ≤ B := by
  rcases Nat.eq_zero_or_pos b with rfl | hb
  · omega
  · have : b ≤ b ^ e := Nat.le_self_pow (by omega) b
    calc f * b ≤ f * b ^ e := Nat.mul_le_mul_left f this
      _ ≤ B := by omega
theorem tk_sq {f b e X B : Nat} (h : f * b ^ e = X) (hX : X ≤ B) (he : 2 ≤ e) (hf : f = 0 → b = 0) : b * b ≤ B := by
  rcases Nat.eq_zero_or_pos b with rfl | hb
  · omega
  · have h1 : b ^ 2 ≤ b ^ e := Nat.pow_le_pow_right hb he
    have hf1 : 1 ≤ f := by omega
    have h2 : 1 * b ^ e ≤ f * b ^ e := Nat.mul_le_mul_right _ hf1
    have h3 : b * b = b ^ 2 := by rw [Nat.pow_two]
    omega
theorem tk_step1 {f b e X : Nat} (h : f * b ^ e = X) (he : e % 2 = 1) : f * b * (b * b) ^ (e / 2) = X := by
  have e1 : e = 2 * (e / 2) + 1 := by omega
  have e2 : b ^ e = b * (b * b) ^ (e / 2) := by
    conv => lhs; rw [e1]
    rw [Nat.pow_succ, Nat.pow_mul, Nat.pow_two, Nat.mul_comm]
  rw [Nat.mul_assoc, ← e2, h]
theorem tk_step0 {f b e X : Nat} (h : f * b ^ e = X) (he : e % 2 = 0) : f * (b * b) ^ (e / 2) = X := by
  have e1 : e = 2 * (e / 2) := by omega
  have e2 : b ^ e = (b * b) ^ (e / 2) := by
    conv => lhs; rw [e1]
    rw [Nat.pow_mul, Nat.pow_two]
  rw [← e2, h]
theorem log2_le_of_le {x n : Nat} (h : x ≤ 2 ^ n) : x.log2 ≤ n := by
  rcases Nat.eq_zero_or_pos x with rfl | hx
  · simp
  · have : x.log2 < n + 1 := (Nat.log2_lt (by omega)).mpr (by rw [Nat.pow_succ]; omega)
    omega
theorem shl_one (j : Nat) : (1 : Int) * 2 ^ ((j : Int)).toNat = ((2 ^ j : Nat) : Int) := by
  rw [Int.toNat_natCast, Int.one_mul, Int.natCast_pow]
  rfl
/-! ### roots by halving -/
theorem root_unique {n e r s : Nat} (he : 1 ≤ e) (h1 : r ^ e ≤ n) (h2 : n < (r + 1) ^ e) (h3 : s ^ e ≤ n) (h4 : n < (s + 1) ^ e) : r = s := by
  have a : r < s + 1 := (Nat.pow_lt_pow_iff_left (by omega : e ≠ 0)).mp (Nat.lt_of_le_of_lt h1 h4)
  have b : s < r + 1 := (Nat.pow_lt_pow_iff_left (by omega : e ≠ 0)).mp (Nat.lt_of_le_of_lt h3 h2)
  omega
end Pn
namespace Pn
/-! ### the root of a number by an exponent; all ways in which it is a power -/
def rootD (n e : Nat) : Nat → Nat
  | 0 => 0
  | k + 1 => if (k + 1) ^ e ≤ n then k + 1 else rootD n e k
theorem rootD_spec (n e : Nat) (he : 1 ≤ e) : ∀ k, rootD n e k ≤ k ∧ (rootD n e k) ^ e ≤ n ∧ ∀ j, rootD n e k < j → j ≤ k → n < j ^ e
  | 0 => ⟨Nat.le_refl _, by rw [rootD, Nat.zero_pow (by omega)]; omega, fun j h1 h2 => by omega⟩
  | k + 1 => by
    obtain ⟨h1, h2, h3⟩ := rootD_spec n e he k
    rw [rootD]
    split
    · rename_i h
      exact ⟨Nat.le_refl _, h, fun j a b => by omega⟩
    · rename_i h
      refine ⟨by omega, h2, fun j a b => ?_⟩
      rcases Nat.lt_or_ge j (k + 1) with c | c
      · exact h3 j a (by omega)
      · have : j = k + 1 := by omega
        subst this
        omega
def rootN (n e : Nat) : Nat := rootD n e n
theorem rootN_le {n e : Nat} (he : 1 ≤ e) : (rootN n e) ^ e ≤ n := (rootD_spec n e he n).2.1
theorem rootN_lt {n e : Nat} (he : 1 ≤ e) : n < (rootN n e + 1) ^ e := by
  obtain ⟨h1, h2, h3⟩ := rootD_spec n e he n
  unfold rootN
  rcases Nat.lt_or_ge (rootD n e n) n with c | c
  · exact h3 _ (by omega) (by omega)
  · have : rootD n e n = n := by omega
    rw [this]
    exact Nat.lt_of_lt_of_le (Nat.lt_succ_self n) (Nat.le_self_pow (by omega) _)
theorem rootN_is {n e r : Nat} (he : 1 ≤ e) (h1 : r ^ e ≤ n) (h2 : n < (r + 1) ^ e) : r = rootN n e := root_unique he h1 h2 (rootN_le he) (rootN_lt he)
theorem rootN_ge {n e b : Nat} (he : 1 ≤ e) (h : b ^ e ≤ n) : b ≤ rootN n e := by
  have : b < rootN n e + 1 := (Nat.pow_lt_pow_iff_left (by omega : e ≠ 0)).mp (Nat.lt_of_le_of_lt h (rootN_lt he))
  omega
theorem rootN_pow {b e : Nat} (he : 1 ≤ e) : rootN (b ^ e) e = b := (rootN_is he (Nat.le_refl _) (Nat.pow_lt_pow_left (Nat.lt_succ_self b) (by omega))).symm
theorem rootN_gt1 {n e : Nat} (he : 1 ≤ e) : 1 < rootN n e ↔ 2 ^ e ≤ n := by
  constructor
  · intro h
    exact Nat.le_trans (Nat.pow_le_pow_left h e) (rootN_le he)
  · intro h
    exact rootN_ge he h
def wayAt (n e : Nat) : Option (Nat × Nat) := if (rootN n e) ^ e = n then some (rootN n e, e) else none
/-- the ways by exponents 2, .., k + 1 -/
def waysTo (n k : Nat) : List (Nat × Nat) := (List.range k).filterMap fun i => wayAt n (i + 2)
theorem waysTo_succ (n k : Nat) : waysTo n (k + 1) = waysTo n k ++ (wayAt n (k + 2)).toList := by
  unfold waysTo
  rw [List.range_succ, List.filterMap_append]
  cases e : wayAt n (k + 2) <;> simp [e]
def waysN (n : Nat) : List (Nat × Nat) := if n = 0 then [] else if n = 1 then [(1, 2)] else waysTo n (n.log2 - 1)
def greatestN (n : Nat) : Nat × Nat := (waysN n).getLast?.getD (n, 1)
theorem last_filt {α : Type} {f : Nat → Option α} {v : α} {i : Nat} (hi : f i = some v) : ∀ k, i < k → (∀ j, i < j → j < k → f j = none) → ((List.range k).filterMap f).getLast? = some v
  | 0, h, _ => by omega
  | k + 1, h, hn => by
    rw [List.range_succ, List.filterMap_append]
    rcases Nat.lt_or_ge i k with c | c
    · have : f k = none := hn k c (Nat.lt_succ_self k)
      simp only [List.filterMap_cons, List.filterMap_nil, this, List.append_nil]
      exact last_filt hi k c fun j a b => hn j a (by omega)
    · have : i = k := by omega
      subst this
      simp [hi]
theorem none_filt {α : Type} {f : Nat → Option α} : ∀ k, (∀ j, j < k → f j = none) → (List.range k).filterMap f = []
  | 0, _ => rfl
  | k + 1, h => by
    rw [List.range_succ, List.filterMap_append, none_filt k fun j a => h j (by omega)]
    simp [h k (Nat.lt_succ_self k)]
theorem two_pow_le_iff {n e : Nat} (hn : n ≠ 0) : 2 ^ e ≤ n ↔ e ≤ n.log2 := by
  rw [Nat.le_log2 hn]
theorem greatest_of {n e : Nat} (hn : 2 ≤ n) (he : 2 ≤ e) (h1 : 2 ^ e ≤ n) (h2 : (rootN n e) ^ e = n) (h3 : ∀ e', e < e' → 2 ^ e' ≤ n → (rootN n e') ^ e' ≠ n) : greatestN n = (rootN n e, e) := by
  have hl : e ≤ n.log2 := (two_pow_le_iff (by omega)).mp h1
  unfold greatestN waysN
  rw [if_neg (by omega), if_neg (by omega)]
  unfold waysTo
  have hf : wayAt n (e - 2 + 2) = some (rootN n e, e) := by
    rw [show e - 2 + 2 = e by omega]
    unfold wayAt
    rw [if_pos h2]
  rw [last_filt (f := fun i => wayAt n (i + 2)) (i := e - 2) hf (n.log2 - 1) (by omega) fun j a b => ?_]
  · rfl
  · show wayAt n (j + 2) = none
    unfold wayAt
    rw [if_neg (h3 _ (by omega) ((two_pow_le_iff (by omega)).mpr (by omega)))]
theorem greatest_none {n : Nat} (hn : 2 ≤ n) (h : ∀ e, 2 ≤ e → 2 ^ e ≤ n → (rootN n e) ^ e ≠ n) : greatestN n = (n, 1) := by
  unfold greatestN waysN
  rw [if_neg (by omega), if_neg (by omega)]
  unfold waysTo
  rw [none_filt]
  · rfl
  · intro j hj
    show wayAt n (j + 2) = none
    unfold wayAt
    rw [if_neg (h _ (by omega) ((two_pow_le_iff (by omega)).mpr (by omega)))]
def zz (p : Nat × Nat) : Int × Int := ((p.1 : Int), (p.2 : Int))
/-! ### a power factor by factor, stopped beyond the number -/
theorem more_end {n x e j : Nat} (hx : 1 ≤ x) (hj : j ≤ e) (h : j = e ∨ n < x ^ j) : (x ^ j ≤ n ↔ x ^ e ≤ n) := by
  rcases h with rfl | h
  · exact Iff.rfl
  · have : x ^ j ≤ x ^ e := Nat.pow_le_pow_right hx hj
    constructor <;> omega
end Pn
namespace Pn
/-! ### Newton's steps to a root, in whole numbers -/
theorem rearr (r x k : Nat) : r * x ^ k + x * r ^ k ≤ x * x ^ k + r * r ^ k := by
  rcases Nat.le_total r x with h | h
  · obtain ⟨d, rfl⟩ := Nat.exists_eq_add_of_le h
    obtain ⟨c, hc⟩ := Nat.exists_eq_add_of_le (Nat.pow_le_pow_left h k)
    rw [hc]
    generalize r ^ k = y
    have : 0 ≤ d * c := Nat.zero_le _
    grind
  · obtain ⟨d, rfl⟩ := Nat.exists_eq_add_of_le h
    obtain ⟨c, hc⟩ := Nat.exists_eq_add_of_le (Nat.pow_le_pow_left h k)
    rw [hc]
    generalize x ^ k = y
    have : 0 ≤ d * c := Nat.zero_le _
    grind
theorem amgm (r x : Nat) : ∀ m, (m + 1) * r * x ^ m ≤ m * x ^ (m + 1) + r ^ (m + 1)
  | 0 => by simp
  | m + 1 => by
    have ih := amgm r x m
    have h1 := rearr r x (m + 1)
    have h2 : x * ((m + 1) * r * x ^ m) ≤ x * (m * x ^ (m + 1) + r ^ (m + 1)) := Nat.mul_le_mul_left x ih
    have e1 : x ^ (m + 1) = x * x ^ m := by rw [Nat.pow_succ, Nat.mul_comm]
    have e2 : x ^ (m + 1 + 1) = x * (x * x ^ m) := by rw [Nat.pow_succ, e1, Nat.mul_comm]
    have e3 : r ^ (m + 1 + 1) = r * r ^ (m + 1) := by rw [Nat.pow_succ, Nat.mul_comm]
    rw [e1] at h1 h2
    rw [e1, e2, e3]
    generalize x ^ m = y at *
    generalize r ^ (m + 1) = z at *
    grind
theorem newton_ge {n e r x : Nat} (he : 1 ≤ e) (hx : 1 ≤ x) (hr : r ^ e ≤ n) : r ≤ ((e - 1) * x + n / x ^ (e - 1)) / e := by
  obtain ⟨m, rfl⟩ : ∃ m, e = m + 1 := ⟨e - 1, by omega⟩
  rw [Nat.add_sub_cancel]
  have hy : 0 < x ^ m := Nat.pow_pos (by omega)
  have h := amgm r x m
  rw [Nat.le_div_iff_mul_le (by omega)]
  have e1 : x ^ (m + 1) = x * x ^ m := by rw [Nat.pow_succ, Nat.mul_comm]
  rw [e1] at h
  rcases Nat.le_total (r * (m + 1)) (m * x) with c | c
  · exact Nat.le_trans c (Nat.le_add_right _ _)
  · obtain ⟨d, hd⟩ := Nat.exists_eq_add_of_le c
    have : d ≤ n / x ^ m := by
      rw [Nat.le_div_iff_mul_le hy]
      have e2 : (m + 1) * r * x ^ m = m * (x * x ^ m) + d * x ^ m := by
        rw [show (m + 1) * r = r * (m + 1) by rw [Nat.mul_comm], hd, Nat.add_mul, Nat.mul_assoc]
      omega
    omega
theorem newton_stop {n e x : Nat} (he : 1 ≤ e) (hx : 1 ≤ x) (h : x ≤ ((e - 1) * x + n / x ^ (e - 1)) / e) : x ^ e ≤ n := by
  obtain ⟨m, rfl⟩ : ∃ m, e = m + 1 := ⟨e - 1, by omega⟩
  rw [Nat.add_sub_cancel] at h
  have hy : 0 < x ^ m := Nat.pow_pos (by omega)
  rw [Nat.le_div_iff_mul_le (by omega)] at h
  have h2 : x ≤ n / x ^ m := by
    have : x * (m + 1) = m * x + x := by rw [Nat.mul_add, Nat.mul_one, Nat.mul_comm]
    omega
  rw [Nat.le_div_iff_mul_le hy] at h2
  rw [Nat.pow_succ, Nat.mul_comm]
  exact h2
theorem newton_start {n e : Nat} (he : 1 ≤ e) : rootN n e ≤ 2 ^ ((n.log2 + 1 + e - 1) / e) := by
  have h1 : n < 2 ^ (n.log2 + 1) := Nat.lt_log2_self
  have h2 : n.log2 + 1 ≤ (n.log2 + 1 + e - 1) / e * e := by
    have := Nat.lt_div_mul_add (a := n.log2 + 1 + e - 1) (b := e) (by omega)
    omega
  have h3 : (rootN n e) ^ e < (2 ^ ((n.log2 + 1 + e - 1) / e)) ^ e := by
    rw [← Nat.pow_mul]
    exact Nat.lt_of_le_of_lt (rootN_le he) (Nat.lt_of_lt_of_le h1 (Nat.pow_le_pow_right (by decide) h2))
  exact Nat.le_of_lt ((Nat.pow_lt_pow_iff_left (by omega : e ≠ 0)).mp h3)
theorem rootN_0 {e : Nat} (he : 1 ≤ e) : rootN 0 e = 0 := (rootN_is he (by rw [Nat.zero_pow (by omega)]; omega) (by simp)).symm
theorem rootN_1 {e : Nat} (he : 1 ≤ e) : rootN 1 e = 1 := (rootN_is he (by simp) (Nat.one_lt_two_pow (by omega))).symm
theorem rootN_pos {n e : Nat} (he : 1 ≤ e) (hn : 1 ≤ n) : 1 ≤ rootN n e := rootN_ge he (by simpa using hn)
end Pn
namespace Pn
/-! ### powers, the next one, the one before -/
def IsPow (m : Nat) : Prop := ∃ b e : Nat, 1 ≤ b ∧ 2 ≤ e ∧ m = b ^ e
def NextPow (n g : Nat) : Prop := IsPow g ∧ n < g ∧ ∀ m, IsPow m → n < m → g ≤ m
def PrevPow (n l : Nat) : Prop := IsPow l ∧ l ≤ n ∧ ∀ m, IsPow m → m ≤ n → m ≤ l
theorem NextPow.eq {n g g' : Nat} (h : NextPow n g) (h' : NextPow n g') : g = g' := Nat.le_antisymm (h.2.2 _ h'.1 h'.2.1) (h'.2.2 _ h.1 h.2.1)
theorem PrevPow.eq {n g g' : Nat} (h : PrevPow n g) (h' : PrevPow n g') : g = g' := Nat.le_antisymm (h'.2.2 _ h.1 h.2.1) (h.2.2 _ h'.1 h'.2.1)
theorem isPow_one : IsPow 1 := ⟨1, 2, by omega, by omega, rfl⟩
theorem IsPow.pos {m : Nat} (h : IsPow m) : 1 ≤ m := by
  obtain ⟨b, e, h1, h2, rfl⟩ := h
  exact Nat.pow_pos (by omega)
theorem IsPow.base {m : Nat} (h : IsPow m) (hm : 2 ≤ m) : ∃ b e : Nat, 2 ≤ b ∧ 2 ≤ e ∧ m = b ^ e := by
  obtain ⟨b, e, h1, h2, rfl⟩ := h
  rcases (by omega : b = 1 ∨ 2 ≤ b) with rfl | h
  · simp at hm
  · exact ⟨b, e, h, h2, rfl⟩
theorem IsPow.four {m : Nat} (h : IsPow m) (hm : 2 ≤ m) : 4 ≤ m := by
  obtain ⟨b, e, h1, h2, rfl⟩ := h.base hm
  calc 4 = 2 ^ 2 := rfl
    _ ≤ b ^ 2 := Nat.pow_le_pow_left h1 2
    _ ≤ b ^ e := Nat.pow_le_pow_right (by omega) h2
theorem isPow_root {n e : Nat} (he : 2 ≤ e) (hn : 1 ≤ n) : IsPow (rootN n e ^ e) := ⟨_, e, rootN_pos (by omega) hn, he, rfl⟩
theorem isPow_up {n e : Nat} (he : 2 ≤ e) : IsPow ((rootN n e + 1) ^ e) := ⟨_, e, by omega, he, rfl⟩
/-- g is the next power above n where it is one of these, or no more than a power of two, and none of these is less -/
theorem nextPow_of {n g T : Nat} (hn : 1 ≤ n) (hg : IsPow g) (hgn : n < g) (hgT : ∀ m, IsPow m → n < m → 2 ^ (T + 1) ≤ m → g ≤ m) (hm : ∀ e, 2 ≤ e → e ≤ T → g ≤ (rootN n e + 1) ^ e) : NextPow n g := by
  refine ⟨hg, hgn, fun m hp hm2 => ?_⟩
  obtain ⟨b, e, h1, h2, rfl⟩ := hp.base (by omega)
  rcases Nat.lt_or_ge T e with c | c
  · exact hgT _ hp hm2 (Nat.le_trans (Nat.pow_le_pow_right (by omega) c) (Nat.pow_le_pow_left h1 e))
  · refine Nat.le_trans (hm e h2 c) (Nat.pow_le_pow_left ?_ e)
    have h3 : (rootN n e) ^ e < b ^ e := Nat.lt_of_le_of_lt (rootN_le (by omega)) hm2
    exact (Nat.pow_lt_pow_iff_left (by omega : e ≠ 0)).mp h3
theorem prevPow_of {n l : Nat} (hn : 1 ≤ n) (hl : IsPow l) (hln : l ≤ n) (hm : ∀ e, 2 ≤ e → e ≤ n.log2 → rootN n e ^ e ≤ l) : PrevPow n l := by
  refine ⟨hl, hln, fun m hp hm2 => ?_⟩
  rcases (by have := hp.pos; omega : m = 1 ∨ 2 ≤ m) with rfl | h
  · exact hl.pos
  · obtain ⟨b, e, h1, h2, rfl⟩ := hp.base h
    have he : e ≤ n.log2 := (two_pow_le_iff (by omega)).mp (Nat.le_trans (Nat.pow_le_pow_left h1 e) hm2)
    exact Nat.le_trans (Nat.pow_le_pow_left (rootN_ge (by omega) hm2) e) (hm e h2 he)
theorem lt_two_pow_log (n : Nat) : n < 2 ^ (n.log2 + 1) := Nat.lt_log2_self
theorem rootN_big {n e : Nat} (hn : 1 ≤ n) (h : n.log2 < e) : rootN n e = 1 := (rootN_is (by omega) (by simpa using hn) (Nat.lt_of_lt_of_le (lt_two_pow_log n) (Nat.pow_le_pow_right (by decide) h))).symm
theorem isPow_iff {n : Nat} : IsPow n ↔ n = 1 ∨ ∃ e, 2 ≤ e ∧ 2 ^ e ≤ n ∧ rootN n e ^ e = n := by
  constructor
  · intro h
    rcases (by have := h.pos; omega : n = 1 ∨ 2 ≤ n) with rfl | h2
    · exact .inl rfl
    · obtain ⟨b, e, h3, h4, rfl⟩ := h.base h2
      exact .inr ⟨e, h4, Nat.pow_le_pow_left h3 e, by rw [rootN_pow (by omega)]⟩
  · rintro (rfl | ⟨e, h1, h2, h3⟩)
    · exact isPow_one
    · exact ⟨rootN n e, e, by have := (rootN_gt1 (n := n) (e := e) (by omega)).mpr h2; omega, h1, h3.symm⟩
def Beside (n : Nat) (l : Option Nat) (g : Nat) : Prop := (n = 0 → g = 1) ∧ (1 ≤ n → NextPow n g) ∧ (n ≤ 1 → l = none) ∧ (2 ≤ n → ∃ x, l = some x ∧ PrevPow (n - 1) x)
theorem Beside.eq {n : Nat} {l l' : Option Nat} {g g' : Nat} (h : Beside n l g) (h' : Beside n l' g') : l = l' ∧ g = g' := by
  obtain ⟨a1, a2, a3, a4⟩ := h
  obtain ⟨b1, b2, b3, b4⟩ := h'
  constructor
  · rcases Nat.lt_or_ge n 2 with c | c
    · rw [a3 (by omega), b3 (by omega)]
    · obtain ⟨x, rfl, hx⟩ := a4 c
      obtain ⟨y, rfl, hy⟩ := b4 c
      rw [hx.eq hy]
  · rcases Nat.eq_zero_or_pos n with c | c
    · rw [a1 c, b1 c]
    · exact (a2 c).eq (b2 c)
def Nearest (n r : Nat) : Prop := (n = 0 → r = 1) ∧ (1 ≤ n → ∃ l g, PrevPow n l ∧ NextPow n g ∧ r = if n - l ≤ g - n then l else g)
theorem Nearest.eq {n r r' : Nat} (h : Nearest n r) (h' : Nearest n r') : r = r' := by
  rcases Nat.eq_zero_or_pos n with c | c
  · rw [h.1 c, h'.1 c]
  · obtain ⟨l, g, h1, h2, h3⟩ := h.2 c
    obtain ⟨l', g', h1', h2', h3'⟩ := h'.2 c
    rw [h3, h3', h1.eq h1', h2.eq h2']
theorem near_pow {n r : Nat} (hp : IsPow n) (h : Nearest n r) : r = n := by
  obtain ⟨l, g, h1, h2, h3⟩ := h.2 hp.pos
  have e : l = n := h1.eq ⟨hp, Nat.le_refl _, fun m _ hm => hm⟩
  subst e
  rw [h3, if_pos (by omega)]
theorem small_pow {m : Nat} (hp : IsPow m) (hm : m < 8) : m = 1 ∨ m = 4 := by
  rcases (by have := hp.pos; omega : m = 1 ∨ 2 ≤ m) with h | h
  · exact .inl h
  · right
    obtain ⟨b, e, h1, h2, rfl⟩ := hp.base h
    rcases (by omega : b = 2 ∨ 3 ≤ b) with rfl | hb
    · rcases (by omega : e = 2 ∨ 3 ≤ e) with rfl | he
      · rfl
      · have : 2 ^ 3 ≤ 2 ^ e := Nat.pow_le_pow_right (by decide) he
        omega
    · have h3 : 3 ^ 2 ≤ b ^ 2 := Nat.pow_le_pow_left hb 2
      have h4 : b ^ 2 ≤ b ^ e := Nat.pow_le_pow_right (by omega) h2
      omega
theorem isPow_four : IsPow 4 := ⟨2, 2, by omega, by omega, rfl⟩
theorem isPow_eight : IsPow 8 := ⟨2, 3, by omega, by omega, rfl⟩
theorem next_one : NextPow 1 4 := ⟨isPow_four, by omega, fun m hp h => hp.four h⟩
theorem next_two : NextPow 2 4 := ⟨isPow_four, by omega, fun m hp h => hp.four (by omega)⟩
theorem prev_two : PrevPow 2 1 := ⟨isPow_one, by omega, fun m hp h => by
  rcases small_pow hp (by omega) with h | h <;> omega⟩
theorem prev_six : PrevPow 6 4 := ⟨isPow_four, by omega, fun m hp h => by
  rcases small_pow hp (by omega) with h | h <;> omega⟩
theorem next_six : NextPow 6 8 := ⟨isPow_eight, by omega, fun m hp h => by
  rcases Nat.lt_or_ge m 8 with c | c
  · rcases small_pow hp c with h | h <;> omega
  · exact c⟩
end Pn
namespace Pn
/-! ### all powers to a number, in order -/
open Classical in
noncomputable def powAt (i : Nat) : Option Nat := if IsPow (1 + i) then some (1 + i) else none
noncomputable def powL (k : Nat) : List Nat := (List.range k).filterMap powAt
theorem mem_powL {k m : Nat} : m ∈ powL k ↔ 1 ≤ m ∧ m ≤ k ∧ IsPow m := by
  unfold powL powAt
  simp only [List.mem_filterMap, List.mem_range]
  constructor
  · rintro ⟨i, hi, h⟩
    split at h
    · rename_i hp
      cases h
      exact ⟨by omega, by omega, hp⟩
    · cases h
  · rintro ⟨h1, h2, h3⟩
    refine ⟨m - 1, by omega, ?_⟩
    have e : 1 + (m - 1) = m := by omega
    rw [e, if_pos h3]
theorem powL_sorted (k : Nat) : (powL k).Pairwise (· < ·) := by
  unfold powL
  rw [List.pairwise_filterMap]
  refine List.Pairwise.imp (R := fun a b => a < b) ?_ List.pairwise_lt_range
  intro a b hab x hx y hy
  unfold powAt at hx hy
  split at hx
  · split at hy
    · cases hx
      cases hy
      omega
    · cases hy
  · cases hx
theorem last_ge : ∀ {l : List Nat} {z : Nat}, l.Pairwise (· < ·) → l.getLast? = some z → ∀ y ∈ l, y ≤ z
  | [], _, _, h, _, _ => by simp at h
  | [x], z, _, h, y, hy => by
    simp at h hy
    omega
  | x :: x' :: r, z, hp, h, y, hy => by
    rw [List.getLast?_cons_cons] at h
    rw [List.pairwise_cons] at hp
    have ih := last_ge hp.2 h
    rcases List.mem_cons.mp hy with rfl | hy
    · have := hp.1 x' List.mem_cons_self
      have := ih x' List.mem_cons_self
      omega
    · exact ih y hy
theorem bs_list {n k g : Nat} {r : List Nat} (hn : n < 500) (hk : n + 60 ≤ k) (hm : (powL k).filter (fun m => decide (n < m)) = g :: r) : Beside n ((powL k).filter fun m => decide (m < n)).getLast? g := by
  have hs : ((powL k).filter fun m => decide (n < m)).Pairwise (· < ·) := (powL_sorted k).filter _
  rw [hm, List.pairwise_cons] at hs
  have hg : g ∈ (powL k).filter (fun m => decide (n < m)) := by rw [hm]; exact List.mem_cons_self
  rw [List.mem_filter, mem_powL, decide_eq_true_eq] at hg
  obtain ⟨⟨g1, g2, g3⟩, g4⟩ := hg
  have hmin : ∀ m, IsPow m → n < m → g ≤ m := by
    intro m hp hnm
    rcases Nat.lt_or_ge k m with c | c
    · omega
    · have : m ∈ (powL k).filter (fun m => decide (n < m)) := by
        rw [List.mem_filter, mem_powL, decide_eq_true_eq]
        exact ⟨⟨hp.pos, c, hp⟩, hnm⟩
      rw [hm] at this
      rcases List.mem_cons.mp this with rfl | h
      · exact Nat.le_refl _
      · exact Nat.le_of_lt (hs.1 m h)
  refine ⟨fun h0 => ?_, fun _ => ⟨g3, g4, hmin⟩, fun h1 => ?_, fun h2 => ?_⟩
  · have := hmin 1 isPow_one (by omega)
    omega
  · have : (powL k).filter (fun m => decide (m < n)) = [] := by
      rw [List.filter_eq_nil_iff]
      intro m hm
      rw [mem_powL] at hm
      simp
      omega
    rw [this]
    rfl
  · have h1 : 1 ∈ (powL k).filter (fun m => decide (m < n)) := by
      rw [List.mem_filter, mem_powL, decide_eq_true_eq]
      exact ⟨⟨by omega, by omega, isPow_one⟩, by omega⟩
    have hne : (powL k).filter (fun m => decide (m < n)) ≠ [] := fun e => by
      rw [e] at h1
      cases h1
    have hl := List.getLast?_eq_some_getLast hne
    refine ⟨_, hl, ?_⟩
    have hmem := List.getLast_mem hne
    have hge := last_ge ((powL_sorted k).filter _) hl
    rw [List.mem_filter, mem_powL, decide_eq_true_eq] at hmem
    obtain ⟨⟨a1, a2, a3⟩, a4⟩ := hmem
    refine ⟨a3, by omega, fun m hp hm => hge m ?_⟩
    rw [List.mem_filter, mem_powL, decide_eq_true_eq]
    exact ⟨⟨hp.pos, by omega, hp⟩, by omega⟩
theorem more_ex {n k : Nat} (hn : n < 500) (hk : n + 60 ≤ k) : ∃ g r, (powL k).filter (fun m => decide (n < m)) = g :: r := by
  have h1 := rootN_le (n := n) (e := 2) (by omega)
  have h2 := rootN_lt (n := n) (e := 2) (by omega)
  have h3 : rootN n 2 ≤ 22 := by
    refine Nat.le_of_not_lt fun c => ?_
    have : 23 ^ 2 ≤ rootN n 2 ^ 2 := Nat.pow_le_pow_left c 2
    omega
  have hp : IsPow ((rootN n 2 + 1) ^ 2) := isPow_up (by omega)
  have h4 : (rootN n 2 + 1) ^ 2 = rootN n 2 ^ 2 + 2 * rootN n 2 + 1 := by grind
  have : (rootN n 2 + 1) ^ 2 ∈ (powL k).filter (fun m => decide (n < m)) := by
    rw [List.mem_filter, mem_powL, decide_eq_true_eq]
    exact ⟨⟨hp.pos, by omega, hp⟩, h2⟩
  cases e : (powL k).filter (fun m => decide (n < m)) with
  | nil =>
    rw [e] at this
    cases this
  | cons g r => exact ⟨g, r, rfl⟩
end Pn
namespace Pn
/-! ### the first greatest gap in a row -/
/-- a pair beside the best one so far -/
def gapStep (o : Option (Nat × Nat × Nat)) (x y : Nat) : Option (Nat × Nat × Nat) := match o with
  | none => some (y - x, x, y)
  | some t => if y - x > t.1 then some (y - x, x, y) else some t
/-- the best of the first i pairs of neighbours -/
def gapTo (l : List Nat) : Nat → Option (Nat × Nat × Nat)
  | 0 => none
  | i + 1 => match l[i]?, l[i + 1]? with
    | some x, some y => gapStep (gapTo l i) x y
    | _, _ => gapTo l i
theorem gapTo_succ {l : List Nat} {i x y : Nat} (h1 : l[i]? = some x) (h2 : l[i + 1]? = some y) : gapTo l (i + 1) = gapStep (gapTo l i) x y := by
  rw [gapTo, h1, h2]
end Pn
/-! ListVals: list(d.values()). -/
namespace LiV
open PySem PySem.Spec PyProof.Rows L2
def rValsL : V → Hp → VK → Prop := fun x H Q => ∃ (d : Addr) (kvs : List (Key × V)), x = .ref d ∧ H d = some (.dK kvs) ∧
  ∀ p : Addr, H p = none → Q (.ref p) (upd H p (.lst (kvs.map fun kv => kv.2)))
def tListVals (te : TE) : TE := fun σ H Q => te σ H fun x H1 => rValsL x H1 Q
section
variable {X : Cx} {e : Expr} {te : TE} {p apos cpos pos : Pos}
/-- list(e.values()) -/
theorem pe_listVals (hc : X.calm = true) (he : PE X e te) (hg : Gl X "list") (hm : X.mg "list" = none) (hv : bootBuiltins "list" = some (.type "list")) (hbase : attributeBase e "values" X.env (eval e X.env) = eval e X.env := by rfl) (hline : (apos.endLine == cpos.line) = true := by rfl)
    (hs : starEach [.Call (.Attribute e "values" apos) [] [] cpos] X.env = (false, eval (.Call (.Attribute e "values" apos) [] [] cpos) X.env) :: starEach [] X.env := by rfl) :
    PE X (.Call (.Name "list" p) [.Call (.Attribute e "values" apos) [] [] cpos] [] pos) (tListVals te) := by
  refine ⟨fun pins s σ H Q I hq => ?_⟩
  refine wpAny_Call_Name_kw (ld_blt I hg hm hv ?_)
  refine PyProof.Rows.callWith_type1 ?_ hs rfl
  rw [hs]
  show wpAny _ _ (spliced ((false, eval (.Call (.Attribute e "values" apos) [] [] cpos) X.env) :: backTo pos (starEach [] X.env))) _ _ s
  refine Calls.spliced_cons ?_
  refine wpAny_Call_method (T := "dict") (id := "dict.values") hbase rfl hline F.plainAttrs_dict F.slot_dict_values F.type_dict_values (thn (he.run pins s σ H _ I hq) fun u s1 ⟨x, H1, I1, rx, d, kvs, ex, hd, q⟩ => ?_)
  subst ex
  obtain rfl : u = Value.ref d := rx
  obtain ⟨hz, hs0, vs, kv, hdo⟩ := I1.hok d _ hd
  obtain ⟨ep, hat⟩ := hdo.dictAt
  have lk : kvs.length = vs.length := Paired.length kv
  have I2 : Inv X pins σ H1 { s1 with heap := s1.heap.push { cls := .type "dict_values", data := .fields #[.ref d] } } := I1.kept (t' := s1.toks) fun b ob q => Heap.get?_push_of_some _ q
  refine ⟨hdo.typeIs, hdo.mapOf.noDict, ?_⟩
  show wpAny _ _ (callWith cpos (.builtin "dict.values") [.ref d] [] []) _ X.xe s1
  refine method_meetsIn F.slot_dict_values F.entry_dict_values rfl (PySem.evalArgs_none ⟨rfl, hdo.typeIs, F.args_dict_values_1 _, _, meets_dict_values (mixKind X.prog X.w) d hs0, ⟨vs, hdo⟩, ?_⟩)
  refine Calls.spliced_nil ?_
  refine PySem.W.kdl_call (PySem.W.kdl_values (knd := mixKind X.prog X.w) (d := d) (kvs := vs) (ep := ep)) (I1.ok.hd hc) ⟨⟨_, Heap.get?_push_size _ rfl, rfl, rfl⟩, hat.push _⟩ (by rw [← lk]; exact hz) fun h' tk acc' c' hk hS hacc => ?_
  have e0 : ∀ o : Obj, (s1.heap.push o).objs.size = s1.heap.objs.size + 1 := fun o => Heap.size_push _ _
  refine ⟨.ref (s1.heap.push { cls := .type "dict_values", data := .fields #[.ref d] }).objs.size, upd H1 (s1.heap.push { cls := .type "dict_values", data := .fields #[.ref d] }).objs.size (.lst (kvs.map fun kv => kv.2)), I2.laid hk (Nat.le_refl _) (show ObjOk X.prog X.w _ _ _ (.lst (kvs.map fun kv => kv.2)) from ⟨?_, acc'.toList, c', ?_, ?_⟩), rfl, q _ (I2.hok.fresh (Nat.le_refl _))⟩
  · rw [List.length_map]; exact hz
  · have el : acc'.toList.length = acc'.size := by simp
    refine vals_of_at (by rw [List.length_map, el, hacc.1, lk]) fun j x w h1 h2 => ?_
    obtain ⟨k, hky⟩ := hacc.2 j w (by rw [← Array.getElem?_toList]; exact h2)
    obtain ⟨x', g1, g2⟩ := KV.at' kv hky
    have e2 : (kvs.map fun kv => kv.2)[j]? = some x' := by rw [List.getElem?_map, g1] <;> rfl
    rw [e2] at h1
    cases h1
    exact g2
  · rw [Array.toArray_toList]; exact hS
end
end LiV

namespace Pn
open PySem PySem.Spec PyProof.Rows L2 LiV
/-! ### dicts by whole numbers -/
section
variable {σ : L2.St} {H : Hp} {Q : VK} {D : Ends} {K : PySem.W.Frag} {td ty tv tx te : TE}
theorem w_dget : tDGet td ty σ H Q = td σ H fun x H1 => ty σ H1 fun y H2 => ∃ a v, x = .ref a ∧ DGet H2 a y (some v) ∧ Q v H2 := rfl
theorem w_dget2 : tDGet2 td ty tx σ H Q = td σ H fun x H1 => ∃ a, x = .ref a ∧ IsD H1 a ∧ ty σ H1 fun y H2 => tx σ H2 fun z H3 => ∃ o, DGet H3 a y o ∧ Q (o.getD z) H3 := rfl
theorem w_dput : sDPut td ty tv D σ H = tv σ H fun v H1 => td σ H1 fun x H2 => ty σ H2 fun y H3 => ∃ a H4, x = .ref a ∧ DPut H3 a y v H4 ∧ D.nx σ H4 := rfl
theorem w_dnew : tDNewK σ H Q = ∀ p, H p = none → Q (.ref p) (upd H p (.dK [])) := rfl
theorem w_lv : tListVals te σ H Q = te σ H fun x H1 => ∃ (d : Addr) (kvs : List (Key × V)), x = .ref d ∧ H1 d = some (.dK kvs) ∧ ∀ p : Addr, H1 p = none → Q (.ref p) (upd H1 p (.lst (kvs.map fun kv => kv.2))) := rfl
end
/-- the dict with the keys ks, each with what g tells -/
def dN (ks : List Nat) (g : Nat → V) : List (Key × V) := ks.map fun k : Nat => ((Sum.inl (k : Int) : Key), g k)
theorem dN_val (g : Nat → V) (m : Nat) : ∀ ks : List Nat, valV (dN ks g) (Sum.inl (m : Int)) = if m ∈ ks then some (g m) else none
  | [] => rfl
  | k :: ks => by
    show valV (((Sum.inl (k : Int) : Key), g k) :: dN ks g) (Sum.inl (m : Int)) = _
    by_cases e : k = m
    · subst e
      rw [valV_pos rfl, if_pos (by simp)]
    · rw [valV_neg (fun z => e (by injection z with z; omega)), dN_val g m ks]
      have : (m ∈ k :: ks) = (m ∈ ks) := by
        simp
        intro z
        exact absurd z.symm e
      simp only [this]
theorem dN_get {H : Hp} {a : Addr} {ks : List Nat} {g : Nat → V} {m : Nat} (h : H a = some (.dK (dN ks g))) : DGet H a (.int (m : Int)) (if m ∈ ks then some (g m) else none) := by
  have := DGet.k (k := (Sum.inl (m : Int) : Key)) h
  rw [dN_val] at this
  exact this
theorem dN_at {H : Hp} {a : Addr} {ks : List Nat} {g : Nat → V} {m : Nat} (h : H a = some (.dK (dN ks g))) (hm : m ∈ ks) : DGet H a (.int (m : Int)) (some (g m)) := by
  have := dN_get (m := m) h
  rwa [if_pos hm] at this
theorem dN_put {H : Hp} {a : Addr} {ks : List Nat} {g : Nat → V} {m : Nat} (h : H a = some (.dK (dN ks g))) (hm : m ∉ ks) (hl : ks.length < sizeLine) : DPut H a (.int (m : Int)) (g m) (upd H a (.dK (dN (ks ++ [m]) g))) := by
  have e : dN (ks ++ [m]) g = putK (dN ks g) (Sum.inl (m : Int)) (g m) := by
    rw [putK_new (g m) (by rw [dN_val, if_neg hm])]
    simp [dN]
  rw [e]
  exact DPut.k (k := (Sum.inl (m : Int) : Key)) h (by simpa [dN] using hl)
theorem dN_vals (ks : List Nat) (g : Nat → V) : (dN ks g).map (fun kv => kv.2) = ks.map g := by simp [dN]
theorem dN_len (ks : List Nat) (g : Nat → V) : (dN ks g).length = ks.length := by simp [dN]
theorem w_isB {x y : V} {H : Hp} {Q : VK} : rIsB x y H Q = ∃ a b : Bool, x = .bl a ∧ y = .bl b ∧ Q (.bl (decide (a = b))) H := rfl
theorem w_notB {x y : V} {H : Hp} {Q : VK} : rNotB x y H Q = ∃ a b : Bool, x = .bl a ∧ y = .bl b ∧ Q (.bl (!decide (a = b))) H := rfl
/-! ### methods within a comprehension -/
theorem k_bm {X : Cx} {K : PySem.W.Frag} {e : Expr} {T : String} {r : V → List V → Hp → VK → Prop} {to : TE} {t : TA} (h : PE X e (tBM X.K T r to t)) (hk : X.K = K := by rfl) : PE X e (tBM K T r to t) := by
  subst hk
  exact h
theorem k_count {X : Cx} (K : PySem.W.Frag) (hk : X.K = K := by rfl) : MtR X "list.count" (rCntI K) := by
  subst hk
  exact mt_lcount
/-! ### xs[i] op= e of a list -/
theorem pget_list {X : Cx} (K : PySem.W.Frag) (h : X.K = K := by rfl) : PGet X (rIxL K) := by
  subst h
  intro pins s σ H o at' ov iv Q I ro ri hg
  obtain ⟨l, ys, k, z, rfl, rfl, hS, hA, hq⟩ := hg
  cases ro
  obtain ⟨tk, rfl⟩ := ri
  obtain ⟨raw, rel, isl, size⟩ := I.list hS
  obtain ⟨n, g1, g2, g3, g4, g5⟩ := atI_get hA
  obtain ⟨got, ge, gr⟩ := rel.get g2
  have len := rel.length
  have top := line63
  have done : EP X pins σ Q got s := ⟨z, H, I, gr, hq⟩
  by_cases neg : k < 0
  · have en : (k + (raw.toArray.size : Int)).toNat = n := by
      have g := g1
      rw [seqIndex_neg neg g4] at g
      rw [List.size_toArray, ← len]
      exact Option.some.inj g
    refine wpAny_getItem_list_neg isl.isList neg ?_ (by omega) ?_ done
    · rw [List.size_toArray]
      omega
    · rw [en]
      simpa using ge
  · have en : k.toNat = n := by
      have g := g1
      rw [seqIndex_of (by omega) g5] at g
      exact Option.some.inj g
    refine wpAny_getItem_list isl.isList (by omega) (by omega) ?_ done
    rw [en]
    simpa using ge
theorem w_augS {to ti te : TE} {tget : V → V → Hp → VK → Prop} {tip : TIp} {tset : TSet} {D : Ends} {σ : L2.St} {H : Hp} : tAugS to ti te tget tip tset D σ H = to σ H fun o H1 => ti σ H1 fun i H2 => tget o i H2 fun x H3 => te σ H3 fun y H4 => tip x y H4 fun z H5 => tset o i z H5 fun H6 => D.nx σ H6 := rfl
/-! ### comprehensions over ranges by steps -/
section
variable {σ : L2.St} {H : Hp} {Q : VK} {K : PySem.W.Frag} {te tl : TE} {tt : TT} {tr : TA} {g : TG} {vs : List Nat}
theorem lc_c {lo c : Int} {n : Nat} (f : Nat → Option V) (hl : n < sizeLine)
    (hs : ∀ (i : Nat) (H' : Hp), i < n → Same H H' → ∀ (N0 : Hp → Prop) (N1 : VK), (f i = none → ∀ H2, Same H' H2 → N0 H2) → (∀ y, f i = some y → ∀ H2, Same H' H2 → N1 y H2) →
      g (.int (lo + (i : Nat) * c)) (wipe σ vs) H' fun σ2 H2 => wipe σ2 vs = wipe σ vs ∧ tt σ2 H2 fun b H3 => if b = true then te σ2 H3 N1 else N0 H3)
    (q : ∀ D H', H D = none → Same H H' → H' D = some (.lst ((List.range n).filterMap f)) → Q (.ref D) H') : LJ (Itc lo c n) g tt te vs σ H Q := by
  intro D hD
  refine ⟨fun j left Hw => left + j = n ∧ Same H Hw ∧ Hw D = some (.lst ((List.range j).filterMap f)), ⟨n, Nat.add_zero n, same_new hD, by rw [upd_same]; simp⟩, fun j left Hw => ?_⟩
  rintro ⟨ej, p1, p2⟩
  rcases Nat.eq_zero_or_pos left with h0 | h0
  · left
    obtain rfl : j = n := by omega
    exact ⟨Nat.le_refl j, q D Hw hD p1 p2⟩
  · right
    have hj : j < n := by omega
    refine ⟨hj, fun Hz => Same H Hz ∧ Hz D = some (.lst ((List.range (j + 1)).filterMap f)), fun Hz hz => ⟨left - 1, by omega, by omega, hz.1, hz.2⟩, fun x Hy hy => ?_⟩
    obtain ⟨e1, e2⟩ := hy
    subst e1 e2
    have hlen : ((List.range j).filterMap f).length < sizeLine := Nat.lt_of_le_of_lt (List.length_filterMap_le _ _) (by rw [List.length_range]; omega)
    have hf1 : (List.range (j + 1)).filterMap f = (List.range j).filterMap f ++ (f j).toList := by
      rw [List.range_succ, List.filterMap_append]
      cases e : f j <;> simp [e]
    refine hs j Hy hj p1 _ _ (fun hf H2 k2 => ⟨p1.trans k2, ?_⟩) fun y hf H2 k2 => ⟨_, k2 _ _ p2, hlen, fun b o h => ?_, ?_⟩
    · rw [k2 _ _ p2, hf1, hf]
      simp
    · rw [upd_ne (ne_of_none h hD)]
      exact k2 _ _ (p1 _ _ h)
    · rw [upd_same, hf1, hf]
      rfl
end
/-! ### a comprehension over a dict's keys -/
section
variable {σ : L2.St} {H : Hp} {Q : VK} {K : PySem.W.Frag} {te tl td : TE} {tt : TT} {tr : TA} {g : TG} {vs : List Nat}
theorem w_lockE {t : TE} : tLockE t σ H Q = ∃ d u, H d = some u ∧ Mut (some u) ∧ ∀ od, t σ (upd H d (.frz od u)) fun v H' => H' d = some (.frz od u) ∧ Q v (upd H' d u) := rfl
theorem w_lcK : tLc (iKeys td) g tt te vs σ H Q = td σ H fun x H1 => ∃ d o, x = .ref d ∧ ((∃ kvs, H1 d = some (.frz o (.dK kvs)) ∧ LJ (Itk d o kvs) g tt te vs σ H1 Q) ∨ ∃ kvs, H1 d = some (.frz o (.dT kvs)) ∧ LJ (Itkt d o kvs) g tt te vs σ H1 Q) := rfl
theorem same_unlock {H0 H' : Hp} {d : Addr} {x u : HO} (s : Same (upd H0 d x) H') (h : H0 d = some u) : Same H0 (upd H' d u) := fun b o hb => by
  by_cases e : b = d
  · subst e
    rw [upd_same, ← h, hb]
  · rw [upd_ne e]
    exact s _ _ ((upd_ne e).trans hb)
theorem lc_k {d : Addr} {o : Obj} {kvs : List (Key × V)} (f : Key → Option V) (hx : H d = some (.frz o (.dK kvs))) (hl : kvs.length < sizeLine)
    (hs : ∀ (i : Nat) (k : Key) (v : V) (H' : Hp), kvs[i]? = some (k, v) → Same H H' → ∀ (N0 : Hp → Prop) (N1 : VK), (f k = none → ∀ H2, Same H' H2 → N0 H2) → (∀ y, f k = some y → ∀ H2, Same H' H2 → N1 y H2) →
      g (kV k) (wipe σ vs) H' fun σ2 H2 => wipe σ2 vs = wipe σ vs ∧ tt σ2 H2 fun b H3 => if b = true then te σ2 H3 N1 else N0 H3)
    (q : ∀ D H', H D = none → Same H H' → H' D = some (.lst ((kvs.map (·.1)).filterMap f)) → Q (.ref D) H') : LJ (Itk d o kvs) g tt te vs σ H Q := by
  intro D hD
  have hDd : d ≠ D := ne_of_none hx hD
  refine ⟨fun j left Hw => left + j = kvs.length ∧ Same H Hw ∧ Hw D = some (.lst (((kvs.map (·.1)).take j).filterMap f)), ⟨kvs.length, Nat.add_zero _, same_new hD, by rw [upd_same]; simp⟩, fun j left Hw => ?_⟩
  rintro ⟨ej, p1, p2⟩
  rcases Nat.eq_zero_or_pos left with h0 | h0
  · left
    have e : j = kvs.length := by omega
    refine ⟨⟨p1 _ _ hx, by omega⟩, q D Hw hD p1 ?_⟩
    rw [p2, List.take_of_length_le (by simp; omega)]
  · right
    have hj : j < kvs.length := by omega
    refine ⟨⟨p1 _ _ hx, hj⟩, fun Hz => Same H Hz ∧ Hz D = some (.lst (((kvs.map (·.1)).take (j + 1)).filterMap f)), fun Hz hz => ⟨left - 1, by omega, by omega, hz.1, hz.2⟩, fun x Hy hy => ?_⟩
    obtain ⟨e1, k, v, hk, e2⟩ := hy
    subst e1 e2
    have hk1 : (kvs.map (·.1))[j]? = some k := by rw [List.getElem?_map, hk]; rfl
    have hlen : (((kvs.map (·.1)).take j).filterMap f).length < sizeLine := Nat.lt_of_le_of_lt (Nat.le_trans (List.length_filterMap_le _ _) (by rw [List.length_take, List.length_map]; exact Nat.min_le_right _ _)) hl
    refine hs j k v Hy hk p1 _ _ (fun hf H2 k2 => ⟨p1.trans k2, ?_⟩) fun y hf H2 k2 => ⟨_, k2 _ _ p2, hlen, fun b o h => ?_, ?_⟩
    · rw [k2 _ _ p2, filt_take f hk1, hf]
      simp
    · rw [upd_ne (ne_of_none h hD)]
      exact k2 _ _ (p1 _ _ h)
    · rw [upd_same, filt_take f hk1, hf]
      rfl
/-- within the lock the dict still tells -/
theorem dN_atF {H : Hp} {a : Addr} {o : Obj} {ks : List Nat} {g : Nat → V} {m : Nat} (h : H a = some (.frz o (.dK (dN ks g)))) (hm : m ∈ ks) : DGet H a (.int (m : Int)) (some (g m)) := by
  refine .inl ⟨dN ks g, Sum.inl (m : Int), .inr ⟨o, h⟩, rfl, ?_⟩
  rw [dN_val, if_pos hm]
end
/-- the dict with one more, or one told anew -/
theorem dN_upd {H : Hp} {a : Addr} {ks : List Nat} {g : Nat → V} {v : V} {m : Nat} (h : H a = some (.dK (dN ks g))) (hl : ks.length < sizeLine) : DPut H a (.int (m : Int)) v (upd H a (.dK (dN (if m ∈ ks then ks else ks ++ [m]) fun k => if k = m then v else g k))) := by
  by_cases e : m ∈ ks
  · have e1 : dN ks (fun k => if k = m then v else g k) = putK (dN ks g) (Sum.inl (m : Int)) v := by
      unfold putK
      rw [valV_any, dN_val, if_pos e]
      simp only [Option.isSome_some, if_true]
      unfold dN
      rw [List.map_map]
      refine List.map_congr_left fun k hk => ?_
      show ((Sum.inl (k : Int) : Key), if k = m then v else g k) = if (Sum.inl (k : Int) : Key) = Sum.inl (m : Int) then ((Sum.inl (k : Int) : Key), v) else ((Sum.inl (k : Int) : Key), g k)
      by_cases c : k = m
      · subst c
        rw [if_pos rfl, if_pos rfl]
      · rw [if_neg c, if_neg fun z => c (by injection z with z; omega)]
    rw [if_pos e, e1]
    exact DPut.k (k := (Sum.inl (m : Int) : Key)) h (by simpa [dN] using hl)
  · rw [if_neg e]
    have e1 : dN (ks ++ [m]) (fun k => if k = m then v else g k) = putK (dN ks g) (Sum.inl (m : Int)) v := by
      rw [putK_new v (by rw [dN_val, if_neg e])]
      unfold dN
      rw [List.map_append]
      congr 1
      · refine List.map_congr_left fun k hk => ?_
        show ((Sum.inl (k : Int) : Key), if k = m then v else g k) = ((Sum.inl (k : Int) : Key), g k)
        rw [if_neg fun z : k = m => e (by rw [← z]; exact hk)]
      · simp
    rw [e1]
    exact DPut.k (k := (Sum.inl (m : Int) : Key)) h (by simpa [dN] using hl)
end Pn
/-! PnK: sorted(d) of a dict whose keys are whole numbers, however many. -/
namespace DicS
open PySem PySem.Spec PyProof.Rows L2
def rSortD : List V → Hp → VK → Prop := fun xs H Q => ∃ (a : Addr) (kvs : List (Key × V)) (ks : List Int), xs = [.ref a] ∧ Rd H a (.dK kvs) ∧ kvs.map (·.1) = ks.map Sum.inl ∧
  ∀ (ys : List Int) (p : Addr), ys.Perm ks → ys.Pairwise (· ≤ ·) → H p = none → Q (.ref p) (upd H p (.lst (ys.map V.int)))
theorem cr_sortD {X : Cx} (calm : X.calm = true := by rfl) : CallR X (.builtin "sorted") rSortD := by
  intro pins s σ H xs us Q I r h
  obtain ⟨a, kvs, ks, rfl, here, keys, q⟩ := h
  rw [Vals.ref1 r]
  obtain ⟨z, low, vs, rel, dic⟩ := dk_rd I.hok here
  obtain ⟨ep, at0⟩ := dic.dictAt
  have raw : vs.map (·.1) = ks.map Sum.inl := rel.keys.symm.trans keys
  have many : vs.length = ks.length := by
    have := congrArg List.length raw
    simpa using this
  have fits : vs.length ≤ sizeLine := by rw [← rel.length]; exact z
  refine Calls.call_function_entry kind_sorted plain_sorted entry_sorted (args_sorted1 _) ?_
  unfold Builtin.«sorted»
  refine wpAny_bind (m := checkCount "sorted" 1 1 _) (wpAny_pure ?_)
  refine wpAny_bind (PySem.W.kdu_collect (A := X.A.in1) (PySem.W.kdl_dict (knd := mixKind X.prog X.w) (kvs := vs) (ep := ep) low) (I.ok.hd calm) at0 fits fun h' tk acc keep items => ?_)
  have al : acc.toList.length = ks.length := by rw [Array.length_toList, items.1, many]
  have az : acc.toList.length ≤ sizeLine := by omega
  have are : IntsAre acc.toList ks := ints_each al fun j v e => by
    obtain ⟨k, x, e1, e2⟩ := items.2 j v (by rw [← Array.getElem?_toList]; exact e)
    have e3 : (ks.map Sum.inl : List Key)[j]? = some k := by
      rw [← raw, List.getElem?_map, e1]
      rfl
    rw [List.getElem?_map] at e3
    obtain ⟨y, e4, e5⟩ := Option.map_eq_some_iff.mp e3
    subst e5
    rcases keyIs_shape (show keyIs (Sum.inl y) v = true from e2) with ⟨i, t, ek, ev⟩ | ⟨w, t, ek, _⟩
    · cases ek
      exact ⟨y, t, e4, ev⟩
    · cases ek
  have J : Inv X pins σ H { s with heap := h', toks := tk } := I.kept keep
  refine wpAny_bind (wpAny_newList ?_ az)
  have newL : (h'.push (seqObj "list" acc.toList.toArray 0)).get? h'.objs.size = some (seqObj "list" acc.toList.toArray 0) := Heap.get?_push_size _ rfl
  show wpAny _ _ _ _ _ { s with heap := h'.push (seqObj "list" acc.toList.toArray 0), toks := tk }
  refine wpAny_bind (wpAny_holding (wpAny_call_entry slot_list_sort ⟨_, newL, rfl⟩ entry_list_sort (SrtO.list_sort_ord (s := { s with heap := h'.push (seqObj "list" acc.toList.toArray 0), toks := tk }) SrtO.swo_int newL az (fun h2 => SrtO.ints_sortable are h2) fun out o1 o2 => ⟨_, rfl, ?_⟩) (args_list_sort _)))
  obtain ⟨c, hc⟩ := sortedHeap_at (vs := acc.toList) (out := out.toArray) newL
  obtain ⟨k1, k2, k3⟩ := SrtO.ints_out are o1 o2
  have yl : ((out.map SrtO.iv).map V.int).length ≤ sizeLine := by
    rw [List.length_map, k2.length_eq]
    omega
  refine wpAny_pure ⟨_, rfl, .ref h'.objs.size, upd H h'.objs.size (.lst ((out.map SrtO.iv).map V.int)), J.laid (t' := tk) (fun b u e => ?_) (Nat.le_refl _) (show ObjOk X.prog X.w _ _ _ (.lst ((out.map SrtO.iv).map V.int)) from ⟨yl, out, c, vals_of_ints k1, hc⟩), rfl, q _ _ k2 k3 (J.hok.fresh (Nat.le_refl _))⟩
  have lt : b < h'.objs.size := Heap.lt_size e
  rw [sortedHeap_old (Nat.ne_of_lt lt) (by rw [size_push']; exact Nat.lt_succ_of_lt lt)]
  exact Heap.get?_push_of_some _ e
end DicS
/-! PnZ: zip in loops and comprehensions; is None. -/
namespace Pn
open PySem PySem.Spec PyProof.Rows L2
section
variable {σ : L2.St} {H : Hp} {Q : VK} {D : Ends} {K : PySem.W.Frag} {te : TE} {tt : TT} {tr : TA} {s1 : TS} {g : TG} {vs : List Nat}
theorem w_forZ : tFor (iZip K tr) g s1 D σ H = tr σ H fun us H1 => ∃ a b xs ys, us = [.ref a, .ref b] ∧ SqL K H1 a xs ∧ SqL K H1 b ys ∧ FJ (Itz K a b) g s1 D σ H1 := rfl
theorem for_z {a b : Addr} {xs ys : List V} {n : Nat} (hn : n = min xs.length ys.length) (Pv : Nat → L2.St → Hp → Prop) (h0 : Pv 0 σ H) (hl : ∀ i σ H, i ≤ n → Pv i σ H → SqL K H a xs ∧ SqL K H b ys)
    (hs : ∀ i x y σ H T, xs[i]? = some x → ys[i]? = some y → i < n → Pv i σ H → H T = none → ∀ N : L2.St → Hp → Prop, (∀ σ' H', Pv (i + 1) σ' H' → N σ' H') → g (.ref T) σ (upd H T (.tup [x, y])) fun σ2 H2 => s1 { D with nx := N, ct := N, bk := D.nx } σ2 H2)
    (hd : ∀ σ H, Pv n σ H → D.nx σ H) : FJ (Itz K a b) g s1 D σ H :=
  for_it (walk_zip hn) Pv h0 hl (fun i v σ H H' hi p y => by
    obtain ⟨T, x, z, rfl, hT, rfl, h1, h2⟩ := y
    exact hs i x z σ H T h1 h2 hi p hT _ fun _ _ z => z) hd
theorem w_lcZ : tLc (RZ.iZipA K tr) g tt te vs σ H Q = tr σ H fun us H1 => ∃ a b xs ys, us = [.ref a, .ref b] ∧ ((SqL K H1 a xs ∧ SqL K H1 b ys ∧ LJ (Itz K a b) g tt te vs σ H1 Q) ∨ (SqT K H1 a xs ∧ SqT K H1 b ys ∧ LJ (RZ.ItzT K a b) g tt te vs σ H1 Q)) := rfl
/-- over two tuples of one length: f tells of two items what is put into the list, if anything -/
theorem lc_zt {a b : Addr} {xs ys : List V} (f : V → V → Option V) (hx : SqT K H a xs) (hy : SqT K H b ys) (hn : xs.length = ys.length) (hl : xs.length < sizeLine)
    (hs : ∀ (i : Nat) (x y : V) (T : Addr) (H' : Hp), xs[i]? = some x → ys[i]? = some y → Same H H' → H' T = some (.tup [x, y]) → ∀ (N0 : Hp → Prop) (N1 : VK), (f x y = none → ∀ H2, Same H' H2 → N0 H2) → (∀ z, f x y = some z → ∀ H2, Same H' H2 → N1 z H2) →
      g (.ref T) (wipe σ vs) H' fun σ2 H2 => wipe σ2 vs = wipe σ vs ∧ tt σ2 H2 fun b H3 => if b = true then te σ2 H3 N1 else N0 H3)
    (q : ∀ D H', H D = none → Same H H' → H' D = some (.lst ((xs.zip ys).filterMap fun p => f p.1 p.2)) → Q (.ref D) H') : LJ (RZ.ItzT K a b) g tt te vs σ H Q := by
  intro D hD
  have hlen2 : (xs.zip ys).length = xs.length := by rw [List.length_zip, ← hn, Nat.min_self]
  refine ⟨fun j left Hw => left + j = xs.length ∧ Same H Hw ∧ Hw D = some (.lst (((xs.zip ys).take j).filterMap fun p => f p.1 p.2)), ⟨xs.length, Nat.add_zero _, same_new hD, by rw [upd_same]; simp⟩, fun j left Hw => ?_⟩
  rintro ⟨ej, p1, p2⟩
  have qx := same_seqT p1 hx
  have qy := same_seqT p1 hy
  rcases Nat.eq_zero_or_pos left with h0 | h0
  · left
    have e : j = xs.length := by omega
    subst e
    refine ⟨⟨xs, ys, qx, qy, .inl (Nat.le_refl _)⟩, q D Hw hD p1 ?_⟩
    rw [p2, ← hlen2, List.take_length]
  · right
    have hj : j < xs.length := by omega
    have hj2 : j < ys.length := by omega
    refine ⟨⟨xs, ys, xs[j], ys[j], qx, qy, List.getElem?_eq_getElem hj, List.getElem?_eq_getElem hj2⟩, fun Hz => Same H Hz ∧ Hz D = some (.lst (((xs.zip ys).take (j + 1)).filterMap fun p => f p.1 p.2)), fun Hz hz => ⟨left - 1, by omega, by omega, hz.1, hz.2⟩, fun v Hy hy' => ?_⟩
    obtain ⟨T, x, y, rfl, hT, rfl, fx, fy⟩ := hy'
    have ex := fx xs qx
    have ey := fy ys qy
    have ez : (xs.zip ys)[j]? = some (x, y) := by
      rw [List.getElem?_zip_eq_some]
      exact ⟨ex, ey⟩
    have n1 : Same Hw (upd Hw T (.tup [x, y])) := same_new hT
    have hlen : (((xs.zip ys).take j).filterMap fun p => f p.1 p.2).length < sizeLine := Nat.lt_of_le_of_lt (Nat.le_trans (List.length_filterMap_le _ _) (by rw [List.length_take, hlen2]; exact Nat.min_le_right _ _)) hl
    have hf1 := filt_take (fun p : V × V => f p.1 p.2) ez
    have hD2 := n1 _ _ p2
    refine hs j x y T _ ex ey (p1.trans n1) upd_same _ _ (fun hf H2 k2 => ⟨(p1.trans n1).trans k2, ?_⟩) fun z hf H2 k2 => ⟨_, k2 _ _ hD2, hlen, fun b o h => ?_, ?_⟩
    · rw [k2 _ _ hD2, hf1, hf]
      simp
    · rw [upd_ne (ne_of_none h hD)]
      exact k2 _ _ (n1 _ _ (p1 _ _ h))
    · rw [upd_same, hf1, hf]
      rfl
end
end Pn
namespace Pn
open PySem PySem.Spec PyProof.Rows L2
/-- a deck of three numbers: the great ones' digits, the mixed ones, the turns (at most n) -/
def Dk3 (H : Hp) (a : Addr) (n : Nat) : Prop := ∃ g x t : Int, H a = some (.lst [.int g, .int x, .int t]) ∧ 0 ≤ x ∧ x < 2 ^ 40 ∧ 0 ≤ t ∧ t ≤ n
theorem Dk3.mono {H : Hp} {a : Addr} {n m : Nat} (h : Dk3 H a n) (le : n ≤ m) : Dk3 H a m := by
  obtain ⟨g, x, t, h1, h2, h3, h4, h5⟩ := h
  exact ⟨g, x, t, h1, h2, h3, h4, by omega⟩
theorem Dk3.same {H H' : Hp} {a : Addr} {n : Nat} (h : Dk3 H a n) (e : Same H H') : Dk3 H' a n := by
  obtain ⟨g, x, t, h1, h⟩ := h
  exact ⟨g, x, t, e _ _ h1, h⟩
theorem Dk3.lst {H : Hp} {a : Addr} {n : Nat} (h : Dk3 H a n) : ∃ ys, H a = some (.lst ys) := by
  obtain ⟨g, x, t, h1, _⟩ := h
  exact ⟨_, h1⟩
theorem Dk3.ne {H : Hp} {a p : Addr} {n : Nat} (h : Dk3 H a n) (hp : H p = none) : p ≠ a := by
  obtain ⟨_, h1⟩ := h.lst
  exact (ne_of_none h1 hp).symm
theorem two_more {n u A S B C : Nat} (hn : n < 2 ^ A) (hu : u < 2 ^ B) (h1 : A + S + 1 ≤ C) (h2 : B + 1 ≤ C) : n * 2 ^ S + u < 2 ^ C := by
  have a1 : n * 2 ^ S < 2 ^ (A + S) := by
    rw [Nat.pow_add]
    exact Nat.mul_lt_mul_of_pos_right hn (Nat.two_pow_pos _)
  have a2 : 2 ^ (A + S) ≤ 2 ^ (C - 1) := Nat.pow_le_pow_right (by decide) (by omega)
  have a3 : 2 ^ B ≤ 2 ^ (C - 1) := Nat.pow_le_pow_right (by decide) (by omega)
  have a4 : 2 ^ C = 2 ^ (C - 1) * 2 := by rw [← Nat.pow_succ, show (C - 1).succ = C by omega]
  omega
theorem bits_abs {c : Int} {B : Nat} (hc : Builtin.Int.intBits c ≤ B) : c.natAbs < 2 ^ B := by
  unfold Builtin.Int.intBits at hc
  by_cases h : c = 0
  · subst h
    exact Nat.two_pow_pos _
  · rw [if_neg (by simpa using h)] at hc
    exact (Nat.log2_lt (by omega)).mp (by omega)
theorem shl_gen {g c : Int} {A S B C : Nat} (g0 : 0 ≤ g) (hg : g < 2 ^ A) (hc : Builtin.Int.intBits c ≤ B) (h1 : A + S + 1 ≤ C) (h2 : B + 1 ≤ C) : 0 ≤ g * 2 ^ S + (if c < 0 then -c else c) ∧ g * 2 ^ S + (if c < 0 then -c else c) < 2 ^ C := by
  have hb := bits_abs hc
  have ha : (if c < 0 then -c else c) = (c.natAbs : Int) := by split <;> omega
  rw [ha]
  obtain ⟨n, rfl⟩ := Int.eq_ofNat_of_zero_le g0
  have hn : n < 2 ^ A := by
    have e : ((n : Nat) : Int) < ((2 ^ A : Nat) : Int) := by
      rw [Int.natCast_pow]
      exact hg
    exact Int.ofNat_lt.mp e
  have h5 := two_more (S := S) hn hb h1 h2
  have e1 : (n : Int) * 2 ^ S + (c.natAbs : Int) = ((n * 2 ^ S + c.natAbs : Nat) : Int) := by push_cast; rfl
  rw [e1]
  refine ⟨Int.natCast_nonneg _, ?_⟩
  have := Int.ofNat_lt.mpr h5
  rw [Int.natCast_pow] at this
  exact this
/-- the great numbers' digits, cell by cell -/
theorem shl_more {g c : Int} {i : Nat} (g0 : 0 ≤ g) (hg : g < 2 ^ (i * 1048800)) (hc : Builtin.Int.intBits c ≤ 1048576) : 0 ≤ g * 2 ^ 205 + (if c < 0 then -c else c) ∧ g * 2 ^ 205 + (if c < 0 then -c else c) < 2 ^ ((i + 1) * 1048800) :=
  shl_gen g0 hg hc (by omega) (by omega)
theorem pow_grow {g : Int} {A B : Nat} (h : g < 2 ^ A) (hab : A ≤ B) : g < 2 ^ B := by
  have := Int.ofNat_le.mpr (Nat.pow_le_pow_right (n := 2) (by decide) hab)
  rw [Int.natCast_pow, Int.natCast_pow] at this
  exact Int.lt_of_lt_of_le h this
end Pn
namespace Pn
open PySem PySem.Spec PyProof.Rows L2
/-- a triple, or None -/
def VG (H : Hp) (v : V) : Option (Nat × Nat × Nat) → Prop
  | none => v = .non
  | some t => ∃ p, v = .ref p ∧ H p = some (.tup [.int (t.1 : Int), .int (t.2.1 : Int), .int (t.2.2 : Int)])
theorem VG.same {H H' : Hp} {v : V} {o : Option (Nat × Nat × Nat)} (h : VG H v o) (s : Same H H') : VG H' v o := by
  cases o with
  | none => exact h
  | some t =>
    obtain ⟨p, rfl, hp⟩ := h
    exact ⟨p, rfl, s _ _ hp⟩
def dG : Option (Nat × Nat × Nat) → PyData
  | none => .none
  | some t => .tuple (dI [(t.1 : Int), (t.2.1 : Int), (t.2.2 : Int)])
theorem dp_g {K : PySem.W.Frag} {H : Hp} {v : V} : ∀ {o : Option (Nat × Nat × Nat)}, VG H v o → Dp K H v (dG o)
  | none, h => by
    cases h
    exact .non
  | some t, h => by
    obtain ⟨p, rfl, hp⟩ := h
    exact .tup (SqT.of hp) (dpAll_ints [(t.1 : Int), (t.2.1 : Int), (t.2.2 : Int)])
theorem sh_g : ∀ o : Option (Nat × Nat × Nat), SeqAt.shaped (dG o) = true
  | none => rfl
  | some t => sh_tI _
theorem eqv_g : ∀ o o' : Option (Nat × Nat × Nat), PyData.eqv (dG o) (dG o') = decide (o = o')
  | some (a, b, c), some (d, e, f) => by
    simp only [dG, PyData.eqv, eqv_ints, List.cons.injEq, Int.natCast_inj, Option.some.injEq, Prod.mk.injEq, and_true]
  | some a, none => by simp [dG, PyData.eqv]
  | none, some b => by simp [dG, PyData.eqv]
  | none, none => by simp [dG, PyData.eqv]
section
variable {K : PySem.W.Frag} {H : Hp} {Q : VK} {x y : V}
theorem r_neG {o o' : Option (Nat × Nat × Nat)} (hx : VG H x o) (hy : VG H y o') (q : Q (.bl (!decide (o = o'))) H) : rNeD K x y H Q :=
  ⟨dG o, dG o', dp_g hx, dp_g hy, sh_g o, sh_g o', by rw [eqv_g]; exact q⟩
theorem r_eqG {o o' : Option (Nat × Nat × Nat)} (hx : VG H x o) (hy : VG H y o') (q : Q (.bl (decide (o = o'))) H) : rEqD K x y H Q :=
  ⟨dG o, dG o', dp_g hx, dp_g hy, sh_g o, sh_g o', by rw [eqv_g]; exact q⟩
end
theorem ofN_sorted {ns : List Nat} (h : ns.Pairwise (· < ·)) : (ofN ns).Pairwise (· ≤ ·) := by
  unfold ofN
  rw [List.pairwise_map]
  exact h.imp fun c => by omega
/-- what sorted tells of these keys -/
theorem sorted_is {ks ls : List Nat} {ys : List Int} (hn : ks.Nodup) (hl : ls.Pairwise (· < ·)) (h : ∀ x, x ∈ ks ↔ x ∈ ls) (hp : ys.Perm (ofN ks)) (hs : ys.Pairwise (· ≤ ·)) : ys = ofN ls := by
  have p1 : ks.Perm ls := (List.perm_ext_iff_of_nodup hn (hl.imp fun c => Nat.ne_of_lt c)).mpr h
  have p2 : ys.Perm (ofN ls) := hp.trans (p1.map _)
  exact List.Perm.eq_of_pairwise (fun a b _ _ h1 h2 => Int.le_antisymm h1 h2) hs (ofN_sorted hl) p2
theorem dN_keys (ks : List Nat) (g : Nat → V) : (dN ks g).map (·.1) = (ofN ks).map Sum.inl := by
  unfold dN ofN
  rw [List.map_map, List.map_map]
  rfl
theorem powL_len (m : Nat) : (powL m).length ≤ m := by
  unfold powL
  refine Nat.le_trans (List.length_filterMap_le _ _) ?_
  rw [List.length_range]
  exact Nat.le_refl _
theorem ofN_at {ns : List Nat} {i : Nat} {x : V} (h : ((ofN ns).map V.int)[i]? = some x) : ∃ n : Nat, ns[i]? = some n ∧ x = V.int (n : Int) := by
  unfold ofN at h
  rw [List.getElem?_map, List.getElem?_map] at h
  cases e : ns[i]? with
  | none => simp [e] at h
  | some n =>
    simp [e] at h
    exact ⟨n, rfl, h.symm⟩
/-- the squares and the higher powers together -/
theorem pow_split {m x : Nat} : (1 ≤ x ∧ x ≤ m ∧ IsPow x) ↔ (∃ b e, 1 ≤ b ∧ 3 ≤ e ∧ 2 ^ e ≤ m ∧ x = b ^ e ∧ x ≤ m) ∨ ∃ b, 1 ≤ b ∧ b ≤ rootN m 2 ∧ x = b * b := by
  constructor
  · rintro ⟨h1, h2, b, e, b1, e2, rfl⟩
    have sq : ∀ c, 1 ≤ c → c * c ≤ m → ∃ b, 1 ≤ b ∧ b ≤ rootN m 2 ∧ c * c = b * b := fun c c1 c2 => ⟨c, c1, rootN_ge (by omega) (by rw [Nat.pow_two]; exact c2), rfl⟩
    rcases (by omega : e = 2 ∨ 3 ≤ e) with rfl | e3
    · rw [Nat.pow_two] at h2 ⊢
      exact .inr (sq b b1 h2)
    · rcases (by omega : b = 1 ∨ 2 ≤ b) with rfl | b2
      · rw [Nat.one_pow] at h2 ⊢
        exact .inr (sq 1 (by omega) h2)
      · exact .inl ⟨b, e, b1, e3, Nat.le_trans (Nat.pow_le_pow_left b2 e) h2, rfl, h2⟩
  · rintro (⟨b, e, b1, e3, h, rfl, h2⟩ | ⟨b, b1, b2, rfl⟩)
    · exact ⟨Nat.pow_pos b1, h2, b, e, b1, by omega, rfl⟩
    · have h3 : b ^ 2 ≤ rootN m 2 ^ 2 := Nat.pow_le_pow_left b2 2
      have h4 := rootN_le (n := m) (e := 2) (by omega)
      rw [Nat.pow_two b] at h3
      exact ⟨Nat.mul_pos b1 b1, by omega, b, 2, b1, by omega, by rw [Nat.pow_two]⟩
theorem pairwise_at {l : List Nat} {i j x y : Nat} (h : l.Pairwise (· < ·)) (hij : i < j) (h1 : l[i]? = some x) (h2 : l[j]? = some y) : x < y := by
  obtain ⟨a, ea⟩ := List.getElem?_eq_some_iff.mp h1
  obtain ⟨b, eb⟩ := List.getElem?_eq_some_iff.mp h2
  rw [List.pairwise_iff_getElem] at h
  have := h i j a b hij
  rwa [ea, eb] at this
/-- a display of one pair, its key a whole number -/
theorem r_disp1 {σ : L2.St} {H : Hp} {Q : VK} {k : Nat} {y : V} (q : ∀ p, H p = none → Q (.ref p) (upd H p (.dK (dN [k] fun _ => y)))) : tDisp [(tC (.int (k : Int)), tC y)] σ H Q := fun p hp => by
  refine ⟨upd_same, [((Sum.inl (k : Int) : Key), y)], rfl, by show 1 ≤ 15; decide, ?_⟩
  rw [upd_upd]
  exact q p hp
theorem dN_any {H : Hp} {a : Addr} {ks : List Nat} {v : V} {m : Nat} (h : H a = some (.dK (dN ks fun _ => v))) (hl : ks.length < sizeLine) : DPut H a (.int (m : Int)) v (upd H a (.dK (dN (if m ∈ ks then ks else ks ++ [m]) fun _ => v))) := by
  have := dN_upd (m := m) (v := v) h hl
  have e : (fun k => if k = m then v else (fun _ => v) k) = fun _ : Nat => v := by
    funext k
    split <;> rfl
  rw [e] at this
  exact this
theorem put_nodup {x : Nat} {ks : List Nat} (h : ks.Nodup) : (if x ∈ ks then ks else ks ++ [x]).Nodup ∧ (∀ y, y ∈ (if x ∈ ks then ks else ks ++ [x]) ↔ y ∈ ks ∨ y = x) ∧ (if x ∈ ks then ks else ks ++ [x]).length ≤ ks.length + 1 := by
  by_cases c : x ∈ ks
  · rw [if_pos c]
    exact ⟨h, fun y => ⟨.inl, fun z => z.elim id fun e => e ▸ c⟩, by omega⟩
  · rw [if_neg c]
    refine ⟨?_, fun y => by simp, by simp⟩
    rw [List.nodup_append]
    refine ⟨h, by simp, ?_⟩
    intro y hy z hz e2
    simp at hz
    subst hz e2
    exact c hy
theorem r_eqDI {K : PySem.W.Frag} {H : Hp} {Q : VK} {a b : Int} (q : Q (.bl (decide (a = b))) H) : rEqD K (.int a) (.int b) H Q :=
  ⟨.int a, .int b, .int a, .int b, rfl, rfl, by rw [PyData.eqv, Bool.beq_eq_decide_eq]; exact q⟩
end Pn
namespace Pn
open PySem PySem.Spec PyProof.Rows L2
local macro_rules | `(tactic| walk_at "w") => `(tactic| try simp only [w_var, w_c, w_op, w_I0, w_I, w_un, w_U, w_eq, w_ne, w_test, w_B, w_and, w_or, w_not, w_andV, w_orV, w_notV, w_ife, w_nil, w_cons, w_fn, w_cb, w_tup, w_lst, w_seq, w_next, w_brk, w_ct, w_drop, w_ret, w_retN, w_ifS, w_asgN, w_asgT, w_asgS, w_gName, w_gNil, w_gCons, w_par, w_aug, w_ipI, w_sl, w_np, w_part, w_bm, w_bm0, w_cxK, w_bits, w_forL, w_forT, w_for1, w_for2, w_for3, w_lc3, w_lcL, w_lcT, w_lc1, w_lc2, w_yes, w_tru, wipe, scal,
   L2.start, List.map_cons, List.map_nil, List.length_cons, List.length_nil, List.replicate, List.cons_append, List.nil_append, Nat.reduceAdd, Nat.reduceSub, Nat.zero_add,
   List.getElem?_cons_zero, List.getElem?_cons_succ, List.set_cons_zero, List.set_cons_succ, Option.some.injEq, V.int.injEq, V.bl.injEq, V.ref.injEq, V.str.injEq, exists_eq_left, exists_eq_left', exists_and_left, exists_and_right, exists_eq', exists_eq, and_assoc, and_true, true_and, decide_eq_true_eq, Bool.not_eq_true', decide_eq_false_iff_not, List.cons.injEq, if_true, if_false, Bool.true_eq_false, Bool.false_eq_true, ite_true, ite_false, reduceIte, reduceCtorEq, not_true_eq_false, not_false_eq_true, decide_true, decide_false, Bool.not_true, Bool.not_false, false_and, and_false, exists_false, false_or, or_false])
local macro_rules | `(tactic| walk_at "lk") => `(tactic| first | assumption | exact upd_same | exact Eq.trans (upd_ne (by walk_at "ne")) (by walk_at "lk"))
local macro_rules | `(tactic| walk_at "ne") => `(tactic| first | assumption | exact Ne.symm (by assumption) | exact ne_fresh (by assumption) (by walk_at "lk") | exact Ne.symm (ne_fresh (by assumption) (by walk_at "lk")))
local macro_rules | `(tactic| walk_at "sq") => `(tactic| first | assumption | exact SqL.of (by walk_at "lk"))
local macro_rules | `(tactic| walk_at "ix") => `(tactic| (refine r_ixL (by walk_at "sq") (by rfl) ?_; walk_at "w"))
local macro_rules | `(tactic| walk_at "st") => `(tactic| (refine r_setL (by walk_at "lk") (by rfl) ?_; walk_at "w"))
local macro_rules | `(tactic| walk_at "d") => `(tactic| (walk_at "w"; (try simp only [w_dget, w_dget2, w_dput, w_dnew, w_lv, w_augS, w_lockE, w_lcK, w_isB, w_notB]); walk_at "w"))
local macro_rules | `(tactic| walk_at "e") => `(tactic| (walk_at "d"; (try simp only [SetL.w_sortSet]); walk_at "d"))
local macro_rules | `(tactic| walk_at "f") => `(tactic| (walk_at "d"; (try simp only [TupE.w_lcTe, TupE.w_lcE]); walk_at "d"))
def top (i : Nat) : Stmt := PySem.Challenge.pw_powernumbers_k15_greatest_gaps.main.body.getD i (.Pass ⟨0, 0, 0, 0⟩)
structure Bt (mg : PySem.Str → Option Value) : Prop where
  range : mg "range" = none
  len : mg "len" = none
  sum : mg "sum" = none
  min : mg "min" = none
  max : mg "max" = none
  abs : mg "abs" = none
  sorted : mg "sorted" = none
  isinstance : mg "isinstance" = none
  enumerate : mg "enumerate" = none
  zip : mg "zip" = none
  int : mg "int" = none
  bool : mg "bool" = none
  str : mg "str" = none
  list : mg "list" = none
  tuple : mg "tuple" = none
  dict : mg "dict" = none
  set : mg "set" = none
abbrev s_taken : Stmt := top 1
theorem sc_taken : FnScope ["base", "exponent", "found"] ["base", "exponent"] (defScope s_taken) := ⟨rfl, rfl, rfl, by decide +kernel, rfl, by decide +kernel, by decide +kernel⟩
def sp_taken (K : PySem.W.Frag) : Sp := fun vs H Q _ => ∃ (b e a : Nat), vs = [.int (b : Int), .int (e : Int)] ∧ (b < 2 ^ a ∨ e = 0) ∧ a * e ≤ 300000 ∧ Q (.int ((b ^ e : Nat) : Int)) H
section
variable {P : Program} {w : World} {K : PySem.W.Frag} {mg : PySem.Str → Option Value} {base : Heap}
theorem bi_taken {f : Addr} {fd : FuncData} (F : Fun K "taken" "taken" s_taken f fd) : Binds K fd ["base", "exponent"] [] := F.binds (ps := ["base", "exponent"]) fun _ _ _ _ _ _ us hl => match us, hl with | [_, _], _ => rfl
set_option maxHeartbeats 4000000 in
theorem ok_taken {f : Addr} {fd : FuncData} (F : Fun K "taken" "taken" s_taken f fd) (B : Bt mg)  : FnOk P w K mg base CX0 1 f fd ["base", "exponent"] (sp_taken K) := by
  refine F.ok sc_taken (fun vs H Q E h => ?_) (fun cdv A outer s H vs Q E hr h => ?_)
  · obtain ⟨b, e, a, rfl, hb, ha, q⟩ := h
    rfl
  · obtain ⟨b, e, a, rfl, hb, ha, q⟩ := h
    refine ⟨_, (pss_cons (ps_set (i := 2) sc_taken.nd rfl (Or.inl rfl) pe_int)
      (pss_cons (ps_while PassesOwn.never (pt_cmpR op_gt (pv 1) pe_int (nomark _))
        (pss_cons (ps_if (pt_cmpR op_eq (pe_op op_mod (pv 1) pe_int) pe_int (nomark _))
          (pss_one (ps_set (i := 2) sc_taken.nd rfl (Or.inl rfl) (pe_op op_mulW (pv 2) (pv 0))))
          pss_nil)
        (pss_cons (ps_set (i := 0) sc_taken.nd rfl (Or.inl rfl) (pe_op op_mulW (pv 0) (pv 0)))
        (pss_one (ps_set (i := 1) sc_taken.nd rfl (Or.inl rfl) (pe_op op_fdiv (pv 1) pe_int))))))
      (pss_one (ps_ret (pv 2))))), ?_⟩
    walk_at "w"
    have hX : b ^ e ≤ 2 ^ (a * e) := by
      rcases hb with hb | rfl
      · rw [Nat.pow_mul]
        exact Nat.pow_le_pow_left (by omega) e
      · simp
    refine while_m (fun m σ H' => ∃ f b' e' : Nat, σ = [some (.int b'), some (.int e'), some (.int f)] ∧ H' = H ∧ e' = m ∧ f * b' ^ e' = b ^ e ∧ f ≤ 2 ^ (a * e) ∧ (0 < e' → b' ≤ 2 ^ (a * e)) ∧ (f = 0 → b' = 0)) e ?_ ?_
    · refine ⟨1, b, e, rfl, rfl, rfl, by simp, Nat.one_le_two_pow, fun he => ?_, by omega⟩
      exact Nat.le_trans (Nat.le_self_pow (by omega) b) hX
    · rintro m σ H' ⟨f, b', e', rfl, rfl, rfl, h1, h2, h3, h4⟩ G hG
      walk_at "w"
      refine ite2 (fun hc => hG _ _ fun N hN => ?_) (fun hc => ?_)
      · have he : 0 < e' := by omega
        have hl1 := log2_le_of_le h2
        have hl2 := log2_le_of_le (h3 he)
        walk_at "w"
        refine ⟨by decide, ite2 (fun ho => ?_) (fun ho => ?_)⟩
        · have ho' : e' % 2 = 1 := by omega
          refine ⟨cmulN (by omega), cmulN (by omega), by unfold CDiv; omega, hN (e' / 2) _ _ (by omega) ⟨f * b', b' * b', e' / 2, by simp, rfl, rfl, tk_step1 h1 ho', tk_odd h1 hX he, fun h0 => ?_, fun h0 => ?_⟩⟩
          · rcases Nat.eq_zero_or_pos f with hf | hf
            · simp [h4 hf]
            · exact tk_sq h1 hX (by omega) h4
          · rcases Nat.mul_eq_zero.mp h0 with hf | hf
            · simp [h4 hf]
            · simp [hf]
        · have ho' : e' % 2 = 0 := by omega
          refine ⟨cmulN (by omega), by unfold CDiv; omega, hN (e' / 2) _ _ (by omega) ⟨f, b' * b', e' / 2, by simp, rfl, rfl, tk_step0 h1 ho', h2, fun h0 => tk_sq h1 hX (by omega) h4, fun h0 => by simp [h4 h0]⟩⟩
      · have he : e' = 0 := by omega
        subst he
        rw [Nat.pow_zero, Nat.mul_one] at h1
        rw [h1]
        exact q
end
abbrev s_root_of : Stmt := top 2
theorem sc_root_of : FnScope ["number", "exponent", "low", "high", "between"] ["number", "exponent"] (defScope s_root_of) := ⟨rfl, rfl, rfl, by decide +kernel, rfl, by decide +kernel, by decide +kernel⟩
def sp_root_of (K : PySem.W.Frag) : Sp := fun vs H Q _ => ∃ (n e c : Nat), vs = [.int (n : Int), .int (e : Int)] ∧ 1 ≤ e ∧ n < 2 ^ c ∧ c + 2 * e ≤ 300000 ∧
  ∀ (r : Nat) (p : Addr), r ^ e ≤ n → n < (r + 1) ^ e → H p = none → Q (.ref p) (upd H p (.tup [.int (r : Int), .int ((n - r ^ e : Nat) : Int)]))
theorem rt_bits {j e n c : Nat} (h1 : (2 ^ j) ^ e ≤ n) (hn : n < 2 ^ c) : j * e < c := by
  rw [← Nat.pow_mul] at h1
  exact (Nat.pow_lt_pow_iff_right (by omega : 1 < 2)).mp (Nat.lt_of_le_of_lt h1 hn)
section
variable {P : Program} {w : World} {K : PySem.W.Frag} {mg : PySem.Str → Option Value} {base : Heap}
theorem bi_root_of {f : Addr} {fd : FuncData} (F : Fun K "root_of" "root_of" s_root_of f fd) : Binds K fd ["number", "exponent"] [] := F.binds (ps := ["number", "exponent"]) fun _ _ _ _ _ _ us hl => match us, hl with | [_, _], _ => rfl
set_option maxHeartbeats 4000000 in
theorem ok_root_of {f : Addr} {fd : FuncData} (F : Fun K "root_of" "root_of" s_root_of f fd) (B : Bt mg) (h_taken : Fn P w K mg base CX0 1 "taken" ["base", "exponent"] (sp_taken K)) : FnOk P w K mg base CX0 2 f fd ["number", "exponent"] (sp_root_of K) := by
  refine F.ok sc_root_of (fun vs H Q E h => ?_) (fun cdv A outer s H vs Q E hr h => ?_)
  · obtain ⟨n, e, c, rfl, he, hn, hc, q⟩ := h
    rfl
  · obtain ⟨n, e, c, rfl, he, hn, hc, q⟩ := h
    refine ⟨_, (pss_cons (ps_set (i := 2) sc_root_of.nd rfl (Or.inl rfl) pe_int)
      (pss_cons (ps_set (i := 3) sc_root_of.nd rfl (Or.inl rfl) pe_int)
      (pss_cons (ps_while PassesOwn.never (pt_cmpR op_le (pe_fn h_taken (hr.mono (by decide)) (by rfl) (pa_cons (pv 3) (pa_cons (pv 1) pa_nil))) (pv 0) (nomark _))
        (pss_one (ps_set (i := 3) sc_root_of.nd rfl (Or.inl rfl) (pe_op op_mul pe_int (pv 3)))))
      (pss_cons (ps_while PassesOwn.never (pt_cmpR op_gt (pe_op op_sub (pv 3) (pv 2)) pe_int (nomark _))
        (pss_cons (ps_set (i := 4) sc_root_of.nd rfl (Or.inl rfl) (pe_op op_fdiv (pe_op op_add (pv 2) (pv 3)) pe_int))
        (pss_one (ps_if (pt_cmpR op_le (pe_fn h_taken (hr.mono (by decide)) (by rfl) (pa_cons (pv 4) (pa_cons (pv 1) pa_nil))) (pv 0) (nomark _))
          (pss_one (ps_set (i := 2) sc_root_of.nd rfl (Or.inl rfl) (pv 4)))
          (pss_one (ps_set (i := 3) sc_root_of.nd rfl (Or.inl rfl) (pv 4)))))))
      (pss_one (ps_ret (pe_tup (pa_cons (pv 2) (pa_cons (pe_op op_sub (pv 0) (pe_fn h_taken (hr.mono (by decide)) (by rfl) (pa_cons (pv 2) (pa_cons (pv 1) pa_nil)))) pa_nil))))))))), ?_⟩
    walk_at "w"
    have key : ∀ j : Nat, (j = 0 ∨ (2 ^ (j - 1)) ^ e ≤ n) → (j + 1) * e ≤ c + 2 * e := by
      intro j hj
      rcases hj with rfl | hj
      · omega
      · rcases Nat.eq_zero_or_pos j with rfl | hp
        · omega
        · have := rt_bits hj hn
          have e1 : j + 1 = (j - 1) + 2 := by omega
          rw [e1, Nat.add_mul]
          omega
    refine while_m (fun m σ H' => ∃ j : Nat, σ = [some (.int n), some (.int e), some (.int 0), some (.int ((2 ^ j : Nat) : Int)), none] ∧ H' = H ∧ m = n + 1 - j ∧ j ≤ n + 1 ∧ (j = 0 ∨ (2 ^ (j - 1)) ^ e ≤ n)) (n + 1) ⟨0, by simp, rfl, rfl, by omega, .inl rfl⟩ ?_
    rintro m σ H' ⟨j, rfl, rfl, rfl, hjn, hj⟩ G hG
    walk_at "w"
    refine ⟨2 ^ j, e, j + 1, rfl, .inl (Nat.pow_lt_pow_right (by omega) (by omega)), by have := key j hj; omega, ?_⟩
    walk_at "w"
    refine ite2 (fun ht => hG _ _ fun N hN => ?_) (fun ht => ?_)
    · have ht' : (2 ^ j) ^ e ≤ n := by omega
      have hjlt : j ≤ n := by
        have h2 : 2 ^ j ≤ (2 ^ j) ^ e := Nat.le_self_pow (by omega) _
        have h3 : j < 2 ^ j := Nat.lt_two_pow_self
        omega
      walk_at "w"
      refine ⟨by unfold CMul; omega, hN (n + 1 - (j + 1)) _ _ (by omega) ⟨j + 1, ?_, rfl, rfl, by omega, .inr (by simpa using ht')⟩⟩
      simp [Nat.pow_succ, Nat.mul_comm]
    · have ht' : n < (2 ^ j) ^ e := by omega
      refine while_m (fun m σ H2 => ∃ (lo hi : Nat) (b : Option V), σ = [some (.int n), some (.int e), some (.int lo), some (.int hi), b] ∧ H2 = H' ∧ hi - lo = m ∧ lo < hi ∧ hi ≤ 2 ^ j ∧ lo ^ e ≤ n ∧ n < hi ^ e) (2 ^ j) ⟨0, 2 ^ j, none, rfl, rfl, Nat.sub_zero _, Nat.two_pow_pos j, Nat.le_refl _, by rw [Nat.zero_pow (by omega)]; omega, ht'⟩ ?_
      rintro m σ H2 ⟨lo, hi, b, rfl, rfl, rfl, hlt, hle, h1, h2⟩ G hG
      have key2 := key j hj
      walk_at "w"
      refine ite2 (fun hw => hG _ _ fun N hN => ?_) (fun hw => ?_)
      · have e1 : ((lo : Int) + hi) / 2 = (((lo + hi) / 2 : Nat) : Int) := by omega
        have hpow : 2 ^ j < 2 ^ (j + 1) := Nat.pow_lt_pow_right (by omega) (by omega)
        walk_at "w"
        refine ⟨by unfold CDiv; omega, (lo + hi) / 2, e, j + 1, by rw [e1], .inl (by omega), by omega, ?_⟩
        walk_at "w"
        refine ite2 (fun hs => hN (hi - (lo + hi) / 2) _ _ (by omega) ⟨(lo + hi) / 2, hi, _, by rw [e1], rfl, rfl, by omega, hle, by omega, h2⟩)
          (fun hs => hN ((lo + hi) / 2 - lo) _ _ (by omega) ⟨lo, (lo + hi) / 2, _, by rw [e1], rfl, rfl, by omega, by omega, h1, by omega⟩)
      · have e2 : hi = lo + 1 := by omega
        subst e2
        walk_at "w"
        have hpow : 2 ^ j < 2 ^ (j + 1) := Nat.pow_lt_pow_right (by omega) (by omega)
        refine ⟨lo, e, j + 1, rfl, .inl (by omega), by omega, ?_⟩
        walk_at "w"
        refine ⟨by show 2 ≤ sizeLine; decide, fun p hp => ?_⟩
        have e3 : (n : Int) - ((lo ^ e : Nat) : Int) = ((n - lo ^ e : Nat) : Int) := by omega
        rw [e3]
        exact q lo p h1 h2 hp
end
abbrev s_taken_to : Stmt := top 5
theorem sc_taken_to : FnScope ["base", "exponent", "found", "turn"] ["base", "exponent"] (defScope s_taken_to) := ⟨rfl, rfl, rfl, by decide +kernel, rfl, by decide +kernel, by decide +kernel⟩
def sp_taken_to (K : PySem.W.Frag) : Sp := fun vs H Q _ => ∃ (b e a : Nat), vs = [.int (b : Int), .int (e : Int)] ∧ b < 2 ^ a ∧ e ≤ 1000000 ∧ a * e ≤ 300000 ∧ Q (.int ((b ^ e : Nat) : Int)) H
section
variable {P : Program} {w : World} {K : PySem.W.Frag} {mg : PySem.Str → Option Value} {base : Heap}
theorem bi_taken_to {f : Addr} {fd : FuncData} (F : Fun K "taken_to" "taken_to" s_taken_to f fd) : Binds K fd ["base", "exponent"] [] := F.binds (ps := ["base", "exponent"]) fun _ _ _ _ _ _ us hl => match us, hl with | [_, _], _ => rfl
set_option maxHeartbeats 4000000 in
theorem ok_taken_to {f : Addr} {fd : FuncData} (F : Fun K "taken_to" "taken_to" s_taken_to f fd) (B : Bt mg)  : FnOk P w K mg base CX0 1 f fd ["base", "exponent"] (sp_taken_to K) := by
  refine F.ok sc_taken_to (fun vs H Q E h => ?_) (fun cdv A outer s H vs Q E hr h => ?_)
  · obtain ⟨b, e, a, rfl, hb, he, ha, q⟩ := h
    rfl
  · obtain ⟨b, e, a, rfl, hb, he, ha, q⟩ := h
    refine ⟨_, (pss_cons (ps_set (i := 2) sc_taken_to.nd rfl (Or.inl rfl) pe_int)
      (pss_cons (ps_for PassesOwn.never rfl (pi_range1 rfl B.range (pa_cons (pv 1) pa_nil)) (pg_name (i := 3) sc_taken_to.nd rfl (Or.inl rfl))
        (pss_one (ps_set (i := 2) sc_taken_to.nd rfl (Or.inl rfl) (pe_op op_mulW (pv 2) (pv 0)))))
      (pss_one (ps_ret (pv 2))))), ?_⟩
    walk_at "w"
    refine ⟨by omega, by omega, for_r (fun i σ H' => ∃ (v : Option V), σ = [some (.int b), some (.int e), some (.int ((b ^ i : Nat) : Int)), v] ∧ H' = H) ⟨none, by simp, rfl⟩ ?_ ?_⟩
    · rintro i σ H' hi ⟨v, rfl, rfl⟩ N hN
      have hi : i < e := by omega
      have h1 : b ^ i ≤ 2 ^ (a * e) := by
        rw [Nat.pow_mul]
        refine Nat.le_trans (Nat.pow_le_pow_left (Nat.le_of_lt hb) i) (Nat.pow_le_pow_right (Nat.two_pow_pos a) (by omega))
      have h2 : b ≤ 2 ^ (a * e) := Nat.le_trans (Nat.le_of_lt hb) (Nat.pow_le_pow_right (by decide) (Nat.le_mul_of_pos_right a (by omega)))
      have l1 := log2_le_of_le h1
      have l2 := log2_le_of_le h2
      walk_at "w"
      rw [show ((b ^ i : Nat) : Int) * (b : Int) = ((b ^ (i + 1) : Nat) : Int) by simp [Nat.pow_succ]]
      exact ⟨cmulN (by omega), hN _ _ ⟨_, rfl, rfl⟩⟩
    · rintro σ H' ⟨v, rfl, rfl⟩
      walk_at "w"
      exact q
end
abbrev s_higher_powers : Stmt := top 4
theorem sc_higher_powers : FnScope ["most", "found", "exponent", "base"] ["most"] (defScope s_higher_powers) := ⟨rfl, rfl, rfl, by decide +kernel, rfl, by decide +kernel, by decide +kernel⟩
def sp_higher_powers (K : PySem.W.Frag) : Sp := fun vs H Q _ => ∃ (m : Nat), vs = [.int (m : Int)] ∧ m ≤ 1000000 ∧ ∀ (p : Addr) (ks : List Nat) (H' : Hp), H p = none → Same H H' → ks.Nodup → ks.length ≤ 100000 → (∀ x, x ∈ ks ↔ ∃ b e, 1 ≤ b ∧ 3 ≤ e ∧ 2 ^ e ≤ m ∧ x = b ^ e ∧ x ≤ m) → H' p = some (.dK (dN ks fun _ => .bl true)) → Q (.ref p) H'
section
variable {P : Program} {w : World} {K : PySem.W.Frag} {mg : PySem.Str → Option Value} {base : Heap}
theorem bi_higher_powers {f : Addr} {fd : FuncData} (F : Fun K "higher_powers" "higher_powers" s_higher_powers f fd) : Binds K fd ["most"] [] := F.binds (ps := ["most"]) fun _ _ _ _ _ _ us hl => match us, hl with | [_], _ => rfl
set_option maxHeartbeats 4000000 in
theorem ok_higher_powers {f : Addr} {fd : FuncData} (F : Fun K "higher_powers" "higher_powers" s_higher_powers f fd) (B : Bt mg) (h_root_of : Fn P w K mg base CX0 2 "root_of" ["number", "exponent"] (sp_root_of K)) (h_taken_to : Fn P w K mg base CX0 1 "taken_to" ["base", "exponent"] (sp_taken_to K)) : FnOk P w K mg base CX0 3 f fd ["most"] (sp_higher_powers K) := by
  refine F.ok sc_higher_powers (fun vs H Q E h => ?_) (fun cdv A outer s H vs Q E hr h => ?_)
  · obtain ⟨m, rfl, hm, q⟩ := h
    rfl
  · obtain ⟨m, rfl, hm, q⟩ := h
    refine ⟨_, (pss_cons (ps_set (i := 1) sc_higher_powers.nd rfl (Or.inl rfl) pe_dnewK)
      (pss_cons (ps_set (i := 2) sc_higher_powers.nd rfl (Or.inl rfl) pe_int)
      (pss_cons (ps_while PassesOwn.never (pt_cmpR op_gt (pe_ix (k_ixT K) (pe_fn h_root_of (hr.mono (by decide)) (by rfl) (pa_cons (pv 0) (pa_cons (pv 2) pa_nil))) pe_int (fun _ _ => rfl)) pe_int (nomark _))
        (pss_cons (ps_for PassesOwn.never rfl (pi_range2 rfl B.range (pa_cons pe_int (pa_cons (pe_op op_add (pe_ix (k_ixT K) (pe_fn h_root_of (hr.mono (by decide)) (by rfl) (pa_cons (pv 0) (pa_cons (pv 2) pa_nil))) pe_int (fun _ _ => rfl)) pe_int) pa_nil))) (pg_name (i := 3) sc_higher_powers.nd rfl (Or.inl rfl))
          (pss_one (ps_dput (hu_of hr) (pv 1) (pe_fn h_taken_to (hr.mono (by decide)) (by rfl) (pa_cons (pv 3) (pa_cons (pv 2) pa_nil))) pe_bl rfl)))
        (pss_one (ps_set (i := 2) sc_higher_powers.nd rfl (Or.inl rfl) (pe_op op_add (pv 2) pe_int)))))
      (pss_one (ps_ret (pv 1)))))), ?_⟩
    have h20 : m < 2 ^ 20 := Nat.lt_of_le_of_lt hm (by decide)
    walk_at "d"
    intro p hp
    refine while_m (fun z σ H' => ∃ (k : Nat) (ks : List Nat) (v3 : Option V), σ = [some (.int (m : Int)), some (.ref p), some (.int ((3 + k : Nat) : Int)), v3] ∧ 40 - k = z ∧ (k = 0 ∨ 2 ^ (2 + k) ≤ m) ∧ Same H H' ∧ H' p = some (.dK (dN ks fun _ => .bl true)) ∧ ks.Nodup ∧ ks.length ≤ 100 * k ∧ ∀ x, x ∈ ks ↔ ∃ b e, 1 ≤ b ∧ 3 ≤ e ∧ e < 3 + k ∧ x = b ^ e ∧ x ≤ m) 40 ⟨0, [], _, rfl, rfl, .inl rfl, same_new hp, upd_same, List.nodup_nil, by simp, fun x => ⟨fun h => by simp at h, fun ⟨b, e, h1, h2, h3, _⟩ => by omega⟩⟩ ?_
    rintro z σ H1 ⟨k, ks, v3, rfl, rfl, hk, s1, hd, hn, hl, hmem⟩ G hG
    have hk17 : k ≤ 17 := by
      rcases hk with c | c
      · omega
      · have : 2 + k < 20 := (Nat.pow_lt_pow_iff_right (by omega : 1 < 2)).mp (Nat.lt_of_le_of_lt c h20)
        omega
    walk_at "d"
    refine ⟨m, 3 + k, 20, rfl, by omega, h20, by omega, fun r t h1 h2 ht => ?_⟩
    have er := rootN_is (by omega) h1 h2
    subst er
    refine r_ixT (SqT.of upd_same) (v := .int ((rootN m (3 + k) : Nat) : Int)) rfl ?_
    have st := same_new (o := .tup [V.int ((rootN m (3 + k) : Nat) : Int), V.int ((m - rootN m (3 + k) ^ (3 + k) : Nat) : Int)]) ht
    have hd2 := st _ _ hd
    have s2 := s1.trans st
    generalize upd H1 t (.tup [V.int ((rootN m (3 + k) : Nat) : Int), V.int ((m - rootN m (3 + k) ^ (3 + k) : Nat) : Int)]) = H2 at st hd2 s2 ⊢
    walk_at "d"
    have hgt := rootN_gt1 (n := m) (e := 3 + k) (by omega)
    have hr100 : rootN m (3 + k) ≤ 100 := by
      rcases Nat.lt_or_ge 100 (rootN m (3 + k)) with c | c
      · have h3 : 101 ^ 3 ≤ rootN m (3 + k) ^ 3 := Nat.pow_le_pow_left c 3
        have h4 : rootN m (3 + k) ^ 3 ≤ rootN m (3 + k) ^ (3 + k) := Nat.pow_le_pow_right (by omega) (by omega)
        omega
      · exact c
    refine ite2 (fun hc => hG _ _ fun N hN => ?_) (fun hc => ?_)
    · have h2e : 2 ^ (3 + k) ≤ m := hgt.mp (by omega)
      walk_at "d"
      refine ⟨m, 3 + k, 20, rfl, by omega, h20, by omega, fun r t3 h13 h23 ht3 => ?_⟩
      have er := rootN_is (by omega) h13 h23
      subst er
      refine r_ixT (SqT.of upd_same) (v := .int ((rootN m (3 + k) : Nat) : Int)) rfl ?_
      have st3 := same_new (o := .tup [V.int ((rootN m (3 + k) : Nat) : Int), V.int ((m - rootN m (3 + k) ^ (3 + k) : Nat) : Int)]) ht3
      have hd3 := st3 _ _ hd2
      have s3 := s2.trans st3
      generalize upd H2 t3 (.tup [V.int ((rootN m (3 + k) : Nat) : Int), V.int ((m - rootN m (3 + k) ^ (3 + k) : Nat) : Int)]) = H3 at st3 hd3 s3 ⊢
      walk_at "d"
      have hkk : (((rootN m (3 + k) : Nat) : Int) + 1 - 1).toNat = rootN m (3 + k) := by omega
      rw [hkk]
      refine ⟨by omega, by omega, by omega, by omega, for_r (fun i σ H' => ∃ (ks' : List Nat) (v3 : Option V), σ = [some (.int (m : Int)), some (.ref p), some (.int ((3 + k : Nat) : Int)), v3] ∧ Same H H' ∧ H' p = some (.dK (dN ks' fun _ => .bl true)) ∧ ks'.Nodup ∧ ks'.length ≤ 100 * k + i ∧ ∀ x, x ∈ ks' ↔ x ∈ ks ∨ ∃ b, 1 ≤ b ∧ b ≤ i ∧ x = b ^ (3 + k)) ⟨ks, _, rfl, s3, hd3, hn, by omega, fun x => ⟨.inl, fun z => z.elim id fun ⟨b, b1, b2, _⟩ => by omega⟩⟩ ?_ ?_⟩
      · rintro i σ H4 hi ⟨ks', v3, rfl, s4, hd4, hn4, hl4, hm4⟩ N2 hN2
        have e1 : (1 : Int) + (i : Int) = ((1 + i : Nat) : Int) := by omega
        walk_at "d"
        rw [e1]
        refine ⟨1 + i, 3 + k, 7, rfl, by omega, by omega, by omega, ?_⟩
        walk_at "d"
        obtain ⟨g1, g2, g3⟩ := put_nodup (x := (1 + i) ^ (3 + k)) hn4
        refine ⟨_, dN_any hd4 (size_le (by omega)), ?_⟩
        refine hN2 _ _ ⟨_, _, rfl, sm_new s4 hp, upd_same, g1, by omega, fun x => ?_⟩
        rw [g2 x, hm4 x]
        constructor
        · rintro ((y | ⟨b, b1, b2, b3⟩) | y)
          · exact .inl y
          · exact .inr ⟨b, b1, by omega, b3⟩
          · exact .inr ⟨1 + i, by omega, by omega, y⟩
        · rintro (y | ⟨b, b1, b2, b3⟩)
          · exact .inl (.inl y)
          · rcases (by omega : b ≤ i ∨ b = 1 + i) with c | c
            · exact .inl (.inr ⟨b, b1, c, b3⟩)
            · exact .inr (c ▸ b3)
      · rintro σ H4 ⟨ks', v3, rfl, s4, hd4, hn4, hl4, hm4⟩
        walk_at "d"
        have e2 : ((3 + k : Nat) : Int) + 1 = ((3 + (k + 1) : Nat) : Int) := by omega
        rw [e2]
        refine hN _ _ _ (by omega) ⟨k + 1, ks', _, rfl, rfl, .inr (by rw [show 2 + (k + 1) = 3 + k by omega]; exact h2e), s4, hd4, hn4, by omega, fun x => ?_⟩
        rw [hm4 x, hmem x]
        constructor
        · rintro (⟨b, e, b1, b2, b3, b4, b5⟩ | ⟨b, b1, b2, b3⟩)
          · exact ⟨b, e, b1, b2, by omega, b4, b5⟩
          · refine ⟨b, 3 + k, b1, by omega, by omega, b3, ?_⟩
            rw [b3]
            exact Nat.le_trans (Nat.pow_le_pow_left b2 _) h1
        · rintro ⟨b, e, b1, b2, b3, b4, b5⟩
          rcases (by omega : e < 3 + k ∨ e = 3 + k) with c | c
          · exact .inl ⟨b, e, b1, b2, c, b4, b5⟩
          · subst c
            exact .inr ⟨b, b1, rootN_ge (by omega) (by omega), b4⟩
    · walk_at "d"
      refine q p ks _ hp s2 hn (by omega) (fun x => ?_) hd2
      rw [hmem x]
      have hno : ¬ 2 ^ (3 + k) ≤ m := fun z => hc (by have := hgt.mpr z; omega)
      constructor
      · rintro ⟨b, e, b1, b2, b3, b4, b5⟩
        refine ⟨b, e, b1, b2, ?_, b4, b5⟩
        rcases hk with c | c
        · omega
        · exact Nat.le_trans (Nat.pow_le_pow_right (by omega) (by omega)) c
      · rintro ⟨b, e, b1, b2, b3, b4, b5⟩
        refine ⟨b, e, b1, b2, Nat.lt_of_not_le fun z => hno ?_, b4, b5⟩
        exact Nat.le_trans (Nat.pow_le_pow_right (by omega) z) b3
end
abbrev s_greatest_gap : Stmt := top 6
theorem sc_greatest_gap : FnScope ["most", "powers", "base", "best", "row", "one", "other"] ["most"] (defScope s_greatest_gap) := ⟨rfl, rfl, rfl, by decide +kernel, rfl, by decide +kernel, by decide +kernel⟩
def sp_greatest_gap (K : PySem.W.Frag) : Sp := fun vs H Q _ => ∃ (m : Nat), vs = [.int (m : Int)] ∧ m ≤ 1000000 ∧ ∀ (v : V) (H' : Hp), Same H H' → VG H' v (gapTo (powL m) ((powL m).length - 1)) → Q v H'
section
variable {P : Program} {w : World} {K : PySem.W.Frag} {mg : PySem.Str → Option Value} {base : Heap}
theorem bi_greatest_gap {f : Addr} {fd : FuncData} (F : Fun K "greatest_gap" "greatest_gap" s_greatest_gap f fd) : Binds K fd ["most"] [] := F.binds (ps := ["most"]) fun _ _ _ _ _ _ us hl => match us, hl with | [_], _ => rfl
set_option maxHeartbeats 4000000 in
theorem ok_greatest_gap {f : Addr} {fd : FuncData} (F : Fun K "greatest_gap" "greatest_gap" s_greatest_gap f fd) (B : Bt mg) (h_higher_powers : Fn P w K mg base CX0 3 "higher_powers" ["most"] (sp_higher_powers K)) (h_root_of : Fn P w K mg base CX0 2 "root_of" ["number", "exponent"] (sp_root_of K)) : FnOk P w K mg base CX0 4 f fd ["most"] (sp_greatest_gap K) := by
  refine F.ok sc_greatest_gap (fun vs H Q E h => ?_) (fun cdv A outer s H vs Q E hr h => ?_)
  · obtain ⟨m, rfl, hm, q⟩ := h
    rfl
  · obtain ⟨m, rfl, hm, q⟩ := h
    refine ⟨_, (pss_cons (ps_set (i := 1) sc_greatest_gap.nd rfl (Or.inl rfl) (pe_fn h_higher_powers (hr.mono (by decide)) (by rfl) (pa_cons (pv 0) pa_nil)))
      (pss_cons (ps_for PassesOwn.never rfl (pi_range2 rfl B.range (pa_cons pe_int (pa_cons (pe_op op_add (pe_ix (k_ixT K) (pe_fn h_root_of (hr.mono (by decide)) (by rfl) (pa_cons (pv 0) (pa_cons pe_int pa_nil))) pe_int (fun _ _ => rfl)) pe_int) pa_nil))) (pg_name (i := 2) sc_greatest_gap.nd rfl (Or.inl rfl))
        (pss_one (ps_dput (hu_of hr) (pv 1) (pe_op op_mulW (pv 2) (pv 2)) pe_bl rfl)))
      (pss_cons (ps_set (i := 3) sc_greatest_gap.nd rfl (Or.inl rfl) pe_non)
      (pss_cons (ps_set (i := 4) sc_greatest_gap.nd rfl (Or.inl rfl) (pe_callB DicS.cr_sortD (by rfl) B.sorted (by decide +kernel) (pa_cons (pv 1) pa_nil)))
      (pss_cons (ps_for PassesOwn.never rfl (pi_zip (by rfl) B.zip (pa_cons (pv 4) (pa_cons (pe_slice (k_slL K) (pv 4) (po_some pe_int) po_none) pa_nil))) (pg_tup rfl (pgs_cons (pg_name (i := 5) sc_greatest_gap.nd rfl (Or.inl rfl)) (pgs_cons (pg_name (i := 6) sc_greatest_gap.nd rfl (Or.inl rfl)) pgs_nil)))
        (pss_one (ps_if (PW.pt (pw_or (pt_cmpR op_isN (pv 3) pe_non (nomark _)) (pw_or1 (pt_cmpR op_gt (pe_op op_sub (pv 6) (pv 5)) (pe_ix (k_ixT K) (pv 3) pe_int (fun _ _ => rfl)) (nomark _)))))
          (pss_one (ps_set (i := 3) sc_greatest_gap.nd rfl (Or.inl rfl) (pe_tup (pa_cons (pe_op op_sub (pv 6) (pv 5)) (pa_cons (pv 5) (pa_cons (pv 6) pa_nil))))))
          pss_nil)))
      (pss_one (ps_ret (pv 3)))))))), ?_⟩
    have h20 : m < 2 ^ 20 := Nat.lt_of_le_of_lt hm (by decide)
    walk_at "d"
    refine ⟨m, rfl, hm, fun p ks H1 hp s1 hn hl hmem hd => ?_⟩
    walk_at "d"
    refine ⟨m, 2, 20, rfl, by omega, h20, by omega, fun r t h1 h2 ht => ?_⟩
    have er := rootN_is (by omega) h1 h2
    subst er
    refine r_ixT (SqT.of upd_same) (v := .int ((rootN m 2 : Nat) : Int)) rfl ?_
    have st := same_new (o := .tup [V.int ((rootN m 2 : Nat) : Int), V.int ((m - rootN m 2 ^ 2 : Nat) : Int)]) ht
    have hd2 := st _ _ hd
    have s2 := s1.trans st
    generalize upd H1 t (.tup [V.int ((rootN m 2 : Nat) : Int), V.int ((m - rootN m 2 ^ 2 : Nat) : Int)]) = H2 at st hd2 s2 ⊢
    have hr : rootN m 2 ≤ 1000 := by
      rcases Nat.lt_or_ge 1000 (rootN m 2) with c | c
      · have h3 : 1001 ^ 2 ≤ rootN m 2 ^ 2 := Nat.pow_le_pow_left c 2
        omega
      · exact c
    walk_at "d"
    have hkk : (((rootN m 2 : Nat) : Int) + 1 - 1).toNat = rootN m 2 := by omega
    rw [hkk]
    refine ⟨by omega, by omega, by omega, by omega, for_r (fun i σ H' => ∃ (ks' : List Nat) (v2 : Option V), σ = [some (.int (m : Int)), some (.ref p), v2, none, none, none, none] ∧ Same H H' ∧ H' p = some (.dK (dN ks' fun _ => .bl true)) ∧ ks'.Nodup ∧ ks'.length ≤ 100000 + i ∧ ∀ x, x ∈ ks' ↔ x ∈ ks ∨ ∃ b, 1 ≤ b ∧ b ≤ i ∧ x = b * b) ⟨ks, _, rfl, s2, hd2, hn, by omega, fun x => ⟨.inl, fun z => z.elim id fun ⟨b, b1, b2, _⟩ => by omega⟩⟩ ?_ ?_⟩
    · rintro i σ H4 hi ⟨ks', v2, rfl, s4, hd4, hn4, hl4, hm4⟩ N2 hN2
      have e1 : (1 : Int) + (i : Int) = ((1 + i : Nat) : Int) := by omega
      have e2 : ((1 + i : Nat) : Int) * ((1 + i : Nat) : Int) = (((1 + i) * (1 + i) : Nat) : Int) := by push_cast; rfl
      walk_at "d"
      rw [e1, e2]
      obtain ⟨g1, g2, g3⟩ := put_nodup (x := (1 + i) * (1 + i)) hn4
      refine ⟨wide_mul (a := 64) (b := 64) (by omega) (by omega) (by decide) (by decide) (by decide), _, dN_any hd4 (size_le (by omega)), ?_⟩
      refine hN2 _ _ ⟨_, _, rfl, sm_new s4 hp, upd_same, g1, by omega, fun x => ?_⟩
      rw [g2 x, hm4 x]
      constructor
      · rintro ((y | ⟨b, b1, b2, b3⟩) | y)
        · exact .inl y
        · exact .inr ⟨b, b1, by omega, b3⟩
        · exact .inr ⟨1 + i, by omega, by omega, y⟩
      · rintro (y | ⟨b, b1, b2, b3⟩)
        · exact .inl (.inl y)
        · rcases (by omega : b ≤ i ∨ b = 1 + i) with c | c
          · exact .inl (.inr ⟨b, b1, c, b3⟩)
          · exact .inr (c ▸ b3)
    · rintro σ H4 ⟨ks', v2, rfl, s4, hd4, hn4, hl4, hm4⟩
      walk_at "d"
      refine ⟨p, dN ks' (fun _ => .bl true), ofN ks', rfl, .inl hd4, dN_keys _ _, fun ys r perm srt hr => ?_⟩
      have eY : ys = ofN (powL m) := sorted_is hn4 (powL_sorted m) (fun x => by rw [hm4 x, hmem x, mem_powL]; exact pow_split.symm) perm srt
      subst eY
      have s5 : Same H4 _ := same_new (o := .lst ((ofN (powL m)).map V.int)) hr
      have hR : upd H4 r (.lst ((ofN (powL m)).map V.int)) r = some (.lst ((ofN (powL m)).map V.int)) := upd_same
      generalize upd H4 r (.lst ((ofN (powL m)).map V.int)) = H5 at s5 hR ⊢
      walk_at "d"
      simp only [w_forZ]
      walk_at "d"
      refine r_slL (SqL.of hR) fun l hl => ?_
      have e3 : cutV ((ofN (powL m)).map V.int) (some 1) none = ((ofN (powL m)).map V.int).drop 1 := cut_from _ 1
      rw [e3]
      have s6 := same_new (o := .lst (((ofN (powL m)).map V.int).drop 1)) hl
      have hL : upd H5 l (.lst (((ofN (powL m)).map V.int).drop 1)) l = some (.lst (((ofN (powL m)).map V.int).drop 1)) := upd_same
      have hR6 := s6 _ _ hR
      have s7 := s4.trans (s5.trans s6)
      generalize upd H5 l (.lst (((ofN (powL m)).map V.int).drop 1)) = H6 at s6 hL hR6 s7 ⊢
      refine ⟨l, rfl, ⟨_, SqL.of hR6⟩, ⟨_, SqL.of hL⟩, for_z (xs := (ofN (powL m)).map V.int) (ys := ((ofN (powL m)).map V.int).drop 1) (n := (powL m).length - 1) (by simp only [List.length_map, List.length_drop, ofN]; omega) (fun i σ H' => ∃ (v : V) (v5 v6 : Option V), σ = [some (.int (m : Int)), some (.ref p), v2, some v, some (.ref r), v5, v6] ∧ Same H6 H' ∧ VG H' v (gapTo (powL m) i)) ⟨_, _, _, rfl, Same.refl _, rfl⟩ ?_ ?_ ?_⟩
      · rintro i σ H' _ ⟨v, v5, v6, _, s8, _⟩
        exact ⟨SqL.of (s8 _ _ hR6), SqL.of (s8 _ _ hL)⟩
      · rintro i x y σ H' T hx hy hi ⟨v, v5, v6, rfl, s8, hv⟩ hT N hN
        obtain ⟨x, hx1, rfl⟩ := ofN_at hx
        rw [List.getElem?_drop, Nat.add_comm] at hy
        obtain ⟨y, hy1, rfl⟩ := ofN_at hy
        have hg := gapTo_succ hx1 hy1
        have hlt : x < y := pairwise_at (powL_sorted m) (by omega) hx1 hy1
        have sT := same_new (o := .tup [V.int (x : Int), V.int (y : Int)]) hT
        have hT2 : upd H' T (.tup [V.int (x : Int), V.int (y : Int)]) T = some (.tup [V.int (x : Int), V.int (y : Int)]) := upd_same
        have hv2 := hv.same sT
        have s9 := s8.trans sT
        generalize upd H' T (.tup [V.int (x : Int), V.int (y : Int)]) = H7 at sT hT2 hv2 s9 ⊢
        refine ⟨T, _, rfl, SqT.of hT2, rfl, ?_⟩
        have e4 : (y : Int) - (x : Int) = ((y - x : Nat) : Int) := by omega
        cases hgt : gapTo (powL m) i with
        | none =>
          rw [hgt] at hv2 hg
          cases hv2
          walk_at "w"
          refine ⟨by show 3 ≤ sizeLine; decide, fun b hb => ?_⟩
          rw [e4]
          refine hN _ _ ⟨_, _, _, rfl, sm_new s9 (s8.free (sT.free hb)), ?_⟩
          rw [hg]
          exact ⟨b, rfl, upd_same⟩
        | some t =>
          rw [hgt] at hv2 hg
          obtain ⟨b0, rfl, hb0⟩ := hv2
          walk_at "w"
          refine r_ixT (SqT.of hb0) (v := .int (t.1 : Int)) rfl ?_
          walk_at "w"
          refine ite2 (fun hc => ?_) (fun hc => ?_)
          · walk_at "w"
            refine ⟨by show 3 ≤ sizeLine; decide, fun b hb => ?_⟩
            rw [e4]
            refine hN _ _ ⟨_, _, _, rfl, sm_new s9 (s9.free hb), ?_⟩
            rw [hg, gapStep, if_pos (by omega)]
            exact ⟨b, rfl, upd_same⟩
          · walk_at "w"
            refine hN _ _ ⟨_, _, _, rfl, s9, ?_⟩
            rw [hg, gapStep, if_neg (by omega)]
            exact ⟨b0, rfl, hb0⟩
      · rintro σ H' ⟨v, v5, v6, rfl, s8, hv⟩
        walk_at "d"
        exact q _ _ (s7.trans s8) hv
end
abbrev s__law_deck : Stmt := top 8
theorem sc__law_deck : FnScope ["script", "great", "mixed", "cell"] ["script"] (defScope s__law_deck) := ⟨rfl, rfl, rfl, by decide +kernel, rfl, by decide +kernel, by decide +kernel⟩
def sp__law_deck (K : PySem.W.Frag) : Sp := fun vs H Q _ => ∃ (a : Addr) (ns : List Int), vs = [.ref a] ∧ SqL K H a (ns.map V.int) ∧ ns.length ≤ 63 ∧ (∀ z ∈ ns, Builtin.Int.intBits z ≤ 1048576) ∧ ∀ (p : Addr) (H' : Hp), H p = none → Same H H' → Dk3 H' p 0 → Q (.ref p) H'
section
variable {P : Program} {w : World} {K : PySem.W.Frag} {mg : PySem.Str → Option Value} {base : Heap}
theorem bi__law_deck {f : Addr} {fd : FuncData} (F : Fun K "_law_deck" "_law_deck" s__law_deck f fd) : Binds K fd ["script"] [] := F.binds (ps := ["script"]) fun _ _ _ _ _ _ us hl => match us, hl with | [_], _ => rfl
set_option maxHeartbeats 4000000 in
theorem ok__law_deck {f : Addr} {fd : FuncData} (F : Fun K "_law_deck" "_law_deck" s__law_deck f fd) (B : Bt mg)  : FnOk P w K mg base CX0 1 f fd ["script"] (sp__law_deck K) := by
  refine F.ok sc__law_deck (fun vs H Q E h => ?_) (fun cdv A outer s H vs Q E hr h => ?_)
  · obtain ⟨a, ns, rfl, hS, hlen, hb, q⟩ := h
    rfl
  · obtain ⟨a, ns, rfl, hS, hlen, hb, q⟩ := h
    refine ⟨_, (pss_cons (ps_set (i := 1) sc__law_deck.nd rfl (Or.inl rfl) pe_int)
      (pss_cons (ps_set (i := 2) sc__law_deck.nd rfl (Or.inl rfl) (pe_op op_add (pe_op op_mul pe_int (pe_callB (k_len K) (by rfl) B.len (by decide +kernel) (pa_cons (pv 0) pa_nil))) pe_int))
      (pss_cons (ps_for PassesOwn.never rfl (pi_list (pe_slice (k_slL K) (pv 0) po_none (po_some pe_int))) (pg_name (i := 3) sc__law_deck.nd rfl (Or.inl rfl))
        (pss_one (ps_if (pt_cmpR op_ge (pe_callB call_abs (by rfl) B.abs (by decide +kernel) (pa_cons (pv 3) pa_nil)) (pe_op op_pow pe_int pe_int) (nomark _))
          (pss_one (ps_set (i := 1) sc__law_deck.nd rfl (Or.inl rfl) (pe_op op_add (pe_op op_shlW (pv 1) pe_int) (pe_callB call_abs (by rfl) B.abs (by decide +kernel) (pa_cons (pv 3) pa_nil)))))
          (pss_one (ps_set (i := 2) sc__law_deck.nd rfl (Or.inl rfl) (pe_op op_mod (pe_op op_add (pe_op op_mul (pv 2) pe_int) (pv 3)) pe_int))))))
      (pss_one (ps_ret (pe_lst (pa_cons (pv 1) (pa_cons (pv 2) (pa_cons pe_int pa_nil))))))))), ?_⟩
    have e18 : (10 : Int) ^ Int.toNat 18 = 1000000000000000000 := rfl
    have c18 : CPow 10 18 := by unfold CPow; omega
    walk_at "w"
    refine r_len hS ?_
    walk_at "w"
    refine ⟨by unfold CMul; omega, ?_⟩
    refine r_slL hS fun l hl => ?_
    have e1 : cutV (ns.map V.int) none (some 63) = ns.map V.int := by
      have := cut_to (ns.map V.int) 63
      rw [List.take_of_length_le (by simpa using hlen)] at this
      exact this
    rw [e1]
    have sl := same_new (o := .lst (ns.map V.int)) hl
    have hL : upd H l (.lst (ns.map V.int)) l = some (.lst (ns.map V.int)) := upd_same
    generalize upd H l (.lst (ns.map V.int)) = H0 at sl hL ⊢
    refine ⟨l, rfl, ⟨_, SqL.of hL⟩, for_l (xs := ns.map V.int) (fun i σ H' => H' = H0 ∧ ∃ (g x : Int) (v3 : Option V), σ = [some (.ref a), some (.int g), some (.int x), v3] ∧ 0 ≤ g ∧ g < 2 ^ (i * 1048800) ∧ 0 ≤ x ∧ x < 2 ^ 40) ⟨rfl, _, _, _, rfl, by omega, by simp, by simp only [List.length_map]; omega, by simp only [List.length_map]; omega⟩ ?_ ?_ ?_⟩
    · rintro i σ H' _ ⟨rfl, _⟩
      exact SqL.of hL
    · rintro i y σ H' hy ⟨rfl, g, x, v3, rfl, g0, g1, x0, x1⟩ N hN
      obtain ⟨c, hc, rfl⟩ := int_at hy
      have hi : i < 63 := by
        have := (List.getElem?_eq_some_iff.mp hy).1
        simp at this
        omega
      have hm := shl_more g0 g1 (hb c hc)
      have cs : CShl g 205 := shl_ok (i := g) (j := 205) (n := i * 1048800) (by
        obtain ⟨n, rfl⟩ := Int.eq_ofNat_of_zero_le g0
        have e : ((n : Nat) : Int) < ((2 ^ (i * 1048800) : Nat) : Int) := by
          rw [Int.natCast_pow]
          exact g1
        exact Int.ofNat_lt.mp e) (by omega)
      walk_at "w"
      rw [e18]
      refine ⟨c18, ite2 (fun h => ?_) (fun h => ?_)⟩
      · walk_at "w"
        refine ⟨cs, hN _ _ ⟨rfl, _, _, _, rfl, hm.1, hm.2, x0, x1⟩⟩
      · walk_at "w"
        refine ⟨by unfold CMul; omega, by omega, hN _ _ ⟨rfl, _, _, _, rfl, g0, ?_, by omega, by omega⟩⟩
        exact pow_grow g1 (by omega)
    · rintro σ H' ⟨rfl, g, x, v3, rfl, g0, g1, x0, x1⟩
      walk_at "w"
      exact ⟨by show 3 ≤ sizeLine; decide, fun p hp => q p _ (sl.free hp) (sm_new sl (sl.free hp)) ⟨_, _, _, upd_same, x0, x1, by omega, by omega⟩⟩
end
abbrev s__law_draw : Stmt := top 9
theorem sc__law_draw : FnScope ["deck", "most", "found", "turn", "one"] ["deck", "most"] (defScope s__law_draw) := ⟨rfl, rfl, rfl, by decide +kernel, rfl, by decide +kernel, by decide +kernel⟩
def sp__law_draw (K : PySem.W.Frag) : Sp := fun vs H Q _ => ∃ (a : Addr) (m : Int) (n : Nat), vs = [.ref a, .int m] ∧ Dk3 H a n ∧ n ≤ 1000000 ∧ 1 ≤ m ∧ m < 2 ^ 200 ∧ ∀ (r : Int) (H' : Hp), Kp a H H' → Dk3 H' a (n + 1) → 0 ≤ r → r < m → Q (.int r) H'
theorem use_draw {K : PySem.W.Frag} {a : Addr} {m : Int} {n : Nat} {H H0 : Hp} {Q : VK} {E : XK} (k : Kp a H0 H) (d : Dk3 H a n) (hn : n ≤ 1000000) (h1 : 1 ≤ m) (h2 : m < 2 ^ 200)
    (q : ∀ (r : Int) (H' : Hp), Kp a H H' → Kp a H0 H' → Dk3 H' a (n + 1) → 0 ≤ r → r < m → Q (.int r) H') : sp__law_draw K [.ref a, .int m] H Q E :=
  ⟨a, m, n, rfl, d, hn, h1, h2, fun r H' k' d' => q r H' k' (k.trans k') d'⟩
theorem use_pick {K : PySem.W.Frag} {a p : Addr} {m : Int} {n : Nat} {xs : List V} {H H0 : Hp} {Q : VK} {E : XK} (P : V → Prop) (hP : ∀ x ∈ xs, P x) (k : Kp a H0 H) (d : Dk3 H a n) (hn : n ≤ 1000000) (hp : H p = none) (hm : (xs.length : Int) = m) (h1 : 1 ≤ m) (h2 : m < 2 ^ 200)
    (q : ∀ (v : V) (H' : Hp), P v → Kp a H H' → Kp a H0 H' → Dk3 H' a (n + 1) → Q v H') : sp__law_draw K [.ref a, .int m] (upd H p (.lst xs)) (fun y H2 => rIxL K (.ref p) y H2 Q) E := by
  have np := d.ne hp
  refine use_draw (K := K) (k.trans (sm_kp (same_new hp))) (d.same (same_new hp)) hn h1 h2 fun r H' k' K' d' r0 r1 => ?_
  obtain ⟨v, hv, hat⟩ := atI_mem (xs := xs) r0 (by omega)
  exact r_ixL (SqL.of (k' _ _ np upd_same)) hat (q v H' (hP v hv) ((sm_kp (same_new hp)).trans k') K' d')
section
variable {P : Program} {w : World} {K : PySem.W.Frag} {mg : PySem.Str → Option Value} {base : Heap}
theorem bi__law_draw {f : Addr} {fd : FuncData} (F : Fun K "_law_draw" "_law_draw" s__law_draw f fd) : Binds K fd ["deck", "most"] [] := F.binds (ps := ["deck", "most"]) fun _ _ _ _ _ _ us hl => match us, hl with | [_, _], _ => rfl
set_option maxHeartbeats 4000000 in
theorem ok__law_draw {f : Addr} {fd : FuncData} (F : Fun K "_law_draw" "_law_draw" s__law_draw f fd) (B : Bt mg)  : FnOk P w K mg base CX0 1 f fd ["deck", "most"] (sp__law_draw K) := by
  refine F.ok sc__law_draw (fun vs H Q E h => ?_) (fun cdv A outer s H vs Q E hr h => ?_)
  · obtain ⟨a, m, n, rfl, hD, hn, hm, hm2, q⟩ := h
    rfl
  · obtain ⟨a, m, n, rfl, hD, hn, hm, hm2, q⟩ := h
    refine ⟨_, (pss_cons (ps_asg (pe_op op_add (pe_ix (k_ixL K) (pv 0) pe_int (fun _ _ => rfl)) pe_int) (pg_sub (pv 0) pe_int set_list))
      (pss_cons (ps_if (pt_cmpR op_gt (pe_ix (k_ixL K) (pv 0) pe_int (fun _ _ => rfl)) pe_int (nomark _))
        (pss_cons (ps_set (i := 2) sc__law_draw.nd rfl (Or.inl rfl) (pe_op op_mod (pe_ix (k_ixL K) (pv 0) pe_int (fun _ _ => rfl)) (pv 1)))
        (pss_cons (ps_asg (pe_op op_fdivW (pe_ix (k_ixL K) (pv 0) pe_int (fun _ _ => rfl)) (pv 1)) (pg_sub (pv 0) pe_int set_list))
        (pss_one (ps_ret (pv 2)))))
        pss_nil)
      (pss_cons (ps_set (i := 3) sc__law_draw.nd rfl (Or.inl rfl) (pe_ix (k_ixL K) (pv 0) pe_int (fun _ _ => rfl)))
      (pss_cons (ps_set (i := 4) sc__law_draw.nd rfl (Or.inl rfl) (pe_op op_mod (pe_op op_add (pe_op op_add (pe_ix (k_ixL K) (pv 0) pe_int (fun _ _ => rfl)) (pe_op op_mulW (pe_op op_mul pe_int (pv 3)) (pv 3))) (pe_op op_mul pe_int (pv 3))) pe_int))
      (pss_cons (ps_set (i := 4) sc__law_draw.nd rfl (Or.inl rfl) (pe_op op_mod (pe_op op_mulW (pv 4) (pv 4)) pe_int))
      (pss_one (ps_ret (pe_op op_mod (pe_op op_fdiv (pe_op op_mod (pe_op op_add (pe_op op_mul (pv 4) pe_int) (pe_op op_mul (pv 3) pe_int)) pe_int) pe_int) (pv 1))))))))), ?_⟩
    obtain ⟨g, x, t, h1, x0, x1, t0, t1⟩ := hD
    have hk : ∀ o, Kp a H (upd H a o) := fun o => (Kp.refl a H).upd
    have q2 : ∀ z g' : Int, Q (.int (z % m)) (upd H a (.lst [.int g', .int x, .int (t + 1)])) := fun z g' => q _ _ (hk _) ⟨_, _, _, upd_same, x0, x1, by omega, by omega⟩ (Int.emod_nonneg _ (by omega)) (Int.emod_lt_of_pos _ (by omega))
    have hdv : ∀ z : Int, CDivW z m := fun z => wide_div (b := 200) (by omega) (by omega) (by decide) (by decide)
    walk_at "w"
    walk_at "ix"
    walk_at "st"
    walk_at "ix"
    refine ite2 (fun hf => ?_) (fun hf => ?_)
    · walk_at "ix"
      refine ⟨by omega, ?_⟩
      walk_at "ix"
      refine ⟨hdv _, ?_⟩
      walk_at "st"
      rw [upd_upd]
      exact q2 _ _
    · walk_at "ix"
      walk_at "ix"
      generalize hz : (x + 70003 * (t + 1) * (t + 1) + 5003 * (t + 1)) % 2147483543 = z
      have hz1 : 0 ≤ z ∧ z < 2147483543 := by omega
      generalize hy : z * z % 2147483497 = y
      have hy1 : 0 ≤ y ∧ y < 2147483497 := by omega
      refine ⟨by unfold CMul; omega, wide_mul (a := 64) (b := 64) (by omega) (by omega) (by decide) (by decide) (by decide), by unfold CMul; omega, by omega, wide_mul (a := 64) (b := 64) (by omega) (by omega) (by decide) (by decide) (by decide), by omega, by unfold CMul; omega, by unfold CMul; omega, by omega, by unfold CDiv; omega, by omega, q2 _ _⟩
end
abbrev s__law_same : Stmt := top 10
theorem sc__law_same : FnScope ["found", "due", "one", "other"] ["found", "due"] (defScope s__law_same) := ⟨rfl, rfl, rfl, by decide +kernel, rfl, by decide +kernel, by decide +kernel⟩
def sp__law_same_k (K : PySem.W.Frag) (k : Nat) : Sp := fun vs H Q _ => ∃ (v v' : V) (n : Nat), vs = [v, v'] ∧ n + 1 ≤ k ∧ ((∃ a b : Int, v = .int a ∧ v' = .int b ∧ ∀ H', Same H H' → Q (.bl (decide (a = b))) H') ∨ (∃ o o', 1 ≤ n ∧ VG H v o ∧ VG H v' o' ∧ ∀ H', Same H H' → Q (.bl (decide (o = o'))) H'))
theorem zip_ones : ∀ xs ys : List V, xs.length = ys.length → ∃ n, (xs.zip ys).filterMap (fun p : V × V => if p.1 = p.2 then none else some (V.int 1)) = (List.replicate n (1 : Int)).map V.int ∧ (n = 0 ↔ xs = ys)
  | [], [], _ => ⟨0, rfl, by simp⟩
  | [], _ :: _, h => by simp at h
  | _ :: _, [], h => by simp at h
  | x :: xs, y :: ys, h => by
    obtain ⟨n, h1, h2⟩ := zip_ones xs ys (by simpa using h)
    by_cases c : x = y
    · refine ⟨n, ?_, ?_⟩
      · rw [List.zip_cons_cons, List.filterMap_cons]
        simp only [c, if_true]
        exact h1
      · rw [h2]
        simp [c]
    · refine ⟨n + 1, ?_, ?_⟩
      · rw [List.zip_cons_cons, List.filterMap_cons]
        simp only [c, if_false]
        rw [h1]
        rfl
      · simp [c]
section
variable {P : Program} {w : World} {K : PySem.W.Frag} {mg : PySem.Str → Option Value} {base : Heap}
theorem bi__law_same {f : Addr} {fd : FuncData} (F : Fun K "_law_same" "_law_same" s__law_same f fd) : Binds K fd ["found", "due"] [] := F.binds (ps := ["found", "due"]) fun _ _ _ _ _ _ us hl => match us, hl with | [_, _], _ => rfl
set_option maxHeartbeats 4000000 in
theorem ok__law_same {f : Addr} {fd : FuncData} (F : Fun K "_law_same" "_law_same" s__law_same f fd) (B : Bt mg) (mf : mg "_law_same" = some (.ref f))  : ∀ k : Nat, FnOk P w K mg base CX0 k f fd ["found", "due"] (sp__law_same_k K k)
  | 0 => fn_vac fun vs H Q E h => by
    obtain ⟨v, v', n, rfl, hk, q⟩ := h
    omega
  | k + 1 => by
    have h__law_same : Fn P w K mg base CX0 k "_law_same" ["found", "due"] (sp__law_same_k K k) := ⟨f, fd, mf, F.kp, bi__law_same F, ok__law_same F B mf  k⟩
    refine F.ok sc__law_same (fun vs H Q E h => ?_) (fun cdv A outer s H vs Q E hr h => ?_)
    · obtain ⟨v, v', n, rfl, hk, q⟩ := h
      rfl
    · obtain ⟨v, v', n, rfl, hk, q⟩ := h
      refine ⟨_, (pss_cons (ps_if (pt_cmpR op_isN (pv 1) pe_non (nomark _))
        (pss_one (ps_ret (pe_cmpR op_isN (pv 0) pe_non (nomark _))))
        pss_nil)
      (pss_cons (ps_if (pt_val (pe_callB (k_isi K) (by rfl) B.isinstance (by decide +kernel) (pa_cons (pv 1) (pa_cons (pe_bltn (v := .ty "tuple") (u := .type "tuple") (by rfl) B.tuple (by decide +kernel) rfl) pa_nil))))
        (pss_cons (ps_if (PW.pt (pw_or (pt_not (pt_val (pe_callB (k_isi K) (by rfl) B.isinstance (by decide +kernel) (pa_cons (pv 0) (pa_cons (pe_bltn (v := .ty "tuple") (u := .type "tuple") (by rfl) B.tuple (by decide +kernel) rfl) pa_nil))))) (pw_or1 (pt_cmpR op_ne (pe_callB (k_len K) (by rfl) B.len (by decide +kernel) (pa_cons (pv 0) pa_nil)) (pe_callB (k_len K) (by rfl) B.len (by decide +kernel) (pa_cons (pv 1) pa_nil)) (nomark _)))))
          (pss_one (ps_ret pe_bl))
          pss_nil)
        (pss_one (ps_ret (pe_cmpR (k_eqD K rfl hr.units) (pe_lc (own := [("one", 2), ("other", 3)]) (g := gTup K 2 (gCons (gName 2) (gCons (gName 3) gNil))) rfl sc__law_same.nd (RZ.pi_zipA (by rfl) B.zip (pa_cons (pv 0) (pa_cons (pv 1) pa_nil))) (blkOk_by (own := [("one", 2), ("other", 3)]) (N := ["found", "due", "one", "other"]) (sc := defScope s__law_same) (by decide +kernel)) (fun _ _ _ _ _ => (pg_tup rfl (pgs_cons (pg_name (i := 2) sc__law_same.nd rfl (Or.inl rfl)) (pgs_cons (pg_name (i := 3) sc__law_same.nd rfl (Or.inl rfl)) pgs_nil)))) (fun _ _ _ _ _ => (pts_one (pt_not (pt_val (pe_fn h__law_same hr (by rfl) (pa_cons (pv 2) (pa_cons (pv 3) pa_nil))))))) (fun _ _ _ _ _ => pe_int)) (pe_lst pa_nil) (nomark _)))))
        pss_nil)
      (pss_cons (ps_if (pt_val (pe_callB (k_isi K) (by rfl) B.isinstance (by decide +kernel) (pa_cons (pv 1) (pa_cons (pe_bltn (v := .ty "str") (u := .type "str") (by rfl) B.str (by decide +kernel) rfl) pa_nil))))
        (pss_one (ps_ret (pe_and (pe_callB (k_isi K) (by rfl) B.isinstance (by decide +kernel) (pa_cons (pv 0) (pa_cons (pe_bltn (v := .ty "str") (u := .type "str") (by rfl) B.str (by decide +kernel) rfl) pa_nil))) (pe_one (pe_cmpR (k_eqD K rfl hr.units) (pv 0) (pv 1) (nomark _))))))
        pss_nil)
      (pss_one (ps_ret (pe_and (pe_callB (k_isi K) (by rfl) B.isinstance (by decide +kernel) (pa_cons (pv 0) (pa_cons (pe_bltn (v := .ty "int") (u := .type "int") (by rfl) B.int (by decide +kernel) rfl) pa_nil))) (pe_and (pe_not (pe_callB (k_isi K) (by rfl) B.isinstance (by decide +kernel) (pa_cons (pv 0) (pa_cons (pe_bltn (v := .ty "bool") (u := .type "bool") (by rfl) B.bool (by decide +kernel) rfl) pa_nil)))) (pe_one (pe_cmpR (k_eqD K rfl hr.units) (pv 0) (pv 1) (nomark _)))))))))), ?_⟩
      rcases q with ⟨a, b, rfl, rfl, q⟩ | ⟨o, o', hn, hv, hv', q⟩
      · walk_at "w"
        refine r_isi (ty_int b) (c := false) rfl ?_
        walk_at "w"
        refine r_isi (ty_int b) (c := false) rfl ?_
        walk_at "w"
        refine r_isi (ty_int a) (c := true) rfl ?_
        walk_at "w"
        refine r_isi (ty_int a) (c := false) rfl ?_
        walk_at "w"
        refine r_eqDI ?_
        exact q _ (Same.refl _)
      · cases o' with
        | none =>
          cases hv'
          walk_at "w"
          cases o with
          | none =>
            cases hv
            exact q _ (Same.refl _)
          | some t =>
            obtain ⟨p, rfl, hp⟩ := hv
            exact q _ (Same.refl _)
        | some t' =>
          obtain ⟨p', rfl, hp'⟩ := hv'
          walk_at "w"
          refine r_isi (ty_tup (SqT.of hp')) (c := true) rfl ?_
          walk_at "w"
          cases o with
          | none =>
            cases hv
            refine r_isi ty_non (c := false) rfl ?_
            walk_at "w"
            exact q _ (Same.refl _)
          | some t =>
            obtain ⟨p, rfl, hp⟩ := hv
            refine r_isi (ty_tup (SqT.of hp)) (c := true) rfl ?_
            walk_at "w"
            refine r_lenT (SqT.of hp) (r_lenT (SqT.of hp') ?_)
            walk_at "w"
            simp only [w_lcZ]
            walk_at "w"
            refine ⟨_, _, .inr ⟨SqT.of hp, SqT.of hp', lc_zt (fun x y => if x = y then none else some (.int 1)) (SqT.of hp) (SqT.of hp') rfl (by show 3 < sizeLine; decide) ?_ ?_⟩⟩
            · intro i x y T H' hx hy s1 hT N0 N1 h0 h1
              have hxy : ∃ c d : Int, x = .int c ∧ y = .int d := by
                have m1 := List.mem_of_getElem? hx
                have m2 := List.mem_of_getElem? hy
                simp at m1 m2
                rcases m1 with rfl | rfl | rfl <;> rcases m2 with rfl | rfl | rfl <;> exact ⟨_, _, rfl, rfl⟩
              obtain ⟨c, d, rfl, rfl⟩ := hxy
              refine ⟨T, _, rfl, SqT.of hT, rfl, ?_⟩
              walk_at "w"
              refine ⟨_, _, 0, rfl, by omega, .inl ⟨c, d, rfl, rfl, fun H2 s2 => ?_⟩⟩
              walk_at "w"
              by_cases e : c = d
              · rw [if_neg (fun z => z e)]
                exact h0 (by rw [e, if_pos rfl]) _ s2
              · rw [if_pos e]
                exact h1 _ (if_neg fun z => e (by injection z)) _ s2
            · intro D H' hD s1 hL
              obtain ⟨n, h1, h2⟩ := zip_ones [V.int ↑t.fst, V.int ↑t.snd.fst, V.int ↑t.snd.snd] [V.int ↑t'.fst, V.int ↑t'.snd.fst, V.int ↑t'.snd.snd] rfl
              rw [h1] at hL
              refine ⟨by show 0 ≤ sizeLine; decide, fun r hr => r_eqL (ns := List.replicate n 1) (ms := []) (SqL.of ((upd_ne (ne_of_none hL hr)).trans hL)) (SqL.of upd_same) ?_⟩
              have e : decide (List.replicate n (1 : Int) = []) = decide (some t = some t') := by
                refine decide_eq_decide.mpr ?_
                rw [List.replicate_eq_nil_iff, h2]
                obtain ⟨a1, a2, a3⟩ := t
                obtain ⟨b1, b2, b3⟩ := t'
                simp only [List.cons.injEq, V.int.injEq, Int.natCast_inj, Option.some.injEq, Prod.mk.injEq, and_true]
              rw [e]
              exact q _ (sm_new s1 (s1.free hr))
end
abbrev sp__law_same (K : PySem.W.Frag) : Sp := sp__law_same_k K 2
abbrev s__law_higher : Stmt := top 14
theorem sc__law_higher : FnScope ["most", "found", "base", "power"] ["most"] (defScope s__law_higher) := ⟨rfl, rfl, rfl, by decide +kernel, rfl, by decide +kernel, by decide +kernel⟩
def sp__law_higher (K : PySem.W.Frag) : Sp := fun vs H Q _ => ∃ (m : Nat), vs = [.int (m : Int)] ∧ m ≤ 1000000 ∧ ∀ (p : Addr) (ks : List Nat) (H' : Hp), H p = none → Same H H' → ks.Nodup → ks.length ≤ 100000 → (∀ x, x ∈ ks ↔ x = 1 ∨ ∃ b e, 2 ≤ b ∧ 3 ≤ e ∧ x = b ^ e ∧ x ≤ m) → H' p = some (.dK (dN ks fun _ => .bl true)) → Q (.ref p) H'
theorem cube {b : Nat} : b * b * b = b ^ 3 := by
  rw [Nat.pow_succ, Nat.pow_two]
section
variable {P : Program} {w : World} {K : PySem.W.Frag} {mg : PySem.Str → Option Value} {base : Heap}
theorem bi__law_higher {f : Addr} {fd : FuncData} (F : Fun K "_law_higher" "_law_higher" s__law_higher f fd) : Binds K fd ["most"] [] := F.binds (ps := ["most"]) fun _ _ _ _ _ _ us hl => match us, hl with | [_], _ => rfl
set_option maxHeartbeats 4000000 in
theorem ok__law_higher {f : Addr} {fd : FuncData} (F : Fun K "_law_higher" "_law_higher" s__law_higher f fd) (B : Bt mg)  : FnOk P w K mg base CX0 1 f fd ["most"] (sp__law_higher K) := by
  refine F.ok sc__law_higher (fun vs H Q E h => ?_) (fun cdv A outer s H vs Q E hr h => ?_)
  · obtain ⟨m, rfl, hm, q⟩ := h
    rfl
  · obtain ⟨m, rfl, hm, q⟩ := h
    refine ⟨_, (pss_cons (ps_set (i := 1) sc__law_higher.nd rfl (Or.inl rfl) (pe_disp (pps_cons pe_int pe_bl pps_nil) rfl rfl (by decide) (by decide)))
      (pss_cons (ps_set (i := 2) sc__law_higher.nd rfl (Or.inl rfl) pe_int)
      (pss_cons (ps_while PassesOwn.never (pt_cmpR op_le (pe_op op_mulW (pe_op op_mulW (pv 2) (pv 2)) (pv 2)) (pv 0) (nomark _))
        (pss_cons (ps_set (i := 3) sc__law_higher.nd rfl (Or.inl rfl) (pe_op op_mulW (pe_op op_mulW (pv 2) (pv 2)) (pv 2)))
        (pss_cons (ps_while PassesOwn.never (pt_cmpR op_le (pv 3) (pv 0) (nomark _))
          (pss_cons (ps_dput (hu_of hr) (pv 1) (pv 3) pe_bl rfl)
          (pss_one (ps_set (i := 3) sc__law_higher.nd rfl (Or.inl rfl) (pe_op op_mulW (pv 3) (pv 2))))))
        (pss_one (ps_set (i := 2) sc__law_higher.nd rfl (Or.inl rfl) (pe_op op_add (pv 2) pe_int))))))
      (pss_one (ps_ret (pv 1)))))), ?_⟩
    have h20 : m < 2 ^ 20 := Nat.lt_of_le_of_lt hm (by decide)
    walk_at "d"
    refine r_disp1 (k := 1) fun p hp => ?_
    walk_at "d"
    refine while_m (fun z σ H' => ∃ (k : Nat) (ks : List Nat) (v3 : Option V), σ = [some (.int (m : Int)), some (.ref p), some (.int ((2 + k : Nat) : Int)), v3] ∧ 200 - k = z ∧ k ≤ 100 ∧ Same H H' ∧ H' p = some (.dK (dN ks fun _ => .bl true)) ∧ ks.Nodup ∧ ks.length ≤ 1 + 30 * k ∧ ∀ x, x ∈ ks ↔ x = 1 ∨ ∃ b e, 2 ≤ b ∧ b < 2 + k ∧ 3 ≤ e ∧ x = b ^ e ∧ x ≤ m) 200 ⟨0, [1], _, rfl, rfl, by omega, same_new hp, upd_same, by simp, by simp, fun x => ⟨fun h => by simp at h; exact .inl h, fun h => h.elim (fun e => by simp [e]) fun ⟨b, e, h1, h2, _⟩ => by omega⟩⟩ ?_
    rintro z σ H1 ⟨k, ks, v3, rfl, rfl, hk, s1, hd, hn, hl, hmem⟩ G hG
    have c1 : (2 + k) * (2 + k) ≤ 102 * 102 := Nat.mul_le_mul (by omega) (by omega)
    have c2 : (2 + k) * (2 + k) * (2 + k) ≤ 102 * 102 * 102 := Nat.mul_le_mul c1 (by omega)
    have e1 : ((2 + k : Nat) : Int) * ((2 + k : Nat) : Int) = (((2 + k) * (2 + k) : Nat) : Int) := by push_cast; rfl
    have e2 : (((2 + k) * (2 + k) : Nat) : Int) * ((2 + k : Nat) : Int) = ((2 + k) ^ (3 + 0) : Nat) := by rw [Nat.add_zero, ← cube]; push_cast; rfl
    have m1 : CMulW ((2 + k : Nat) : Int) ((2 + k : Nat) : Int) := wide_mul (a := 64) (b := 64) (by omega) (by omega) (by decide) (by decide) (by decide)
    have m2 : CMulW (((2 + k) * (2 + k) : Nat) : Int) ((2 + k : Nat) : Int) := wide_mul (a := 64) (b := 64) (by omega) (by omega) (by decide) (by decide) (by decide)
    walk_at "d"
    rw [e1, e2]
    refine ⟨m1, m2, ite2 (fun hc => hG _ _ fun N hN => ?_) (fun hc => ?_)⟩
    · have hc3 : (2 + k) ^ (3 + 0) ≤ m := by omega
      have hk98 : k ≤ 98 := by
        rcases Nat.lt_or_ge 98 k with c | c
        · have : 101 ^ 3 ≤ (2 + k) ^ 3 := Nat.pow_le_pow_left (by omega) 3
          rw [Nat.add_zero] at hc3
          omega
        · exact c
      walk_at "d"
      rw [e1, e2]
      refine ⟨m1, m2, while_m (fun z σ H' => ∃ (j : Nat) (ks' : List Nat), σ = [some (.int (m : Int)), some (.ref p), some (.int ((2 + k : Nat) : Int)), some (.int (((2 + k) ^ (3 + j) : Nat) : Int))] ∧ 40 - j = z ∧ (j = 0 ∨ (2 + k) ^ (2 + j) ≤ m) ∧ Same H H' ∧ H' p = some (.dK (dN ks' fun _ => .bl true)) ∧ ks'.Nodup ∧ ks'.length ≤ 1 + 30 * k + j ∧ ∀ x, x ∈ ks' ↔ x ∈ ks ∨ ∃ e, 3 ≤ e ∧ e < 3 + j ∧ x = (2 + k) ^ e ∧ x ≤ m) 40 ⟨0, ks, rfl, rfl, .inl rfl, s1, hd, hn, by omega, fun x => ⟨.inl, fun h => h.elim id fun ⟨e, h1, h2, _⟩ => by omega⟩⟩ ?_⟩
      rintro z σ H2 ⟨j, ks', rfl, rfl, hj, s2, hd2, hn2, hl2, hm2⟩ G2 hG2
      have hp2 : ∀ i, (2 + k) ^ i ≤ m → i < 20 := fun i hi => by
        have h3 : 2 ^ i ≤ (2 + k) ^ i := Nat.pow_le_pow_left (by omega) i
        exact (Nat.pow_lt_pow_iff_right (by omega : 1 < 2)).mp (Nat.lt_of_le_of_lt (Nat.le_trans h3 hi) h20)
      have hj18 : j ≤ 17 := by
        rcases hj with c | c
        · omega
        · have := hp2 _ c
          omega
      walk_at "d"
      refine ite2 (fun hc2 => hG2 _ _ fun N2 hN2 => ?_) (fun hc2 => ?_)
      · have hle : (2 + k) ^ (3 + j) ≤ m := by omega
        have e3 : (((2 + k) ^ (3 + j) : Nat) : Int) * ((2 + k : Nat) : Int) = (((2 + k) ^ (3 + (j + 1)) : Nat) : Int) := by
          rw [show 3 + (j + 1) = (3 + j) + 1 by omega, Nat.pow_succ]
          push_cast
          rfl
        walk_at "d"
        rw [e3]
        obtain ⟨g1, g2, g3⟩ := put_nodup (x := (2 + k) ^ (3 + j)) hn2
        refine ⟨_, dN_any hd2 (size_le (by omega)), ?_⟩
        refine ⟨wide_mul (a := 64) (b := 64) (by omega) (by omega) (by decide) (by decide) (by decide), hN2 _ _ _ (by omega) ⟨j + 1, _, rfl, rfl, .inr (by rw [show 2 + (j + 1) = 3 + j by omega]; exact hle), sm_new s2 hp, upd_same, g1, by omega, fun x => ?_⟩⟩
        rw [g2 x, hm2 x]
        constructor
        · rintro ((y | ⟨e, b1, b2, b3⟩) | y)
          · exact .inl y
          · exact .inr ⟨e, b1, by omega, b3⟩
          · exact .inr ⟨3 + j, by omega, by omega, y, by rw [y]; exact hle⟩
        · rintro (y | ⟨e, b1, b2, b3, b4⟩)
          · exact .inl (.inl y)
          · rcases (by omega : e < 3 + j ∨ e = 3 + j) with c | c
            · exact .inl (.inr ⟨e, b1, c, b3, b4⟩)
            · exact .inr (c ▸ b3)
      · walk_at "d"
        have e4 : ((2 + k : Nat) : Int) + 1 = ((2 + (k + 1) : Nat) : Int) := by omega
        rw [e4]
        refine hN _ _ _ (by omega) ⟨k + 1, ks', _, rfl, rfl, by omega, s2, hd2, hn2, by omega, fun x => ?_⟩
        rw [hm2 x, hmem x]
        constructor
        · rintro ((y | ⟨b, e, b1, b2, b3, b4⟩) | ⟨e, b1, b2, b3, b4⟩)
          · exact .inl y
          · exact .inr ⟨b, e, b1, by omega, b3, b4⟩
          · exact .inr ⟨2 + k, e, by omega, by omega, b1, b3, b4⟩
        · rintro (y | ⟨b, e, b1, b2, b3, b4, b5⟩)
          · exact .inl (.inl y)
          · rcases (by omega : b < 2 + k ∨ b = 2 + k) with c | c
            · exact .inl (.inr ⟨b, e, b1, c, b3, b4, b5⟩)
            · subst c
              refine .inr ⟨e, b3, Nat.lt_of_not_le fun z => ?_, b4, b5⟩
              have : (2 + k) ^ (3 + j) ≤ (2 + k) ^ e := Nat.pow_le_pow_right (by omega) z
              omega
    · walk_at "d"
      refine q p ks _ hp s1 hn (by omega) (fun x => ?_) hd
      rw [hmem x]
      constructor
      · rintro (y | ⟨b, e, b1, b2, b3, b4⟩)
        · exact .inl y
        · exact .inr ⟨b, e, b1, b3, b4⟩
      · rintro (y | ⟨b, e, b1, b2, b3, b4⟩)
        · exact .inl y
        · refine .inr ⟨b, e, b1, Nat.lt_of_not_le fun z => ?_, b2, b3, b4⟩
          have h1 : (2 + k) ^ 3 ≤ b ^ 3 := Nat.pow_le_pow_left z 3
          have h2 : b ^ 3 ≤ b ^ e := Nat.pow_le_pow_right (by omega) b2
          rw [Nat.add_zero] at hc
          omega
end
abbrev s__law_due : Stmt := top 15
theorem sc__law_due : FnScope ["most", "powers", "base", "last", "best", "power"] ["most"] (defScope s__law_due) := ⟨rfl, rfl, rfl, by decide +kernel, rfl, by decide +kernel, by decide +kernel⟩
def sp__law_due (K : PySem.W.Frag) : Sp := fun vs H Q _ => ∃ (m : Nat), vs = [.int (m : Int)] ∧ m ≤ 1000000 ∧ ∀ (v : V) (H' : Hp), Same H H' → VG H' v (gapTo (powL m) ((powL m).length - 1)) → Q v H'
/-- the one ahead of place i -/
def ahead (l : List Nat) : Nat → Option Nat
  | 0 => none
  | i + 1 => l[i]?
theorem pow_split2 {m x : Nat} (hm : 1 ≤ m) : (1 ≤ x ∧ x ≤ m ∧ IsPow x) ↔ (x = 1 ∨ ∃ b e, 2 ≤ b ∧ 3 ≤ e ∧ x = b ^ e ∧ x ≤ m) ∨ ∃ b, 1 ≤ b ∧ b ≤ rootN m 2 ∧ x = b * b := by
  rw [pow_split]
  constructor
  · rintro (⟨b, e, b1, e3, h, rfl, h2⟩ | h)
    · rcases (by omega : b = 1 ∨ 2 ≤ b) with rfl | b2
      · exact .inl (.inl (Nat.one_pow e))
      · exact .inl (.inr ⟨b, e, b2, e3, rfl, h2⟩)
    · exact .inr h
  · rintro ((rfl | ⟨b, e, b2, e3, rfl, h2⟩) | h)
    · exact .inr ⟨1, by omega, rootN_ge (by omega) (by simpa using hm), rfl⟩
    · exact .inl ⟨b, e, by omega, e3, Nat.le_trans (Nat.pow_le_pow_left b2 e) h2, rfl, h2⟩
    · exact .inr h
theorem powL_0 : powL 0 = [] := rfl
section
variable {P : Program} {w : World} {K : PySem.W.Frag} {mg : PySem.Str → Option Value} {base : Heap}
theorem bi__law_due {f : Addr} {fd : FuncData} (F : Fun K "_law_due" "_law_due" s__law_due f fd) : Binds K fd ["most"] [] := F.binds (ps := ["most"]) fun _ _ _ _ _ _ us hl => match us, hl with | [_], _ => rfl
set_option maxHeartbeats 4000000 in
theorem ok__law_due {f : Addr} {fd : FuncData} (F : Fun K "_law_due" "_law_due" s__law_due f fd) (B : Bt mg) (h__law_higher : Fn P w K mg base CX0 1 "_law_higher" ["most"] (sp__law_higher K)) : FnOk P w K mg base CX0 2 f fd ["most"] (sp__law_due K) := by
  refine F.ok sc__law_due (fun vs H Q E h => ?_) (fun cdv A outer s H vs Q E hr h => ?_)
  · obtain ⟨m, rfl, hm, q⟩ := h
    rfl
  · obtain ⟨m, rfl, hm, q⟩ := h
    refine ⟨_, (pss_cons (ps_set (i := 1) sc__law_due.nd rfl (Or.inl rfl) (pe_fn h__law_higher (hr.mono (by decide)) (by rfl) (pa_cons (pv 0) pa_nil)))
      (pss_cons (ps_set (i := 2) sc__law_due.nd rfl (Or.inl rfl) pe_int)
      (pss_cons (ps_while PassesOwn.never (pt_cmpR op_le (pe_op op_mulW (pv 2) (pv 2)) (pv 0) (nomark _))
        (pss_cons (ps_dput (hu_of hr) (pv 1) (pe_op op_mulW (pv 2) (pv 2)) pe_bl rfl)
        (pss_one (ps_set (i := 2) sc__law_due.nd rfl (Or.inl rfl) (pe_op op_add (pv 2) pe_int)))))
      (pss_cons (ps_set (i := 3) sc__law_due.nd rfl (Or.inl rfl) pe_non)
      (pss_cons (ps_set (i := 4) sc__law_due.nd rfl (Or.inl rfl) pe_non)
      (pss_cons (ps_for PassesOwn.never rfl (pi_list (pe_callB DicS.cr_sortD (by rfl) B.sorted (by decide +kernel) (pa_cons (pv 1) pa_nil))) (pg_name (i := 5) sc__law_due.nd rfl (Or.inl rfl))
        (pss_one (ps_if (pt_cmpR op_le (pv 5) (pv 0) (nomark _))
          (pss_cons (ps_if (PW.pt (pw_and (pt_cmpR op_notN (pv 3) pe_non (nomark _)) (pw_and1 (PW.pt (pw_or (pt_cmpR op_isN (pv 4) pe_non (nomark _)) (pw_or1 (pt_cmpR op_gt (pe_op op_sub (pv 5) (pv 3)) (pe_ix (k_ixT K) (pv 4) pe_int (fun _ _ => rfl)) (nomark _))))))))
            (pss_one (ps_set (i := 4) sc__law_due.nd rfl (Or.inl rfl) (pe_tup (pa_cons (pe_op op_sub (pv 5) (pv 3)) (pa_cons (pv 3) (pa_cons (pv 5) pa_nil))))))
            pss_nil)
          (pss_one (ps_set (i := 3) sc__law_due.nd rfl (Or.inl rfl) (pv 5))))
          pss_nil)))
      (pss_one (ps_ret (pv 4))))))))), ?_⟩
    have h20 : m < 2 ^ 20 := Nat.lt_of_le_of_lt hm (by decide)
    have hr : rootN m 2 ≤ 1000 := by
      rcases Nat.lt_or_ge 1000 (rootN m 2) with c | c
      · have h3 : 1001 ^ 2 ≤ rootN m 2 ^ 2 := Nat.pow_le_pow_left c 2
        have h4 := rootN_le (n := m) (e := 2) (by omega)
        omega
      · exact c
    walk_at "d"
    refine ⟨m, rfl, hm, fun p ks H1 hp s1 hn hl hmem hd => ?_⟩
    walk_at "d"
    refine while_m (fun z σ H' => ∃ (i : Nat) (ks' : List Nat), σ = [some (.int (m : Int)), some (.ref p), some (.int ((1 + i : Nat) : Int)), none, none, none] ∧ 2000 - i = z ∧ i ≤ rootN m 2 ∧ Same H H' ∧ H' p = some (.dK (dN ks' fun _ => .bl true)) ∧ ks'.Nodup ∧ ks'.length ≤ 100000 + i ∧ ∀ x, x ∈ ks' ↔ x ∈ ks ∨ ∃ b, 1 ≤ b ∧ b ≤ i ∧ x = b * b) 2000 ⟨0, ks, rfl, rfl, by omega, s1, hd, hn, by omega, fun x => ⟨.inl, fun z => z.elim id fun ⟨b, b1, b2, _⟩ => by omega⟩⟩ ?_
    rintro z σ H4 ⟨i, ks', rfl, rfl, hi, s4, hd4, hn4, hl4, hm4⟩ G hG
    have e2 : ((1 + i : Nat) : Int) * ((1 + i : Nat) : Int) = (((1 + i) * (1 + i) : Nat) : Int) := by push_cast; rfl
    have m1 : CMulW ((1 + i : Nat) : Int) ((1 + i : Nat) : Int) := wide_mul (a := 64) (b := 64) (by omega) (by omega) (by decide) (by decide) (by decide)
    walk_at "d"
    rw [e2]
    refine ⟨m1, ite2 (fun hc => hG _ _ fun N hN => ?_) (fun hc => ?_)⟩
    · have hi2 : 1 + i ≤ rootN m 2 := rootN_ge (by omega) (by rw [Nat.pow_two]; omega)
      walk_at "d"
      rw [e2]
      obtain ⟨g1, g2, g3⟩ := put_nodup (x := (1 + i) * (1 + i)) hn4
      refine ⟨m1, _, dN_any hd4 (size_le (by omega)), ?_⟩
      have e3 : ((1 + i : Nat) : Int) + 1 = ((1 + (i + 1) : Nat) : Int) := by omega
      rw [e3]
      refine hN _ _ _ (by omega) ⟨i + 1, _, rfl, rfl, by omega, sm_new s4 hp, upd_same, g1, by omega, fun x => ?_⟩
      rw [g2 x, hm4 x]
      constructor
      · rintro ((y | ⟨b, b1, b2, b3⟩) | y)
        · exact .inl y
        · exact .inr ⟨b, b1, by omega, b3⟩
        · exact .inr ⟨1 + i, by omega, by omega, y⟩
      · rintro (y | ⟨b, b1, b2, b3⟩)
        · exact .inl (.inl y)
        · rcases (by omega : b ≤ i ∨ b = 1 + i) with c | c
          · exact .inl (.inr ⟨b, b1, c, b3⟩)
          · exact .inr (c ▸ b3)
    · have hie : i = rootN m 2 := by
        have h5 : ¬ 1 + i ≤ rootN m 2 := fun z => by
          have h3 : (1 + i) ^ 2 ≤ rootN m 2 ^ 2 := Nat.pow_le_pow_left z 2
          have h4 := rootN_le (n := m) (e := 2) (by omega)
          rw [Nat.pow_two (1 + i)] at h3
          omega
        omega
      walk_at "d"
      have hks : ∃ ls : List Nat, ls.Pairwise (· < ·) ∧ (∀ x, x ∈ ks' ↔ x ∈ ls) ∧ (1 ≤ m → ls = powL m) ∧ (m = 0 → ls = [1]) := by
        rcases (by omega : m = 0 ∨ 1 ≤ m) with h0 | h0
        · refine ⟨[1], by simp, fun x => ?_, fun h => by omega, fun _ => rfl⟩
          rw [hm4 x, hmem x]
          subst h0
          rw [rootN_0 (by omega)] at hie
          subst hie
          constructor
          · rintro ((rfl | ⟨b, e, b2, e3, rfl, h2⟩) | ⟨b, b1, b2, _⟩)
            · simp
            · have := Nat.pow_pos (a := b) (n := e) (by omega)
              omega
            · omega
          · intro h
            simp at h
            exact .inl (.inl h)
        · refine ⟨powL m, powL_sorted m, fun x => ?_, fun _ => rfl, fun h => by omega⟩
          rw [hm4 x, hmem x, mem_powL, hie]
          exact (pow_split2 h0).symm
      obtain ⟨ls, l1, l2, l3, l4⟩ := hks
      refine ⟨p, dN ks' (fun _ => .bl true), ofN ks', rfl, .inl hd4, dN_keys _ _, fun ys r perm srt hr2 => ?_⟩
      have eY : ys = ofN ls := sorted_is hn4 l1 l2 perm srt
      subst eY
      have s5 : Same H4 _ := same_new (o := .lst ((ofN ls).map V.int)) hr2
      have hR : upd H4 r (.lst ((ofN ls).map V.int)) r = some (.lst ((ofN ls).map V.int)) := upd_same
      have s6 := s4.trans s5
      generalize upd H4 r (.lst ((ofN ls).map V.int)) = H5 at s5 hR s6 ⊢
      refine ⟨r, rfl, ⟨_, SqL.of hR⟩, for_l (xs := (ofN ls).map V.int) (fun j σ H' => ∃ (v4 : V) (v5 : Option V), σ = [some (.int (m : Int)), some (.ref p), some (.int ((1 + i : Nat) : Int)), some (vo (if 1 ≤ m then ahead ls j else none)), some v4, v5] ∧ Same H5 H' ∧ VG H' v4 (if 1 ≤ m then gapTo ls (j - 1) else none)) ⟨.non, none, ?_, Same.refl _, ?_⟩ ?_ ?_ ?_⟩
      · split <;> rfl
      · split <;> rfl
      · rintro j σ H' _ ⟨v4, v5, _, s8, _⟩
        exact SqL.of (s8 _ _ hR)
      · rintro j x σ H' hx ⟨v4, v5, rfl, s8, hv⟩ N hN
        obtain ⟨x, hx1, rfl⟩ := ofN_at hx
        rcases (by omega : m = 0 ∨ 1 ≤ m) with h0 | h0
        · have hls := l4 h0
          subst hls
          have hx2 : x = 1 := by
            have := List.mem_of_getElem? hx1
            simpa using this
          rw [if_neg (by omega)] at hv
          cases hv
          rw [if_neg (by omega)]
          walk_at "w"
          refine ite2 (fun hc => by omega) (fun hc => ?_)
          walk_at "w"
          refine hN _ _ ⟨.non, some (.int (x : Int)), ?_, s8, ?_⟩
          · rw [if_neg (by omega)]
          · rw [if_neg (by omega)]
            rfl
        · have hls := l3 h0
          have hxm : x ≤ m := by
            have := List.mem_of_getElem? hx1
            rw [hls, mem_powL] at this
            exact this.2.1
          rw [if_pos h0] at hv
          rw [if_pos h0]
          walk_at "w"
          refine ite2 (fun hc => ?_) (fun hc => by omega)
          have hN2 : ∀ (v : V) (H2 : Hp), Same H5 H2 → VG H2 v (gapTo ls j) → N [some (.int (m : Int)), some (.ref p), some (.int ((1 + i : Nat) : Int)), some (.int (x : Int)), some v, some (.int (x : Int))] H2 := fun v H2 s hv2 => by
            refine hN _ _ ⟨v, some (.int (x : Int)), ?_, s, ?_⟩
            · rw [if_pos h0]
              show _ = [_, _, _, some (vo ls[j]?), _, _]
              rw [hx1]
              rfl
            · rw [if_pos h0]
              exact hv2
          cases j with
          | zero =>
            cases hv
            walk_at "w"
            exact hN2 _ _ s8 rfl
          | succ j =>
            have hlt : j < ls.length := by
              have := (List.getElem?_eq_some_iff.mp hx1).1
              omega
            have hy1 : ls[j]? = some ls[j] := List.getElem?_eq_getElem hlt
            have hxy : ls[j] < x := pairwise_at l1 (by omega) hy1 hx1
            have hg := gapTo_succ hy1 hx1
            have eA : ahead ls (j + 1) = some ls[j] := hy1
            rw [eA]
            generalize ls[j] = y at hy1 hxy hg
            have e4 : (x : Int) - (y : Int) = ((x - y : Nat) : Int) := by omega
            show _
            rw [show j + 1 - 1 = j from rfl] at hv
            simp only [vo]
            cases hgt : gapTo ls j with
            | none =>
              rw [hgt] at hv hg
              cases hv
              walk_at "w"
              refine ⟨by show 3 ≤ sizeLine; decide, fun b hb => ?_⟩
              rw [e4]
              refine hN2 _ _ (sm_new s8 (s8.free hb)) ?_
              rw [hg]
              exact ⟨b, rfl, upd_same⟩
            | some t =>
              rw [hgt] at hv hg
              obtain ⟨b0, rfl, hb0⟩ := hv
              walk_at "w"
              refine r_ixT (SqT.of hb0) (v := .int (t.1 : Int)) rfl ?_
              walk_at "w"
              refine ite2 (fun hc => ?_) (fun hc => ?_)
              · walk_at "w"
                refine ⟨by show 3 ≤ sizeLine; decide, fun b hb => ?_⟩
                rw [e4]
                refine hN2 _ _ (sm_new s8 (s8.free hb)) ?_
                rw [hg, gapStep, if_pos (by omega)]
                exact ⟨b, rfl, upd_same⟩
              · walk_at "w"
                refine hN2 _ _ s8 ?_
                rw [hg, gapStep, if_neg (by omega)]
                exact ⟨b0, rfl, hb0⟩
      · rintro σ H' ⟨v4, v5, rfl, s8, hv⟩
        walk_at "d"
        refine q _ _ (s6.trans s8) ?_
        rcases (by omega : m = 0 ∨ 1 ≤ m) with h0 | h0
        · rw [if_neg (by omega)] at hv
          subst h0
          exact hv
        · rw [if_pos h0, l3 h0] at hv
          have e5 : ((ofN (powL m)).map V.int).length = (powL m).length := by simp [ofN]
          rw [e5] at hv
          exact hv
end
abbrev s_law : Stmt := top 16
theorem sc_law : FnScope ["script", "deck", "turn", "base", "power", "some", "most", "due"] ["script"] (defScope s_law) := ⟨rfl, rfl, rfl, by decide +kernel, rfl, by decide +kernel, by decide +kernel⟩
def sp_law (K : PySem.W.Frag) : Sp := fun vs H Q _ => ∃ (a : Addr) (ns : List Int), vs = [.ref a] ∧ SqL K H a (ns.map V.int) ∧ ns.length ≤ 63 ∧ (∀ z ∈ ns, Builtin.Int.intBits z ≤ 1048576) ∧ ∀ H', Q (.bl true) H'
theorem powL_is {m : Nat} {l : List Nat} (hl : l.Pairwise (· < ·)) (h : ∀ x, 1 ≤ x → x ≤ m → (IsPow x ↔ x ∈ l)) (h2 : ∀ x ∈ l, 1 ≤ x ∧ x ≤ m) : powL m = l := by
  have p1 : (powL m).Perm l := by
    rw [List.perm_ext_iff_of_nodup ((powL_sorted m).imp fun c => Nat.ne_of_lt c) (hl.imp fun c => Nat.ne_of_lt c)]
    intro x
    rw [mem_powL]
    constructor
    · rintro ⟨a, b, c⟩
      exact (h x a b).mp c
    · intro c
      obtain ⟨a, b⟩ := h2 x c
      exact ⟨a, b, (h x a b).mpr c⟩
  exact List.Perm.eq_of_pairwise (fun a b _ _ h1 h2 => Nat.le_antisymm (Nat.le_of_lt h1) (Nat.le_of_lt h2)) (powL_sorted m) hl p1
theorem pow_to8 {x : Nat} (h1 : 1 ≤ x) (h8 : x ≤ 8) : IsPow x ↔ x = 1 ∨ x = 4 ∨ x = 8 := by
  constructor
  · rw [isPow_iff]
    rintro (h | ⟨e, e2, h2, h3⟩)
    · exact .inl h
    · have he : e < 4 := by
        rcases Nat.lt_or_ge e 4 with c | c
        · exact c
        · have := Nat.pow_le_pow_right (n := 2) (by omega) c
          omega
      generalize rootN x e = b at h3
      have hb : b < 3 := by
        rcases Nat.lt_or_ge b 3 with c | c
        · exact c
        · have a1 := Nat.pow_le_pow_left c e
          have a2 := Nat.pow_le_pow_right (n := 3) (by omega) e2
          omega
      rcases (by omega : e = 2 ∨ e = 3) with rfl | rfl <;> rcases (by omega : b = 0 ∨ b = 1 ∨ b = 2) with rfl | rfl | rfl <;> simp at h3 <;> omega
  · rintro (rfl | rfl | rfl)
    · exact isPow_one
    · exact isPow_four
    · exact isPow_eight
theorem gap_3 : gapTo (powL 3) ((powL 3).length - 1) = none := by
  rw [powL_is (l := [1]) (by simp) (fun x a b => by rw [pow_to8 a (by omega)]; simp; omega) (by simp)]
  rfl
theorem gap_4 : gapTo (powL 4) ((powL 4).length - 1) = some (3, 1, 4) := by
  rw [powL_is (l := [1, 4]) (by simp) (fun x a b => by rw [pow_to8 a (by omega)]; simp; omega) (by simp)]
  rfl
theorem gap_8 : gapTo (powL 8) ((powL 8).length - 1) = some (4, 4, 8) := by
  rw [powL_is (l := [1, 4, 8]) (by simp) (fun x a b => by rw [pow_to8 a (by omega)]; simp) (by simp)]
  rfl
section
variable {P : Program} {w : World} {K : PySem.W.Frag} {mg : PySem.Str → Option Value} {base : Heap}
theorem bi_law {f : Addr} {fd : FuncData} (F : Fun K "law" "law" s_law f fd) : Binds K fd ["script"] [] := F.binds (ps := ["script"]) fun _ _ _ _ _ _ us hl => match us, hl with | [_], _ => rfl
set_option maxHeartbeats 4000000 in
theorem ok_law {f : Addr} {fd : FuncData} (F : Fun K "law" "law" s_law f fd) (B : Bt mg) (h__law_deck : Fn P w K mg base CX0 1 "_law_deck" ["script"] (sp__law_deck K)) (h__law_due : Fn P w K mg base CX0 2 "_law_due" ["most"] (sp__law_due K)) (h__law_draw : Fn P w K mg base CX0 1 "_law_draw" ["deck", "most"] (sp__law_draw K)) (h_greatest_gap : Fn P w K mg base CX0 4 "greatest_gap" ["most"] (sp_greatest_gap K)) (h__law_same : Fn P w K mg base CX0 2 "_law_same" ["found", "due"] (sp__law_same K)) : FnOk P w K mg base CX0 5 f fd ["script"] (sp_law K) := by
  refine F.ok sc_law (fun vs H Q E h => ?_) (fun cdv A outer s H vs Q E hr h => ?_)
  · obtain ⟨a, ns, rfl, hS, hlen, hb, q⟩ := h
    rfl
  · obtain ⟨a, ns, rfl, hS, hlen, hb, q⟩ := h
    refine ⟨_, (pss_cons (ps_set (i := 1) sc_law.nd rfl (Or.inl rfl) (pe_fn h__law_deck (hr.mono (by decide)) (by rfl) (pa_cons (pv 0) pa_nil)))
      (pss_cons (ps_for PassesOwn.never rfl (pi_range1 rfl B.range (pa_cons pe_int pa_nil)) (pg_name (i := 2) sc_law.nd rfl (Or.inl rfl))
        (pss_cons (ps_set (i := 3) sc_law.nd rfl (Or.inl rfl) (pe_op op_add pe_int (pe_fn h__law_draw (hr.mono (by decide)) (by rfl) (pa_cons (pv 1) (pa_cons pe_int pa_nil)))))
        (pss_cons (ps_set (i := 4) sc_law.nd rfl (Or.inl rfl) (pe_ix (k_ixL K) (pe_lst (pa_cons (pe_op op_mulW (pv 3) (pv 3)) (pa_cons (pe_op op_mulW (pe_op op_mulW (pe_op op_mod (pv 3) pe_int) (pe_op op_mod (pv 3) pe_int)) (pe_op op_mod (pv 3) pe_int)) (pa_cons (pe_op op_shlW pe_int (pe_op op_mod (pv 3) pe_int)) pa_nil)))) (pe_fn h__law_draw (hr.mono (by decide)) (by rfl) (pa_cons (pv 1) (pa_cons pe_int pa_nil))) (fun _ _ => rfl)))
        (pss_cons (ps_set (i := 5) sc_law.nd rfl (Or.inl rfl) (pe_lst (pa_cons (pe_fn h__law_draw (hr.mono (by decide)) (by rfl) (pa_cons (pv 1) (pa_cons pe_int pa_nil))) (pa_cons (pe_fn h__law_draw (hr.mono (by decide)) (by rfl) (pa_cons (pv 1) (pa_cons (pe_op op_add (pe_op op_pow pe_int pe_int) pe_int) pa_nil))) (pa_cons (pe_op op_pow pe_int pe_int) (pa_cons (pe_op op_sub (pe_op op_add (pv 4) (pe_fn h__law_draw (hr.mono (by decide)) (by rfl) (pa_cons (pv 1) (pa_cons pe_int pa_nil)))) pe_int) pa_nil))))))
        (pss_cons (ps_set (i := 6) sc_law.nd rfl (Or.inl rfl) (pe_callB (call_max2 rfl) (by rfl) B.max (by decide +kernel) (pa_cons pe_int (pa_cons (pe_callB (call_min2 rfl) (by rfl) B.min (by decide +kernel) (pa_cons (pe_op op_pow pe_int pe_int) (pa_cons (pe_ix (k_ixL K) (pv 5) (pe_fn h__law_draw (hr.mono (by decide)) (by rfl) (pa_cons (pv 1) (pa_cons pe_int pa_nil))) (fun _ _ => rfl)) pa_nil))) pa_nil))))
        (pss_cons (ps_set (i := 7) sc_law.nd rfl (Or.inl rfl) (pe_fn h__law_due (hr.mono (by decide)) (by rfl) (pa_cons (pv 6) pa_nil)))
        (pss_one (ps_if (PW.pt (pw_or (pt_not (pt_val (pe_fn h__law_same (hr.mono (by decide)) (by rfl) (pa_cons (pe_fn h_greatest_gap (hr.mono (by decide)) (by rfl) (pa_cons (pv 6) pa_nil)) (pa_cons (pv 7) pa_nil))))) (pw_or1 (pt_cmpR (k_neD K rfl hr.units) (pe_fn h_greatest_gap (hr.mono (by decide)) (by rfl) (pa_cons (pv 6) pa_nil)) (pv 7) (nomark _)))))
          (pss_one (ps_ret pe_bl))
          pss_nil))))))))
      (pss_one (ps_ret (pe_and (pe_cmpR op_isN (pe_fn h_greatest_gap (hr.mono (by decide)) (by rfl) (pa_cons pe_int pa_nil)) pe_non (nomark _)) (pe_and (pe_cmpR (k_eqD K rfl hr.units) (pe_fn h_greatest_gap (hr.mono (by decide)) (by rfl) (pa_cons pe_int pa_nil)) (pe_tup (pa_cons pe_int (pa_cons pe_int (pa_cons pe_int pa_nil)))) (nomark _)) (pe_one (pe_cmpR (k_eqD K rfl hr.units) (pe_fn h_greatest_gap (hr.mono (by decide)) (by rfl) (pa_cons pe_int pa_nil)) (pe_tup (pa_cons pe_int (pa_cons pe_int (pa_cons pe_int pa_nil)))) (nomark _))))))))), ?_⟩
    have e6 : (10 : Int) ^ Int.toNat 6 = 1000000 := rfl
    have c6 : CPow 10 6 := by unfold CPow; omega
    walk_at "w"
    refine ⟨a, ns, rfl, hS, hlen, hb, fun d H1 hd s1 d1 => ?_⟩
    walk_at "w"
    refine ⟨by omega, by omega, for_r (fun i σ H' => ∃ (v2 v3 v4 v5 v6 v7 : Option V), σ = [some (.ref a), some (.ref d), v2, v3, v4, v5, v6, v7] ∧ Dk3 H' d (10 * i)) ⟨_, _, _, _, _, _, rfl, d1⟩ ?_ ?_⟩
    · rintro i σ H2 hi ⟨v2, v3, v4, v5, v6, v7, rfl, d2⟩ N hN
      have hi : i < 10 := by omega
      walk_at "w"
      refine use_draw (Kp.refl _ _) d2 (by omega) (by omega) (by omega) fun b H3 k3 _ d3 b0 b1 => ?_
      obtain ⟨b, rfl⟩ := Int.eq_ofNat_of_zero_le b0
      have hb2 : b < 1000 := by omega
      have mw : ∀ u v : Int, 0 ≤ u → u < 1000000 → 0 ≤ v → v < 1000000 → CMulW u v := fun u v u0 u1 v0 v1 => wide_mul (a := 64) (b := 64) (by omega) (by omega) (by decide) (by decide) (by decide)
      have hr1 : 0 ≤ (1 + (b : Int)) % 100 ∧ (1 + (b : Int)) % 100 < 100 := by omega
      have hr2 : 0 ≤ (1 + (b : Int)) % 20 ∧ (1 + (b : Int)) % 20 < 20 := by omega
      have hsh : CShl 1 ((1 + (b : Int)) % 20) := by
        obtain ⟨j, hj⟩ := Int.eq_ofNat_of_zero_le hr2.1
        rw [hj]
        exact shl_ok (n := 1) (by decide) (by omega)
      walk_at "w"
      generalize (1 + (b : Int)) % 100 = r1 at hr1 ⊢
      generalize (1 + (b : Int)) % 20 = r2 at hr2 hsh ⊢
      have hrr : 0 ≤ r1 * r1 ∧ r1 * r1 < 1000000 := by
        obtain ⟨n, rfl⟩ := Int.eq_ofNat_of_zero_le hr1.1
        have h1 : n * n ≤ 99 * 99 := Nat.mul_le_mul (by omega) (by omega)
        have e1 : (n : Int) * (n : Int) = ((n * n : Nat) : Int) := by push_cast; rfl
        rw [e1]
        omega
      rw [e6]
      refine ⟨mw _ _ (by omega) (by omega) (by omega) (by omega), by omega, by omega, mw _ _ (by omega) (by omega) (by omega) (by omega), by omega, mw _ _ (by omega) (by omega) (by omega) (by omega), by omega, hsh, by show 3 ≤ sizeLine; decide, fun p1 hp1 => ?_⟩
      refine use_pick (fun v => ∃ z : Int, v = .int z) (fun x hx => by
        simp only [List.mem_cons, List.not_mem_nil, or_false] at hx
        rcases hx with rfl | rfl | rfl <;> exact ⟨_, rfl⟩) (Kp.refl _ _) d3 (by omega) hp1 rfl (by omega) (by omega) fun pw H4 hpw _ _ d4 => ?_
      obtain ⟨pw, rfl⟩ := hpw
      refine use_draw (Kp.refl _ _) d4 (by omega) (by omega) (by omega) fun c1 H5 _ _ d5 _ _ => ⟨c6, ?_⟩
      refine use_draw (Kp.refl _ _) d5 (by omega) (by omega) (by omega) fun c2 H6 _ _ d6 _ _ => ⟨c6, ?_⟩
      refine use_draw (Kp.refl _ _) d6 (by omega) (by omega) (by omega) fun c3 H7 _ _ d7 _ _ => ?_
      refine ⟨pw, rfl, c3, rfl, by show 4 ≤ sizeLine; decide, fun p2 hp2 => ⟨c6, ?_⟩⟩
      refine use_pick (fun v => ∃ z : Int, v = .int z) (fun x hx => by
        simp only [List.mem_cons, List.not_mem_nil, or_false] at hx
        rcases hx with rfl | rfl | rfl | rfl <;> exact ⟨_, rfl⟩) (Kp.refl _ _) d7 (by omega) hp2 rfl (by omega) (by omega) fun mo H8 hmo _ _ d8 => ?_
      obtain ⟨mo, rfl⟩ := hmo
      have hmm : ∃ m : Nat, (if (if mo < (1000000 : Int) then mo else 1000000) > 0 then if mo < (1000000 : Int) then mo else 1000000 else 0) = (m : Int) ∧ m ≤ 1000000 := by
        refine ⟨(if (if mo < (1000000 : Int) then mo else 1000000) > 0 then if mo < (1000000 : Int) then mo else 1000000 else 0).toNat, ?_, ?_⟩ <;> split <;> split <;> omega
      obtain ⟨m, em, hm⟩ := hmm
      refine ⟨mo, rfl, ?_⟩
      rw [em]
      refine ⟨m, rfl, hm, fun v H9 s9 h9 => ?_⟩
      refine ⟨m, rfl, hm, fun v' H10 s10 h10 => ?_⟩
      refine ⟨_, _, 1, rfl, by omega, .inr ⟨_, _, by omega, h10, h9.same s10, fun H11 s11 => ?_⟩⟩
      walk_at "w"
      refine ⟨m, rfl, hm, fun v2 H12 s12 h12 => ?_⟩
      refine r_neG h12 (((h9.same s10).same s11).same s12) ?_
      walk_at "w"
      exact hN _ _ ⟨_, _, _, _, _, _, rfl, (((d8.same s9).same s10).same s11 |>.same s12).mono (by omega)⟩
    · rintro σ H2 ⟨v2, v3, v4, v5, v6, v7, rfl, d2⟩
      walk_at "w"
      refine ⟨3, rfl, by omega, fun v H3 s3 h3 => ?_⟩
      rw [gap_3] at h3
      cases h3
      walk_at "w"
      refine ⟨4, rfl, by omega, fun v H4 s4 h4 => ⟨by show 3 ≤ sizeLine; decide, fun t ht => ?_⟩⟩
      rw [gap_4] at h4
      refine r_eqG (h4.same (same_new ht)) (o' := some (3, 1, 4)) ⟨t, rfl, upd_same⟩ ?_
      walk_at "w"
      refine ⟨8, rfl, by omega, fun v H5 s5 h5 => ⟨by show 3 ≤ sizeLine; decide, fun t2 ht2 => ?_⟩⟩
      rw [gap_8] at h5
      refine r_eqG (h5.same (same_new ht2)) (o' := some (4, 4, 8)) ⟨t2, rfl, upd_same⟩ ?_
      walk_at "w"
      exact q _
end
theorem all_mk {l : PySem.W.OpenLaw} {w : World} {K : PySem.W.Frag} {h : Heap} {mg : PySem.Str → Option Value} {fa : Addr} (X : K.In h) (G : h.Ns mainGlobals mg) (hfa : mg "law" = some (.ref fa))
    {f0 : Addr} {od0 an0 : Option Addr} {sl0 : Array (Option Value)} {oc0 kV0 dc0 pm0 cd0 ct0 : Value}
    (a0 : PySem.W.nsIn K mainGlobals "taken" = some (some (.ref f0))) (l0 : K.lookup f0 = some ⟨oc0, od0, .func (PySem.W.fnOf "taken" "taken" (defArgs s_taken) (defBody s_taken) (defScope s_taken) .none kV0 dc0 pm0 an0 cd0 ct0), sl0⟩) (c0 : PySem.W.codeIn K cd0 "taken" = true) (k0 : PySem.W.keepIn K (.ref f0) = true)
    {f1 : Addr} {od1 an1 : Option Addr} {sl1 : Array (Option Value)} {oc1 kV1 dc1 pm1 cd1 ct1 : Value}
    (a1 : PySem.W.nsIn K mainGlobals "root_of" = some (some (.ref f1))) (l1 : K.lookup f1 = some ⟨oc1, od1, .func (PySem.W.fnOf "root_of" "root_of" (defArgs s_root_of) (defBody s_root_of) (defScope s_root_of) .none kV1 dc1 pm1 an1 cd1 ct1), sl1⟩) (c1 : PySem.W.codeIn K cd1 "root_of" = true) (k1 : PySem.W.keepIn K (.ref f1) = true)
    {f2 : Addr} {od2 an2 : Option Addr} {sl2 : Array (Option Value)} {oc2 kV2 dc2 pm2 cd2 ct2 : Value}
    (a2 : PySem.W.nsIn K mainGlobals "taken_to" = some (some (.ref f2))) (l2 : K.lookup f2 = some ⟨oc2, od2, .func (PySem.W.fnOf "taken_to" "taken_to" (defArgs s_taken_to) (defBody s_taken_to) (defScope s_taken_to) .none kV2 dc2 pm2 an2 cd2 ct2), sl2⟩) (c2 : PySem.W.codeIn K cd2 "taken_to" = true) (k2 : PySem.W.keepIn K (.ref f2) = true)
    {f3 : Addr} {od3 an3 : Option Addr} {sl3 : Array (Option Value)} {oc3 kV3 dc3 pm3 cd3 ct3 : Value}
    (a3 : PySem.W.nsIn K mainGlobals "higher_powers" = some (some (.ref f3))) (l3 : K.lookup f3 = some ⟨oc3, od3, .func (PySem.W.fnOf "higher_powers" "higher_powers" (defArgs s_higher_powers) (defBody s_higher_powers) (defScope s_higher_powers) .none kV3 dc3 pm3 an3 cd3 ct3), sl3⟩) (c3 : PySem.W.codeIn K cd3 "higher_powers" = true) (k3 : PySem.W.keepIn K (.ref f3) = true)
    {f4 : Addr} {od4 an4 : Option Addr} {sl4 : Array (Option Value)} {oc4 kV4 dc4 pm4 cd4 ct4 : Value}
    (a4 : PySem.W.nsIn K mainGlobals "greatest_gap" = some (some (.ref f4))) (l4 : K.lookup f4 = some ⟨oc4, od4, .func (PySem.W.fnOf "greatest_gap" "greatest_gap" (defArgs s_greatest_gap) (defBody s_greatest_gap) (defScope s_greatest_gap) .none kV4 dc4 pm4 an4 cd4 ct4), sl4⟩) (c4 : PySem.W.codeIn K cd4 "greatest_gap" = true) (k4 : PySem.W.keepIn K (.ref f4) = true)
    {f5 : Addr} {od5 an5 : Option Addr} {sl5 : Array (Option Value)} {oc5 kV5 dc5 pm5 cd5 ct5 : Value}
    (a5 : PySem.W.nsIn K mainGlobals "_law_deck" = some (some (.ref f5))) (l5 : K.lookup f5 = some ⟨oc5, od5, .func (PySem.W.fnOf "_law_deck" "_law_deck" (defArgs s__law_deck) (defBody s__law_deck) (defScope s__law_deck) .none kV5 dc5 pm5 an5 cd5 ct5), sl5⟩) (c5 : PySem.W.codeIn K cd5 "_law_deck" = true) (k5 : PySem.W.keepIn K (.ref f5) = true)
    {f6 : Addr} {od6 an6 : Option Addr} {sl6 : Array (Option Value)} {oc6 kV6 dc6 pm6 cd6 ct6 : Value}
    (a6 : PySem.W.nsIn K mainGlobals "_law_draw" = some (some (.ref f6))) (l6 : K.lookup f6 = some ⟨oc6, od6, .func (PySem.W.fnOf "_law_draw" "_law_draw" (defArgs s__law_draw) (defBody s__law_draw) (defScope s__law_draw) .none kV6 dc6 pm6 an6 cd6 ct6), sl6⟩) (c6 : PySem.W.codeIn K cd6 "_law_draw" = true) (k6 : PySem.W.keepIn K (.ref f6) = true)
    {f7 : Addr} {od7 an7 : Option Addr} {sl7 : Array (Option Value)} {oc7 kV7 dc7 pm7 cd7 ct7 : Value}
    (a7 : PySem.W.nsIn K mainGlobals "_law_same" = some (some (.ref f7))) (l7 : K.lookup f7 = some ⟨oc7, od7, .func (PySem.W.fnOf "_law_same" "_law_same" (defArgs s__law_same) (defBody s__law_same) (defScope s__law_same) .none kV7 dc7 pm7 an7 cd7 ct7), sl7⟩) (c7 : PySem.W.codeIn K cd7 "_law_same" = true) (k7 : PySem.W.keepIn K (.ref f7) = true)
    {f8 : Addr} {od8 an8 : Option Addr} {sl8 : Array (Option Value)} {oc8 kV8 dc8 pm8 cd8 ct8 : Value}
    (a8 : PySem.W.nsIn K mainGlobals "_law_higher" = some (some (.ref f8))) (l8 : K.lookup f8 = some ⟨oc8, od8, .func (PySem.W.fnOf "_law_higher" "_law_higher" (defArgs s__law_higher) (defBody s__law_higher) (defScope s__law_higher) .none kV8 dc8 pm8 an8 cd8 ct8), sl8⟩) (c8 : PySem.W.codeIn K cd8 "_law_higher" = true) (k8 : PySem.W.keepIn K (.ref f8) = true)
    {f9 : Addr} {od9 an9 : Option Addr} {sl9 : Array (Option Value)} {oc9 kV9 dc9 pm9 cd9 ct9 : Value}
    (a9 : PySem.W.nsIn K mainGlobals "_law_due" = some (some (.ref f9))) (l9 : K.lookup f9 = some ⟨oc9, od9, .func (PySem.W.fnOf "_law_due" "_law_due" (defArgs s__law_due) (defBody s__law_due) (defScope s__law_due) .none kV9 dc9 pm9 an9 cd9 ct9), sl9⟩) (c9 : PySem.W.codeIn K cd9 "_law_due" = true) (k9 : PySem.W.keepIn K (.ref f9) = true)
    {f10 : Addr} {od10 an10 : Option Addr} {sl10 : Array (Option Value)} {oc10 kV10 dc10 pm10 cd10 ct10 : Value}
    (a10 : PySem.W.nsIn K mainGlobals "law" = some (some (.ref f10))) (l10 : K.lookup f10 = some ⟨oc10, od10, .func (PySem.W.fnOf "law" "law" (defArgs s_law) (defBody s_law) (defScope s_law) .none kV10 dc10 pm10 an10 cd10 ct10), sl10⟩) (c10 : PySem.W.codeIn K cd10 "law" = true) (k10 : PySem.W.keepIn K (.ref f10) = true)
    (z_range : PySem.W.nsIn K mainGlobals "range" = some none)
    (z_len : PySem.W.nsIn K mainGlobals "len" = some none)
    (z_sum : PySem.W.nsIn K mainGlobals "sum" = some none)
    (z_min : PySem.W.nsIn K mainGlobals "min" = some none)
    (z_max : PySem.W.nsIn K mainGlobals "max" = some none)
    (z_abs : PySem.W.nsIn K mainGlobals "abs" = some none)
    (z_sorted : PySem.W.nsIn K mainGlobals "sorted" = some none)
    (z_isinstance : PySem.W.nsIn K mainGlobals "isinstance" = some none)
    (z_enumerate : PySem.W.nsIn K mainGlobals "enumerate" = some none)
    (z_zip : PySem.W.nsIn K mainGlobals "zip" = some none)
    (z_int : PySem.W.nsIn K mainGlobals "int" = some none)
    (z_bool : PySem.W.nsIn K mainGlobals "bool" = some none)
    (z_str : PySem.W.nsIn K mainGlobals "str" = some none)
    (z_list : PySem.W.nsIn K mainGlobals "list" = some none)
    (z_tuple : PySem.W.nsIn K mainGlobals "tuple" = some none)
    (z_dict : PySem.W.nsIn K mainGlobals "dict" = some none)
    (z_set : PySem.W.nsIn K mainGlobals "set" = some none)
    : ∃ fd : FuncData, (∀ (s : Shared) (v : Value), BindsTo s fd ⟨[v], []⟩ [("script", v)]) ∧ ∀ base : Heap, K.In base → base.Ns mainGlobals mg → FnOk l.prog w K mg base CX0 5 fa fd ["script"] (sp_law K) := by
  have e := hfa.symm.trans (PySem.W.mg_of X G a10)
  cases e
  have B : Bt mg := ⟨PySem.W.mg_none_of X G z_range, PySem.W.mg_none_of X G z_len, PySem.W.mg_none_of X G z_sum, PySem.W.mg_none_of X G z_min, PySem.W.mg_none_of X G z_max, PySem.W.mg_none_of X G z_abs, PySem.W.mg_none_of X G z_sorted, PySem.W.mg_none_of X G z_isinstance, PySem.W.mg_none_of X G z_enumerate, PySem.W.mg_none_of X G z_zip, PySem.W.mg_none_of X G z_int, PySem.W.mg_none_of X G z_bool, PySem.W.mg_none_of X G z_str, PySem.W.mg_none_of X G z_list, PySem.W.mg_none_of X G z_tuple, PySem.W.mg_none_of X G z_dict, PySem.W.mg_none_of X G z_set⟩
  refine ⟨PySem.W.fnOf "law" "law" (defArgs s_law) (defBody s_law) (defScope s_law) .none kV10 dc10 pm10 an10 cd10 ct10, fun s v => .of_eq rfl, fun base _ _ => ?_⟩
  have F0 := fun_mk (st := s_taken) l0 c0 k0
  have h_taken : Fn l.prog w K mg base CX0 1 "taken" ["base", "exponent"] (sp_taken K) := ⟨_, _, PySem.W.mg_of X G a0, k0, bi_taken F0, ok_taken F0 B⟩
  have F1 := fun_mk (st := s_root_of) l1 c1 k1
  have h_root_of : Fn l.prog w K mg base CX0 2 "root_of" ["number", "exponent"] (sp_root_of K) := ⟨_, _, PySem.W.mg_of X G a1, k1, bi_root_of F1, ok_root_of F1 B h_taken⟩
  have F2 := fun_mk (st := s_taken_to) l2 c2 k2
  have h_taken_to : Fn l.prog w K mg base CX0 1 "taken_to" ["base", "exponent"] (sp_taken_to K) := ⟨_, _, PySem.W.mg_of X G a2, k2, bi_taken_to F2, ok_taken_to F2 B⟩
  have F3 := fun_mk (st := s_higher_powers) l3 c3 k3
  have h_higher_powers : Fn l.prog w K mg base CX0 3 "higher_powers" ["most"] (sp_higher_powers K) := ⟨_, _, PySem.W.mg_of X G a3, k3, bi_higher_powers F3, ok_higher_powers F3 B h_root_of h_taken_to⟩
  have F4 := fun_mk (st := s_greatest_gap) l4 c4 k4
  have h_greatest_gap : Fn l.prog w K mg base CX0 4 "greatest_gap" ["most"] (sp_greatest_gap K) := ⟨_, _, PySem.W.mg_of X G a4, k4, bi_greatest_gap F4, ok_greatest_gap F4 B h_higher_powers h_root_of⟩
  have F5 := fun_mk (st := s__law_deck) l5 c5 k5
  have h__law_deck : Fn l.prog w K mg base CX0 1 "_law_deck" ["script"] (sp__law_deck K) := ⟨_, _, PySem.W.mg_of X G a5, k5, bi__law_deck F5, ok__law_deck F5 B⟩
  have F6 := fun_mk (st := s__law_draw) l6 c6 k6
  have h__law_draw : Fn l.prog w K mg base CX0 1 "_law_draw" ["deck", "most"] (sp__law_draw K) := ⟨_, _, PySem.W.mg_of X G a6, k6, bi__law_draw F6, ok__law_draw F6 B⟩
  have F7 := fun_mk (st := s__law_same) l7 c7 k7
  have h__law_same : Fn l.prog w K mg base CX0 2 "_law_same" ["found", "due"] (sp__law_same K) := ⟨_, _, PySem.W.mg_of X G a7, k7, bi__law_same F7, ok__law_same F7 B (PySem.W.mg_of X G a7) 2⟩
  have F8 := fun_mk (st := s__law_higher) l8 c8 k8
  have h__law_higher : Fn l.prog w K mg base CX0 1 "_law_higher" ["most"] (sp__law_higher K) := ⟨_, _, PySem.W.mg_of X G a8, k8, bi__law_higher F8, ok__law_higher F8 B⟩
  have F9 := fun_mk (st := s__law_due) l9 c9 k9
  have h__law_due : Fn l.prog w K mg base CX0 2 "_law_due" ["most"] (sp__law_due K) := ⟨_, _, PySem.W.mg_of X G a9, k9, bi__law_due F9, ok__law_due F9 B h__law_higher⟩
  exact ok_law (fun_mk (st := s_law) l10 c10 k10) B h__law_deck h__law_due h__law_draw h_greatest_gap h__law_same
end Pn
open PySem PySem.W PyProof.Rows
set_option maxHeartbeats 0 in
theorem PySem.Challenge.cw_powernumbers_k15_greatest_gaps_holds : PySem.Challenge.rw_powernumbers_k15_greatest_gaps.Holds := by
  w_on; o_law; k_head; (case hw => w_witness2)
  k_fill
  refine L2.walk_ofB (l := PySem.Challenge.rw_powernumbers_k15_greatest_gaps) (n := 63) (k := 5) (x := "script") (CX := fun _ => L2.CX0) (sp := fun w => Pn.sp_law _) rfl (by decide) rfl ⟨rfl, by decide, by decide⟩ (fun w h Y => PySem.W.kIn_of Y) ?F (fun _ _ a ns hl hb _ hS => ⟨a, ns, rfl, hS, hl, hb, fun _ => rfl⟩) (fun _ _ _ _ _ h => h)
  case F =>
    intro w mg fa h KX G hmg
    refine' Pn.all_mk KX G hmg ?a0 ?l0 ?c0 ?k0 ?a1 ?l1 ?c1 ?k1 ?a2 ?l2 ?c2 ?k2 ?a3 ?l3 ?c3 ?k3 ?a4 ?l4 ?c4 ?k4 ?a5 ?l5 ?c5 ?k5 ?a6 ?l6 ?c6 ?k6 ?a7 ?l7 ?c7 ?k7 ?a8 ?l8 ?c8 ?k8 ?a9 ?l9 ?c9 ?k9 ?a10 ?l10 ?c10 ?k10 ?z_range ?z_len ?z_sum ?z_min ?z_max ?z_abs ?z_sorted ?z_isinstance ?z_enumerate ?z_zip ?z_int ?z_bool ?z_str ?z_list ?z_tuple ?z_dict ?z_set
    (case a0 => k_is)
    (case l0 => k_is)
    (case c0 => k_is)
    (case k0 => k_is)
    (case a1 => k_is)
    (case l1 => k_is)
    (case c1 => k_is)
    (case k1 => k_is)
    (case a2 => k_is)
    (case l2 => k_is)
    (case c2 => k_is)
    (case k2 => k_is)
    (case a3 => k_is)
    (case l3 => k_is)
    (case c3 => k_is)
    (case k3 => k_is)
    (case a4 => k_is)
    (case l4 => k_is)
    (case c4 => k_is)
    (case k4 => k_is)
    (case a5 => k_is)
    (case l5 => k_is)
    (case c5 => k_is)
    (case k5 => k_is)
    (case a6 => k_is)
    (case l6 => k_is)
    (case c6 => k_is)
    (case k6 => k_is)
    (case a7 => k_is)
    (case l7 => k_is)
    (case c7 => k_is)
    (case k7 => k_is)
    (case a8 => k_is)
    (case l8 => k_is)
    (case c8 => k_is)
    (case k8 => k_is)
    (case a9 => k_is)
    (case l9 => k_is)
    (case c9 => k_is)
    (case k9 => k_is)
    (case a10 => k_is)
    (case l10 => k_is)
    (case c10 => k_is)
    (case k10 => k_is)
    (case z_range => k_is)
    (case z_len => k_is)
    (case z_sum => k_is)
    (case z_min => k_is)
    (case z_max => k_is)
    (case z_abs => k_is)
    (case z_sorted => k_is)
    (case z_isinstance => k_is)
    (case z_enumerate => k_is)
    (case z_zip => k_is)
    (case z_int => k_is)
    (case z_bool => k_is)
    (case z_str => k_is)
    (case z_list => k_is)
    (case z_tuple => k_is)
    (case z_dict => k_is)
    (case z_set => k_is)
