import PyProof.Rows.All
import Wide.All
import OpenK.AllK
import Wide.FinOn
import HandS.ForMost
import HandS.Wide
import HandS.IsInst
import HandS.SortInts
import HandS.TupAny
import HandS.WideBits
import HandS.Evl
import KE.KItemsList
import KE.KDictList
import HandS.Conv
import HandS.Sort
import HandS.More
import HandS.SetFor
import HandS.Style
import HandS.SortOrd
import HandS.Walk
import HandS.Text
import HandS.TryOnly
import PyProof.Rows.StrOr
import PyProof.StrOps2
import PyProof.StrBlock
import HandS.ExcInit
import HandS.ExcField
import HandS.ExcIs
import HandS.ExcOwn
import HandS.ExcValue
import KE.KExcStr
import HandS.WordsExc
import KE.KExcIs
import PySem.Challenge.RW_powernumbers_k03_texts_of_no_numbers
set_option Elab.async false
set_option linter.all false
set_option maxRecDepth 100000
namespace Pn
open PySem PySem.Spec PyProof.Rows L2
/-! ### a def that stands in the module, with its promise -/
structure Fn (P : Program) (w : World) (K : PySem.W.Frag) (mg : PySem.Str → Option Value) (base : Heap) (CX : CXT) (k : Nat) (x : PySem.Str) (ps : List PySem.Str) (sp : Sp) : Prop where
  ex : ∃ (f : Addr) (fd : FuncData), mg x = some (.ref f) ∧ PySem.W.keepIn K (.ref f) = true ∧ Binds K fd ps [] ∧ FnOk P w K mg base CX k f fd ps sp
def tFn (sp : Sp) (E : XK) (t : TA) : TE := fun σ H Q => t σ H fun vs H1 => sp vs H1 Q E
section
variable {X : Cx} {CX : CXT} {k : Nat} {x : PySem.Str} {ps : List PySem.Str} {sp : Sp} {E : XK} {t : TA} {e : Expr} {es : List Expr} {p pos : Pos}
theorem pe_fnX (h : Fn X.prog X.w X.K X.mg X.base CX k x ps sp) (hr : Room k X.A) (hg : Gl X x) (hx : Passes CX X E) (ha : PA X (e :: es) t) (hdb : (x == ("__debug__" : PySem.Str)) = false := by decide)
    (he : starEach (e :: es) X.env = (false, eval e X.env) :: starEach es X.env := by rfl) (hpl : (backTo pos (starEach es X.env)).any (·.1) = false := by rfl) :
    PE X (.Call (.Name x p) (e :: es) [] pos) (tFn sp E t) := by
  obtain ⟨f, fd, hm, hk, hb, F⟩ := h.ex
  have g := pe_call (p := p) (pos := pos) F hr hg hm hk hb .nil hx ha hdb he hpl
  have e1 : tCall sp [] E t = tFn sp E t := by
    unfold tCall tFn
    simp only [List.append_nil]
  rw [← e1]
  exact g
theorem pe_fn (h : Fn X.prog X.w X.K X.mg X.base CX0 k x ps sp) (hr : Room k X.A) (hg : Gl X x) (ha : PA X (e :: es) t) (hdb : (x == ("__debug__" : PySem.Str)) = false := by decide)
    (he : starEach (e :: es) X.env = (false, eval e X.env) :: starEach es X.env := by rfl) (hpl : (backTo pos (starEach es X.env)).any (·.1) = false := by rfl) :
    PE X (.Call (.Name x p) (e :: es) [] pos) (tFn sp E0 t) := pe_fnX h hr hg pass0 ha hdb he hpl
end
/-- a promise of nothing -/
theorem ps_void {X : Cx} {st : Stmt} : PS X st (fun _ _ _ => False) := ⟨fun _ _ _ _ _ _ h => h.elim⟩
theorem fn_vac {P : Program} {w : World} {K : PySem.W.Frag} {mg : PySem.Str → Option Value} {base : Heap} {CX : CXT} {k : Nat} {f : Addr} {fd : FuncData} {ps : List PySem.Str} {sp : Sp} (h : ∀ vs H Q E, ¬ sp vs H Q E) : FnOk P w K mg base CX k f fd ps sp :=
  ⟨fun vs H Q E q => (h vs H Q E q).elim, fun _ _ _ _ _ _ _ _ _ _ _ _ _ q => (h _ _ _ _ q).elim⟩
/-! ### rules by values, the written part named (in a comprehension's block X is another one) -/
def rLen (K : PySem.W.Frag) : List V → Hp → VK → Prop := fun xs H Q => ∃ p ys, xs = [.ref p] ∧ (SqL K H p ys ∨ SqT K H p ys) ∧ Q (.int ys.length) H
def rListO (K : PySem.W.Frag) : List V → Hp → VK → Prop := fun xs H Q => ∃ p ys, xs = [.ref p] ∧ (SqL K H p ys ∨ SqT K H p ys) ∧ ∀ l, H l = none → Q (.ref l) (upd H l (.lst ys))
def rTupO (K : PySem.W.Frag) : List V → Hp → VK → Prop := fun xs H Q => ∃ p ys, xs = [.ref p] ∧ ((SqL K H p ys ∧ ∀ l, H l = none → Q (.ref l) (upd H l (.tup ys))) ∨ (SqT K H p ys ∧ Q (.ref p) H))
section
variable {X : Cx} (K : PySem.W.Frag)
theorem k_len (h : X.K = K := by rfl) : CallR X (.builtin "len") (rLen K) := by subst h; exact call_len_seq
theorem k_isi (h : X.K = K := by rfl) : CallR X (.builtin "isinstance") (rIsi K) := by subst h; exact call_isi
theorem k_sum (h : X.K = K := by rfl) (hc : X.calm = true := by rfl) : CallR X (.builtin "sum") (rSum K) := by subst h; exact cr_sum hc
theorem k_min (h : X.K = K := by rfl) (hc : X.calm = true := by rfl) : CallR X (.builtin "min") (rMin K) := by subst h; exact cr_min hc
theorem k_max (h : X.K = K := by rfl) (hc : X.calm = true := by rfl) : CallR X (.builtin "max") (rMax K) := by subst h; exact cr_max hc
theorem k_sorted (h : X.K = K := by rfl) : CallR X (.builtin "sorted") (rSortedI K) := by subst h; exact cr_sortedI
theorem k_list (h : X.K = K := by rfl) : CallR X (.type "list") (rListO K) := by subst h; exact call_list_of
theorem k_tuple (h : X.K = K := by rfl) : CallR X (.type "tuple") (rTupO K) := by subst h; exact call_tuple_of
theorem k_ixL (h : X.K = K := by rfl) : IxR X (rIxL K) := by subst h; exact ix_list
theorem k_ixT (h : X.K = K := by rfl) : IxR X (rIxT K) := by subst h; exact ix_tup
theorem k_slL (h : X.K = K := by rfl) : SlR X (rSlL K) := by subst h; exact sl_list
theorem k_eqD (h : X.K = K := by rfl) (hu : X.A.units + 64 < cLine) : OpR X (compareOp .Eq) (rEqD K) := by subst h; exact op_eqD hu
theorem k_neD (h : X.K = K := by rfl) (hu : X.A.units + 64 < cLine) : OpR X (compareOp .NotEq) (rNeD K) := by subst h; exact op_neD hu
theorem k_in (h : X.K = K := by rfl) : OpR X (compareOp .In) (rIn K false) := by subst h; exact op_in_seq
theorem k_notIn (h : X.K = K := by rfl) : OpR X (compareOp .NotIn) (rIn K true) := by subst h; exact op_notIn_seq
theorem k_catT (h : X.K = K := by rfl) : OpR X (binaryOp .Add) (rCatA K) := by subst h; exact op_catA
def tTru (K : PySem.W.Frag) (ta : TE) : TT := fun σ H Q => ta σ H fun x H' => ∃ k, TruV K x H' k ∧ Q k H'
theorem pt_tru {a : Expr} {ta : TE} (ha : PE X a ta) (he : ∀ whole, isTrue a X.env whole = (do let v ← whole; standAt a.pos; holding [v] (truthy v)) := by intro _; rfl) (h : X.K = K := by rfl) : PT X a (tTru K ta) := by subst h; exact pt_truth ha he
end
/-! ### readings, applied -/
section
variable {σ : L2.St} {H : Hp} {Q : VK} {QT : Bool → Hp → Prop} {QA : List V → Hp → Prop} {K : PySem.W.Frag} {ta tb te : TE} {t u : TT} {tr : TA} {D : Ends} {s1 s2 : TS} {x y v : V}
theorem w_var {i : Nat} : tVar i σ H Q = ∃ v, σ[i]? = some (some v) ∧ Q v H := rfl
theorem w_c : tC v σ H Q = Q v H := rfl
theorem w_op {r : R2} : tOp r ta tb σ H Q = ta σ H fun x H1 => tb σ H1 fun y H2 => r x y H2 Q := rfl
theorem w_I0 {g : Int → Int → V} : rI0 g x y H Q = ∃ i j, x = .int i ∧ y = .int j ∧ Q (g i j) H := rfl
theorem w_I {C : Int → Int → Prop} {g : Int → Int → V} : rI C g x y H Q = ∃ i j, x = .int i ∧ y = .int j ∧ C i j ∧ Q (g i j) H := rfl
theorem w_un {r : V → Hp → VK → Prop} : tUn r ta σ H Q = ta σ H fun x H1 => r x H1 Q := rfl
theorem w_U {g : Int → V} : rU g x H Q = ∃ i, x = .int i ∧ Q (g i) H := rfl
theorem w_eq : rEq x y H Q = (scal x y = true ∧ Q (.bl (decide (x = y))) H) := rfl
theorem w_ne : rNe x y H Q = (scal x y = true ∧ Q (.bl (!decide (x = y))) H) := rfl
theorem w_test : tTest ta σ H QT = ta σ H fun x H1 => ∃ k, x = .bl k ∧ QT k H1 := rfl
theorem w_B : tB ta σ H QT = ta σ H fun x H1 => ∃ k, x = .bl k ∧ QT k H1 := rfl
theorem w_and : tAnd t u σ H QT = t σ H fun c H1 => if c = true then u σ H1 QT else QT false H1 := rfl
theorem w_or : tOr t u σ H QT = t σ H fun c H1 => if c = true then QT true H1 else u σ H1 QT := rfl
theorem w_not : tNot t σ H QT = t σ H fun c H1 => QT (!c) H1 := rfl
theorem w_andV : tAndV ta tb σ H Q = ta σ H fun x H1 => ∃ c, x = .bl c ∧ if c = true then tb σ H1 Q else Q (.bl false) H1 := rfl
theorem w_orV : tOrV ta tb σ H Q = ta σ H fun x H1 => ∃ c, x = .bl c ∧ if c = true then Q (.bl true) H1 else tb σ H1 Q := rfl
theorem w_notV : tNotV ta σ H Q = ta σ H fun x H1 => ∃ c, x = .bl c ∧ Q (.bl (!c)) H1 := rfl
theorem w_ife : tIf t ta tb σ H Q = t σ H fun c H1 => if c = true then ta σ H1 Q else tb σ H1 Q := rfl
theorem w_nil : tNil σ H QA = QA [] H := rfl
theorem w_cons : tCons ta tr σ H QA = ta σ H fun x H1 => tr σ H1 fun xs H2 => QA (x :: xs) H2 := rfl
theorem w_fn {sp : Sp} {E : XK} : tFn sp E tr σ H Q = tr σ H fun vs H1 => sp vs H1 Q E := rfl
theorem w_cb {r : List V → Hp → VK → Prop} : tCB r tr σ H Q = tr σ H fun vs H1 => r vs H1 Q := rfl
theorem w_tup : tTup tr σ H Q = tr σ H fun xs H1 => xs.length ≤ sizeLine ∧ ∀ p, H1 p = none → Q (.ref p) (upd H1 p (.tup xs)) := rfl
theorem w_lst : tLst tr σ H Q = tr σ H fun xs H1 => xs.length ≤ sizeLine ∧ ∀ p, H1 p = none → Q (.ref p) (upd H1 p (.lst xs)) := rfl
theorem w_seq : tSeq s1 s2 D σ H = s1 { D with nx := s2 D } σ H := rfl
theorem w_next : tNext D σ H = D.nx σ H := rfl
theorem w_brk : tBreak D σ H = D.bk σ H := rfl
theorem w_ct : tCont D σ H = D.ct σ H := rfl
theorem w_drop : tDrop te D σ H = te σ H fun _ H1 => D.nx σ H1 := rfl
theorem w_ret : tRet te D σ H = te σ H D.rt := rfl
theorem w_retN : tRetN D σ H = D.rt .non H := rfl
theorem w_ifS : tIfS t s1 s2 D σ H = t σ H fun b H1 => if b = true then s1 D σ H1 else s2 D σ H1 := rfl
theorem w_asgN {i : Nat} : tAsg te (gName i) D σ H = te σ H fun x H1 => D.nx (σ.set i (some x)) H1 := rfl
theorem w_asgT {n : Nat} {t : TGs} : tAsg te (gTup K n t) D σ H = te σ H fun v H1 => ∃ a xs, v = .ref a ∧ SqT K H1 a xs ∧ xs.length = n ∧ t xs σ H1 D.nx := rfl
theorem w_asgS {to ti : TE} {ts : TSet} : tAsg te (gSub to ti ts) D σ H = te σ H fun v H1 => to σ H1 fun o H2 => ti σ H2 fun i H3 => ts o i v H3 fun H4 => D.nx σ H4 := rfl
theorem w_gName {i : Nat} {QN : L2.St → Hp → Prop} : gName i v σ H QN = QN (σ.set i (some v)) H := rfl
theorem w_gNil {vs : List V} {QN : L2.St → Hp → Prop} : gNil vs σ H QN = (vs = [] ∧ QN σ H) := rfl
theorem w_gCons {g : TG} {gs : TGs} {vs : List V} {QN : L2.St → Hp → Prop} : gCons g gs vs σ H QN = ∃ v r, vs = v :: r ∧ g v σ H fun σ' H' => gs r σ' H' QN := rfl
theorem w_par {i j : Nat} : tPar i j tr D σ H = tr σ H fun vs H1 => ∃ v w, vs = [v, w] ∧ D.nx ((σ.set i (some v)).set j (some w)) H1 := rfl
theorem w_bits : tBits te σ H Q = te σ H fun x H1 => ∃ i, x = .int i ∧ Q (.int (Builtin.Int.intBits i : Nat)) H1 := rfl
theorem w_sl {r : V → Option Int → Option Int → Hp → VK → Prop} {tl th : TO} : tSl r te tl th σ H Q = te σ H fun x H1 => tl σ H1 fun l H2 => th σ H2 fun u H3 => r x l u H3 Q := rfl
theorem w_np {QO : Option Int → Hp → Prop} : tNoPart σ H QO = QO none H := rfl
theorem w_part {QO : Option Int → Hp → Prop} : tPart te σ H QO = te σ H fun x H1 => ∃ i, x = .int i ∧ QO (some i) H1 := rfl
theorem w_bm {T : String} {r : V → List V → Hp → VK → Prop} : tBM K T r te tr σ H Q = te σ H fun x H1 => tyV K T x H1 ∧ tr σ H1 fun xs H2 => r x xs H2 Q := rfl
theorem w_bm0 {T : String} {r : V → List V → Hp → VK → Prop} : tBM0 K T r te σ H Q = te σ H fun x H1 => tyV K T x H1 ∧ r x [] H1 Q := rfl
theorem w_cxK {CX : CXT} {P : Program} {w : World} {mg : PySem.Str → Option Value} {base : Heap} {N : List PySem.Str} {qual : PySem.Str} {scope : Scope} {f : Addr} {cd : Value} {A : Around} {outer : List Env} {s : Shared} {E : XK} : (cxOf CX P w K mg base N qual scope f cd A outer s H E).K = K := rfl
theorem w_aug {i : Nat} {ti : TIp} : tAug i te ti D σ H = ∃ x, σ[i]? = some (some x) ∧ te σ H fun y H1 => ti x y H1 fun z H2 => D.nx (σ.set i (some z)) H2 := rfl
theorem w_ipI {f : Int → Int → Int} : ipI f x y H Q = ∃ i j, x = .int i ∧ y = .int j ∧ Q (.int (f i j)) H := rfl
/-! ### readings that look into the heap -/
theorem r_ixL {p : Addr} {xs : List V} {i : Int} (h : SqL K H p xs) (ha : atI xs i = some v) (q : Q v H) : rIxL K (.ref p) (.int i) H Q := ⟨p, xs, i, v, rfl, rfl, h, ha, q⟩
theorem r_ixT {p : Addr} {xs : List V} {i : Int} (h : SqT K H p xs) (ha : atI xs i = some v) (q : Q v H) : rIxT K (.ref p) (.int i) H Q := ⟨p, xs, i, v, rfl, rfl, h, ha, q⟩
theorem r_slL {p : Addr} {xs : List V} {lo hi : Option Int} (h : SqL K H p xs) (q : ∀ l, H l = none → Q (.ref l) (upd H l (.lst (cutV xs lo hi)))) : rSlL K (.ref p) lo hi H Q := ⟨p, xs, rfl, h, q⟩
theorem r_sum {p : Addr} {ns : List Int} (h : SqL K H p (ns.map V.int)) (q : Q (.int ns.sum) H) : rSum K [.ref p] H Q := ⟨p, ns, rfl, h, q⟩
theorem r_setL {p : Addr} {xs : List V} {k : Int} {j : Nat} {QH : Hp → Prop} (h : H p = some (.lst xs)) (hj : ixN xs.length k = some j) (q : QH (upd H p (.lst (xs.set j v)))) : rSetL (.ref p) (.int k) v H QH := ⟨p, xs, k, j, rfl, rfl, h, hj, q⟩
theorem r_app {p : Addr} {xs : List V} (h : H p = some (.lst xs)) (hl : xs.length < sizeLine) (q : Q .non (upd H p (.lst (xs ++ [v])))) : rAppend (.ref p) [v] H Q := ⟨p, xs, v, rfl, rfl, h, hl, q⟩
theorem r_len {p : Addr} {xs : List V} (h : SqL K H p xs) (q : Q (.int (xs.length : Int)) H) : rLen K [.ref p] H Q := ⟨p, xs, rfl, .inl h, q⟩
theorem r_lenT {p : Addr} {xs : List V} (h : SqT K H p xs) (q : Q (.int (xs.length : Int)) H) : rLen K [.ref p] H Q := ⟨p, xs, rfl, .inr h, q⟩
theorem r_listL {p : Addr} {xs : List V} (h : SqL K H p xs) (q : ∀ l, H l = none → Q (.ref l) (upd H l (.lst xs))) : rListO K [.ref p] H Q := ⟨p, xs, rfl, .inl h, q⟩
theorem r_listT {p : Addr} {xs : List V} (h : SqT K H p xs) (q : ∀ l, H l = none → Q (.ref l) (upd H l (.lst xs))) : rListO K [.ref p] H Q := ⟨p, xs, rfl, .inr h, q⟩
theorem r_tupL {p : Addr} {xs : List V} (h : SqL K H p xs) (q : ∀ l, H l = none → Q (.ref l) (upd H l (.tup xs))) : rTupO K [.ref p] H Q := ⟨p, xs, rfl, .inl ⟨h, q⟩⟩
theorem r_tupT {p : Addr} {xs : List V} (h : SqT K H p xs) (q : Q (.ref p) H) : rTupO K [.ref p] H Q := ⟨p, xs, rfl, .inr ⟨h, q⟩⟩
theorem r_min {p : Addr} {ns : List Int} (h : SqL K H p (ns.map V.int)) (h0 : 0 < ns.length) (q : ∀ m, m ∈ ns → (∀ y, y ∈ ns → m ≤ y) → Q (.int m) H) : rMin K [.ref p] H Q := ⟨p, ns, rfl, h, h0, q⟩
theorem r_max {p : Addr} {ns : List Int} (h : SqL K H p (ns.map V.int)) (h0 : 0 < ns.length) (q : ∀ m, m ∈ ns → (∀ y, y ∈ ns → y ≤ m) → Q (.int m) H) : rMax K [.ref p] H Q := ⟨p, ns, rfl, h, h0, q⟩
theorem r_sortedI {p : Addr} {ns : List Int} (h : SqL K H p (ns.map V.int)) (q : ∀ (ns' : List Int) (l : Addr), ns'.Perm ns → ns'.Pairwise (· ≤ ·) → H l = none → Q (.ref l) (upd H l (.lst (ns'.map V.int)))) : rSortedI K [.ref p] H Q := ⟨p, ns, rfl, h, q⟩
theorem r_cat {l b : Addr} {xs zs : List V} (h1 : H l = some (.lst xs)) (h2 : H b = some (.lst zs)) (hl : xs.length + zs.length ≤ sizeLine) (q : ∀ p, H p = none → Q (.ref p) (upd H p (.lst (xs ++ zs)))) : rCat (.ref l) (.ref b) H Q := ⟨l, b, xs, zs, rfl, rfl, h1, h2, hl, q⟩
theorem r_catA {a b : Addr} {xs ys : List V} (h1 : SqT K H a xs) (h2 : SqT K H b ys) (hl : xs.length + ys.length ≤ sizeLine) (q0 : xs = [] → Q (.ref b) H) (q1 : xs ≠ [] → ys = [] → Q (.ref a) H) (q2 : xs ≠ [] → ys ≠ [] → ∀ p, H p = none → Q (.ref p) (upd H p (.tup (xs ++ ys)))) : rCatA K (.ref a) (.ref b) H Q :=
  ⟨a, b, xs, ys, rfl, rfl, h1, h2, hl, q0, q1, q2⟩
theorem ty_list {p : Addr} {xs : List V} (h : SqL K H p xs) : tyV K "list" (.ref p) H := .inl ⟨rfl, xs, h⟩
/-- a statement, then the rest, with a word between -/
theorem cut_m (Mid : L2.St → Hp → Prop) (h1 : ∀ N : L2.St → Hp → Prop, (∀ σ' H', Mid σ' H' → N σ' H') → s1 { D with nx := N } σ H) (h2 : ∀ σ' H', Mid σ' H' → s2 D σ' H') : Evl.tCut s1 s2 D σ H :=
  ⟨Mid, h1 Mid fun _ _ z => z, h2⟩
/-- a while, by a word with its measure; G: a turn is wanted, N: what is wanted behind it -/
theorem while_m {c : TT} (Pv : Nat → L2.St → Hp → Prop) (m0 : Nat) (h0 : Pv m0 σ H)
    (hs : ∀ m σ H, Pv m σ H → ∀ G : L2.St → Hp → Prop, (∀ σ1 H1, (∀ N : L2.St → Hp → Prop, (∀ m' σ' H', m' < m → Pv m' σ' H' → N σ' H') → s1 { D with nx := N, ct := N, bk := D.nx } σ1 H1) → G σ1 H1) →
      c σ H fun b H1 => if b = true then G σ H1 else D.nx σ H1) : tWhile c s1 D σ H :=
  ⟨Pv, ⟨m0, h0⟩, fun m σ H p => hs m σ H p (fun σ1 H1 => ∃ N : L2.St → Hp → Prop, (∀ σ' H', N σ' H' → ∃ m', m' < m ∧ Pv m' σ' H') ∧ s1 { D with nx := N, ct := N, bk := D.nx } σ1 H1)
    fun σ1 H1 h => ⟨_, fun _ _ z => z, h (fun σ' H' => ∃ m', m' < m ∧ Pv m' σ' H') fun m' _ _ h1 h2 => ⟨m', h1, h2⟩⟩⟩
/-- the turns of a for: over a list at a, a tuple at a, lo, lo + 1, .. (n of them) -/
def FJ (J : It) (g : TG) (s1 : TS) (D : Ends) (σ : L2.St) (H : Hp) : Prop := ∃ W : Nat → Nat → L2.St → Hp → Prop, (∃ m, W 0 m σ H) ∧ ∀ i m σ H, W i m σ H →
  (J.stop i H ∧ D.nx σ H) ∨ (J.go i H ∧ ∃ N : L2.St → Hp → Prop, (∀ σ' H', N σ' H' → ∃ m', m' < m ∧ W (i + 1) m' σ' H') ∧ ∀ x H', J.yld i H x H' → g x σ H' fun σ2 H2 => s1 { D with nx := N, ct := N, bk := D.nx } σ2 H2)
theorem w_tru : tTru K te σ H QT = te σ H fun x H1 => ∃ k, TruV K x H1 k ∧ QT k H1 := rfl
theorem w_forL {g : TG} : tFor (iList K te) g s1 D σ H = te σ H fun x H1 => ∃ a, x = .ref a ∧ (∃ xs, SqL K H1 a xs) ∧ FJ (Itl K a) g s1 D σ H1 := rfl
theorem w_forT {g : TG} : tFor (iTup K te) g s1 D σ H = te σ H fun x H1 => ∃ a, x = .ref a ∧ (∃ xs, SqT K H1 a xs) ∧ FJ (Itt K a) g s1 D σ H1 := rfl
theorem w_for1 {g : TG} : tFor (iRng1 tr) g s1 D σ H = tr σ H fun vs H1 => ∃ j : Int, vs = [.int j] ∧ -(2 ^ 62) ≤ j ∧ j < 2 ^ 62 ∧ FJ (Itr 0 j.toNat) g s1 D σ H1 := rfl
theorem w_for2 {g : TG} : tFor (iRng2 tr) g s1 D σ H = tr σ H fun vs H1 => ∃ i j : Int, vs = [.int i, .int j] ∧ (-(2 ^ 62) ≤ i ∧ i < 2 ^ 62 ∧ -(2 ^ 62) ≤ j ∧ j < 2 ^ 62) ∧ FJ (Itr i (j - i).toNat) g s1 D σ H1 := rfl
theorem w_for3 {g : TG} : tFor (iRng3 tr) g s1 D σ H = tr σ H fun vs H1 => ∃ (i j c : Int) (n : Nat), vs = [.int i, .int j, .int c] ∧ RgC i j c n ∧ FJ (Itc i c n) g s1 D σ H1 := rfl
theorem for_c {lo c : Int} {n : Nat} {g : TG} (Pv : Nat → L2.St → Hp → Prop) (h0 : Pv 0 σ H)
    (hs : ∀ i σ H, i < n → Pv i σ H → ∀ N : L2.St → Hp → Prop, (∀ σ' H', Pv (i + 1) σ' H' → N σ' H') → g (.int (lo + (i : Nat) * c)) σ H fun σ2 H2 => s1 { D with nx := N, ct := N, bk := D.nx } σ2 H2) (hd : ∀ σ H, Pv n σ H → D.nx σ H) :
    FJ (Itc lo c n) g s1 D σ H := for_rangeC Pv h0 (fun i σ H hx hp => hs i σ H hx hp _ fun _ _ z => z) hd
theorem for_l {a : Addr} {xs : List V} {g : TG} (Pv : Nat → L2.St → Hp → Prop) (h0 : Pv 0 σ H) (hl : ∀ i σ H, i ≤ xs.length → Pv i σ H → SqL K H a xs)
    (hs : ∀ i x σ H, xs[i]? = some x → Pv i σ H → ∀ N : L2.St → Hp → Prop, (∀ σ' H', Pv (i + 1) σ' H' → N σ' H') → g x σ H fun σ2 H2 => s1 { D with nx := N, ct := N, bk := D.nx } σ2 H2) (hd : ∀ σ H, Pv xs.length σ H → D.nx σ H) :
    FJ (Itl K a) g s1 D σ H := for_list Pv h0 hl (fun i x σ H hx hp => hs i x σ H hx hp _ fun _ _ z => z) hd
theorem for_t {a : Addr} {xs : List V} {g : TG} (Pv : Nat → L2.St → Hp → Prop) (h0 : Pv 0 σ H) (hl : ∀ i σ H, i ≤ xs.length → Pv i σ H → SqT K H a xs)
    (hs : ∀ i x σ H, xs[i]? = some x → Pv i σ H → ∀ N : L2.St → Hp → Prop, (∀ σ' H', Pv (i + 1) σ' H' → N σ' H') → g x σ H fun σ2 H2 => s1 { D with nx := N, ct := N, bk := D.nx } σ2 H2) (hd : ∀ σ H, Pv xs.length σ H → D.nx σ H) :
    FJ (Itt K a) g s1 D σ H := for_tup Pv h0 hl (fun i x σ H hx hp => hs i x σ H hx hp _ fun _ _ z => z) hd
theorem for_r {lo : Int} {n : Nat} {g : TG} (Pv : Nat → L2.St → Hp → Prop) (h0 : Pv 0 σ H)
    (hs : ∀ i σ H, i < n → Pv i σ H → ∀ N : L2.St → Hp → Prop, (∀ σ' H', Pv (i + 1) σ' H' → N σ' H') → g (.int (lo + i)) σ H fun σ2 H2 => s1 { D with nx := N, ct := N, bk := D.nx } σ2 H2) (hd : ∀ σ H, Pv n σ H → D.nx σ H) :
    FJ (Itr lo n) g s1 D σ H := for_range Pv h0 (fun i σ H hx hp => hs i σ H hx hp _ fun _ _ z => z) hd
end
/-! ### heaps -/
theorem ne_fresh {H : Hp} {a b : Addr} {o : HO} (h' : H b = none) (h : H a = some o) : a ≠ b := ne_of_none h h'
theorem upd_free {H : Hp} {a p : Addr} {o : HO} (h : upd H a o p = none) : H p = none := by
  unfold upd at h
  split at h
  · cases h
  · exact h
theorem upd_free_ne {H : Hp} {a p : Addr} {o : HO} (h : upd H a o p = none) : p ≠ a := by
  intro e
  rw [e, upd_same] at h
  cases h
theorem same_new {H : Hp} {p : Addr} {o : HO} (h : H p = none) : Same H (upd H p o) := fun b x e => by
  rw [upd_ne (ne_of_none e h)]
  exact e
/-- all that was tracked is as it was, but what stands at a -/
def Kp (a : Addr) (H H' : Hp) : Prop := ∀ b o, b ≠ a → H b = some o → H' b = some o
theorem Kp.refl (a : Addr) (H : Hp) : Kp a H H := fun _ _ _ h => h
theorem Kp.trans {a : Addr} {H H1 H2 : Hp} (x : Kp a H H1) (y : Kp a H1 H2) : Kp a H H2 := fun b o n h => y b o n (x b o n h)
theorem sm_kp {a : Addr} {H H' : Hp} (x : Same H H') : Kp a H H' := fun b o _ h => x b o h
theorem Kp.upd {a : Addr} {H H' : Hp} {o : HO} (x : Kp a H H') : Kp a H (upd H' a o) := fun b u n h => by
  rw [upd_ne n]
  exact x b u n h
theorem Kp.new {a p : Addr} {H H' : Hp} {o : HO} (x : Kp a H H') (hp : H p = none) : Kp a H (L2.upd H' p o) := fun b u n h => by
  rw [upd_ne (ne_of_none h hp)]
  exact x b u n h
theorem Kp.free {a p : Addr} {H H' : Hp} (x : Kp a H H') (n : p ≠ a) (hp : H' p = none) : H p = none := by
  cases q : H p with
  | none => rfl
  | some o =>
    rw [x p o n q] at hp
    cases hp
theorem Kp.seq {K : PySem.W.Frag} {a : Addr} {H H' : Hp} {l : Addr} {xs : List V} (x : Kp a H H') (n : l ≠ a) (h : SqL K H l xs) : SqL K H' l xs := by
  rcases h with (h | ⟨o, h⟩) | h
  · exact .inl (.inl (x _ _ n h))
  · exact .inl (.inr ⟨o, x _ _ n h⟩)
  · exact .inr h
theorem sm_new {p : Addr} {H H' : Hp} {o : HO} (x : Same H H') (hp : H p = none) : Same H (L2.upd H' p o) := fun b u h => by
  rw [upd_ne (ne_of_none h hp)]
  exact x b u h
theorem cut_to (xs : List V) (k : Nat) : cutV xs none (some (k : Int)) = xs.take k := by
  unfold cutV
  rw [HT.sIx_none, HT.sIx_nat]
  simp only [List.drop_zero, Nat.sub_zero]
  rcases Nat.le_total k xs.length with h | h
  · rw [Nat.min_eq_left h]
  · rw [Nat.min_eq_right h, List.take_of_length_le (Nat.le_refl _), List.take_of_length_le h]
theorem cut_from (xs : List V) (k : Nat) : cutV xs (some (k : Int)) none = xs.drop k := by
  unfold cutV
  rw [HT.sIx_none, HT.sIx_nat]
  rcases Nat.le_total k xs.length with h | h
  · rw [Nat.min_eq_left h, List.take_of_length_le (by simp)]
  · rw [Nat.min_eq_right h, List.drop_eq_nil_of_le (Nat.le_refl _), List.drop_eq_nil_of_le h]
    simp
theorem atI_mem {xs : List V} {i : Int} (h0 : 0 ≤ i) (h1 : i < xs.length) : ∃ v, v ∈ xs ∧ atI xs i = some v := by
  obtain ⟨j, rfl⟩ := Int.eq_ofNat_of_zero_le h0
  have hj : j < xs.length := by omega
  exact ⟨xs[j], List.getElem_mem hj, atI_nat (List.getElem?_eq_getElem hj)⟩
theorem atI_ints {ns : List Int} {i : Int} (h0 : 0 ≤ i) (h1 : i < ns.length) : ∃ z, z ∈ ns ∧ atI (ns.map V.int) i = some (.int z) := by
  obtain ⟨j, rfl⟩ := Int.eq_ofNat_of_zero_le h0
  have hj : j < ns.length := by omega
  exact ⟨ns[j], List.getElem_mem hj, atI_nat (by rw [List.getElem?_map, List.getElem?_eq_getElem hj]; rfl)⟩
/-! ### data that is compared: ints, tuples and lists of ints, pairs of ints -/
def dI (ns : List Int) : List PyData := ns.map PyData.int
theorem canLay_ints : ∀ ns : List Int, PyData.canLayAll0 (dI ns) = true
  | [] => by simp [dI, PyData.canLayAll0]
  | n :: r => by
    have := canLay_ints r
    simp only [dI] at this ⊢
    simp [PyData.canLayAll0, PyData.canLay0, this]
theorem depth_ints : ∀ ns : List Int, PyData.depthAll (dI ns) = 0
  | [] => by simp [dI, PyData.depthAll]
  | n :: r => by
    have := depth_ints r
    simp only [dI] at this ⊢
    simp [PyData.depthAll, PyData.depth, this]
theorem eqv_ints : ∀ ns ms : List Int, PyData.eqvAll (dI ns) (dI ms) = decide (ns = ms)
  | [], [] => by simp [dI, PyData.eqvAll]
  | [], _ :: _ => by simp [dI, PyData.eqvAll]
  | _ :: _, [] => by simp [dI, PyData.eqvAll]
  | n :: r, m :: t => by
    have := eqv_ints r t
    simp only [dI] at this ⊢
    simp only [List.map_cons, PyData.eqvAll, PyData.eqv, this, List.cons.injEq]
    rw [Bool.decide_and, Bool.beq_eq_decide_eq]
theorem dpAll_ints {K : PySem.W.Frag} {H : Hp} : ∀ ns : List Int, DpAll K H (ns.map V.int) (dI ns)
  | [] => .nil
  | n :: r => .cons (.int n) (dpAll_ints r)
theorem sh_tI (ns : List Int) : SeqAt.shaped (.tuple (dI ns)) = true := by
  unfold SeqAt.shaped
  simp [PyData.canLay0, PyData.depth, canLay_ints, depth_ints]
theorem sh_lI (ns : List Int) : SeqAt.shaped (.list (dI ns)) = true := by
  unfold SeqAt.shaped
  simp [PyData.canLay0, PyData.depth, canLay_ints, depth_ints]
/-- pairs of ints -/
def dP (ps : List (Int × Int)) : List PyData := ps.map fun p => PyData.tuple (dI [p.1, p.2])
theorem canLay_pairs : ∀ ps : List (Int × Int), PyData.canLayAll0 (dP ps) = true
  | [] => by simp [dP, PyData.canLayAll0]
  | n :: r => by
    have := canLay_pairs r
    simp only [dP] at this ⊢
    simp [PyData.canLayAll0, PyData.canLay0, this, canLay_ints]
theorem depth_pairs : ∀ ps : List (Int × Int), PyData.depthAll (dP ps) ≤ 1
  | [] => by simp [dP, PyData.depthAll]
  | n :: r => by
    have := depth_pairs r
    simp only [dP] at this ⊢
    simp only [List.map_cons, PyData.depthAll, PyData.depth, depth_ints]
    omega
theorem eqv_pairs : ∀ ns ms : List (Int × Int), PyData.eqvAll (dP ns) (dP ms) = decide (ns = ms)
  | [], [] => by simp [dP, PyData.eqvAll]
  | [], _ :: _ => by simp [dP, PyData.eqvAll]
  | _ :: _, [] => by simp [dP, PyData.eqvAll]
  | (a, b) :: r, (c, d) :: t => by
    have := eqv_pairs r t
    simp only [dP] at this ⊢
    simp only [List.map_cons, PyData.eqvAll, PyData.eqv, this, List.cons.injEq, eqv_ints, Prod.mk.injEq, and_true]
    simp only [Bool.decide_and]
theorem sh_tP (ns : List (Int × Int)) : SeqAt.shaped (.tuple (dP ns)) = true := by
  unfold SeqAt.shaped
  have := depth_pairs ns
  simp only [PyData.canLay0, PyData.depth, canLay_pairs, Bool.true_and, decide_eq_true_eq]
  exact decide_eq_true (by omega)
theorem sh_lP (ns : List (Int × Int)) : SeqAt.shaped (.list (dP ns)) = true := by
  unfold SeqAt.shaped
  have := depth_pairs ns
  simp only [PyData.canLay0, PyData.depth, canLay_pairs, Bool.true_and, decide_eq_true_eq]
  exact decide_eq_true (by omega)
/-- tuples of two ints stand at these addresses -/
def PairsAt (K : PySem.W.Frag) (H : Hp) (as : List Addr) (ps : List (Int × Int)) : Prop := as.length = ps.length ∧ ∀ (i : Nat) (a : Addr) (p : Int × Int), as[i]? = some a → ps[i]? = some p → SqT K H a [.int p.1, .int p.2]
theorem PairsAt.nil {K : PySem.W.Frag} {H : Hp} : PairsAt K H [] [] := ⟨rfl, fun _ _ _ h => by simp at h⟩
theorem PairsAt.snoc {K : PySem.W.Frag} {H : Hp} {as : List Addr} {ps : List (Int × Int)} {a : Addr} {p : Int × Int} (h : PairsAt K H as ps) (hp : SqT K H a [.int p.1, .int p.2]) : PairsAt K H (as ++ [a]) (ps ++ [p]) := by
  refine ⟨by simp [h.1], fun i b q h1 h2 => ?_⟩
  rcases Nat.lt_or_ge i as.length with c | c
  · rw [List.getElem?_append_left c] at h1
    rw [List.getElem?_append_left (by rw [← h.1]; exact c)] at h2
    exact h.2 i b q h1 h2
  · rw [List.getElem?_append_right c] at h1
    rw [List.getElem?_append_right (by rw [← h.1]; exact c)] at h2
    have e1 : i - as.length = 0 := by
      have := (List.getElem?_eq_some_iff.mp h1).1
      simp at this
      omega
    rw [← h.1, e1] at h2
    rw [e1] at h1
    simp at h1 h2
    subst h1 h2
    exact hp
theorem dpAll_pairs {K : PySem.W.Frag} {H : Hp} : ∀ {as : List Addr} {ps : List (Int × Int)}, PairsAt K H as ps → DpAll K H (as.map V.ref) (dP ps)
  | [], [], _ => .nil
  | [], _ :: _, h => by
    have := h.1
    simp at this
  | _ :: _, [], h => by
    have := h.1
    simp at this
  | a :: as, p :: ps, h => .cons (.tup (h.2 0 a p rfl rfl) (dpAll_ints [p.1, p.2])) (dpAll_pairs ⟨by have := h.1; simp at this; exact this, fun i b q h1 h2 => h.2 (i + 1) b q (by simpa using h1) (by simpa using h2)⟩)
/-- a number, or None -/
def vo : Option Nat → V
  | some n => .int (n : Int)
  | none => .non
def dO : Option Nat → PyData
  | some n => .int (n : Int)
  | none => .none
theorem dp_o {K : PySem.W.Frag} {H : Hp} : ∀ l : Option Nat, Dp K H (vo l) (dO l)
  | some n => .int _
  | none => .non
theorem eqv_o : ∀ l l' : Option Nat, PyData.eqv (dO l) (dO l') = decide (l = l')
  | some a, some b => by
    simp only [dO, PyData.eqv, Option.some.injEq, Int.natCast_inj, Bool.beq_eq_decide_eq]
  | some a, none => by simp [dO, PyData.eqv]
  | none, some b => by simp [dO, PyData.eqv]
  | none, none => by simp [dO, PyData.eqv]
theorem sh_o (l : Option Nat) (g : Int) : SeqAt.shaped (.tuple [dO l, .int g]) = true := by cases l <;> rfl
section
variable {K : PySem.W.Frag} {H : Hp} {Q : VK} {a b : Addr}
theorem r_eqT {ns ms : List Int} (hx : SqT K H a (ns.map V.int)) (hy : SqT K H b (ms.map V.int)) (q : Q (.bl (decide (ns = ms))) H) : rEqD K (.ref a) (.ref b) H Q :=
  ⟨.tuple (dI ns), .tuple (dI ms), .tup hx (dpAll_ints ns), .tup hy (dpAll_ints ms), sh_tI ns, sh_tI ms, by rw [PyData.eqv, eqv_ints]; exact q⟩
theorem r_neT {ns ms : List Int} (hx : SqT K H a (ns.map V.int)) (hy : SqT K H b (ms.map V.int)) (q : Q (.bl (!decide (ns = ms))) H) : rNeD K (.ref a) (.ref b) H Q :=
  ⟨.tuple (dI ns), .tuple (dI ms), .tup hx (dpAll_ints ns), .tup hy (dpAll_ints ms), sh_tI ns, sh_tI ms, by rw [PyData.eqv, eqv_ints]; exact q⟩
theorem r_eqL {ns ms : List Int} (hx : SqL K H a (ns.map V.int)) (hy : SqL K H b (ms.map V.int)) (q : Q (.bl (decide (ns = ms))) H) : rEqD K (.ref a) (.ref b) H Q :=
  ⟨.list (dI ns), .list (dI ms), .lst hx (dpAll_ints ns), .lst hy (dpAll_ints ms), sh_lI ns, sh_lI ms, by rw [PyData.eqv, eqv_ints]; exact q⟩
theorem r_neL {ns ms : List Int} (hx : SqL K H a (ns.map V.int)) (hy : SqL K H b (ms.map V.int)) (q : Q (.bl (!decide (ns = ms))) H) : rNeD K (.ref a) (.ref b) H Q :=
  ⟨.list (dI ns), .list (dI ms), .lst hx (dpAll_ints ns), .lst hy (dpAll_ints ms), sh_lI ns, sh_lI ms, by rw [PyData.eqv, eqv_ints]; exact q⟩
theorem r_eqTP {as bs : List Addr} {ns ms : List (Int × Int)} (hx : SqT K H a (as.map V.ref)) (ha : PairsAt K H as ns) (hy : SqT K H b (bs.map V.ref)) (hb : PairsAt K H bs ms) (q : Q (.bl (decide (ns = ms))) H) : rEqD K (.ref a) (.ref b) H Q :=
  ⟨.tuple (dP ns), .tuple (dP ms), .tup hx (dpAll_pairs ha), .tup hy (dpAll_pairs hb), sh_tP ns, sh_tP ms, by rw [PyData.eqv, eqv_pairs]; exact q⟩
theorem r_neTP {as bs : List Addr} {ns ms : List (Int × Int)} (hx : SqT K H a (as.map V.ref)) (ha : PairsAt K H as ns) (hy : SqT K H b (bs.map V.ref)) (hb : PairsAt K H bs ms) (q : Q (.bl (!decide (ns = ms))) H) : rNeD K (.ref a) (.ref b) H Q :=
  ⟨.tuple (dP ns), .tuple (dP ms), .tup hx (dpAll_pairs ha), .tup hy (dpAll_pairs hb), sh_tP ns, sh_tP ms, by rw [PyData.eqv, eqv_pairs]; exact q⟩
theorem r_eqLP {as bs : List Addr} {ns ms : List (Int × Int)} (hx : SqL K H a (as.map V.ref)) (ha : PairsAt K H as ns) (hy : SqL K H b (bs.map V.ref)) (hb : PairsAt K H bs ms) (q : Q (.bl (decide (ns = ms))) H) : rEqD K (.ref a) (.ref b) H Q :=
  ⟨.list (dP ns), .list (dP ms), .lst hx (dpAll_pairs ha), .lst hy (dpAll_pairs hb), sh_lP ns, sh_lP ms, by rw [PyData.eqv, eqv_pairs]; exact q⟩
theorem r_neLP {as bs : List Addr} {ns ms : List (Int × Int)} (hx : SqL K H a (as.map V.ref)) (ha : PairsAt K H as ns) (hy : SqL K H b (bs.map V.ref)) (hb : PairsAt K H bs ms) (q : Q (.bl (!decide (ns = ms))) H) : rNeD K (.ref a) (.ref b) H Q :=
  ⟨.list (dP ns), .list (dP ms), .lst hx (dpAll_pairs ha), .lst hy (dpAll_pairs hb), sh_lP ns, sh_lP ms, by rw [PyData.eqv, eqv_pairs]; exact q⟩
theorem r_neO {l l' : Option Nat} {g g' : Nat} (hx : SqT K H a [vo l, .int (g : Int)]) (hy : SqT K H b [vo l', .int (g' : Int)]) (q : Q (.bl (!decide (l = l' ∧ g = g'))) H) : rNeD K (.ref a) (.ref b) H Q :=
  ⟨.tuple [dO l, .int g], .tuple [dO l', .int g'], .tup hx (.cons (dp_o l) (.cons (.int _) .nil)), .tup hy (.cons (dp_o l') (.cons (.int _) .nil)), sh_o l g, sh_o l' g', by
    rw [PyData.eqv]
    simp only [PyData.eqvAll, eqv_o, PyData.eqv, Bool.and_true]
    have : (decide (l = l') && ((g : Int) == (g' : Int))) = decide (l = l' ∧ g = g') := by
      rw [Bool.decide_and, Bool.beq_eq_decide_eq]
      simp only [Int.natCast_inj]
    rw [this]
    exact q⟩
theorem r_eqO {l l' : Option Nat} {g g' : Nat} (hx : SqT K H a [vo l, .int (g : Int)]) (hy : SqT K H b [vo l', .int (g' : Int)]) (q : Q (.bl (decide (l = l' ∧ g = g'))) H) : rEqD K (.ref a) (.ref b) H Q :=
  ⟨.tuple [dO l, .int g], .tuple [dO l', .int g'], .tup hx (.cons (dp_o l) (.cons (.int _) .nil)), .tup hy (.cons (dp_o l') (.cons (.int _) .nil)), sh_o l g, sh_o l' g', by
    rw [PyData.eqv]
    simp only [PyData.eqvAll, eqv_o, PyData.eqv, Bool.and_true]
    have : (decide (l = l') && ((g : Int) == (g' : Int))) = decide (l = l' ∧ g = g') := by
      rw [Bool.decide_and, Bool.beq_eq_decide_eq]
      simp only [Int.natCast_inj]
    rw [this]
    exact q⟩
theorem ty_non : TyX K H .non (.type "NoneType") := .base .non
/-- isinstance of a built-in class -/
theorem r_isi {x : V} {T n : String} {c : Bool} (ty : TyX K H x (.type T)) (hk : kitB T n = some c) (q : Q (.bl c) H) : rIsi K [x, .ty n] H Q := ⟨x, .ty n, .type T, .type n, c, rfl, .ty n, ty, kit_ty hk, q⟩
theorem ty_int (i : Int) : TyX K H (.int i) (.type "int") := .base (.int i)
theorem ty_bl (c : Bool) : TyX K H (.bl c) (.type "bool") := .base (.bl c)
theorem ty_str (c : PySem.Str) : TyX K H (.str c) (.type "str") := .base (.str c)
theorem ty_tup {xs : List V} (h : SqT K H a xs) : TyX K H (.ref a) (.type "tuple") := by
  rcases h with (h | ⟨o, h⟩) | ⟨o, its, n, h1, h2, _⟩
  · exact .base (.tup h)
  · exact .fTuple h
  · exact .kTuple h1 h2
theorem ty_lst {xs : List V} (h : SqL K H a xs) : TyX K H (.ref a) (.type "list") := by
  rcases h with (h | ⟨o, h⟩) | ⟨o, its, n, h1, h2, _⟩
  · exact .base (.lst h)
  · exact .base (.frz h)
  · exact .kList h1 h2
end
/-- all of these stand at tuples of a number to 10 ** 40 and an exponent from 1 to 200 -/
def Jobs (H : Hp) (xs : List V) : Prop := ∀ x ∈ xs, ∃ (a : Addr) (n e : Nat), x = .ref a ∧ H a = some (.tup [.int n, .int e]) ∧ n ≤ 10 ^ 40 ∧ 1 ≤ e ∧ e ≤ 200
theorem Jobs.kp {H H' : Hp} {xs : List V} {d : Addr} (h : Jobs H xs) (k : Kp d H H') (hd : ∃ ys, H d = some (.lst ys)) : Jobs H' xs := fun x hx => by
  obtain ⟨a, n, e, h1, h2, h3⟩ := h x hx
  obtain ⟨ys, hy⟩ := hd
  exact ⟨a, n, e, h1, k _ _ (ne_of h2 hy (by intro z; cases z)) h2, h3⟩
theorem Jobs.same {H H' : Hp} {xs : List V} (h : Jobs H xs) (k : Same H H') : Jobs H' xs := fun x hx => by
  obtain ⟨a, n, e, h1, h2, h3⟩ := h x hx
  exact ⟨a, n, e, h1, k _ _ h2, h3⟩
/-- a value that is no truth -/
def tyFalse (K : PySem.W.Frag) (x : V) (H : Hp) : Prop := ∃ T : String, TyX K H x (.type T) ∧ kitB T "bool" = some false
/-! ### a comprehension whose turns change nothing that was there -/
section
variable {σ : L2.St} {H : Hp} {Q : VK} {K : PySem.W.Frag} {te tl : TE} {tt : TT} {tr : TA} {g : TG} {vs : List Nat}
/-- the turns of a comprehension -/
def LJ (J : It) (g : TG) (tt : TT) (te : TE) (vs : List Nat) (σ : L2.St) (H1 : Hp) (Q : VK) : Prop := ∀ D, H1 D = none → ∃ W : Nat → Nat → Hp → Prop, (∃ m, W 0 m (upd H1 D (.lst []))) ∧ ∀ i m H, W i m H →
  (J.stop i H ∧ Q (.ref D) H) ∨ (J.go i H ∧ ∃ Nx : Hp → Prop, (∀ H', Nx H' → ∃ m', m' < m ∧ W (i + 1) m' H') ∧ ∀ x H', J.yld i H x H' → g x (wipe σ vs) H' fun σ2 H2 => wipe σ2 vs = wipe σ vs ∧ tt σ2 H2 fun b H3 =>
    if b = true then te σ2 H3 fun y H4 => ∃ acc, H4 D = some (.lst acc) ∧ acc.length < sizeLine ∧ Nx (upd H4 D (.lst (acc ++ [y]))) else Nx H3)
theorem w_lcL : tLc (iList K tl) g tt te vs σ H Q = tl σ H fun x H1 => ∃ a, x = .ref a ∧ (∃ xs, SqL K H1 a xs) ∧ LJ (Itl K a) g tt te vs σ H1 Q := rfl
theorem w_lcT : tLc (iTup K tl) g tt te vs σ H Q = tl σ H fun x H1 => ∃ a, x = .ref a ∧ (∃ xs, SqT K H1 a xs) ∧ LJ (Itt K a) g tt te vs σ H1 Q := rfl
theorem w_lc1 : tLc (iRng1 tr) g tt te vs σ H Q = tr σ H fun xs H1 => ∃ j : Int, xs = [.int j] ∧ -(2 ^ 62) ≤ j ∧ j < 2 ^ 62 ∧ LJ (Itr 0 j.toNat) g tt te vs σ H1 Q := rfl
theorem w_lc2 : tLc (iRng2 tr) g tt te vs σ H Q = tr σ H fun xs H1 => ∃ i j : Int, xs = [.int i, .int j] ∧ (-(2 ^ 62) ≤ i ∧ i < 2 ^ 62 ∧ -(2 ^ 62) ≤ j ∧ j < 2 ^ 62) ∧ LJ (Itr i (j - i).toNat) g tt te vs σ H1 Q := rfl
theorem w_lc3 : tLc (iRng3 tr) g tt te vs σ H Q = tr σ H fun xs H1 => ∃ (i j c : Int) (n : Nat), xs = [.int i, .int j, .int c] ∧ RgC i j c n ∧ LJ (Itc i c n) g tt te vs σ H1 Q := rfl
theorem w_yes {QT : Bool → Hp → Prop} : tYes σ H QT = QT true H := rfl
theorem same_seqT {K : PySem.W.Frag} {H H' : Hp} {a : Addr} {xs : List V} (e : Same H H') (h : SqT K H a xs) : SqT K H' a xs := by
  rcases h with (h | ⟨o, h⟩) | h
  · exact .inl (.inl (e _ _ h))
  · exact .inl (.inr ⟨o, e _ _ h⟩)
  · exact .inr h
theorem Kp.seqT {K : PySem.W.Frag} {a : Addr} {H H' : Hp} {l : Addr} {xs : List V} (x : Kp a H H') (n : l ≠ a) (h : SqT K H l xs) : SqT K H' l xs := by
  rcases h with (h | ⟨o, h⟩) | h
  · exact .inl (.inl (x _ _ n h))
  · exact .inl (.inr ⟨o, x _ _ n h⟩)
  · exact .inr h
theorem PairsAt.same {K : PySem.W.Frag} {H H' : Hp} {as : List Addr} {ps : List (Int × Int)} (h : PairsAt K H as ps) (e : Same H H') : PairsAt K H' as ps := ⟨h.1, fun i a p h1 h2 => same_seqT e (h.2 i a p h1 h2)⟩
theorem filt_take {α β : Type} (f : α → Option β) {xs : List α} {i : Nat} {x : α} (h : xs[i]? = some x) : (xs.take (i + 1)).filterMap f = (xs.take i).filterMap f ++ (f x).toList := by
  rw [List.take_add_one, h, List.filterMap_append]
  cases e : f x <;> simp [e]
/-- f tells of an item what is put into the list, if anything -/
theorem lc_l {a : Addr} {xs : List V} (f : V → Option V) (hx : SqL K H a xs) (hl : xs.length < sizeLine)
    (hs : ∀ (i : Nat) (x : V) (H' : Hp), xs[i]? = some x → Same H H' → ∀ (N0 : Hp → Prop) (N1 : VK), (f x = none → ∀ H2, Same H' H2 → N0 H2) → (∀ y, f x = some y → ∀ H2, Same H' H2 → N1 y H2) →
      g x (wipe σ vs) H' fun σ2 H2 => wipe σ2 vs = wipe σ vs ∧ tt σ2 H2 fun b H3 => if b = true then te σ2 H3 N1 else N0 H3)
    (q : ∀ D H', H D = none → Same H H' → H' D = some (.lst (xs.filterMap f)) → Q (.ref D) H') : LJ (Itl K a) g tt te vs σ H Q := by
  intro D hD
  refine lc_list (K := K) (a := a) (xs := xs) (fun i H' => Same H H' ∧ H' D = some (.lst ((xs.take i).filterMap f))) ⟨same_new hD, by rw [upd_same]; simp⟩ (fun i H' _ p => p.1.seq hx) ?_ ?_
  · rintro i x H' hi ⟨p1, p2⟩
    have hlen : ((xs.take i).filterMap f).length < sizeLine := Nat.lt_of_le_of_lt (Nat.le_trans (List.length_filterMap_le _ _) (by rw [List.length_take]; exact Nat.min_le_right _ _)) hl
    refine hs i x H' hi p1 _ _ (fun hf H2 e2 => ⟨p1.trans e2, ?_⟩) fun y hf H2 e2 => ⟨_, e2 _ _ p2, hlen, fun b o h => ?_, ?_⟩
    · rw [e2 _ _ p2, filt_take f hi, hf]
      simp
    · rw [upd_ne (ne_of_none h hD)]
      exact e2 _ _ (p1 _ _ h)
    · rw [upd_same, filt_take f hi, hf]
      rfl
  · rintro H' ⟨p1, p2⟩
    rw [List.take_length] at p2
    exact q D H' hD p1 p2
theorem lc_t {a : Addr} {xs : List V} (f : V → Option V) (hx : SqT K H a xs) (hl : xs.length < sizeLine)
    (hs : ∀ (i : Nat) (x : V) (H' : Hp), xs[i]? = some x → Same H H' → ∀ (N0 : Hp → Prop) (N1 : VK), (f x = none → ∀ H2, Same H' H2 → N0 H2) → (∀ y, f x = some y → ∀ H2, Same H' H2 → N1 y H2) →
      g x (wipe σ vs) H' fun σ2 H2 => wipe σ2 vs = wipe σ vs ∧ tt σ2 H2 fun b H3 => if b = true then te σ2 H3 N1 else N0 H3)
    (q : ∀ D H', H D = none → Same H H' → H' D = some (.lst (xs.filterMap f)) → Q (.ref D) H') : LJ (Itt K a) g tt te vs σ H Q := by
  intro D hD
  refine lc_tup (K := K) (a := a) (xs := xs) (fun i H' => Same H H' ∧ H' D = some (.lst ((xs.take i).filterMap f))) ⟨same_new hD, by rw [upd_same]; simp⟩ (fun i H' _ p => same_seqT p.1 hx) ?_ ?_
  · rintro i x H' hi ⟨p1, p2⟩
    have hlen : ((xs.take i).filterMap f).length < sizeLine := Nat.lt_of_le_of_lt (Nat.le_trans (List.length_filterMap_le _ _) (by rw [List.length_take]; exact Nat.min_le_right _ _)) hl
    refine hs i x H' hi p1 _ _ (fun hf H2 e2 => ⟨p1.trans e2, ?_⟩) fun y hf H2 e2 => ⟨_, e2 _ _ p2, hlen, fun b o h => ?_, ?_⟩
    · rw [e2 _ _ p2, filt_take f hi, hf]
      simp
    · rw [upd_ne (ne_of_none h hD)]
      exact e2 _ _ (p1 _ _ h)
    · rw [upd_same, filt_take f hi, hf]
      rfl
  · rintro H' ⟨p1, p2⟩
    rw [List.take_length] at p2
    exact q D H' hD p1 p2
/-- over lo, lo + 1, .. (n of them), by the place -/
theorem lc_r {lo : Int} {n : Nat} (f : Nat → Option V) (hl : n < sizeLine)
    (hs : ∀ (i : Nat) (H' : Hp), i < n → Same H H' → ∀ (N0 : Hp → Prop) (N1 : VK), (f i = none → ∀ H2, Same H' H2 → N0 H2) → (∀ y, f i = some y → ∀ H2, Same H' H2 → N1 y H2) →
      g (.int (lo + i)) (wipe σ vs) H' fun σ2 H2 => wipe σ2 vs = wipe σ vs ∧ tt σ2 H2 fun b H3 => if b = true then te σ2 H3 N1 else N0 H3)
    (q : ∀ D H', H D = none → Same H H' → H' D = some (.lst ((List.range n).filterMap f)) → Q (.ref D) H') : LJ (Itr lo n) g tt te vs σ H Q := by
  intro D hD
  refine lc_range (lo := lo) (n := n) (fun i H' => Same H H' ∧ H' D = some (.lst ((List.range i).filterMap f))) ⟨same_new hD, by rw [upd_same]; simp⟩ ?_ ?_
  · rintro i H' hi ⟨p1, p2⟩
    have hlen : ((List.range i).filterMap f).length < sizeLine := Nat.lt_of_le_of_lt (List.length_filterMap_le _ _) (by rw [List.length_range]; omega)
    have hf1 : (List.range (i + 1)).filterMap f = (List.range i).filterMap f ++ (f i).toList := by
      rw [List.range_succ, List.filterMap_append]
      cases e : f i <;> simp [e]
    refine hs i H' hi p1 _ _ (fun hf H2 e2 => ⟨p1.trans e2, ?_⟩) fun y hf H2 e2 => ⟨_, e2 _ _ p2, hlen, fun b o h => ?_, ?_⟩
    · rw [e2 _ _ p2, hf1, hf]
      simp
    · rw [upd_ne (ne_of_none h hD)]
      exact e2 _ _ (p1 _ _ h)
    · rw [upd_same, hf1, hf]
      rfl
  · rintro H' ⟨p1, p2⟩
    exact q D H' hD p1 p2
/-- a comprehension by an invariant over what is made so far -/
theorem lc_rI {lo : Int} {n : Nat} (Pv : Nat → List V → Hp → Prop) (h0 : ∀ D, H D = none → Pv 0 [] (upd H D (.lst [])))
    (hs : ∀ (i : Nat) (acc : List V) (D : Addr) (H' : Hp), i < n → H D = none → H' D = some (.lst acc) → Pv i acc H' → ∀ (N0 : Hp → Prop) (N1 : VK), (∀ H2, H2 D = some (.lst acc) → Pv (i + 1) acc H2 → N0 H2) →
      (∀ y H2, H2 D = some (.lst acc) → acc.length < sizeLine → Pv (i + 1) (acc ++ [y]) (upd H2 D (.lst (acc ++ [y]))) → N1 y H2) →
      g (.int (lo + i)) (wipe σ vs) H' fun σ2 H2 => wipe σ2 vs = wipe σ vs ∧ tt σ2 H2 fun b H3 => if b = true then te σ2 H3 N1 else N0 H3)
    (q : ∀ D acc H', H D = none → H' D = some (.lst acc) → Pv n acc H' → Q (.ref D) H') : LJ (Itr lo n) g tt te vs σ H Q := by
  intro D hD
  refine lc_range (lo := lo) (n := n) (fun i H' => ∃ acc, H' D = some (.lst acc) ∧ Pv i acc H') ⟨[], upd_same, h0 D hD⟩ ?_ ?_
  · rintro i H' hi ⟨acc, p1, p2⟩
    exact hs i acc D H' hi hD p1 p2 _ _ (fun H2 e h => ⟨acc, e, h⟩) fun y H2 e hl h => ⟨acc, e, hl, _, upd_same, h⟩
  · rintro H' ⟨acc, p1, p2⟩
    exact q D acc H' hD p1 p2
theorem lc_lI {a : Addr} {xs : List V} (Pv : Nat → List V → Hp → Prop) (h0 : ∀ D, H D = none → Pv 0 [] (upd H D (.lst []))) (hl : ∀ i acc H', i ≤ xs.length → Pv i acc H' → SqL K H' a xs)
    (hs : ∀ (i : Nat) (x : V) (acc : List V) (D : Addr) (H' : Hp), xs[i]? = some x → H D = none → H' D = some (.lst acc) → Pv i acc H' → ∀ (N0 : Hp → Prop) (N1 : VK), (∀ H2, H2 D = some (.lst acc) → Pv (i + 1) acc H2 → N0 H2) →
      (∀ y H2, H2 D = some (.lst acc) → acc.length < sizeLine → Pv (i + 1) (acc ++ [y]) (upd H2 D (.lst (acc ++ [y]))) → N1 y H2) →
      g x (wipe σ vs) H' fun σ2 H2 => wipe σ2 vs = wipe σ vs ∧ tt σ2 H2 fun b H3 => if b = true then te σ2 H3 N1 else N0 H3)
    (q : ∀ D acc H', H D = none → H' D = some (.lst acc) → Pv xs.length acc H' → Q (.ref D) H') : LJ (Itl K a) g tt te vs σ H Q := by
  intro D hD
  refine lc_list (K := K) (a := a) (xs := xs) (fun i H' => ∃ acc, H' D = some (.lst acc) ∧ Pv i acc H') ⟨[], upd_same, h0 D hD⟩ (fun i H' hi ⟨acc, _, p⟩ => hl i acc H' hi p) ?_ ?_
  · rintro i x H' hi ⟨acc, p1, p2⟩
    exact hs i x acc D H' hi hD p1 p2 _ _ (fun H2 e h => ⟨acc, e, h⟩) fun y H2 e hl h => ⟨acc, e, hl, _, upd_same, h⟩
  · rintro H' ⟨acc, p1, p2⟩
    exact q D acc H' hD p1 p2
end
/-- range(i, j, c) upwards -/
theorem RgC.up {i j c : Int} (ha : -(2 ^ 62) ≤ i) (ha' : i < 2 ^ 62) (hb : -(2 ^ 62) ≤ j) (hb' : j < 2 ^ 62) (hc : 0 < c) (hc' : c < 1073741824) : RgC i j c (if i < j then ((j - i - 1) / c + 1).toNat else 0) := by
  have hd : i < j → 0 ≤ (j - i - 1) / c ∧ (j - i - 1) / c ≤ j - i - 1 := fun h => ⟨Int.ediv_nonneg (by omega) (by omega), Int.ediv_le_self _ (by omega)⟩
  refine ⟨by omega, by omega, ?_, ?_⟩
  · unfold Builtin.Range.small
    simp only [Builtin.Range.rangeFitsLong, Bool.and_eq_true, Bool.or_eq_true, decide_eq_true_eq, beq_iff_eq, Builtin.Range.rangeSize, show c > 0 from hc, if_true]
    split
    · rename_i h
      obtain ⟨h1, h2⟩ := hd h
      generalize (j - i - 1) / c = z at h1 h2 ⊢
      omega
    · omega
  · simp only [Builtin.Range.rangeSize, show c > 0 from hc, if_true]
    split
    · rename_i h
      obtain ⟨h1, h2⟩ := hd h
      omega
    · rfl
theorem bits_nat {n : Nat} (h : 1 ≤ n) : Builtin.Int.intBits (n : Int) = n.log2 + 1 := by
  unfold Builtin.Int.intBits
  rw [if_neg (by simp; omega)]
  rfl
theorem bits_0 : Builtin.Int.intBits 0 = 0 := rfl
theorem filt_ints (f : Nat → Int) (k : Nat) : (List.range k).filterMap (fun i => some (V.int (f i))) = ((List.range k).map f).map V.int := by
  rw [List.map_map]
  exact congrFun (List.filterMap_eq_map (f := V.int ∘ f)) _
theorem size_le {n : Nat} (h : n ≤ 1000000) : n < sizeLine := Nat.lt_of_le_of_lt h (by decide)
theorem size_le' {n : Nat} (h : n ≤ 1000000) : n ≤ sizeLine := Nat.le_of_lt (size_le h)
/-- the items of a list of ints that are kept -/
def keepI (p : Int → Bool) : V → Option V
  | .int z => if p z = true then some (.int z) else none
  | _ => none
theorem filt_keep (p : Int → Bool) : ∀ ns : List Int, (ns.map V.int).filterMap (keepI p) = (ns.filter p).map V.int
  | [] => rfl
  | n :: r => by
    have ih := filt_keep p r
    simp only [List.map_cons, List.filterMap_cons, keepI, List.filter_cons]
    by_cases h : p n = true
    · rw [if_pos h, if_pos h]
      simp only [ih, List.map_cons]
    · rw [if_neg h, if_neg h]
      simp only [ih]
theorem int_at {ns : List Int} {i : Nat} {x : V} (h : (ns.map V.int)[i]? = some x) : ∃ n, n ∈ ns ∧ x = V.int n := by
  rw [List.getElem?_map] at h
  cases e : ns[i]? with
  | none => simp [e] at h
  | some n =>
    simp [e] at h
    exact ⟨n, List.mem_of_getElem? e, h.symm⟩
def ofN (ns : List Nat) : List Int := List.map (fun n : Nat => (n : Int)) ns
theorem ofN_filter (p : Int → Bool) (ns : List Nat) : (ofN ns).filter p = ofN (ns.filter fun n => p n) := by
  unfold ofN
  rw [List.filter_map]
  rfl
/-! ### sizes -/
theorem cmulN {a b : Nat} (h : a.log2 + b.log2 < 1000000) : CMulW (a : Int) (b : Int) := h
end Pn
namespace Pn
/-! ### powers -/
theorem tk_odd {f b e X B : Nat} (h : f * b ^ e = X) (hX : X ≤ B) (he : 1 ≤ e) : f * b ≤ B := by
  rcases Nat.eq_zero_or_pos b with rfl | hb
  · omega
  · have : b ≤ b ^ e := Nat.le_self_pow (by omega) b
    calc f * b ≤ f * b ^ e := Nat.mul_le_mul_left f this
      _ ≤ B := by omega
theorem tk_sq {f b e X B : Nat} (h : f * b ^ e = X) (hX : X ≤ B) (he : 2 ≤ e) (hf : f = 0 → b = 0) : b * b ≤ B := by
  rcases Nat.eq_zero_or_pos b with rfl | hb
  · omega
  · have h1 : b ^ 2 ≤ b ^ e := Nat.pow_le_pow_right hb he
    have hf1 : 1 ≤ f := by omega
    have h2 : 1 * b ^ e ≤ f * b ^ e := Nat.mul_le_mul_right _ hf1
    have h3 : b * b = b ^ 2 := by rw [Nat.pow_two]
    omega
theorem tk_step1 {f b e X : Nat} (h : f * b ^ e = X) (he : e % 2 = 1) : f * b * (b * b) ^ (e / 2) = X := by
  have e1 : e = 2 * (e / 2) + 1 := by omega
  have e2 : b ^ e = b * (b * b) ^ (e / 2) := by
    conv => lhs; rw [e1]
    rw [Nat.pow_succ, Nat.pow_mul, Nat.pow_two, Nat.mul_comm]
  rw [Nat.mul_assoc, ← e2, h]
theorem tk_step0 {f b e X : Nat} (h : f * b ^ e = X) (he : e % 2 = 0) : f * (b * b) ^ (e / 2) = X := by
  have e1 : e = 2 * (e / 2) := by omega
  have e2 : b ^ e = (b * b) ^ (e / 2) := by
    conv => lhs; rw [e1]
    rw [Nat.pow_mul, Nat.pow_two]
  rw [← e2, h]
theorem log2_le_of_le {x n : Nat} (h : x ≤ 2 ^ n) : x.log2 ≤ n := by
  rcases Nat.eq_zero_or_pos x with rfl | hx
  · simp
  · have : x.log2 < n + 1 := (Nat.log2_lt (by omega)).mpr (by rw [Nat.pow_succ]; omega)
    omega
theorem shl_one (j : Nat) : (1 : Int) * 2 ^ ((j : Int)).toNat = ((2 ^ j : Nat) : Int) := by
  rw [Int.toNat_natCast, Int.one_mul, Int.natCast_pow]
  rfl
/-! ### roots by halving -/
theorem root_unique {n e r s : Nat} (he : 1 ≤ e) (h1 : r ^ e ≤ n) (h2 : n < (r + 1) ^ e) (h3 : s ^ e ≤ n) (h4 : n < (s + 1) ^ e) : r = s := by
  have a : r < s + 1 := (Nat.pow_lt_pow_iff_left (by omega : e ≠ 0)).mp (Nat.lt_of_le_of_lt h1 h4)
  have b : s < r + 1 := (Nat.pow_lt_pow_iff_left (by omega : e ≠ 0)).mp (Nat.lt_of_le_of_lt h3 h2)
  omega
end Pn
namespace Pn
/-! ### the root of a number by an exponent; all ways in which it is a power -/
def rootD (n e : Nat) : Nat → Nat
  | 0 => 0
  | k + 1 => if (k + 1) ^ e ≤ n then k + 1 else rootD n e k
theorem rootD_spec (n e : Nat) (he : 1 ≤ e) : ∀ k, rootD n e k ≤ k ∧ (rootD n e k) ^ e ≤ n ∧ ∀ j, rootD n e k < j → j ≤ k → n < j ^ e
  | 0 => ⟨Nat.le_refl _, by rw [rootD, Nat.zero_pow (by omega)]; omega, fun j h1 h2 => by omega⟩
  | k + 1 => by
    obtain ⟨h1, h2, h3⟩ := rootD_spec n e he k
    rw [rootD]
    split
    · rename_i h
      exact ⟨Nat.le_refl _, h, fun j a b => by omega⟩
    · rename_i h
      refine ⟨by omega, h2, fun j a b => ?_⟩
      rcases Nat.lt_or_ge j (k + 1) with c | c
      · exact h3 j a (by omega)
      · have : j = k + 1 := by omega
        subst this
        omega
def rootN (n e : Nat) : Nat := rootD n e n
theorem rootN_le {n e : Nat} (he : 1 ≤ e) : (rootN n e) ^ e ≤ n := (rootD_spec n e he n).2.1
theorem rootN_lt {n e : Nat} (he : 1 ≤ e) : n < (rootN n e + 1) ^ e := by
  obtain ⟨h1, h2, h3⟩ := rootD_spec n e he n
  unfold rootN
  rcases Nat.lt_or_ge (rootD n e n) n with c | c
  · exact h3 _ (by omega) (by omega)
  · have : rootD n e n = n := by omega
    rw [this]
    exact Nat.lt_of_lt_of_le (Nat.lt_succ_self n) (Nat.le_self_pow (by omega) _)
theorem rootN_is {n e r : Nat} (he : 1 ≤ e) (h1 : r ^ e ≤ n) (h2 : n < (r + 1) ^ e) : r = rootN n e := root_unique he h1 h2 (rootN_le he) (rootN_lt he)
theorem rootN_ge {n e b : Nat} (he : 1 ≤ e) (h : b ^ e ≤ n) : b ≤ rootN n e := by
  have : b < rootN n e + 1 := (Nat.pow_lt_pow_iff_left (by omega : e ≠ 0)).mp (Nat.lt_of_le_of_lt h (rootN_lt he))
  omega
theorem rootN_pow {b e : Nat} (he : 1 ≤ e) : rootN (b ^ e) e = b := (rootN_is he (Nat.le_refl _) (Nat.pow_lt_pow_left (Nat.lt_succ_self b) (by omega))).symm
theorem rootN_gt1 {n e : Nat} (he : 1 ≤ e) : 1 < rootN n e ↔ 2 ^ e ≤ n := by
  constructor
  · intro h
    exact Nat.le_trans (Nat.pow_le_pow_left h e) (rootN_le he)
  · intro h
    exact rootN_ge he h
def wayAt (n e : Nat) : Option (Nat × Nat) := if (rootN n e) ^ e = n then some (rootN n e, e) else none
/-- the ways by exponents 2, .., k + 1 -/
def waysTo (n k : Nat) : List (Nat × Nat) := (List.range k).filterMap fun i => wayAt n (i + 2)
theorem waysTo_succ (n k : Nat) : waysTo n (k + 1) = waysTo n k ++ (wayAt n (k + 2)).toList := by
  unfold waysTo
  rw [List.range_succ, List.filterMap_append]
  cases e : wayAt n (k + 2) <;> simp [e]
def waysN (n : Nat) : List (Nat × Nat) := if n = 0 then [] else if n = 1 then [(1, 2)] else waysTo n (n.log2 - 1)
def greatestN (n : Nat) : Nat × Nat := (waysN n).getLast?.getD (n, 1)
theorem last_filt {α : Type} {f : Nat → Option α} {v : α} {i : Nat} (hi : f i = some v) : ∀ k, i < k → (∀ j, i < j → j < k → f j = none) → ((List.range k).filterMap f).getLast? = some v
  | 0, h, _ => by omega
  | k + 1, h, hn => by
    rw [List.range_succ, List.filterMap_append]
    rcases Nat.lt_or_ge i k with c | c
    · have : f k = none := hn k c (Nat.lt_succ_self k)
      simp only [List.filterMap_cons, List.filterMap_nil, this, List.append_nil]
      exact last_filt hi k c fun j a b => hn j a (by omega)
    · have : i = k := by omega
      subst this
      simp [hi]
theorem none_filt {α : Type} {f : Nat → Option α} : ∀ k, (∀ j, j < k → f j = none) → (List.range k).filterMap f = []
  | 0, _ => rfl
  | k + 1, h => by
    rw [List.range_succ, List.filterMap_append, none_filt k fun j a => h j (by omega)]
    simp [h k (Nat.lt_succ_self k)]
theorem two_pow_le_iff {n e : Nat} (hn : n ≠ 0) : 2 ^ e ≤ n ↔ e ≤ n.log2 := by
  rw [Nat.le_log2 hn]
theorem greatest_of {n e : Nat} (hn : 2 ≤ n) (he : 2 ≤ e) (h1 : 2 ^ e ≤ n) (h2 : (rootN n e) ^ e = n) (h3 : ∀ e', e < e' → 2 ^ e' ≤ n → (rootN n e') ^ e' ≠ n) : greatestN n = (rootN n e, e) := by
  have hl : e ≤ n.log2 := (two_pow_le_iff (by omega)).mp h1
  unfold greatestN waysN
  rw [if_neg (by omega), if_neg (by omega)]
  unfold waysTo
  have hf : wayAt n (e - 2 + 2) = some (rootN n e, e) := by
    rw [show e - 2 + 2 = e by omega]
    unfold wayAt
    rw [if_pos h2]
  rw [last_filt (f := fun i => wayAt n (i + 2)) (i := e - 2) hf (n.log2 - 1) (by omega) fun j a b => ?_]
  · rfl
  · show wayAt n (j + 2) = none
    unfold wayAt
    rw [if_neg (h3 _ (by omega) ((two_pow_le_iff (by omega)).mpr (by omega)))]
theorem greatest_none {n : Nat} (hn : 2 ≤ n) (h : ∀ e, 2 ≤ e → 2 ^ e ≤ n → (rootN n e) ^ e ≠ n) : greatestN n = (n, 1) := by
  unfold greatestN waysN
  rw [if_neg (by omega), if_neg (by omega)]
  unfold waysTo
  rw [none_filt]
  · rfl
  · intro j hj
    show wayAt n (j + 2) = none
    unfold wayAt
    rw [if_neg (h _ (by omega) ((two_pow_le_iff (by omega)).mpr (by omega)))]
def zz (p : Nat × Nat) : Int × Int := ((p.1 : Int), (p.2 : Int))
/-! ### a power factor by factor, stopped beyond the number -/
theorem more_end {n x e j : Nat} (hx : 1 ≤ x) (hj : j ≤ e) (h : j = e ∨ n < x ^ j) : (x ^ j ≤ n ↔ x ^ e ≤ n) := by
  rcases h with rfl | h
  · exact Iff.rfl
  · have : x ^ j ≤ x ^ e := Nat.pow_le_pow_right hx hj
    constructor <;> omega
end Pn
/-! ListVals: list(d.values()). -/
namespace LiV
open PySem PySem.Spec PyProof.Rows L2
def rValsL : V → Hp → VK → Prop := fun x H Q => ∃ (d : Addr) (kvs : List (Key × V)), x = .ref d ∧ H d = some (.dK kvs) ∧
  ∀ p : Addr, H p = none → Q (.ref p) (upd H p (.lst (kvs.map fun kv => kv.2)))
def tListVals (te : TE) : TE := fun σ H Q => te σ H fun x H1 => rValsL x H1 Q
section
variable {X : Cx} {e : Expr} {te : TE} {p apos cpos pos : Pos}
/-- list(e.values()) -/
theorem pe_listVals (hc : X.calm = true) (he : PE X e te) (hg : Gl X "list") (hm : X.mg "list" = none) (hv : bootBuiltins "list" = some (.type "list")) (hbase : attributeBase e "values" X.env (eval e X.env) = eval e X.env := by rfl) (hline : (apos.endLine == cpos.line) = true := by rfl)
    (hs : starEach [.Call (.Attribute e "values" apos) [] [] cpos] X.env = (false, eval (.Call (.Attribute e "values" apos) [] [] cpos) X.env) :: starEach [] X.env := by rfl) :
    PE X (.Call (.Name "list" p) [.Call (.Attribute e "values" apos) [] [] cpos] [] pos) (tListVals te) := by
  refine ⟨fun pins s σ H Q I hq => ?_⟩
  refine wpAny_Call_Name_kw (ld_blt I hg hm hv ?_)
  refine PyProof.Rows.callWith_type1 ?_ hs rfl
  rw [hs]
  show wpAny _ _ (spliced ((false, eval (.Call (.Attribute e "values" apos) [] [] cpos) X.env) :: backTo pos (starEach [] X.env))) _ _ s
  refine Calls.spliced_cons ?_
  refine wpAny_Call_method (T := "dict") (id := "dict.values") hbase rfl hline F.plainAttrs_dict F.slot_dict_values F.type_dict_values (thn (he.run pins s σ H _ I hq) fun u s1 ⟨x, H1, I1, rx, d, kvs, ex, hd, q⟩ => ?_)
  subst ex
  obtain rfl : u = Value.ref d := rx
  obtain ⟨hz, hs0, vs, kv, hdo⟩ := I1.hok d _ hd
  obtain ⟨ep, hat⟩ := hdo.dictAt
  have lk : kvs.length = vs.length := Paired.length kv
  have I2 : Inv X pins σ H1 { s1 with heap := s1.heap.push { cls := .type "dict_values", data := .fields #[.ref d] } } := I1.kept (t' := s1.toks) fun b ob q => Heap.get?_push_of_some _ q
  refine ⟨hdo.typeIs, hdo.mapOf.noDict, ?_⟩
  show wpAny _ _ (callWith cpos (.builtin "dict.values") [.ref d] [] []) _ X.xe s1
  refine method_meetsIn F.slot_dict_values F.entry_dict_values rfl (PySem.evalArgs_none ⟨rfl, hdo.typeIs, F.args_dict_values_1 _, _, meets_dict_values (mixKind X.prog X.w) d hs0, ⟨vs, hdo⟩, ?_⟩)
  refine Calls.spliced_nil ?_
  refine PySem.W.kdl_call (PySem.W.kdl_values (knd := mixKind X.prog X.w) (d := d) (kvs := vs) (ep := ep)) (I1.ok.hd hc) ⟨⟨_, Heap.get?_push_size _ rfl, rfl, rfl⟩, hat.push _⟩ (by rw [← lk]; exact hz) fun h' tk acc' c' hk hS hacc => ?_
  have e0 : ∀ o : Obj, (s1.heap.push o).objs.size = s1.heap.objs.size + 1 := fun o => Heap.size_push _ _
  refine ⟨.ref (s1.heap.push { cls := .type "dict_values", data := .fields #[.ref d] }).objs.size, upd H1 (s1.heap.push { cls := .type "dict_values", data := .fields #[.ref d] }).objs.size (.lst (kvs.map fun kv => kv.2)), I2.laid hk (Nat.le_refl _) (show ObjOk X.prog X.w _ _ _ (.lst (kvs.map fun kv => kv.2)) from ⟨?_, acc'.toList, c', ?_, ?_⟩), rfl, q _ (I2.hok.fresh (Nat.le_refl _))⟩
  · rw [List.length_map]; exact hz
  · have el : acc'.toList.length = acc'.size := by simp
    refine vals_of_at (by rw [List.length_map, el, hacc.1, lk]) fun j x w h1 h2 => ?_
    obtain ⟨k, hky⟩ := hacc.2 j w (by rw [← Array.getElem?_toList]; exact h2)
    obtain ⟨x', g1, g2⟩ := KV.at' kv hky
    have e2 : (kvs.map fun kv => kv.2)[j]? = some x' := by rw [List.getElem?_map, g1] <;> rfl
    rw [e2] at h1
    cases h1
    exact g2
  · rw [Array.toArray_toList]; exact hS
end
end LiV

namespace Pn
open PySem PySem.Spec PyProof.Rows L2 LiV
/-! ### dicts by whole numbers -/
section
variable {σ : L2.St} {H : Hp} {Q : VK} {D : Ends} {K : PySem.W.Frag} {td ty tv tx te : TE}
theorem w_dget : tDGet td ty σ H Q = td σ H fun x H1 => ty σ H1 fun y H2 => ∃ a v, x = .ref a ∧ DGet H2 a y (some v) ∧ Q v H2 := rfl
theorem w_dget2 : tDGet2 td ty tx σ H Q = td σ H fun x H1 => ∃ a, x = .ref a ∧ IsD H1 a ∧ ty σ H1 fun y H2 => tx σ H2 fun z H3 => ∃ o, DGet H3 a y o ∧ Q (o.getD z) H3 := rfl
theorem w_dput : sDPut td ty tv D σ H = tv σ H fun v H1 => td σ H1 fun x H2 => ty σ H2 fun y H3 => ∃ a H4, x = .ref a ∧ DPut H3 a y v H4 ∧ D.nx σ H4 := rfl
theorem w_dnew : tDNewK σ H Q = ∀ p, H p = none → Q (.ref p) (upd H p (.dK [])) := rfl
theorem w_lv : tListVals te σ H Q = te σ H fun x H1 => ∃ (d : Addr) (kvs : List (Key × V)), x = .ref d ∧ H1 d = some (.dK kvs) ∧ ∀ p : Addr, H1 p = none → Q (.ref p) (upd H1 p (.lst (kvs.map fun kv => kv.2))) := rfl
end
/-- the dict with the keys ks, each with what g tells -/
def dN (ks : List Nat) (g : Nat → V) : List (Key × V) := ks.map fun k : Nat => ((Sum.inl (k : Int) : Key), g k)
theorem dN_val (g : Nat → V) (m : Nat) : ∀ ks : List Nat, valV (dN ks g) (Sum.inl (m : Int)) = if m ∈ ks then some (g m) else none
  | [] => rfl
  | k :: ks => by
    show valV (((Sum.inl (k : Int) : Key), g k) :: dN ks g) (Sum.inl (m : Int)) = _
    by_cases e : k = m
    · subst e
      rw [valV_pos rfl, if_pos (by simp)]
    · rw [valV_neg (fun z => e (by injection z with z; omega)), dN_val g m ks]
      have : (m ∈ k :: ks) = (m ∈ ks) := by
        simp
        intro z
        exact absurd z.symm e
      simp only [this]
theorem dN_get {H : Hp} {a : Addr} {ks : List Nat} {g : Nat → V} {m : Nat} (h : H a = some (.dK (dN ks g))) : DGet H a (.int (m : Int)) (if m ∈ ks then some (g m) else none) := by
  have := DGet.k (k := (Sum.inl (m : Int) : Key)) h
  rw [dN_val] at this
  exact this
theorem dN_at {H : Hp} {a : Addr} {ks : List Nat} {g : Nat → V} {m : Nat} (h : H a = some (.dK (dN ks g))) (hm : m ∈ ks) : DGet H a (.int (m : Int)) (some (g m)) := by
  have := dN_get (m := m) h
  rwa [if_pos hm] at this
theorem dN_put {H : Hp} {a : Addr} {ks : List Nat} {g : Nat → V} {m : Nat} (h : H a = some (.dK (dN ks g))) (hm : m ∉ ks) (hl : ks.length < sizeLine) : DPut H a (.int (m : Int)) (g m) (upd H a (.dK (dN (ks ++ [m]) g))) := by
  have e : dN (ks ++ [m]) g = putK (dN ks g) (Sum.inl (m : Int)) (g m) := by
    rw [putK_new (g m) (by rw [dN_val, if_neg hm])]
    simp [dN]
  rw [e]
  exact DPut.k (k := (Sum.inl (m : Int) : Key)) h (by simpa [dN] using hl)
theorem dN_vals (ks : List Nat) (g : Nat → V) : (dN ks g).map (fun kv => kv.2) = ks.map g := by simp [dN]
theorem dN_len (ks : List Nat) (g : Nat → V) : (dN ks g).length = ks.length := by simp [dN]
theorem w_isB {x y : V} {H : Hp} {Q : VK} : rIsB x y H Q = ∃ a b : Bool, x = .bl a ∧ y = .bl b ∧ Q (.bl (decide (a = b))) H := rfl
theorem w_notB {x y : V} {H : Hp} {Q : VK} : rNotB x y H Q = ∃ a b : Bool, x = .bl a ∧ y = .bl b ∧ Q (.bl (!decide (a = b))) H := rfl
/-! ### methods within a comprehension -/
theorem k_bm {X : Cx} {K : PySem.W.Frag} {e : Expr} {T : String} {r : V → List V → Hp → VK → Prop} {to : TE} {t : TA} (h : PE X e (tBM X.K T r to t)) (hk : X.K = K := by rfl) : PE X e (tBM K T r to t) := by
  subst hk
  exact h
theorem k_count {X : Cx} (K : PySem.W.Frag) (hk : X.K = K := by rfl) : MtR X "list.count" (rCntI K) := by
  subst hk
  exact mt_lcount
/-! ### xs[i] op= e of a list -/
theorem pget_list {X : Cx} (K : PySem.W.Frag) (h : X.K = K := by rfl) : PGet X (rIxL K) := by
  subst h
  intro pins s σ H o at' ov iv Q I ro ri hg
  obtain ⟨l, ys, k, z, rfl, rfl, hS, hA, hq⟩ := hg
  cases ro
  obtain ⟨tk, rfl⟩ := ri
  obtain ⟨raw, rel, isl, size⟩ := I.list hS
  obtain ⟨n, g1, g2, g3, g4, g5⟩ := atI_get hA
  obtain ⟨got, ge, gr⟩ := rel.get g2
  have len := rel.length
  have top := line63
  have done : EP X pins σ Q got s := ⟨z, H, I, gr, hq⟩
  by_cases neg : k < 0
  · have en : (k + (raw.toArray.size : Int)).toNat = n := by
      have g := g1
      rw [seqIndex_neg neg g4] at g
      rw [List.size_toArray, ← len]
      exact Option.some.inj g
    refine wpAny_getItem_list_neg isl.isList neg ?_ (by omega) ?_ done
    · rw [List.size_toArray]
      omega
    · rw [en]
      simpa using ge
  · have en : k.toNat = n := by
      have g := g1
      rw [seqIndex_of (by omega) g5] at g
      exact Option.some.inj g
    refine wpAny_getItem_list isl.isList (by omega) (by omega) ?_ done
    rw [en]
    simpa using ge
theorem w_augS {to ti te : TE} {tget : V → V → Hp → VK → Prop} {tip : TIp} {tset : TSet} {D : Ends} {σ : L2.St} {H : Hp} : tAugS to ti te tget tip tset D σ H = to σ H fun o H1 => ti σ H1 fun i H2 => tget o i H2 fun x H3 => te σ H3 fun y H4 => tip x y H4 fun z H5 => tset o i z H5 fun H6 => D.nx σ H6 := rfl
/-! ### comprehensions over ranges by steps -/
section
variable {σ : L2.St} {H : Hp} {Q : VK} {K : PySem.W.Frag} {te tl : TE} {tt : TT} {tr : TA} {g : TG} {vs : List Nat}
theorem lc_c {lo c : Int} {n : Nat} (f : Nat → Option V) (hl : n < sizeLine)
    (hs : ∀ (i : Nat) (H' : Hp), i < n → Same H H' → ∀ (N0 : Hp → Prop) (N1 : VK), (f i = none → ∀ H2, Same H' H2 → N0 H2) → (∀ y, f i = some y → ∀ H2, Same H' H2 → N1 y H2) →
      g (.int (lo + (i : Nat) * c)) (wipe σ vs) H' fun σ2 H2 => wipe σ2 vs = wipe σ vs ∧ tt σ2 H2 fun b H3 => if b = true then te σ2 H3 N1 else N0 H3)
    (q : ∀ D H', H D = none → Same H H' → H' D = some (.lst ((List.range n).filterMap f)) → Q (.ref D) H') : LJ (Itc lo c n) g tt te vs σ H Q := by
  intro D hD
  refine ⟨fun j left Hw => left + j = n ∧ Same H Hw ∧ Hw D = some (.lst ((List.range j).filterMap f)), ⟨n, Nat.add_zero n, same_new hD, by rw [upd_same]; simp⟩, fun j left Hw => ?_⟩
  rintro ⟨ej, p1, p2⟩
  rcases Nat.eq_zero_or_pos left with h0 | h0
  · left
    obtain rfl : j = n := by omega
    exact ⟨Nat.le_refl j, q D Hw hD p1 p2⟩
  · right
    have hj : j < n := by omega
    refine ⟨hj, fun Hz => Same H Hz ∧ Hz D = some (.lst ((List.range (j + 1)).filterMap f)), fun Hz hz => ⟨left - 1, by omega, by omega, hz.1, hz.2⟩, fun x Hy hy => ?_⟩
    obtain ⟨e1, e2⟩ := hy
    subst e1 e2
    have hlen : ((List.range j).filterMap f).length < sizeLine := Nat.lt_of_le_of_lt (List.length_filterMap_le _ _) (by rw [List.length_range]; omega)
    have hf1 : (List.range (j + 1)).filterMap f = (List.range j).filterMap f ++ (f j).toList := by
      rw [List.range_succ, List.filterMap_append]
      cases e : f j <;> simp [e]
    refine hs j Hy hj p1 _ _ (fun hf H2 k2 => ⟨p1.trans k2, ?_⟩) fun y hf H2 k2 => ⟨_, k2 _ _ p2, hlen, fun b o h => ?_, ?_⟩
    · rw [k2 _ _ p2, hf1, hf]
      simp
    · rw [upd_ne (ne_of_none h hD)]
      exact k2 _ _ (p1 _ _ h)
    · rw [upd_same, hf1, hf]
      rfl
end
/-! ### a comprehension over a dict's keys -/
section
variable {σ : L2.St} {H : Hp} {Q : VK} {K : PySem.W.Frag} {te tl td : TE} {tt : TT} {tr : TA} {g : TG} {vs : List Nat}
theorem w_lockE {t : TE} : tLockE t σ H Q = ∃ d u, H d = some u ∧ Mut (some u) ∧ ∀ od, t σ (upd H d (.frz od u)) fun v H' => H' d = some (.frz od u) ∧ Q v (upd H' d u) := rfl
theorem w_lcK : tLc (iKeys td) g tt te vs σ H Q = td σ H fun x H1 => ∃ d o, x = .ref d ∧ ((∃ kvs, H1 d = some (.frz o (.dK kvs)) ∧ LJ (Itk d o kvs) g tt te vs σ H1 Q) ∨ ∃ kvs, H1 d = some (.frz o (.dT kvs)) ∧ LJ (Itkt d o kvs) g tt te vs σ H1 Q) := rfl
theorem same_unlock {H0 H' : Hp} {d : Addr} {x u : HO} (s : Same (upd H0 d x) H') (h : H0 d = some u) : Same H0 (upd H' d u) := fun b o hb => by
  by_cases e : b = d
  · subst e
    rw [upd_same, ← h, hb]
  · rw [upd_ne e]
    exact s _ _ ((upd_ne e).trans hb)
theorem lc_k {d : Addr} {o : Obj} {kvs : List (Key × V)} (f : Key → Option V) (hx : H d = some (.frz o (.dK kvs))) (hl : kvs.length < sizeLine)
    (hs : ∀ (i : Nat) (k : Key) (v : V) (H' : Hp), kvs[i]? = some (k, v) → Same H H' → ∀ (N0 : Hp → Prop) (N1 : VK), (f k = none → ∀ H2, Same H' H2 → N0 H2) → (∀ y, f k = some y → ∀ H2, Same H' H2 → N1 y H2) →
      g (kV k) (wipe σ vs) H' fun σ2 H2 => wipe σ2 vs = wipe σ vs ∧ tt σ2 H2 fun b H3 => if b = true then te σ2 H3 N1 else N0 H3)
    (q : ∀ D H', H D = none → Same H H' → H' D = some (.lst ((kvs.map (·.1)).filterMap f)) → Q (.ref D) H') : LJ (Itk d o kvs) g tt te vs σ H Q := by
  intro D hD
  have hDd : d ≠ D := ne_of_none hx hD
  refine ⟨fun j left Hw => left + j = kvs.length ∧ Same H Hw ∧ Hw D = some (.lst (((kvs.map (·.1)).take j).filterMap f)), ⟨kvs.length, Nat.add_zero _, same_new hD, by rw [upd_same]; simp⟩, fun j left Hw => ?_⟩
  rintro ⟨ej, p1, p2⟩
  rcases Nat.eq_zero_or_pos left with h0 | h0
  · left
    have e : j = kvs.length := by omega
    refine ⟨⟨p1 _ _ hx, by omega⟩, q D Hw hD p1 ?_⟩
    rw [p2, List.take_of_length_le (by simp; omega)]
  · right
    have hj : j < kvs.length := by omega
    refine ⟨⟨p1 _ _ hx, hj⟩, fun Hz => Same H Hz ∧ Hz D = some (.lst (((kvs.map (·.1)).take (j + 1)).filterMap f)), fun Hz hz => ⟨left - 1, by omega, by omega, hz.1, hz.2⟩, fun x Hy hy => ?_⟩
    obtain ⟨e1, k, v, hk, e2⟩ := hy
    subst e1 e2
    have hk1 : (kvs.map (·.1))[j]? = some k := by rw [List.getElem?_map, hk]; rfl
    have hlen : (((kvs.map (·.1)).take j).filterMap f).length < sizeLine := Nat.lt_of_le_of_lt (Nat.le_trans (List.length_filterMap_le _ _) (by rw [List.length_take, List.length_map]; exact Nat.min_le_right _ _)) hl
    refine hs j k v Hy hk p1 _ _ (fun hf H2 k2 => ⟨p1.trans k2, ?_⟩) fun y hf H2 k2 => ⟨_, k2 _ _ p2, hlen, fun b o h => ?_, ?_⟩
    · rw [k2 _ _ p2, filt_take f hk1, hf]
      simp
    · rw [upd_ne (ne_of_none h hD)]
      exact k2 _ _ (p1 _ _ h)
    · rw [upd_same, filt_take f hk1, hf]
      rfl
/-- within the lock the dict still tells -/
theorem dN_atF {H : Hp} {a : Addr} {o : Obj} {ks : List Nat} {g : Nat → V} {m : Nat} (h : H a = some (.frz o (.dK (dN ks g)))) (hm : m ∈ ks) : DGet H a (.int (m : Int)) (some (g m)) := by
  refine .inl ⟨dN ks g, Sum.inl (m : Int), .inr ⟨o, h⟩, rfl, ?_⟩
  rw [dN_val, if_pos hm]
end
/-- the dict with one more, or one told anew -/
theorem dN_upd {H : Hp} {a : Addr} {ks : List Nat} {g : Nat → V} {v : V} {m : Nat} (h : H a = some (.dK (dN ks g))) (hl : ks.length < sizeLine) : DPut H a (.int (m : Int)) v (upd H a (.dK (dN (if m ∈ ks then ks else ks ++ [m]) fun k => if k = m then v else g k))) := by
  by_cases e : m ∈ ks
  · have e1 : dN ks (fun k => if k = m then v else g k) = putK (dN ks g) (Sum.inl (m : Int)) v := by
      unfold putK
      rw [valV_any, dN_val, if_pos e]
      simp only [Option.isSome_some, if_true]
      unfold dN
      rw [List.map_map]
      refine List.map_congr_left fun k hk => ?_
      show ((Sum.inl (k : Int) : Key), if k = m then v else g k) = if (Sum.inl (k : Int) : Key) = Sum.inl (m : Int) then ((Sum.inl (k : Int) : Key), v) else ((Sum.inl (k : Int) : Key), g k)
      by_cases c : k = m
      · subst c
        rw [if_pos rfl, if_pos rfl]
      · rw [if_neg c, if_neg fun z => c (by injection z with z; omega)]
    rw [if_pos e, e1]
    exact DPut.k (k := (Sum.inl (m : Int) : Key)) h (by simpa [dN] using hl)
  · rw [if_neg e]
    have e1 : dN (ks ++ [m]) (fun k => if k = m then v else g k) = putK (dN ks g) (Sum.inl (m : Int)) v := by
      rw [putK_new v (by rw [dN_val, if_neg e])]
      unfold dN
      rw [List.map_append]
      congr 1
      · refine List.map_congr_left fun k hk => ?_
        show ((Sum.inl (k : Int) : Key), if k = m then v else g k) = ((Sum.inl (k : Int) : Key), g k)
        rw [if_neg fun z : k = m => e (by rw [← z]; exact hk)]
      · simp
    rw [e1]
    exact DPut.k (k := (Sum.inl (m : Int) : Key)) h (by simpa [dN] using hl)
end Pn
namespace Pn
open PySem PySem.Spec PyProof.Rows L2
/-- a deck at a: the cells at l, how many are begun, what is left of one, how many were mixed (at most n), the sum -/
def Dk (H : Hp) (a l : Addr) (n : Nat) : Prop := ∃ (ns : List Int) (i x c s : Int), H a = some (.lst [.ref l, .int i, .int x, .int c, .int s]) ∧ l ≠ a ∧ H l = some (.lst (ns.map V.int)) ∧ ns.length ≤ 63 ∧ 0 ≤ i ∧ i ≤ ns.length ∧ 0 ≤ x ∧ 0 ≤ c ∧ c ≤ n
theorem Dk.mono {H : Hp} {a l : Addr} {n m : Nat} (h : Dk H a l n) (le : n ≤ m) : Dk H a l m := by
  obtain ⟨ns, i, x, c, s, h1, h2, h3, h4, h5, h6, h7, h8, h9⟩ := h
  exact ⟨ns, i, x, c, s, h1, h2, h3, h4, h5, h6, h7, h8, by omega⟩
/-- it stands where nothing of what was tracked changed -/
theorem Dk.same {H H' : Hp} {a l : Addr} {n : Nat} (h : Dk H a l n) (e : Same H H') : Dk H' a l n := by
  obtain ⟨ns, i, x, c, s, h1, h2, h3, h⟩ := h
  exact ⟨ns, i, x, c, s, e _ _ h1, h2, e _ _ h3, h⟩
theorem Dk.lst {H : Hp} {a l : Addr} {n : Nat} (h : Dk H a l n) : ∃ ys, H a = some (.lst ys) := by
  obtain ⟨ns, i, x, c, s, h1, _⟩ := h
  exact ⟨_, h1⟩
theorem Dk.ne {H : Hp} {a l p : Addr} {n : Nat} (h : Dk H a l n) (hp : H p = none) : p ≠ a := by
  obtain ⟨_, h1⟩ := h.lst
  exact (ne_of_none h1 hp).symm
theorem Dk.neL {H : Hp} {a l p : Addr} {n : Nat} (h : Dk H a l n) (hp : H p = none) : p ≠ l := by
  obtain ⟨ns, i, x, c, s, h1, h2, h3, h⟩ := h
  exact (ne_of_none h3 hp).symm
/-- where something apart from the deck and its cells is changed -/
theorem Dk.upd {H : Hp} {a l p : Addr} {n : Nat} {o : HO} (h : Dk H a l n) (n1 : p ≠ a) (n2 : p ≠ l) : Dk (upd H p o) a l n := by
  obtain ⟨ns, i, x, c, s, h1, h2, h3, h⟩ := h
  exact ⟨ns, i, x, c, s, (upd_ne n1.symm).trans h1, h2, (upd_ne n2.symm).trans h3, h⟩
end Pn
/-! PnT: texts of numbers; a module's constants. -/
namespace Pn
open PySem PySem.Spec PyProof.Rows L2 TL
def GS (mg : PySem.Str → Option Value) (x s : PySem.Str) : Prop := ∃ t, mg x = some (.str s t)
def GI (mg : PySem.Str → Option Value) (x : PySem.Str) (i : Int) : Prop := ∃ t, mg x = some (.int i t)
theorem k_globS {X : Cx} {x s : PySem.Str} {pos : Pos} (h : GS X.mg x s) (hg : Gl X x) (hd : (x == ("__debug__" : PySem.Str)) = false := by decide) : PE X (.Name x pos) (tC (.str s)) := by
  obtain ⟨t, h⟩ := h
  exact pe_glob hg h ⟨t, rfl⟩ hd
theorem k_globI {X : Cx} {x : PySem.Str} {i : Int} {pos : Pos} (h : GI X.mg x i) (hg : Gl X x) (hd : (x == ("__debug__" : PySem.Str)) = false := by decide) : PE X (.Name x pos) (tC (.int i)) := by
  obtain ⟨t, h⟩ := h
  exact pe_glob hg h ⟨t, rfl⟩ hd
/-- the text of a number -/
def sN (n : Nat) : PySem.Str := PySem.Str.ofString (toString ((n : Nat) : Int))
theorem tl_sN (n : Nat) : tl (sN n) = numL n := tl_num n
theorem str_ext {x y : PySem.Str} (h : tl x = tl y) : x = y := by
  rw [← mk_tl x, ← mk_tl y, h]
theorem str_zero : ("0" : PySem.Str) = ⟨#[48]⟩ := str_ext (by decide +kernel)
theorem str_hat : ("^" : PySem.Str) = ⟨#[94]⟩ := str_ext (by decide +kernel)
theorem len_is (x : PySem.Str) : x.length = (tl x).length := Array.length_toList.symm
section
variable {H : Hp} {Q : VK} {z : PySem.Str}
theorem r_ixS {i : Nat} {c : Nat} (hz : z.length ≤ sizeLine) (h : (tl z)[i]? = some c) (q : Q (.str ⟨#[c]⟩) H) : rIxS (.str z) (.int (i : Int)) H Q := ⟨z, (i : Int), c, rfl, rfl, hz, atI_nat h, q⟩
theorem r_slS {lo hi : Option Int} (hz : z.length ≤ sizeLine) (q : Q (.str (cutS z lo hi)) H) : rSlS (.str z) lo hi H Q := ⟨z, rfl, hz, q⟩
end
theorem tl_cut (z : PySem.Str) {i j : Nat} (hi : i ≤ z.length) (hj : j ≤ z.length) : tl (cutS z (some (i : Int)) (some (j : Int))) = ((tl z).drop i).take (j - i) := by
  unfold cutS
  rw [HT.sIx_nat, HT.sIx_nat, Nat.min_eq_left hi, Nat.min_eq_left hj]
theorem tl_cutTo (z : PySem.Str) {j : Nat} (hj : j ≤ z.length) : tl (cutS z none (some (j : Int))) = (tl z).take j := by
  unfold cutS
  rw [HT.sIx_none, HT.sIx_nat, Nat.min_eq_left hj]
  simp
/-- one sign -/
theorem one_eq (c d : Nat) : decide ((.str ⟨#[c]⟩ : V) = .str ⟨#[d]⟩) = decide (c = d) := by
  refine decide_eq_decide.mpr ⟨fun h => ?_, fun h => by rw [h]⟩
  injection h with h
  have := congrArg tl h
  simpa using this
theorem fig_mem (c : Nat) : c ∈ tl ("0123456789" : PySem.Str) ↔ 48 ≤ c ∧ c ≤ 57 := by
  have e : tl ("0123456789" : PySem.Str) = [48, 49, 50, 51, 52, 53, 54, 55, 56, 57] := by decide +kernel
  rw [e]
  simp
  omega
/-- the first figure is a nought of 0 alone -/
theorem numL_head : ∀ n : Nat, (numL n)[0]? = some 48 → n = 0 := by
  intro n
  induction n using Nat.strongRecOn with
  | _ n ih =>
    intro h
    by_cases c : n < 10
    · rw [numL_lt c] at h
      simp at h
      omega
    · rw [numL_step (by omega)] at h
      rw [List.getElem?_append_left (List.length_pos_iff.mpr (numL_ne _))] at h
      have := ih (n / 10) (by omega) h
      omega
theorem numL_zero : numL 0 = [48] := numL_lt (by decide)
/-- what int tells of figures -/
theorem int_of {z : PySem.Str} {n : Nat} (h : tl z = numL n) (hl : (numL n).length ≤ 4300) : PySem.intText? z = some (n : Int) := by
  have e : z = sN n := str_ext (h.trans (tl_sN n).symm)
  rw [e]
  exact int_num hl
theorem numL_short {n : Nat} (h : n < 2 ^ 1000) : (numL n).length ≤ 400 := numL_len (by decide) (Nat.lt_of_lt_of_le h (by decide +kernel))
end Pn
/-! PnL: str of a whole number of up to 4300 figures. -/
namespace Pn
open PySem PySem.Spec PyProof.Rows L2 TL
/-- nothing has set the line on figures -/
def NoDig (K : PySem.W.Frag) : Prop := PySem.W.nsIn K cStatics "sys.int_max_str_digits" = some none
/-- a name that a written space lacks is not in it -/
theorem ns_lacks {K : PySem.W.Frag} {h : Heap} {a : Addr} {f : PySem.Str → Option Value} {x : PySem.Str} (inn : K.In h) (sp : h.Ns a f) (lk : PySem.W.nsIn K a x = some none) : f x = none := by
  obtain ⟨ob, ents, pe, at1, dat, _, tells⟩ := sp
  unfold PySem.W.nsIn at lk
  split at lk
  · rename_i cl di en2 pe2 sl hit
    have same := inn _ _ hit
    rw [at1] at same
    injection same with same
    subst same
    injection dat with d1 d2
    subst d1
    rw [← tells x]
    cases hfind : en2.toList.find? (·.key.isStr x) with
    | some v =>
      rw [hfind] at lk
      cases lk
    | none =>
      unfold nsFind findBy
      rw [← Array.find?_toList, hfind] <;> rfl
  · cases lk
theorem noDigits {X : Cx} {pins : List (Addr × Obj)} {σ : L2.St} {H : Hp} {s : Shared} (I : Inv X pins σ H s) (hd : NoDig X.K) : s.heap.NoDigits := by
  obtain ⟨mc, hns, hl⟩ := I.nolimit
  exact ⟨mc, hns, ns_lacks I.kIn hns hd⟩
theorem call_strN {X : Cx} (K : PySem.W.Frag) (hd : NoDig K) (hk : X.K = K := by rfl) (calm : X.calm = true := by rfl) : CallR X (.type "str") (fun xs H Q => ∃ i : Int, xs = [.int i] ∧ i.natAbs < 10 ^ 4300 ∧ Q (.str (toString i)) H) := by
  subst hk
  intro pins s σ H xs us Q I r h
  obtain ⟨i, rfl, hz, q⟩ := h
  obtain ⟨u, rfl, t, rfl⟩ := vals1 r
  refine PyProof.Rows.str_of_int_or (I.ok.hd calm) (noDigits I hd) (fun _ => ⟨.str _, H, I.tok _, ⟨_, rfl⟩, q⟩) fun hge => ?_
  exact absurd hge (Nat.not_le_of_lt hz)
end Pn
/-! PnM: one sign, so many times; figures sixty at a time. -/
namespace Pn
open PySem PySem.Spec PyProof.Rows L2 TL
theorem fold_one (c : Nat) : ∀ (n : Nat) (acc : Array Nat), (List.replicate n #[c]).foldl (· ++ ·) acc = acc ++ (List.replicate n c).toArray
  | 0, acc => by simp
  | n + 1, acc => by
    rw [List.replicate_succ, List.foldl_cons, fold_one c n, List.replicate_succ]
    refine Array.ext' ?_
    simp [List.replicate_append_replicate]
theorem op_repS {X : Cx} : OpR X (binaryOp .Mult) (fun x y H Q => ∃ (c n : Nat), x = .str ⟨#[c]⟩ ∧ y = .int (n : Int) ∧ n ≤ 1000 ∧ Q (.str ⟨(List.replicate n c).toArray⟩) H) := by
  intro pins s σ H x y v u Q I rx ry h
  obtain ⟨c, n, rfl, rfl, hn, q⟩ := h
  obtain ⟨t, rfl⟩ := rx
  obtain ⟨t', rfl⟩ := ry
  have hlen : (⟨#[c]⟩ : PySem.Str).length = 1 := rfl
  refine PySem.P.mul_str ?_ ?_ ?_ ?_
  · rw [decide_eq_false (by omega), decide_eq_false (by omega)]
    rfl
  · intro h1 _
    rw [hlen]
    have h3 : (1000 : Int) ≤ (2 ^ 63 - 1) / (n : Int) := (Int.le_ediv_iff_mul_le (by omega)).mpr (by omega)
    omega
  · intro _ _
    rw [hlen, Nat.one_mul, Int.toNat_natCast]
    exact decide_eq_false (Nat.not_lt_of_le (size_le' (by omega)))
  · rcases (by omega : n = 0 ∨ n = 1 ∨ 2 ≤ n) with rfl | rfl | h2
    · rw [if_pos (by decide)]
      exact ⟨by decide, ⟨.str _, H, I.tok _, ⟨_, rfl⟩, q⟩⟩
    · rw [if_neg (by decide), if_pos (by rfl)]
      exact ⟨.str _, H, I, ⟨_, rfl⟩, q⟩
    · rw [if_neg (by omega), if_neg (by rw [hlen]; simp; omega), Int.toNat_natCast, fold_one]
      have e : (#[] ++ (List.replicate n c).toArray : Array Nat) = (List.replicate n c).toArray := by simp
      rw [e]
      refine ⟨?_, ⟨.str _, H, I.tok _, ⟨_, rfl⟩, q⟩⟩
      show (List.replicate n c).toArray.size ≤ sizeLine
      rw [List.size_toArray, List.length_replicate]
      exact size_le' (by omega)
/-! ### figures -/
/-- k figures of b, noughts ahead -/
def padL : Nat → Nat → List Nat
  | 0, _ => []
  | k + 1, b => padL k (b / 10) ++ [48 + b % 10]
theorem padL_len : ∀ k b, (padL k b).length = k
  | 0, _ => rfl
  | k + 1, b => by rw [padL, List.length_append, padL_len k]; rfl
theorem padL_0 : ∀ k, padL k 0 = List.replicate k 48
  | 0 => rfl
  | k + 1 => by rw [padL, padL_0 k, List.replicate_succ']
theorem numL_pad : ∀ (k a b : Nat), 1 ≤ a → b < 10 ^ k → numL (a * 10 ^ k + b) = numL a ++ padL k b
  | 0, a, b, ha, hb => by
    have : b = 0 := by
      rw [Nat.pow_zero] at hb
      omega
    subst this
    simp [padL]
  | k + 1, a, b, ha, hb => by
    have hp : 1 ≤ 10 ^ k := Nat.pow_pos (by decide)
    have e1 : 10 ^ (k + 1) = 10 ^ k * 10 := Nat.pow_succ 10 k
    have hge : 10 ≤ a * 10 ^ (k + 1) + b := by
      have : 1 * 10 ≤ a * 10 ^ (k + 1) := Nat.mul_le_mul ha (by rw [e1]; omega)
      omega
    have e2 : (a * 10 ^ (k + 1) + b) / 10 = a * 10 ^ k + b / 10 := by
      rw [e1, ← Nat.mul_assoc]
      omega
    have e3 : (a * 10 ^ (k + 1) + b) % 10 = b % 10 := by
      rw [e1, ← Nat.mul_assoc]
      omega
    rw [numL_step hge, e2, e3, numL_pad k a (b / 10) ha (by omega), padL, List.append_assoc]
theorem pad_is : ∀ (k b : Nat), 1 ≤ k → b < 10 ^ k → padL k b = List.replicate (k - (numL b).length) 48 ++ numL b ∧ (numL b).length ≤ k
  | 0, _, h, _ => by omega
  | k + 1, b, _, hb => by
    by_cases c : b < 10
    · rw [padL, Nat.mod_eq_of_lt c, Nat.div_eq_of_lt c, padL_0, numL_lt c]
      exact ⟨rfl, by simp⟩
    · have hk : 1 ≤ k := by
        rcases Nat.eq_zero_or_pos k with z | z
        · subst z
          simp at hb
          omega
        · exact z
      have e1 : 10 ^ (k + 1) = 10 ^ k * 10 := Nat.pow_succ 10 k
      obtain ⟨h1, h2⟩ := pad_is k (b / 10) hk (by omega)
      have e4 : (numL (b / 10) ++ [48 + b % 10]).length = (numL (b / 10)).length + 1 := by simp
      rw [padL, h1, numL_step (n := b) (by omega), e4, show k + 1 - ((numL (b / 10)).length + 1) = k - (numL (b / 10)).length by omega, List.append_assoc]
      exact ⟨rfl, by omega⟩
/-- the figures of a number, sixty behind -/
theorem numL_60 {m : Nat} (h : 10 ^ 60 ≤ m) : numL m = numL (m / 10 ^ 60) ++ (List.replicate (60 - (numL (m % 10 ^ 60)).length) 48 ++ numL (m % 10 ^ 60)) ∧ (numL (m % 10 ^ 60)).length ≤ 60 := by
  have hb : m % 10 ^ 60 < 10 ^ 60 := Nat.mod_lt _ (by decide)
  obtain ⟨h1, h2⟩ := pad_is 60 (m % 10 ^ 60) (by decide) hb
  refine ⟨?_, h2⟩
  rw [← h1, ← numL_pad 60 (m / 10 ^ 60) _ (Nat.div_pos h (by decide)) hb, Nat.mul_comm, Nat.div_add_mod]
end Pn
/-! PnF: texts that write numbers, and those that don't: the places of their faults. -/
namespace Pn
open PySem PySem.Spec PyProof.Rows L2 TL
def dg (c : Nat) : Bool := decide (48 ≤ c ∧ c ≤ 57)
/-- so many figures stand from a place on -/
def runN (t : List Nat) (f : Nat) : Nat := ((t.drop f).takeWhile dg).length
def badN (t : List Nat) (f : Nat) : Prop := runN t f = 0 ∨ (t[f]? = some 48 ∧ 1 < runN t f)
instance (t : List Nat) (f : Nat) : Decidable (badN t f) := inferInstanceAs (Decidable (_ ∨ _))
def valN (l : List Nat) : Nat := l.foldl (fun a c => 10 * a + (c - 48)) 0
inductive Due where
  | num (n : Nat)
  | no (p : Nat)
/-- what a text writes, or the place where it stops to -/
def dueN (t : List Nat) : Due :=
  if badN t 0 then .no 0
  else if runN t 0 = t.length then .num (valN t)
  else if t[runN t 0]? ≠ some 94 then .no (runN t 0)
  else if badN t (runN t 0 + 1) then .no (runN t 0 + 1)
  else if runN t 0 + 1 + runN t (runN t 0 + 1) < t.length then .no (runN t 0 + 1 + runN t (runN t 0 + 1))
  else if 200 < valN (t.drop (runN t 0 + 1)) then .no (runN t 0 + 1)
  else .num (valN (t.take (runN t 0)) ^ valN (t.drop (runN t 0 + 1)))
theorem run_le (t : List Nat) (f : Nat) : f + runN t f ≤ max f t.length := by
  have h : runN t f ≤ (t.drop f).length := (List.takeWhile_sublist _).length_le
  rw [List.length_drop] at h
  omega
theorem tw_at (p : Nat → Bool) : ∀ (u : List Nat) (j : Nat), j ≤ (u.takeWhile p).length → ∀ c, u[j]? = some c → p c = decide (j < (u.takeWhile p).length)
  | [], _, _, _, h => by simp at h
  | a :: u, j, hj, c, h => by
    rw [List.takeWhile_cons] at hj ⊢
    by_cases pa : p a = true
    · rw [if_pos pa] at hj ⊢
      cases j with
      | zero =>
        simp at h
        subst h
        simp [pa]
      | succ j =>
        have := tw_at p u j (by simpa using hj) c (by simpa using h)
        rw [this]
        simp
    · rw [if_neg pa] at hj ⊢
      have : j = 0 := by simpa using hj
      subst this
      simp at h
      subst h
      simpa using pa
theorem run_at {t : List Nat} {f j c : Nat} (hj : j ≤ runN t f) (h : t[f + j]? = some c) : dg c = decide (j < runN t f) :=
  tw_at dg (t.drop f) j hj c (by rw [List.getElem?_drop]; exact h)
theorem run_take (t : List Nat) (f : Nat) : (t.drop f).take (runN t f) = (t.drop f).takeWhile dg := by
  have h : (t.drop f).takeWhile dg <+: t.drop f := List.takeWhile_prefix _
  exact (List.prefix_iff_eq_take.mp h).symm
theorem val_snoc (l : List Nat) (c : Nat) : valN (l ++ [c]) = 10 * valN l + (c - 48) := by
  unfold valN
  rw [List.foldl_append]
  rfl
/-- figures without a nought ahead are those of their number -/
theorem val_is : ∀ (n : Nat) (l : List Nat), l.length = n → l ≠ [] → (∀ c ∈ l, dg c = true) → (l.length = 1 ∨ l[0]? ≠ some 48) → l = numL (valN l)
  | 0, l, hl, h0, _, _ => by
    cases l with
    | nil => exact absurd rfl h0
    | cons a l => simp at hl
  | n + 1, l, hl, h0, hd, h1 => by
    obtain ⟨l', c, rfl⟩ : ∃ l' c, l = l' ++ [c] := ⟨l.dropLast, l.getLast h0, (List.dropLast_concat_getLast h0).symm⟩
    rw [val_snoc]
    have hc := of_decide_eq_true (hd c (by simp))
    have hl' : l'.length = n := by simpa using hl
    cases hn : n with
    | zero =>
      have : l' = [] := List.length_eq_zero_iff.mp (by omega)
      subst this
      rw [show 10 * valN [] + (c - 48) = c - 48 from by simp [valN], numL_lt (by omega)]
      simp
      omega
    | succ m =>
      have hne : l' ≠ [] := fun e => by
        subst e
        simp at hl'
        omega
      have hlen : (l' ++ [c]).length = l'.length + 1 := by simp
      have hh : (l' ++ [c])[0]? = l'[0]? := List.getElem?_append_left (by omega)
      have hne2 : l'[0]? ≠ some 48 := by
        rcases h1 with h1 | h1
        · rw [hlen] at h1
          omega
        · rwa [hh] at h1
      have ih := val_is n l' hl' hne (fun x hx => hd x (List.mem_append_left _ hx)) (.inr hne2)
      have hv : 1 ≤ valN l' := Nat.pos_of_ne_zero fun e => by
        rw [e, numL_zero] at ih
        rw [ih] at hne2
        exact hne2 rfl
      rw [numL_step (by omega), show (10 * valN l' + (c - 48)) / 10 = valN l' by omega, show 48 + (10 * valN l' + (c - 48)) % 10 = c by omega, ← ih]
/-- a good run writes its number -/
theorem run_num {t : List Nat} {f : Nat} (h : ¬ badN t f) : (t.drop f).take (runN t f) = numL (valN ((t.drop f).take (runN t f))) ∧ 1 ≤ runN t f := by
  have h1 : runN t f ≠ 0 := fun e => h (.inl e)
  refine ⟨?_, by omega⟩
  have hl : ((t.drop f).takeWhile dg).length = runN t f := rfl
  rw [run_take]
  refine val_is _ _ rfl (fun e => h1 (by rw [← hl, e]; rfl)) (fun c hc => List.all_eq_true.mp List.all_takeWhile c hc) ?_
  by_cases c : 1 < runN t f
  · refine .inr fun e => h (.inr ⟨?_, c⟩)
    rw [← run_take, List.getElem?_take_of_lt (by omega), List.getElem?_drop] at e
    exact e
  · exact .inl (by omega)
theorem val_lt : ∀ (l : List Nat), (∀ c ∈ l, dg c = true) → valN l < 10 ^ l.length := by
  intro l
  induction hn : l.length generalizing l with
  | zero =>
    intro _
    have : l = [] := List.length_eq_zero_iff.mp hn
    subst this
    decide
  | succ n ih =>
    intro hd
    have h0 : l ≠ [] := fun e => by
      subst e
      simp at hn
    obtain ⟨l', c, rfl⟩ : ∃ l' c, l = l' ++ [c] := ⟨l.dropLast, l.getLast h0, (List.dropLast_concat_getLast h0).symm⟩
    have hc := of_decide_eq_true (hd c (by simp))
    have := ih l' (by simpa using hn) fun x hx => hd x (List.mem_append_left _ hx)
    rw [val_snoc, Nat.pow_succ]
    omega
theorem run_dg {t : List Nat} {f : Nat} : ∀ c ∈ (t.drop f).take (runN t f), dg c = true := fun c hc => by
  rw [run_take] at hc
  exact List.all_eq_true.mp List.all_takeWhile c hc
/-- a sign found in the figures -/
theorem find_dg (c : Nat) : decide ((0 : Int) ≤ PySem.Txt.find "0123456789" ⟨#[c]⟩) = dg c := by
  have h1 := PySem.StrLaws.found_one ("0123456789" : PySem.Str) c
  have h2 : decide (c ∈ tl ("0123456789" : PySem.Str)) = dg c := decide_eq_decide.mpr (fig_mem c)
  rw [← h2]
  refine Eq.trans ?_ h1
  unfold PySem.Txt.find
  split
  · rename_i e
    rw [e]
    simp
  · rename_i e
    rw [e]
    simp
end Pn
/-! PnO: objects of a class, loops over a dict's pairs and values, dicts compared with none. -/
namespace Pn
open PySem PySem.Spec PyProof.Rows L2
/-- the class of this name, as the top has made it; these are names of fields -/
structure KCl (K : PySem.W.Frag) (x : PySem.Str) (as : List PySem.Str) (C : Addr) : Prop where
  ns : PySem.W.nsIn K mainGlobals x = some (some (.ref C))
  cl : Cls K C
  no : ∀ a, a ∈ as → NoAttr K C a
/-- a method that stands in it, with its promise -/
structure FnM (P : Program) (w : World) (K : PySem.W.Frag) (mg : PySem.Str → Option Value) (base : Heap) (CX : CXT) (k : Nat) (x : PySem.Str) (as : List PySem.Str) (m : PySem.Str) (ps : List PySem.Str) (sp : Sp) : Prop where
  ex : ∃ (C f : Addr) (fd : FuncData), KCl K x as C ∧ Meth K C m f ∧ Binds K fd ps [] ∧ FnOk P w K mg base CX k f fd ps sp
/-- how one is made -/
structure FnK (P : Program) (w : World) (K : PySem.W.Frag) (mg : PySem.Str → Option Value) (base : Heap) (CX : CXT) (k : Nat) (x : PySem.Str) (as : List PySem.Str) (ps : List PySem.Str) (sp : Sp) : Prop where
  ex : ∃ (C f : Addr) (fd : FuncData), KCl K x as C ∧ Mk K C f ∧ mg x = some (.ref C) ∧ Binds K fd ps [] ∧ FnOk P w K mg base CX k f fd ps sp
/-- it is an object of the class -/
def IsO (K : PySem.W.Frag) (x m : PySem.Str) (y : V) (H : Hp) : Prop := ∃ (a C dx : Addr) (fs : List (PySem.Str × V)), y = .ref a ∧ H a = some (.ins C dx fs) ∧ PySem.W.nsIn K mainGlobals x = some (some (.ref C)) ∧ fs.lookup m = none
def tMt (K : PySem.W.Frag) (x m : PySem.Str) (sp : Sp) (E : XK) (ta : TE) (t : TA) : TE := fun σ H Q => ta σ H fun y H1 => IsO K x m y H1 ∧ t σ H1 fun vs H2 => sp (y :: vs) H2 Q E
def tMk (K : PySem.W.Frag) (x : PySem.Str) (as : List PySem.Str) (sp : Sp) (E : XK) (t : TA) : TE := fun σ H Q => t σ H fun vs H1 => ∀ (C y dx : Addr), KCl K x as C → H1 y = none → H1 dx = none → dx ≠ y → sp (.ref y :: vs) (upd (upd H1 dx (.own y)) y (.ins C dx [])) (fun v H2 => v = .non ∧ Q (.ref y) H2) E
theorem mt_eq {K : PySem.W.Frag} {x m : PySem.Str} {C : Addr} (ns : PySem.W.nsIn K mainGlobals x = some (some (.ref C))) (sp : Sp) (E : XK) (ta : TE) (t : TA) : tMeth C m sp [] E ta t = tMt K x m sp E ta t := by
  funext σ H Q
  unfold tMeth tMt IsO
  congr 1
  funext y H1
  refine propext ⟨?_, ?_⟩
  · rintro ⟨a, dx, fs, h1, h2, h3, h4⟩
    simp only [List.append_nil] at h4
    exact ⟨⟨a, C, dx, fs, h1, h2, ns, h3⟩, h4⟩
  · rintro ⟨⟨a, C', dx, fs, h1, h2, h3, h4⟩, h5⟩
    rw [ns] at h3
    cases h3
    refine ⟨a, dx, fs, h1, h2, h4, ?_⟩
    simp only [List.append_nil]
    exact h5
section
variable {X : Cx} {k : Nat} {x m : PySem.Str} {as ps : List PySem.Str} {sp : Sp} {ta : TE} {t : TA} {o e : Expr} {es : List Expr} {p apos pos : Pos}
theorem pe_mt {K : PySem.W.Frag} {pl : Sem Bool} (h : FnM X.prog X.w K X.mg X.base CX0 k x as m ps sp) (hr : Room k X.A) (he : PE X o ta) (ha : PA X (e :: es) t)
    (hst : starEach (e :: es) X.env = (false, eval e X.env) :: starEach es X.env := by rfl) (hpl : (backTo pos (starEach es X.env)).any (·.1) = false := by rfl)
    (ht : eval (.Call (.Attribute o m apos) (e :: es) [] pos) X.env = (do
      let ov ← eval o X.env
      standAt apos.atName
      let (f, first) ← holding [ov] (getMethod ov m pl)
      callWith pos f first (backTo pos (starEach (e :: es) X.env)) (backToKw pos (keywordEach [] X.env))) := by rfl) (hk : X.K = K := by rfl) :
    PE X (.Call (.Attribute o m apos) (e :: es) [] pos) (tMt K x m sp E0 ta t) := by
  subst hk
  obtain ⟨C, f, fd, hC, hM, hB, F⟩ := h.ex
  rw [← mt_eq hC.ns]
  exact pe_meth he hC.cl hM F hr hB .nil pass0 ha hst hpl ht
theorem pe_mt0 {K : PySem.W.Frag} {pl : Sem Bool} (h : FnM X.prog X.w K X.mg X.base CX0 k x as m ps sp) (hr : Room k X.A) (he : PE X o ta)
    (ht : eval (.Call (.Attribute o m apos) [] [] pos) X.env = (do
      let ov ← eval o X.env
      standAt apos.atName
      let (f, first) ← holding [ov] (getMethod ov m pl)
      callWith pos f first (backTo pos (starEach [] X.env)) (backToKw pos (keywordEach [] X.env))) := by rfl) (hk : X.K = K := by rfl) :
    PE X (.Call (.Attribute o m apos) [] [] pos) (tMt K x m sp E0 ta tNil) := by
  subst hk
  obtain ⟨C, f, fd, hC, hM, hB, F⟩ := h.ex
  rw [← mt_eq hC.ns]
  exact pe_meth0 he hC.cl hM F hr hB .nil pass0 ht
theorem k_fld (K : PySem.W.Frag) {f : PySem.Str} (he : PE X e ta) (hb : attributeBase e f X.env (eval e X.env) = eval e X.env) (hk : X.K = K := by rfl) : PE X (.Attribute e f pos) (tFld K ta f) := by
  subst hk
  exact pe_fld he hb
theorem pe_mk0 {K : PySem.W.Frag} (h : FnK X.prog X.w K X.mg X.base CX0 k x as ps sp) (hr : Room (k + 1) X.A) (hg : Gl X x) (hdb : (x == ("__debug__" : PySem.Str)) = false := by decide) (hk : X.K = K := by rfl) :
    PE X (.Call (.Name x p) [] [] pos) (tMk K x as sp E0 tNil) := by
  subst hk
  obtain ⟨C, f, fd, hC, hM, hm, hB, F⟩ := h.ex
  have g := pe_make0 (p := p) (pos := pos) hM F hr hg hm hB .nil pass0 hdb
  refine ⟨fun pins s σ H Q I q => g.run pins s σ H Q I ?_⟩
  intro y dx h1 h2 h3
  exact q C y dx hC h1 h2 h3
theorem k_lstG (K : PySem.W.Frag) {es : List Expr} {k : Nat} {t : TGs} {n : Nat} {pos : Pos} (hc : X.calm = true) (h : PGs X es t)
    (hn : (assignEach es X.env).length = n := by rfl) (hst : (assignEach es X.env).findIdx? (·.1) = none := by rfl) (hk : X.K = K := by rfl) : PG X (.Tuple es k pos) (gLst K n t) := by
  subst hk
  exact pg_lst hc h hn hst
/-- a dict that is but walked from here on -/
def tFrz (td : TE) : TE := fun σ H Q => td σ H fun x H1 => ∃ (d : Addr) (kvs : List (Key × V)), x = .ref d ∧ H1 d = some (.dK kvs) ∧ ∀ od, Q (.ref d) (upd H1 d (.frz od (.dK kvs)))
theorem pe_frz {e : Expr} {td : TE} (h : PE X e td) : PE X e (tFrz td) := by
  refine ⟨fun pins s σ H Q I q => ?_⟩
  refine thn (h.run pins s σ H _ I q) fun v s1 ⟨x, H1, I1, r, d, kvs, ex, hd, q1⟩ => ?_
  subst ex
  obtain ⟨od, I2⟩ := I1.lock hd trivial
  exact ⟨.ref d, _, I2, r, q1 od⟩
/-- d == {}: and what it is where a pair stands in it -/
def rEqD0 : R2 := fun x y H Q => ∃ (a b : Addr) (ks : List (Key × V)), x = .ref a ∧ y = .ref b ∧ H a = some (.dK ks) ∧ H b = some (.dK []) ∧ Q (.bl ks.isEmpty) H
theorem op_eqD0 (hu : X.A.units < cLine) : OpR X (compareOp .Eq) rEqD0 := by
  intro pins s σ H x y v u Q I rx ry h
  obtain ⟨a, b, ks, rfl, rfl, ea, eb, q⟩ := h
  obtain rfl : v = Value.ref a := rx
  obtain rfl : u = Value.ref b := ry
  obtain ⟨_, ya, va, ra, da⟩ := (show ObjOk X.prog X.w H s.heap a (.dK ks) from I.hok a _ ea)
  obtain ⟨_, yb, vb, rb, db⟩ := (show ObjOk X.prog X.w H s.heap b (.dK []) from I.hok b _ eb)
  have hb : vb.length = 0 := by rw [← rb.length]; rfl
  have ha : va.length = ks.length := ra.length.symm
  refine PySem.W.keq_eq (knd := mixKind X.prog X.w) (r := true) ya yb da db hu (fun e => ?_) (fin_bl I q ?_)
  · have e0 : ks = [] := List.length_eq_zero_iff.mp (by omega)
    subst e0
    exact hits_all rb ra fun p hp => by cases hp
  · rw [hb, ha]
    cases ks <;> rfl
end
/-! ### readings -/
section
variable {σ : L2.St} {H : Hp} {Q : VK} {D : Ends} {K : PySem.W.Frag} {te td ta tv : TE} {tt : TT} {tr : TA} {s1 : TS} {g : TG} {vs : List Nat}
def rFld (K : PySem.W.Frag) (f : PySem.Str) (x : V) (H : Hp) (Q : VK) : Prop := ∃ a C dx fs v, x = .ref a ∧ H a = some (.ins C dx fs) ∧ Cls K C ∧ NoAttr K C f ∧ fs.lookup f = some v ∧ Q v H
theorem w_fld {f : PySem.Str} : tFld K ta f σ H Q = ta σ H fun x H1 => rFld K f x H1 Q := rfl
def rPutF (K : PySem.W.Frag) (f : PySem.Str) (x y : V) (H : Hp) (QH : Hp → Prop) : Prop := ∃ a C dx fs, x = .ref a ∧ H a = some (.ins C dx fs) ∧ Cls K C ∧ NoAttr K C f ∧ fs.length < 1000 ∧ QH (upd H a (.ins C dx (putF f y fs)))
theorem w_sfld {f : PySem.Str} : sFld K ta tv f D σ H = tv σ H fun y H1 => ta σ H1 fun x H2 => rPutF K f x y H2 fun H3 => D.nx σ H3 := rfl
theorem w_mt {x m : PySem.Str} {sp : Sp} {E : XK} : tMt K x m sp E ta tr σ H Q = ta σ H fun y H1 => IsO K x m y H1 ∧ tr σ H1 fun us H2 => sp (y :: us) H2 Q E := rfl
theorem w_mk {x : PySem.Str} {as : List PySem.Str} {sp : Sp} {E : XK} : tMk K x as sp E tr σ H Q = tr σ H fun us H1 => ∀ (C y dx : Addr), KCl K x as C → H1 y = none → H1 dx = none → dx ≠ y → sp (.ref y :: us) (upd (upd H1 dx (.own y)) y (.ins C dx [])) (fun v H2 => v = .non ∧ Q (.ref y) H2) E := rfl
theorem w_frz : tFrz td σ H Q = td σ H fun x H1 => ∃ (d : Addr) (kvs : List (Key × V)), x = .ref d ∧ H1 d = some (.dK kvs) ∧ ∀ od, Q (.ref d) (upd H1 d (.frz od (.dK kvs))) := rfl
theorem w_forI : tFor (iItems td) g s1 D σ H = td σ H fun x H1 => ∃ d o kvs, x = .ref d ∧ H1 d = some (.frz o (.dK kvs)) ∧ FJ (Iti d o kvs) g s1 D σ H1 := rfl
theorem w_forV : tFor (iVals td) g s1 D σ H = td σ H fun x H1 => ∃ d o kvs, x = .ref d ∧ H1 d = some (.frz o (.dK kvs)) ∧ FJ (Itd d o kvs) g s1 D σ H1 := rfl
theorem w_lcV : tLc (iVals td) g tt te vs σ H Q = td σ H fun x H1 => ∃ d o kvs, x = .ref d ∧ H1 d = some (.frz o (.dK kvs)) ∧ LJ (Itd d o kvs) g tt te vs σ H1 Q := rfl
theorem w_lockS {s : TS} : tLock s D σ H = ∃ d u, H d = some u ∧ Mut (some u) ∧ ∀ od, s ⟨fun σ' H' => H' d = some (.frz od u) ∧ D.nx σ' (upd H' d u), fun v H' => H' d = some (.frz od u) ∧ D.rt v (upd H' d u), fun σ' H' => H' d = some (.frz od u) ∧ D.bk σ' (upd H' d u), fun σ' H' => H' d = some (.frz od u) ∧ D.ct σ' (upd H' d u)⟩ σ (upd H d (.frz od u)) := rfl
theorem w_asgL {n : Nat} {t : TGs} : tAsg te (gLst K n t) D σ H = te σ H fun v H1 => ∃ a xs, v = .ref a ∧ SqL K H1 a xs ∧ xs.length = n ∧ t xs σ H1 D.nx := rfl
theorem w_gSub {to ti : TE} {ts : TSet} {v : V} {QN : L2.St → Hp → Prop} : gSub to ti ts v σ H QN = to σ H fun o H1 => ti σ H1 fun i H2 => ts o i v H2 fun H3 => QN σ H3 := rfl
theorem w_minV : tMinVals td σ H Q = td σ H fun x H1 => ∃ a kvs is, x = V.ref a ∧ H1 a = some (.dK kvs) ∧ kvs.map (·.2) = is.map V.int ∧ is ≠ [] ∧ ∀ m, m ∈ is → (∀ j ∈ is, m ≤ j) → Q (.int m) H1 := rfl
/-- over the pairs of a dict of whole numbers -/
theorem for_i {d : Addr} {o : Obj} {ks : List Nat} {f : Nat → V} (Pv : Nat → L2.St → Hp → Prop) (h0 : Pv 0 σ H) (hl : ∀ i σ H, i ≤ ks.length → Pv i σ H → H d = some (.frz o (.dK (dN ks f))))
    (hs : ∀ i k σ H T, ks[i]? = some k → i < ks.length → Pv i σ H → H T = none → ∀ N : L2.St → Hp → Prop, (∀ σ' H', Pv (i + 1) σ' H' → N σ' H') → g (.ref T) σ (upd H T (.tup [.int (k : Int), f k])) fun σ2 H2 => s1 { D with nx := N, ct := N, bk := D.nx } σ2 H2)
    (hd : ∀ σ H, Pv ks.length σ H → D.nx σ H) : FJ (Iti d o (dN ks f)) g s1 D σ H := by
  have el : (dN ks f).length = ks.length := dN_len ks f
  refine for_it (n := ks.length) (G := fun H => H d = some (.frz o (.dK (dN ks f)))) (Y := fun i H x H' => ∃ (T : Addr) (k : Nat), x = .ref T ∧ H T = none ∧ H' = upd H T (.tup [.int (k : Int), f k]) ∧ ks[i]? = some k) ?_ Pv h0 hl ?_ hd
  · refine ⟨fun i H hi q => ⟨q, by rw [el]; exact hi⟩, fun H q => ⟨q, by rw [el]; exact Nat.le_refl _⟩, fun i H x H' hi q y => ?_⟩
    obtain ⟨T, k, v, h1, h2, h3, h4⟩ := y
    unfold dN at h1
    rw [List.getElem?_map] at h1
    cases e : ks[i]? with
    | none =>
      rw [e] at h1
      cases h1
    | some n =>
      rw [e] at h1
      cases h1
      exact ⟨T, n, h2, h3, h4, rfl⟩
  · rintro i x σ H H' hi p ⟨T, k, rfl, hT, rfl, hk⟩
    exact hs i k σ H T hk hi p hT _ fun _ _ z => z
/-- over the values of a dict of whole numbers -/
theorem for_v {d : Addr} {o : Obj} {ks : List Nat} {f : Nat → V} (Pv : Nat → L2.St → Hp → Prop) (h0 : Pv 0 σ H) (hl : ∀ i σ H, i ≤ ks.length → Pv i σ H → H d = some (.frz o (.dK (dN ks f))))
    (hs : ∀ i k σ H, ks[i]? = some k → i < ks.length → Pv i σ H → ∀ N : L2.St → Hp → Prop, (∀ σ' H', Pv (i + 1) σ' H' → N σ' H') → g (f k) σ H fun σ2 H2 => s1 { D with nx := N, ct := N, bk := D.nx } σ2 H2)
    (hd : ∀ σ H, Pv ks.length σ H → D.nx σ H) : FJ (Itd d o (dN ks f)) g s1 D σ H := by
  have el : (dN ks f).length = ks.length := dN_len ks f
  refine for_it (n := ks.length) (G := fun H => H d = some (.frz o (.dK (dN ks f)))) (Y := fun i H x H' => H' = H ∧ ∃ k : Nat, x = f k ∧ ks[i]? = some k) ?_ Pv h0 hl ?_ hd
  · refine ⟨fun i H hi q => ⟨q, by rw [el]; exact hi⟩, fun H q => ⟨q, by rw [el]; exact Nat.le_refl _⟩, fun i H x H' hi q y => ?_⟩
    obtain ⟨h0, k, h1⟩ := y
    unfold dN at h1
    rw [List.getElem?_map] at h1
    cases e : ks[i]? with
    | none =>
      rw [e] at h1
      cases h1
    | some n =>
      rw [e] at h1
      cases h1
      exact ⟨h0, n, rfl, rfl⟩
  · rintro i x σ H H' hi p ⟨rfl, k, rfl, hk⟩
    exact hs i k σ _ hk hi p _ fun _ _ z => z
/-- a comprehension over the values of a locked dict -/
theorem lc_v {d : Addr} {o : Obj} {ks : List Nat} {f : Nat → V} (h : Nat → Option V) (hx : H d = some (.frz o (.dK (dN ks f)))) (hl : ks.length < sizeLine)
    (hs : ∀ (i k : Nat) (H' : Hp), ks[i]? = some k → Same H H' → ∀ (N0 : Hp → Prop) (N1 : VK), (h k = none → ∀ H2, Same H' H2 → N0 H2) → (∀ y, h k = some y → ∀ H2, Same H' H2 → N1 y H2) →
      g (f k) (wipe σ vs) H' fun σ2 H2 => wipe σ2 vs = wipe σ vs ∧ tt σ2 H2 fun b H3 => if b = true then te σ2 H3 N1 else N0 H3)
    (q : ∀ D H', H D = none → Same H H' → H' D = some (.lst (ks.filterMap h)) → Q (.ref D) H') : LJ (Itd d o (dN ks f)) g tt te vs σ H Q := by
  intro D hD
  have el : (dN ks f).length = ks.length := dN_len ks f
  refine ⟨fun j left Hw => left + j = ks.length ∧ Same H Hw ∧ Hw D = some (.lst ((ks.take j).filterMap h)), ⟨ks.length, Nat.add_zero _, same_new hD, by rw [upd_same]; simp⟩, fun j left Hw => ?_⟩
  rintro ⟨ej, p1, p2⟩
  rcases Nat.eq_zero_or_pos left with h0 | h0
  · left
    have e : j = ks.length := by omega
    subst e
    refine ⟨⟨p1 _ _ hx, by rw [el]; exact Nat.le_refl _⟩, q D Hw hD p1 ?_⟩
    rw [p2, List.take_length]
  · right
    have hj : j < ks.length := by omega
    refine ⟨⟨p1 _ _ hx, by rw [el]; exact hj⟩, fun Hz => Same H Hz ∧ Hz D = some (.lst ((ks.take (j + 1)).filterMap h)), fun Hz hz => ⟨left - 1, by omega, by omega, hz.1, hz.2⟩, fun x Hy hy => ?_⟩
    obtain ⟨e1, k, h1⟩ := hy
    subst e1
    unfold dN at h1
    rw [List.getElem?_map] at h1
    cases e : ks[j]? with
    | none =>
      rw [e] at h1
      cases h1
    | some n =>
      rw [e] at h1
      cases h1
      have hlen : ((ks.take j).filterMap h).length < sizeLine := Nat.lt_of_le_of_lt (Nat.le_trans (List.length_filterMap_le _ _) (by rw [List.length_take]; exact Nat.min_le_right _ _)) hl
      refine hs j n Hy e p1 _ _ (fun hf H2 k2 => ⟨p1.trans k2, ?_⟩) fun y hf H2 k2 => ⟨_, k2 _ _ p2, hlen, fun b o h => ?_, ?_⟩
      · rw [k2 _ _ p2, filt_take h e, hf]
        simp
      · rw [upd_ne (ne_of_none h hD)]
        exact k2 _ _ (p1 _ _ h)
      · rw [upd_same, filt_take h e, hf]
        rfl
end
end Pn
/-! PnX: exceptions of the program's own classes: made, raised, caught and kept in a name, asked for their class and field. -/
namespace Pn
open PySem PySem.Spec PyProof.Rows L2
/-- where the class of this name stands -/
def clA (K : PySem.W.Frag) (x : PySem.Str) : Addr := match PySem.W.nsIn K mainGlobals x with | some (some (.ref C)) => C | _ => 0
/-- an exception class of the program, over ValueError -/
structure EC (K : PySem.W.Frag) (mg : PySem.Str → Option Value) (x : PySem.Str) : Prop where
  at_ : mg x = some (.ref (clA K x))
  ox : OexC K (clA K x)
  is : ExcC K (clA K x)
/-- what it answers: asked for its class, in an except clause; that its field is no name of the class -/
structure ET (K : PySem.W.Frag) (x f : PySem.Str) (asks : List (PySem.Str × Bool)) : Prop where
  kit : ∀ p ∈ asks, PySem.W.kitOne K (.ref (clA K x)) (.ref (clA K p.1)) = some p.2
  ve : PySem.W.kitOne K (.ref (clA K x)) (.type "ValueError") = some true
  ex : PySem.W.exmOne K (.ref (clA K x)) (.ref (clA K "PowerError")) = some true
  no : PySem.W.findIn K (.ref (clA K x)) f = some none
/-- an exception class without own __init__, whose text is its one value -/
structure OT (K : PySem.W.Frag) (x : PySem.Str) : Prop where
  ex : PySem.W.excIn K (clA K x) [.type "ValueError", .type "Exception", .type "BaseException", .type "object"] "ValueError.__new__" = true
  st : PySem.W.findIn K (.ref (clA K x)) "__str__" = some (some (.builtin "BaseException.__str__"))
theorem ExcC.xf {K : PySem.W.Frag} {C : Addr} (h : ExcC K C) : XfC K C := ⟨h.hg, h.hk, h.hs, h.hd⟩
/-- an exception object that is kept: its class, its dict -/
def xob (a : Addr) (cls : Value) (d : Option Addr) : HO := .ext fun h => ∃ (oe : Obj) (vs : Array Value), h.get? a = some oe ∧ Zc cls d oe ∧ oe.data = .fields vs
theorem xob_ok {P : Program} {w : World} {H : Hp} {h : Heap} {a : Addr} {cls : Value} {d : Option Addr} {oe : Obj} {vs : Array Value} (e : h.get? a = some oe) (z : Zc cls d oe) (hd : oe.data = .fields vs) : ObjOk P w H h a (xob a cls d) :=
  ⟨⟨oe, vs, e, z, hd⟩, ⟨oe, e⟩, fun _ _ ⟨o, v, q, r⟩ k => ⟨o, v, k o q, r⟩⟩
theorem xob_at {P : Program} {w : World} {H : Hp} {h : Heap} {a : Addr} {cls : Value} {d : Option Addr} (hok : HOk P w H h) (e : H a = some (xob a cls d)) : ∃ (oe : Obj) (vs : Array Value), h.get? a = some oe ∧ Zc cls d oe ∧ oe.data = .fields vs := by
  have x : ObjOk P w H h a (.ext fun h => ∃ (oe : Obj) (vs : Array Value), h.get? a = some oe ∧ Zc cls d oe ∧ oe.data = .fields vs) := hok a _ e
  exact x.1
section
variable {X : Cx} {pins : List (Addr × Obj)} {σ : L2.St} {H : Hp} {s : Shared} {a : Addr}
/-- an object that stands there and is new since the entry is tracked from here on -/
theorem track {cls : Value} {d : Option Addr} {oe : Obj} {vs : Array Value} (I : Inv X pins σ H s) (ge : s.heap.get? a = some oe) (z : Zc cls d oe) (dt : oe.data = .fields vs) (free : H a = none) (l1 : X.env.locals ≠ a)
    (new : X.s_0.heap.get? a = none) (far : ∀ p ∈ X.pn ++ pins, p.1 ≠ a) : Inv X pins σ (upd H a (xob a cls d)) s := by
  have off : ∀ {b : Addr} {o : HO}, H b = some o → b ≠ a := fun q => ne_of_none q free
  have lft : ∀ {b : Addr} {o : HO}, H b = some o → upd H a (xob a cls d) b = some o := fun q => (upd_ne (off q)).trans q
  constructor
  · exact I.ok
  · exact I.os
  · exact I.bare
  · have u := I.base
    constructor
    · exact u.keep
    · exact u.slot
    · intro b o q n hx
      rw [upd_ne (fun y => by rw [y, new] at q; cases q)]
      exact u.free b o q n hx
    · exact u.there
    · exact fun b xs q => lft (u.tups b xs q)
    · exact fun b o v q => lft (u.frzs b o v q)
    · intro b ps q
      obtain ⟨more, r⟩ := u.tbls b ps q
      exact ⟨more, lft r⟩
  · exact I.loc
  · exact I.cell
  · rw [upd_ne l1]
    exact I.free
  · intro x c q
    have ca : c ≠ a := by
      obtain ⟨v, o, r1, r2⟩ := I.cell x c q
      intro y
      rw [y, ge] at r1
      cases r1
      rw [dt] at r2
      cases r2
    rw [upd_ne ca]
    exact I.freeC x c q
  · intro p hp
    obtain ⟨p1, p2, p3⟩ := I.pin p hp
    exact ⟨p1, by rw [upd_ne (far p hp)]; exact p2, p3⟩
  · intro b o q
    by_cases y : b = a
    · subst y
      rw [upd_same] at q
      cases q
      exact xob_ok ge z dt
    · rw [upd_ne y] at q
      exact (I.hok b o q).stay (fun _ _ _ r => r) (fun _ r => lft r) fun _ _ r => lft r
  · exact I.len
end
/-- what the clause 'except x as n' wishes where every exception of the body is one of x, and the suite keeps it in a name -/
def wKeep (K : PySem.W.Frag) (c : Value) (i : Nat) (ts : Addr → Value → Option Addr → TS) (D : Ends) : WX := fun cls d σ H =>
  PySem.W.exmOne K cls c = some true ∧ ∀ a, H a = none → ts a cls d { nx := fun σ' H' => H' a = none → D.nx (σ'.set i none) (upd H' a (xob a cls d)), rt := D.rt, bk := fun σ' H' => D.bk (σ'.set i none) H', ct := fun σ' H' => D.ct (σ'.set i none) H' } (σ.set i (some (.ref a))) H
def tTryK (K : PySem.W.Frag) (c : Value) (i : Nat) (ts : Addr → Value → Option Addr → TS) (tb : WX → TS) : TS := fun D σ H => tb (wKeep K c i ts D) D σ H
section
variable {X : Cx} {x n : PySem.Str} {c : Value} {i : Nat} {body more : List Stmt} {b1 : Stmt} {p1 p2 p3 : Pos} {tb : WX → TS} {ts : Addr → Value → Option Addr → TS}
theorem ps_try_keep (st : X.stack = X.env :: X.outer) (fr : X.env.frame = some X.env.locals) (ex : X.ex = []) (nd : X.N.Nodup) (hi : X.N[i]? = some n) (kn : X.env.kindOf n = some .local) (nm : Names X x c)
    (hb : ∀ (W : WX) (pn : List (Addr × Obj)) (xe : Value → Shared → Prop), Takes (X.tr pn xe) W → PassesOwn (model X.prog X.w) X.A X.env xe → PSs (X.tr pn xe) body (tb W))
    (hsu : ∀ (a : Addr) (oe : Obj) (cls : Value) (d : Option Addr) (pn : List (Addr × Obj)), Zc cls d oe → (∃ vs, oe.data = .fields vs) → PSs (X.suite a ((a, oe) :: pn)) (b1 :: more) (ts a cls d)) :
    PS X (.Try body [.ExceptHandler (some (.Name x p1)) (some n) (b1 :: more) p2] [] [] p3) (tTryK X.K c i ts tb) := by
  constructor
  intro pins s σ H D I wish
  have ok := I.ok
  have afr : X.A.frames = some (X.env :: X.outer) := st ▸ ok.frames
  have run := (hb (wKeep X.K c i ts D) (X.pn ++ pins)
    (fun e t => wpAny (model X.prog X.w) X.A (noteFrame e X.env)
      (fun _ t1 => wpAny (model X.prog X.w) X.A (setFlight e none)
        (fun _ t2 => wpAny (model X.prog X.w) X.A (handleBy e X.env [.ExceptHandler (some (.Name x p1)) (some n) (b1 :: more) p2])
          (SP X pins D) X.xe t2) X.xe t1) X.xe t)
    (fun u t caught => ?_) PassesOwn.looking).run [] s σ H D (I.toTry _) wish
  · refine wpAny_Try_except (wpAny_mono run (fun f t done => ?_) fun _ _ y => y)
    cases f with
    | ret u =>
      obtain ⟨v, σ1, H1, I1, r1, q⟩ := done
      exact ⟨v, σ1, H1, I1.ofTry ok, r1, q⟩
    | next =>
      obtain ⟨σ1, H1, I1, q⟩ := done
      exact wpAny_execs_nil ⟨σ1, H1, I1.ofTry ok, q⟩
    | brk =>
      obtain ⟨σ1, H1, I1, q⟩ := done
      exact ⟨σ1, H1, I1.ofTry ok, q⟩
    | cont =>
      obtain ⟨σ1, H1, I1, q⟩ := done
      exact ⟨σ1, H1, I1.ofTry ok, q⟩
  · obtain ⟨a, B, sI, pins1, σ1, H1, cls, d, eu, I0, gr, up, sky, free, eos, bare, match_, go⟩ := caught
    subst eu
    have I1 : Inv X pins σ1 H1 sI := I0.ofTry ok
    rw [show (X.tr (X.pn ++ pins) _).stack = X.env :: X.outer from st] at sky
    show wpAny (model X.prog X.w) X.A (noteFrame (.ref a) X.env) _ _ _
    refine Sky.land Zc.steady afr fr sky fun h1 fl1 up1 => ?_
    obtain ⟨o1, v1, g1, z1, d1⟩ := fl1.there
    have L1 := I1.landed (s' := { t with heap := h1 }) gr fl1.1 (up.trans up1) eos bare
    -- where it can't stand
    have nfr : a ∉ frs (X.env :: X.outer) := by
      intro hm
      obtain ⟨_, o, go1, nf⟩ := fl1.2.2.1.mem hm
      rw [g1] at go1
      cases go1
      exact nf v1 d1
    have nloc : a ≠ X.env.locals := by
      intro y
      refine nfr (List.mem_filterMap.mpr ⟨X.env, List.mem_cons_self, ?_⟩)
      rw [fr, y]
    have nfs : a ∉ X.fs := by
      intro hm
      obtain ⟨e, he, q⟩ := List.mem_filterMap.mp hm
      exact nfr (List.mem_filterMap.mpr ⟨e, List.mem_cons_of_mem _ he, q⟩)
    have nI : sI.heap.get? a = none := by
      cases q : sI.heap.get? a with
      | none => rfl
      | some o =>
        have y := gr a o q (by rw [show (X.tr (X.pn ++ pins) _).stack = X.env :: X.outer from st]; exact nfr)
        rw [fl1.2.1] at y
        cases y
    have n0 : X.s_0.heap.get? a = none := by
      cases q : X.s_0.heap.get? a with
      | none => rfl
      | some o =>
        obtain ⟨o', y⟩ := I1.base.there a o q (by rw [ex]; exact List.not_mem_nil)
        rw [nI] at y
        cases y
    have far : ∀ p ∈ X.pn ++ pins, p.1 ≠ a := by
      intro p hp y
      have q := (I1.pin p hp).1
      rw [y, nI] at q
      cases q
    have C1 := L1.suite g1 d1 free nloc nfs
    refine wpAny_handleBy_cons (codeAny_handlers_test ?_) (fun y => by cases y)
    have ty : PySem.W.Looks (model X.prog X.w) h1 (typeOf (.ref a)) cls := fun _ _ _ _ k q => wpAny_typeOf_ref (k _ _ g1) (by rw [z1.1]; exact q)
    have named : ∀ {Q : Value → Shared → Prop} {E : Value → Shared → Prop}, Q c { t with heap := h1 } → wpAny (model X.prog X.w) (X.A.mark (some (.ref a))) (eval (.Name x p1) X.env) Q E { t with heap := h1 } := by
      intro Q E q
      rcases nm with ⟨y1, y2, y3 | ⟨y3, y4, y5⟩⟩
      · exact ld_glob C1 y1 y3 q y2
      · exact ld_blt C1 y1 y3 y4 q y5 y2
    refine named ((PySem.W.exm_one (M := model X.prog X.w) L1.kIn ty match_).here ?_)
    refine codeAny_handlers_suite_as ?_
    refine HandSPX.lands_againZ fl1 fun h2 fl2 up2 => ?_
    obtain ⟨o2, v2, g2, z2, d2⟩ := fl2.there
    have L2' := I1.landed (s' := { t with heap := h2 }) gr fl2.1 ((up.trans up1).trans up2) eos bare
    refine store_ok (X := X.suite a ((a, o2) :: (X.pn ++ pins))) (v := .ref a) (L2'.suite g2 d2 free nloc nfs) nd hi (.inl kn) rfl (fun t3 C3 => ?_) (.inr kn)
    refine wpAny_mono ((hsu a o2 cls d (X.pn ++ pins) z2 ⟨_, d2⟩).run [] t3 _ H1 _ C3 (go a free)) (fun f t4 done => ?_) fun _ _ y => y.elim
    have fin : ∀ {σ4 : L2.St} {H4 : Hp} {R : Shared → Prop}, Inv (X.suite a ((a, o2) :: (X.pn ++ pins))) [] σ4 H4 t4 → (∀ t5, Inv X pins (σ4.set i none) H4 t5 → R t5) →
        wpAny (model X.prog X.w) X.A (do bindName X.env n .none; unbindBehindTheSuite X.env n p2) (fun _ t5 => R t5) X.xe t4 :=
      fun C4 hR => gone_ok (C4.unsuite ok) nd hi kn hR
    cases f with
    | ret u =>
      obtain ⟨v, σ4, H4, C4, r4, q⟩ := done
      exact fin C4 fun _ J => ⟨_, _, _, J, r4, q⟩
    | brk =>
      obtain ⟨σ4, H4, C4, q⟩ := done
      exact fin C4 fun _ J => ⟨_, _, J, q⟩
    | cont =>
      obtain ⟨σ4, H4, C4, q⟩ := done
      exact fin C4 fun _ J => ⟨_, _, J, q⟩
    | next =>
      obtain ⟨σ4, H4, C4, q⟩ := done
      obtain ⟨g4, f4, _⟩ := C4.pin (a, o2) (List.mem_append_left _ List.mem_cons_self)
      have J4 := track (C4.unsuite ok) g4 z2 d2 f4 (Ne.symm nloc) n0 far
      exact gone_ok J4 nd hi kn fun _ J => ⟨_, _, J, q f4⟩
end

/-! ### calls of what may raise -/
def tFnS (sp : Sp) (W : WX) (t : TA) : TE := tCallS sp (WE W) t
def tMtS (K : PySem.W.Frag) (x m : PySem.Str) (sp : Sp) (W : WX) (ta : TE) (t : TA) : TE := fun σ H Q => ta σ H fun y H1 => IsO K x m y H1 ∧ t σ H1 fun vs H2 => sp (y :: vs) H2 Q (WE W σ)
section
variable {X : Cx} {W : WX} {k : Nat} {x m : PySem.Str} {as ps : List PySem.Str} {sp : Sp} {ta te to : TE} {t : TA} {o e : Expr} {es : List Expr} {p q1 q2 pos apos : Pos}
theorem k_fnX (tk : Takes X W) (h : Fn X.prog X.w X.K X.mg X.base (L2.CX X.prog X.w) k x ps sp) (hr : Room k X.A) (hg : Gl X x) (ha : PA X (e :: es) t) (hdb : (x == ("__debug__" : PySem.Str)) = false := by decide)
    (he : starEach (e :: es) X.env = (false, eval e X.env) :: starEach es X.env := by rfl) (hpl : (backTo pos (starEach es X.env)).any (·.1) = false := by rfl) :
    PE X (.Call (.Name x p) (e :: es) [] pos) (tFnS sp W t) := by
  obtain ⟨f, fd, a1, a2, a3, F⟩ := h.ex
  exact pe_callS F hr hg a1 a2 a3 (fun σ => passAt tk σ) ha hdb he hpl
theorem k_mtX {K : PySem.W.Frag} {pl : Sem Bool} (tk : Takes X W) (h : FnM X.prog X.w K X.mg X.base (L2.CX X.prog X.w) k x as m ps sp) (hr : Room k X.A) (he : PE X o ta) (ha : PA X (e :: es) t)
    (hst : starEach (e :: es) X.env = (false, eval e X.env) :: starEach es X.env := by rfl) (hpl : (backTo pos (starEach es X.env)).any (·.1) = false := by rfl)
    (ht : eval (.Call (.Attribute o m apos) (e :: es) [] pos) X.env = (do
      let ov ← eval o X.env
      standAt apos.atName
      let (f, first) ← holding [ov] (getMethod ov m pl)
      callWith pos f first (backTo pos (starEach (e :: es) X.env)) (backToKw pos (keywordEach [] X.env))) := by rfl) (hk : X.K = K := by rfl) :
    PE X (.Call (.Attribute o m apos) (e :: es) [] pos) (tMtS K x m sp W ta t) := by
  subst hk
  obtain ⟨C, f, fd, hC, hM, hB, F⟩ := h.ex
  constructor
  intro pins s σ H Q I wish
  have first := he.run pins s σ H _ I wish
  refine PySem.W.methodCall_KW (pl := pl) (thn first fun u s1 y => ?_) ht
  obtain ⟨v, H1, I1, rv, ⟨a, C1, dx, fs, rfl, at1, n1, l1⟩, more⟩ := y
  have eC : C1 = C := by
    have z := n1.symm.trans hC.ns
    cases z
    rfl
  subst eC
  have eu : u = Value.ref a := rv
  subst eu
  refine getmeth_ok I1 at1 hC.cl hM l1 (PySem.W.callWith_K (first := [.ref a]) (h₀ := X.base) I1.ok.mod.kin hM.kp (thn (ha.run pos pins s1 σ H1 _ I1 more) fun us s2 y => ?_) hst hpl)
  obtain ⟨vs, H2, I2, r2, more2⟩ := y
  exact ⟨I2.kIn, run_fnS (us := Value.ref a :: us) F hr hB (passAt tk σ) I2 (.cons rv r2) more2⟩
/-! ### made and raised -/
/-- how one is made: its own __init__ takes one value -/
structure FnE (P : Program) (w : World) (K : PySem.W.Frag) (mg : PySem.Str → Option Value) (base : Heap) (k : Nat) (x : PySem.Str) (ps : List PySem.Str) (sp : Sp) : Prop where
  ec : EC K mg x
  ex : ∃ (f : Addr) (fd : FuncData), PySem.W.findIn K (.ref (clA K x)) "__init__" = some (some (.ref f)) ∧ PySem.W.typeIn K (.ref f) = some (.type "function") ∧ Binds K fd ps [] ∧ FnOk P w K mg base CX0 k f fd ps sp
/-- the promise of such an __init__: the value is kept as the field fld -/
def spE (K : PySem.W.Frag) (x fld : PySem.Str) (good : V → Prop) : Sp := fun vs H Q _ => ∃ (a : Addr) (v : V), vs = [.ref a, v] ∧ good v ∧ H a = some (exo a (clA K x) none) ∧ ∀ d, H d = none → d ≠ a → Q .non (upd (upd H d (exd d [(fld, v)])) a (exo a (clA K x) (some d)))
/-- a reading made weaker -/
def wk (te : TE) : TE := fun σ H Q => ∃ Q0, te σ H Q0 ∧ ∀ v H1, Q0 v H1 → Q v H1
theorem pe_wk (h : PE X e te) : PE X e (wk te) := ⟨fun pins s σ H Q I ⟨Q0, h0, h1⟩ => thn (h.run pins s σ H Q0 I h0) fun _ _ ⟨v, H1, I1, r, q⟩ => ⟨v, H1, I1, r, h1 v H1 q⟩⟩
theorem heap_made {H : Hp} {a d : Addr} {o1 o2 o3 o4 : HO} (ha : H a = none) (hda : d ≠ a) : upd (del (upd (upd (upd H a o1) d o2) a o3) a) d o4 = upd H d o4 := by
  funext b
  by_cases e : b = d
  · rw [e, upd_same, upd_same]
  · rw [upd_ne e, upd_ne e]
    by_cases c : b = a
    · rw [c, del_same, ha]
    · rw [del_ne c, upd_ne c, upd_ne e, upd_ne c]
/-- X(e), with its own __init__ -/
def tMkF (K : PySem.W.Frag) (x fld : PySem.Str) (good : V → Prop) (te : TE) : L2.St → Hp → XK → Prop := fun σ H Q => te σ H fun v H1 => good v ∧ ∀ d, H1 d = none → Q (.ref (clA K x)) (some d) (upd H1 d (.xd [(fld, v)]))
theorem k_made {fld : PySem.Str} {good : V → Prop} (h : FnE X.prog X.w X.K X.mg X.base k x ps (spE X.K x fld good)) (hr : Room (k + 1) X.A) (hg : Gl X x) (he : PE X e te) (hdb : (x == ("__debug__" : PySem.Str)) = false := by decide)
    (hs : starEach [e] X.env = (false, eval e X.env) :: starEach [] X.env := by rfl) (hpl : (backTo pos (starEach [] X.env)).any (·.1) = false := by rfl) : PMk X (.Call (.Name x p) [e] [] pos) (tMkF X.K x fld good te) := by
  obtain ⟨f, fd, fi, ty, hB, F⟩ := h.ex
  have made := pmk_oex (p := p) (dvs := []) h.ec.ox fi ty F hr hB .nil pass0 hg h.ec.at_ (pa_cons (pe_wk he) pa_nil hs) hdb hs hpl
  intro pins s σ H Q I wish
  refine made pins s σ H Q I ⟨_, wish, ?_⟩
  rintro v H1 ⟨g1, g2⟩
  refine ⟨by show 1 ≤ 1000; decide, fun a ha => ⟨a, v, rfl, g1, upd_same, fun d hd hda => ⟨rfl, d, [(fld, v)], upd_same, (upd_ne hda).trans upd_same, (upd_ne hda).symm.trans hd, ?_⟩⟩⟩
  rw [heap_made ha hda]
  exact g2 d ((upd_ne hda).symm.trans hd)
/-- one that is made and kept -/
theorem pe_val {t : L2.St → Hp → XK → Prop} (h : PMk X e t) : PE X e (fun σ H Q => t σ H fun cls d H1 => ∀ a, H1 a = none → Q (.ref a) (upd H1 a (xob a cls d))) := by
  constructor
  intro pins s σ H Q I wish
  refine thn (h pins s σ H _ I wish) fun u s1 y => ?_
  obtain ⟨a, oe, vs, sI, H1, cls, d, rfl, J, k, no, at1, z, dt, _, na, os, bare, _, q⟩ := y
  have ok : ObjOk X.prog X.w (upd H1 a (xob a cls d)) s1.heap a (xob a cls d) := xob_ok at1 z dt
  exact ⟨.ref a, _, J.call' (ch := []) os (Un.laidN k no na) (J.hok.laidN k na ok) bare (fun b hb => absurd hb List.not_mem_nil), rfl, q a na⟩
def tMkV (K : PySem.W.Frag) (x fld : PySem.Str) (good : V → Prop) (te : TE) : TE := fun σ H Q => te σ H fun v H1 => good v ∧ ∀ d, H1 d = none → ∀ a, upd H1 d (.xd [(fld, v)]) a = none → Q (.ref a) (upd (upd H1 d (.xd [(fld, v)])) a (xob a (.ref (clA K x)) (some d)))
theorem k_mkV {fld : PySem.Str} {good : V → Prop} (h : FnE X.prog X.w X.K X.mg X.base k x ps (spE X.K x fld good)) (hr : Room (k + 1) X.A) (hg : Gl X x) (he : PE X e te) (hdb : (x == ("__debug__" : PySem.Str)) = false := by decide)
    (hs : starEach [e] X.env = (false, eval e X.env) :: starEach [] X.env := by rfl) (hpl : (backTo pos (starEach [] X.env)).any (·.1) = false := by rfl) : PE X (.Call (.Name x p) [e] [] pos) (tMkV X.K x fld good te) :=
  pe_val (k_made h hr hg he hdb hs hpl)
/-- str(X(e)), X without own __init__, e a text -/
def tStrE (te : TE) : TE := fun σ H Q => te σ H fun v H1 => ∃ z, v = .str z ∧ Q (.str z) H1
theorem k_strE (h : OT X.K x) (ec : EC X.K X.mg x) (hg : Gl X x) (hgs : Gl X "str") (hm : X.mg "str" = none) (hu : X.A.units + 2 < cLine) (he : PE X e te) (hdb : (x == ("__debug__" : PySem.Str)) = false := by decide)
    (hs : starEach [e] X.env = (false, eval e X.env) :: starEach [] X.env := by rfl) (hpl : (backTo q2 (starEach [] X.env)).any (·.1) = false := by rfl)
    (hs2 : starEach [.Call (.Name x q1) [e] [] q2] X.env = (false, eval (.Call (.Name x q1) [e] [] q2) X.env) :: starEach [] X.env := by rfl) (hpl2 : (backTo pos (starEach [] X.env)).any (·.1) = false := by rfl) :
    PE X (.Call (.Name "str" p) [.Call (.Name x q1) [e] [] q2] [] pos) (tStrE te) := by
  constructor
  intro pins s σ H Q I wish
  refine wpAny_Call_Name_kw (ld_blt I hgs hm PyProof.Rows.Boot.str ?_ (by decide) (by decide))
  refine PyProof.Rows.callWith_type1 ?_ hs2 hpl2
  rw [hs2]
  show wpAny _ _ (spliced ((false, eval (.Call (.Name x q1) [e] [] q2) X.env) :: backTo pos (starEach [] X.env))) _ _ s
  refine Calls.spliced_cons ?_
  refine wpAny_Call_Name_kw (ld_glob I hg ec.at_ ?_ hdb)
  refine PySem.W.callWith_K (h₀ := X.base) I.ok.mod.kin ec.ox.kC ?_ hs hpl
  rw [hs]
  show wpAny _ _ (spliced ((false, eval e X.env) :: backTo q2 (starEach [] X.env))) _ _ s
  refine Calls.spliced_cons (thn (he.run pins s σ H _ I wish) fun u s1 y => Calls.spliced_nil ?_)
  obtain ⟨v, H1, I1, r1, z, rfl, q⟩ := y
  obtain ⟨tk, rfl⟩ := r1
  refine ⟨I1.kIn, ?_⟩
  show wpAny _ _ (call (.ref (clA X.K x)) [.str z tk]) _ _ _
  obtain ⟨hp, g, d, t, os⟩ := s1
  obtain ⟨bm, N, nm, qn, bs, hdct, sn, sub, ab, col, dd, k0, k1, k2, k3, k5, mN, hC, hN, hni, T⟩ := exc_obj I1.kIn h.ex
  refine wpAny_call_exc_subT PySem.F.excBase_ValueError T hC hN hni (fun h1 a made => Calls.spliced_nil ?_) (by show 1 ≤ sizeLine; decide)
  obtain ⟨ta, g1, _, g2⟩ := made.there
  have J : Inv X pins σ H1 ⟨h1, g, d, t, os⟩ := I1.kept (t' := t) made.keeps
  exact PySem.P.str_of_C_one hu ⟨J.kIn, _, _, g1, rfl, rfl, rfl⟩ ⟨_, _, g2, rfl, rfl⟩ h.st ec.is.hs ⟨.str z, H1, J, ⟨tk, rfl⟩, q⟩
/-- raise X(e) -/
def tRaiseF (K : PySem.W.Frag) (x fld : PySem.Str) (good : V → Prop) (W : WX) (te : TE) : TS := fun _ σ H => te σ H fun v H1 => good v ∧ ∀ d, H1 d = none → W (.ref (clA K x)) (some d) σ (upd H1 d (.xd [(fld, v)]))
theorem k_raise {fld : PySem.Str} {good : V → Prop} (hc : X.calm = true) (tk : Takes X W) (h : FnE X.prog X.w X.K X.mg X.base k x ps (spE X.K x fld good)) (hr : Room (k + 1) X.A) (hg : Gl X x) (he : PE X e te) (hdb : (x == ("__debug__" : PySem.Str)) = false := by decide)
    (hs : starEach [e] X.env = (false, eval e X.env) :: starEach [] X.env := by rfl) (hpl : (backTo q1 (starEach [] X.env)).any (·.1) = false := by rfl) : PS X (.Raise (some (.Call (.Name x p) [e] [] q1)) none pos) (tRaiseF X.K x fld good W te) :=
  ps_raise hc tk (k_made h hr hg he hdb hs hpl)
/-! ### B.__init__(self, ..), B a class of the program that takes ValueError's -/
structure BI (K : PySem.W.Frag) (mg : PySem.Str → Option Value) (x : PySem.Str) : Prop where
  at_ : mg x = some (.ref (clA K x))
  rd : PySem.W.readsIn K (clA K x) (.type "type") = true
  ga : PySem.W.specialIn K (.ref (clA K x)) "__getattribute__" = some (some (.builtin "type.__getattribute__"))
  fi : PySem.W.findCls K (.ref (clA K x)) (.type "type") "__init__" = some (.val (.builtin "ValueError.__init__"))
theorem k_binit {pl : Sem Bool} (h : BI X.K X.mg x) (hg : Gl X x) (ha : PA X (e :: es) t) (hdb : (x == ("__debug__" : PySem.Str)) = false := by decide)
    (hc : eval (.Call (.Attribute (.Name x q1) "__init__" q2) (e :: es) [] pos) X.env = (do
      let ov ← eval (.Name x q1) X.env
      standAt q2.atName
      let (f, first) ← holding [ov] (getMethod ov "__init__" pl)
      callWith pos f first (backTo pos (starEach (e :: es) X.env)) (backToKw pos (keywordEach [] X.env))) := by rfl)
    (hs : starEach (e :: es) X.env = (false, eval e X.env) :: starEach es X.env := by rfl) (hpl : (backTo pos (starEach es X.env)).any (·.1) = false := by rfl) :
    PE X (.Call (.Attribute (.Name x q1) "__init__" q2) (e :: es) [] pos) (tVeI X.K t) := by
  constructor
  intro pins s σ H Q I wish
  refine PySem.W.methodCall_KW (ld_glob I hg h.at_ (PySem.W.method_cls I.kIn h.ga (PySem.W.cls_value I.kIn h.rd h.fi (by decide +kernel) ?_)) hdb) hc
  show wpAny _ _ (callWith pos (Value.builtin "ValueError.__init__") [] (backTo pos (starEach (e :: es) X.env)) []) _ _ _
  have args := ha.run pos pins _ σ H _ (I.tok (s.toks + 1)) wish
  refine PyProof.Rows.callWith_method1 (thn args fun us s1 y => ?_) hs hpl
  obtain ⟨vs, H1, I1, r1, a, C, ws, rfl, n1, T, at1, more⟩ := y
  cases r1 with
  | @cons _ u _ ur ru rw1 =>
    have eu : u = Value.ref a := ru
    subst eu
    have small : ur.length ≤ sizeLine := by
      have z := rw1.length
      rw [← z, sizeLine_eq]
      omega
    exact oinit_ok T I1 at1 small fun s2 J => ⟨.non, H1, J, rfl, more⟩
/-! ### a kept exception asked -/
/-- its class is x's; its one field fld holds v -/
def XO (K : PySem.W.Frag) (H : Hp) (a : Addr) (x fld : PySem.Str) (v : V) : Prop := ∃ d, H a = some (xob a (.ref (clA K x)) (some d)) ∧ H d = some (.xd [(fld, v)])
theorem XO.same {K : PySem.W.Frag} {H H' : Hp} {a : Addr} {x fld : PySem.Str} {v : V} (h : XO K H a x fld v) (s : Same H H') : XO K H' a x fld v := let ⟨d, h1, h2⟩ := h; ⟨d, s _ _ h1, s _ _ h2⟩
def rIsX (K : PySem.W.Frag) : List V → Hp → VK → Prop := fun xs H Q => ∃ (c v : V) (cv : Value) (a : Addr) (x fld : PySem.Str) (b : Bool), xs = [.ref a, c] ∧ XO K H a x fld v ∧ ExcC K (clA K x) ∧ (∀ u, RelV c u → u = cv) ∧ PySem.W.kitOne K (.ref (clA K x)) cv = some b ∧ Q (.bl b) H
theorem xo_inst {X : Cx} {pins : List (Addr × Obj)} {σ : L2.St} {H : Hp} {s : Shared} {a d C : Addr} {fs : List (PySem.Str × V)} (I : Inv X pins σ H s) (h1 : H a = some (xob a (.ref C) (some d))) (h2 : H d = some (.xd fs)) :
    ∃ (oe od : Obj) (mA : PySem.Str → Option Value), PySem.W.InstAt s.heap a oe C (some od) ∧ s.heap.get? d = some od ∧ s.heap.Ns1 d mA ∧ (∀ f, RelO (fs.lookup f) (mA f)) ∧ ∀ n, PySem.W.lookIn n od = some (mA n) := by
  obtain ⟨oe, vs, g, z, dt⟩ := xob_at I.hok h1
  have hx : ObjOk X.prog X.w H s.heap d (.xd fs) := I.hok d _ h2
  obtain ⟨mA, ns, rl⟩ := hx
  obtain ⟨od, go, lk⟩ := lookIn_ns ns
  refine ⟨oe, od, mA, ⟨g, z.1, ?_, ?_⟩, go, ns, rl, lk⟩
  · unfold PySem.W.notCls
    rw [dt] <;> rfl
  · rw [z.2]
    exact go
theorem k_isX (K : PySem.W.Frag) (hk : X.K = K := by rfl) : CallR X (.builtin "isinstance") (rIsX K) := by
  subst hk
  intro pins s σ H xs us Q I r wish
  obtain ⟨c, v, cv, a, x, fld, b, rfl, ⟨d, h1, h2⟩, ec, hc, hb, q⟩ := wish
  cases r with
  | cons r1 r2 =>
    cases r2 with
    | cons r3 r4 =>
      cases r4
      cases r1
      have e3 := hc _ r3
      subst e3
      obtain ⟨oe, od, mA, J, _⟩ := xo_inst I h1 h2
      have cl : (PySem.W.clsIn X.K (clA X.K x)).isSome = true := by
        obtain ⟨cd, y, _⟩ := PySem.W.any_some ec.hd
        rw [y]
        rfl
      exact PySem.W.kia_one (PySem.W.kitx_exc cl ec.hg ec.hk ec.hs ec.ha ec.hn ec.ht ec.hm) I.kIn J hb (fun y => nomatch y) fun tk => ⟨.bl b, H, I.tok tk, rfl, q⟩
/-- e.f of such -/
def rXf (K : PySem.W.Frag) (f : PySem.Str) (y : V) (H : Hp) (Q : VK) : Prop := ∃ (a : Addr) (x : PySem.Str) (v : V), y = .ref a ∧ XO K H a x f v ∧ ExcC K (clA K x) ∧ PySem.W.findIn K (.ref (clA K x)) f = some none ∧ Q v H
def tXfK (K : PySem.W.Frag) (f : PySem.Str) (te : TE) : TE := fun σ H Q => te σ H fun y H1 => rXf K f y H1 Q
theorem k_xf (K : PySem.W.Frag) {f : PySem.Str} (he : PE X e te) (hb : attributeBase e f X.env (eval e X.env) = eval e X.env := by rfl) (hk : X.K = K := by rfl) : PE X (.Attribute e f pos) (tXfK K f te) := by
  subst hk
  constructor
  intro pins s σ H Q I wish
  refine attr_of hb (thn (he.run pins s σ H _ I wish) fun u s1 y => ?_)
  obtain ⟨y, H1, I1, r1, a, x, v, rfl, ⟨d, h1, h2⟩, ec, no, q⟩ := y
  have eu : u = Value.ref a := r1
  subst eu
  obtain ⟨oe, od, mA, J, go, ns, rl, lk⟩ := xo_inst I1 h1 h2
  have l1 : List.lookup f [(f, v)] = some v := by simp [List.lookup]
  have r2 := rl f
  rw [l1] at r2
  obtain ⟨w, ew, rw2⟩ := RelO.some_of r2
  exact HandSPX.exc_get I1.kIn J ec.hg ec.hk ec.hs (PySem.W.findObj_own ec.hd no rfl (by rw [lk, ew])) (handed_of rw2) ⟨v, H1, I1.tok _, rw2, q⟩
end
/-! ### how often a flat value stands in a list, in a tuple -/
def rCntF (S : PySem.W.Frag → Hp → Addr → List V → Prop) (K : PySem.W.Frag) : V → List V → Hp → VK → Prop := fun x xs H Q => ∃ (p : Addr) (ys : List V) (y : V), x = .ref p ∧ xs = [y] ∧ S K H p ys ∧ flatV y = true ∧ ys.all flatV = true ∧ Q (.int ((ys.countP fun z => eqV z y : Nat) : Int)) H
theorem count_eqU {x : V} : ∀ {xs : List V} {us : List Value}, Vals xs us → xs.all flatV = true → us.countP (eqU x) = xs.countP fun y => eqV y x
  | _, _, .nil, _ => rfl
  | y :: xs, u :: us, .cons r t, f => by
    rw [List.all_cons, Bool.and_eq_true] at f
    rw [List.countP_cons, List.countP_cons, eqU_of r f.1, count_eqU t f.2]
theorem k_countF {X : Cx} (K : PySem.W.Frag) (hk : X.K = K := by rfl) : MtR X "list.count" (rCntF SqL K) := by
  subst hk
  intro pins s σ H x xs v us Q I rx rxs wish
  obtain ⟨p, ys, y, rfl, rfl, hs, fy, fs, q⟩ := wish
  cases rx
  obtain ⟨u, rfl, ru⟩ := rxs.one
  obtain ⟨its, rv, ⟨⟨c0, d0, b0, l0⟩, n, at1, e1, e2, e3⟩, small⟩ := I.list hs
  simp only at e1 e3
  subst e1 e3
  have z := count_eqU (x := y) rv fs
  refine call_meets PySem.F.slot_list_count ⟨_, at1, rfl⟩ PySem.F.entry_list_count (PySem.F.args_list_count_2 _ _) (SeqAt.list_countAt p its.toArray n d0 l0 u (eqU y)) ⟨at1, fun w hw => mem_eqAt ru fy rv fs w (by simpa using hw), ?_⟩
  exact ⟨.int ((ys.countP fun z => eqV z y : Nat) : Int), H, I.tok _, ⟨s.toks, by rw [← z]⟩, q⟩
theorem k_countT {X : Cx} (K : PySem.W.Frag) (hk : X.K = K := by rfl) : MtR X "tuple.count" (rCntF SqT K) := by
  subst hk
  intro pins s σ H x xs v us Q I rx rxs wish
  obtain ⟨p, ys, y, rfl, rfl, hs, fy, fs, q⟩ := wish
  cases rx
  obtain ⟨u, rfl, ru⟩ := rxs.one
  obtain ⟨its, rv, ⟨⟨c0, d0, b0, l0⟩, at1, e1, n, e3⟩, small⟩ := I.tuple hs
  simp only at e1 e3
  subst e1 e3
  have z := count_eqU (x := y) rv fs
  refine call_meets PySem.F.slot_tuple_count ⟨_, at1, rfl⟩ PySem.F.entry_tuple_count (PySem.F.args_tuple_count_2 _ _) (SeqAt.tuple_countAt p its.toArray n d0 l0 u (eqU y)) ⟨at1, fun w hw => mem_eqAt ru fy rv fs w (by simpa using hw), ?_⟩
  exact ⟨.int ((ys.countP fun z => eqV z y : Nat) : Int), H, I.tok _, ⟨s.toks, by rw [← z]⟩, q⟩
/-! ### a tuple of which it is known that it has no dict: its methods -/
def rTupF (K : PySem.W.Frag) : List V → Hp → VK → Prop := fun xs H Q => ∃ p ys, xs = [.ref p] ∧ SqL K H p ys ∧ ∀ (l : Addr) (o : Obj), H l = none → o.cls = .type "tuple" → o.dict = none → Q (.ref l) (upd H l (.frz o (.tup ys)))
theorem k_tupleF {X : Cx} (K : PySem.W.Frag) (hk : X.K = K := by rfl) : CallR X (.type "tuple") (rTupF K) := by
  subst hk
  intro pins s σ H xs us Q I r wish
  obtain ⟨p, ys, rfl, hs, q⟩ := wish
  cases r with
  | cons r1 r2 =>
    cases r2
    cases r1
    obtain ⟨its, rv, pl, small⟩ := I.list hs
    have hlen := rv.length
    refine call_tuple_list pl.isList (fun h1 k1 => ?_) (by simp only [List.size_toArray] <;> omega)
    have I1 : Inv X pins σ H { s with heap := h1 } := I.kept (t' := s.toks) k1
    have ok : ObjOk X.prog X.w (upd H h1.objs.size (.frz { cls := .type "tuple", data := .seq its.toArray } (.tup ys))) (h1.push { cls := .type "tuple", data := .seq its.toArray }) h1.objs.size (.frz { cls := .type "tuple", data := .seq its.toArray } (.tup ys)) :=
      ⟨Heap.get?_push_at rfl rfl, small, its, rv, IsTup.new _ _⟩
    have I2 := I1.laid (t' := s.toks) (h' := h1.push { cls := .type "tuple", data := .seq its.toArray }) (fun b o e => Heap.get?_push_of_some _ e) (Nat.le_refl _) ok
    exact ⟨.ref h1.objs.size, _, I2, rfl, q _ _ (I1.hok.fresh (Nat.le_refl _)) rfl rfl⟩
def isF (T : String) (x : V) (H : Hp) : Prop := ∃ (p : Addr) (o : Obj) (u : HO), x = .ref p ∧ H p = some (.frz o u) ∧ o.cls = .type T ∧ o.dict = none
def tBMF (T : String) (r : V → List V → Hp → VK → Prop) (to : TE) (t : TA) : TE := fun σ H Q => to σ H fun x H1 => isF T x H1 ∧ t σ H1 fun xs H2 => r x xs H2 Q
theorem pe_bmF {X : Cx} {T id : String} {name : PySem.Str} {r : V → List V → Hp → VK → Prop} {o e : Expr} {es : List Expr} {to : TE} {t : TA} {apos cpos : Pos} (pa : PlainAttrs T) (slot : Slot T name id) (hty : typeOf (.builtin id) = pure (.type "method_descriptor")) (hm : MtR X id r) (ho : PE X o to) (ha : PA X (e :: es) t)
    (hbase : attributeBase o name X.env (eval o X.env) = eval o X.env := by rfl)
    (hfew : ((backTo cpos (starEach (e :: es) X.env)).all (fun x => !x.1) && (backToKw cpos (keywordEach [] X.env)).all (fun x => x.1.isSome)
      && decide ((e :: es).length + ([] : List Keyword).length + (if ([] : List Keyword).isEmpty then 0 else 1) < 30)) = true := by rfl)
    (hline : (apos.endLine == cpos.line) = true := by rfl) (hs : starEach (e :: es) X.env = (false, eval e X.env) :: starEach es X.env := by rfl) (hplain : (backTo cpos (starEach es X.env)).any (·.1) = false := by rfl) :
    PE X (.Call (.Attribute o name apos) (e :: es) [] cpos) (tBMF T r to t) := by
  constructor
  intro pins s σ H Q I wish
  refine wpAny_Call_method_late hbase hfew hline rfl (thn (ho.run pins s σ H _ I wish) fun v s1 y => ?_)
  obtain ⟨x, H1, I1, r1, ⟨p, ob, u, rfl, at1, e1, e2⟩, more⟩ := y
  have ev : v = Value.ref p := r1
  subst ev
  obtain ⟨get, _⟩ := (show ObjOk X.prog X.w H1 s1.heap p (.frz ob u) from I1.hok p _ at1)
  refine ⟨T, id, pa, slot, hty, ⟨ob, get, e1⟩, fun a ea => ?_, ?_⟩
  · cases ea
    exact ⟨ob, get, e2⟩
  · have args := ha.run cpos pins s1 σ H1 _ I1 more
    rw [hs] at args ⊢
    refine Calls.callWith_builtin (by show (false || (backTo cpos (starEach es X.env)).any (·.1)) = false; rw [hplain] <;> rfl) (Calls.evalArgs_plain ?_)
    exact thn args fun us s2 ⟨vs, H2, I2, r2, q2⟩ => hm pins s2 σ H2 (.ref p) vs (.ref p) us Q I2 rfl r2 q2
theorem hu2_of {A : Around} {k : Nat} (hr : Room k A) : A.units + 2 < cLine := Nat.lt_of_le_of_lt (Nat.add_le_add_left (by decide : 2 ≤ 64) _) hr.units
/-! ### readings -/
section
variable {σ : L2.St} {H : Hp} {Q : VK} {D : Ends} {K : PySem.W.Frag} {W : WX} {te ta : TE} {tr : TA} {sp : Sp}
theorem w_fnX : tFnS sp W tr σ H Q = tr σ H fun vs H1 => sp vs H1 Q (fun cls d H2 => W cls d σ H2) := rfl
theorem w_mtX {x m : PySem.Str} : tMtS K x m sp W ta tr σ H Q = ta σ H fun y H1 => IsO K x m y H1 ∧ tr σ H1 fun us H2 => sp (y :: us) H2 Q (fun cls d H3 => W cls d σ H3) := rfl
theorem w_raise {x fld : PySem.Str} {good : V → Prop} : tRaiseF K x fld good W te D σ H = te σ H fun v H1 => good v ∧ ∀ d, H1 d = none → W (.ref (clA K x)) (some d) σ (upd H1 d (.xd [(fld, v)])) := rfl
theorem w_bmF {T : String} {r : V → List V → Hp → VK → Prop} {to : TE} : tBMF T r to tr σ H Q = to σ H fun x H1 => isF T x H1 ∧ tr σ H1 fun xs H2 => r x xs H2 Q := rfl
theorem w_m1 {r : V → List V → Hp → VK → Prop} {to te : TE} : tM1 r to te σ H Q = to σ H fun x H1 => (∃ a, x = .str a) ∧ te σ H1 fun y H2 => r x [y] H2 Q := rfl
theorem w_mkV {x fld : PySem.Str} {good : V → Prop} : tMkV K x fld good te σ H Q = te σ H fun v H1 => good v ∧ ∀ d, H1 d = none → ∀ a, upd H1 d (.xd [(fld, v)]) a = none → Q (.ref a) (upd (upd H1 d (.xd [(fld, v)])) a (xob a (.ref (clA K x)) (some d))) := rfl
theorem w_strE : tStrE te σ H Q = te σ H fun v H1 => ∃ z, v = .str z ∧ Q (.str z) H1 := rfl
theorem w_xf {f : PySem.Str} : tXfK K f te σ H Q = te σ H fun y H1 => rXf K f y H1 Q := rfl
theorem w_binit : tVeI K tr σ H Q = tr σ H fun vs H1 => ∃ (a C : Addr) (ws : List V), vs = .ref a :: ws ∧ ws.length ≤ 1000 ∧ OexC K C ∧ H1 a = some (exo a C none) ∧ Q .non H1 := rfl
theorem w_ost {f : PySem.Str} {to : TE} : tOst K f to te D σ H = te σ H fun y H1 => to σ H1 fun x H2 => ∃ a C : Addr, x = .ref a ∧ OexC K C ∧ PySem.W.findIn K (.ref C) f = some none ∧
  ((H2 a = some (exo a C none) ∧ ∀ dx, H2 dx = none → dx ≠ a → D.nx σ (upd (upd H2 dx (exd dx [(f, y)])) a (exo a C (some dx)))) ∨
    ∃ (dx : Addr) (fs : List (PySem.Str × V)), H2 a = some (exo a C (some dx)) ∧ H2 dx = some (exd dx fs) ∧ fs.length ≤ 900 ∧ D.nx σ (upd H2 dx (exd dx ((f, y) :: fs)))) := rfl
theorem w_tryK {c : Value} {i : Nat} {ts : Addr → Value → Option Addr → TS} {tb : WX → TS} : tTryK K c i ts tb D σ H = tb (wKeep K c i ts D) D σ H := rfl
theorem w_keep {c : Value} {i : Nat} {ts : Addr → Value → Option Addr → TS} {cls : Value} {d : Option Addr} : wKeep K c i ts D cls d σ H = (PySem.W.exmOne K cls c = some true ∧ ∀ a, H a = none → ts a cls d { nx := fun σ' H' => H' a = none → D.nx (σ'.set i none) (upd H' a (xob a cls d)), rt := D.rt, bk := fun σ' H' => D.bk (σ'.set i none) H', ct := fun σ' H' => D.ct (σ'.set i none) H' } (σ.set i (some (.ref a))) H) := rfl
end
end Pn
/-! PnY: str of an exception that is made and asked at once; texts joined. -/
namespace Pn
open PySem PySem.Spec PyProof.Rows L2 TL
def rJoin (K : PySem.W.Frag) : V → List V → Hp → VK → Prop := fun x xs H Q => ∃ a p, ∃ ys : List PySem.Str, x = .str a ∧ xs = [.ref p] ∧ (SqL K H p (ys.map V.str) ∨ SqT K H p (ys.map V.str)) ∧ (ys.map (·.length)).sum + ys.length * a.length ≤ 16777216 ∧ Q (.str (PySem.Txt.join a ys)) H
theorem k_join {X : Cx} (K : PySem.W.Frag) (hk : X.K = K := by rfl) : MtR X "str.join" (rJoin K) := by
  subst hk
  exact mt_join
/-- a place that may be kept -/
def isPl (v : V) : Prop := ∃ p : Nat, v = .int (p : Int) ∧ p ≤ 10000
/-- behind the figures: is it a run that may stand -/
theorem tail_ok {z : PySem.Str} {f : Nat} {H : Hp} {R S : Hp → Prop} {T : Prop} [Decidable T] (hl : z.length ≤ 10000) (hT : T ↔ 1 < runN (tl z) f) (h0 : badN (tl z) f → R H) (h1 : ¬ badN (tl z) f → S H) :
    if ((f + runN (tl z) f : Nat) : Int) = (f : Int) then R H else rIxS (.str z) (.int (f : Int)) H fun x H1 => scal x (.str "0") = true ∧ if x = .str "0" then if T then R H1 else S H1 else S H1 := by
  by_cases c0 : runN (tl z) f = 0
  · rw [if_pos (by omega)]
    exact h0 (.inl c0)
  · rw [if_neg (by omega)]
    have hr := run_le (tl z) f
    have hat : (tl z)[f]? = some (tl z)[f] := List.getElem?_eq_getElem (by omega)
    generalize (tl z)[f] = c at hat
    refine r_ixS (size_le' (by omega)) hat ⟨rfl, ?_⟩
    by_cases e : c = 48
    · subst e
      rw [if_pos (by rw [str_zero])]
      by_cases t : T
      · rw [if_pos t]
        exact h0 (.inr ⟨hat, hT.mp t⟩)
      · rw [if_neg t]
        exact h1 fun b => b.elim c0 fun b => t (hT.mpr b.2)
    · rw [if_neg fun h => e (by
        rw [str_zero] at h
        injection h with h
        have := congrArg tl h
        simpa using this)]
      refine h1 fun b => b.elim c0 fun b => e ?_
      rw [hat] at b
      exact Option.some.inj b.1
/-- one sign more of a run -/
theorem sign_at {z : PySem.Str} {f k : Nat} (hk : k ≤ runN (tl z) f) (h : f + k < z.length) : ∃ c, (tl z)[f + k]? = some c ∧ dg c = decide (k < runN (tl z) f) := by
  rw [len_is] at h
  have hat : (tl z)[f + k]? = some (tl z)[f + k] := List.getElem?_eq_getElem h
  exact ⟨_, hat, run_at hk hat⟩
theorem run_end {z : PySem.Str} {f k : Nat} (hf : f ≤ z.length) (hk : k ≤ runN (tl z) f) (h : ¬ f + k < z.length) : k = runN (tl z) f := by
  have := run_le (tl z) f
  rw [len_is] at h hf
  omega
section
variable {t : List Nat}
theorem due_0 (b : badN t 0) : dueN t = .no 0 := by
  unfold dueN
  rw [if_pos b]
theorem due_1 (b : ¬ badN t 0) (h : runN t 0 = t.length) : dueN t = .num (valN t) := by
  unfold dueN
  rw [if_neg b, if_pos h]
theorem due_2 (b : ¬ badN t 0) (h : runN t 0 ≠ t.length) (h2 : t[runN t 0]? ≠ some 94) : dueN t = .no (runN t 0) := by
  unfold dueN
  rw [if_neg b, if_neg h, if_pos h2]
theorem due_3 (b : ¬ badN t 0) (h : runN t 0 ≠ t.length) (h2 : t[runN t 0]? = some 94) (b2 : badN t (runN t 0 + 1)) : dueN t = .no (runN t 0 + 1) := by
  unfold dueN
  rw [if_neg b, if_neg h, if_neg (fun z => z h2), if_pos b2]
theorem due_4 (b : ¬ badN t 0) (h : runN t 0 ≠ t.length) (h2 : t[runN t 0]? = some 94) (b2 : ¬ badN t (runN t 0 + 1)) (h3 : runN t 0 + 1 + runN t (runN t 0 + 1) < t.length) : dueN t = .no (runN t 0 + 1 + runN t (runN t 0 + 1)) := by
  unfold dueN
  rw [if_neg b, if_neg h, if_neg (fun z => z h2), if_neg b2, if_pos h3]
theorem due_5 (b : ¬ badN t 0) (h : runN t 0 ≠ t.length) (h2 : t[runN t 0]? = some 94) (b2 : ¬ badN t (runN t 0 + 1)) (h3 : ¬ runN t 0 + 1 + runN t (runN t 0 + 1) < t.length) (h4 : 200 < valN (t.drop (runN t 0 + 1))) : dueN t = .no (runN t 0 + 1) := by
  unfold dueN
  rw [if_neg b, if_neg h, if_neg (fun z => z h2), if_neg b2, if_neg h3, if_pos h4]
theorem due_6 (b : ¬ badN t 0) (h : runN t 0 ≠ t.length) (h2 : t[runN t 0]? = some 94) (b2 : ¬ badN t (runN t 0 + 1)) (h3 : ¬ runN t 0 + 1 + runN t (runN t 0 + 1) < t.length) (h4 : ¬ 200 < valN (t.drop (runN t 0 + 1))) : dueN t = .num (valN (t.take (runN t 0)) ^ valN (t.drop (runN t 0 + 1))) := by
  unfold dueN
  rw [if_neg b, if_neg h, if_neg (fun z => z h2), if_neg b2, if_neg h3, if_neg h4]
end
theorem whole_int {z : PySem.Str} (hl : z.length ≤ 210) (b : ¬ badN (tl z) 0) (h : runN (tl z) 0 = (tl z).length) : PySem.intText? z = some ((valN (tl z) : Nat) : Int) := by
  have h1 := (run_num b).1
  rw [List.drop_zero, h, List.take_length] at h1
  exact int_of h1 (by rw [← h1, ← len_is]; omega)
/-- the two parts of base^exponent -/
theorem two_ints {z : PySem.Str} (hl : z.length ≤ 210) (b : ¬ badN (tl z) 0) (hk : runN (tl z) 0 < z.length) (b2 : ¬ badN (tl z) (runN (tl z) 0 + 1)) (h3 : ¬ runN (tl z) 0 + 1 + runN (tl z) (runN (tl z) 0 + 1) < (tl z).length) :
    PySem.intText? (cutS z none (some ((runN (tl z) 0 : Nat) : Int))) = some ((valN ((tl z).take (runN (tl z) 0)) : Nat) : Int) ∧ (cutS z none (some ((runN (tl z) 0 : Nat) : Int))).length ≤ 640 ∧
    PySem.intText? (cutS z (some ((runN (tl z) 0 + 1 : Nat) : Int)) (some ((runN (tl z) 0 + 1 + runN (tl z) (runN (tl z) 0 + 1) : Nat) : Int))) = some ((valN ((tl z).drop (runN (tl z) 0 + 1)) : Nat) : Int) ∧
    (cutS z (some ((runN (tl z) 0 + 1 : Nat) : Int)) (some ((runN (tl z) 0 + 1 + runN (tl z) (runN (tl z) 0 + 1) : Nat) : Int))).length ≤ 640 ∧ valN ((tl z).take (runN (tl z) 0)) < 2 ^ 700 := by
  have hr := run_le (tl z) (runN (tl z) 0 + 1)
  have e := len_is z
  have h1 := (run_num b).1
  rw [List.drop_zero] at h1
  have h2 := (run_num b2).1
  have c1 : tl (cutS z none (some ((runN (tl z) 0 : Nat) : Int))) = numL (valN ((tl z).take (runN (tl z) 0))) := by
    rw [tl_cutTo z (by omega)]
    exact h1
  have hd : runN (tl z) (runN (tl z) 0 + 1) = ((tl z).drop (runN (tl z) 0 + 1)).length := by
    rw [List.length_drop]
    omega
  have h2' : (tl z).drop (runN (tl z) 0 + 1) = numL (valN ((tl z).drop (runN (tl z) 0 + 1))) := by
    rw [hd, List.take_length] at h2
    exact h2
  have c2 : tl (cutS z (some ((runN (tl z) 0 + 1 : Nat) : Int)) (some ((runN (tl z) 0 + 1 + runN (tl z) (runN (tl z) 0 + 1) : Nat) : Int))) = numL (valN ((tl z).drop (runN (tl z) 0 + 1))) := by
    rw [tl_cut z (by omega) (by omega), Nat.add_sub_cancel_left, hd, List.take_length]
    exact h2'
  have l1 := cutS_length z none (some ((runN (tl z) 0 : Nat) : Int))
  have l2 := cutS_length z (some ((runN (tl z) 0 + 1 : Nat) : Int)) (some ((runN (tl z) 0 + 1 + runN (tl z) (runN (tl z) 0 + 1) : Nat) : Int))
  refine ⟨int_of c1 (by rw [← c1, ← len_is]; omega), by omega, int_of c2 (by rw [← c2, ← len_is]; omega), by omega, ?_⟩
  have dig := run_dg (t := tl z) (f := 0)
  rw [List.drop_zero] at dig
  refine Nat.lt_of_lt_of_le (val_lt _ dig) ?_
  have h210 : 10 ^ 210 ≤ 2 ^ 700 := by decide +kernel
  refine Nat.le_trans (Nat.pow_le_pow_right (Nat.succ_pos 9) ?_) h210
  rw [List.length_take]
  omega
/-! ### told and due alike -/
theorem ne_one {K : PySem.W.Frag} {H : Hp} {Q : VK} {x y : V} {d : PyData} (h1 : Dp K H x d) (h2 : Dp K H y d) (sh : SeqAt.shaped d = true) (e : PyData.eqv d d = true) (q : Q (.bl false) H) : rNeD K x y H Q := ⟨d, d, h1, h2, sh, sh, by rw [e]; exact q⟩
theorem eq_one {K : PySem.W.Frag} {H : Hp} {Q : VK} {x y : V} {d : PyData} (h1 : Dp K H x d) (h2 : Dp K H y d) (sh : SeqAt.shaped d = true) (e : PyData.eqv d d = true) (q : Q (.bl true) H) : rEqD K x y H Q := ⟨d, d, h1, h2, sh, sh, by rw [e]; exact q⟩
/-- a kind and its number -/
def dX (x : PySem.Str) (i : Int) : PyData := .tuple [.str x, .int i]
theorem sh_X {x : PySem.Str} (i : Int) (hx : PyData.strOk x = true := by decide +kernel) : SeqAt.shaped (dX x i) = true := by
  unfold SeqAt.shaped dX
  simp [PyData.canLay0, PyData.canLayAll0, PyData.depth, PyData.depthAll, hx]
theorem eqv_X (x : PySem.Str) (i : Int) : PyData.eqv (dX x i) (dX x i) = true := by
  unfold dX
  simp [PyData.eqv, PyData.eqvAll]
theorem dp_X {K : PySem.W.Frag} {H : Hp} {t : Addr} {x : PySem.Str} {i : Int} (h : H t = some (.tup [.str x, .int i])) : Dp K H (.ref t) (dX x i) := .tup (SqT.of h) (.cons (.str _) (.cons (.int _) .nil))
/-! ### lengths of texts -/
theorem len_app (x y : PySem.Str) : (x ++ y).length = x.length + y.length := by
  rw [len_is, len_is, len_is, tl_append, List.length_append]
theorem len_one (c : Nat) : (⟨#[c]⟩ : PySem.Str).length = 1 := rfl
/-- a text of at most so many signs -/
def Tx (b : Nat) (v : V) : Prop := ∃ z : PySem.Str, v = .str z ∧ z.length ≤ b
theorem Tx.mono {b c : Nat} {v : V} (h : Tx b v) (le : b ≤ c) : Tx c v := let ⟨z, e, hz⟩ := h; ⟨z, e, Nat.le_trans hz le⟩
theorem len_join : ∀ ys : List PySem.Str, (Str.join "" ys).length = (ys.map (·.length)).sum
  | [] => rfl
  | [x] => by simp [Str.join]
  | x :: y :: r => by
    have h := len_join (y :: r)
    have h0 : ("" : PySem.Str).length = 0 := by decide +kernel
    show (x ++ "" ++ Str.join "" (y :: r)).length = _
    have e : ((x :: y :: r).map (·.length)).sum = x.length + ((y :: r).map (·.length)).sum := by rw [List.map_cons, List.sum_cons]
    rw [len_app, len_app, h, h0, e]
    omega
theorem sum_ones : ∀ {ys : List PySem.Str}, (∀ y ∈ ys, y.length = 1) → (ys.map (·.length)).sum = ys.length
  | [], _ => rfl
  | y :: ys, h => by
    have h1 := h y List.mem_cons_self
    have h2 := sum_ones (ys := ys) fun x hx => h x (List.mem_cons_of_mem _ hx)
    rw [List.map_cons, List.sum_cons, h2, List.length_cons, h1]
    omega
theorem none_left {xs : List V} : xs.filterMap (fun _ => (none : Option V)) = [] := by
  induction xs with
  | nil => rfl
  | cons a xs ih => rw [List.filterMap_cons, ih]
end Pn
namespace Pn
open PySem PySem.Spec PyProof.Rows L2
local macro_rules | `(tactic| walk_at "w") => `(tactic| try simp only [w_var, w_c, w_op, w_I0, w_I, w_un, w_U, w_eq, w_ne, w_test, w_B, w_and, w_or, w_not, w_andV, w_orV, w_notV, w_ife, w_nil, w_cons, w_fn, w_cb, w_tup, w_lst, w_seq, w_next, w_brk, w_ct, w_drop, w_ret, w_retN, w_ifS, w_asgN, w_asgT, w_asgS, w_gName, w_gNil, w_gCons, w_par, w_aug, w_ipI, w_sl, w_np, w_part, w_bm, w_bm0, w_cxK, w_bits, w_forL, w_forT, w_for1, w_for2, w_for3, w_lc3, w_lcL, w_lcT, w_lc1, w_lc2, w_yes, w_tru, wipe, scal,
   L2.start, List.map_cons, List.map_nil, List.length_cons, List.length_nil, List.replicate, List.cons_append, List.nil_append, Nat.reduceAdd, Nat.reduceSub, Nat.zero_add,
   List.getElem?_cons_zero, List.getElem?_cons_succ, List.set_cons_zero, List.set_cons_succ, Option.some.injEq, V.int.injEq, V.bl.injEq, V.ref.injEq, V.str.injEq, exists_eq_left, exists_eq_left', exists_and_left, exists_and_right, exists_eq', exists_eq, and_assoc, and_true, true_and, decide_eq_true_eq, Bool.not_eq_true', decide_eq_false_iff_not, List.cons.injEq, if_true, if_false, Bool.true_eq_false, Bool.false_eq_true, ite_true, ite_false, reduceIte, reduceCtorEq, not_true_eq_false, not_false_eq_true, decide_true, decide_false, Bool.not_true, Bool.not_false, false_and, and_false, exists_false, false_or, or_false])
local macro_rules | `(tactic| walk_at "lk") => `(tactic| first | assumption | exact upd_same | exact Eq.trans (upd_ne (by walk_at "ne")) (by walk_at "lk"))
local macro_rules | `(tactic| walk_at "ne") => `(tactic| first | assumption | exact Ne.symm (by assumption) | exact ne_fresh (by assumption) (by walk_at "lk") | exact Ne.symm (ne_fresh (by assumption) (by walk_at "lk")))
local macro_rules | `(tactic| walk_at "sq") => `(tactic| first | assumption | exact SqL.of (by walk_at "lk"))
local macro_rules | `(tactic| walk_at "ix") => `(tactic| (refine r_ixL (by walk_at "sq") (by rfl) ?_; walk_at "w"))
local macro_rules | `(tactic| walk_at "st") => `(tactic| (refine r_setL (by walk_at "lk") (by rfl) ?_; walk_at "w"))
local macro_rules | `(tactic| walk_at "d") => `(tactic| (walk_at "w"; (try simp only [w_dget, w_dget2, w_dput, w_dnew, w_lv, w_augS, w_lockE, w_lcK, w_isB, w_notB]); walk_at "w"))
local macro_rules | `(tactic| walk_at "e") => `(tactic| (walk_at "d"; (try simp only [SetL.w_sortSet]); walk_at "d"))
local macro_rules | `(tactic| walk_at "f") => `(tactic| (walk_at "d"; (try simp only [TupE.w_lcTe, TupE.w_lcE]); walk_at "d"))
local macro_rules | `(tactic| walk_at "o1") => `(tactic| (try simp only [w_fld, w_sfld, w_mt, w_mk, w_forI, w_forV, w_frz, w_lcV, w_lockS, w_asgL, w_gSub, w_minV]))
local macro_rules | `(tactic| walk_at "o") => `(tactic| (walk_at "d"; walk_at "o1"; walk_at "d"; walk_at "o1"; walk_at "d"))
local macro_rules | `(tactic| walk_at "x1") => `(tactic| (try simp only [w_fnX, w_mtX, w_bmF, w_m1, w_mkV, w_strE, w_raise, w_xf, w_binit, w_ost, w_tryK, w_keep]))
local macro_rules | `(tactic| walk_at "x") => `(tactic| (walk_at "o"; walk_at "x1"; walk_at "o"; walk_at "x1"; walk_at "o"))
def top (i : Nat) : Stmt := PySem.Challenge.pw_powernumbers_k03_texts_of_no_numbers.main.body.getD i (.Pass ⟨0, 0, 0, 0⟩)
structure Bt (mg : PySem.Str → Option Value) : Prop where
  range : mg "range" = none
  len : mg "len" = none
  sum : mg "sum" = none
  min : mg "min" = none
  max : mg "max" = none
  abs : mg "abs" = none
  sorted : mg "sorted" = none
  isinstance : mg "isinstance" = none
  enumerate : mg "enumerate" = none
  zip : mg "zip" = none
  int : mg "int" = none
  bool : mg "bool" = none
  str : mg "str" = none
  list : mg "list" = none
  tuple : mg "tuple" = none
  dict : mg "dict" = none
  set : mg "set" = none
  ValueError : mg "ValueError" = none
abbrev s_NoNumber___init__ : Stmt := inClass (top 2) 0
theorem sc_NoNumber___init__ : FnScope ["self", "place"] ["self", "place"] (defScope s_NoNumber___init__) := ⟨rfl, rfl, rfl, by decide +kernel, rfl, by decide +kernel, by decide +kernel⟩
abbrev sp_NoNumber___init__ (K : PySem.W.Frag) : Sp := spE K "NoNumber" "place" isPl
section
variable {P : Program} {w : World} {K : PySem.W.Frag} {mg : PySem.Str → Option Value} {base : Heap}
theorem bi_NoNumber___init__ {f : Addr} {fd : FuncData} (F : Fun K "__init__" "NoNumber.__init__" s_NoNumber___init__ f fd) : Binds K fd ["self", "place"] [] := F.binds (ps := ["self", "place"]) fun _ _ _ _ _ _ us hl => match us, hl with | [_, _], _ => rfl
set_option maxHeartbeats 4000000 in
theorem ok_NoNumber___init__ {f : Addr} {fd : FuncData} (F : Fun K "__init__" "NoNumber.__init__" s_NoNumber___init__ f fd) (B : Bt mg) (g_BI_PowerError : BI K mg "PowerError") (g_EC_NoNumber : EC K mg "NoNumber") (g_ET_NoNumber : ET K "NoNumber" "place" [("NoAsk", false), ("NoFactor", false), ("NoNumber", true), ("PowerError", true)])  : FnOk P w K mg base CX0 1 f fd ["self", "place"] (sp_NoNumber___init__ K) := by
  refine F.ok sc_NoNumber___init__ (fun vs H Q E h => ?_) (fun cdv A outer s H vs Q E hr h => ?_)
  · obtain ⟨a, v, rfl, ⟨p, rfl, hp⟩, ha, q⟩ := h
    rfl
  · obtain ⟨a, v, rfl, ⟨p, rfl, hp⟩, ha, q⟩ := h
    refine ⟨_, (pss_cons (ps_expr (k_binit g_BI_PowerError (by rfl) (pa_cons (pv 0) (pa_cons (pe_op op_add_str pe_str (pe_callTy call_str_int (by rfl) B.str (by decide +kernel) (pa_cons (pv 1) pa_nil))) pa_nil))))
      (pss_one (ps_ost (pv 0) (pv 1)))), ?_⟩
    walk_at "x"
    have hp2 : p < 2 ^ 1000 := Nat.lt_of_le_of_lt hp (by decide +kernel)
    have lp := numL_short hp2
    have ln : (PySem.Str.ofString (toString (p : Int))).length = (TL.numL p).length := by rw [len_is, TL.tl_num]
    have l0 : ("no number by place " : PySem.Str).length = 19 := by decide +kernel
    refine ⟨?_, ?_, by decide, clA K "NoNumber", g_EC_NoNumber.ox, ha, clA K "NoNumber", g_EC_NoNumber.ox, g_ET_NoNumber.no, .inl ⟨ha, fun d hd hda => q d hd hda⟩⟩
    · have := log2_le_of_le (Nat.le_of_lt hp2)
      rw [Int.natAbs_natCast]
      generalize 2 ^ 1000 = w at hp2
      omega
    · rw [ln, l0]
      exact Nat.le_of_lt (size_le' (by omega))
end
abbrev s_NoFactor___init__ : Stmt := inClass (top 3) 0
theorem sc_NoFactor___init__ : FnScope ["self", "number"] ["self", "number"] (defScope s_NoFactor___init__) := ⟨rfl, rfl, rfl, by decide +kernel, rfl, by decide +kernel, by decide +kernel⟩
abbrev sp_NoFactor___init__ (K : PySem.W.Frag) : Sp := spE K "NoFactor" "number" fun _ => True
section
variable {P : Program} {w : World} {K : PySem.W.Frag} {mg : PySem.Str → Option Value} {base : Heap}
theorem bi_NoFactor___init__ {f : Addr} {fd : FuncData} (F : Fun K "__init__" "NoFactor.__init__" s_NoFactor___init__ f fd) : Binds K fd ["self", "number"] [] := F.binds (ps := ["self", "number"]) fun _ _ _ _ _ _ us hl => match us, hl with | [_, _], _ => rfl
set_option maxHeartbeats 4000000 in
theorem ok_NoFactor___init__ {f : Addr} {fd : FuncData} (F : Fun K "__init__" "NoFactor.__init__" s_NoFactor___init__ f fd) (B : Bt mg) (g_BI_PowerError : BI K mg "PowerError") (g_EC_NoFactor : EC K mg "NoFactor") (g_ET_NoFactor : ET K "NoFactor" "number" [("NoAsk", false), ("NoFactor", true), ("NoNumber", false), ("PowerError", true)])  : FnOk P w K mg base CX0 1 f fd ["self", "number"] (sp_NoFactor___init__ K) := by
  refine F.ok sc_NoFactor___init__ (fun vs H Q E h => ?_) (fun cdv A outer s H vs Q E hr h => ?_)
  · obtain ⟨a, v, rfl, _, ha, q⟩ := h
    rfl
  · obtain ⟨a, v, rfl, _, ha, q⟩ := h
    refine ⟨_, (pss_cons (ps_expr (k_binit g_BI_PowerError (by rfl) (pa_cons (pv 0) (pa_cons pe_str pa_nil))))
      (pss_one (ps_ost (pv 0) (pv 1)))), ?_⟩
    walk_at "x"
    refine ⟨by decide, clA K "NoFactor", g_EC_NoFactor.ox, ha, ?_⟩
    walk_at "x"
    exact ⟨clA K "NoFactor", g_EC_NoFactor.ox, g_ET_NoFactor.no, .inl ⟨ha, fun d hd hda => q d hd hda⟩⟩
end
abbrev s_taken : Stmt := top 8
theorem sc_taken : FnScope ["base", "exponent", "found"] ["base", "exponent"] (defScope s_taken) := ⟨rfl, rfl, rfl, by decide +kernel, rfl, by decide +kernel, by decide +kernel⟩
def sp_taken (K : PySem.W.Frag) : Sp := fun vs H Q _ => ∃ (b e a : Nat), vs = [.int (b : Int), .int (e : Int)] ∧ (b < 2 ^ a ∨ e = 0) ∧ a * e ≤ 300000 ∧ Q (.int ((b ^ e : Nat) : Int)) H
section
variable {P : Program} {w : World} {K : PySem.W.Frag} {mg : PySem.Str → Option Value} {base : Heap}
theorem bi_taken {f : Addr} {fd : FuncData} (F : Fun K "taken" "taken" s_taken f fd) : Binds K fd ["base", "exponent"] [] := F.binds (ps := ["base", "exponent"]) fun _ _ _ _ _ _ us hl => match us, hl with | [_, _], _ => rfl
set_option maxHeartbeats 4000000 in
theorem ok_taken {f : Addr} {fd : FuncData} (F : Fun K "taken" "taken" s_taken f fd) (B : Bt mg)   : FnOk P w K mg base CX0 1 f fd ["base", "exponent"] (sp_taken K) := by
  refine F.ok sc_taken (fun vs H Q E h => ?_) (fun cdv A outer s H vs Q E hr h => ?_)
  · obtain ⟨b, e, a, rfl, hb, ha, q⟩ := h
    rfl
  · obtain ⟨b, e, a, rfl, hb, ha, q⟩ := h
    refine ⟨_, (pss_cons (ps_set (i := 2) sc_taken.nd rfl (Or.inl rfl) pe_int)
      (pss_cons (ps_while PassesOwn.never (pt_cmpR op_gt (pv 1) pe_int (nomark _))
        (pss_cons (ps_if (pt_cmpR op_eq (pe_op op_mod (pv 1) pe_int) pe_int (nomark _))
          (pss_one (ps_set (i := 2) sc_taken.nd rfl (Or.inl rfl) (pe_op op_mulW (pv 2) (pv 0))))
          pss_nil)
        (pss_cons (ps_set (i := 0) sc_taken.nd rfl (Or.inl rfl) (pe_op op_mulW (pv 0) (pv 0)))
        (pss_one (ps_set (i := 1) sc_taken.nd rfl (Or.inl rfl) (pe_op op_fdiv (pv 1) pe_int))))))
      (pss_one (ps_ret (pv 2))))), ?_⟩
    walk_at "w"
    have hX : b ^ e ≤ 2 ^ (a * e) := by
      rcases hb with hb | rfl
      · rw [Nat.pow_mul]
        exact Nat.pow_le_pow_left (by omega) e
      · simp
    refine while_m (fun m σ H' => ∃ f b' e' : Nat, σ = [some (.int b'), some (.int e'), some (.int f)] ∧ H' = H ∧ e' = m ∧ f * b' ^ e' = b ^ e ∧ f ≤ 2 ^ (a * e) ∧ (0 < e' → b' ≤ 2 ^ (a * e)) ∧ (f = 0 → b' = 0)) e ?_ ?_
    · refine ⟨1, b, e, rfl, rfl, rfl, by simp, Nat.one_le_two_pow, fun he => ?_, by omega⟩
      exact Nat.le_trans (Nat.le_self_pow (by omega) b) hX
    · rintro m σ H' ⟨f, b', e', rfl, rfl, rfl, h1, h2, h3, h4⟩ G hG
      walk_at "w"
      refine ite2 (fun hc => hG _ _ fun N hN => ?_) (fun hc => ?_)
      · have he : 0 < e' := by omega
        have hl1 := log2_le_of_le h2
        have hl2 := log2_le_of_le (h3 he)
        walk_at "w"
        refine ⟨by decide, ite2 (fun ho => ?_) (fun ho => ?_)⟩
        · have ho' : e' % 2 = 1 := by omega
          refine ⟨cmulN (by omega), cmulN (by omega), by unfold CDiv; omega, hN (e' / 2) _ _ (by omega) ⟨f * b', b' * b', e' / 2, by simp, rfl, rfl, tk_step1 h1 ho', tk_odd h1 hX he, fun h0 => ?_, fun h0 => ?_⟩⟩
          · rcases Nat.eq_zero_or_pos f with hf | hf
            · simp [h4 hf]
            · exact tk_sq h1 hX (by omega) h4
          · rcases Nat.mul_eq_zero.mp h0 with hf | hf
            · simp [h4 hf]
            · simp [hf]
        · have ho' : e' % 2 = 0 := by omega
          refine ⟨cmulN (by omega), by unfold CDiv; omega, hN (e' / 2) _ _ (by omega) ⟨f, b' * b', e' / 2, by simp, rfl, rfl, tk_step0 h1 ho', h2, fun h0 => tk_sq h1 hX (by omega) h4, fun h0 => by simp [h4 h0]⟩⟩
      · have he : e' = 0 := by omega
        subst he
        rw [Nat.pow_zero, Nat.mul_one] at h1
        rw [h1]
        exact q
end
abbrev s_figures_from : Stmt := top 9
theorem sc_figures_from : FnScope ["text", "first", "last"] ["text", "first"] (defScope s_figures_from) := ⟨rfl, rfl, rfl, by decide +kernel, rfl, by decide +kernel, by decide +kernel⟩
def sp_figures_from (K : PySem.W.Frag) : Sp := fun vs H Q E => ∃ (z : PySem.Str) (f : Nat), vs = [.str z, .int (f : Int)] ∧ f ≤ z.length ∧ z.length ≤ 10000 ∧ (badN (TL.tl z) f → ∀ d, H d = none → E (.ref (clA K "NoNumber")) (some d) (upd H d (.xd [("place", .int (f : Int))]))) ∧ (¬ badN (TL.tl z) f → Q (.int ((f + runN (TL.tl z) f : Nat) : Int)) H)
section
variable {P : Program} {w : World} {K : PySem.W.Frag} {mg : PySem.Str → Option Value} {base : Heap}
theorem bi_figures_from {f : Addr} {fd : FuncData} (F : Fun K "figures_from" "figures_from" s_figures_from f fd) : Binds K fd ["text", "first"] [] := F.binds (ps := ["text", "first"]) fun _ _ _ _ _ _ us hl => match us, hl with | [_, _], _ => rfl
set_option maxHeartbeats 4000000 in
theorem ok_figures_from {f : Addr} {fd : FuncData} (F : Fun K "figures_from" "figures_from" s_figures_from f fd) (B : Bt mg) (g_FIGURES : GS mg "FIGURES" "0123456789") (h_NoNumber___init__ : FnE P w K mg base 1 "NoNumber" ["self", "place"] (sp_NoNumber___init__ K)) : FnOk P w K mg base (L2.CX P w) 3 f fd ["text", "first"] (sp_figures_from K) := by
  refine F.okX sc_figures_from (fun vs H Q E h => ?_) (fun cdv A outer s H vs Q E hr h => ?_)
  · obtain ⟨z, f, rfl, hf, hl, q0, q1⟩ := h
    rfl
  · obtain ⟨z, f, rfl, hf, hl, q0, q1⟩ := h
    refine ⟨_, (pss_cons (ps_set (i := 2) sc_figures_from.nd rfl (Or.inl rfl) (pv 1))
      (pss_cons (ps_while (passes_of rfl) (PW.pt (pw_and (pt_cmpR op_lt (pv 2) (pe_callB call_len_str (by rfl) B.len (by decide +kernel) (pa_cons (pv 0) pa_nil)) (nomark _)) (pw_and1 (pt_cmpR op_in_sign (pe_ix ix_str (pv 0) (pv 2) (fun _ _ => rfl)) (k_globS g_FIGURES (by rfl)) (by rfl)))))
        (pss_one (ps_set (i := 2) sc_figures_from.nd rfl (Or.inl rfl) (pe_op op_add (pv 2) pe_int))))
      (pss_cons (ps_if (PW.pt (pw_or (pt_cmpR op_eq (pv 2) (pv 1) (nomark _)) (pw_or1 (PW.pt (pw_and (pt_cmpR op_eq (pe_ix ix_str (pv 0) (pv 1) (fun _ _ => rfl)) pe_str (nomark _)) (pw_and1 (pt_cmpR op_gt (pe_op op_sub (pv 2) (pv 1)) pe_int (nomark _))))))))
        (pss_one (k_raise rfl (takes_of rfl rfl rfl rfl) h_NoNumber___init__ (hr.mono (by decide)) (by rfl) (pv 1)))
        pss_nil)
      (pss_one (ps_ret (pv 2)))))), ?_⟩
    walk_at "x"
    have hsz : z.length ≤ sizeLine := size_le' (by omega)
    refine while_m (fun m σ H' => ∃ k : Nat, σ = [some (.str z), some (.int (f : Int)), some (.int ((f + k : Nat) : Int))] ∧ H' = H ∧ k ≤ runN (TL.tl z) f ∧ runN (TL.tl z) f - k = m) (runN (TL.tl z) f) ⟨0, rfl, rfl, by omega, by omega⟩ ?_
    rintro m σ H' ⟨k, rfl, rfl, hk, rfl⟩ G hG
    walk_at "x"
    refine ⟨hsz, ite2 (fun hlt => ?_) (fun hlt => ?_)⟩
    · obtain ⟨c, h1, h2⟩ := sign_at hk (by omega)
      refine r_ixS hsz h1 ?_
      walk_at "x"
      refine ⟨c, rfl, ?_⟩
      have h3 : decide (c ∈ TL.tl ("0123456789" : PySem.Str)) = dg c := decide_eq_decide.mpr (fig_mem c)
      by_cases hk2 : k < runN (TL.tl z) f
      · rw [if_pos (of_decide_eq_true (h3.trans (h2.trans (decide_eq_true hk2))))]
        refine hG _ _ fun N hN => ?_
        have e1 : ((f + k : Nat) : Int) + 1 = ((f + (k + 1) : Nat) : Int) := by omega
        walk_at "w"
        rw [e1]
        exact hN _ _ _ (by omega) ⟨k + 1, rfl, rfl, by omega, rfl⟩
      · rw [if_neg (of_decide_eq_false (h3.trans (h2.trans (decide_eq_false hk2))))]
        have hk3 : k = runN (TL.tl z) f := by omega
        subst hk3
        exact tail_ok hl (by omega) (fun b => ⟨⟨f, rfl, by omega⟩, q0 b⟩) q1
    · have hk3 := run_end hf hk (by omega)
      subst hk3
      exact tail_ok hl (by omega) (fun b => ⟨⟨f, rfl, by omega⟩, q0 b⟩) q1
end
abbrev s_read_number : Stmt := top 10
theorem sc_read_number : FnScope ["text", "last", "end", "exponent"] ["text"] (defScope s_read_number) := ⟨rfl, rfl, rfl, by decide +kernel, rfl, by decide +kernel, by decide +kernel⟩
def sp_read_number (K : PySem.W.Frag) : Sp := fun vs H Q E => ∃ (z : PySem.Str), vs = [.str z] ∧ z.length ≤ 210 ∧ (∀ n, dueN (TL.tl z) = .num n → Q (.int (n : Int)) H) ∧ ∀ p, dueN (TL.tl z) = .no p → ∀ d, H d = none → E (.ref (clA K "NoNumber")) (some d) (upd H d (.xd [("place", .int (p : Int))]))
section
variable {P : Program} {w : World} {K : PySem.W.Frag} {mg : PySem.Str → Option Value} {base : Heap}
theorem bi_read_number {f : Addr} {fd : FuncData} (F : Fun K "read_number" "read_number" s_read_number f fd) : Binds K fd ["text"] [] := F.binds (ps := ["text"]) fun _ _ _ _ _ _ us hl => match us, hl with | [_], _ => rfl
set_option maxHeartbeats 4000000 in
theorem ok_read_number {f : Addr} {fd : FuncData} (F : Fun K "read_number" "read_number" s_read_number f fd) (B : Bt mg) (g_MOST_EXPONENT : GI mg "MOST_EXPONENT" 200) (h_figures_from : Fn P w K mg base (L2.CX P w) 3 "figures_from" ["text", "first"] (sp_figures_from K)) (h_taken : Fn P w K mg base CX0 1 "taken" ["base", "exponent"] (sp_taken K)) (h_NoNumber___init__ : FnE P w K mg base 1 "NoNumber" ["self", "place"] (sp_NoNumber___init__ K)) : FnOk P w K mg base (L2.CX P w) 4 f fd ["text"] (sp_read_number K) := by
  refine F.okX sc_read_number (fun vs H Q E h => ?_) (fun cdv A outer s H vs Q E hr h => ?_)
  · obtain ⟨z, rfl, hl, q1, q0⟩ := h
    rfl
  · obtain ⟨z, rfl, hl, q1, q0⟩ := h
    refine ⟨_, (pss_cons (ps_set (i := 1) sc_read_number.nd rfl (Or.inl rfl) (k_fnX (takes_of rfl rfl rfl rfl) h_figures_from (hr.mono (by decide)) (by rfl) (pa_cons (pv 0) (pa_cons pe_int pa_nil))))
      (pss_cons (ps_if (pt_cmpR op_eq (pv 1) (pe_callB call_len_str (by rfl) B.len (by decide +kernel) (pa_cons (pv 0) pa_nil)) (nomark _))
        (pss_one (ps_ret (pe_callTy call_int_str (by rfl) B.int (by decide +kernel) (pa_cons (pv 0) pa_nil))))
        pss_nil)
      (pss_cons (ps_if (pt_cmpR op_ne (pe_ix ix_str (pv 0) (pv 1) (fun _ _ => rfl)) pe_str (nomark _))
        (pss_one (k_raise rfl (takes_of rfl rfl rfl rfl) h_NoNumber___init__ (hr.mono (by decide)) (by rfl) (pv 1)))
        pss_nil)
      (pss_cons (ps_set (i := 2) sc_read_number.nd rfl (Or.inl rfl) (k_fnX (takes_of rfl rfl rfl rfl) h_figures_from (hr.mono (by decide)) (by rfl) (pa_cons (pv 0) (pa_cons (pe_op op_add (pv 1) pe_int) pa_nil))))
      (pss_cons (ps_if (pt_cmpR op_lt (pv 2) (pe_callB call_len_str (by rfl) B.len (by decide +kernel) (pa_cons (pv 0) pa_nil)) (nomark _))
        (pss_one (k_raise rfl (takes_of rfl rfl rfl rfl) h_NoNumber___init__ (hr.mono (by decide)) (by rfl) (pv 2)))
        pss_nil)
      (pss_cons (ps_set (i := 3) sc_read_number.nd rfl (Or.inl rfl) (pe_callTy call_int_str (by rfl) B.int (by decide +kernel) (pa_cons (pe_slice sl_str (pv 0) (po_some (pe_op op_add (pv 1) pe_int)) (po_some (pv 2))) pa_nil)))
      (pss_cons (ps_if (pt_cmpR op_gt (pv 3) (k_globI g_MOST_EXPONENT (by rfl)) (nomark _))
        (pss_one (k_raise rfl (takes_of rfl rfl rfl rfl) h_NoNumber___init__ (hr.mono (by decide)) (by rfl) (pe_op op_add (pv 1) pe_int)))
        pss_nil)
      (pss_one (ps_ret (pe_fn h_taken (hr.mono (by decide)) (by rfl) (pa_cons (pe_callTy call_int_str (by rfl) B.int (by decide +kernel) (pa_cons (pe_slice sl_str (pv 0) po_none (po_some (pv 1))) pa_nil)) (pa_cons (pv 3) pa_nil)))))))))))), ?_⟩
    walk_at "x"
    have hz := len_is z
    have hr0 := run_le (TL.tl z) 0
    have hsz : z.length ≤ sizeLine := size_le' (by omega)
    refine ⟨z, 0, rfl, by omega, by omega, fun b => q0 0 (due_0 b), fun b => ?_⟩
    rw [Nat.zero_add]
    walk_at "x"
    refine ⟨hsz, ite2 (fun h1 => ?_) (fun h1 => ?_)⟩
    · exact ⟨_, whole_int hl b (by omega), by omega, q1 _ (due_1 b (by omega))⟩
    have hk : runN (TL.tl z) 0 < (TL.tl z).length := by omega
    have hat : (TL.tl z)[runN (TL.tl z) 0]? = some (TL.tl z)[runN (TL.tl z) 0] := List.getElem?_eq_getElem hk
    generalize (TL.tl z)[runN (TL.tl z) 0] = c at hat
    refine r_ixS hsz hat ⟨rfl, ?_⟩
    by_cases e : c = 94
    · subst e
      rw [if_neg fun h => h (by rw [str_hat])]
      rw [show ((runN (TL.tl z) 0 : Nat) : Int) + 1 = ((runN (TL.tl z) 0 + 1 : Nat) : Int) by omega]
      have hr1 := run_le (TL.tl z) (runN (TL.tl z) 0 + 1)
      refine ⟨z, runN (TL.tl z) 0 + 1, rfl, by omega, by omega, fun b2 => q0 _ (due_3 b (by omega) hat b2), fun b2 => ?_⟩
      walk_at "x"
      refine ⟨hsz, ite2 (fun h3 => ⟨⟨_, rfl, by omega⟩, q0 _ (due_4 b (by omega) hat b2 (by omega))⟩) (fun h3 => ?_)⟩
      obtain ⟨t1, t2, t3, t4, t5⟩ := two_ints hl b (by omega) b2 (by omega)
      refine r_slS hsz ⟨_, rfl, _, t3, t4, ?_⟩
      refine ite2 (fun h4 => ⟨⟨_, rfl, by omega⟩, q0 _ (due_5 b (by omega) hat b2 (by omega) (by omega))⟩) (fun h4 => ?_)
      have h5 : valN ((TL.tl z).drop (runN (TL.tl z) 0 + 1)) ≤ 200 := by omega
      refine r_slS hsz ⟨_, rfl, _, t1, t2, _, _, 700, rfl, .inl t5, ?_, q1 _ (due_6 b (by omega) hat b2 (by omega) (by omega))⟩
      exact Nat.le_trans (Nat.mul_le_mul_left 700 h5) (by decide)
    · rw [if_pos fun h => e (by
        rw [str_hat] at h
        injection h with h
        have := congrArg TL.tl h
        simpa using this)]
      refine ⟨⟨_, rfl, by omega⟩, q0 _ (due_2 b (by omega) ?_)⟩
      rw [hat]
      exact fun h => e (Option.some.inj h)
end
abbrev s__law_mix : Stmt := top 12
theorem sc__law_mix : FnScope ["cell", "k", "number"] ["cell", "k"] (defScope s__law_mix) := ⟨rfl, rfl, rfl, by decide +kernel, rfl, by decide +kernel, by decide +kernel⟩
def sp__law_mix (K : PySem.W.Frag) : Sp := fun vs H Q _ => ∃ (c k : Int), vs = [.int c, .int k] ∧ 0 ≤ k ∧ k ≤ 2 ^ 40 ∧ ∀ r : Int, 0 ≤ r → Q (.int r) H
section
variable {P : Program} {w : World} {K : PySem.W.Frag} {mg : PySem.Str → Option Value} {base : Heap}
theorem bi__law_mix {f : Addr} {fd : FuncData} (F : Fun K "_law_mix" "_law_mix" s__law_mix f fd) : Binds K fd ["cell", "k"] [] := F.binds (ps := ["cell", "k"]) fun _ _ _ _ _ _ us hl => match us, hl with | [_, _], _ => rfl
set_option maxHeartbeats 4000000 in
theorem ok__law_mix {f : Addr} {fd : FuncData} (F : Fun K "_law_mix" "_law_mix" s__law_mix f fd) (B : Bt mg)   : FnOk P w K mg base CX0 1 f fd ["cell", "k"] (sp__law_mix K) := by
  refine F.ok sc__law_mix (fun vs H Q E h => ?_) (fun cdv A outer s H vs Q E hr h => ?_)
  · obtain ⟨c, k, rfl, h0, h1, q⟩ := h
    rfl
  · obtain ⟨c, k, rfl, h0, h1, q⟩ := h
    refine ⟨_, (pss_cons (ps_set (i := 2) sc__law_mix.nd rfl (Or.inl rfl) (pe_op op_add (pe_op op_mod (pv 0) pe_int) (pe_op op_mulW (pe_op op_mul pe_int (pv 1)) (pv 1))))
      (pss_cons (ps_set (i := 2) sc__law_mix.nd rfl (Or.inl rfl) (pe_op op_mod (pe_op op_add (pv 2) (pe_op op_mul pe_int (pv 1))) pe_int))
      (pss_cons (ps_set (i := 2) sc__law_mix.nd rfl (Or.inl rfl) (pe_op op_mod (pe_op op_mulW (pv 2) (pv 2)) pe_int))
      (pss_one (ps_ret (pe_op op_fdiv (pe_op op_mod (pe_op op_mulW (pv 2) (pe_op op_add (pv 2) pe_int)) pe_int) pe_int)))))), ?_⟩
    walk_at "w"
    refine ⟨by decide, by unfold CMul; omega, wide_mul (a := 64) (b := 64) (by omega) (by omega) (by decide) (by decide) (by decide), ?_⟩
    generalize 1000003 * k * k = z
    generalize hx : (c % 2147483629 + z + 7919 * k) % 2147483629 = x
    have hx1 : 0 ≤ x ∧ x < 2147483629 := by omega
    generalize hy : x * x % 2147483587 = y
    have hy1 : 0 ≤ y ∧ y < 2147483587 := by omega
    refine ⟨by unfold CMul; omega, by decide, wide_mul (a := 64) (b := 64) (by omega) (by omega) (by decide) (by decide) (by decide), by decide, wide_mul (a := 64) (b := 64) (by omega) (by omega) (by decide) (by decide) (by decide), by decide, by unfold CDiv; omega, q _ ?_⟩
    omega
end
abbrev s__law_deck : Stmt := top 13
theorem sc__law_deck : FnScope ["script"] ["script"] (defScope s__law_deck) := ⟨rfl, rfl, rfl, by decide +kernel, rfl, by decide +kernel, by decide +kernel⟩
def sp__law_deck (K : PySem.W.Frag) : Sp := fun vs H Q _ => ∃ (a : Addr) (ns : List Int), vs = [.ref a] ∧ SqL K H a (ns.map V.int) ∧ ∀ (p l : Addr) (H' : Hp), H p = none → Same H H' → Dk H' p l 0 → Q (.ref p) H'
section
variable {P : Program} {w : World} {K : PySem.W.Frag} {mg : PySem.Str → Option Value} {base : Heap}
theorem bi__law_deck {f : Addr} {fd : FuncData} (F : Fun K "_law_deck" "_law_deck" s__law_deck f fd) : Binds K fd ["script"] [] := F.binds (ps := ["script"]) fun _ _ _ _ _ _ us hl => match us, hl with | [_], _ => rfl
set_option maxHeartbeats 4000000 in
theorem ok__law_deck {f : Addr} {fd : FuncData} (F : Fun K "_law_deck" "_law_deck" s__law_deck f fd) (B : Bt mg)   : FnOk P w K mg base CX0 1 f fd ["script"] (sp__law_deck K) := by
  refine F.ok sc__law_deck (fun vs H Q E h => ?_) (fun cdv A outer s H vs Q E hr h => ?_)
  · obtain ⟨a, ns, rfl, hS, q⟩ := h
    rfl
  · obtain ⟨a, ns, rfl, hS, q⟩ := h
    refine ⟨_, (pss_one (ps_ret (pe_lst (pa_cons (pe_slice (k_slL K) (pv 0) po_none (po_some pe_int)) (pa_cons pe_int (pa_cons pe_int (pa_cons pe_int (pa_cons (pe_callB (k_sum K) (by rfl) B.sum (by decide +kernel) (pa_cons (pe_slice (k_slL K) (pv 0) po_none (po_some pe_int)) pa_nil)) pa_nil)))))))), ?_⟩
    walk_at "w"
    refine r_slL hS fun l hl => r_slL ((same_new hl).seq hS) fun l2 hl2 => ?_
    have e : cutV (ns.map V.int) none (some 63) = (ns.take 63).map V.int := by
      have := cut_to (ns.map V.int) 63
      rw [List.map_take]
      exact this
    rw [e] at hl2 ⊢
    refine r_sum (SqL.of (K := K) upd_same) ⟨by show 5 ≤ sizeLine; decide, fun p hp => ?_⟩
    have n1 := upd_free_ne hp
    have n2 := upd_free_ne (upd_free hp)
    refine q p l _ (upd_free (upd_free hp)) (sm_new (sm_new (same_new hl) (upd_free hl2)) (upd_free (upd_free hp))) ⟨ns.take 63, 0, 0, 0, _, upd_same, n2.symm, by walk_at "lk", by simp; omega, by omega, by omega, by omega, by omega, by omega⟩
end
abbrev s__law_next : Stmt := top 14
theorem sc__law_next : FnScope ["deck", "many", "cell", "found"] ["deck", "many"] (defScope s__law_next) := ⟨rfl, rfl, rfl, by decide +kernel, rfl, by decide +kernel, by decide +kernel⟩
def sp__law_next (K : PySem.W.Frag) : Sp := fun vs H Q _ => ∃ (a l : Addr) (n : Nat) (m : Int), vs = [.ref a, .int m] ∧ Dk H a l n ∧ n ≤ 2 ^ 39 ∧ 1 ≤ m ∧ m < 2 ^ 200 ∧ ∀ (r : Int) (H' : Hp), Kp a H H' → Dk H' a l (n + 1) → 0 ≤ r → r < m → Q (.int r) H'
theorem use_next {K : PySem.W.Frag} {a l : Addr} {n : Nat} {m : Int} {H H0 : Hp} {Q : VK} {E : XK} (k : Kp a H0 H) (d : Dk H a l n) (hn : n ≤ 2 ^ 39) (h1 : 1 ≤ m) (h2 : m < 2 ^ 200)
    (q : ∀ (r : Int) (H' : Hp), Kp a H H' → Kp a H0 H' → Dk H' a l (n + 1) → 0 ≤ r → r < m → Q (.int r) H') : sp__law_next K [.ref a, .int m] H Q E :=
  ⟨a, l, n, m, rfl, d, hn, h1, h2, fun r H' k' d' => q r H' k' (k.trans k') d'⟩
theorem pick_next {K : PySem.W.Frag} {a l p : Addr} {n : Nat} {m : Int} {xs : List V} {H H0 : Hp} {Q : VK} {E : XK} (P : V → Prop) (hP : ∀ x ∈ xs, P x) (k : Kp a H0 H) (d : Dk H a l n) (hn : n ≤ 2 ^ 39) (hp : H p = none) (hm : (xs.length : Int) = m) (h1 : 1 ≤ m) (h2 : m < 2 ^ 200)
    (q : ∀ (v : V) (H' : Hp), P v → Kp a H H' → Kp a H0 H' → Dk H' a l (n + 1) → Q v H') : sp__law_next K [.ref a, .int m] (upd H p (.lst xs)) (fun y H2 => rIxL K (.ref p) y H2 Q) E := by
  have np := d.ne hp
  refine use_next (K := K) (k.trans (sm_kp (same_new hp))) (d.same (same_new hp)) hn h1 h2 fun r H' k' K' d' r0 r1 => ?_
  obtain ⟨v, hv, hat⟩ := atI_mem (xs := xs) r0 (by omega)
  exact r_ixL (SqL.of (k' _ _ np upd_same)) hat (q v H' (hP v hv) ((sm_kp (same_new hp)).trans k') K' d')
/-- a whole number from lo to hi -/
def Btw (lo hi : Nat) (v : V) : Prop := ∃ f : Nat, v = .int (f : Int) ∧ lo ≤ f ∧ f ≤ hi
theorem Btw.mk {lo hi : Nat} {i : Int} (h1 : (lo : Int) ≤ i) (h2 : i ≤ hi) : Btw lo hi (.int i) := ⟨i.toNat, by congr 1; omega, by omega, by omega⟩
section
variable {P : Program} {w : World} {K : PySem.W.Frag} {mg : PySem.Str → Option Value} {base : Heap}
theorem bi__law_next {f : Addr} {fd : FuncData} (F : Fun K "_law_next" "_law_next" s__law_next f fd) : Binds K fd ["deck", "many"] [] := F.binds (ps := ["deck", "many"]) fun _ _ _ _ _ _ us hl => match us, hl with | [_, _], _ => rfl
set_option maxHeartbeats 4000000 in
theorem ok__law_next {f : Addr} {fd : FuncData} (F : Fun K "_law_next" "_law_next" s__law_next f fd) (B : Bt mg)  (h__law_mix : Fn P w K mg base CX0 1 "_law_mix" ["cell", "k"] (sp__law_mix K)) : FnOk P w K mg base CX0 2 f fd ["deck", "many"] (sp__law_next K) := by
  refine F.ok sc__law_next (fun vs H Q E h => ?_) (fun cdv A outer s H vs Q E hr h => ?_)
  · obtain ⟨a, l, n, m, rfl, hD, hn, hm, hm2, q⟩ := h
    rfl
  · obtain ⟨a, l, n, m, rfl, hD, hn, hm, hm2, q⟩ := h
    refine ⟨_, (pss_cons (ps_if (PW.pt (pw_and (pt_cmpR op_eq (pe_ix (k_ixL K) (pv 0) pe_int (fun _ _ => rfl)) pe_int (nomark _)) (pw_and1 (pt_cmpR op_lt (pe_ix (k_ixL K) (pv 0) pe_int (fun _ _ => rfl)) (pe_callB (k_len K) (by rfl) B.len (by decide +kernel) (pa_cons (pe_ix (k_ixL K) (pv 0) pe_int (fun _ _ => rfl)) pa_nil)) (nomark _)))))
        (pss_cons (ps_set (i := 2) sc__law_next.nd rfl (Or.inl rfl) (pe_ix (k_ixL K) (pe_ix (k_ixL K) (pv 0) pe_int (fun _ _ => rfl)) (pe_ix (k_ixL K) (pv 0) pe_int (fun _ _ => rfl)) (fun _ _ => rfl)))
        (pss_cons (ps_asg (pe_op op_add (pe_ix (k_ixL K) (pv 0) pe_int (fun _ _ => rfl)) pe_int) (pg_sub (pv 0) pe_int set_list))
        (pss_cons (ps_if (pt_cmpR op_lt (pv 2) (pe_op op_pow pe_int pe_int) (nomark _))
          (pss_one (ps_ret (pe_op op_mod (pe_fn h__law_mix (hr.mono (by decide)) (by rfl) (pa_cons (pv 2) (pa_cons (pe_ix (k_ixL K) (pv 0) pe_int (fun _ _ => rfl)) pa_nil))) (pv 1))))
          pss_nil)
        (pss_one (ps_asg (pv 2) (pg_sub (pv 0) pe_int set_list))))))
        pss_nil)
      (pss_cons (ps_if (pt_cmpR op_gt (pe_ix (k_ixL K) (pv 0) pe_int (fun _ _ => rfl)) pe_int (nomark _))
        (pss_cons (ps_set (i := 3) sc__law_next.nd rfl (Or.inl rfl) (pe_op op_mod (pe_ix (k_ixL K) (pv 0) pe_int (fun _ _ => rfl)) (pv 1)))
        (pss_cons (ps_asg (pe_op op_fdivW (pe_ix (k_ixL K) (pv 0) pe_int (fun _ _ => rfl)) (pv 1)) (pg_sub (pv 0) pe_int set_list))
        (pss_one (ps_ret (pv 3)))))
        pss_nil)
      (pss_cons (ps_asg (pe_op op_add (pe_ix (k_ixL K) (pv 0) pe_int (fun _ _ => rfl)) pe_int) (pg_sub (pv 0) pe_int set_list))
      (pss_one (ps_ret (pe_op op_mod (pe_fn h__law_mix (hr.mono (by decide)) (by rfl) (pa_cons (pe_ix (k_ixL K) (pv 0) pe_int (fun _ _ => rfl)) (pa_cons (pe_op op_add (pe_ix (k_ixL K) (pv 0) pe_int (fun _ _ => rfl)) pe_int) pa_nil))) (pv 1))))))), ?_⟩
    obtain ⟨ns, i, x, c, s, h1, h2, h3, h4, h5, h6, h7, h8, h9⟩ := hD
    have h3' : ∀ (o : HO), upd H a o l = some (.lst (ns.map V.int)) := fun o => (upd_ne h2).trans h3
    have q' : ∀ (z : Int) (H' : Hp), Kp a H H' → Dk H' a l (n + 1) → Q (.int (z % m)) H' := fun z H' k d => q _ H' k d (Int.emod_nonneg _ (by omega)) (Int.emod_lt_of_pos _ (by omega))
    have q2 : ∀ (z i' x' c' : Int), 0 ≤ i' → i' ≤ ns.length → 0 ≤ x' → 0 ≤ c' → c' ≤ n + 1 → Q (.int (z % m)) (upd H a (.lst [.ref l, .int i', .int x', .int c', .int s])) := fun z i' x' c' a1 a2 a3 a4 a5 =>
      q' z _ (Kp.refl a H).upd ⟨ns, i', x', c', s, upd_same, h2, h3' _, h4, a1, a2, a3, a4, by omega⟩
    have hdv : ∀ z : Int, CDivW z m := fun z => wide_div (b := 200) (by omega) (by omega) (by decide) (by decide)
    have hp : CPow 10 18 := by unfold CPow; omega
    -- an old cell goes on, or all are mixed
    walk_at "w"
    walk_at "ix"
    refine ite2 (fun hx => ?_) (fun hx => ?_)
    · subst hx
      walk_at "ix"
      walk_at "ix"
      refine r_len (SqL.of h3) ?_
      walk_at "w"
      refine ite2 (fun hi => ?_) (fun hi => ?_)
      · rw [List.length_map] at hi
        walk_at "ix"
        walk_at "ix"
        obtain ⟨z, hz, hat⟩ := atI_ints h5 hi
        refine r_ixL (SqL.of h3) hat ?_
        walk_at "ix"
        walk_at "st"
        refine ⟨hp, ite2 (fun hc => ?_) (fun hc => ?_)⟩
        · walk_at "ix"
          refine ⟨z, i + 1, rfl, by omega, by omega, fun r hr0 => ?_⟩
          walk_at "w"
          exact ⟨by omega, q2 r _ _ _ (by omega) (by omega) (by omega) (by omega) (by omega)⟩
        · have hz0 : 0 ≤ z := by
            have e : (10 : Int) ^ Int.toNat 18 = 1000000000000000000 := rfl
            omega
          walk_at "st"
          rw [upd_upd]
          walk_at "ix"
          have e : (10 : Int) ^ Int.toNat 18 = 1000000000000000000 := rfl
          rw [if_pos (by omega)]
          walk_at "ix"
          refine ⟨by omega, ?_⟩
          walk_at "ix"
          refine ⟨hdv _, ?_⟩
          walk_at "st"
          rw [upd_upd]
          exact q2 z _ _ _ (by omega) (by omega) (Int.ediv_nonneg hz0 (by omega)) (by omega) (by omega)
      · walk_at "ix"
        rw [if_neg (by omega)]
        walk_at "ix"
        walk_at "st"
        walk_at "ix"
        walk_at "ix"
        refine ⟨s, _, rfl, by omega, by omega, fun r hr0 => ?_⟩
        walk_at "w"
        exact ⟨by omega, q2 r _ _ _ (by omega) (by omega) (by omega) (by omega) (by omega)⟩
    · walk_at "ix"
      rw [if_pos (by omega)]
      walk_at "ix"
      refine ⟨by omega, ?_⟩
      walk_at "ix"
      refine ⟨hdv _, ?_⟩
      walk_at "st"
      exact q2 x _ _ _ (by omega) (by omega) (Int.ediv_nonneg h7 (by omega)) (by omega) (by omega)
end
abbrev s__law_great : Stmt := top 15
theorem sc__law_great : FnScope ["deck", "most", "found", "k"] ["deck", "most"] (defScope s__law_great) := ⟨rfl, rfl, rfl, by decide +kernel, rfl, by decide +kernel, by decide +kernel⟩
def sp__law_great (K : PySem.W.Frag) : Sp := fun vs H Q _ => ∃ (a l : Addr) (n : Nat) (m : Int), vs = [.ref a, .int m] ∧ Dk H a l n ∧ n ≤ 2 ^ 38 ∧ 1 ≤ m ∧ ∀ (r : Int) (H' : Hp), Kp a H H' → Dk H' a l (n + 8) → 0 ≤ r → r < m → Q (.int r) H'
theorem use_great {K : PySem.W.Frag} {a l : Addr} {n : Nat} {m : Int} {H H0 : Hp} {Q : VK} {E : XK} (k : Kp a H0 H) (d : Dk H a l n) (hn : n ≤ 2 ^ 38) (h1 : 1 ≤ m)
    (q : ∀ (r : Int) (H' : Hp), Kp a H H' → Kp a H0 H' → Dk H' a l (n + 8) → 0 ≤ r → r < m → Q (.int r) H') : sp__law_great K [.ref a, .int m] H Q E :=
  ⟨a, l, n, m, rfl, d, hn, h1, fun r H' k' d' => q r H' k' (k.trans k') d'⟩
section
variable {P : Program} {w : World} {K : PySem.W.Frag} {mg : PySem.Str → Option Value} {base : Heap}
theorem bi__law_great {f : Addr} {fd : FuncData} (F : Fun K "_law_great" "_law_great" s__law_great f fd) : Binds K fd ["deck", "most"] [] := F.binds (ps := ["deck", "most"]) fun _ _ _ _ _ _ us hl => match us, hl with | [_, _], _ => rfl
set_option maxHeartbeats 4000000 in
theorem ok__law_great {f : Addr} {fd : FuncData} (F : Fun K "_law_great" "_law_great" s__law_great f fd) (B : Bt mg)  (h__law_next : Fn P w K mg base CX0 2 "_law_next" ["deck", "many"] (sp__law_next K)) : FnOk P w K mg base CX0 3 f fd ["deck", "most"] (sp__law_great K) := by
  refine F.ok sc__law_great (fun vs H Q E h => ?_) (fun cdv A outer s H vs Q E hr h => ?_)
  · obtain ⟨a, l, n, m, rfl, hD, hn, hm, q⟩ := h
    rfl
  · obtain ⟨a, l, n, m, rfl, hD, hn, hm, q⟩ := h
    refine ⟨_, (pss_cons (ps_set (i := 2) sc__law_great.nd rfl (Or.inl rfl) pe_int)
      (pss_cons (ps_for PassesOwn.never rfl (pi_range1 rfl B.range (pa_cons pe_int pa_nil)) (pg_name (i := 3) sc__law_great.nd rfl (Or.inl rfl))
        (pss_one (ps_set (i := 2) sc__law_great.nd rfl (Or.inl rfl) (pe_op op_add (pe_op op_mulW (pv 2) (pe_op op_pow pe_int pe_int)) (pe_fn h__law_next (hr.mono (by decide)) (by rfl) (pa_cons (pv 0) (pa_cons (pe_op op_pow pe_int pe_int) pa_nil)))))))
      (pss_one (ps_ret (pe_op op_mod (pv 2) (pv 1)))))), ?_⟩
    walk_at "w"
    refine ⟨by decide, by decide, for_r (fun i σ H' => ∃ (z : Int) (v : Option V), σ = [some (.ref a), some (.int m), some (.int z), v] ∧ Kp a H H' ∧ Dk H' a l (n + i) ∧ 0 ≤ z ∧ z + 1 ≤ ((1000000 ^ i : Nat) : Int)) ⟨0, none, rfl, Kp.refl _ _, hD, by omega, by decide⟩ ?_ ?_⟩
    · rintro i σ H' hi ⟨z, v, rfl, k, hd, h0, h1⟩ N hN
      have e8 : (8 : Int).toNat = 8 := rfl
      have hb : 1000000 ^ i ≤ 1000000 ^ 8 := Nat.pow_le_pow_right (by decide) (by omega)
      have hb8 : 1000000 ^ 8 < 2 ^ 200 := by decide
      have ep : (10 : Int) ^ Int.toNat 6 = 1000000 := rfl
      walk_at "w"
      rw [ep]
      refine ⟨by unfold CPow; omega, wide_mul (a := 200) (b := 200) (by omega) (by omega) (by decide) (by decide) (by decide), by unfold CPow; omega, a, l, n + i, 1000000, rfl, hd, by omega, by omega, by omega, fun r H2 k2 d2 r0 r1 => ?_⟩
      walk_at "w"
      refine hN _ _ ⟨z * 1000000 + r, _, rfl, k.trans k2, d2, by omega, ?_⟩
      rw [Nat.pow_succ]
      omega
    · rintro σ H' ⟨z, v, rfl, k, hd, h0, h1⟩
      walk_at "w"
      exact ⟨by omega, q _ _ k (hd.mono (by simp)) (Int.emod_nonneg _ (by omega)) (Int.emod_lt_of_pos _ (by omega))⟩
end
abbrev s__law_a_power : Stmt := top 16
theorem sc__law_a_power : FnScope ["deck", "most", "exponent", "places", "few", "base", "found", "k"] ["deck", "most"] (defScope s__law_a_power) := ⟨rfl, rfl, rfl, by decide +kernel, rfl, by decide +kernel, by decide +kernel⟩
def sp__law_a_power (K : PySem.W.Frag) : Sp := fun vs H Q _ => ∃ (a l : Addr) (n : Nat) (m : Int), vs = [.ref a, .int m] ∧ Dk H a l n ∧ n ≤ 2 ^ 37 ∧ 1 ≤ m ∧ m < 2 ^ 200 ∧ ∀ (r : Int) (H' : Hp), Kp a H H' → Dk H' a l (n + 15) → 1 ≤ r → r ≤ m → Q (.int r) H'
theorem use_a_power {K : PySem.W.Frag} {a l : Addr} {n : Nat} {m : Int} {H H0 : Hp} {Q : VK} {E : XK} (k : Kp a H0 H) (d : Dk H a l n) (hn : n ≤ 2 ^ 37) (h1 : 1 ≤ m) (h2 : m < 2 ^ 200)
    (q : ∀ (r : Int) (H' : Hp), Kp a H H' → Kp a H0 H' → Dk H' a l (n + 15) → 1 ≤ r → r ≤ m → Q (.int r) H') : sp__law_a_power K [.ref a, .int m] H Q E :=
  ⟨a, l, n, m, rfl, d, hn, h1, h2, fun r H' k' d' => q r H' k' (k.trans k') d'⟩
section
variable {P : Program} {w : World} {K : PySem.W.Frag} {mg : PySem.Str → Option Value} {base : Heap}
theorem bi__law_a_power {f : Addr} {fd : FuncData} (F : Fun K "_law_a_power" "_law_a_power" s__law_a_power f fd) : Binds K fd ["deck", "most"] [] := F.binds (ps := ["deck", "most"]) fun _ _ _ _ _ _ us hl => match us, hl with | [_, _], _ => rfl
set_option maxHeartbeats 4000000 in
theorem ok__law_a_power {f : Addr} {fd : FuncData} (F : Fun K "_law_a_power" "_law_a_power" s__law_a_power f fd) (B : Bt mg)  (h__law_next : Fn P w K mg base CX0 2 "_law_next" ["deck", "many"] (sp__law_next K)) (h__law_great : Fn P w K mg base CX0 3 "_law_great" ["deck", "most"] (sp__law_great K)) : FnOk P w K mg base CX0 4 f fd ["deck", "most"] (sp__law_a_power K) := by
  refine F.ok sc__law_a_power (fun vs H Q E h => ?_) (fun cdv A outer s H vs Q E hr h => ?_)
  · obtain ⟨a, l, n, m, rfl, hD, hn, hm, hm2, q⟩ := h
    rfl
  · obtain ⟨a, l, n, m, rfl, hD, hn, hm, hm2, q⟩ := h
    refine ⟨_, (pss_cons (ps_set (i := 2) sc__law_a_power.nd rfl (Or.inl rfl) (pe_ix (k_ixL K) (pe_lst (pa_cons (pe_op op_add pe_int (pe_fn h__law_next (hr.mono (by decide)) (by rfl) (pa_cons (pv 0) (pa_cons pe_int pa_nil)))) (pa_cons (pe_op op_add pe_int (pe_fn h__law_next (hr.mono (by decide)) (by rfl) (pa_cons (pv 0) (pa_cons pe_int pa_nil)))) (pa_cons (pe_op op_add pe_int (pe_fn h__law_next (hr.mono (by decide)) (by rfl) (pa_cons (pv 0) (pa_cons pe_int pa_nil)))) pa_nil)))) (pe_fn h__law_next (hr.mono (by decide)) (by rfl) (pa_cons (pv 0) (pa_cons pe_int pa_nil))) (fun _ _ => rfl)))
      (pss_cons (ps_set (i := 3) sc__law_a_power.nd rfl (Or.inl rfl) (pe_op op_add pe_int (pe_fn h__law_next (hr.mono (by decide)) (by rfl) (pa_cons (pv 0) (pa_cons (pe_op op_add (pe_op op_fdivW pe_int (pe_callB (call_min2 rfl) (by rfl) B.min (by decide +kernel) (pa_cons pe_int (pa_cons (pv 2) pa_nil)))) pe_int) pa_nil)))))
      (pss_cons (ps_set (i := 4) sc__law_a_power.nd rfl (Or.inl rfl) (pe_op op_add pe_int (pe_fn h__law_next (hr.mono (by decide)) (by rfl) (pa_cons (pv 0) (pa_cons pe_int pa_nil)))))
      (pss_cons (ps_set (i := 5) sc__law_a_power.nd rfl (Or.inl rfl) (pe_ix (k_ixL K) (pe_lst (pa_cons (pv 4) (pa_cons (pv 4) (pa_cons (pe_op op_add pe_int (pe_op op_mod (pe_fn h__law_great (hr.mono (by decide)) (by rfl) (pa_cons (pv 0) (pa_cons (pe_op op_pow pe_int pe_int) pa_nil))) (pe_op op_shl pe_int (pe_op op_mul pe_int (pv 3))))) pa_nil)))) (pe_fn h__law_next (hr.mono (by decide)) (by rfl) (pa_cons (pv 0) (pa_cons pe_int pa_nil))) (fun _ _ => rfl)))
      (pss_cons (ps_set (i := 6) sc__law_a_power.nd rfl (Or.inl rfl) pe_int)
      (pss_cons (ps_for PassesOwn.never rfl (pi_range1 rfl B.range (pa_cons (pv 2) pa_nil)) (pg_name (i := 7) sc__law_a_power.nd rfl (Or.inl rfl))
        (pss_one (ps_if (pt_cmpR op_le (pe_op op_mulW (pv 6) (pv 5)) (pv 1) (nomark _))
          (pss_one (ps_set (i := 6) sc__law_a_power.nd rfl (Or.inl rfl) (pe_op op_mulW (pv 6) (pv 5))))
          pss_nil)))
      (pss_one (ps_ret (pv 6))))))))), ?_⟩
    walk_at "w"
    refine use_next (Kp.refl a H) hD (by omega) (by omega) (by omega) fun r1 H1 k1 K1 d1 a1 b1 => ?_
    walk_at "w"
    refine use_next K1 d1 (by omega) (by omega) (by omega) fun r2 H2 k2 K2 d2 a2 b2 => ?_
    walk_at "w"
    refine use_next K2 d2 (by omega) (by omega) (by omega) fun r3 H3 k3 K3 d3 a3 b3 => ?_
    walk_at "w"
    refine ⟨by show 3 ≤ sizeLine; decide, fun p hp => ?_⟩
    have np := d3.ne hp
    refine use_next (K3.trans (sm_kp (same_new hp))) (d3.same (same_new hp)) (by omega) (by omega) (by omega) fun r4 H4 k4 K4 d4 a4 b4 => ?_
    obtain ⟨v, hv, hat⟩ := atI_mem (xs := [.int (2 + r1), .int (2 + r2), .int (2 + r3)]) a4 b4
    obtain ⟨e, rfl, e1, e2⟩ : ∃ e : Int, v = .int e ∧ 2 ≤ e ∧ e ≤ 200 := by
      simp only [List.mem_cons, List.not_mem_nil, or_false] at hv
      rcases hv with rfl | rfl | rfl <;> exact ⟨_, rfl, by omega, by omega⟩
    refine r_ixL (SqL.of (k4 _ _ np upd_same)) hat ?_
    walk_at "w"
    have hmin : ∀ z : Int, z = (if e < 40 then e else 40) → 2 ≤ z ∧ z ≤ 40 := fun z hz => by
      subst hz
      split <;> omega
    generalize hz : (if e < 40 then e else 40) = z
    obtain ⟨z1, z2⟩ := hmin z hz.symm
    have zd : (40 : Int) / z ≤ 20 ∧ 0 ≤ (40 : Int) / z := by
      refine ⟨?_, Int.ediv_nonneg (by decide) (by omega)⟩
      have := Int.ediv_mul_le 40 (b := z) (by omega)
      have : (40 : Int) / z * 2 ≤ 40 / z * z := Int.mul_le_mul_of_nonneg_left z1 (Int.ediv_nonneg (by decide) (by omega))
      omega
    refine ⟨wide_div (b := 10) (by omega) (by omega) (by decide) (by decide), ?_⟩
    refine use_next K4 d4 (by omega) (by omega) (by omega) fun r5 H5 k5 K5 d5 a5 b5 => ?_
    walk_at "w"
    refine use_next K5 d5 (by omega) (by omega) (by omega) fun r6 H6 k6 K6 d6 a6 b6 => ?_
    walk_at "w"
    have ep : (10 : Int) ^ Int.toNat 42 = 1000000000000000000000000000000000000000000 := rfl
    refine ⟨by unfold CPow; omega, ?_⟩
    refine use_great K6 d6 (by omega) (by rw [ep]; decide) fun r7 H7 k7 K7 d7 a7 b7 => ?_
    walk_at "w"
    refine ⟨by unfold CMul; omega, by unfold CPow; omega, ?_⟩
    obtain ⟨j, hj⟩ := Int.eq_ofNat_of_zero_le (show 0 ≤ 3 * (1 + r5) by omega)
    have hj2 : (3 * (1 + r5)).toNat = j := by omega
    have hj3 : j ≤ 63 := by omega
    have hpw : (2 : Nat) ^ j ≤ 2 ^ 63 := Nat.pow_le_pow_right (by decide) hj3
    have hpw0 : 0 < (2 : Nat) ^ j := Nat.two_pow_pos j
    have hs : (1 : Int) * 2 ^ (3 * (1 + r5)).toNat = ((2 ^ j : Nat) : Int) := by
      rw [hj2]
      simp
    rw [hs]
    generalize hy : r7 % ((2 ^ j : Nat) : Int) = y
    have hy1 : 0 ≤ y ∧ y < ((2 ^ j : Nat) : Int) := by
      rw [← hy]
      exact ⟨Int.emod_nonneg _ (by omega), Int.emod_lt_of_pos _ (by omega)⟩
    refine ⟨by omega, by show 3 ≤ sizeLine; decide, fun p2 hp2 => ?_⟩
    have np2 := d7.ne hp2
    refine use_next (K7.trans (sm_kp (same_new hp2))) (d7.same (same_new hp2)) (by omega) (by omega) (by omega) fun r8 H8 k8 K8 d8 a8 b8 => ?_
    obtain ⟨v, hv, hat⟩ := atI_mem (xs := [.int (2 + r6), .int (2 + r6), .int (1 + y)]) a8 b8
    obtain ⟨b, rfl, e3, e4⟩ : ∃ e : Int, v = .int e ∧ 1 ≤ e ∧ e ≤ 2 ^ 64 := by
      simp only [List.mem_cons, List.not_mem_nil, or_false] at hv
      rcases hv with rfl | rfl | rfl <;> exact ⟨_, rfl, by omega, by omega⟩
    refine r_ixL (SqL.of (k8 _ _ np2 upd_same)) hat ?_
    walk_at "w"
    refine ⟨by omega, by omega, for_r (fun i σ H' => ∃ (z : Int) (v : Option V), σ = [some (.ref a), some (.int m), some (.int e), some (.int (1 + r5)), some (.int (2 + r6)), some (.int b), some (.int z), v] ∧ H' = H8 ∧ 1 ≤ z ∧ z ≤ m) ⟨1, none, rfl, rfl, by omega, by omega⟩ ?_ ?_⟩
    · rintro i σ H' hi ⟨z, v, rfl, rfl, h0, h1⟩ N hN
      have hc : CMulW z b := wide_mul (a := 200) (b := 200) (by omega) (by omega) (by decide) (by decide) (by decide)
      walk_at "w"
      refine ⟨hc, ite2 (fun ht => ⟨hc, hN _ _ ⟨z * b, _, rfl, rfl, ?_, ht⟩⟩) (fun ht => hN _ _ ⟨z, _, rfl, rfl, h0, h1⟩)⟩
      have := Int.mul_le_mul h0 e3 (by decide) (by omega)
      omega
    · rintro σ H' ⟨z, v, rfl, rfl, h0, h1⟩
      walk_at "w"
      exact q _ _ K8 d8 h0 h1
end
abbrev s__law_number : Stmt := top 17
theorem sc__law_number : FnScope ["deck", "most", "near", "some"] ["deck", "most"] (defScope s__law_number) := ⟨rfl, rfl, rfl, by decide +kernel, rfl, by decide +kernel, by decide +kernel⟩
def sp__law_number (K : PySem.W.Frag) : Sp := fun vs H Q _ => ∃ (a l : Addr) (n : Nat) (m : Int), vs = [.ref a, .int m] ∧ Dk H a l n ∧ n ≤ 2 ^ 36 ∧ 1 ≤ m ∧ m < 2 ^ 190 ∧ ∀ (r : Int) (H' : Hp), Kp a H H' → Dk H' a l (n + 42) → 0 ≤ r → r ≤ m → Q (.int r) H'
theorem use_number {K : PySem.W.Frag} {a l : Addr} {n : Nat} {m : Int} {H H0 : Hp} {Q : VK} {E : XK} (k : Kp a H0 H) (d : Dk H a l n) (hn : n ≤ 2 ^ 36) (h1 : 1 ≤ m) (h2 : m < 2 ^ 190)
    (q : ∀ (r : Int) (H' : Hp), Kp a H H' → Kp a H0 H' → Dk H' a l (n + 42) → 0 ≤ r → r ≤ m → Q (.int r) H') : sp__law_number K [.ref a, .int m] H Q E :=
  ⟨a, l, n, m, rfl, d, hn, h1, h2, fun r H' k' d' => q r H' k' (k.trans k') d'⟩
section
variable {P : Program} {w : World} {K : PySem.W.Frag} {mg : PySem.Str → Option Value} {base : Heap}
theorem bi__law_number {f : Addr} {fd : FuncData} (F : Fun K "_law_number" "_law_number" s__law_number f fd) : Binds K fd ["deck", "most"] [] := F.binds (ps := ["deck", "most"]) fun _ _ _ _ _ _ us hl => match us, hl with | [_, _], _ => rfl
set_option maxHeartbeats 4000000 in
theorem ok__law_number {f : Addr} {fd : FuncData} (F : Fun K "_law_number" "_law_number" s__law_number f fd) (B : Bt mg)  (h__law_next : Fn P w K mg base CX0 2 "_law_next" ["deck", "many"] (sp__law_next K)) (h__law_great : Fn P w K mg base CX0 3 "_law_great" ["deck", "most"] (sp__law_great K)) (h__law_a_power : Fn P w K mg base CX0 4 "_law_a_power" ["deck", "most"] (sp__law_a_power K)) : FnOk P w K mg base CX0 5 f fd ["deck", "most"] (sp__law_number K) := by
  refine F.ok sc__law_number (fun vs H Q E h => ?_) (fun cdv A outer s H vs Q E hr h => ?_)
  · obtain ⟨a, l, n, m, rfl, hD, hn, hm, hm2, q⟩ := h
    rfl
  · obtain ⟨a, l, n, m, rfl, hD, hn, hm, hm2, q⟩ := h
    refine ⟨_, (pss_cons (ps_set (i := 2) sc__law_number.nd rfl (Or.inl rfl) (pe_op op_sub (pe_op op_add (pe_fn h__law_a_power (hr.mono (by decide)) (by rfl) (pa_cons (pv 0) (pa_cons (pv 1) pa_nil))) (pe_fn h__law_next (hr.mono (by decide)) (by rfl) (pa_cons (pv 0) (pa_cons pe_int pa_nil)))) pe_int))
      (pss_cons (ps_set (i := 3) sc__law_number.nd rfl (Or.inl rfl) (pe_lst (pa_cons (pe_fn h__law_next (hr.mono (by decide)) (by rfl) (pa_cons (pv 0) (pa_cons pe_int pa_nil))) (pa_cons (pe_fn h__law_great (hr.mono (by decide)) (by rfl) (pa_cons (pv 0) (pa_cons (pe_op op_add (pv 1) pe_int) pa_nil))) (pa_cons (pe_fn h__law_a_power (hr.mono (by decide)) (by rfl) (pa_cons (pv 0) (pa_cons (pv 1) pa_nil))) (pa_cons (pv 2) (pa_cons (pe_op op_sub (pv 1) (pe_fn h__law_next (hr.mono (by decide)) (by rfl) (pa_cons (pv 0) (pa_cons pe_int pa_nil)))) pa_nil)))))))
      (pss_one (ps_ret (pe_callB (call_min2 rfl) (by rfl) B.min (by decide +kernel) (pa_cons (pv 1) (pa_cons (pe_callB (call_max2 rfl) (by rfl) B.max (by decide +kernel) (pa_cons pe_int (pa_cons (pe_ix (k_ixL K) (pv 3) (pe_fn h__law_next (hr.mono (by decide)) (by rfl) (pa_cons (pv 0) (pa_cons pe_int pa_nil))) (fun _ _ => rfl)) pa_nil))) pa_nil))))))), ?_⟩
    walk_at "w"
    refine use_a_power (Kp.refl a H) hD (by omega) (by omega) (by omega) fun r1 H1 k1 K1 d1 a1 b1 => ?_
    walk_at "w"
    refine use_next K1 d1 (by omega) (by omega) (by omega) fun r2 H2 k2 K2 d2 a2 b2 => ?_
    walk_at "w"
    refine use_next K2 d2 (by omega) (by omega) (by omega) fun r3 H3 k3 K3 d3 a3 b3 => ?_
    walk_at "w"
    refine use_great K3 d3 (by omega) (by omega) fun r4 H4 k4 K4 d4 a4 b4 => ?_
    walk_at "w"
    refine use_a_power K4 d4 (by omega) (by omega) (by omega) fun r5 H5 k5 K5 d5 a5 b5 => ?_
    walk_at "w"
    refine use_next K5 d5 (by omega) (by omega) (by omega) fun r6 H6 k6 K6 d6 a6 b6 => ?_
    walk_at "w"
    refine ⟨by show 5 ≤ sizeLine; decide, fun p hp => ?_⟩
    have np := d6.ne hp
    refine use_next (K6.trans (sm_kp (same_new hp))) (d6.same (same_new hp)) (by omega) (by omega) (by omega) fun r7 H7 k7 K7 d7 a7 b7 => ?_
    obtain ⟨v, hv, hat⟩ := atI_mem (xs := [.int r3, .int r4, .int r5, .int (r1 + r2 - 2), .int (m - r6)]) a7 b7
    obtain ⟨e, rfl⟩ : ∃ e : Int, v = .int e := by
      simp only [List.mem_cons, List.not_mem_nil, or_false] at hv
      rcases hv with rfl | rfl | rfl | rfl | rfl <;> exact ⟨_, rfl⟩
    refine r_ixL (SqL.of (k7 _ _ np upd_same)) hat ?_
    walk_at "w"
    refine q _ _ K7 (d7.mono (by omega)) ?_ ?_
    · split <;> split at * <;> omega
    · split <;> split at * <;> omega
end
abbrev s__law_taken : Stmt := top 18
theorem sc__law_taken : FnScope ["base", "exponent", "found", "k"] ["base", "exponent"] (defScope s__law_taken) := ⟨rfl, rfl, rfl, by decide +kernel, rfl, by decide +kernel, by decide +kernel⟩
def sp__law_taken (K : PySem.W.Frag) : Sp := fun vs H Q _ => ∃ (b e a : Nat), vs = [.int (b : Int), .int (e : Int)] ∧ b < 2 ^ a ∧ e ≤ 1000000 ∧ a * e ≤ 300000 ∧ Q (.int ((b ^ e : Nat) : Int)) H
section
variable {P : Program} {w : World} {K : PySem.W.Frag} {mg : PySem.Str → Option Value} {base : Heap}
theorem bi__law_taken {f : Addr} {fd : FuncData} (F : Fun K "_law_taken" "_law_taken" s__law_taken f fd) : Binds K fd ["base", "exponent"] [] := F.binds (ps := ["base", "exponent"]) fun _ _ _ _ _ _ us hl => match us, hl with | [_, _], _ => rfl
set_option maxHeartbeats 4000000 in
theorem ok__law_taken {f : Addr} {fd : FuncData} (F : Fun K "_law_taken" "_law_taken" s__law_taken f fd) (B : Bt mg)   : FnOk P w K mg base CX0 1 f fd ["base", "exponent"] (sp__law_taken K) := by
  refine F.ok sc__law_taken (fun vs H Q E h => ?_) (fun cdv A outer s H vs Q E hr h => ?_)
  · obtain ⟨b, e, a, rfl, hb, he, ha, q⟩ := h
    rfl
  · obtain ⟨b, e, a, rfl, hb, he, ha, q⟩ := h
    refine ⟨_, (pss_cons (ps_set (i := 2) sc__law_taken.nd rfl (Or.inl rfl) pe_int)
      (pss_cons (ps_for PassesOwn.never rfl (pi_range1 rfl B.range (pa_cons (pv 1) pa_nil)) (pg_name (i := 3) sc__law_taken.nd rfl (Or.inl rfl))
        (pss_one (ps_set (i := 2) sc__law_taken.nd rfl (Or.inl rfl) (pe_op op_mulW (pv 2) (pv 0)))))
      (pss_one (ps_ret (pv 2))))), ?_⟩
    walk_at "w"
    refine ⟨by omega, by omega, for_r (fun i σ H' => ∃ (v : Option V), σ = [some (.int b), some (.int e), some (.int ((b ^ i : Nat) : Int)), v] ∧ H' = H) ⟨none, by simp, rfl⟩ ?_ ?_⟩
    · rintro i σ H' hi ⟨v, rfl, rfl⟩ N hN
      have hi : i < e := by omega
      have h1 : b ^ i ≤ 2 ^ (a * e) := by
        rw [Nat.pow_mul]
        refine Nat.le_trans (Nat.pow_le_pow_left (Nat.le_of_lt hb) i) (Nat.pow_le_pow_right (Nat.two_pow_pos a) (by omega))
      have h2 : b ≤ 2 ^ (a * e) := Nat.le_trans (Nat.le_of_lt hb) (Nat.pow_le_pow_right (by decide) (Nat.le_mul_of_pos_right a (by omega)))
      have l1 := log2_le_of_le h1
      have l2 := log2_le_of_le h2
      walk_at "w"
      rw [show ((b ^ i : Nat) : Int) * (b : Int) = ((b ^ (i + 1) : Nat) : Int) by simp [Nat.pow_succ]]
      exact ⟨cmulN (by omega), hN _ _ ⟨_, rfl, rfl⟩⟩
    · rintro σ H' ⟨v, rfl, rfl⟩
      walk_at "w"
      exact q
end
abbrev s__law_is_whole : Stmt := top 19
theorem sc__law_is_whole : FnScope ["found", "due"] ["found", "due"] (defScope s__law_is_whole) := ⟨rfl, rfl, rfl, by decide +kernel, rfl, by decide +kernel, by decide +kernel⟩
def sp__law_is_whole (K : PySem.W.Frag) : Sp := fun vs H Q _ => ∃ (x y : Int), vs = [.int x, .int y] ∧ Q (.bl (decide (x = y))) H
section
variable {P : Program} {w : World} {K : PySem.W.Frag} {mg : PySem.Str → Option Value} {base : Heap}
theorem bi__law_is_whole {f : Addr} {fd : FuncData} (F : Fun K "_law_is_whole" "_law_is_whole" s__law_is_whole f fd) : Binds K fd ["found", "due"] [] := F.binds (ps := ["found", "due"]) fun _ _ _ _ _ _ us hl => match us, hl with | [_, _], _ => rfl
set_option maxHeartbeats 4000000 in
theorem ok__law_is_whole {f : Addr} {fd : FuncData} (F : Fun K "_law_is_whole" "_law_is_whole" s__law_is_whole f fd) (B : Bt mg)   : FnOk P w K mg base CX0 1 f fd ["found", "due"] (sp__law_is_whole K) := by
  refine F.ok sc__law_is_whole (fun vs H Q E h => ?_) (fun cdv A outer s H vs Q E hr h => ?_)
  · obtain ⟨x, y, rfl, q⟩ := h
    rfl
  · obtain ⟨x, y, rfl, q⟩ := h
    refine ⟨_, (pss_one (ps_ret (pe_and (pe_callB (k_isi K) (by rfl) B.isinstance (by decide +kernel) (pa_cons (pv 0) (pa_cons (pe_bltn (v := .ty "int") (u := .type "int") (by rfl) B.int (by decide +kernel) rfl) pa_nil))) (pe_and (pe_not (pe_callB (k_isi K) (by rfl) B.isinstance (by decide +kernel) (pa_cons (pv 0) (pa_cons (pe_bltn (v := .ty "bool") (u := .type "bool") (by rfl) B.bool (by decide +kernel) rfl) pa_nil)))) (pe_one (pe_cmpR op_eq (pv 0) (pv 1) (nomark _))))))), ?_⟩
    walk_at "w"
    refine r_isi (ty_int x) (c := true) (by decide +kernel) ?_
    walk_at "w"
    refine r_isi (ty_int x) (c := false) (by decide +kernel) ?_
    walk_at "w"
    exact q
end
abbrev s__law_kind : Stmt := top 21
theorem sc__law_kind : FnScope ["caught", "kinds"] ["caught"] (defScope s__law_kind) := ⟨rfl, rfl, rfl, by decide +kernel, rfl, by decide +kernel, by decide +kernel⟩
def sp__law_kind (K : PySem.W.Frag) : Sp := fun vs H Q _ => ∃ (a : Addr) (i : Int), vs = [.ref a] ∧ (XO K H a "NoFactor" "number" (.int i) ∧ (∀ (t : Addr) (H' : Hp), Same H H' → H' t = some (.tup [.str "factor", .int i]) → Q (.ref t) H') ∨ XO K H a "NoNumber" "place" (.int i) ∧ ∀ (t : Addr) (H' : Hp), Same H H' → H' t = some (.tup [.str "number", .int i]) → Q (.ref t) H')
section
variable {P : Program} {w : World} {K : PySem.W.Frag} {mg : PySem.Str → Option Value} {base : Heap}
theorem bi__law_kind {f : Addr} {fd : FuncData} (F : Fun K "_law_kind" "_law_kind" s__law_kind f fd) : Binds K fd ["caught"] [] := F.binds (ps := ["caught"]) fun _ _ _ _ _ _ us hl => match us, hl with | [_], _ => rfl
set_option maxHeartbeats 4000000 in
theorem ok__law_kind {f : Addr} {fd : FuncData} (F : Fun K "_law_kind" "_law_kind" s__law_kind f fd) (B : Bt mg) (g_EC_NoAsk : EC K mg "NoAsk") (g_EC_NoFactor : EC K mg "NoFactor") (g_EC_NoNumber : EC K mg "NoNumber") (g_EC_PowerError : EC K mg "PowerError") (g_ET_NoFactor : ET K "NoFactor" "number" [("NoAsk", false), ("NoFactor", true), ("NoNumber", false), ("PowerError", true)]) (g_ET_NoNumber : ET K "NoNumber" "place" [("NoAsk", false), ("NoFactor", false), ("NoNumber", true), ("PowerError", true)])  : FnOk P w K mg base CX0 1 f fd ["caught"] (sp__law_kind K) := by
  refine F.ok sc__law_kind (fun vs H Q E h => ?_) (fun cdv A outer s H vs Q E hr h => ?_)
  · obtain ⟨a, i, rfl, q⟩ := h
    rfl
  · obtain ⟨a, i, rfl, q⟩ := h
    refine ⟨_, (pss_cons (ps_set (i := 1) sc__law_kind.nd rfl (Or.inl rfl) (pe_lst (pa_cons (pe_callB (k_isX K) (by rfl) B.isinstance (by decide +kernel) (pa_cons (pv 0) (pa_cons (pe_glob (v := .ref (clA K "NoAsk")) (by rfl) g_EC_NoAsk.at_ rfl) pa_nil))) (pa_cons (pe_callB (k_isX K) (by rfl) B.isinstance (by decide +kernel) (pa_cons (pv 0) (pa_cons (pe_glob (v := .ref (clA K "NoFactor")) (by rfl) g_EC_NoFactor.at_ rfl) pa_nil))) (pa_cons (pe_callB (k_isX K) (by rfl) B.isinstance (by decide +kernel) (pa_cons (pv 0) (pa_cons (pe_glob (v := .ref (clA K "NoNumber")) (by rfl) g_EC_NoNumber.at_ rfl) pa_nil))) pa_nil)))))
      (pss_cons (ps_if (PW.pt (pw_or (pt_not (pt_val (pe_callB (k_isX K) (by rfl) B.isinstance (by decide +kernel) (pa_cons (pv 0) (pa_cons (pe_glob (v := .ref (clA K "PowerError")) (by rfl) g_EC_PowerError.at_ rfl) pa_nil))))) (pw_or (pt_not (pt_val (pe_callB (k_isX K) (by rfl) B.isinstance (by decide +kernel) (pa_cons (pv 0) (pa_cons (pe_bltn (v := .ty "ValueError") (u := .type "ValueError") (by rfl) B.ValueError (by decide +kernel) rfl) pa_nil))))) (pw_or1 (pt_cmpR op_ne (k_bm (K := K) (pe_bm PySem.F.plainAttrs_list PySem.F.slot_list_count PySem.F.type_list_count (k_countF K) (pv 1) (pa_cons pe_bl pa_nil))) pe_int (nomark _))))))
        (pss_one (ps_ret (pe_tup (pa_cons pe_str pa_nil))))
        pss_nil)
      (pss_cons (ps_if (pt_val (pe_ix (k_ixL K) (pv 1) pe_int (fun _ _ => rfl)))
        (pss_one (ps_ret (pe_tup (pa_cons pe_str pa_nil))))
        pss_nil)
      (pss_cons (ps_if (pt_val (pe_ix (k_ixL K) (pv 1) pe_int (fun _ _ => rfl)))
        (pss_one (ps_ret (pe_ix (k_ixL K) (pe_lst (pa_cons (pe_tup (pa_cons pe_str (pa_cons (k_xf K (pv 0)) pa_nil))) (pa_cons (pe_tup (pa_cons pe_str pa_nil)) pa_nil))) (pe_callTy call_int1 (by rfl) B.int (by decide +kernel) (pa_cons (pe_callB (k_isi K) (by rfl) B.isinstance (by decide +kernel) (pa_cons (k_xf K (pv 0)) (pa_cons (pe_bltn (v := .ty "bool") (u := .type "bool") (by rfl) B.bool (by decide +kernel) rfl) pa_nil))) pa_nil)) (fun _ _ => rfl))))
        pss_nil)
      (pss_one (ps_ret (pe_ix (k_ixL K) (pe_lst (pa_cons (pe_tup (pa_cons pe_str (pa_cons (k_xf K (pv 0)) pa_nil))) (pa_cons (pe_tup (pa_cons pe_str pa_nil)) pa_nil))) (pe_callTy call_int1 (by rfl) B.int (by decide +kernel) (pa_cons (pe_callB (k_isi K) (by rfl) B.isinstance (by decide +kernel) (pa_cons (k_xf K (pv 0)) (pa_cons (pe_bltn (v := .ty "bool") (u := .type "bool") (by rfl) B.bool (by decide +kernel) rfl) pa_nil))) pa_nil)) (fun _ _ => rfl)))))))), ?_⟩
    walk_at "x"
    rcases q with ⟨hX, q⟩ | ⟨hX, q⟩
    · have is_ : ∀ (H1 : Hp) (x : PySem.Str) (b : Bool) (Q1 : VK), Same H H1 → (x, b) ∈ [(("NoAsk" : PySem.Str), false), ("NoFactor", true), ("NoNumber", false), ("PowerError", true)] → Q1 (.bl b) H1 → rIsX K [.ref a, .ref (clA K x)] H1 Q1 := fun H1 x b Q1 s hm q => ⟨_, _, .ref (clA K x), a, "NoFactor", "number", b, rfl, hX.same s, g_EC_NoFactor.is, fun u r => r, g_ET_NoFactor.kit _ hm, q⟩
      refine is_ _ "NoAsk" false _ (Same.refl H) (by simp) ?_
      refine is_ _ "NoFactor" true _ (Same.refl H) (by simp) ?_
      refine is_ _ "NoNumber" false _ (Same.refl H) (by simp) ?_
      walk_at "x"
      refine ⟨by show 3 ≤ sizeLine; decide, fun p hp => ?_⟩
      have s1 := same_new (o := .lst [V.bl false, V.bl true, V.bl false]) hp
      have hP : upd H p (.lst [V.bl false, V.bl true, V.bl false]) p = some (.lst [V.bl false, V.bl true, V.bl false]) := upd_same
      generalize upd H p (.lst [V.bl false, V.bl true, V.bl false]) = H1 at s1 hP ⊢
      refine is_ _ "PowerError" true _ s1 (by simp) ?_
      walk_at "x"
      refine ⟨.ty "ValueError", _, .type "ValueError", a, "NoFactor", "number", true, rfl, hX.same s1, g_EC_NoFactor.is, fun u r => r, g_ET_NoFactor.ve, ?_⟩
      walk_at "x"
      refine ⟨.inl ⟨rfl, _, SqL.of hP⟩, p, _, .bl true, rfl, rfl, SqL.of hP, rfl, rfl, ?_⟩
      rw [show (([V.bl false, V.bl true, V.bl false].countP fun z => eqV z (V.bl true)) : Nat) = 1 from rfl]
      walk_at "x"
      rw [if_neg (fun z => z rfl)]
      refine r_ixL (SqL.of hP) (by rfl) ?_
      walk_at "x"
      refine r_ixL (SqL.of hP) (by rfl) ?_
      walk_at "x"
      refine ⟨a, "NoFactor", .int i, rfl, hX.same s1, g_EC_NoFactor.is, g_ET_NoFactor.no, ?_⟩
      walk_at "x"
      refine ⟨by show 2 ≤ sizeLine; decide, fun t ht => ⟨by show 1 ≤ sizeLine; decide, fun t2 ht2 => ⟨by show 2 ≤ sizeLine; decide, fun p3 hp3 => ?_⟩⟩⟩
      have s2 := ((s1.trans (same_new ht)).trans (same_new ht2)).trans (same_new (o := .lst [.ref t, .ref t2]) hp3)
      refine ⟨a, "NoFactor", .int i, rfl, hX.same s2, g_EC_NoFactor.is, g_ET_NoFactor.no, r_isi (ty_int i) (c := false) (by decide +kernel) ?_⟩
      refine .inr ⟨_, rfl, ?_⟩
      refine r_ixL (SqL.of upd_same) (by rfl) ?_
      refine q t _ s2 ?_
      rw [upd_ne (ne_of_none ((upd_ne (ne_of_none upd_same ht2)).trans upd_same) hp3), upd_ne (ne_of_none upd_same ht2), upd_same]
    · have is_ : ∀ (H1 : Hp) (x : PySem.Str) (b : Bool) (Q1 : VK), Same H H1 → (x, b) ∈ [(("NoAsk" : PySem.Str), false), ("NoFactor", false), ("NoNumber", true), ("PowerError", true)] → Q1 (.bl b) H1 → rIsX K [.ref a, .ref (clA K x)] H1 Q1 := fun H1 x b Q1 s hm q => ⟨_, _, .ref (clA K x), a, "NoNumber", "place", b, rfl, hX.same s, g_EC_NoNumber.is, fun u r => r, g_ET_NoNumber.kit _ hm, q⟩
      refine is_ _ "NoAsk" false _ (Same.refl H) (by simp) ?_
      refine is_ _ "NoFactor" false _ (Same.refl H) (by simp) ?_
      refine is_ _ "NoNumber" true _ (Same.refl H) (by simp) ?_
      walk_at "x"
      refine ⟨by show 3 ≤ sizeLine; decide, fun p hp => ?_⟩
      have s1 := same_new (o := .lst [V.bl false, V.bl false, V.bl true]) hp
      have hP : upd H p (.lst [V.bl false, V.bl false, V.bl true]) p = some (.lst [V.bl false, V.bl false, V.bl true]) := upd_same
      generalize upd H p (.lst [V.bl false, V.bl false, V.bl true]) = H1 at s1 hP ⊢
      refine is_ _ "PowerError" true _ s1 (by simp) ?_
      walk_at "x"
      refine ⟨.ty "ValueError", _, .type "ValueError", a, "NoNumber", "place", true, rfl, hX.same s1, g_EC_NoNumber.is, fun u r => r, g_ET_NoNumber.ve, ?_⟩
      walk_at "x"
      refine ⟨.inl ⟨rfl, _, SqL.of hP⟩, p, _, .bl true, rfl, rfl, SqL.of hP, rfl, rfl, ?_⟩
      rw [show (([V.bl false, V.bl false, V.bl true].countP fun z => eqV z (V.bl true)) : Nat) = 1 from rfl]
      walk_at "x"
      rw [if_neg (fun z => z rfl)]
      refine r_ixL (SqL.of hP) (by rfl) ?_
      walk_at "x"
      refine r_ixL (SqL.of hP) (by rfl) ?_
      walk_at "x"
      refine ⟨a, "NoNumber", .int i, rfl, hX.same s1, g_EC_NoNumber.is, g_ET_NoNumber.no, ?_⟩
      walk_at "x"
      refine ⟨by show 2 ≤ sizeLine; decide, fun t ht => ⟨by show 1 ≤ sizeLine; decide, fun t2 ht2 => ⟨by show 2 ≤ sizeLine; decide, fun p3 hp3 => ?_⟩⟩⟩
      have s2 := ((s1.trans (same_new ht)).trans (same_new ht2)).trans (same_new (o := .lst [.ref t, .ref t2]) hp3)
      refine ⟨a, "NoNumber", .int i, rfl, hX.same s2, g_EC_NoNumber.is, g_ET_NoNumber.no, r_isi (ty_int i) (c := false) (by decide +kernel) ?_⟩
      refine .inr ⟨_, rfl, ?_⟩
      refine r_ixL (SqL.of upd_same) (by rfl) ?_
      refine q t _ s2 ?_
      rw [upd_ne (ne_of_none ((upd_ne (ne_of_none upd_same ht2)).trans upd_same) hp3), upd_ne (ne_of_none upd_same ht2), upd_same]
end
abbrev s__law_sign : Stmt := top 22
theorem sc__law_sign : FnScope ["deck", "signs", "some"] ["deck"] (defScope s__law_sign) := ⟨rfl, rfl, rfl, by decide +kernel, rfl, by decide +kernel, by decide +kernel⟩
theorem pick_sign {K : PySem.W.Frag} {a l : Addr} {n : Nat} {m : Int} {z : PySem.Str} {H H0 : Hp} {Q : VK} {E : XK} (hz : 1 ≤ z.length) (hz2 : z.length ≤ 1000) (hm : m = (z.length : Int)) (k : Kp a H0 H) (d : Dk H a l n) (hn : n ≤ 2 ^ 39)
    (q : ∀ (c : Nat) (H' : Hp), Kp a H H' → Kp a H0 H' → Dk H' a l (n + 1) → Q (.str ⟨#[c]⟩) H') : sp__law_next K [.ref a, .int m] H (fun x H1 => rIxS (.str z) x H1 Q) E := by
  refine use_next k d hn (by omega) (by omega) fun r H' k' K' d' r0 r1 => ?_
  obtain ⟨j, rfl⟩ := Int.eq_ofNat_of_zero_le r0
  have hj : j < (TL.tl z).length := by
    rw [← len_is]
    omega
  exact r_ixS (size_le' (by omega)) (List.getElem?_eq_getElem hj) (q _ H' k' K' d')
def sp__law_sign (K : PySem.W.Frag) : Sp := fun vs H Q _ => ∃ (a l : Addr) (n : Nat), vs = [.ref a] ∧ Dk H a l n ∧ n ≤ 2 ^ 38 ∧ ∀ (c : Nat) (H' : Hp), Kp a H H' → Dk H' a l (n + 4) → Q (.str ⟨#[c]⟩) H'
/-- one sign as a value -/
def One1 (v : V) : Prop := ∃ c, v = .str ⟨#[c]⟩
section
variable {P : Program} {w : World} {K : PySem.W.Frag} {mg : PySem.Str → Option Value} {base : Heap}
theorem bi__law_sign {f : Addr} {fd : FuncData} (F : Fun K "_law_sign" "_law_sign" s__law_sign f fd) : Binds K fd ["deck"] [] := F.binds (ps := ["deck"]) fun _ _ _ _ _ _ us hl => match us, hl with | [_], _ => rfl
set_option maxHeartbeats 4000000 in
theorem ok__law_sign {f : Addr} {fd : FuncData} (F : Fun K "_law_sign" "_law_sign" s__law_sign f fd) (B : Bt mg)  (h__law_next : Fn P w K mg base CX0 2 "_law_next" ["deck", "many"] (sp__law_next K)) : FnOk P w K mg base CX0 3 f fd ["deck"] (sp__law_sign K) := by
  refine F.ok sc__law_sign (fun vs H Q E h => ?_) (fun cdv A outer s H vs Q E hr h => ?_)
  · obtain ⟨a, l, n, rfl, hD, hn, q⟩ := h
    rfl
  · obtain ⟨a, l, n, rfl, hD, hn, q⟩ := h
    refine ⟨_, (pss_cons (ps_set (i := 1) sc__law_sign.nd rfl (Or.inl rfl) pe_str)
      (pss_cons (ps_set (i := 2) sc__law_sign.nd rfl (Or.inl rfl) (pe_lst (pa_cons (pe_ix ix_str (pv 1) (pe_fn h__law_next (hr.mono (by decide)) (by rfl) (pa_cons (pv 0) (pa_cons (pe_callB call_len_str (by rfl) B.len (by decide +kernel) (pa_cons (pv 1) pa_nil)) pa_nil))) (fun _ _ => rfl)) (pa_cons (pe_ix ix_str pe_str (pe_fn h__law_next (hr.mono (by decide)) (by rfl) (pa_cons (pv 0) (pa_cons pe_int pa_nil))) (fun _ _ => rfl)) (pa_cons (pe_ix ix_str pe_str (pe_fn h__law_next (hr.mono (by decide)) (by rfl) (pa_cons (pv 0) (pa_cons pe_int pa_nil))) (fun _ _ => rfl)) pa_nil)))))
      (pss_one (ps_ret (pe_ix (k_ixL K) (pv 2) (pe_fn h__law_next (hr.mono (by decide)) (by rfl) (pa_cons (pv 0) (pa_cons pe_int pa_nil))) (fun _ _ => rfl)))))), ?_⟩
    walk_at "x"
    refine ⟨by decide +kernel, pick_sign (by decide +kernel) (by decide +kernel) rfl (Kp.refl _ _) hD (by omega) fun c1 H1 k1 K1 d1 => ?_⟩
    refine pick_sign (by decide +kernel) (by decide +kernel) (by decide +kernel) K1 d1 (by omega) fun c2 H2 k2 K2 d2 => ?_
    refine pick_sign (by decide +kernel) (by decide +kernel) (by decide +kernel) K2 d2 (by omega) fun c3 H3 k3 K3 d3 => ⟨by show 3 ≤ sizeLine; decide, fun p hp => ?_⟩
    refine pick_next One1 (fun x hx => by
      simp only [List.mem_cons, List.not_mem_nil, or_false] at hx
      rcases hx with rfl | rfl | rfl <;> exact ⟨_, rfl⟩) K3 d3 (by omega) hp rfl (by omega) (by omega) fun v H4 hv k4 K4 d4 => ?_
    obtain ⟨c, rfl⟩ := hv
    exact q c _ K4 (d4.mono (by omega))
end
abbrev s__law_spoilt : Stmt := top 23
theorem sc__law_spoilt : FnScope ["deck", "text", "k", "at", "sign", "some"] ["deck", "text"] (defScope s__law_spoilt) := ⟨rfl, rfl, rfl, by decide +kernel, rfl, by decide +kernel, by decide +kernel⟩
def sp__law_spoilt (K : PySem.W.Frag) : Sp := fun vs H Q _ => ∃ (a l : Addr) (n : Nat) (z : PySem.Str), vs = [.ref a, .str z] ∧ Dk H a l n ∧ n ≤ 2 ^ 37 ∧ z.length ≤ 100 ∧ ∀ (z' : PySem.Str) (H' : Hp), Kp a H H' → Dk H' a l (n + 40) → z'.length ≤ 200 → Q (.str z') H'
section
variable {P : Program} {w : World} {K : PySem.W.Frag} {mg : PySem.Str → Option Value} {base : Heap}
theorem bi__law_spoilt {f : Addr} {fd : FuncData} (F : Fun K "_law_spoilt" "_law_spoilt" s__law_spoilt f fd) : Binds K fd ["deck", "text"] [] := F.binds (ps := ["deck", "text"]) fun _ _ _ _ _ _ us hl => match us, hl with | [_, _], _ => rfl
set_option maxHeartbeats 4000000 in
theorem ok__law_spoilt {f : Addr} {fd : FuncData} (F : Fun K "_law_spoilt" "_law_spoilt" s__law_spoilt f fd) (B : Bt mg)  (h__law_sign : Fn P w K mg base CX0 3 "_law_sign" ["deck"] (sp__law_sign K)) (h__law_next : Fn P w K mg base CX0 2 "_law_next" ["deck", "many"] (sp__law_next K)) : FnOk P w K mg base CX0 4 f fd ["deck", "text"] (sp__law_spoilt K) := by
  refine F.ok sc__law_spoilt (fun vs H Q E h => ?_) (fun cdv A outer s H vs Q E hr h => ?_)
  · obtain ⟨a, l, n, z, rfl, hD, hn, hz, q⟩ := h
    rfl
  · obtain ⟨a, l, n, z, rfl, hD, hn, hz, q⟩ := h
    refine ⟨_, (pss_cons (ps_for PassesOwn.never rfl (pi_range1 rfl B.range (pa_cons (pe_op op_add pe_int (pe_fn h__law_next (hr.mono (by decide)) (by rfl) (pa_cons (pv 0) (pa_cons pe_int pa_nil)))) pa_nil)) (pg_name (i := 2) sc__law_spoilt.nd rfl (Or.inl rfl))
        (pss_cons (ps_set (i := 3) sc__law_spoilt.nd rfl (Or.inl rfl) (pe_ix (k_ixL K) (pe_lst (pa_cons (pe_fn h__law_next (hr.mono (by decide)) (by rfl) (pa_cons (pv 0) (pa_cons (pe_op op_add (pe_callB call_len_str (by rfl) B.len (by decide +kernel) (pa_cons (pv 1) pa_nil)) pe_int) pa_nil))) (pa_cons (pe_callB (call_max2 rfl) (by rfl) B.max (by decide +kernel) (pa_cons pe_int (pa_cons (pe_op op_sub (pe_callB call_len_str (by rfl) B.len (by decide +kernel) (pa_cons (pv 1) pa_nil)) pe_int) pa_nil))) (pa_cons pe_int pa_nil)))) (pe_fn h__law_next (hr.mono (by decide)) (by rfl) (pa_cons (pv 0) (pa_cons pe_int pa_nil))) (fun _ _ => rfl)))
        (pss_cons (ps_set (i := 4) sc__law_spoilt.nd rfl (Or.inl rfl) (pe_fn h__law_sign (hr.mono (by decide)) (by rfl) (pa_cons (pv 0) pa_nil)))
        (pss_cons (ps_set (i := 5) sc__law_spoilt.nd rfl (Or.inl rfl) (pe_lst (pa_cons (pe_op op_add_str (pe_op op_add_str (pe_slice sl_str (pv 1) po_none (po_some (pv 3))) (pv 4)) (pe_slice sl_str (pv 1) (po_some (pv 3)) po_none)) (pa_cons (pe_op op_add_str (pe_op op_add_str (pe_slice sl_str (pv 1) po_none (po_some (pv 3))) (pv 4)) (pe_slice sl_str (pv 1) (po_some (pe_op op_add (pv 3) pe_int)) po_none)) (pa_cons (pe_op op_add_str (pe_slice sl_str (pv 1) po_none (po_some (pv 3))) (pe_slice sl_str (pv 1) (po_some (pe_op op_add (pv 3) pe_int)) po_none)) (pa_cons (pe_slice sl_str (pv 1) po_none (po_some (pv 3))) pa_nil))))))
        (pss_one (ps_set (i := 1) sc__law_spoilt.nd rfl (Or.inl rfl) (pe_ix (k_ixL K) (pv 5) (pe_fn h__law_next (hr.mono (by decide)) (by rfl) (pa_cons (pv 0) (pa_cons pe_int pa_nil))) (fun _ _ => rfl))))))))
      (pss_one (ps_ret (pe_slice sl_str (pv 1) po_none (po_some pe_int))))), ?_⟩
    walk_at "x"
    refine use_next (Kp.refl _ _) hD (by omega) (by omega) (by omega) fun r H1 k1 K1 d1 a1 b1 => ?_
    have hr3 : (1 + r).toNat ≤ 3 := by omega
    refine ⟨r, rfl, by omega, by omega, for_r (fun i σ H' => ∃ (y : PySem.Str) (v2 v3 v4 v5 : Option V), σ = [some (.ref a), some (.str y), v2, v3, v4, v5] ∧ Kp a H H' ∧ Dk H' a l (n + 1 + 7 * i) ∧ (y.length ≤ 100 ∧ i = 0 ∨ y.length ≤ 201 ∧ i = 1 ∨ y.length ≤ 403 ∧ i = 2 ∨ y.length ≤ 807 ∧ i = 3)) ⟨z, _, _, _, _, rfl, K1, d1, .inl ⟨hz, rfl⟩⟩ ?_ ?_⟩
    · rintro i σ H2 hi ⟨y, v2, v3, v4, v5, rfl, k2, d2, hy⟩ N hN
      have hyl : y.length ≤ 403 := by omega
      have hsz : y.length ≤ sizeLine := size_le' (by omega)
      walk_at "x"
      refine ⟨hsz, use_next k2 d2 (by omega) (by omega) (by omega) fun at1 H3 k3 K3 d3 a3 b3 => ?_⟩
      refine ⟨hsz, by show 3 ≤ sizeLine; decide, fun p hp => ?_⟩
      refine pick_next (fun v => ∃ i : Int, v = .int i) (fun x hx => by
        simp only [List.mem_cons, List.not_mem_nil, or_false] at hx
        rcases hx with rfl | rfl | rfl <;> exact ⟨_, rfl⟩) K3 d3 (by omega) hp rfl (by omega) (by omega) fun v H4 hv k4 K4 d4 => ?_
      obtain ⟨at2, rfl⟩ := hv
      refine ⟨a, l, _, rfl, d4, by omega, fun c H5 k5 d5 => ?_⟩
      have l1 := cutS_length y none (some at2)
      have l2 := cutS_length y (some at2) none
      have l3 := cutS_length y (some (at2 + 1)) none
      have lc := len_one c
      have m1 := len_app (cutS y none (some at2)) ⟨#[c]⟩
      have m2 := len_app (cutS y none (some at2) ++ ⟨#[c]⟩) (cutS y (some at2) none)
      have m3 := len_app (cutS y none (some at2) ++ ⟨#[c]⟩) (cutS y (some (at2 + 1)) none)
      have m4 := len_app (cutS y none (some at2)) (cutS y (some (at2 + 1)) none)
      refine ⟨at2, rfl, r_slS hsz ⟨_, rfl, _, rfl, size_le' (by omega), at2, rfl, r_slS hsz ⟨_, rfl, size_le' (by omega), at2, rfl, r_slS hsz ⟨_, rfl, _, rfl, size_le' (by omega), at2, rfl, r_slS hsz ⟨_, rfl, size_le' (by omega), at2, rfl, r_slS hsz ⟨at2, rfl, r_slS hsz ⟨_, rfl, _, rfl, size_le' (by omega), at2, rfl, r_slS hsz ⟨by show 4 ≤ sizeLine; decide, fun p2 hp2 => ?_⟩⟩⟩⟩⟩⟩⟩⟩
      refine pick_next (Tx (2 * y.length + 1)) (fun x hx => by
        simp only [List.mem_cons, List.not_mem_nil, or_false] at hx
        rcases hx with rfl | rfl | rfl | rfl
        · exact ⟨_, rfl, by omega⟩
        · exact ⟨_, rfl, by omega⟩
        · exact ⟨_, rfl, by omega⟩
        · exact ⟨_, rfl, by omega⟩) (K4.trans k5) d5 (by omega) hp2 rfl (by omega) (by omega) fun v H6 hv k6 K6 d6 => ?_
      obtain ⟨y', rfl, hy'⟩ := hv
      exact hN _ _ ⟨y', _, _, _, _, rfl, K6, d6.mono (by omega), by omega⟩
    · rintro σ H2 ⟨y, v2, v3, v4, v5, rfl, k2, d2, hy⟩
      have hyl : y.length ≤ 807 := by omega
      walk_at "x"
      refine r_slS (size_le' (by omega)) ?_
      refine q _ _ k2 (d2.mono (by omega)) ?_
      by_cases c : 200 ≤ y.length
      · rw [len_is]
        have := tl_cutTo y (j := 200) c
        rw [show (200 : Int) = ((200 : Nat) : Int) from rfl, this, List.length_take]
        omega
      · have := cutS_length y none (some 200)
        omega
end
abbrev s__law_run : Stmt := top 24
theorem sc__law_run : FnScope ["text", "first", "last"] ["text", "first"] (defScope s__law_run) := ⟨rfl, rfl, rfl, by decide +kernel, rfl, by decide +kernel, by decide +kernel⟩
def sp__law_run (K : PySem.W.Frag) : Sp := fun vs H Q _ => ∃ (z : PySem.Str) (f : Nat), vs = [.str z, .int (f : Int)] ∧ f ≤ z.length ∧ z.length ≤ 10000 ∧ ∀ (t : Addr) (H' : Hp), Same H H' → H' t = some (.tup [.int ((f + runN (TL.tl z) f : Nat) : Int), if badN (TL.tl z) f then .int (f : Int) else .non]) → Q (.ref t) H'
section
variable {P : Program} {w : World} {K : PySem.W.Frag} {mg : PySem.Str → Option Value} {base : Heap}
theorem bi__law_run {f : Addr} {fd : FuncData} (F : Fun K "_law_run" "_law_run" s__law_run f fd) : Binds K fd ["text", "first"] [] := F.binds (ps := ["text", "first"]) fun _ _ _ _ _ _ us hl => match us, hl with | [_, _], _ => rfl
set_option maxHeartbeats 4000000 in
theorem ok__law_run {f : Addr} {fd : FuncData} (F : Fun K "_law_run" "_law_run" s__law_run f fd) (B : Bt mg)   : FnOk P w K mg base CX0 1 f fd ["text", "first"] (sp__law_run K) := by
  refine F.ok sc__law_run (fun vs H Q E h => ?_) (fun cdv A outer s H vs Q E hr h => ?_)
  · obtain ⟨z, f, rfl, hf, hl, q⟩ := h
    rfl
  · obtain ⟨z, f, rfl, hf, hl, q⟩ := h
    refine ⟨_, (pss_cons (ps_set (i := 2) sc__law_run.nd rfl (Or.inl rfl) (pv 1))
      (pss_cons (ps_while PassesOwn.never (PW.pt (pw_and (pt_cmpR op_lt (pv 2) (pe_callB call_len_str (by rfl) B.len (by decide +kernel) (pa_cons (pv 0) pa_nil)) (nomark _)) (pw_and1 (pt_cmpR op_ge (pe_m1 PySem.F.slot_str_find PySem.F.type_str_find mt_find pe_str (pe_ix ix_str (pv 0) (pv 2) (fun _ _ => rfl))) pe_int (nomark _)))))
        (pss_one (ps_set (i := 2) sc__law_run.nd rfl (Or.inl rfl) (pe_op op_add (pv 2) pe_int))))
      (pss_cons (ps_if (PW.pt (pw_or (pt_cmpR op_eq (pv 2) (pv 1) (nomark _)) (pw_or1 (PW.pt (pw_and (pt_cmpR op_eq (pe_ix ix_str (pv 0) (pv 1) (fun _ _ => rfl)) pe_str (nomark _)) (pw_and1 (pt_cmpR op_gt (pv 2) (pe_op op_add (pv 1) pe_int) (nomark _))))))))
        (pss_one (ps_ret (pe_tup (pa_cons (pv 2) (pa_cons (pv 1) pa_nil)))))
        pss_nil)
      (pss_one (ps_ret (pe_tup (pa_cons (pv 2) (pa_cons pe_non pa_nil)))))))), ?_⟩
    walk_at "x"
    have hsz : z.length ≤ sizeLine := size_le' (by omega)
    refine while_m (fun m σ H' => ∃ k : Nat, σ = [some (.str z), some (.int (f : Int)), some (.int ((f + k : Nat) : Int))] ∧ H' = H ∧ k ≤ runN (TL.tl z) f ∧ runN (TL.tl z) f - k = m) (runN (TL.tl z) f) ⟨0, rfl, rfl, by omega, by omega⟩ ?_
    rintro m σ H' ⟨k, rfl, rfl, hk, rfl⟩ G hG
    walk_at "x"
    refine ⟨hsz, ite2 (fun hlt => ?_) (fun hlt => ?_)⟩
    · obtain ⟨c, h1, h2⟩ := sign_at hk (by omega)
      refine r_ixS hsz h1 ?_
      walk_at "x"
      have h3 := find_dg c
      by_cases hk2 : k < runN (TL.tl z) f
      · rw [if_pos (of_decide_eq_true (h3.trans (h2.trans (decide_eq_true hk2))))]
        refine hG _ _ fun N hN => ?_
        have e1 : ((f + k : Nat) : Int) + 1 = ((f + (k + 1) : Nat) : Int) := by omega
        walk_at "w"
        rw [e1]
        exact hN _ _ _ (by omega) ⟨k + 1, rfl, rfl, by omega, rfl⟩
      · rw [if_neg (of_decide_eq_false (h3.trans (h2.trans (decide_eq_false hk2))))]
        have hk3 : k = runN (TL.tl z) f := by omega
        subst hk3
        refine tail_ok (T := (f : Int) + 1 < ((f + runN (TL.tl z) f : Nat) : Int)) hl (by omega) (fun b => ⟨by show 2 ≤ sizeLine; decide, fun t ht => q t _ (same_new ht) (by rw [if_pos b]; exact upd_same)⟩) fun b => ⟨by show 2 ≤ sizeLine; decide, fun t ht => q t _ (same_new ht) (by rw [if_neg b]; exact upd_same)⟩
    · have hk3 := run_end hf hk (by omega)
      subst hk3
      refine tail_ok (T := (f : Int) + 1 < ((f + runN (TL.tl z) f : Nat) : Int)) hl (by omega) (fun b => ⟨by show 2 ≤ sizeLine; decide, fun t ht => q t _ (same_new ht) (by rw [if_pos b]; exact upd_same)⟩) fun b => ⟨by show 2 ≤ sizeLine; decide, fun t ht => q t _ (same_new ht) (by rw [if_neg b]; exact upd_same)⟩
end
abbrev s__law_due : Stmt := top 25
theorem sc__law_due : FnScope ["text", "last", "fault", "end"] ["text"] (defScope s__law_due) := ⟨rfl, rfl, rfl, by decide +kernel, rfl, by decide +kernel, by decide +kernel⟩
def sp__law_due (K : PySem.W.Frag) : Sp := fun vs H Q _ => ∃ (z : PySem.Str), vs = [.str z] ∧ z.length ≤ 210 ∧ (∀ n, dueN (TL.tl z) = .num n → ∀ H', Same H H' → Q (.int (n : Int)) H') ∧ ∀ p, dueN (TL.tl z) = .no p → ∀ (t : Addr) (H' : Hp), Same H H' → H' t = some (.tup [.str "number", .int (p : Int)]) → Q (.ref t) H'
section
variable {P : Program} {w : World} {K : PySem.W.Frag} {mg : PySem.Str → Option Value} {base : Heap}
theorem bi__law_due {f : Addr} {fd : FuncData} (F : Fun K "_law_due" "_law_due" s__law_due f fd) : Binds K fd ["text"] [] := F.binds (ps := ["text"]) fun _ _ _ _ _ _ us hl => match us, hl with | [_], _ => rfl
set_option maxHeartbeats 4000000 in
theorem ok__law_due {f : Addr} {fd : FuncData} (F : Fun K "_law_due" "_law_due" s__law_due f fd) (B : Bt mg)  (h__law_run : Fn P w K mg base CX0 1 "_law_run" ["text", "first"] (sp__law_run K)) (h__law_taken : Fn P w K mg base CX0 1 "_law_taken" ["base", "exponent"] (sp__law_taken K)) : FnOk P w K mg base CX0 2 f fd ["text"] (sp__law_due K) := by
  refine F.ok sc__law_due (fun vs H Q E h => ?_) (fun cdv A outer s H vs Q E hr h => ?_)
  · obtain ⟨z, rfl, hl, q1, q0⟩ := h
    rfl
  · obtain ⟨z, rfl, hl, q1, q0⟩ := h
    refine ⟨_, (pss_cons (ps_asg (pe_fn h__law_run (hr.mono (by decide)) (by rfl) (pa_cons (pv 0) (pa_cons pe_int pa_nil))) (pg_tup rfl (pgs_cons (pg_name (i := 1) sc__law_due.nd rfl (Or.inl rfl)) (pgs_cons (pg_name (i := 2) sc__law_due.nd rfl (Or.inl rfl)) pgs_nil))))
      (pss_cons (ps_if (pt_cmpR op_notN (pv 2) pe_non (nomark _))
        (pss_one (ps_ret (pe_tup (pa_cons pe_str (pa_cons (pv 2) pa_nil)))))
        pss_nil)
      (pss_cons (ps_if (pt_cmpR op_eq (pv 1) (pe_callB call_len_str (by rfl) B.len (by decide +kernel) (pa_cons (pv 0) pa_nil)) (nomark _))
        (pss_one (ps_ret (pe_callTy call_int_str (by rfl) B.int (by decide +kernel) (pa_cons (pv 0) pa_nil))))
        pss_nil)
      (pss_cons (ps_if (pt_cmpR op_ne (pe_ix ix_str (pv 0) (pv 1) (fun _ _ => rfl)) pe_str (nomark _))
        (pss_one (ps_ret (pe_tup (pa_cons pe_str (pa_cons (pv 1) pa_nil)))))
        pss_nil)
      (pss_cons (ps_asg (pe_fn h__law_run (hr.mono (by decide)) (by rfl) (pa_cons (pv 0) (pa_cons (pe_op op_add (pv 1) pe_int) pa_nil))) (pg_tup rfl (pgs_cons (pg_name (i := 3) sc__law_due.nd rfl (Or.inl rfl)) (pgs_cons (pg_name (i := 2) sc__law_due.nd rfl (Or.inl rfl)) pgs_nil))))
      (pss_cons (ps_if (pt_cmpR op_notN (pv 2) pe_non (nomark _))
        (pss_one (ps_ret (pe_tup (pa_cons pe_str (pa_cons (pv 2) pa_nil)))))
        pss_nil)
      (pss_cons (ps_if (pt_cmpR op_lt (pv 3) (pe_callB call_len_str (by rfl) B.len (by decide +kernel) (pa_cons (pv 0) pa_nil)) (nomark _))
        (pss_one (ps_ret (pe_tup (pa_cons pe_str (pa_cons (pv 3) pa_nil)))))
        pss_nil)
      (pss_cons (ps_if (pt_cmpR op_gt (pe_callTy call_int_str (by rfl) B.int (by decide +kernel) (pa_cons (pe_slice sl_str (pv 0) (po_some (pe_op op_add (pv 1) pe_int)) (po_some (pv 3))) pa_nil)) pe_int (nomark _))
        (pss_one (ps_ret (pe_tup (pa_cons pe_str (pa_cons (pe_op op_add (pv 1) pe_int) pa_nil)))))
        pss_nil)
      (pss_one (ps_ret (pe_fn h__law_taken (hr.mono (by decide)) (by rfl) (pa_cons (pe_callTy call_int_str (by rfl) B.int (by decide +kernel) (pa_cons (pe_slice sl_str (pv 0) po_none (po_some (pv 1))) pa_nil)) (pa_cons (pe_callTy call_int_str (by rfl) B.int (by decide +kernel) (pa_cons (pe_slice sl_str (pv 0) (po_some (pe_op op_add (pv 1) pe_int)) (po_some (pv 3))) pa_nil)) pa_nil))))))))))))), ?_⟩
    walk_at "x"
    have hz := len_is z
    have hr0 := run_le (TL.tl z) 0
    have hsz : z.length ≤ sizeLine := size_le' (by omega)
    refine ⟨z, 0, rfl, by omega, by omega, fun t H1 s1 ht => ⟨t, rfl, _, SqT.of ht, rfl, ?_⟩⟩
    walk_at "x"
    by_cases b : badN (TL.tl z) 0
    · rw [if_pos b, if_pos (by intro h; cases h)]
      exact ⟨by show 2 ≤ sizeLine; decide, fun t2 ht2 => q0 0 (due_0 b) t2 _ (s1.trans (same_new ht2)) upd_same⟩
    rw [if_neg b, if_neg (fun h => h rfl)]
    refine ⟨hsz, ite2 (fun h1 => ?_) (fun h1 => ?_)⟩
    · exact ⟨_, whole_int hl b (by omega), by omega, q1 _ (due_1 b (by omega)) _ s1⟩
    have hk : runN (TL.tl z) 0 < (TL.tl z).length := by omega
    have hat : (TL.tl z)[runN (TL.tl z) 0]? = some (TL.tl z)[runN (TL.tl z) 0] := List.getElem?_eq_getElem hk
    generalize (TL.tl z)[runN (TL.tl z) 0] = c at hat
    refine r_ixS hsz hat ⟨rfl, ?_⟩
    by_cases e : c = 94
    · subst e
      rw [if_neg fun h => h (by rw [str_hat])]
      rw [show ((runN (TL.tl z) 0 : Nat) : Int) + 1 = ((runN (TL.tl z) 0 + 1 : Nat) : Int) by omega]
      have hr1 := run_le (TL.tl z) (runN (TL.tl z) 0 + 1)
      refine ⟨z, runN (TL.tl z) 0 + 1, rfl, by omega, by omega, fun t3 H3 s3 ht3 => ⟨t3, rfl, _, SqT.of ht3, rfl, ?_⟩⟩
      have s4 := s1.trans s3
      walk_at "x"
      by_cases b2 : badN (TL.tl z) (runN (TL.tl z) 0 + 1)
      · rw [if_pos b2, if_pos (by intro h; cases h)]
        exact ⟨by show 2 ≤ sizeLine; decide, fun t2 ht2 => q0 _ (due_3 b (by omega) hat b2) t2 _ (s4.trans (same_new ht2)) upd_same⟩
      rw [if_neg b2, if_neg (fun h => h rfl)]
      refine ⟨hsz, ite2 (fun h3 => ⟨by show 2 ≤ sizeLine; decide, fun t2 ht2 => q0 _ (due_4 b (by omega) hat b2 (by omega)) t2 _ (s4.trans (same_new ht2)) upd_same⟩) (fun h3 => ?_)⟩
      obtain ⟨p1, p2, p3, p4, p5⟩ := two_ints hl b (by omega) b2 (by omega)
      refine r_slS hsz ⟨_, rfl, _, p3, p4, ?_⟩
      refine ite2 (fun h4 => ⟨by show 2 ≤ sizeLine; decide, fun t2 ht2 => q0 _ (due_5 b (by omega) hat b2 (by omega) (by omega)) t2 _ (s4.trans (same_new ht2)) upd_same⟩) (fun h4 => ?_)
      have h5 : valN ((TL.tl z).drop (runN (TL.tl z) 0 + 1)) ≤ 200 := by omega
      refine r_slS hsz ⟨_, rfl, _, p1, p2, ?_⟩
      refine r_slS hsz ⟨_, rfl, _, p3, p4, ?_⟩
      refine ⟨_, _, 700, rfl, p5, by omega, ?_, q1 _ (due_6 b (by omega) hat b2 (by omega) (by omega)) _ s4⟩
      exact Nat.le_trans (Nat.mul_le_mul_left 700 h5) (by decide)
    · rw [if_pos fun h => e (by
        rw [str_hat] at h
        injection h with h
        have := congrArg TL.tl h
        simpa using this)]
      refine ⟨by show 2 ≤ sizeLine; decide, fun t2 ht2 => q0 _ (due_2 b (by omega) ?_) t2 _ (s1.trans (same_new ht2)) upd_same⟩
      rw [hat]
      exact fun h => e (Option.some.inj h)
end
abbrev s__law_right : Stmt := top 26
theorem sc__law_right : FnScope ["text", "due", "again", "found", "caught", "e"] ["text"] (defScope s__law_right) := ⟨rfl, rfl, rfl, by decide +kernel, rfl, by decide +kernel, by decide +kernel⟩
def sp__law_right (K : PySem.W.Frag) : Sp := fun vs H Q _ => ∃ (z : PySem.Str), vs = [.str z] ∧ z.length ≤ 210 ∧ ∀ H', Same H H' → Q (.bl true) H'
section
variable {P : Program} {w : World} {K : PySem.W.Frag} {mg : PySem.Str → Option Value} {base : Heap}
theorem bi__law_right {f : Addr} {fd : FuncData} (F : Fun K "_law_right" "_law_right" s__law_right f fd) : Binds K fd ["text"] [] := F.binds (ps := ["text"]) fun _ _ _ _ _ _ us hl => match us, hl with | [_], _ => rfl
set_option maxHeartbeats 4000000 in
theorem ok__law_right {f : Addr} {fd : FuncData} (F : Fun K "_law_right" "_law_right" s__law_right f fd) (B : Bt mg) (g_EC_PowerError : EC K mg "PowerError") (g_ET_NoFactor : ET K "NoFactor" "number" [("NoAsk", false), ("NoFactor", true), ("NoNumber", false), ("PowerError", true)]) (g_ET_NoNumber : ET K "NoNumber" "place" [("NoAsk", false), ("NoFactor", false), ("NoNumber", true), ("PowerError", true)]) (h__law_due : Fn P w K mg base CX0 2 "_law_due" ["text"] (sp__law_due K)) (h_read_number : Fn P w K mg base (L2.CX P w) 4 "read_number" ["text"] (sp_read_number K)) (h__law_is_whole : Fn P w K mg base CX0 1 "_law_is_whole" ["found", "due"] (sp__law_is_whole K)) (h__law_kind : Fn P w K mg base CX0 1 "_law_kind" ["caught"] (sp__law_kind K)) : FnOk P w K mg base CX0 5 f fd ["text"] (sp__law_right K) := by
  refine F.ok sc__law_right (fun vs H Q E h => ?_) (fun cdv A outer s H vs Q E hr h => ?_)
  · obtain ⟨z, rfl, hl, q⟩ := h
    rfl
  · obtain ⟨z, rfl, hl, q⟩ := h
    refine ⟨_, (pss_cons (ps_set (i := 1) sc__law_right.nd rfl (Or.inl rfl) (pe_fn h__law_due (hr.mono (by decide)) (by rfl) (pa_cons (pv 0) pa_nil)))
      (pss_cons (ps_for PassesOwn.never rfl (pi_range1 rfl B.range (pa_cons pe_int pa_nil)) (pg_name (i := 2) sc__law_right.nd rfl (Or.inl rfl))
        (pss_cons (ps_set (i := 3) sc__law_right.nd rfl (Or.inl rfl) pe_non)
        (pss_cons (ps_set (i := 4) sc__law_right.nd rfl (Or.inl rfl) pe_non)
        (pss_cons (ps_try_keep (i := 5) rfl rfl rfl sc__law_right.nd rfl rfl ⟨rfl, by decide, .inl g_EC_PowerError.at_⟩ (fun W pn xe tk hp => (pss_one (ps_set (i := 3) sc__law_right.nd rfl (Or.inl rfl) (k_fnX tk h_read_number (hr.mono (by decide)) (by rfl) (pa_cons (pv 0) pa_nil)))))
          (fun a oe cls d pn hz hf => (pss_one (ps_set (i := 4) sc__law_right.nd rfl (Or.inl rfl) (pv 5)))))
        (pss_cons (ps_if (PW.pt (pw_and (pt_val (pe_callB (k_isi K) (by rfl) B.isinstance (by decide +kernel) (pa_cons (pv 1) (pa_cons (pe_bltn (v := .ty "tuple") (u := .type "tuple") (by rfl) B.tuple (by decide +kernel) rfl) pa_nil)))) (pw_and1 (PW.pt (pw_or (pt_cmpR op_isN (pv 4) pe_non (nomark _)) (pw_or1 (pt_cmpR (k_neD K rfl hr.units) (pe_fn h__law_kind (hr.mono (by decide)) (by rfl) (pa_cons (pv 4) pa_nil)) (pv 1) (nomark _))))))))
          (pss_one (ps_ret pe_bl))
          pss_nil)
        (pss_one (ps_if (PW.pt (pw_and (pt_val (pe_callB (k_isi K) (by rfl) B.isinstance (by decide +kernel) (pa_cons (pv 1) (pa_cons (pe_bltn (v := .ty "int") (u := .type "int") (by rfl) B.int (by decide +kernel) rfl) pa_nil)))) (pw_and1 (pt_not (pt_val (pe_fn h__law_is_whole (hr.mono (by decide)) (by rfl) (pa_cons (pv 3) (pa_cons (pv 1) pa_nil))))))))
          (pss_one (ps_ret pe_bl))
          pss_nil)))))))
      (pss_one (ps_ret pe_bl)))), ?_⟩
    walk_at "x"
    refine ⟨z, rfl, hl, fun n hdue H1 s1 => ?_, fun p hdue t H1 s1 ht => ?_⟩
    · walk_at "x"
      refine ⟨by decide, by decide, for_r (fun i σ H' => ∃ (v2 v3 v4 v5 : Option V), σ = [some (.str z), some (.int (n : Int)), v2, v3, v4, v5] ∧ Same H H') ⟨_, _, _, _, rfl, s1⟩ ?_ ?_⟩
      · rintro i σ H2 hi ⟨v2, v3, v4, v5, rfl, s2⟩ N hN
        walk_at "x"
        refine ⟨z, rfl, hl, fun n' h => ?_, fun p h => ?_⟩
        · rw [hdue] at h
          cases h
          walk_at "x"
          refine r_isi (ty_int _) (c := false) (by decide +kernel) ?_
          walk_at "x"
          refine r_isi (ty_int _) (c := true) (by decide +kernel) ?_
          walk_at "x"
          refine ⟨n, n, rfl, ?_⟩
          rw [decide_eq_true rfl]
          walk_at "x"
          exact hN _ _ ⟨_, _, _, _, rfl, s2⟩
        · rw [hdue] at h
          cases h
      · rintro σ H2 ⟨v2, v3, v4, v5, rfl, s2⟩
        walk_at "x"
        exact q _ s2
    · walk_at "x"
      refine ⟨by decide, by decide, for_r (fun i σ H' => ∃ (v2 v3 v4 v5 : Option V), σ = [some (.str z), some (.ref t), v2, v3, v4, v5] ∧ Same H1 H') ⟨_, _, _, _, rfl, Same.refl _⟩ ?_ ?_⟩
      · rintro i σ H2 hi ⟨v2, v3, v4, v5, rfl, s2⟩ N hN
        walk_at "x"
        refine ⟨z, rfl, hl, fun n' h => ?_, fun p' h => ?_⟩
        · rw [hdue] at h
          cases h
        · rw [hdue] at h
          cases h
          intro d hd
          walk_at "x"
          refine ⟨g_ET_NoNumber.ex, fun a ha _ => ?_⟩
          have s3 := (same_new (o := .xd [("place", V.int (p : Int))]) hd).trans (same_new (o := xob a (.ref (clA K "NoNumber")) (some d)) ha)
          have hX : XO K (upd (upd H2 d (.xd [("place", .int (p : Int))])) a (xob a (.ref (clA K "NoNumber")) (some d))) a "NoNumber" "place" (.int (p : Int)) := ⟨d, upd_same, (upd_ne (ne_of_none upd_same ha)).trans upd_same⟩
          generalize upd (upd H2 d (.xd [("place", .int (p : Int))])) a (xob a (.ref (clA K "NoNumber")) (some d)) = H3 at s3 hX ⊢
          have ht3 := s3 _ _ (s2 _ _ ht)
          refine r_isi (ty_tup (SqT.of ht3)) (c := true) (by decide +kernel) ?_
          walk_at "x"
          refine ⟨a, p, rfl, .inr ⟨hX, fun t4 H4 s4 ht4 => ?_⟩⟩
          have ht5 := s4 _ _ ht3
          refine ne_one (dp_X ht4) (dp_X ht5) (sh_X _) (eqv_X _ _) ?_
          walk_at "x"
          refine r_isi (ty_tup (SqT.of ht5)) (c := false) (by decide +kernel) ?_
          walk_at "x"
          exact hN _ _ ⟨_, _, _, _, rfl, s2.trans (s3.trans s4)⟩
      · rintro σ H2 ⟨v2, v3, v4, v5, rfl, s2⟩
        walk_at "x"
        exact q _ (s1.trans s2)
end
abbrev s_law : Stmt := top 27
theorem sc_law : FnScope ["script", "deck", "turn", "base", "exponent", "text", "some", "free", "said", "fixed", "k", "odd"] ["script"] (defScope s_law) := ⟨rfl, rfl, rfl, by decide +kernel, rfl, by decide +kernel, by decide +kernel⟩
def sp_law (K : PySem.W.Frag) : Sp := fun vs H Q _ => ∃ (a : Addr) (ns : List Int), vs = [.ref a] ∧ SqL K H a (ns.map V.int) ∧ ns.length ≤ 63 ∧ ∀ H', Q (.bl true) H'
theorem log_small {n : Nat} (h : n < 2 ^ 1900) : ((n : Int)).natAbs.log2 < 1920 := by
  have := log2_le_of_le (Nat.le_of_lt h)
  rw [Int.natAbs_natCast]
  generalize 2 ^ 1900 = w at h
  omega
theorem len_num {n k : Nat} (hk : 0 < k) (h : n < 10 ^ k) : (PySem.Str.ofString (toString (n : Int))).length ≤ k := by
  rw [len_is, TL.tl_num]
  exact TL.numL_len hk h
section
variable {P : Program} {w : World} {K : PySem.W.Frag} {mg : PySem.Str → Option Value} {base : Heap}
theorem bi_law {f : Addr} {fd : FuncData} (F : Fun K "law" "law" s_law f fd) : Binds K fd ["script"] [] := F.binds (ps := ["script"]) fun _ _ _ _ _ _ us hl => match us, hl with | [_], _ => rfl
set_option maxHeartbeats 4000000 in
theorem ok_law {f : Addr} {fd : FuncData} (F : Fun K "law" "law" s_law f fd) (B : Bt mg) (g_EC_NoAsk : EC K mg "NoAsk") (g_OT_NoAsk : OT K "NoAsk") (h__law_deck : Fn P w K mg base CX0 1 "_law_deck" ["script"] (sp__law_deck K)) (h__law_next : Fn P w K mg base CX0 2 "_law_next" ["deck", "many"] (sp__law_next K)) (h__law_kind : Fn P w K mg base CX0 1 "_law_kind" ["caught"] (sp__law_kind K)) (h__law_number : Fn P w K mg base CX0 5 "_law_number" ["deck", "most"] (sp__law_number K)) (h__law_spoilt : Fn P w K mg base CX0 4 "_law_spoilt" ["deck", "text"] (sp__law_spoilt K)) (h_NoFactor___init__ : FnE P w K mg base 1 "NoFactor" ["self", "number"] (sp_NoFactor___init__ K)) (h_NoNumber___init__ : FnE P w K mg base 1 "NoNumber" ["self", "place"] (sp_NoNumber___init__ K)) (h__law_right : Fn P w K mg base CX0 5 "_law_right" ["text"] (sp__law_right K)) (h__law_sign : Fn P w K mg base CX0 3 "_law_sign" ["deck"] (sp__law_sign K)) : FnOk P w K mg base CX0 6 f fd ["script"] (sp_law K) := by
  refine F.ok sc_law (fun vs H Q E h => ?_) (fun cdv A outer s H vs Q E hr h => ?_)
  · obtain ⟨a, ns, rfl, hS, hlen, q⟩ := h
    rfl
  · obtain ⟨a, ns, rfl, hS, hlen, q⟩ := h
    refine ⟨_, (pss_cons (ps_set (i := 1) sc_law.nd rfl (Or.inr rfl) (pe_fn h__law_deck (hr.mono (by decide)) (by rfl) (pa_cons (pv 0) pa_nil)))
      (pss_cons (ps_for PassesOwn.never rfl (pi_range1 rfl B.range (pa_cons pe_int pa_nil)) (pg_name (i := 2) sc_law.nd rfl (Or.inl rfl))
        (pss_cons (ps_set (i := 3) sc_law.nd rfl (Or.inl rfl) (pe_callTy call_str_int (by rfl) B.str (by decide +kernel) (pa_cons (pe_fn h__law_number (hr.mono (by decide)) (by rfl) (pa_cons (pv 1) (pa_cons (pe_op op_pow pe_int pe_int) pa_nil))) pa_nil)))
        (pss_cons (ps_set (i := 4) sc_law.nd rfl (Or.inl rfl) (pe_callTy call_str_int (by rfl) B.str (by decide +kernel) (pa_cons (pe_ix (k_ixL K) (pe_lst (pa_cons (pe_fn h__law_next (hr.mono (by decide)) (by rfl) (pa_cons (pv 1) (pa_cons pe_int pa_nil))) (pa_cons (pe_op op_add pe_int (pe_fn h__law_next (hr.mono (by decide)) (by rfl) (pa_cons (pv 1) (pa_cons pe_int pa_nil)))) (pa_cons (pe_fn h__law_next (hr.mono (by decide)) (by rfl) (pa_cons (pv 1) (pa_cons (pe_op op_pow pe_int pe_int) pa_nil))) pa_nil)))) (pe_fn h__law_next (hr.mono (by decide)) (by rfl) (pa_cons (pv 1) (pa_cons pe_int pa_nil))) (fun _ _ => rfl)) pa_nil)))
        (pss_cons (ps_set (i := 5) sc_law.nd rfl (Or.inr rfl) (pe_ix (k_ixL K) (pe_lst (pa_cons (pv 3) (pa_cons (pe_op op_add_str (pe_op op_add_str (pv 3) pe_str) (pv 4)) pa_nil))) (pe_callTy call_int1 (by rfl) B.int (by decide +kernel) (pa_cons (pe_cmpR op_gt (pe_fn h__law_next (hr.mono (by decide)) (by rfl) (pa_cons (pv 1) (pa_cons pe_int pa_nil))) pe_int (nomark _)) pa_nil)) (fun _ _ => rfl)))
        (pss_cons (ps_setLc (i := 6) (own := [("k", 10)]) (g := gName 10) (tt := tYes) rfl sc_law.nd rfl rfl (sw_true rfl rfl rfl (by decide +kernel)) (pi_range1 rfl B.range (pa_cons pe_int pa_nil)) (blkOk_by (own := [("k", 10)]) (N := ["script", "deck", "turn", "base", "exponent", "text", "some", "free", "said", "fixed", "k", "odd"]) (sc := defScope s_law) (by decide +kernel)) (fun _ _ _ _ _ => (pg_name (i := 10) sc_law.nd rfl (Or.inl rfl))) (fun _ _ _ _ _ => pts_nil) (fun _ _ _ _ _ => (pe_fn h__law_spoilt (hr.mono (by decide)) (by rfl) (pa_cons (pv 1) (pa_cons (pv 5) pa_nil)))))
        (pss_cons (ps_set (i := 6) sc_law.nd rfl (Or.inl rfl) (pe_op op_cat (pv 6) (pe_lst (pa_cons (pe_op op_add_str pe_str (pv 5)) (pa_cons (pe_op op_add_str (pv 5) pe_str) (pa_cons (pe_op op_add_str (pv 5) pe_str) (pa_cons (pe_op op_add_str pe_str (pv 5)) (pa_cons (pe_op op_add_str pe_str (pv 5)) (pa_cons (pe_op op_add_str (pv 5) pe_str) (pa_cons (pe_op op_add_str (pv 5) pe_str) (pa_cons (pe_op op_add_str pe_str (pv 5)) pa_nil)))))))))))
        (pss_cons (ps_set (i := 6) sc_law.nd rfl (Or.inl rfl) (pe_op op_cat (pv 6) (pe_lst (pa_cons (pe_op op_add_str (pe_op op_add_str (pv 3) pe_str) (pv 4)) (pa_cons (pe_op op_add_str (pe_op op_add_str (pv 3) pe_str) (pv 4)) (pa_cons (pe_op op_add_str (pv 3) pe_str) (pa_cons (pe_op op_add_str (pv 3) pe_str) (pa_cons (pv 5) pa_nil))))))))
        (pss_cons (ps_set (i := 7) sc_law.nd rfl (Or.inl rfl) (pe_m1 PySem.F.slot_str_join PySem.F.type_str_join (k_join K) pe_str (pe_lc (own := [("k", 10)]) (g := gName 10) (tt := tYes) rfl sc_law.nd (pi_range1 rfl B.range (pa_cons (pe_ix (k_ixL K) (pe_lst (pa_cons (pe_fn h__law_next (hr.mono (by decide)) (by rfl) (pa_cons (pv 1) (pa_cons pe_int pa_nil))) (pa_cons pe_int pa_nil))) (pe_callTy call_int1 (by rfl) B.int (by decide +kernel) (pa_cons (pe_cmpR op_eq (pv 2) pe_int (nomark _)) pa_nil)) (fun _ _ => rfl)) pa_nil)) (blkOk_by (own := [("k", 10)]) (N := ["script", "deck", "turn", "base", "exponent", "text", "some", "free", "said", "fixed", "k", "odd"]) (sc := defScope s_law) (by decide +kernel)) (fun _ _ _ _ _ => (pg_name (i := 10) sc_law.nd rfl (Or.inl rfl))) (fun _ _ _ _ _ => pts_nil) (fun _ _ _ _ _ => (pe_ix ix_str pe_str (pe_fn h__law_next (hr.mono (by decide)) (by rfl) (pa_cons (pv 1) (pa_cons pe_int pa_nil))) (fun _ _ => rfl))))))
        (pss_one (ps_if (pt_cmpR (k_neD K rfl hr.units) (pe_lc (own := [("odd", 11)]) (g := gName 11) rfl sc_law.nd (pi_list (pe_op op_cat (pv 6) (pe_lst (pa_cons (pv 7) (pa_cons (pe_fn h__law_sign (hr.mono (by decide)) (by rfl) (pa_cons (pv 1) pa_nil)) pa_nil))))) (blkOk_by (own := [("odd", 11)]) (N := ["script", "deck", "turn", "base", "exponent", "text", "some", "free", "said", "fixed", "k", "odd"]) (sc := defScope s_law) (by decide +kernel)) (fun _ _ _ _ _ => (pg_name (i := 11) sc_law.nd rfl (Or.inl rfl))) (fun _ _ _ _ _ => (pts_one (pt_not (pt_val (pe_fn h__law_right (hr.mono (by decide)) (by rfl) (pa_cons (pv 11) pa_nil)))))) (fun _ _ _ _ _ => (pv 11))) (pe_lst pa_nil) (nomark _))
          (pss_one (ps_ret pe_bl))
          pss_nil))))))))))
      (pss_cons (ps_set (i := 8) sc_law.nd rfl (Or.inl rfl) (pe_ix (k_ixL K) (pe_lst (pa_cons pe_str (pa_cons pe_str (pa_cons pe_str (pa_cons (pe_op op_add_str (pe_op op_repS pe_str pe_int) pe_str) pa_nil))))) (pe_fn h__law_next (hr.mono (by decide)) (by rfl) (pa_cons (pv 1) (pa_cons pe_int pa_nil))) (fun _ _ => rfl)))
      (pss_cons (ps_if (PW.pt (pw_or (pt_cmpR op_ne (k_strE g_OT_NoAsk g_EC_NoAsk (by rfl) (by rfl) B.str (hu2_of hr) (pv 8)) (pv 8) (nomark _)) (pw_or1 (pt_cmpR (k_neD K rfl hr.units) (pe_fn h__law_kind (hr.mono (by decide)) (by rfl) (pa_cons (k_mkV h_NoNumber___init__ (hr.mono (by decide)) (by rfl) pe_int) pa_nil)) (pe_tup (pa_cons pe_str (pa_cons pe_int pa_nil))) (nomark _)))))
        (pss_one (ps_ret pe_bl))
        pss_nil)
      (pss_cons (ps_if (pt_cmpR (k_neD K rfl hr.units) (pe_fn h__law_kind (hr.mono (by decide)) (by rfl) (pa_cons (k_mkV h_NoFactor___init__ (hr.mono (by decide)) (by rfl) (pe_un un_neg pe_int)) pa_nil)) (pe_tup (pa_cons pe_str (pa_cons (pe_un un_neg pe_int) pa_nil))) (nomark _))
        (pss_one (ps_ret pe_bl))
        pss_nil)
      (pss_cons (ps_set (i := 9) sc_law.nd rfl (Or.inl rfl) (pe_lst (pa_cons pe_str (pa_cons pe_str (pa_cons pe_str (pa_cons pe_str (pa_cons pe_str (pa_cons pe_str (pa_cons pe_str (pa_cons pe_str (pa_cons pe_str (pa_cons pe_str (pa_cons pe_str (pa_cons pe_str (pa_cons pe_str (pa_cons (pe_op op_repS pe_str pe_int) pa_nil))))))))))))))))
      (pss_one (ps_ret (pe_cmpR (k_eqD K rfl hr.units) (pe_lc (own := [("text", 5)]) (g := gName 5) rfl sc_law.nd (pi_list (pv 9)) (blkOk_by (own := [("text", 5)]) (N := ["script", "deck", "turn", "base", "exponent", "text", "some", "free", "said", "fixed", "k", "odd"]) (sc := defScope s_law) (by decide +kernel)) (fun _ _ _ _ _ => (pg_name (i := 5) sc_law.nd rfl (Or.inl rfl))) (fun _ _ _ _ _ => (pts_one (pt_not (pt_val (pe_fn h__law_right (hr.mono (by decide)) (by rfl) (pa_cons (pv 5) pa_nil)))))) (fun _ _ _ _ _ => (pv 5))) (pe_lst pa_nil) (nomark _)))))))))), ?_⟩
    have e40 : (10 : Int) ^ Int.toNat 40 = ((10 ^ 40 : Nat) : Int) := rfl
    have c40 : CPow 10 40 := by unfold CPow; omega
    have e6 : (10 : Int) ^ Int.toNat 6 = 1000000 := rfl
    have c6 : CPow 10 6 := by unfold CPow; omega
    walk_at "x"
    refine ⟨a, ns, rfl, hS, fun d l H1 nd s1 d1 => ?_⟩
    walk_at "x"
    refine ⟨by omega, by omega, for_r (fun i σ H' => ∃ (v2 v3 v4 v5 v6 v7 v8 v9 v10 v11 : Option V), σ = [some (.ref a), some (.ref d), v2, v3, v4, v5, v6, v7, v8, v9, v10, v11] ∧ Dk H' d l (1000 * i)) ⟨_, _, _, _, _, _, _, _, _, _, rfl, d1⟩ ?_ ?_⟩
    · rintro i σ H2 hi ⟨v2, v3, v4, v5, v6, v7, v8, v9, v10, v11, rfl, d2⟩ N hN
      have hi : i < 6 := hi
      walk_at "x"
      rw [e40, e6]
      refine ⟨c40, use_number (Kp.refl _ _) d2 (by omega) (by omega) (by decide) fun b H3 k3 _ d3 b0 b1 => ?_⟩
      obtain ⟨b, rfl⟩ := Int.eq_ofNat_of_zero_le b0
      have hb : b < 10 ^ 41 := Nat.lt_of_le_of_lt (by omega : b ≤ 10 ^ 40) (by decide)
      have hb2 : b < 2 ^ 1900 := Nat.lt_of_lt_of_le hb (by decide +kernel)
      refine ⟨b, rfl, log_small hb2, ?_⟩
      have lb := len_num (by decide) hb
      generalize PySem.Str.ofString (toString (b : Int)) = zb at lb ⊢
      have Lh : ("^" : PySem.Str).length = 1 := by decide +kernel
      refine use_next (Kp.refl _ _) d3 (by omega) (by omega) (by omega) fun r1 H4 k4 K4 d4 a4 b4 => ?_
      refine use_next K4 d4 (by omega) (by omega) (by omega) fun r2 H5 k5 K5 d5 a5 b5 => ⟨r2, rfl, c6, ?_⟩
      refine use_next K5 d5 (by omega) (by omega) (by omega) fun r3 H6 k6 K6 d6 a6 b6 => ⟨by show 3 ≤ sizeLine; decide, fun p hp => ?_⟩
      refine pick_next (Btw 0 1000000) (fun x hx => by
        simp only [List.mem_cons, List.not_mem_nil, or_false] at hx
        rcases hx with rfl | rfl | rfl <;> exact Btw.mk (by omega) (by omega)) K6 d6 (by omega) hp rfl (by omega) (by omega) fun v H7 hv k7 K7 d7 => ?_
      obtain ⟨ex, rfl, _, hex⟩ := hv
      have le := len_num (n := ex) (k := 7) (by decide) (by omega)
      have hex2 : ex < 2 ^ 1900 := Nat.lt_of_le_of_lt hex (by decide +kernel)
      refine ⟨ex, rfl, log_small hex2, ?_⟩
      generalize PySem.Str.ofString (toString (ex : Int)) = ze at le ⊢
      have la := len_app zb "^"
      have la2 := len_app (zb ++ "^") ze
      refine ⟨size_le' (by omega), size_le' (by omega), by show 2 ≤ sizeLine; decide, fun p2 hp2 => ?_⟩
      have s8 := same_new (o := .lst [V.str zb, V.str (zb ++ "^" ++ ze)]) hp2
      have np := d7.ne hp2
      have hP2 : upd H7 p2 (.lst [V.str zb, V.str (zb ++ "^" ++ ze)]) p2 = some (.lst [V.str zb, V.str (zb ++ "^" ++ ze)]) := upd_same
      have d8 := d7.same s8
      generalize upd H7 p2 (.lst [V.str zb, V.str (zb ++ "^" ++ ze)]) = H8 at s8 hP2 d8 ⊢
      refine use_next (Kp.refl _ _) d8 (by omega) (by omega) (by omega) fun r4 H9 k9 _ d9 a9 b9 => ⟨r4, rfl, ?_⟩
      have hP3 := k9 _ _ np hP2
      have hx : ∃ v, atI [V.str zb, V.str (zb ++ "^" ++ ze)] (if 0 < r4 then 1 else 0) = some v ∧ Tx 60 v := by
        by_cases c : 0 < r4
        · rw [if_pos c]
          exact ⟨_, rfl, _, rfl, by omega⟩
        · rw [if_neg c]
          exact ⟨_, rfl, _, rfl, by omega⟩
      obtain ⟨v, hv, zt, rfl, hzt⟩ := hx
      refine r_ixL (SqL.of hP3) hv ⟨by decide, by decide, ?_⟩
      have d10 := d9.mono (m := 1000 * i + 200) (by omega)
      refine lc_rI (n := 8) (fun j acc Hx => Kp d H9 Hx ∧ Dk Hx d l (1000 * i + 200 + 40 * j) ∧ (∀ x ∈ acc, Tx 200 x) ∧ acc.length ≤ j) (fun D hD => ⟨sm_kp (same_new hD), d10.same (same_new hD), fun x hx => (by cases hx), Nat.le_refl _⟩) ?_ ?_
      · rintro j acc D Hx hj hD hDa ⟨kx, dx, gx, lx⟩ N0 N1 n0 n1
        walk_at "x"
        refine ⟨d, l, _, zt, rfl, dx, by omega, by omega, fun z' Hy ky dy hz' => ?_⟩
        have nd2 := d9.ne hD
        have hDy := ky _ _ nd2 hDa
        refine n1 _ Hy hDy (size_le' (by omega)) ⟨fun c o nc h => ?_, (dy.mono (by omega)).upd nd2 (d9.neL hD), fun x hx => ?_, by simp; omega⟩
        · exact (upd_ne (ne_of_none h hD)).trans (ky _ _ nc (kx _ _ nc h))
        · rcases List.mem_append.mp hx with h | h
          · exact gx x h
          · simp only [List.mem_cons, List.not_mem_nil, or_false] at h
            exact h ▸ ⟨z', rfl, hz'⟩
      intro D acc Hx hD hDa ⟨kx, dx, gx, lx⟩
      walk_at "x"
      have q1 : (" " : PySem.Str).length = 1 := by decide +kernel
      have q2 : ("\n" : PySem.Str).length = 1 := by decide +kernel
      have q3 : ("0" : PySem.Str).length = 1 := by decide +kernel
      have q4 : ("-" : PySem.Str).length = 1 := by decide +kernel
      have q5 : ("^2" : PySem.Str).length = 2 := by decide +kernel
      have q6 : ("^0" : PySem.Str).length = 2 := by decide +kernel
      have q7 : ("^^" : PySem.Str).length = 2 := by decide +kernel
      have q8 : ("^201x" : PySem.Str).length = 5 := by decide +kernel
      have q9 : ("^-1" : PySem.Str).length = 3 := by decide +kernel
      have tx : ∀ x y : PySem.Str, x.length + y.length ≤ 200 → Tx 200 (.str (x ++ y)) := fun x y h => ⟨_, rfl, by rw [len_app]; exact h⟩
      have sz : ∀ {m : Nat}, m ≤ 200 → m ≤ sizeLine := fun h => size_le' (by omega)
      refine ⟨sz (by omega), sz (by omega), sz (by omega), sz (by omega), sz (by omega), sz (by omega), sz (by omega), sz (by omega), by show 8 ≤ sizeLine; decide, fun p8 hp8 => ?_⟩
      have nD := d9.ne hD
      have nDl := d9.neL hD
      generalize eL8 : [V.str (" " ++ zt), V.str (zt ++ " "), V.str (zt ++ "\n"), V.str ("0" ++ zt), V.str ("-" ++ zt), V.str (zt ++ "^"), V.str (zt ++ "^2"), V.str ("^" ++ zt)] = l8
      have g8 : ∀ x ∈ l8, Tx 200 x := fun x hx => by
        subst eL8
        simp only [List.mem_cons, List.not_mem_nil, or_false] at hx
        rcases hx with rfl | rfl | rfl | rfl | rfl | rfl | rfl | rfl <;> exact tx _ _ (by omega)
      have n8 : l8.length = 8 := by
        subst eL8
        rfl
      refine r_cat (same_new hp8 _ _ hDa) upd_same (size_le' (by omega)) fun p9 hp9 => ?_
      have sA := (same_new (o := .lst l8) hp8).trans (same_new (o := .lst (acc ++ l8)) hp9)
      have hA : upd (upd Hx p8 (.lst l8)) p9 (.lst (acc ++ l8)) p9 = some (.lst (acc ++ l8)) := upd_same
      have gA : ∀ x ∈ acc ++ l8, Tx 200 x := fun x hx => (List.mem_append.mp hx).elim (gx x) (g8 x)
      have lA : (acc ++ l8).length ≤ 16 := by simp; omega
      have dA := dx.same sA
      generalize upd (upd Hx p8 (.lst l8)) p9 (.lst (acc ++ l8)) = HA at sA hA dA ⊢
      generalize acc ++ l8 = xa at hA gA lA
      have m1 := len_app zb "^0"
      have m2 := len_app zb "^^"
      refine ⟨sz (by omega), sz (by omega), sz (by omega), sz (by omega), sz (by omega), sz (by omega), by show 5 ≤ sizeLine; decide, fun p10 hp10 => ?_⟩
      generalize eL5 : [V.str (zb ++ "^0" ++ ze), V.str (zb ++ "^^" ++ ze), V.str (zb ++ "^201x"), V.str (zb ++ "^-1"), V.str zt] = l5
      have g5 : ∀ x ∈ l5, Tx 200 x := fun x hx => by
        subst eL5
        simp only [List.mem_cons, List.not_mem_nil, or_false] at hx
        rcases hx with rfl | rfl | rfl | rfl | rfl
        · exact tx _ _ (by omega)
        · exact tx _ _ (by omega)
        · exact tx _ _ (by omega)
        · exact tx _ _ (by omega)
        · exact ⟨_, rfl, by omega⟩
      have n5 : l5.length = 5 := by
        subst eL5
        rfl
      refine r_cat (same_new hp10 _ _ hA) upd_same (size_le' (by omega)) fun p11 hp11 => ?_
      have sB := (same_new (o := .lst l5) hp10).trans (same_new (o := .lst (xa ++ l5)) hp11)
      have hB : upd (upd HA p10 (.lst l5)) p11 (.lst (xa ++ l5)) p11 = some (.lst (xa ++ l5)) := upd_same
      have gB : ∀ x ∈ xa ++ l5, Tx 200 x := fun x hx => (List.mem_append.mp hx).elim (gA x) (g5 x)
      have lB : (xa ++ l5).length ≤ 21 := by simp; omega
      have dB := dA.same sB
      have nB := dA.ne (p := p11) (by
        cases hq : HA p11 with
        | none => rfl
        | some o =>
          have := same_new (o := .lst l5) hp10 _ _ hq
          rw [hp11] at this
          cases this)
      generalize upd (upd HA p10 (.lst l5)) p11 (.lst (xa ++ l5)) = HB at sB hB dB ⊢
      generalize xa ++ l5 = xb at hB gB lB
      refine use_next (Kp.refl _ _) dB (by omega) (by omega) (by omega) fun r5 HC kC _ dC aC bC => ⟨by show 2 ≤ sizeLine; decide, fun p12 hp12 => ?_⟩
      have hBC := kC _ _ nB hB
      have s12 := same_new (o := .lst [V.int r5, V.int 200]) hp12
      have hj : ∃ j : Nat, atI [V.int r5, V.int 200] (if 0 + (i : Int) = 0 then 1 else 0) = some (.int (j : Int)) ∧ j ≤ 200 := by
        by_cases c : 0 + (i : Int) = 0
        · rw [if_pos c]
          exact ⟨200, rfl, Nat.le_refl _⟩
        · rw [if_neg c]
          refine ⟨r5.toNat, ?_, by omega⟩
          rw [show ((r5.toNat : Nat) : Int) = r5 by omega]
          rfl
      obtain ⟨j, hj, hj2⟩ := hj
      refine r_ixL (SqL.of upd_same) hj ⟨j, rfl, by omega, by omega, ?_⟩
      rw [Int.toNat_natCast]
      have hBD := s12 _ _ hBC
      have dD := dC.same s12
      generalize upd HC p12 (.lst [V.int r5, V.int 200]) = HD at hBD dD ⊢
      refine lc_rI (n := j) (fun m acc Hx => Kp d HD Hx ∧ Dk Hx d l (1000 * i + 530 + m) ∧ ∃ ys : List PySem.Str, acc = ys.map V.str ∧ ys.length ≤ m ∧ ∀ y ∈ ys, y.length = 1) (fun D2 hD2 => ⟨sm_kp (same_new hD2), (dD.mono (by omega)).same (same_new hD2), [], rfl, Nat.le_refl _, fun y hy => (by cases hy)⟩) ?_ ?_
      · rintro m acc2 D2 Hy hm hD2 hDa2 ⟨ky, dy, ys, rfl, hys, hy1⟩ N0 N1 n0 n1
        have nd3 := dD.ne hD2
        walk_at "x"
        refine pick_sign (by decide +kernel) (by decide +kernel) (by decide +kernel) (Kp.refl _ _) dy (by omega) fun c Hz kz _ dz => ?_
        have hDz := kz _ _ nd3 hDa2
        refine n1 _ Hz hDz (size_le' (by rw [List.length_map]; omega)) ⟨fun c2 o nc h => ?_, (dz.mono (by omega)).upd nd3 (dD.neL hD2), ys ++ [⟨#[c]⟩], by simp, by simp; omega, fun y hy => ?_⟩
        · exact (upd_ne (ne_of_none h hD2)).trans (kz _ _ nc (ky _ _ nc h))
        · rcases List.mem_append.mp hy with h | h
          · exact hy1 y h
          · simp only [List.mem_cons, List.not_mem_nil, or_false] at h
            exact h ▸ len_one c
      intro D2 acc2 HE hD2 hDa2 ⟨kE, dE, ys, eys, hys, hy1⟩
      subst eys
      have l0 : ("" : PySem.Str).length = 0 := by decide +kernel
      have sy := sum_ones hy1
      refine ⟨"", D2, ys, rfl, rfl, .inl (SqL.of hDa2), by rw [sy, l0]; omega, ?_⟩
      have lj : (PySem.Txt.join "" ys).length ≤ 200 := by
        have := len_join ys
        rw [sy] at this
        show (PySem.Builtin.Str.glued "" ys).length ≤ 200
        rw [PySem.StrLaws.glued_eq_join]
        omega
      generalize PySem.Txt.join "" ys = zf at lj ⊢
      have hBE := kE _ _ nB hBD
      refine ⟨d, l, _, rfl, dE, by omega, fun c HF kF dF => ⟨by show 2 ≤ sizeLine; decide, fun p13 hp13 => ?_⟩⟩
      have hBF := kF _ _ nB hBE
      refine r_cat (same_new hp13 _ _ hBF) upd_same (size_le' (by simp; omega)) fun p14 hp14 => ?_
      have sG := (same_new (o := .lst [V.str zf, V.str ⟨#[c]⟩]) hp13).trans (same_new (o := .lst (xb ++ [V.str zf, V.str ⟨#[c]⟩])) hp14)
      have hG : upd (upd HF p13 (.lst [V.str zf, V.str ⟨#[c]⟩])) p14 (.lst (xb ++ [V.str zf, V.str ⟨#[c]⟩])) p14 = some (.lst (xb ++ [V.str zf, V.str ⟨#[c]⟩])) := upd_same
      have gG : ∀ x ∈ xb ++ [V.str zf, V.str ⟨#[c]⟩], Tx 200 x := fun x hx => by
        rcases List.mem_append.mp hx with h | h
        · exact gB x h
        · simp only [List.mem_cons, List.not_mem_nil, or_false] at h
          rcases h with rfl | rfl
          · exact ⟨_, rfl, lj⟩
          · exact ⟨_, rfl, by rw [len_one]; omega⟩
      have lG : (xb ++ [V.str zf, V.str ⟨#[c]⟩]).length ≤ 30 := by simp; omega
      have dG := dF.same sG
      generalize upd (upd HF p13 (.lst [V.str zf, V.str ⟨#[c]⟩])) p14 (.lst (xb ++ [V.str zf, V.str ⟨#[c]⟩])) = HG at sG hG dG ⊢
      generalize xb ++ [V.str zf, V.str ⟨#[c]⟩] = xg at hG gG lG
      refine ⟨p14, rfl, ⟨_, SqL.of hG⟩, lc_l (fun _ => none) (SqL.of hG) (size_le' (by omega)) (fun m x Hy hx sy2 N0 N1 n0 n1 => ?_) fun D3 HH hD3 sH hL => ?_⟩
      · obtain ⟨y, rfl, hy⟩ := gG x (List.mem_of_getElem? hx)
        walk_at "x"
        refine ⟨y, rfl, by omega, fun Hz sz2 => ?_⟩
        walk_at "x"
        exact n0 rfl _ sz2
      rw [none_left] at hL
      refine ⟨by decide, fun p15 hp15 => ?_⟩
      refine r_neL (ns := []) (ms := []) (SqL.of (same_new hp15 _ _ hL)) (SqL.of upd_same) ?_
      rw [decide_eq_true rfl]
      walk_at "x"
      exact hN _ _ ⟨_, _, _, _, _, _, _, _, _, _, rfl, (dG.same (sH.trans (same_new hp15))).mono (by omega)⟩
    · rintro σ H2 ⟨v2, v3, v4, v5, v6, v7, v8, v9, v10, v11, rfl, d2⟩
      walk_at "x"
      have hx : ("x" : PySem.Str) = ⟨#[120]⟩ := str_ext (by decide +kernel)
      have hw : ("~" : PySem.Str) = ⟨#[126]⟩ := str_ext (by decide +kernel)
      refine ⟨120, hx, 60, rfl, by omega, by decide +kernel, by show 4 ≤ sizeLine; decide, fun p hp => ?_⟩
      refine pick_next (fun v => ∃ z : PySem.Str, v = .str z) (fun x hx => by
        simp only [List.mem_cons, List.not_mem_nil, or_false] at hx
        rcases hx with rfl | rfl | rfl | rfl <;> exact ⟨_, rfl⟩) (Kp.refl _ _) d2 (by omega) hp rfl (by omega) (by omega) fun v H3 hv _ _ d3 => ?_
      obtain ⟨z, rfl⟩ := hv
      refine ⟨z, rfl, rfl, ?_⟩
      rw [if_neg fun h => h rfl]
      refine ⟨⟨7, rfl, by omega⟩, fun x1 hx1 a1 ha1 => ?_⟩
      refine ⟨a1, 7, rfl, .inr ⟨⟨x1, upd_same, (upd_ne (ne_of_none upd_same ha1)).trans upd_same⟩, fun t1 H4 s4 ht1 => ⟨by show 2 ≤ sizeLine; decide, fun t2 ht2 => ?_⟩⟩⟩
      refine ne_one (dp_X (same_new ht2 _ _ ht1)) (dp_X upd_same) (sh_X _) (eqv_X _ _) ?_
      walk_at "x"
      intro x2 hx2 a2 ha2
      refine ⟨a2, -9, rfl, .inl ⟨⟨x2, upd_same, (upd_ne (ne_of_none upd_same ha2)).trans upd_same⟩, fun t3 H5 s5 ht3 => ⟨by show 2 ≤ sizeLine; decide, fun t4 ht4 => ?_⟩⟩⟩
      refine ne_one (dp_X (same_new ht4 _ _ ht3)) (dp_X upd_same) (sh_X _) (eqv_X _ _) ?_
      generalize upd H5 t4 _ = H6
      walk_at "x"
      refine ⟨126, hw, 200, rfl, by omega, by show 14 ≤ sizeLine; decide, fun p3 hp3 => ⟨⟨_, SqL.of upd_same⟩, lc_l (fun _ => none) (SqL.of upd_same) (size_le' (by simp)) (fun m x Hy hx sy2 N0 N1 n0 n1 => ?_) fun D3 HH hD3 sH hL => ⟨by decide, fun p4 hp4 => ?_⟩⟩⟩
      · have hm := List.mem_of_getElem? hx
        have ht : Tx 200 x := by
          simp only [List.mem_cons, List.not_mem_nil, or_false] at hm
          rcases hm with rfl | rfl | rfl | rfl | rfl | rfl | rfl | rfl | rfl | rfl | rfl | rfl | rfl | rfl <;> exact ⟨_, rfl, by decide +kernel⟩
        obtain ⟨y, rfl, hy⟩ := ht
        walk_at "x"
        refine ⟨y, rfl, by omega, fun Hz sz2 => ?_⟩
        walk_at "x"
        exact n0 rfl _ sz2
      rw [none_left] at hL
      refine r_eqL (ns := []) (ms := []) (SqL.of (same_new hp4 _ _ hL)) (SqL.of upd_same) ?_
      rw [decide_eq_true rfl]
      exact q _
end
theorem all_mk {l : PySem.W.OpenLaw} {w : World} {K : PySem.W.Frag} {h : Heap} {mg : PySem.Str → Option Value} {fa : Addr} (X : K.In h) (G : h.Ns mainGlobals mg) (hfa : mg "law" = some (.ref fa))
    {E0 : Addr} {xn0 xq0 : Str} {xN0 : Addr} {xb0 : List Value} {xs0 : List Str} {xu0 : List Value} {xa0 : Bool} {xc0 : Option Bool} {xd0 : Option Addr} {xm0 xo0 xp0 xr0 xt0 : Option Value}
    (ae0 : PySem.W.nsIn K mainGlobals "PowerError" = some (some (.ref E0)))
    (xl0 : K.lookup E0 = some (excClassObj xn0 xq0 E0 xN0 xb0 [.type "ValueError", .type "Exception", .type "BaseException", .type "object"] true xs0 xu0 xa0 xc0 xd0 xm0 xo0 xp0 xr0 xt0 "ValueError.__new__"))
    (es0 : PySem.W.findIn K (.ref E0) "__setattr__" = some (some (.builtin "object.__setattr__"))) (et0 : PySem.W.typeIn K (.ref E0) = some (.type "type")) (ek0 : PySem.W.keepIn K (.ref E0) = true)
    (eg0 : PySem.W.findIn K (.ref E0) "__getattribute__" = some (some (.builtin "BaseException.__getattribute__"))) (eh0 : PySem.W.findIn K (.ref E0) "__getattr__" = some none) (eb0 : PySem.W.subIn K (.ref E0) (.type "BaseException") = some true) (ed0 : PySem.W.hasDictIn K E0 = true)
    (ec0 : PySem.W.findIn K (.ref E0) "__class__" = some (some (.builtin "object.__class__"))) (em0 : PySem.W.mroIn K E0 (.type "object") = some true)
    {E1 : Addr} {xn1 xq1 : Str} {xN1 : Addr} {xb1 : List Value} {xs1 : List Str} {xu1 : List Value} {xa1 : Bool} {xc1 : Option Bool} {xd1 : Option Addr} {xm1 xo1 xp1 xr1 xt1 : Option Value}
    (ae1 : PySem.W.nsIn K mainGlobals "NoNumber" = some (some (.ref E1)))
    (xl1 : K.lookup E1 = some (excClassObj xn1 xq1 E1 xN1 xb1 [.ref E0, .type "ValueError", .type "Exception", .type "BaseException", .type "object"] true xs1 xu1 xa1 xc1 xd1 xm1 xo1 xp1 xr1 xt1 "ValueError.__new__"))
    (es1 : PySem.W.findIn K (.ref E1) "__setattr__" = some (some (.builtin "object.__setattr__"))) (et1 : PySem.W.typeIn K (.ref E1) = some (.type "type")) (ek1 : PySem.W.keepIn K (.ref E1) = true)
    (eg1 : PySem.W.findIn K (.ref E1) "__getattribute__" = some (some (.builtin "BaseException.__getattribute__"))) (eh1 : PySem.W.findIn K (.ref E1) "__getattr__" = some none) (eb1 : PySem.W.subIn K (.ref E1) (.type "BaseException") = some true) (ed1 : PySem.W.hasDictIn K E1 = true)
    (ec1 : PySem.W.findIn K (.ref E1) "__class__" = some (some (.builtin "object.__class__"))) (em1 : PySem.W.mroIn K E1 (.type "object") = some true)
    {E2 : Addr} {xn2 xq2 : Str} {xN2 : Addr} {xb2 : List Value} {xs2 : List Str} {xu2 : List Value} {xa2 : Bool} {xc2 : Option Bool} {xd2 : Option Addr} {xm2 xo2 xp2 xr2 xt2 : Option Value}
    (ae2 : PySem.W.nsIn K mainGlobals "NoFactor" = some (some (.ref E2)))
    (xl2 : K.lookup E2 = some (excClassObj xn2 xq2 E2 xN2 xb2 [.ref E0, .type "ValueError", .type "Exception", .type "BaseException", .type "object"] true xs2 xu2 xa2 xc2 xd2 xm2 xo2 xp2 xr2 xt2 "ValueError.__new__"))
    (es2 : PySem.W.findIn K (.ref E2) "__setattr__" = some (some (.builtin "object.__setattr__"))) (et2 : PySem.W.typeIn K (.ref E2) = some (.type "type")) (ek2 : PySem.W.keepIn K (.ref E2) = true)
    (eg2 : PySem.W.findIn K (.ref E2) "__getattribute__" = some (some (.builtin "BaseException.__getattribute__"))) (eh2 : PySem.W.findIn K (.ref E2) "__getattr__" = some none) (eb2 : PySem.W.subIn K (.ref E2) (.type "BaseException") = some true) (ed2 : PySem.W.hasDictIn K E2 = true)
    (ec2 : PySem.W.findIn K (.ref E2) "__class__" = some (some (.builtin "object.__class__"))) (em2 : PySem.W.mroIn K E2 (.type "object") = some true)
    {E3 : Addr} {xn3 xq3 : Str} {xN3 : Addr} {xb3 : List Value} {xs3 : List Str} {xu3 : List Value} {xa3 : Bool} {xc3 : Option Bool} {xd3 : Option Addr} {xm3 xo3 xp3 xr3 xt3 : Option Value}
    (ae3 : PySem.W.nsIn K mainGlobals "NoAsk" = some (some (.ref E3)))
    (xl3 : K.lookup E3 = some (excClassObj xn3 xq3 E3 xN3 xb3 [.ref E0, .type "ValueError", .type "Exception", .type "BaseException", .type "object"] true xs3 xu3 xa3 xc3 xd3 xm3 xo3 xp3 xr3 xt3 "ValueError.__new__"))
    (es3 : PySem.W.findIn K (.ref E3) "__setattr__" = some (some (.builtin "object.__setattr__"))) (et3 : PySem.W.typeIn K (.ref E3) = some (.type "type")) (ek3 : PySem.W.keepIn K (.ref E3) = true)
    (eg3 : PySem.W.findIn K (.ref E3) "__getattribute__" = some (some (.builtin "BaseException.__getattribute__"))) (eh3 : PySem.W.findIn K (.ref E3) "__getattr__" = some none) (eb3 : PySem.W.subIn K (.ref E3) (.type "BaseException") = some true) (ed3 : PySem.W.hasDictIn K E3 = true)
    (ec3 : PySem.W.findIn K (.ref E3) "__class__" = some (some (.builtin "object.__class__"))) (em3 : PySem.W.mroIn K E3 (.type "object") = some true)
    (en : PySem.W.specialIn K (.builtin "object.__class__") "__get__" = some (some (.builtin "getset_descriptor.__get__"))) (eu : PySem.W.takesIn K (.builtin "object.__class__") = some true)
    (br0 : PySem.W.readsIn K E0 (.type "type") = true) (bg0 : PySem.W.specialIn K (.ref E0) "__getattribute__" = some (some (.builtin "type.__getattribute__"))) (bf0 : PySem.W.findCls K (.ref E0) (.type "type") "__init__" = some (.val (.builtin "ValueError.__init__")))
    (kt1_0 : PySem.W.kitOne K (.ref E1) (.ref E3) = some false)
    (kt1_1 : PySem.W.kitOne K (.ref E1) (.ref E2) = some false)
    (kt1_2 : PySem.W.kitOne K (.ref E1) (.ref E1) = some true)
    (kt1_3 : PySem.W.kitOne K (.ref E1) (.ref E0) = some true)
    (kv1 : PySem.W.kitOne K (.ref E1) (.type "ValueError") = some true) (kx1 : PySem.W.subIn K (.ref E1) (.ref E0) = some true) (kn1 : PySem.W.findIn K (.ref E1) "place" = some none)
    (kt2_0 : PySem.W.kitOne K (.ref E2) (.ref E3) = some false)
    (kt2_1 : PySem.W.kitOne K (.ref E2) (.ref E2) = some true)
    (kt2_2 : PySem.W.kitOne K (.ref E2) (.ref E1) = some false)
    (kt2_3 : PySem.W.kitOne K (.ref E2) (.ref E0) = some true)
    (kv2 : PySem.W.kitOne K (.ref E2) (.type "ValueError") = some true) (kx2 : PySem.W.subIn K (.ref E2) (.ref E0) = some true) (kn2 : PySem.W.findIn K (.ref E2) "number" = some none)
    (ox3 : PySem.W.excIn K E3 [.type "ValueError", .type "Exception", .type "BaseException", .type "object"] "ValueError.__new__" = true) (ot3 : PySem.W.findIn K (.ref E3) "__str__" = some (some (.builtin "BaseException.__str__")))
    {f0 : Addr} {od0 an0 : Option Addr} {sl0 : Array (Option Value)} {oc0 kV0 dc0 pm0 cd0 ct0 : Value}
    (a0 : PySem.W.findIn K (.ref E1) "__init__" = some (some (.ref f0))) (i0 : PySem.W.typeIn K (.ref f0) = some (.type "function")) (l0 : K.lookup f0 = some ⟨oc0, od0, .func (PySem.W.fnOf "__init__" "NoNumber.__init__" (defArgs s_NoNumber___init__) (defBody s_NoNumber___init__) (defScope s_NoNumber___init__) .none kV0 dc0 pm0 an0 cd0 ct0), sl0⟩) (c0 : PySem.W.codeIn K cd0 "NoNumber.__init__" = true) (k0 : PySem.W.keepIn K (.ref f0) = true)
    {f1 : Addr} {od1 an1 : Option Addr} {sl1 : Array (Option Value)} {oc1 kV1 dc1 pm1 cd1 ct1 : Value}
    (a1 : PySem.W.findIn K (.ref E2) "__init__" = some (some (.ref f1))) (i1 : PySem.W.typeIn K (.ref f1) = some (.type "function")) (l1 : K.lookup f1 = some ⟨oc1, od1, .func (PySem.W.fnOf "__init__" "NoFactor.__init__" (defArgs s_NoFactor___init__) (defBody s_NoFactor___init__) (defScope s_NoFactor___init__) .none kV1 dc1 pm1 an1 cd1 ct1), sl1⟩) (c1 : PySem.W.codeIn K cd1 "NoFactor.__init__" = true) (k1 : PySem.W.keepIn K (.ref f1) = true)
    {f2 : Addr} {od2 an2 : Option Addr} {sl2 : Array (Option Value)} {oc2 kV2 dc2 pm2 cd2 ct2 : Value}
    (a2 : PySem.W.nsIn K mainGlobals "taken" = some (some (.ref f2))) (l2 : K.lookup f2 = some ⟨oc2, od2, .func (PySem.W.fnOf "taken" "taken" (defArgs s_taken) (defBody s_taken) (defScope s_taken) .none kV2 dc2 pm2 an2 cd2 ct2), sl2⟩) (c2 : PySem.W.codeIn K cd2 "taken" = true) (k2 : PySem.W.keepIn K (.ref f2) = true)
    {f3 : Addr} {od3 an3 : Option Addr} {sl3 : Array (Option Value)} {oc3 kV3 dc3 pm3 cd3 ct3 : Value}
    (a3 : PySem.W.nsIn K mainGlobals "figures_from" = some (some (.ref f3))) (l3 : K.lookup f3 = some ⟨oc3, od3, .func (PySem.W.fnOf "figures_from" "figures_from" (defArgs s_figures_from) (defBody s_figures_from) (defScope s_figures_from) .none kV3 dc3 pm3 an3 cd3 ct3), sl3⟩) (c3 : PySem.W.codeIn K cd3 "figures_from" = true) (k3 : PySem.W.keepIn K (.ref f3) = true)
    {f4 : Addr} {od4 an4 : Option Addr} {sl4 : Array (Option Value)} {oc4 kV4 dc4 pm4 cd4 ct4 : Value}
    (a4 : PySem.W.nsIn K mainGlobals "read_number" = some (some (.ref f4))) (l4 : K.lookup f4 = some ⟨oc4, od4, .func (PySem.W.fnOf "read_number" "read_number" (defArgs s_read_number) (defBody s_read_number) (defScope s_read_number) .none kV4 dc4 pm4 an4 cd4 ct4), sl4⟩) (c4 : PySem.W.codeIn K cd4 "read_number" = true) (k4 : PySem.W.keepIn K (.ref f4) = true)
    {f5 : Addr} {od5 an5 : Option Addr} {sl5 : Array (Option Value)} {oc5 kV5 dc5 pm5 cd5 ct5 : Value}
    (a5 : PySem.W.nsIn K mainGlobals "_law_mix" = some (some (.ref f5))) (l5 : K.lookup f5 = some ⟨oc5, od5, .func (PySem.W.fnOf "_law_mix" "_law_mix" (defArgs s__law_mix) (defBody s__law_mix) (defScope s__law_mix) .none kV5 dc5 pm5 an5 cd5 ct5), sl5⟩) (c5 : PySem.W.codeIn K cd5 "_law_mix" = true) (k5 : PySem.W.keepIn K (.ref f5) = true)
    {f6 : Addr} {od6 an6 : Option Addr} {sl6 : Array (Option Value)} {oc6 kV6 dc6 pm6 cd6 ct6 : Value}
    (a6 : PySem.W.nsIn K mainGlobals "_law_deck" = some (some (.ref f6))) (l6 : K.lookup f6 = some ⟨oc6, od6, .func (PySem.W.fnOf "_law_deck" "_law_deck" (defArgs s__law_deck) (defBody s__law_deck) (defScope s__law_deck) .none kV6 dc6 pm6 an6 cd6 ct6), sl6⟩) (c6 : PySem.W.codeIn K cd6 "_law_deck" = true) (k6 : PySem.W.keepIn K (.ref f6) = true)
    {f7 : Addr} {od7 an7 : Option Addr} {sl7 : Array (Option Value)} {oc7 kV7 dc7 pm7 cd7 ct7 : Value}
    (a7 : PySem.W.nsIn K mainGlobals "_law_next" = some (some (.ref f7))) (l7 : K.lookup f7 = some ⟨oc7, od7, .func (PySem.W.fnOf "_law_next" "_law_next" (defArgs s__law_next) (defBody s__law_next) (defScope s__law_next) .none kV7 dc7 pm7 an7 cd7 ct7), sl7⟩) (c7 : PySem.W.codeIn K cd7 "_law_next" = true) (k7 : PySem.W.keepIn K (.ref f7) = true)
    {f8 : Addr} {od8 an8 : Option Addr} {sl8 : Array (Option Value)} {oc8 kV8 dc8 pm8 cd8 ct8 : Value}
    (a8 : PySem.W.nsIn K mainGlobals "_law_great" = some (some (.ref f8))) (l8 : K.lookup f8 = some ⟨oc8, od8, .func (PySem.W.fnOf "_law_great" "_law_great" (defArgs s__law_great) (defBody s__law_great) (defScope s__law_great) .none kV8 dc8 pm8 an8 cd8 ct8), sl8⟩) (c8 : PySem.W.codeIn K cd8 "_law_great" = true) (k8 : PySem.W.keepIn K (.ref f8) = true)
    {f9 : Addr} {od9 an9 : Option Addr} {sl9 : Array (Option Value)} {oc9 kV9 dc9 pm9 cd9 ct9 : Value}
    (a9 : PySem.W.nsIn K mainGlobals "_law_a_power" = some (some (.ref f9))) (l9 : K.lookup f9 = some ⟨oc9, od9, .func (PySem.W.fnOf "_law_a_power" "_law_a_power" (defArgs s__law_a_power) (defBody s__law_a_power) (defScope s__law_a_power) .none kV9 dc9 pm9 an9 cd9 ct9), sl9⟩) (c9 : PySem.W.codeIn K cd9 "_law_a_power" = true) (k9 : PySem.W.keepIn K (.ref f9) = true)
    {f10 : Addr} {od10 an10 : Option Addr} {sl10 : Array (Option Value)} {oc10 kV10 dc10 pm10 cd10 ct10 : Value}
    (a10 : PySem.W.nsIn K mainGlobals "_law_number" = some (some (.ref f10))) (l10 : K.lookup f10 = some ⟨oc10, od10, .func (PySem.W.fnOf "_law_number" "_law_number" (defArgs s__law_number) (defBody s__law_number) (defScope s__law_number) .none kV10 dc10 pm10 an10 cd10 ct10), sl10⟩) (c10 : PySem.W.codeIn K cd10 "_law_number" = true) (k10 : PySem.W.keepIn K (.ref f10) = true)
    {f11 : Addr} {od11 an11 : Option Addr} {sl11 : Array (Option Value)} {oc11 kV11 dc11 pm11 cd11 ct11 : Value}
    (a11 : PySem.W.nsIn K mainGlobals "_law_taken" = some (some (.ref f11))) (l11 : K.lookup f11 = some ⟨oc11, od11, .func (PySem.W.fnOf "_law_taken" "_law_taken" (defArgs s__law_taken) (defBody s__law_taken) (defScope s__law_taken) .none kV11 dc11 pm11 an11 cd11 ct11), sl11⟩) (c11 : PySem.W.codeIn K cd11 "_law_taken" = true) (k11 : PySem.W.keepIn K (.ref f11) = true)
    {f12 : Addr} {od12 an12 : Option Addr} {sl12 : Array (Option Value)} {oc12 kV12 dc12 pm12 cd12 ct12 : Value}
    (a12 : PySem.W.nsIn K mainGlobals "_law_is_whole" = some (some (.ref f12))) (l12 : K.lookup f12 = some ⟨oc12, od12, .func (PySem.W.fnOf "_law_is_whole" "_law_is_whole" (defArgs s__law_is_whole) (defBody s__law_is_whole) (defScope s__law_is_whole) .none kV12 dc12 pm12 an12 cd12 ct12), sl12⟩) (c12 : PySem.W.codeIn K cd12 "_law_is_whole" = true) (k12 : PySem.W.keepIn K (.ref f12) = true)
    {f13 : Addr} {od13 an13 : Option Addr} {sl13 : Array (Option Value)} {oc13 kV13 dc13 pm13 cd13 ct13 : Value}
    (a13 : PySem.W.nsIn K mainGlobals "_law_kind" = some (some (.ref f13))) (l13 : K.lookup f13 = some ⟨oc13, od13, .func (PySem.W.fnOf "_law_kind" "_law_kind" (defArgs s__law_kind) (defBody s__law_kind) (defScope s__law_kind) .none kV13 dc13 pm13 an13 cd13 ct13), sl13⟩) (c13 : PySem.W.codeIn K cd13 "_law_kind" = true) (k13 : PySem.W.keepIn K (.ref f13) = true)
    {f14 : Addr} {od14 an14 : Option Addr} {sl14 : Array (Option Value)} {oc14 kV14 dc14 pm14 cd14 ct14 : Value}
    (a14 : PySem.W.nsIn K mainGlobals "_law_sign" = some (some (.ref f14))) (l14 : K.lookup f14 = some ⟨oc14, od14, .func (PySem.W.fnOf "_law_sign" "_law_sign" (defArgs s__law_sign) (defBody s__law_sign) (defScope s__law_sign) .none kV14 dc14 pm14 an14 cd14 ct14), sl14⟩) (c14 : PySem.W.codeIn K cd14 "_law_sign" = true) (k14 : PySem.W.keepIn K (.ref f14) = true)
    {f15 : Addr} {od15 an15 : Option Addr} {sl15 : Array (Option Value)} {oc15 kV15 dc15 pm15 cd15 ct15 : Value}
    (a15 : PySem.W.nsIn K mainGlobals "_law_spoilt" = some (some (.ref f15))) (l15 : K.lookup f15 = some ⟨oc15, od15, .func (PySem.W.fnOf "_law_spoilt" "_law_spoilt" (defArgs s__law_spoilt) (defBody s__law_spoilt) (defScope s__law_spoilt) .none kV15 dc15 pm15 an15 cd15 ct15), sl15⟩) (c15 : PySem.W.codeIn K cd15 "_law_spoilt" = true) (k15 : PySem.W.keepIn K (.ref f15) = true)
    {f16 : Addr} {od16 an16 : Option Addr} {sl16 : Array (Option Value)} {oc16 kV16 dc16 pm16 cd16 ct16 : Value}
    (a16 : PySem.W.nsIn K mainGlobals "_law_run" = some (some (.ref f16))) (l16 : K.lookup f16 = some ⟨oc16, od16, .func (PySem.W.fnOf "_law_run" "_law_run" (defArgs s__law_run) (defBody s__law_run) (defScope s__law_run) .none kV16 dc16 pm16 an16 cd16 ct16), sl16⟩) (c16 : PySem.W.codeIn K cd16 "_law_run" = true) (k16 : PySem.W.keepIn K (.ref f16) = true)
    {f17 : Addr} {od17 an17 : Option Addr} {sl17 : Array (Option Value)} {oc17 kV17 dc17 pm17 cd17 ct17 : Value}
    (a17 : PySem.W.nsIn K mainGlobals "_law_due" = some (some (.ref f17))) (l17 : K.lookup f17 = some ⟨oc17, od17, .func (PySem.W.fnOf "_law_due" "_law_due" (defArgs s__law_due) (defBody s__law_due) (defScope s__law_due) .none kV17 dc17 pm17 an17 cd17 ct17), sl17⟩) (c17 : PySem.W.codeIn K cd17 "_law_due" = true) (k17 : PySem.W.keepIn K (.ref f17) = true)
    {f18 : Addr} {od18 an18 : Option Addr} {sl18 : Array (Option Value)} {oc18 kV18 dc18 pm18 cd18 ct18 : Value}
    (a18 : PySem.W.nsIn K mainGlobals "_law_right" = some (some (.ref f18))) (l18 : K.lookup f18 = some ⟨oc18, od18, .func (PySem.W.fnOf "_law_right" "_law_right" (defArgs s__law_right) (defBody s__law_right) (defScope s__law_right) .none kV18 dc18 pm18 an18 cd18 ct18), sl18⟩) (c18 : PySem.W.codeIn K cd18 "_law_right" = true) (k18 : PySem.W.keepIn K (.ref f18) = true)
    {f19 : Addr} {od19 an19 : Option Addr} {sl19 : Array (Option Value)} {oc19 kV19 dc19 pm19 cd19 ct19 : Value}
    (a19 : PySem.W.nsIn K mainGlobals "law" = some (some (.ref f19))) (l19 : K.lookup f19 = some ⟨oc19, od19, .func (PySem.W.fnOf "law" "law" (defArgs s_law) (defBody s_law) (defScope s_law) .none kV19 dc19 pm19 an19 cd19 ct19), sl19⟩) (c19 : PySem.W.codeIn K cd19 "law" = true) (k19 : PySem.W.keepIn K (.ref f19) = true)
    {gt0 : Tok} (gg0 : PySem.W.nsIn K mainGlobals "FIGURES" = some (some (.str "0123456789" gt0)))
    {gt1 : Tok} (gg1 : PySem.W.nsIn K mainGlobals "MOST_EXPONENT" = some (some (.int 200 gt1)))
    (z_range : PySem.W.nsIn K mainGlobals "range" = some none)
    (z_len : PySem.W.nsIn K mainGlobals "len" = some none)
    (z_sum : PySem.W.nsIn K mainGlobals "sum" = some none)
    (z_min : PySem.W.nsIn K mainGlobals "min" = some none)
    (z_max : PySem.W.nsIn K mainGlobals "max" = some none)
    (z_abs : PySem.W.nsIn K mainGlobals "abs" = some none)
    (z_sorted : PySem.W.nsIn K mainGlobals "sorted" = some none)
    (z_isinstance : PySem.W.nsIn K mainGlobals "isinstance" = some none)
    (z_enumerate : PySem.W.nsIn K mainGlobals "enumerate" = some none)
    (z_zip : PySem.W.nsIn K mainGlobals "zip" = some none)
    (z_int : PySem.W.nsIn K mainGlobals "int" = some none)
    (z_bool : PySem.W.nsIn K mainGlobals "bool" = some none)
    (z_str : PySem.W.nsIn K mainGlobals "str" = some none)
    (z_list : PySem.W.nsIn K mainGlobals "list" = some none)
    (z_tuple : PySem.W.nsIn K mainGlobals "tuple" = some none)
    (z_dict : PySem.W.nsIn K mainGlobals "dict" = some none)
    (z_set : PySem.W.nsIn K mainGlobals "set" = some none)
    (z_ValueError : PySem.W.nsIn K mainGlobals "ValueError" = some none)
    : ∃ fd : FuncData, (∀ (s : Shared) (v : Value), BindsTo s fd ⟨[v], []⟩ [("script", v)]) ∧ ∀ base : Heap, K.In base → base.Ns mainGlobals mg → FnOk l.prog w K mg base CX0 6 fa fd ["script"] (sp_law K) := by
  have e := hfa.symm.trans (PySem.W.mg_of X G a19)
  cases e
  have B : Bt mg := ⟨PySem.W.mg_none_of X G z_range, PySem.W.mg_none_of X G z_len, PySem.W.mg_none_of X G z_sum, PySem.W.mg_none_of X G z_min, PySem.W.mg_none_of X G z_max, PySem.W.mg_none_of X G z_abs, PySem.W.mg_none_of X G z_sorted, PySem.W.mg_none_of X G z_isinstance, PySem.W.mg_none_of X G z_enumerate, PySem.W.mg_none_of X G z_zip, PySem.W.mg_none_of X G z_int, PySem.W.mg_none_of X G z_bool, PySem.W.mg_none_of X G z_str, PySem.W.mg_none_of X G z_list, PySem.W.mg_none_of X G z_tuple, PySem.W.mg_none_of X G z_dict, PySem.W.mg_none_of X G z_set, PySem.W.mg_none_of X G z_ValueError⟩
  refine ⟨PySem.W.fnOf "law" "law" (defArgs s_law) (defBody s_law) (defScope s_law) .none kV19 dc19 pm19 an19 cd19 ct19, fun s v => .of_eq rfl, fun base _ _ => ?_⟩
  have ce0 : clA K "PowerError" = E0 := by
    unfold clA
    rw [ae0]
  have g_EC_PowerError : EC K mg "PowerError" := by
    constructor
    · rw [ce0]
      exact PySem.W.mg_of X G ae0
    · rw [ce0]
      exact ⟨⟨_, _, _, _, _, _, _, _, _, _, _, _, _, _, _, xl0, by show PySem.HandSPX.refsVE [.type "ValueError", .type "Exception", .type "BaseException", .type "object"] = true; decide +kernel⟩, es0, eb0, et0, ek0⟩
    · rw [ce0]
      exact ⟨eg0, eh0, eb0, ed0, ec0, en, eu, em0⟩
  have ce1 : clA K "NoNumber" = E1 := by
    unfold clA
    rw [ae1]
  have g_EC_NoNumber : EC K mg "NoNumber" := by
    constructor
    · rw [ce1]
      exact PySem.W.mg_of X G ae1
    · rw [ce1]
      exact ⟨⟨_, _, _, _, _, _, _, _, _, _, _, _, _, _, _, xl1, by show PySem.HandSPX.refsVE [.type "ValueError", .type "Exception", .type "BaseException", .type "object"] = true; decide +kernel⟩, es1, eb1, et1, ek1⟩
    · rw [ce1]
      exact ⟨eg1, eh1, eb1, ed1, ec1, en, eu, em1⟩
  have ce2 : clA K "NoFactor" = E2 := by
    unfold clA
    rw [ae2]
  have g_EC_NoFactor : EC K mg "NoFactor" := by
    constructor
    · rw [ce2]
      exact PySem.W.mg_of X G ae2
    · rw [ce2]
      exact ⟨⟨_, _, _, _, _, _, _, _, _, _, _, _, _, _, _, xl2, by show PySem.HandSPX.refsVE [.type "ValueError", .type "Exception", .type "BaseException", .type "object"] = true; decide +kernel⟩, es2, eb2, et2, ek2⟩
    · rw [ce2]
      exact ⟨eg2, eh2, eb2, ed2, ec2, en, eu, em2⟩
  have ce3 : clA K "NoAsk" = E3 := by
    unfold clA
    rw [ae3]
  have g_EC_NoAsk : EC K mg "NoAsk" := by
    constructor
    · rw [ce3]
      exact PySem.W.mg_of X G ae3
    · rw [ce3]
      exact ⟨⟨_, _, _, _, _, _, _, _, _, _, _, _, _, _, _, xl3, by show PySem.HandSPX.refsVE [.type "ValueError", .type "Exception", .type "BaseException", .type "object"] = true; decide +kernel⟩, es3, eb3, et3, ek3⟩
    · rw [ce3]
      exact ⟨eg3, eh3, eb3, ed3, ec3, en, eu, em3⟩
  have g_BI_PowerError : BI K mg "PowerError" := ⟨by rw [ce0]; exact PySem.W.mg_of X G ae0, by rw [ce0]; exact br0, by rw [ce0]; exact bg0, by rw [ce0]; exact bf0⟩
  have g_ET_NoNumber : ET K "NoNumber" "place" [("NoAsk", false), ("NoFactor", false), ("NoNumber", true), ("PowerError", true)] := by
    refine ⟨fun p hp => ?_, by rw [ce1]; exact kv1, by rw [ce1, ce0]; exact PySem.W.exm_ref eb0 ed0 et0 kx1, by rw [ce1]; exact kn1⟩
    simp only [List.mem_cons, List.not_mem_nil, or_false] at hp
    rcases hp with rfl | rfl | rfl | rfl
    · rw [ce1, ce3]
      exact kt1_0
    · rw [ce1, ce2]
      exact kt1_1
    · rw [ce1]
      exact kt1_2
    · rw [ce1, ce0]
      exact kt1_3
  have g_ET_NoFactor : ET K "NoFactor" "number" [("NoAsk", false), ("NoFactor", true), ("NoNumber", false), ("PowerError", true)] := by
    refine ⟨fun p hp => ?_, by rw [ce2]; exact kv2, by rw [ce2, ce0]; exact PySem.W.exm_ref eb0 ed0 et0 kx2, by rw [ce2]; exact kn2⟩
    simp only [List.mem_cons, List.not_mem_nil, or_false] at hp
    rcases hp with rfl | rfl | rfl | rfl
    · rw [ce2, ce3]
      exact kt2_0
    · rw [ce2]
      exact kt2_1
    · rw [ce2, ce1]
      exact kt2_2
    · rw [ce2, ce0]
      exact kt2_3
  have g_OT_NoAsk : OT K "NoAsk" := ⟨by rw [ce3]; exact ox3, by rw [ce3]; exact ot3⟩
  have g_FIGURES : GS mg "FIGURES" "0123456789" := ⟨_, PySem.W.mg_of X G gg0⟩
  have g_MOST_EXPONENT : GI mg "MOST_EXPONENT" 200 := ⟨_, PySem.W.mg_of X G gg1⟩
  have F0 := fun_mk (st := s_NoNumber___init__) l0 c0 k0
  have h_NoNumber___init__ : FnE l.prog w K mg base 1 "NoNumber" ["self", "place"] (sp_NoNumber___init__ K) := ⟨g_EC_NoNumber, _, _, by rw [ce1]; exact a0, i0, bi_NoNumber___init__ F0, ok_NoNumber___init__ F0 B g_BI_PowerError g_EC_NoNumber g_ET_NoNumber⟩
  have F1 := fun_mk (st := s_NoFactor___init__) l1 c1 k1
  have h_NoFactor___init__ : FnE l.prog w K mg base 1 "NoFactor" ["self", "number"] (sp_NoFactor___init__ K) := ⟨g_EC_NoFactor, _, _, by rw [ce2]; exact a1, i1, bi_NoFactor___init__ F1, ok_NoFactor___init__ F1 B g_BI_PowerError g_EC_NoFactor g_ET_NoFactor⟩
  have F2 := fun_mk (st := s_taken) l2 c2 k2
  have h_taken : Fn l.prog w K mg base CX0 1 "taken" ["base", "exponent"] (sp_taken K) := ⟨_, _, PySem.W.mg_of X G a2, k2, bi_taken F2, ok_taken F2 B⟩
  have F3 := fun_mk (st := s_figures_from) l3 c3 k3
  have h_figures_from : Fn l.prog w K mg base (L2.CX l.prog w) 3 "figures_from" ["text", "first"] (sp_figures_from K) := ⟨_, _, PySem.W.mg_of X G a3, k3, bi_figures_from F3, ok_figures_from F3 B g_FIGURES h_NoNumber___init__⟩
  have F4 := fun_mk (st := s_read_number) l4 c4 k4
  have h_read_number : Fn l.prog w K mg base (L2.CX l.prog w) 4 "read_number" ["text"] (sp_read_number K) := ⟨_, _, PySem.W.mg_of X G a4, k4, bi_read_number F4, ok_read_number F4 B g_MOST_EXPONENT h_figures_from h_taken h_NoNumber___init__⟩
  have F5 := fun_mk (st := s__law_mix) l5 c5 k5
  have h__law_mix : Fn l.prog w K mg base CX0 1 "_law_mix" ["cell", "k"] (sp__law_mix K) := ⟨_, _, PySem.W.mg_of X G a5, k5, bi__law_mix F5, ok__law_mix F5 B⟩
  have F6 := fun_mk (st := s__law_deck) l6 c6 k6
  have h__law_deck : Fn l.prog w K mg base CX0 1 "_law_deck" ["script"] (sp__law_deck K) := ⟨_, _, PySem.W.mg_of X G a6, k6, bi__law_deck F6, ok__law_deck F6 B⟩
  have F7 := fun_mk (st := s__law_next) l7 c7 k7
  have h__law_next : Fn l.prog w K mg base CX0 2 "_law_next" ["deck", "many"] (sp__law_next K) := ⟨_, _, PySem.W.mg_of X G a7, k7, bi__law_next F7, ok__law_next F7 B h__law_mix⟩
  have F8 := fun_mk (st := s__law_great) l8 c8 k8
  have h__law_great : Fn l.prog w K mg base CX0 3 "_law_great" ["deck", "most"] (sp__law_great K) := ⟨_, _, PySem.W.mg_of X G a8, k8, bi__law_great F8, ok__law_great F8 B h__law_next⟩
  have F9 := fun_mk (st := s__law_a_power) l9 c9 k9
  have h__law_a_power : Fn l.prog w K mg base CX0 4 "_law_a_power" ["deck", "most"] (sp__law_a_power K) := ⟨_, _, PySem.W.mg_of X G a9, k9, bi__law_a_power F9, ok__law_a_power F9 B h__law_next h__law_great⟩
  have F10 := fun_mk (st := s__law_number) l10 c10 k10
  have h__law_number : Fn l.prog w K mg base CX0 5 "_law_number" ["deck", "most"] (sp__law_number K) := ⟨_, _, PySem.W.mg_of X G a10, k10, bi__law_number F10, ok__law_number F10 B h__law_next h__law_great h__law_a_power⟩
  have F11 := fun_mk (st := s__law_taken) l11 c11 k11
  have h__law_taken : Fn l.prog w K mg base CX0 1 "_law_taken" ["base", "exponent"] (sp__law_taken K) := ⟨_, _, PySem.W.mg_of X G a11, k11, bi__law_taken F11, ok__law_taken F11 B⟩
  have F12 := fun_mk (st := s__law_is_whole) l12 c12 k12
  have h__law_is_whole : Fn l.prog w K mg base CX0 1 "_law_is_whole" ["found", "due"] (sp__law_is_whole K) := ⟨_, _, PySem.W.mg_of X G a12, k12, bi__law_is_whole F12, ok__law_is_whole F12 B⟩
  have F13 := fun_mk (st := s__law_kind) l13 c13 k13
  have h__law_kind : Fn l.prog w K mg base CX0 1 "_law_kind" ["caught"] (sp__law_kind K) := ⟨_, _, PySem.W.mg_of X G a13, k13, bi__law_kind F13, ok__law_kind F13 B g_EC_NoAsk g_EC_NoFactor g_EC_NoNumber g_EC_PowerError g_ET_NoFactor g_ET_NoNumber⟩
  have F14 := fun_mk (st := s__law_sign) l14 c14 k14
  have h__law_sign : Fn l.prog w K mg base CX0 3 "_law_sign" ["deck"] (sp__law_sign K) := ⟨_, _, PySem.W.mg_of X G a14, k14, bi__law_sign F14, ok__law_sign F14 B h__law_next⟩
  have F15 := fun_mk (st := s__law_spoilt) l15 c15 k15
  have h__law_spoilt : Fn l.prog w K mg base CX0 4 "_law_spoilt" ["deck", "text"] (sp__law_spoilt K) := ⟨_, _, PySem.W.mg_of X G a15, k15, bi__law_spoilt F15, ok__law_spoilt F15 B h__law_sign h__law_next⟩
  have F16 := fun_mk (st := s__law_run) l16 c16 k16
  have h__law_run : Fn l.prog w K mg base CX0 1 "_law_run" ["text", "first"] (sp__law_run K) := ⟨_, _, PySem.W.mg_of X G a16, k16, bi__law_run F16, ok__law_run F16 B⟩
  have F17 := fun_mk (st := s__law_due) l17 c17 k17
  have h__law_due : Fn l.prog w K mg base CX0 2 "_law_due" ["text"] (sp__law_due K) := ⟨_, _, PySem.W.mg_of X G a17, k17, bi__law_due F17, ok__law_due F17 B h__law_run h__law_taken⟩
  have F18 := fun_mk (st := s__law_right) l18 c18 k18
  have h__law_right : Fn l.prog w K mg base CX0 5 "_law_right" ["text"] (sp__law_right K) := ⟨_, _, PySem.W.mg_of X G a18, k18, bi__law_right F18, ok__law_right F18 B g_EC_PowerError g_ET_NoFactor g_ET_NoNumber h__law_due h_read_number h__law_is_whole h__law_kind⟩
  exact ok_law (fun_mk (st := s_law) l19 c19 k19) B g_EC_NoAsk g_OT_NoAsk h__law_deck h__law_next h__law_kind h__law_number h__law_spoilt h_NoFactor___init__ h_NoNumber___init__ h__law_right h__law_sign
end Pn
open PySem PySem.W PyProof.Rows
set_option maxHeartbeats 0 in
theorem PySem.Challenge.cw_powernumbers_k03_texts_of_no_numbers_holds : PySem.Challenge.rw_powernumbers_k03_texts_of_no_numbers.Holds := by
  w_on; o_law; k_head; (case hw => w_witness2)
  k_fill
  refine L2.walk_of (l := PySem.Challenge.rw_powernumbers_k03_texts_of_no_numbers) (n := 63) (k := 6) (x := "script") (CX := fun _ => L2.CX0) (sp := fun w => Pn.sp_law _) rfl (by decide) rfl ⟨rfl, by decide, by decide⟩ (fun w h Y => PySem.W.kIn_of Y) ?F (fun _ _ a ns hl _ hS => ⟨a, ns, rfl, hS, hl, fun _ => rfl⟩) (fun _ _ _ _ _ h => h)
  case F =>
    intro w mg fa h KX G hmg
    refine' Pn.all_mk KX G hmg ?ae0 ?xl0 ?es0 ?et0 ?ek0 ?eg0 ?eh0 ?eb0 ?ed0 ?ec0 ?em0 ?ae1 ?xl1 ?es1 ?et1 ?ek1 ?eg1 ?eh1 ?eb1 ?ed1 ?ec1 ?em1 ?ae2 ?xl2 ?es2 ?et2 ?ek2 ?eg2 ?eh2 ?eb2 ?ed2 ?ec2 ?em2 ?ae3 ?xl3 ?es3 ?et3 ?ek3 ?eg3 ?eh3 ?eb3 ?ed3 ?ec3 ?em3 ?en ?eu ?br0 ?bg0 ?bf0 ?kt1_0 ?kt1_1 ?kt1_2 ?kt1_3 ?kv1 ?kx1 ?kn1 ?kt2_0 ?kt2_1 ?kt2_2 ?kt2_3 ?kv2 ?kx2 ?kn2 ?ox3 ?ot3 ?a0 ?i0 ?l0 ?c0 ?k0 ?a1 ?i1 ?l1 ?c1 ?k1 ?a2 ?l2 ?c2 ?k2 ?a3 ?l3 ?c3 ?k3 ?a4 ?l4 ?c4 ?k4 ?a5 ?l5 ?c5 ?k5 ?a6 ?l6 ?c6 ?k6 ?a7 ?l7 ?c7 ?k7 ?a8 ?l8 ?c8 ?k8 ?a9 ?l9 ?c9 ?k9 ?a10 ?l10 ?c10 ?k10 ?a11 ?l11 ?c11 ?k11 ?a12 ?l12 ?c12 ?k12 ?a13 ?l13 ?c13 ?k13 ?a14 ?l14 ?c14 ?k14 ?a15 ?l15 ?c15 ?k15 ?a16 ?l16 ?c16 ?k16 ?a17 ?l17 ?c17 ?k17 ?a18 ?l18 ?c18 ?k18 ?a19 ?l19 ?c19 ?k19 ?gg0 ?gg1 ?z_range ?z_len ?z_sum ?z_min ?z_max ?z_abs ?z_sorted ?z_isinstance ?z_enumerate ?z_zip ?z_int ?z_bool ?z_str ?z_list ?z_tuple ?z_dict ?z_set ?z_ValueError
    (case ae0 => k_is)
    (case xl0 => k_is)
    (case es0 => k_is)
    (case et0 => k_is)
    (case ek0 => k_is)
    (case eg0 => k_is)
    (case eh0 => k_is)
    (case eb0 => k_is)
    (case ed0 => k_is)
    (case ec0 => k_is)
    (case em0 => k_is)
    (case ae1 => k_is)
    (case xl1 => k_is)
    (case es1 => k_is)
    (case et1 => k_is)
    (case ek1 => k_is)
    (case eg1 => k_is)
    (case eh1 => k_is)
    (case eb1 => k_is)
    (case ed1 => k_is)
    (case ec1 => k_is)
    (case em1 => k_is)
    (case ae2 => k_is)
    (case xl2 => k_is)
    (case es2 => k_is)
    (case et2 => k_is)
    (case ek2 => k_is)
    (case eg2 => k_is)
    (case eh2 => k_is)
    (case eb2 => k_is)
    (case ed2 => k_is)
    (case ec2 => k_is)
    (case em2 => k_is)
    (case ae3 => k_is)
    (case xl3 => k_is)
    (case es3 => k_is)
    (case et3 => k_is)
    (case ek3 => k_is)
    (case eg3 => k_is)
    (case eh3 => k_is)
    (case eb3 => k_is)
    (case ed3 => k_is)
    (case ec3 => k_is)
    (case em3 => k_is)
    (case en => k_is)
    (case eu => k_is)
    (case br0 => k_is)
    (case bg0 => k_is)
    (case bf0 => k_is)
    (case kt1_0 => first | kit_is | k_is)
    (case kt1_1 => first | kit_is | k_is)
    (case kt1_2 => first | kit_is | k_is)
    (case kt1_3 => first | kit_is | k_is)
    (case kv1 => first | kit_is | k_is)
    (case kx1 => k_is)
    (case kn1 => k_is)
    (case kt2_0 => first | kit_is | k_is)
    (case kt2_1 => first | kit_is | k_is)
    (case kt2_2 => first | kit_is | k_is)
    (case kt2_3 => first | kit_is | k_is)
    (case kv2 => first | kit_is | k_is)
    (case kx2 => k_is)
    (case kn2 => k_is)
    (case ox3 => first | k_exc | k_is)
    (case ot3 => k_is)
    (case a0 => k_is)
    (case i0 => k_is)
    (case l0 => k_is)
    (case c0 => k_is)
    (case k0 => k_is)
    (case a1 => k_is)
    (case i1 => k_is)
    (case l1 => k_is)
    (case c1 => k_is)
    (case k1 => k_is)
    (case a2 => k_is)
    (case l2 => k_is)
    (case c2 => k_is)
    (case k2 => k_is)
    (case a3 => k_is)
    (case l3 => k_is)
    (case c3 => k_is)
    (case k3 => k_is)
    (case a4 => k_is)
    (case l4 => k_is)
    (case c4 => k_is)
    (case k4 => k_is)
    (case a5 => k_is)
    (case l5 => k_is)
    (case c5 => k_is)
    (case k5 => k_is)
    (case a6 => k_is)
    (case l6 => k_is)
    (case c6 => k_is)
    (case k6 => k_is)
    (case a7 => k_is)
    (case l7 => k_is)
    (case c7 => k_is)
    (case k7 => k_is)
    (case a8 => k_is)
    (case l8 => k_is)
    (case c8 => k_is)
    (case k8 => k_is)
    (case a9 => k_is)
    (case l9 => k_is)
    (case c9 => k_is)
    (case k9 => k_is)
    (case a10 => k_is)
    (case l10 => k_is)
    (case c10 => k_is)
    (case k10 => k_is)
    (case a11 => k_is)
    (case l11 => k_is)
    (case c11 => k_is)
    (case k11 => k_is)
    (case a12 => k_is)
    (case l12 => k_is)
    (case c12 => k_is)
    (case k12 => k_is)
    (case a13 => k_is)
    (case l13 => k_is)
    (case c13 => k_is)
    (case k13 => k_is)
    (case a14 => k_is)
    (case l14 => k_is)
    (case c14 => k_is)
    (case k14 => k_is)
    (case a15 => k_is)
    (case l15 => k_is)
    (case c15 => k_is)
    (case k15 => k_is)
    (case a16 => k_is)
    (case l16 => k_is)
    (case c16 => k_is)
    (case k16 => k_is)
    (case a17 => k_is)
    (case l17 => k_is)
    (case c17 => k_is)
    (case k17 => k_is)
    (case a18 => k_is)
    (case l18 => k_is)
    (case c18 => k_is)
    (case k18 => k_is)
    (case a19 => k_is)
    (case l19 => k_is)
    (case c19 => k_is)
    (case k19 => k_is)
    (case gg0 => k_is)
    (case gg1 => k_is)
    (case z_range => k_is)
    (case z_len => k_is)
    (case z_sum => k_is)
    (case z_min => k_is)
    (case z_max => k_is)
    (case z_abs => k_is)
    (case z_sorted => k_is)
    (case z_isinstance => k_is)
    (case z_enumerate => k_is)
    (case z_zip => k_is)
    (case z_int => k_is)
    (case z_bool => k_is)
    (case z_str => k_is)
    (case z_list => k_is)
    (case z_tuple => k_is)
    (case z_dict => k_is)
    (case z_set => k_is)
    (case z_ValueError => k_is)
