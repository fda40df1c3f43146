import PyProof.Rows.All
import Wide.All
import OpenK.AllK
import Wide.FinOn
import HandS.ForMost
import HandS.Wide
import HandS.IsInst
import HandS.SortInts
import HandS.TupAny
import HandS.WideBits
import HandS.Evl
import KE.KItemsList
import KE.KDictList
import KE.KExcIs
import HandS.Conv
import HandS.Sort
import HandS.More
import HandS.SetFor
import HandS.Style
import HandS.SortOrd
import HandS.Walk
import HandS.Zip
import HandS.TryOnly
import HandS.ExcInit
import HandS.ExcField
import HandS.ExcIs
import HandS.ExcOwn
import HandS.WordsExc
import PySem.Challenge.RW_powernumbers_k26_factors_refused
set_option Elab.async false
set_option linter.all false
set_option maxRecDepth 100000
namespace Pn
open PySem PySem.Spec PyProof.Rows L2
/-! ### a def that stands in the module, with its promise -/
structure Fn (P : Program) (w : World) (K : PySem.W.Frag) (mg : PySem.Str → Option Value) (base : Heap) (CX : CXT) (k : Nat) (x : PySem.Str) (ps : List PySem.Str) (sp : Sp) : Prop where
  ex : ∃ (f : Addr) (fd : FuncData), mg x = some (.ref f) ∧ PySem.W.keepIn K (.ref f) = true ∧ Binds K fd ps [] ∧ FnOk P w K mg base CX k f fd ps sp
def tFn (sp : Sp) (E : XK) (t : TA) : TE := fun σ H Q => t σ H fun vs H1 => sp vs H1 Q E
section
variable {X : Cx} {CX : CXT} {k : Nat} {x : PySem.Str} {ps : List PySem.Str} {sp : Sp} {E : XK} {t : TA} {e : Expr} {es : List Expr} {p pos : Pos}
theorem pe_fnX (h : Fn X.prog X.w X.K X.mg X.base CX k x ps sp) (hr : Room k X.A) (hg : Gl X x) (hx : Passes CX X E) (ha : PA X (e :: es) t) (hdb : (x == ("__debug__" : PySem.Str)) = false := by decide)
    (he : starEach (e :: es) X.env = (false, eval e X.env) :: starEach es X.env := by rfl) (hpl : (backTo pos (starEach es X.env)).any (·.1) = false := by rfl) :
    PE X (.Call (.Name x p) (e :: es) [] pos) (tFn sp E t) := by
  obtain ⟨f, fd, hm, hk, hb, F⟩ := h.ex
  have g := pe_call (p := p) (pos := pos) F hr hg hm hk hb .nil hx ha hdb he hpl
  have e1 : tCall sp [] E t = tFn sp E t := by
    unfold tCall tFn
    simp only [List.append_nil]
  rw [← e1]
  exact g
theorem pe_fn (h : Fn X.prog X.w X.K X.mg X.base CX0 k x ps sp) (hr : Room k X.A) (hg : Gl X x) (ha : PA X (e :: es) t) (hdb : (x == ("__debug__" : PySem.Str)) = false := by decide)
    (he : starEach (e :: es) X.env = (false, eval e X.env) :: starEach es X.env := by rfl) (hpl : (backTo pos (starEach es X.env)).any (·.1) = false := by rfl) :
    PE X (.Call (.Name x p) (e :: es) [] pos) (tFn sp E0 t) := pe_fnX h hr hg pass0 ha hdb he hpl
end
/-- a promise of nothing -/
theorem ps_void {X : Cx} {st : Stmt} : PS X st (fun _ _ _ => False) := ⟨fun _ _ _ _ _ _ h => h.elim⟩
theorem fn_vac {P : Program} {w : World} {K : PySem.W.Frag} {mg : PySem.Str → Option Value} {base : Heap} {CX : CXT} {k : Nat} {f : Addr} {fd : FuncData} {ps : List PySem.Str} {sp : Sp} (h : ∀ vs H Q E, ¬ sp vs H Q E) : FnOk P w K mg base CX k f fd ps sp :=
  ⟨fun vs H Q E q => (h vs H Q E q).elim, fun _ _ _ _ _ _ _ _ _ _ _ _ _ q => (h _ _ _ _ q).elim⟩
/-! ### rules by values, the written part named (in a comprehension's block X is another one) -/
def rLen (K : PySem.W.Frag) : List V → Hp → VK → Prop := fun xs H Q => ∃ p ys, xs = [.ref p] ∧ (SqL K H p ys ∨ SqT K H p ys) ∧ Q (.int ys.length) H
def rListO (K : PySem.W.Frag) : List V → Hp → VK → Prop := fun xs H Q => ∃ p ys, xs = [.ref p] ∧ (SqL K H p ys ∨ SqT K H p ys) ∧ ∀ l, H l = none → Q (.ref l) (upd H l (.lst ys))
def rTupO (K : PySem.W.Frag) : List V → Hp → VK → Prop := fun xs H Q => ∃ p ys, xs = [.ref p] ∧ ((SqL K H p ys ∧ ∀ l, H l = none → Q (.ref l) (upd H l (.tup ys))) ∨ (SqT K H p ys ∧ Q (.ref p) H))
section
variable {X : Cx} (K : PySem.W.Frag)
theorem k_len (h : X.K = K := by rfl) : CallR X (.builtin "len") (rLen K) := by subst h; exact call_len_seq
theorem k_isi (h : X.K = K := by rfl) : CallR X (.builtin "isinstance") (rIsi K) := by subst h; exact call_isi
theorem k_sum (h : X.K = K := by rfl) (hc : X.calm = true := by rfl) : CallR X (.builtin "sum") (rSum K) := by subst h; exact cr_sum hc
theorem k_min (h : X.K = K := by rfl) (hc : X.calm = true := by rfl) : CallR X (.builtin "min") (rMin K) := by subst h; exact cr_min hc
theorem k_max (h : X.K = K := by rfl) (hc : X.calm = true := by rfl) : CallR X (.builtin "max") (rMax K) := by subst h; exact cr_max hc
theorem k_sorted (h : X.K = K := by rfl) : CallR X (.builtin "sorted") (rSortedI K) := by subst h; exact cr_sortedI
theorem k_list (h : X.K = K := by rfl) : CallR X (.type "list") (rListO K) := by subst h; exact call_list_of
theorem k_tuple (h : X.K = K := by rfl) : CallR X (.type "tuple") (rTupO K) := by subst h; exact call_tuple_of
theorem k_ixL (h : X.K = K := by rfl) : IxR X (rIxL K) := by subst h; exact ix_list
theorem k_ixT (h : X.K = K := by rfl) : IxR X (rIxT K) := by subst h; exact ix_tup
theorem k_slL (h : X.K = K := by rfl) : SlR X (rSlL K) := by subst h; exact sl_list
theorem k_eqD (h : X.K = K := by rfl) (hu : X.A.units + 64 < cLine) : OpR X (compareOp .Eq) (rEqD K) := by subst h; exact op_eqD hu
theorem k_neD (h : X.K = K := by rfl) (hu : X.A.units + 64 < cLine) : OpR X (compareOp .NotEq) (rNeD K) := by subst h; exact op_neD hu
theorem k_in (h : X.K = K := by rfl) : OpR X (compareOp .In) (rIn K false) := by subst h; exact op_in_seq
theorem k_notIn (h : X.K = K := by rfl) : OpR X (compareOp .NotIn) (rIn K true) := by subst h; exact op_notIn_seq
theorem k_catT (h : X.K = K := by rfl) : OpR X (binaryOp .Add) (rCatA K) := by subst h; exact op_catA
def tTru (K : PySem.W.Frag) (ta : TE) : TT := fun σ H Q => ta σ H fun x H' => ∃ k, TruV K x H' k ∧ Q k H'
theorem pt_tru {a : Expr} {ta : TE} (ha : PE X a ta) (he : ∀ whole, isTrue a X.env whole = (do let v ← whole; standAt a.pos; holding [v] (truthy v)) := by intro _; rfl) (h : X.K = K := by rfl) : PT X a (tTru K ta) := by subst h; exact pt_truth ha he
end
/-! ### readings, applied -/
section
variable {σ : L2.St} {H : Hp} {Q : VK} {QT : Bool → Hp → Prop} {QA : List V → Hp → Prop} {K : PySem.W.Frag} {ta tb te : TE} {t u : TT} {tr : TA} {D : Ends} {s1 s2 : TS} {x y v : V}
theorem w_var {i : Nat} : tVar i σ H Q = ∃ v, σ[i]? = some (some v) ∧ Q v H := rfl
theorem w_c : tC v σ H Q = Q v H := rfl
theorem w_op {r : R2} : tOp r ta tb σ H Q = ta σ H fun x H1 => tb σ H1 fun y H2 => r x y H2 Q := rfl
theorem w_I0 {g : Int → Int → V} : rI0 g x y H Q = ∃ i j, x = .int i ∧ y = .int j ∧ Q (g i j) H := rfl
theorem w_I {C : Int → Int → Prop} {g : Int → Int → V} : rI C g x y H Q = ∃ i j, x = .int i ∧ y = .int j ∧ C i j ∧ Q (g i j) H := rfl
theorem w_un {r : V → Hp → VK → Prop} : tUn r ta σ H Q = ta σ H fun x H1 => r x H1 Q := rfl
theorem w_U {g : Int → V} : rU g x H Q = ∃ i, x = .int i ∧ Q (g i) H := rfl
theorem w_eq : rEq x y H Q = (scal x y = true ∧ Q (.bl (decide (x = y))) H) := rfl
theorem w_ne : rNe x y H Q = (scal x y = true ∧ Q (.bl (!decide (x = y))) H) := rfl
theorem w_test : tTest ta σ H QT = ta σ H fun x H1 => ∃ k, x = .bl k ∧ QT k H1 := rfl
theorem w_B : tB ta σ H QT = ta σ H fun x H1 => ∃ k, x = .bl k ∧ QT k H1 := rfl
theorem w_and : tAnd t u σ H QT = t σ H fun c H1 => if c = true then u σ H1 QT else QT false H1 := rfl
theorem w_or : tOr t u σ H QT = t σ H fun c H1 => if c = true then QT true H1 else u σ H1 QT := rfl
theorem w_not : tNot t σ H QT = t σ H fun c H1 => QT (!c) H1 := rfl
theorem w_andV : tAndV ta tb σ H Q = ta σ H fun x H1 => ∃ c, x = .bl c ∧ if c = true then tb σ H1 Q else Q (.bl false) H1 := rfl
theorem w_orV : tOrV ta tb σ H Q = ta σ H fun x H1 => ∃ c, x = .bl c ∧ if c = true then Q (.bl true) H1 else tb σ H1 Q := rfl
theorem w_notV : tNotV ta σ H Q = ta σ H fun x H1 => ∃ c, x = .bl c ∧ Q (.bl (!c)) H1 := rfl
theorem w_ife : tIf t ta tb σ H Q = t σ H fun c H1 => if c = true then ta σ H1 Q else tb σ H1 Q := rfl
theorem w_nil : tNil σ H QA = QA [] H := rfl
theorem w_cons : tCons ta tr σ H QA = ta σ H fun x H1 => tr σ H1 fun xs H2 => QA (x :: xs) H2 := rfl
theorem w_fn {sp : Sp} {E : XK} : tFn sp E tr σ H Q = tr σ H fun vs H1 => sp vs H1 Q E := rfl
theorem w_cb {r : List V → Hp → VK → Prop} : tCB r tr σ H Q = tr σ H fun vs H1 => r vs H1 Q := rfl
theorem w_tup : tTup tr σ H Q = tr σ H fun xs H1 => xs.length ≤ sizeLine ∧ ∀ p, H1 p = none → Q (.ref p) (upd H1 p (.tup xs)) := rfl
theorem w_lst : tLst tr σ H Q = tr σ H fun xs H1 => xs.length ≤ sizeLine ∧ ∀ p, H1 p = none → Q (.ref p) (upd H1 p (.lst xs)) := rfl
theorem w_seq : tSeq s1 s2 D σ H = s1 { D with nx := s2 D } σ H := rfl
theorem w_next : tNext D σ H = D.nx σ H := rfl
theorem w_brk : tBreak D σ H = D.bk σ H := rfl
theorem w_ct : tCont D σ H = D.ct σ H := rfl
theorem w_drop : tDrop te D σ H = te σ H fun _ H1 => D.nx σ H1 := rfl
theorem w_ret : tRet te D σ H = te σ H D.rt := rfl
theorem w_retN : tRetN D σ H = D.rt .non H := rfl
theorem w_ifS : tIfS t s1 s2 D σ H = t σ H fun b H1 => if b = true then s1 D σ H1 else s2 D σ H1 := rfl
theorem w_asgN {i : Nat} : tAsg te (gName i) D σ H = te σ H fun x H1 => D.nx (σ.set i (some x)) H1 := rfl
theorem w_asgT {n : Nat} {t : TGs} : tAsg te (gTup K n t) D σ H = te σ H fun v H1 => ∃ a xs, v = .ref a ∧ SqT K H1 a xs ∧ xs.length = n ∧ t xs σ H1 D.nx := rfl
theorem w_asgS {to ti : TE} {ts : TSet} : tAsg te (gSub to ti ts) D σ H = te σ H fun v H1 => to σ H1 fun o H2 => ti σ H2 fun i H3 => ts o i v H3 fun H4 => D.nx σ H4 := rfl
theorem w_gName {i : Nat} {QN : L2.St → Hp → Prop} : gName i v σ H QN = QN (σ.set i (some v)) H := rfl
theorem w_gNil {vs : List V} {QN : L2.St → Hp → Prop} : gNil vs σ H QN = (vs = [] ∧ QN σ H) := rfl
theorem w_gCons {g : TG} {gs : TGs} {vs : List V} {QN : L2.St → Hp → Prop} : gCons g gs vs σ H QN = ∃ v r, vs = v :: r ∧ g v σ H fun σ' H' => gs r σ' H' QN := rfl
theorem w_par {i j : Nat} : tPar i j tr D σ H = tr σ H fun vs H1 => ∃ v w, vs = [v, w] ∧ D.nx ((σ.set i (some v)).set j (some w)) H1 := rfl
theorem w_bits : tBits te σ H Q = te σ H fun x H1 => ∃ i, x = .int i ∧ Q (.int (Builtin.Int.intBits i : Nat)) H1 := rfl
theorem w_sl {r : V → Option Int → Option Int → Hp → VK → Prop} {tl th : TO} : tSl r te tl th σ H Q = te σ H fun x H1 => tl σ H1 fun l H2 => th σ H2 fun u H3 => r x l u H3 Q := rfl
theorem w_np {QO : Option Int → Hp → Prop} : tNoPart σ H QO = QO none H := rfl
theorem w_part {QO : Option Int → Hp → Prop} : tPart te σ H QO = te σ H fun x H1 => ∃ i, x = .int i ∧ QO (some i) H1 := rfl
theorem w_bm {T : String} {r : V → List V → Hp → VK → Prop} : tBM K T r te tr σ H Q = te σ H fun x H1 => tyV K T x H1 ∧ tr σ H1 fun xs H2 => r x xs H2 Q := rfl
theorem w_bm0 {T : String} {r : V → List V → Hp → VK → Prop} : tBM0 K T r te σ H Q = te σ H fun x H1 => tyV K T x H1 ∧ r x [] H1 Q := rfl
theorem w_cxK {CX : CXT} {P : Program} {w : World} {mg : PySem.Str → Option Value} {base : Heap} {N : List PySem.Str} {qual : PySem.Str} {scope : Scope} {f : Addr} {cd : Value} {A : Around} {outer : List Env} {s : Shared} {E : XK} : (cxOf CX P w K mg base N qual scope f cd A outer s H E).K = K := rfl
theorem w_aug {i : Nat} {ti : TIp} : tAug i te ti D σ H = ∃ x, σ[i]? = some (some x) ∧ te σ H fun y H1 => ti x y H1 fun z H2 => D.nx (σ.set i (some z)) H2 := rfl
theorem w_ipI {f : Int → Int → Int} : ipI f x y H Q = ∃ i j, x = .int i ∧ y = .int j ∧ Q (.int (f i j)) H := rfl
/-! ### readings that look into the heap -/
theorem r_ixL {p : Addr} {xs : List V} {i : Int} (h : SqL K H p xs) (ha : atI xs i = some v) (q : Q v H) : rIxL K (.ref p) (.int i) H Q := ⟨p, xs, i, v, rfl, rfl, h, ha, q⟩
theorem r_ixT {p : Addr} {xs : List V} {i : Int} (h : SqT K H p xs) (ha : atI xs i = some v) (q : Q v H) : rIxT K (.ref p) (.int i) H Q := ⟨p, xs, i, v, rfl, rfl, h, ha, q⟩
theorem r_slL {p : Addr} {xs : List V} {lo hi : Option Int} (h : SqL K H p xs) (q : ∀ l, H l = none → Q (.ref l) (upd H l (.lst (cutV xs lo hi)))) : rSlL K (.ref p) lo hi H Q := ⟨p, xs, rfl, h, q⟩
theorem r_sum {p : Addr} {ns : List Int} (h : SqL K H p (ns.map V.int)) (q : Q (.int ns.sum) H) : rSum K [.ref p] H Q := ⟨p, ns, rfl, h, q⟩
theorem r_setL {p : Addr} {xs : List V} {k : Int} {j : Nat} {QH : Hp → Prop} (h : H p = some (.lst xs)) (hj : ixN xs.length k = some j) (q : QH (upd H p (.lst (xs.set j v)))) : rSetL (.ref p) (.int k) v H QH := ⟨p, xs, k, j, rfl, rfl, h, hj, q⟩
theorem r_app {p : Addr} {xs : List V} (h : H p = some (.lst xs)) (hl : xs.length < sizeLine) (q : Q .non (upd H p (.lst (xs ++ [v])))) : rAppend (.ref p) [v] H Q := ⟨p, xs, v, rfl, rfl, h, hl, q⟩
theorem r_len {p : Addr} {xs : List V} (h : SqL K H p xs) (q : Q (.int (xs.length : Int)) H) : rLen K [.ref p] H Q := ⟨p, xs, rfl, .inl h, q⟩
theorem r_lenT {p : Addr} {xs : List V} (h : SqT K H p xs) (q : Q (.int (xs.length : Int)) H) : rLen K [.ref p] H Q := ⟨p, xs, rfl, .inr h, q⟩
theorem r_listL {p : Addr} {xs : List V} (h : SqL K H p xs) (q : ∀ l, H l = none → Q (.ref l) (upd H l (.lst xs))) : rListO K [.ref p] H Q := ⟨p, xs, rfl, .inl h, q⟩
theorem r_listT {p : Addr} {xs : List V} (h : SqT K H p xs) (q : ∀ l, H l = none → Q (.ref l) (upd H l (.lst xs))) : rListO K [.ref p] H Q := ⟨p, xs, rfl, .inr h, q⟩
theorem r_tupL {p : Addr} {xs : List V} (h : SqL K H p xs) (q : ∀ l, H l = none → Q (.ref l) (upd H l (.tup xs))) : rTupO K [.ref p] H Q := ⟨p, xs, rfl, .inl ⟨h, q⟩⟩
theorem r_tupT {p : Addr} {xs : List V} (h : SqT K H p xs) (q : Q (.ref p) H) : rTupO K [.ref p] H Q := ⟨p, xs, rfl, .inr ⟨h, q⟩⟩
theorem r_min {p : Addr} {ns : List Int} (h : SqL K H p (ns.map V.int)) (h0 : 0 < ns.length) (q : ∀ m, m ∈ ns → (∀ y, y ∈ ns → m ≤ y) → Q (.int m) H) : rMin K [.ref p] H Q := ⟨p, ns, rfl, h, h0, q⟩
theorem r_max {p : Addr} {ns : List Int} (h : SqL K H p (ns.map V.int)) (h0 : 0 < ns.length) (q : ∀ m, m ∈ ns → (∀ y, y ∈ ns → y ≤ m) → Q (.int m) H) : rMax K [.ref p] H Q := ⟨p, ns, rfl, h, h0, q⟩
theorem r_sortedI {p : Addr} {ns : List Int} (h : SqL K H p (ns.map V.int)) (q : ∀ (ns' : List Int) (l : Addr), ns'.Perm ns → ns'.Pairwise (· ≤ ·) → H l = none → Q (.ref l) (upd H l (.lst (ns'.map V.int)))) : rSortedI K [.ref p] H Q := ⟨p, ns, rfl, h, q⟩
theorem r_cat {l b : Addr} {xs zs : List V} (h1 : H l = some (.lst xs)) (h2 : H b = some (.lst zs)) (hl : xs.length + zs.length ≤ sizeLine) (q : ∀ p, H p = none → Q (.ref p) (upd H p (.lst (xs ++ zs)))) : rCat (.ref l) (.ref b) H Q := ⟨l, b, xs, zs, rfl, rfl, h1, h2, hl, q⟩
theorem r_catA {a b : Addr} {xs ys : List V} (h1 : SqT K H a xs) (h2 : SqT K H b ys) (hl : xs.length + ys.length ≤ sizeLine) (q0 : xs = [] → Q (.ref b) H) (q1 : xs ≠ [] → ys = [] → Q (.ref a) H) (q2 : xs ≠ [] → ys ≠ [] → ∀ p, H p = none → Q (.ref p) (upd H p (.tup (xs ++ ys)))) : rCatA K (.ref a) (.ref b) H Q :=
  ⟨a, b, xs, ys, rfl, rfl, h1, h2, hl, q0, q1, q2⟩
theorem ty_list {p : Addr} {xs : List V} (h : SqL K H p xs) : tyV K "list" (.ref p) H := .inl ⟨rfl, xs, h⟩
/-- a statement, then the rest, with a word between -/
theorem cut_m (Mid : L2.St → Hp → Prop) (h1 : ∀ N : L2.St → Hp → Prop, (∀ σ' H', Mid σ' H' → N σ' H') → s1 { D with nx := N } σ H) (h2 : ∀ σ' H', Mid σ' H' → s2 D σ' H') : Evl.tCut s1 s2 D σ H :=
  ⟨Mid, h1 Mid fun _ _ z => z, h2⟩
/-- a while, by a word with its measure; G: a turn is wanted, N: what is wanted behind it -/
theorem while_m {c : TT} (Pv : Nat → L2.St → Hp → Prop) (m0 : Nat) (h0 : Pv m0 σ H)
    (hs : ∀ m σ H, Pv m σ H → ∀ G : L2.St → Hp → Prop, (∀ σ1 H1, (∀ N : L2.St → Hp → Prop, (∀ m' σ' H', m' < m → Pv m' σ' H' → N σ' H') → s1 { D with nx := N, ct := N, bk := D.nx } σ1 H1) → G σ1 H1) →
      c σ H fun b H1 => if b = true then G σ H1 else D.nx σ H1) : tWhile c s1 D σ H :=
  ⟨Pv, ⟨m0, h0⟩, fun m σ H p => hs m σ H p (fun σ1 H1 => ∃ N : L2.St → Hp → Prop, (∀ σ' H', N σ' H' → ∃ m', m' < m ∧ Pv m' σ' H') ∧ s1 { D with nx := N, ct := N, bk := D.nx } σ1 H1)
    fun σ1 H1 h => ⟨_, fun _ _ z => z, h (fun σ' H' => ∃ m', m' < m ∧ Pv m' σ' H') fun m' _ _ h1 h2 => ⟨m', h1, h2⟩⟩⟩
/-- the turns of a for: over a list at a, a tuple at a, lo, lo + 1, .. (n of them) -/
def FJ (J : It) (g : TG) (s1 : TS) (D : Ends) (σ : L2.St) (H : Hp) : Prop := ∃ W : Nat → Nat → L2.St → Hp → Prop, (∃ m, W 0 m σ H) ∧ ∀ i m σ H, W i m σ H →
  (J.stop i H ∧ D.nx σ H) ∨ (J.go i H ∧ ∃ N : L2.St → Hp → Prop, (∀ σ' H', N σ' H' → ∃ m', m' < m ∧ W (i + 1) m' σ' H') ∧ ∀ x H', J.yld i H x H' → g x σ H' fun σ2 H2 => s1 { D with nx := N, ct := N, bk := D.nx } σ2 H2)
theorem w_tru : tTru K te σ H QT = te σ H fun x H1 => ∃ k, TruV K x H1 k ∧ QT k H1 := rfl
theorem w_forL {g : TG} : tFor (iList K te) g s1 D σ H = te σ H fun x H1 => ∃ a, x = .ref a ∧ (∃ xs, SqL K H1 a xs) ∧ FJ (Itl K a) g s1 D σ H1 := rfl
theorem w_forT {g : TG} : tFor (iTup K te) g s1 D σ H = te σ H fun x H1 => ∃ a, x = .ref a ∧ (∃ xs, SqT K H1 a xs) ∧ FJ (Itt K a) g s1 D σ H1 := rfl
theorem w_for1 {g : TG} : tFor (iRng1 tr) g s1 D σ H = tr σ H fun vs H1 => ∃ j : Int, vs = [.int j] ∧ -(2 ^ 62) ≤ j ∧ j < 2 ^ 62 ∧ FJ (Itr 0 j.toNat) g s1 D σ H1 := rfl
theorem w_for2 {g : TG} : tFor (iRng2 tr) g s1 D σ H = tr σ H fun vs H1 => ∃ i j : Int, vs = [.int i, .int j] ∧ (-(2 ^ 62) ≤ i ∧ i < 2 ^ 62 ∧ -(2 ^ 62) ≤ j ∧ j < 2 ^ 62) ∧ FJ (Itr i (j - i).toNat) g s1 D σ H1 := rfl
theorem w_for3 {g : TG} : tFor (iRng3 tr) g s1 D σ H = tr σ H fun vs H1 => ∃ (i j c : Int) (n : Nat), vs = [.int i, .int j, .int c] ∧ RgC i j c n ∧ FJ (Itc i c n) g s1 D σ H1 := rfl
theorem for_c {lo c : Int} {n : Nat} {g : TG} (Pv : Nat → L2.St → Hp → Prop) (h0 : Pv 0 σ H)
    (hs : ∀ i σ H, i < n → Pv i σ H → ∀ N : L2.St → Hp → Prop, (∀ σ' H', Pv (i + 1) σ' H' → N σ' H') → g (.int (lo + (i : Nat) * c)) σ H fun σ2 H2 => s1 { D with nx := N, ct := N, bk := D.nx } σ2 H2) (hd : ∀ σ H, Pv n σ H → D.nx σ H) :
    FJ (Itc lo c n) g s1 D σ H := for_rangeC Pv h0 (fun i σ H hx hp => hs i σ H hx hp _ fun _ _ z => z) hd
theorem for_l {a : Addr} {xs : List V} {g : TG} (Pv : Nat → L2.St → Hp → Prop) (h0 : Pv 0 σ H) (hl : ∀ i σ H, i ≤ xs.length → Pv i σ H → SqL K H a xs)
    (hs : ∀ i x σ H, xs[i]? = some x → Pv i σ H → ∀ N : L2.St → Hp → Prop, (∀ σ' H', Pv (i + 1) σ' H' → N σ' H') → g x σ H fun σ2 H2 => s1 { D with nx := N, ct := N, bk := D.nx } σ2 H2) (hd : ∀ σ H, Pv xs.length σ H → D.nx σ H) :
    FJ (Itl K a) g s1 D σ H := for_list Pv h0 hl (fun i x σ H hx hp => hs i x σ H hx hp _ fun _ _ z => z) hd
theorem for_t {a : Addr} {xs : List V} {g : TG} (Pv : Nat → L2.St → Hp → Prop) (h0 : Pv 0 σ H) (hl : ∀ i σ H, i ≤ xs.length → Pv i σ H → SqT K H a xs)
    (hs : ∀ i x σ H, xs[i]? = some x → Pv i σ H → ∀ N : L2.St → Hp → Prop, (∀ σ' H', Pv (i + 1) σ' H' → N σ' H') → g x σ H fun σ2 H2 => s1 { D with nx := N, ct := N, bk := D.nx } σ2 H2) (hd : ∀ σ H, Pv xs.length σ H → D.nx σ H) :
    FJ (Itt K a) g s1 D σ H := for_tup Pv h0 hl (fun i x σ H hx hp => hs i x σ H hx hp _ fun _ _ z => z) hd
theorem for_r {lo : Int} {n : Nat} {g : TG} (Pv : Nat → L2.St → Hp → Prop) (h0 : Pv 0 σ H)
    (hs : ∀ i σ H, i < n → Pv i σ H → ∀ N : L2.St → Hp → Prop, (∀ σ' H', Pv (i + 1) σ' H' → N σ' H') → g (.int (lo + i)) σ H fun σ2 H2 => s1 { D with nx := N, ct := N, bk := D.nx } σ2 H2) (hd : ∀ σ H, Pv n σ H → D.nx σ H) :
    FJ (Itr lo n) g s1 D σ H := for_range Pv h0 (fun i σ H hx hp => hs i σ H hx hp _ fun _ _ z => z) hd
end
/-! ### heaps -/
theorem ne_fresh {H : Hp} {a b : Addr} {o : HO} (h' : H b = none) (h : H a = some o) : a ≠ b := ne_of_none h h'
theorem upd_free {H : Hp} {a p : Addr} {o : HO} (h : upd H a o p = none) : H p = none := by
  unfold upd at h
  split at h
  · cases h
  · exact h
theorem upd_free_ne {H : Hp} {a p : Addr} {o : HO} (h : upd H a o p = none) : p ≠ a := by
  intro e
  rw [e, upd_same] at h
  cases h
theorem same_new {H : Hp} {p : Addr} {o : HO} (h : H p = none) : Same H (upd H p o) := fun b x e => by
  rw [upd_ne (ne_of_none e h)]
  exact e
/-- all that was tracked is as it was, but what stands at a -/
def Kp (a : Addr) (H H' : Hp) : Prop := ∀ b o, b ≠ a → H b = some o → H' b = some o
theorem Kp.refl (a : Addr) (H : Hp) : Kp a H H := fun _ _ _ h => h
theorem Kp.trans {a : Addr} {H H1 H2 : Hp} (x : Kp a H H1) (y : Kp a H1 H2) : Kp a H H2 := fun b o n h => y b o n (x b o n h)
theorem sm_kp {a : Addr} {H H' : Hp} (x : Same H H') : Kp a H H' := fun b o _ h => x b o h
theorem Kp.upd {a : Addr} {H H' : Hp} {o : HO} (x : Kp a H H') : Kp a H (upd H' a o) := fun b u n h => by
  rw [upd_ne n]
  exact x b u n h
theorem Kp.new {a p : Addr} {H H' : Hp} {o : HO} (x : Kp a H H') (hp : H p = none) : Kp a H (L2.upd H' p o) := fun b u n h => by
  rw [upd_ne (ne_of_none h hp)]
  exact x b u n h
theorem Kp.free {a p : Addr} {H H' : Hp} (x : Kp a H H') (n : p ≠ a) (hp : H' p = none) : H p = none := by
  cases q : H p with
  | none => rfl
  | some o =>
    rw [x p o n q] at hp
    cases hp
theorem Kp.seq {K : PySem.W.Frag} {a : Addr} {H H' : Hp} {l : Addr} {xs : List V} (x : Kp a H H') (n : l ≠ a) (h : SqL K H l xs) : SqL K H' l xs := by
  rcases h with (h | ⟨o, h⟩) | h
  · exact .inl (.inl (x _ _ n h))
  · exact .inl (.inr ⟨o, x _ _ n h⟩)
  · exact .inr h
theorem sm_new {p : Addr} {H H' : Hp} {o : HO} (x : Same H H') (hp : H p = none) : Same H (L2.upd H' p o) := fun b u h => by
  rw [upd_ne (ne_of_none h hp)]
  exact x b u h
theorem cut_to (xs : List V) (k : Nat) : cutV xs none (some (k : Int)) = xs.take k := by
  unfold cutV
  rw [HT.sIx_none, HT.sIx_nat]
  simp only [List.drop_zero, Nat.sub_zero]
  rcases Nat.le_total k xs.length with h | h
  · rw [Nat.min_eq_left h]
  · rw [Nat.min_eq_right h, List.take_of_length_le (Nat.le_refl _), List.take_of_length_le h]
theorem cut_from (xs : List V) (k : Nat) : cutV xs (some (k : Int)) none = xs.drop k := by
  unfold cutV
  rw [HT.sIx_none, HT.sIx_nat]
  rcases Nat.le_total k xs.length with h | h
  · rw [Nat.min_eq_left h, List.take_of_length_le (by simp)]
  · rw [Nat.min_eq_right h, List.drop_eq_nil_of_le (Nat.le_refl _), List.drop_eq_nil_of_le h]
    simp
theorem atI_mem {xs : List V} {i : Int} (h0 : 0 ≤ i) (h1 : i < xs.length) : ∃ v, v ∈ xs ∧ atI xs i = some v := by
  obtain ⟨j, rfl⟩ := Int.eq_ofNat_of_zero_le h0
  have hj : j < xs.length := by omega
  exact ⟨xs[j], List.getElem_mem hj, atI_nat (List.getElem?_eq_getElem hj)⟩
theorem atI_ints {ns : List Int} {i : Int} (h0 : 0 ≤ i) (h1 : i < ns.length) : ∃ z, z ∈ ns ∧ atI (ns.map V.int) i = some (.int z) := by
  obtain ⟨j, rfl⟩ := Int.eq_ofNat_of_zero_le h0
  have hj : j < ns.length := by omega
  exact ⟨ns[j], List.getElem_mem hj, atI_nat (by rw [List.getElem?_map, List.getElem?_eq_getElem hj]; rfl)⟩
/-! ### data that is compared: ints, tuples and lists of ints, pairs of ints -/
def dI (ns : List Int) : List PyData := ns.map PyData.int
theorem canLay_ints : ∀ ns : List Int, PyData.canLayAll0 (dI ns) = true
  | [] => by simp [dI, PyData.canLayAll0]
  | n :: r => by
    have := canLay_ints r
    simp only [dI] at this ⊢
    simp [PyData.canLayAll0, PyData.canLay0, this]
theorem depth_ints : ∀ ns : List Int, PyData.depthAll (dI ns) = 0
  | [] => by simp [dI, PyData.depthAll]
  | n :: r => by
    have := depth_ints r
    simp only [dI] at this ⊢
    simp [PyData.depthAll, PyData.depth, this]
theorem eqv_ints : ∀ ns ms : List Int, PyData.eqvAll (dI ns) (dI ms) = decide (ns = ms)
  | [], [] => by simp [dI, PyData.eqvAll]
  | [], _ :: _ => by simp [dI, PyData.eqvAll]
  | _ :: _, [] => by simp [dI, PyData.eqvAll]
  | n :: r, m :: t => by
    have := eqv_ints r t
    simp only [dI] at this ⊢
    simp only [List.map_cons, PyData.eqvAll, PyData.eqv, this, List.cons.injEq]
    rw [Bool.decide_and, Bool.beq_eq_decide_eq]
theorem dpAll_ints {K : PySem.W.Frag} {H : Hp} : ∀ ns : List Int, DpAll K H (ns.map V.int) (dI ns)
  | [] => .nil
  | n :: r => .cons (.int n) (dpAll_ints r)
theorem sh_tI (ns : List Int) : SeqAt.shaped (.tuple (dI ns)) = true := by
  unfold SeqAt.shaped
  simp [PyData.canLay0, PyData.depth, canLay_ints, depth_ints]
theorem sh_lI (ns : List Int) : SeqAt.shaped (.list (dI ns)) = true := by
  unfold SeqAt.shaped
  simp [PyData.canLay0, PyData.depth, canLay_ints, depth_ints]
/-- pairs of ints -/
def dP (ps : List (Int × Int)) : List PyData := ps.map fun p => PyData.tuple (dI [p.1, p.2])
theorem canLay_pairs : ∀ ps : List (Int × Int), PyData.canLayAll0 (dP ps) = true
  | [] => by simp [dP, PyData.canLayAll0]
  | n :: r => by
    have := canLay_pairs r
    simp only [dP] at this ⊢
    simp [PyData.canLayAll0, PyData.canLay0, this, canLay_ints]
theorem depth_pairs : ∀ ps : List (Int × Int), PyData.depthAll (dP ps) ≤ 1
  | [] => by simp [dP, PyData.depthAll]
  | n :: r => by
    have := depth_pairs r
    simp only [dP] at this ⊢
    simp only [List.map_cons, PyData.depthAll, PyData.depth, depth_ints]
    omega
theorem eqv_pairs : ∀ ns ms : List (Int × Int), PyData.eqvAll (dP ns) (dP ms) = decide (ns = ms)
  | [], [] => by simp [dP, PyData.eqvAll]
  | [], _ :: _ => by simp [dP, PyData.eqvAll]
  | _ :: _, [] => by simp [dP, PyData.eqvAll]
  | (a, b) :: r, (c, d) :: t => by
    have := eqv_pairs r t
    simp only [dP] at this ⊢
    simp only [List.map_cons, PyData.eqvAll, PyData.eqv, this, List.cons.injEq, eqv_ints, Prod.mk.injEq, and_true]
    simp only [Bool.decide_and]
theorem sh_tP (ns : List (Int × Int)) : SeqAt.shaped (.tuple (dP ns)) = true := by
  unfold SeqAt.shaped
  have := depth_pairs ns
  simp only [PyData.canLay0, PyData.depth, canLay_pairs, Bool.true_and, decide_eq_true_eq]
  exact decide_eq_true (by omega)
theorem sh_lP (ns : List (Int × Int)) : SeqAt.shaped (.list (dP ns)) = true := by
  unfold SeqAt.shaped
  have := depth_pairs ns
  simp only [PyData.canLay0, PyData.depth, canLay_pairs, Bool.true_and, decide_eq_true_eq]
  exact decide_eq_true (by omega)
/-- tuples of two ints stand at these addresses -/
def PairsAt (K : PySem.W.Frag) (H : Hp) (as : List Addr) (ps : List (Int × Int)) : Prop := as.length = ps.length ∧ ∀ (i : Nat) (a : Addr) (p : Int × Int), as[i]? = some a → ps[i]? = some p → SqT K H a [.int p.1, .int p.2]
theorem PairsAt.nil {K : PySem.W.Frag} {H : Hp} : PairsAt K H [] [] := ⟨rfl, fun _ _ _ h => by simp at h⟩
theorem PairsAt.snoc {K : PySem.W.Frag} {H : Hp} {as : List Addr} {ps : List (Int × Int)} {a : Addr} {p : Int × Int} (h : PairsAt K H as ps) (hp : SqT K H a [.int p.1, .int p.2]) : PairsAt K H (as ++ [a]) (ps ++ [p]) := by
  refine ⟨by simp [h.1], fun i b q h1 h2 => ?_⟩
  rcases Nat.lt_or_ge i as.length with c | c
  · rw [List.getElem?_append_left c] at h1
    rw [List.getElem?_append_left (by rw [← h.1]; exact c)] at h2
    exact h.2 i b q h1 h2
  · rw [List.getElem?_append_right c] at h1
    rw [List.getElem?_append_right (by rw [← h.1]; exact c)] at h2
    have e1 : i - as.length = 0 := by
      have := (List.getElem?_eq_some_iff.mp h1).1
      simp at this
      omega
    rw [← h.1, e1] at h2
    rw [e1] at h1
    simp at h1 h2
    subst h1 h2
    exact hp
theorem dpAll_pairs {K : PySem.W.Frag} {H : Hp} : ∀ {as : List Addr} {ps : List (Int × Int)}, PairsAt K H as ps → DpAll K H (as.map V.ref) (dP ps)
  | [], [], _ => .nil
  | [], _ :: _, h => by
    have := h.1
    simp at this
  | _ :: _, [], h => by
    have := h.1
    simp at this
  | a :: as, p :: ps, h => .cons (.tup (h.2 0 a p rfl rfl) (dpAll_ints [p.1, p.2])) (dpAll_pairs ⟨by have := h.1; simp at this; exact this, fun i b q h1 h2 => h.2 (i + 1) b q (by simpa using h1) (by simpa using h2)⟩)
/-- a number, or None -/
def vo : Option Nat → V
  | some n => .int (n : Int)
  | none => .non
def dO : Option Nat → PyData
  | some n => .int (n : Int)
  | none => .none
theorem dp_o {K : PySem.W.Frag} {H : Hp} : ∀ l : Option Nat, Dp K H (vo l) (dO l)
  | some n => .int _
  | none => .non
theorem eqv_o : ∀ l l' : Option Nat, PyData.eqv (dO l) (dO l') = decide (l = l')
  | some a, some b => by
    simp only [dO, PyData.eqv, Option.some.injEq, Int.natCast_inj, Bool.beq_eq_decide_eq]
  | some a, none => by simp [dO, PyData.eqv]
  | none, some b => by simp [dO, PyData.eqv]
  | none, none => by simp [dO, PyData.eqv]
theorem sh_o (l : Option Nat) (g : Int) : SeqAt.shaped (.tuple [dO l, .int g]) = true := by cases l <;> rfl
section
variable {K : PySem.W.Frag} {H : Hp} {Q : VK} {a b : Addr}
theorem r_eqT {ns ms : List Int} (hx : SqT K H a (ns.map V.int)) (hy : SqT K H b (ms.map V.int)) (q : Q (.bl (decide (ns = ms))) H) : rEqD K (.ref a) (.ref b) H Q :=
  ⟨.tuple (dI ns), .tuple (dI ms), .tup hx (dpAll_ints ns), .tup hy (dpAll_ints ms), sh_tI ns, sh_tI ms, by rw [PyData.eqv, eqv_ints]; exact q⟩
theorem r_neT {ns ms : List Int} (hx : SqT K H a (ns.map V.int)) (hy : SqT K H b (ms.map V.int)) (q : Q (.bl (!decide (ns = ms))) H) : rNeD K (.ref a) (.ref b) H Q :=
  ⟨.tuple (dI ns), .tuple (dI ms), .tup hx (dpAll_ints ns), .tup hy (dpAll_ints ms), sh_tI ns, sh_tI ms, by rw [PyData.eqv, eqv_ints]; exact q⟩
theorem r_eqL {ns ms : List Int} (hx : SqL K H a (ns.map V.int)) (hy : SqL K H b (ms.map V.int)) (q : Q (.bl (decide (ns = ms))) H) : rEqD K (.ref a) (.ref b) H Q :=
  ⟨.list (dI ns), .list (dI ms), .lst hx (dpAll_ints ns), .lst hy (dpAll_ints ms), sh_lI ns, sh_lI ms, by rw [PyData.eqv, eqv_ints]; exact q⟩
theorem r_neL {ns ms : List Int} (hx : SqL K H a (ns.map V.int)) (hy : SqL K H b (ms.map V.int)) (q : Q (.bl (!decide (ns = ms))) H) : rNeD K (.ref a) (.ref b) H Q :=
  ⟨.list (dI ns), .list (dI ms), .lst hx (dpAll_ints ns), .lst hy (dpAll_ints ms), sh_lI ns, sh_lI ms, by rw [PyData.eqv, eqv_ints]; exact q⟩
theorem r_eqTP {as bs : List Addr} {ns ms : List (Int × Int)} (hx : SqT K H a (as.map V.ref)) (ha : PairsAt K H as ns) (hy : SqT K H b (bs.map V.ref)) (hb : PairsAt K H bs ms) (q : Q (.bl (decide (ns = ms))) H) : rEqD K (.ref a) (.ref b) H Q :=
  ⟨.tuple (dP ns), .tuple (dP ms), .tup hx (dpAll_pairs ha), .tup hy (dpAll_pairs hb), sh_tP ns, sh_tP ms, by rw [PyData.eqv, eqv_pairs]; exact q⟩
theorem r_neTP {as bs : List Addr} {ns ms : List (Int × Int)} (hx : SqT K H a (as.map V.ref)) (ha : PairsAt K H as ns) (hy : SqT K H b (bs.map V.ref)) (hb : PairsAt K H bs ms) (q : Q (.bl (!decide (ns = ms))) H) : rNeD K (.ref a) (.ref b) H Q :=
  ⟨.tuple (dP ns), .tuple (dP ms), .tup hx (dpAll_pairs ha), .tup hy (dpAll_pairs hb), sh_tP ns, sh_tP ms, by rw [PyData.eqv, eqv_pairs]; exact q⟩
theorem r_eqLP {as bs : List Addr} {ns ms : List (Int × Int)} (hx : SqL K H a (as.map V.ref)) (ha : PairsAt K H as ns) (hy : SqL K H b (bs.map V.ref)) (hb : PairsAt K H bs ms) (q : Q (.bl (decide (ns = ms))) H) : rEqD K (.ref a) (.ref b) H Q :=
  ⟨.list (dP ns), .list (dP ms), .lst hx (dpAll_pairs ha), .lst hy (dpAll_pairs hb), sh_lP ns, sh_lP ms, by rw [PyData.eqv, eqv_pairs]; exact q⟩
theorem r_neLP {as bs : List Addr} {ns ms : List (Int × Int)} (hx : SqL K H a (as.map V.ref)) (ha : PairsAt K H as ns) (hy : SqL K H b (bs.map V.ref)) (hb : PairsAt K H bs ms) (q : Q (.bl (!decide (ns = ms))) H) : rNeD K (.ref a) (.ref b) H Q :=
  ⟨.list (dP ns), .list (dP ms), .lst hx (dpAll_pairs ha), .lst hy (dpAll_pairs hb), sh_lP ns, sh_lP ms, by rw [PyData.eqv, eqv_pairs]; exact q⟩
theorem r_neO {l l' : Option Nat} {g g' : Nat} (hx : SqT K H a [vo l, .int (g : Int)]) (hy : SqT K H b [vo l', .int (g' : Int)]) (q : Q (.bl (!decide (l = l' ∧ g = g'))) H) : rNeD K (.ref a) (.ref b) H Q :=
  ⟨.tuple [dO l, .int g], .tuple [dO l', .int g'], .tup hx (.cons (dp_o l) (.cons (.int _) .nil)), .tup hy (.cons (dp_o l') (.cons (.int _) .nil)), sh_o l g, sh_o l' g', by
    rw [PyData.eqv]
    simp only [PyData.eqvAll, eqv_o, PyData.eqv, Bool.and_true]
    have : (decide (l = l') && ((g : Int) == (g' : Int))) = decide (l = l' ∧ g = g') := by
      rw [Bool.decide_and, Bool.beq_eq_decide_eq]
      simp only [Int.natCast_inj]
    rw [this]
    exact q⟩
theorem r_eqO {l l' : Option Nat} {g g' : Nat} (hx : SqT K H a [vo l, .int (g : Int)]) (hy : SqT K H b [vo l', .int (g' : Int)]) (q : Q (.bl (decide (l = l' ∧ g = g'))) H) : rEqD K (.ref a) (.ref b) H Q :=
  ⟨.tuple [dO l, .int g], .tuple [dO l', .int g'], .tup hx (.cons (dp_o l) (.cons (.int _) .nil)), .tup hy (.cons (dp_o l') (.cons (.int _) .nil)), sh_o l g, sh_o l' g', by
    rw [PyData.eqv]
    simp only [PyData.eqvAll, eqv_o, PyData.eqv, Bool.and_true]
    have : (decide (l = l') && ((g : Int) == (g' : Int))) = decide (l = l' ∧ g = g') := by
      rw [Bool.decide_and, Bool.beq_eq_decide_eq]
      simp only [Int.natCast_inj]
    rw [this]
    exact q⟩
theorem ty_non : TyX K H .non (.type "NoneType") := .base .non
/-- isinstance of a built-in class -/
theorem r_isi {x : V} {T n : String} {c : Bool} (ty : TyX K H x (.type T)) (hk : kitB T n = some c) (q : Q (.bl c) H) : rIsi K [x, .ty n] H Q := ⟨x, .ty n, .type T, .type n, c, rfl, .ty n, ty, kit_ty hk, q⟩
theorem ty_int (i : Int) : TyX K H (.int i) (.type "int") := .base (.int i)
theorem ty_bl (c : Bool) : TyX K H (.bl c) (.type "bool") := .base (.bl c)
theorem ty_str (c : PySem.Str) : TyX K H (.str c) (.type "str") := .base (.str c)
theorem ty_tup {xs : List V} (h : SqT K H a xs) : TyX K H (.ref a) (.type "tuple") := by
  rcases h with (h | ⟨o, h⟩) | ⟨o, its, n, h1, h2, _⟩
  · exact .base (.tup h)
  · exact .fTuple h
  · exact .kTuple h1 h2
theorem ty_lst {xs : List V} (h : SqL K H a xs) : TyX K H (.ref a) (.type "list") := by
  rcases h with (h | ⟨o, h⟩) | ⟨o, its, n, h1, h2, _⟩
  · exact .base (.lst h)
  · exact .base (.frz h)
  · exact .kList h1 h2
end
/-- all of these stand at tuples of a number to 10 ** 40 and an exponent from 1 to 200 -/
def Jobs (H : Hp) (xs : List V) : Prop := ∀ x ∈ xs, ∃ (a : Addr) (n e : Nat), x = .ref a ∧ H a = some (.tup [.int n, .int e]) ∧ n ≤ 10 ^ 40 ∧ 1 ≤ e ∧ e ≤ 200
theorem Jobs.kp {H H' : Hp} {xs : List V} {d : Addr} (h : Jobs H xs) (k : Kp d H H') (hd : ∃ ys, H d = some (.lst ys)) : Jobs H' xs := fun x hx => by
  obtain ⟨a, n, e, h1, h2, h3⟩ := h x hx
  obtain ⟨ys, hy⟩ := hd
  exact ⟨a, n, e, h1, k _ _ (ne_of h2 hy (by intro z; cases z)) h2, h3⟩
theorem Jobs.same {H H' : Hp} {xs : List V} (h : Jobs H xs) (k : Same H H') : Jobs H' xs := fun x hx => by
  obtain ⟨a, n, e, h1, h2, h3⟩ := h x hx
  exact ⟨a, n, e, h1, k _ _ h2, h3⟩
/-- a value that is no truth -/
def tyFalse (K : PySem.W.Frag) (x : V) (H : Hp) : Prop := ∃ T : String, TyX K H x (.type T) ∧ kitB T "bool" = some false
/-! ### a comprehension whose turns change nothing that was there -/
section
variable {σ : L2.St} {H : Hp} {Q : VK} {K : PySem.W.Frag} {te tl : TE} {tt : TT} {tr : TA} {g : TG} {vs : List Nat}
/-- the turns of a comprehension -/
def LJ (J : It) (g : TG) (tt : TT) (te : TE) (vs : List Nat) (σ : L2.St) (H1 : Hp) (Q : VK) : Prop := ∀ D, H1 D = none → ∃ W : Nat → Nat → Hp → Prop, (∃ m, W 0 m (upd H1 D (.lst []))) ∧ ∀ i m H, W i m H →
  (J.stop i H ∧ Q (.ref D) H) ∨ (J.go i H ∧ ∃ Nx : Hp → Prop, (∀ H', Nx H' → ∃ m', m' < m ∧ W (i + 1) m' H') ∧ ∀ x H', J.yld i H x H' → g x (wipe σ vs) H' fun σ2 H2 => wipe σ2 vs = wipe σ vs ∧ tt σ2 H2 fun b H3 =>
    if b = true then te σ2 H3 fun y H4 => ∃ acc, H4 D = some (.lst acc) ∧ acc.length < sizeLine ∧ Nx (upd H4 D (.lst (acc ++ [y]))) else Nx H3)
theorem w_lcL : tLc (iList K tl) g tt te vs σ H Q = tl σ H fun x H1 => ∃ a, x = .ref a ∧ (∃ xs, SqL K H1 a xs) ∧ LJ (Itl K a) g tt te vs σ H1 Q := rfl
theorem w_lcT : tLc (iTup K tl) g tt te vs σ H Q = tl σ H fun x H1 => ∃ a, x = .ref a ∧ (∃ xs, SqT K H1 a xs) ∧ LJ (Itt K a) g tt te vs σ H1 Q := rfl
theorem w_lc1 : tLc (iRng1 tr) g tt te vs σ H Q = tr σ H fun xs H1 => ∃ j : Int, xs = [.int j] ∧ -(2 ^ 62) ≤ j ∧ j < 2 ^ 62 ∧ LJ (Itr 0 j.toNat) g tt te vs σ H1 Q := rfl
theorem w_lc2 : tLc (iRng2 tr) g tt te vs σ H Q = tr σ H fun xs H1 => ∃ i j : Int, xs = [.int i, .int j] ∧ (-(2 ^ 62) ≤ i ∧ i < 2 ^ 62 ∧ -(2 ^ 62) ≤ j ∧ j < 2 ^ 62) ∧ LJ (Itr i (j - i).toNat) g tt te vs σ H1 Q := rfl
theorem w_lc3 : tLc (iRng3 tr) g tt te vs σ H Q = tr σ H fun xs H1 => ∃ (i j c : Int) (n : Nat), xs = [.int i, .int j, .int c] ∧ RgC i j c n ∧ LJ (Itc i c n) g tt te vs σ H1 Q := rfl
theorem w_yes {QT : Bool → Hp → Prop} : tYes σ H QT = QT true H := rfl
theorem same_seqT {K : PySem.W.Frag} {H H' : Hp} {a : Addr} {xs : List V} (e : Same H H') (h : SqT K H a xs) : SqT K H' a xs := by
  rcases h with (h | ⟨o, h⟩) | h
  · exact .inl (.inl (e _ _ h))
  · exact .inl (.inr ⟨o, e _ _ h⟩)
  · exact .inr h
theorem Kp.seqT {K : PySem.W.Frag} {a : Addr} {H H' : Hp} {l : Addr} {xs : List V} (x : Kp a H H') (n : l ≠ a) (h : SqT K H l xs) : SqT K H' l xs := by
  rcases h with (h | ⟨o, h⟩) | h
  · exact .inl (.inl (x _ _ n h))
  · exact .inl (.inr ⟨o, x _ _ n h⟩)
  · exact .inr h
theorem PairsAt.same {K : PySem.W.Frag} {H H' : Hp} {as : List Addr} {ps : List (Int × Int)} (h : PairsAt K H as ps) (e : Same H H') : PairsAt K H' as ps := ⟨h.1, fun i a p h1 h2 => same_seqT e (h.2 i a p h1 h2)⟩
theorem filt_take {α β : Type} (f : α → Option β) {xs : List α} {i : Nat} {x : α} (h : xs[i]? = some x) : (xs.take (i + 1)).filterMap f = (xs.take i).filterMap f ++ (f x).toList := by
  rw [List.take_add_one, h, List.filterMap_append]
  cases e : f x <;> simp [e]
/-- f tells of an item what is put into the list, if anything -/
theorem lc_l {a : Addr} {xs : List V} (f : V → Option V) (hx : SqL K H a xs) (hl : xs.length < sizeLine)
    (hs : ∀ (i : Nat) (x : V) (H' : Hp), xs[i]? = some x → Same H H' → ∀ (N0 : Hp → Prop) (N1 : VK), (f x = none → ∀ H2, Same H' H2 → N0 H2) → (∀ y, f x = some y → ∀ H2, Same H' H2 → N1 y H2) →
      g x (wipe σ vs) H' fun σ2 H2 => wipe σ2 vs = wipe σ vs ∧ tt σ2 H2 fun b H3 => if b = true then te σ2 H3 N1 else N0 H3)
    (q : ∀ D H', H D = none → Same H H' → H' D = some (.lst (xs.filterMap f)) → Q (.ref D) H') : LJ (Itl K a) g tt te vs σ H Q := by
  intro D hD
  refine lc_list (K := K) (a := a) (xs := xs) (fun i H' => Same H H' ∧ H' D = some (.lst ((xs.take i).filterMap f))) ⟨same_new hD, by rw [upd_same]; simp⟩ (fun i H' _ p => p.1.seq hx) ?_ ?_
  · rintro i x H' hi ⟨p1, p2⟩
    have hlen : ((xs.take i).filterMap f).length < sizeLine := Nat.lt_of_le_of_lt (Nat.le_trans (List.length_filterMap_le _ _) (by rw [List.length_take]; exact Nat.min_le_right _ _)) hl
    refine hs i x H' hi p1 _ _ (fun hf H2 e2 => ⟨p1.trans e2, ?_⟩) fun y hf H2 e2 => ⟨_, e2 _ _ p2, hlen, fun b o h => ?_, ?_⟩
    · rw [e2 _ _ p2, filt_take f hi, hf]
      simp
    · rw [upd_ne (ne_of_none h hD)]
      exact e2 _ _ (p1 _ _ h)
    · rw [upd_same, filt_take f hi, hf]
      rfl
  · rintro H' ⟨p1, p2⟩
    rw [List.take_length] at p2
    exact q D H' hD p1 p2
theorem lc_t {a : Addr} {xs : List V} (f : V → Option V) (hx : SqT K H a xs) (hl : xs.length < sizeLine)
    (hs : ∀ (i : Nat) (x : V) (H' : Hp), xs[i]? = some x → Same H H' → ∀ (N0 : Hp → Prop) (N1 : VK), (f x = none → ∀ H2, Same H' H2 → N0 H2) → (∀ y, f x = some y → ∀ H2, Same H' H2 → N1 y H2) →
      g x (wipe σ vs) H' fun σ2 H2 => wipe σ2 vs = wipe σ vs ∧ tt σ2 H2 fun b H3 => if b = true then te σ2 H3 N1 else N0 H3)
    (q : ∀ D H', H D = none → Same H H' → H' D = some (.lst (xs.filterMap f)) → Q (.ref D) H') : LJ (Itt K a) g tt te vs σ H Q := by
  intro D hD
  refine lc_tup (K := K) (a := a) (xs := xs) (fun i H' => Same H H' ∧ H' D = some (.lst ((xs.take i).filterMap f))) ⟨same_new hD, by rw [upd_same]; simp⟩ (fun i H' _ p => same_seqT p.1 hx) ?_ ?_
  · rintro i x H' hi ⟨p1, p2⟩
    have hlen : ((xs.take i).filterMap f).length < sizeLine := Nat.lt_of_le_of_lt (Nat.le_trans (List.length_filterMap_le _ _) (by rw [List.length_take]; exact Nat.min_le_right _ _)) hl
    refine hs i x H' hi p1 _ _ (fun hf H2 e2 => ⟨p1.trans e2, ?_⟩) fun y hf H2 e2 => ⟨_, e2 _ _ p2, hlen, fun b o h => ?_, ?_⟩
    · rw [e2 _ _ p2, filt_take f hi, hf]
      simp
    · rw [upd_ne (ne_of_none h hD)]
      exact e2 _ _ (p1 _ _ h)
    · rw [upd_same, filt_take f hi, hf]
      rfl
  · rintro H' ⟨p1, p2⟩
    rw [List.take_length] at p2
    exact q D H' hD p1 p2
/-- over lo, lo + 1, .. (n of them), by the place -/
theorem lc_r {lo : Int} {n : Nat} (f : Nat → Option V) (hl : n < sizeLine)
    (hs : ∀ (i : Nat) (H' : Hp), i < n → Same H H' → ∀ (N0 : Hp → Prop) (N1 : VK), (f i = none → ∀ H2, Same H' H2 → N0 H2) → (∀ y, f i = some y → ∀ H2, Same H' H2 → N1 y H2) →
      g (.int (lo + i)) (wipe σ vs) H' fun σ2 H2 => wipe σ2 vs = wipe σ vs ∧ tt σ2 H2 fun b H3 => if b = true then te σ2 H3 N1 else N0 H3)
    (q : ∀ D H', H D = none → Same H H' → H' D = some (.lst ((List.range n).filterMap f)) → Q (.ref D) H') : LJ (Itr lo n) g tt te vs σ H Q := by
  intro D hD
  refine lc_range (lo := lo) (n := n) (fun i H' => Same H H' ∧ H' D = some (.lst ((List.range i).filterMap f))) ⟨same_new hD, by rw [upd_same]; simp⟩ ?_ ?_
  · rintro i H' hi ⟨p1, p2⟩
    have hlen : ((List.range i).filterMap f).length < sizeLine := Nat.lt_of_le_of_lt (List.length_filterMap_le _ _) (by rw [List.length_range]; omega)
    have hf1 : (List.range (i + 1)).filterMap f = (List.range i).filterMap f ++ (f i).toList := by
      rw [List.range_succ, List.filterMap_append]
      cases e : f i <;> simp [e]
    refine hs i H' hi p1 _ _ (fun hf H2 e2 => ⟨p1.trans e2, ?_⟩) fun y hf H2 e2 => ⟨_, e2 _ _ p2, hlen, fun b o h => ?_, ?_⟩
    · rw [e2 _ _ p2, hf1, hf]
      simp
    · rw [upd_ne (ne_of_none h hD)]
      exact e2 _ _ (p1 _ _ h)
    · rw [upd_same, hf1, hf]
      rfl
  · rintro H' ⟨p1, p2⟩
    exact q D H' hD p1 p2
/-- a comprehension by an invariant over what is made so far -/
theorem lc_rI {lo : Int} {n : Nat} (Pv : Nat → List V → Hp → Prop) (h0 : ∀ D, H D = none → Pv 0 [] (upd H D (.lst [])))
    (hs : ∀ (i : Nat) (acc : List V) (D : Addr) (H' : Hp), i < n → H D = none → H' D = some (.lst acc) → Pv i acc H' → ∀ (N0 : Hp → Prop) (N1 : VK), (∀ H2, H2 D = some (.lst acc) → Pv (i + 1) acc H2 → N0 H2) →
      (∀ y H2, H2 D = some (.lst acc) → acc.length < sizeLine → Pv (i + 1) (acc ++ [y]) (upd H2 D (.lst (acc ++ [y]))) → N1 y H2) →
      g (.int (lo + i)) (wipe σ vs) H' fun σ2 H2 => wipe σ2 vs = wipe σ vs ∧ tt σ2 H2 fun b H3 => if b = true then te σ2 H3 N1 else N0 H3)
    (q : ∀ D acc H', H D = none → H' D = some (.lst acc) → Pv n acc H' → Q (.ref D) H') : LJ (Itr lo n) g tt te vs σ H Q := by
  intro D hD
  refine lc_range (lo := lo) (n := n) (fun i H' => ∃ acc, H' D = some (.lst acc) ∧ Pv i acc H') ⟨[], upd_same, h0 D hD⟩ ?_ ?_
  · rintro i H' hi ⟨acc, p1, p2⟩
    exact hs i acc D H' hi hD p1 p2 _ _ (fun H2 e h => ⟨acc, e, h⟩) fun y H2 e hl h => ⟨acc, e, hl, _, upd_same, h⟩
  · rintro H' ⟨acc, p1, p2⟩
    exact q D acc H' hD p1 p2
theorem lc_lI {a : Addr} {xs : List V} (Pv : Nat → List V → Hp → Prop) (h0 : ∀ D, H D = none → Pv 0 [] (upd H D (.lst []))) (hl : ∀ i acc H', i ≤ xs.length → Pv i acc H' → SqL K H' a xs)
    (hs : ∀ (i : Nat) (x : V) (acc : List V) (D : Addr) (H' : Hp), xs[i]? = some x → H D = none → H' D = some (.lst acc) → Pv i acc H' → ∀ (N0 : Hp → Prop) (N1 : VK), (∀ H2, H2 D = some (.lst acc) → Pv (i + 1) acc H2 → N0 H2) →
      (∀ y H2, H2 D = some (.lst acc) → acc.length < sizeLine → Pv (i + 1) (acc ++ [y]) (upd H2 D (.lst (acc ++ [y]))) → N1 y H2) →
      g x (wipe σ vs) H' fun σ2 H2 => wipe σ2 vs = wipe σ vs ∧ tt σ2 H2 fun b H3 => if b = true then te σ2 H3 N1 else N0 H3)
    (q : ∀ D acc H', H D = none → H' D = some (.lst acc) → Pv xs.length acc H' → Q (.ref D) H') : LJ (Itl K a) g tt te vs σ H Q := by
  intro D hD
  refine lc_list (K := K) (a := a) (xs := xs) (fun i H' => ∃ acc, H' D = some (.lst acc) ∧ Pv i acc H') ⟨[], upd_same, h0 D hD⟩ (fun i H' hi ⟨acc, _, p⟩ => hl i acc H' hi p) ?_ ?_
  · rintro i x H' hi ⟨acc, p1, p2⟩
    exact hs i x acc D H' hi hD p1 p2 _ _ (fun H2 e h => ⟨acc, e, h⟩) fun y H2 e hl h => ⟨acc, e, hl, _, upd_same, h⟩
  · rintro H' ⟨acc, p1, p2⟩
    exact q D acc H' hD p1 p2
end
/-- range(i, j, c) upwards -/
theorem RgC.up {i j c : Int} (ha : -(2 ^ 62) ≤ i) (ha' : i < 2 ^ 62) (hb : -(2 ^ 62) ≤ j) (hb' : j < 2 ^ 62) (hc : 0 < c) (hc' : c < 1073741824) : RgC i j c (if i < j then ((j - i - 1) / c + 1).toNat else 0) := by
  have hd : i < j → 0 ≤ (j - i - 1) / c ∧ (j - i - 1) / c ≤ j - i - 1 := fun h => ⟨Int.ediv_nonneg (by omega) (by omega), Int.ediv_le_self _ (by omega)⟩
  refine ⟨by omega, by omega, ?_, ?_⟩
  · unfold Builtin.Range.small
    simp only [Builtin.Range.rangeFitsLong, Bool.and_eq_true, Bool.or_eq_true, decide_eq_true_eq, beq_iff_eq, Builtin.Range.rangeSize, show c > 0 from hc, if_true]
    split
    · rename_i h
      obtain ⟨h1, h2⟩ := hd h
      generalize (j - i - 1) / c = z at h1 h2 ⊢
      omega
    · omega
  · simp only [Builtin.Range.rangeSize, show c > 0 from hc, if_true]
    split
    · rename_i h
      obtain ⟨h1, h2⟩ := hd h
      omega
    · rfl
theorem bits_nat {n : Nat} (h : 1 ≤ n) : Builtin.Int.intBits (n : Int) = n.log2 + 1 := by
  unfold Builtin.Int.intBits
  rw [if_neg (by simp; omega)]
  rfl
theorem bits_0 : Builtin.Int.intBits 0 = 0 := rfl
theorem filt_ints (f : Nat → Int) (k : Nat) : (List.range k).filterMap (fun i => some (V.int (f i))) = ((List.range k).map f).map V.int := by
  rw [List.map_map]
  exact congrFun (List.filterMap_eq_map (f := V.int ∘ f)) _
theorem size_le {n : Nat} (h : n ≤ 1000000) : n < sizeLine := Nat.lt_of_le_of_lt h (by decide)
theorem size_le' {n : Nat} (h : n ≤ 1000000) : n ≤ sizeLine := Nat.le_of_lt (size_le h)
/-- the items of a list of ints that are kept -/
def keepI (p : Int → Bool) : V → Option V
  | .int z => if p z = true then some (.int z) else none
  | _ => none
theorem filt_keep (p : Int → Bool) : ∀ ns : List Int, (ns.map V.int).filterMap (keepI p) = (ns.filter p).map V.int
  | [] => rfl
  | n :: r => by
    have ih := filt_keep p r
    simp only [List.map_cons, List.filterMap_cons, keepI, List.filter_cons]
    by_cases h : p n = true
    · rw [if_pos h, if_pos h]
      simp only [ih, List.map_cons]
    · rw [if_neg h, if_neg h]
      simp only [ih]
theorem int_at {ns : List Int} {i : Nat} {x : V} (h : (ns.map V.int)[i]? = some x) : ∃ n, n ∈ ns ∧ x = V.int n := by
  rw [List.getElem?_map] at h
  cases e : ns[i]? with
  | none => simp [e] at h
  | some n =>
    simp [e] at h
    exact ⟨n, List.mem_of_getElem? e, h.symm⟩
def ofN (ns : List Nat) : List Int := List.map (fun n : Nat => (n : Int)) ns
theorem ofN_filter (p : Int → Bool) (ns : List Nat) : (ofN ns).filter p = ofN (ns.filter fun n => p n) := by
  unfold ofN
  rw [List.filter_map]
  rfl
/-! ### sizes -/
theorem cmulN {a b : Nat} (h : a.log2 + b.log2 < 1000000) : CMulW (a : Int) (b : Int) := h
end Pn
namespace Pn
/-! ### powers -/
theorem tk_odd {f b e X B : Nat} (h : f * b ^ e = X) (hX : X ≤ B) (he : 1 ≤ e) : f * b ≤ B := by
  rcases Nat.eq_zero_or_pos b with rfl | hb
  · omega
  · have : b ≤ b ^ e := Nat.le_self_pow (by omega) b
    calc f * b ≤ f * b ^ e := Nat.mul_le_mul_left f this
      _ ≤ B := by omega
theorem tk_sq {f b e X B : Nat} (h : f * b ^ e = X) (hX : X ≤ B) (he : 2 ≤ e) (hf : f = 0 → b = 0) : b * b ≤ B := by
  rcases Nat.eq_zero_or_pos b with rfl | hb
  · omega
  · have h1 : b ^ 2 ≤ b ^ e := Nat.pow_le_pow_right hb he
    have hf1 : 1 ≤ f := by omega
    have h2 : 1 * b ^ e ≤ f * b ^ e := Nat.mul_le_mul_right _ hf1
    have h3 : b * b = b ^ 2 := by rw [Nat.pow_two]
    omega
theorem tk_step1 {f b e X : Nat} (h : f * b ^ e = X) (he : e % 2 = 1) : f * b * (b * b) ^ (e / 2) = X := by
  have e1 : e = 2 * (e / 2) + 1 := by omega
  have e2 : b ^ e = b * (b * b) ^ (e / 2) := by
    conv => lhs; rw [e1]
    rw [Nat.pow_succ, Nat.pow_mul, Nat.pow_two, Nat.mul_comm]
  rw [Nat.mul_assoc, ← e2, h]
theorem tk_step0 {f b e X : Nat} (h : f * b ^ e = X) (he : e % 2 = 0) : f * (b * b) ^ (e / 2) = X := by
  have e1 : e = 2 * (e / 2) := by omega
  have e2 : b ^ e = (b * b) ^ (e / 2) := by
    conv => lhs; rw [e1]
    rw [Nat.pow_mul, Nat.pow_two]
  rw [← e2, h]
theorem log2_le_of_le {x n : Nat} (h : x ≤ 2 ^ n) : x.log2 ≤ n := by
  rcases Nat.eq_zero_or_pos x with rfl | hx
  · simp
  · have : x.log2 < n + 1 := (Nat.log2_lt (by omega)).mpr (by rw [Nat.pow_succ]; omega)
    omega
theorem shl_one (j : Nat) : (1 : Int) * 2 ^ ((j : Int)).toNat = ((2 ^ j : Nat) : Int) := by
  rw [Int.toNat_natCast, Int.one_mul, Int.natCast_pow]
  rfl
/-! ### roots by halving -/
theorem root_unique {n e r s : Nat} (he : 1 ≤ e) (h1 : r ^ e ≤ n) (h2 : n < (r + 1) ^ e) (h3 : s ^ e ≤ n) (h4 : n < (s + 1) ^ e) : r = s := by
  have a : r < s + 1 := (Nat.pow_lt_pow_iff_left (by omega : e ≠ 0)).mp (Nat.lt_of_le_of_lt h1 h4)
  have b : s < r + 1 := (Nat.pow_lt_pow_iff_left (by omega : e ≠ 0)).mp (Nat.lt_of_le_of_lt h3 h2)
  omega
end Pn
namespace Pn
/-! ### the root of a number by an exponent; all ways in which it is a power -/
def rootD (n e : Nat) : Nat → Nat
  | 0 => 0
  | k + 1 => if (k + 1) ^ e ≤ n then k + 1 else rootD n e k
theorem rootD_spec (n e : Nat) (he : 1 ≤ e) : ∀ k, rootD n e k ≤ k ∧ (rootD n e k) ^ e ≤ n ∧ ∀ j, rootD n e k < j → j ≤ k → n < j ^ e
  | 0 => ⟨Nat.le_refl _, by rw [rootD, Nat.zero_pow (by omega)]; omega, fun j h1 h2 => by omega⟩
  | k + 1 => by
    obtain ⟨h1, h2, h3⟩ := rootD_spec n e he k
    rw [rootD]
    split
    · rename_i h
      exact ⟨Nat.le_refl _, h, fun j a b => by omega⟩
    · rename_i h
      refine ⟨by omega, h2, fun j a b => ?_⟩
      rcases Nat.lt_or_ge j (k + 1) with c | c
      · exact h3 j a (by omega)
      · have : j = k + 1 := by omega
        subst this
        omega
def rootN (n e : Nat) : Nat := rootD n e n
theorem rootN_le {n e : Nat} (he : 1 ≤ e) : (rootN n e) ^ e ≤ n := (rootD_spec n e he n).2.1
theorem rootN_lt {n e : Nat} (he : 1 ≤ e) : n < (rootN n e + 1) ^ e := by
  obtain ⟨h1, h2, h3⟩ := rootD_spec n e he n
  unfold rootN
  rcases Nat.lt_or_ge (rootD n e n) n with c | c
  · exact h3 _ (by omega) (by omega)
  · have : rootD n e n = n := by omega
    rw [this]
    exact Nat.lt_of_lt_of_le (Nat.lt_succ_self n) (Nat.le_self_pow (by omega) _)
theorem rootN_is {n e r : Nat} (he : 1 ≤ e) (h1 : r ^ e ≤ n) (h2 : n < (r + 1) ^ e) : r = rootN n e := root_unique he h1 h2 (rootN_le he) (rootN_lt he)
theorem rootN_ge {n e b : Nat} (he : 1 ≤ e) (h : b ^ e ≤ n) : b ≤ rootN n e := by
  have : b < rootN n e + 1 := (Nat.pow_lt_pow_iff_left (by omega : e ≠ 0)).mp (Nat.lt_of_le_of_lt h (rootN_lt he))
  omega
theorem rootN_pow {b e : Nat} (he : 1 ≤ e) : rootN (b ^ e) e = b := (rootN_is he (Nat.le_refl _) (Nat.pow_lt_pow_left (Nat.lt_succ_self b) (by omega))).symm
theorem rootN_gt1 {n e : Nat} (he : 1 ≤ e) : 1 < rootN n e ↔ 2 ^ e ≤ n := by
  constructor
  · intro h
    exact Nat.le_trans (Nat.pow_le_pow_left h e) (rootN_le he)
  · intro h
    exact rootN_ge he h
def wayAt (n e : Nat) : Option (Nat × Nat) := if (rootN n e) ^ e = n then some (rootN n e, e) else none
/-- the ways by exponents 2, .., k + 1 -/
def waysTo (n k : Nat) : List (Nat × Nat) := (List.range k).filterMap fun i => wayAt n (i + 2)
theorem waysTo_succ (n k : Nat) : waysTo n (k + 1) = waysTo n k ++ (wayAt n (k + 2)).toList := by
  unfold waysTo
  rw [List.range_succ, List.filterMap_append]
  cases e : wayAt n (k + 2) <;> simp [e]
def waysN (n : Nat) : List (Nat × Nat) := if n = 0 then [] else if n = 1 then [(1, 2)] else waysTo n (n.log2 - 1)
def greatestN (n : Nat) : Nat × Nat := (waysN n).getLast?.getD (n, 1)
theorem last_filt {α : Type} {f : Nat → Option α} {v : α} {i : Nat} (hi : f i = some v) : ∀ k, i < k → (∀ j, i < j → j < k → f j = none) → ((List.range k).filterMap f).getLast? = some v
  | 0, h, _ => by omega
  | k + 1, h, hn => by
    rw [List.range_succ, List.filterMap_append]
    rcases Nat.lt_or_ge i k with c | c
    · have : f k = none := hn k c (Nat.lt_succ_self k)
      simp only [List.filterMap_cons, List.filterMap_nil, this, List.append_nil]
      exact last_filt hi k c fun j a b => hn j a (by omega)
    · have : i = k := by omega
      subst this
      simp [hi]
theorem none_filt {α : Type} {f : Nat → Option α} : ∀ k, (∀ j, j < k → f j = none) → (List.range k).filterMap f = []
  | 0, _ => rfl
  | k + 1, h => by
    rw [List.range_succ, List.filterMap_append, none_filt k fun j a => h j (by omega)]
    simp [h k (Nat.lt_succ_self k)]
theorem two_pow_le_iff {n e : Nat} (hn : n ≠ 0) : 2 ^ e ≤ n ↔ e ≤ n.log2 := by
  rw [Nat.le_log2 hn]
theorem greatest_of {n e : Nat} (hn : 2 ≤ n) (he : 2 ≤ e) (h1 : 2 ^ e ≤ n) (h2 : (rootN n e) ^ e = n) (h3 : ∀ e', e < e' → 2 ^ e' ≤ n → (rootN n e') ^ e' ≠ n) : greatestN n = (rootN n e, e) := by
  have hl : e ≤ n.log2 := (two_pow_le_iff (by omega)).mp h1
  unfold greatestN waysN
  rw [if_neg (by omega), if_neg (by omega)]
  unfold waysTo
  have hf : wayAt n (e - 2 + 2) = some (rootN n e, e) := by
    rw [show e - 2 + 2 = e by omega]
    unfold wayAt
    rw [if_pos h2]
  rw [last_filt (f := fun i => wayAt n (i + 2)) (i := e - 2) hf (n.log2 - 1) (by omega) fun j a b => ?_]
  · rfl
  · show wayAt n (j + 2) = none
    unfold wayAt
    rw [if_neg (h3 _ (by omega) ((two_pow_le_iff (by omega)).mpr (by omega)))]
theorem greatest_none {n : Nat} (hn : 2 ≤ n) (h : ∀ e, 2 ≤ e → 2 ^ e ≤ n → (rootN n e) ^ e ≠ n) : greatestN n = (n, 1) := by
  unfold greatestN waysN
  rw [if_neg (by omega), if_neg (by omega)]
  unfold waysTo
  rw [none_filt]
  · rfl
  · intro j hj
    show wayAt n (j + 2) = none
    unfold wayAt
    rw [if_neg (h _ (by omega) ((two_pow_le_iff (by omega)).mpr (by omega)))]
def zz (p : Nat × Nat) : Int × Int := ((p.1 : Int), (p.2 : Int))
/-! ### a power factor by factor, stopped beyond the number -/
theorem more_end {n x e j : Nat} (hx : 1 ≤ x) (hj : j ≤ e) (h : j = e ∨ n < x ^ j) : (x ^ j ≤ n ↔ x ^ e ≤ n) := by
  rcases h with rfl | h
  · exact Iff.rfl
  · have : x ^ j ≤ x ^ e := Nat.pow_le_pow_right hx hj
    constructor <;> omega
end Pn
namespace Pn
/-! ### Newton's steps to a root, in whole numbers -/
theorem rearr (r x k : Nat) : r * x ^ k + x * r ^ k ≤ x * x ^ k + r * r ^ k := by
  rcases Nat.le_total r x with h | h
  · obtain ⟨d, rfl⟩ := Nat.exists_eq_add_of_le h
    obtain ⟨c, hc⟩ := Nat.exists_eq_add_of_le (Nat.pow_le_pow_left h k)
    rw [hc]
    generalize r ^ k = y
    have : 0 ≤ d * c := Nat.zero_le _
    grind
  · obtain ⟨d, rfl⟩ := Nat.exists_eq_add_of_le h
    obtain ⟨c, hc⟩ := Nat.exists_eq_add_of_le (Nat.pow_le_pow_left h k)
    rw [hc]
    generalize x ^ k = y
    have : 0 ≤ d * c := Nat.zero_le _
    grind
theorem amgm (r x : Nat) : ∀ m, (m + 1) * r * x ^ m ≤ m * x ^ (m + 1) + r ^ (m + 1)
  | 0 => by simp
  | m + 1 => by
    have ih := amgm r x m
    have h1 := rearr r x (m + 1)
    have h2 : x * ((m + 1) * r * x ^ m) ≤ x * (m * x ^ (m + 1) + r ^ (m + 1)) := Nat.mul_le_mul_left x ih
    have e1 : x ^ (m + 1) = x * x ^ m := by rw [Nat.pow_succ, Nat.mul_comm]
    have e2 : x ^ (m + 1 + 1) = x * (x * x ^ m) := by rw [Nat.pow_succ, e1, Nat.mul_comm]
    have e3 : r ^ (m + 1 + 1) = r * r ^ (m + 1) := by rw [Nat.pow_succ, Nat.mul_comm]
    rw [e1] at h1 h2
    rw [e1, e2, e3]
    generalize x ^ m = y at *
    generalize r ^ (m + 1) = z at *
    grind
theorem newton_ge {n e r x : Nat} (he : 1 ≤ e) (hx : 1 ≤ x) (hr : r ^ e ≤ n) : r ≤ ((e - 1) * x + n / x ^ (e - 1)) / e := by
  obtain ⟨m, rfl⟩ : ∃ m, e = m + 1 := ⟨e - 1, by omega⟩
  rw [Nat.add_sub_cancel]
  have hy : 0 < x ^ m := Nat.pow_pos (by omega)
  have h := amgm r x m
  rw [Nat.le_div_iff_mul_le (by omega)]
  have e1 : x ^ (m + 1) = x * x ^ m := by rw [Nat.pow_succ, Nat.mul_comm]
  rw [e1] at h
  rcases Nat.le_total (r * (m + 1)) (m * x) with c | c
  · exact Nat.le_trans c (Nat.le_add_right _ _)
  · obtain ⟨d, hd⟩ := Nat.exists_eq_add_of_le c
    have : d ≤ n / x ^ m := by
      rw [Nat.le_div_iff_mul_le hy]
      have e2 : (m + 1) * r * x ^ m = m * (x * x ^ m) + d * x ^ m := by
        rw [show (m + 1) * r = r * (m + 1) by rw [Nat.mul_comm], hd, Nat.add_mul, Nat.mul_assoc]
      omega
    omega
theorem newton_stop {n e x : Nat} (he : 1 ≤ e) (hx : 1 ≤ x) (h : x ≤ ((e - 1) * x + n / x ^ (e - 1)) / e) : x ^ e ≤ n := by
  obtain ⟨m, rfl⟩ : ∃ m, e = m + 1 := ⟨e - 1, by omega⟩
  rw [Nat.add_sub_cancel] at h
  have hy : 0 < x ^ m := Nat.pow_pos (by omega)
  rw [Nat.le_div_iff_mul_le (by omega)] at h
  have h2 : x ≤ n / x ^ m := by
    have : x * (m + 1) = m * x + x := by rw [Nat.mul_add, Nat.mul_one, Nat.mul_comm]
    omega
  rw [Nat.le_div_iff_mul_le hy] at h2
  rw [Nat.pow_succ, Nat.mul_comm]
  exact h2
theorem newton_start {n e : Nat} (he : 1 ≤ e) : rootN n e ≤ 2 ^ ((n.log2 + 1 + e - 1) / e) := by
  have h1 : n < 2 ^ (n.log2 + 1) := Nat.lt_log2_self
  have h2 : n.log2 + 1 ≤ (n.log2 + 1 + e - 1) / e * e := by
    have := Nat.lt_div_mul_add (a := n.log2 + 1 + e - 1) (b := e) (by omega)
    omega
  have h3 : (rootN n e) ^ e < (2 ^ ((n.log2 + 1 + e - 1) / e)) ^ e := by
    rw [← Nat.pow_mul]
    exact Nat.lt_of_le_of_lt (rootN_le he) (Nat.lt_of_lt_of_le h1 (Nat.pow_le_pow_right (by decide) h2))
  exact Nat.le_of_lt ((Nat.pow_lt_pow_iff_left (by omega : e ≠ 0)).mp h3)
theorem rootN_0 {e : Nat} (he : 1 ≤ e) : rootN 0 e = 0 := (rootN_is he (by rw [Nat.zero_pow (by omega)]; omega) (by simp)).symm
theorem rootN_1 {e : Nat} (he : 1 ≤ e) : rootN 1 e = 1 := (rootN_is he (by simp) (Nat.one_lt_two_pow (by omega))).symm
theorem rootN_pos {n e : Nat} (he : 1 ≤ e) (hn : 1 ≤ n) : 1 ≤ rootN n e := rootN_ge he (by simpa using hn)
end Pn
namespace Pn
/-! ### powers, the next one, the one before -/
def IsPow (m : Nat) : Prop := ∃ b e : Nat, 1 ≤ b ∧ 2 ≤ e ∧ m = b ^ e
def NextPow (n g : Nat) : Prop := IsPow g ∧ n < g ∧ ∀ m, IsPow m → n < m → g ≤ m
def PrevPow (n l : Nat) : Prop := IsPow l ∧ l ≤ n ∧ ∀ m, IsPow m → m ≤ n → m ≤ l
theorem NextPow.eq {n g g' : Nat} (h : NextPow n g) (h' : NextPow n g') : g = g' := Nat.le_antisymm (h.2.2 _ h'.1 h'.2.1) (h'.2.2 _ h.1 h.2.1)
theorem PrevPow.eq {n g g' : Nat} (h : PrevPow n g) (h' : PrevPow n g') : g = g' := Nat.le_antisymm (h'.2.2 _ h.1 h.2.1) (h.2.2 _ h'.1 h'.2.1)
theorem isPow_one : IsPow 1 := ⟨1, 2, by omega, by omega, rfl⟩
theorem IsPow.pos {m : Nat} (h : IsPow m) : 1 ≤ m := by
  obtain ⟨b, e, h1, h2, rfl⟩ := h
  exact Nat.pow_pos (by omega)
theorem IsPow.base {m : Nat} (h : IsPow m) (hm : 2 ≤ m) : ∃ b e : Nat, 2 ≤ b ∧ 2 ≤ e ∧ m = b ^ e := by
  obtain ⟨b, e, h1, h2, rfl⟩ := h
  rcases (by omega : b = 1 ∨ 2 ≤ b) with rfl | h
  · simp at hm
  · exact ⟨b, e, h, h2, rfl⟩
theorem IsPow.four {m : Nat} (h : IsPow m) (hm : 2 ≤ m) : 4 ≤ m := by
  obtain ⟨b, e, h1, h2, rfl⟩ := h.base hm
  calc 4 = 2 ^ 2 := rfl
    _ ≤ b ^ 2 := Nat.pow_le_pow_left h1 2
    _ ≤ b ^ e := Nat.pow_le_pow_right (by omega) h2
theorem isPow_root {n e : Nat} (he : 2 ≤ e) (hn : 1 ≤ n) : IsPow (rootN n e ^ e) := ⟨_, e, rootN_pos (by omega) hn, he, rfl⟩
theorem isPow_up {n e : Nat} (he : 2 ≤ e) : IsPow ((rootN n e + 1) ^ e) := ⟨_, e, by omega, he, rfl⟩
/-- g is the next power above n where it is one of these, or no more than a power of two, and none of these is less -/
theorem nextPow_of {n g T : Nat} (hn : 1 ≤ n) (hg : IsPow g) (hgn : n < g) (hgT : ∀ m, IsPow m → n < m → 2 ^ (T + 1) ≤ m → g ≤ m) (hm : ∀ e, 2 ≤ e → e ≤ T → g ≤ (rootN n e + 1) ^ e) : NextPow n g := by
  refine ⟨hg, hgn, fun m hp hm2 => ?_⟩
  obtain ⟨b, e, h1, h2, rfl⟩ := hp.base (by omega)
  rcases Nat.lt_or_ge T e with c | c
  · exact hgT _ hp hm2 (Nat.le_trans (Nat.pow_le_pow_right (by omega) c) (Nat.pow_le_pow_left h1 e))
  · refine Nat.le_trans (hm e h2 c) (Nat.pow_le_pow_left ?_ e)
    have h3 : (rootN n e) ^ e < b ^ e := Nat.lt_of_le_of_lt (rootN_le (by omega)) hm2
    exact (Nat.pow_lt_pow_iff_left (by omega : e ≠ 0)).mp h3
theorem prevPow_of {n l : Nat} (hn : 1 ≤ n) (hl : IsPow l) (hln : l ≤ n) (hm : ∀ e, 2 ≤ e → e ≤ n.log2 → rootN n e ^ e ≤ l) : PrevPow n l := by
  refine ⟨hl, hln, fun m hp hm2 => ?_⟩
  rcases (by have := hp.pos; omega : m = 1 ∨ 2 ≤ m) with rfl | h
  · exact hl.pos
  · obtain ⟨b, e, h1, h2, rfl⟩ := hp.base h
    have he : e ≤ n.log2 := (two_pow_le_iff (by omega)).mp (Nat.le_trans (Nat.pow_le_pow_left h1 e) hm2)
    exact Nat.le_trans (Nat.pow_le_pow_left (rootN_ge (by omega) hm2) e) (hm e h2 he)
theorem lt_two_pow_log (n : Nat) : n < 2 ^ (n.log2 + 1) := Nat.lt_log2_self
theorem rootN_big {n e : Nat} (hn : 1 ≤ n) (h : n.log2 < e) : rootN n e = 1 := (rootN_is (by omega) (by simpa using hn) (Nat.lt_of_lt_of_le (lt_two_pow_log n) (Nat.pow_le_pow_right (by decide) h))).symm
theorem isPow_iff {n : Nat} : IsPow n ↔ n = 1 ∨ ∃ e, 2 ≤ e ∧ 2 ^ e ≤ n ∧ rootN n e ^ e = n := by
  constructor
  · intro h
    rcases (by have := h.pos; omega : n = 1 ∨ 2 ≤ n) with rfl | h2
    · exact .inl rfl
    · obtain ⟨b, e, h3, h4, rfl⟩ := h.base h2
      exact .inr ⟨e, h4, Nat.pow_le_pow_left h3 e, by rw [rootN_pow (by omega)]⟩
  · rintro (rfl | ⟨e, h1, h2, h3⟩)
    · exact isPow_one
    · exact ⟨rootN n e, e, by have := (rootN_gt1 (n := n) (e := e) (by omega)).mpr h2; omega, h1, h3.symm⟩
def Beside (n : Nat) (l : Option Nat) (g : Nat) : Prop := (n = 0 → g = 1) ∧ (1 ≤ n → NextPow n g) ∧ (n ≤ 1 → l = none) ∧ (2 ≤ n → ∃ x, l = some x ∧ PrevPow (n - 1) x)
theorem Beside.eq {n : Nat} {l l' : Option Nat} {g g' : Nat} (h : Beside n l g) (h' : Beside n l' g') : l = l' ∧ g = g' := by
  obtain ⟨a1, a2, a3, a4⟩ := h
  obtain ⟨b1, b2, b3, b4⟩ := h'
  constructor
  · rcases Nat.lt_or_ge n 2 with c | c
    · rw [a3 (by omega), b3 (by omega)]
    · obtain ⟨x, rfl, hx⟩ := a4 c
      obtain ⟨y, rfl, hy⟩ := b4 c
      rw [hx.eq hy]
  · rcases Nat.eq_zero_or_pos n with c | c
    · rw [a1 c, b1 c]
    · exact (a2 c).eq (b2 c)
def Nearest (n r : Nat) : Prop := (n = 0 → r = 1) ∧ (1 ≤ n → ∃ l g, PrevPow n l ∧ NextPow n g ∧ r = if n - l ≤ g - n then l else g)
theorem Nearest.eq {n r r' : Nat} (h : Nearest n r) (h' : Nearest n r') : r = r' := by
  rcases Nat.eq_zero_or_pos n with c | c
  · rw [h.1 c, h'.1 c]
  · obtain ⟨l, g, h1, h2, h3⟩ := h.2 c
    obtain ⟨l', g', h1', h2', h3'⟩ := h'.2 c
    rw [h3, h3', h1.eq h1', h2.eq h2']
theorem near_pow {n r : Nat} (hp : IsPow n) (h : Nearest n r) : r = n := by
  obtain ⟨l, g, h1, h2, h3⟩ := h.2 hp.pos
  have e : l = n := h1.eq ⟨hp, Nat.le_refl _, fun m _ hm => hm⟩
  subst e
  rw [h3, if_pos (by omega)]
theorem small_pow {m : Nat} (hp : IsPow m) (hm : m < 8) : m = 1 ∨ m = 4 := by
  rcases (by have := hp.pos; omega : m = 1 ∨ 2 ≤ m) with h | h
  · exact .inl h
  · right
    obtain ⟨b, e, h1, h2, rfl⟩ := hp.base h
    rcases (by omega : b = 2 ∨ 3 ≤ b) with rfl | hb
    · rcases (by omega : e = 2 ∨ 3 ≤ e) with rfl | he
      · rfl
      · have : 2 ^ 3 ≤ 2 ^ e := Nat.pow_le_pow_right (by decide) he
        omega
    · have h3 : 3 ^ 2 ≤ b ^ 2 := Nat.pow_le_pow_left hb 2
      have h4 : b ^ 2 ≤ b ^ e := Nat.pow_le_pow_right (by omega) h2
      omega
theorem isPow_four : IsPow 4 := ⟨2, 2, by omega, by omega, rfl⟩
theorem isPow_eight : IsPow 8 := ⟨2, 3, by omega, by omega, rfl⟩
theorem next_one : NextPow 1 4 := ⟨isPow_four, by omega, fun m hp h => hp.four h⟩
theorem next_two : NextPow 2 4 := ⟨isPow_four, by omega, fun m hp h => hp.four (by omega)⟩
theorem prev_two : PrevPow 2 1 := ⟨isPow_one, by omega, fun m hp h => by
  rcases small_pow hp (by omega) with h | h <;> omega⟩
theorem prev_six : PrevPow 6 4 := ⟨isPow_four, by omega, fun m hp h => by
  rcases small_pow hp (by omega) with h | h <;> omega⟩
theorem next_six : NextPow 6 8 := ⟨isPow_eight, by omega, fun m hp h => by
  rcases Nat.lt_or_ge m 8 with c | c
  · rcases small_pow hp c with h | h <;> omega
  · exact c⟩
end Pn
namespace Pn
/-! ### all powers to a number, in order -/
open Classical in
noncomputable def powAt (i : Nat) : Option Nat := if IsPow (1 + i) then some (1 + i) else none
noncomputable def powL (k : Nat) : List Nat := (List.range k).filterMap powAt
theorem mem_powL {k m : Nat} : m ∈ powL k ↔ 1 ≤ m ∧ m ≤ k ∧ IsPow m := by
  unfold powL powAt
  simp only [List.mem_filterMap, List.mem_range]
  constructor
  · rintro ⟨i, hi, h⟩
    split at h
    · rename_i hp
      cases h
      exact ⟨by omega, by omega, hp⟩
    · cases h
  · rintro ⟨h1, h2, h3⟩
    refine ⟨m - 1, by omega, ?_⟩
    have e : 1 + (m - 1) = m := by omega
    rw [e, if_pos h3]
theorem powL_sorted (k : Nat) : (powL k).Pairwise (· < ·) := by
  unfold powL
  rw [List.pairwise_filterMap]
  refine List.Pairwise.imp (R := fun a b => a < b) ?_ List.pairwise_lt_range
  intro a b hab x hx y hy
  unfold powAt at hx hy
  split at hx
  · split at hy
    · cases hx
      cases hy
      omega
    · cases hy
  · cases hx
theorem last_ge : ∀ {l : List Nat} {z : Nat}, l.Pairwise (· < ·) → l.getLast? = some z → ∀ y ∈ l, y ≤ z
  | [], _, _, h, _, _ => by simp at h
  | [x], z, _, h, y, hy => by
    simp at h hy
    omega
  | x :: x' :: r, z, hp, h, y, hy => by
    rw [List.getLast?_cons_cons] at h
    rw [List.pairwise_cons] at hp
    have ih := last_ge hp.2 h
    rcases List.mem_cons.mp hy with rfl | hy
    · have := hp.1 x' List.mem_cons_self
      have := ih x' List.mem_cons_self
      omega
    · exact ih y hy
theorem bs_list {n k g : Nat} {r : List Nat} (hn : n < 500) (hk : n + 60 ≤ k) (hm : (powL k).filter (fun m => decide (n < m)) = g :: r) : Beside n ((powL k).filter fun m => decide (m < n)).getLast? g := by
  have hs : ((powL k).filter fun m => decide (n < m)).Pairwise (· < ·) := (powL_sorted k).filter _
  rw [hm, List.pairwise_cons] at hs
  have hg : g ∈ (powL k).filter (fun m => decide (n < m)) := by rw [hm]; exact List.mem_cons_self
  rw [List.mem_filter, mem_powL, decide_eq_true_eq] at hg
  obtain ⟨⟨g1, g2, g3⟩, g4⟩ := hg
  have hmin : ∀ m, IsPow m → n < m → g ≤ m := by
    intro m hp hnm
    rcases Nat.lt_or_ge k m with c | c
    · omega
    · have : m ∈ (powL k).filter (fun m => decide (n < m)) := by
        rw [List.mem_filter, mem_powL, decide_eq_true_eq]
        exact ⟨⟨hp.pos, c, hp⟩, hnm⟩
      rw [hm] at this
      rcases List.mem_cons.mp this with rfl | h
      · exact Nat.le_refl _
      · exact Nat.le_of_lt (hs.1 m h)
  refine ⟨fun h0 => ?_, fun _ => ⟨g3, g4, hmin⟩, fun h1 => ?_, fun h2 => ?_⟩
  · have := hmin 1 isPow_one (by omega)
    omega
  · have : (powL k).filter (fun m => decide (m < n)) = [] := by
      rw [List.filter_eq_nil_iff]
      intro m hm
      rw [mem_powL] at hm
      simp
      omega
    rw [this]
    rfl
  · have h1 : 1 ∈ (powL k).filter (fun m => decide (m < n)) := by
      rw [List.mem_filter, mem_powL, decide_eq_true_eq]
      exact ⟨⟨by omega, by omega, isPow_one⟩, by omega⟩
    have hne : (powL k).filter (fun m => decide (m < n)) ≠ [] := fun e => by
      rw [e] at h1
      cases h1
    have hl := List.getLast?_eq_some_getLast hne
    refine ⟨_, hl, ?_⟩
    have hmem := List.getLast_mem hne
    have hge := last_ge ((powL_sorted k).filter _) hl
    rw [List.mem_filter, mem_powL, decide_eq_true_eq] at hmem
    obtain ⟨⟨a1, a2, a3⟩, a4⟩ := hmem
    refine ⟨a3, by omega, fun m hp hm => hge m ?_⟩
    rw [List.mem_filter, mem_powL, decide_eq_true_eq]
    exact ⟨⟨hp.pos, by omega, hp⟩, by omega⟩
theorem more_ex {n k : Nat} (hn : n < 500) (hk : n + 60 ≤ k) : ∃ g r, (powL k).filter (fun m => decide (n < m)) = g :: r := by
  have h1 := rootN_le (n := n) (e := 2) (by omega)
  have h2 := rootN_lt (n := n) (e := 2) (by omega)
  have h3 : rootN n 2 ≤ 22 := by
    refine Nat.le_of_not_lt fun c => ?_
    have : 23 ^ 2 ≤ rootN n 2 ^ 2 := Nat.pow_le_pow_left c 2
    omega
  have hp : IsPow ((rootN n 2 + 1) ^ 2) := isPow_up (by omega)
  have h4 : (rootN n 2 + 1) ^ 2 = rootN n 2 ^ 2 + 2 * rootN n 2 + 1 := by grind
  have : (rootN n 2 + 1) ^ 2 ∈ (powL k).filter (fun m => decide (n < m)) := by
    rw [List.mem_filter, mem_powL, decide_eq_true_eq]
    exact ⟨⟨hp.pos, by omega, hp⟩, h2⟩
  cases e : (powL k).filter (fun m => decide (n < m)) with
  | nil =>
    rw [e] at this
    cases this
  | cons g r => exact ⟨g, r, rfl⟩
end Pn
namespace Pn
/-! ### the first greatest gap in a row -/
/-- a pair beside the best one so far -/
def gapStep (o : Option (Nat × Nat × Nat)) (x y : Nat) : Option (Nat × Nat × Nat) := match o with
  | none => some (y - x, x, y)
  | some t => if y - x > t.1 then some (y - x, x, y) else some t
/-- the best of the first i pairs of neighbours -/
def gapTo (l : List Nat) : Nat → Option (Nat × Nat × Nat)
  | 0 => none
  | i + 1 => match l[i]?, l[i + 1]? with
    | some x, some y => gapStep (gapTo l i) x y
    | _, _ => gapTo l i
theorem gapTo_succ {l : List Nat} {i x y : Nat} (h1 : l[i]? = some x) (h2 : l[i + 1]? = some y) : gapTo l (i + 1) = gapStep (gapTo l i) x y := by
  rw [gapTo, h1, h2]
end Pn
namespace Pn
/-! ### prime factors by trial division -/
def pfT (d n : Nat) : List Nat :=
  if h : n ≤ 1 ∨ d < 2 then [] else if h2 : n < d * d then [n] else if h3 : n % d = 0 then d :: pfT d (n / d) else pfT (d + 1) n
termination_by 2 * n - d
decreasing_by
  · have h4 : d ≤ n := Nat.le_trans (Nat.le_mul_of_pos_left d (by omega)) (by omega : d * d ≤ n)
    have h5 : n / d < n := Nat.div_lt_self (by omega) (by omega)
    omega
  · have h4 : d ≤ n := Nat.le_trans (Nat.le_mul_of_pos_left d (by omega)) (by omega : d * d ≤ n)
    omega
def pf (n : Nat) : List Nat := pfT 2 n
/-- no divisor below d -/
def Low (d n : Nat) : Prop := ∀ k, 2 ≤ k → k < d → ¬ k ∣ n
theorem low_2 (n : Nat) : Low 2 n := fun k h1 h2 => by omega
theorem low_div {d n : Nat} (h : Low d n) (hd : d ∣ n) : Low d (n / d) := fun k h1 h2 h3 => h k h1 h2 (Nat.dvd_trans h3 (Nat.div_dvd_of_dvd hd))
theorem low_up {d n : Nat} (h : Low d n) (hd : ¬ d ∣ n) : Low (d + 1) n := fun k h1 h2 h3 => by
  rcases (by omega : k < d ∨ k = d) with c | c
  · exact h k h1 c h3
  · exact hd (c ▸ h3)
theorem pfT_one {d n : Nat} (h : n ≤ 1) : pfT d n = [] := by
  rw [pfT, dif_pos (.inl h)]
theorem pfT_big {d n : Nat} (hd : 2 ≤ d) (hn : 1 < n) (h : n < d * d) : pfT d n = [n] := by
  rw [pfT, dif_neg (by omega), dif_pos h]
/-- a number without a divisor below d that is less than d * d has none below itself -/
theorem low_self {d n : Nat} (h : Low d n) (hn : n < d * d) : Low n n := fun k h1 h2 h3 => by
  obtain ⟨j, rfl⟩ := h3
  have hj : 2 ≤ j := by
    rcases (by omega : j = 0 ∨ j = 1 ∨ 2 ≤ j) with c | c | c
    · subst c
      omega
    · subst c
      omega
    · exact c
  rcases Nat.lt_or_ge k d with c | c
  · exact h k h1 c ⟨j, rfl⟩
  · rcases Nat.lt_or_ge j d with c2 | c2
    · exact h j hj c2 ⟨k, Nat.mul_comm k j⟩
    · exact absurd (Nat.mul_le_mul c c2) (by omega)
theorem pfT_dvd {d n : Nat} (hd : 2 ≤ d) (hn : 1 ≤ n) (hl : Low d n) (h : d ∣ n) : pfT d n = d :: pfT d (n / d) := by
  have hn2 : 2 ≤ n := Nat.le_trans hd (Nat.le_of_dvd hn h)
  rcases Nat.lt_or_ge n (d * d) with c | c
  · have e : n = d := by
      have h1 := low_self hl c
      rcases (by have := Nat.le_of_dvd hn h; omega : d < n ∨ n = d) with c2 | c2
      · exact absurd h (h1 d hd c2)
      · exact c2
    subst e
    rw [pfT_big hd (by omega) c, Nat.div_self (by omega), pfT_one (Nat.le_refl 1)]
  · rw [pfT, dif_neg (by omega), dif_neg (by omega), dif_pos (Nat.mod_eq_zero_of_dvd h)]
theorem pfT_up {d n : Nat} (hd : 2 ≤ d) (h : ¬ d ∣ n) : pfT d n = pfT (d + 1) n := by
  rcases Nat.lt_or_ge 1 n with hn | hn
  · rcases Nat.lt_or_ge n (d * d) with c | c
    · have h2 : n < (d + 1) * (d + 1) := Nat.lt_of_lt_of_le c (Nat.mul_le_mul (by omega) (by omega))
      rw [pfT_big hd hn c, pfT_big (by omega) hn h2]
    · rw [pfT, dif_neg (by omega), dif_neg (by omega), dif_neg fun z => h (Nat.dvd_of_mod_eq_zero z)]
  · rw [pfT_one hn, pfT_one hn]
/-- all are from d to n -/
theorem pfT_mem : ∀ (z d n : Nat), 2 * n - d ≤ z → 2 ≤ d → ∀ p ∈ pfT d n, 2 ≤ p ∧ p ≤ n := by
  intro z
  induction z with
  | zero =>
    intro d n hz hd p hp
    rcases Nat.lt_or_ge 1 n with hn | hn
    · have c : n < d * d := Nat.lt_of_lt_of_le (by omega : n < 2 * d) (Nat.mul_le_mul_right d hd)
      rw [pfT_big hd hn c] at hp
      simp at hp
      omega
    · rw [pfT_one hn] at hp
      cases hp
  | succ z ih =>
    intro d n hz hd p hp
    rcases Nat.lt_or_ge 1 n with hn | hn
    · rcases Nat.lt_or_ge n (d * d) with c | c
      · rw [pfT_big hd hn c] at hp
        simp at hp
        omega
      · have h4 : d ≤ n := Nat.le_trans (Nat.le_mul_of_pos_left d (by omega)) c
        rw [pfT, dif_neg (by omega), dif_neg (by omega)] at hp
        split at hp
        · have h5 : n / d < n := Nat.div_lt_self (by omega) (by omega)
          rcases List.mem_cons.mp hp with rfl | hp
          · exact ⟨hd, h4⟩
          · have := ih d (n / d) (by omega) hd p hp
            omega
        · exact ih (d + 1) n (by omega) (by omega) p hp
    · rw [pfT_one hn] at hp
      cases hp
theorem pf_mem {n p : Nat} (h : p ∈ pf n) : 2 ≤ p ∧ p ≤ n := pfT_mem _ 2 n (Nat.le_refl _) (Nat.le_refl _) p h
/-! ### the product of a list -/
def prodL (l : List Nat) : Nat := l.foldr (· * ·) 1
theorem prodL_nil : prodL [] = 1 := rfl
theorem prodL_cons (a : Nat) (l : List Nat) : prodL (a :: l) = a * prodL l := rfl
theorem prodL_append (a b : List Nat) : prodL (a ++ b) = prodL a * prodL b := by
  induction a with
  | nil => simp [prodL_nil]
  | cons x a ih => rw [List.cons_append, prodL_cons, prodL_cons, ih, Nat.mul_assoc]
theorem prodL_perm {a b : List Nat} (h : a.Perm b) : prodL a = prodL b := by
  induction h with
  | nil => rfl
  | cons x _ ih => rw [prodL_cons, prodL_cons, ih]
  | swap x y l => rw [prodL_cons, prodL_cons, prodL_cons, prodL_cons, Nat.mul_left_comm]
  | trans _ _ ih1 ih2 => exact ih1.trans ih2
theorem prodL_pos {l : List Nat} (h : ∀ x ∈ l, 1 ≤ x) : 1 ≤ prodL l := by
  induction l with
  | nil => exact Nat.le_refl _
  | cons a l ih => exact Nat.mul_pos (h a List.mem_cons_self) (ih fun x hx => h x (List.mem_cons_of_mem _ hx))
theorem prodL_one {l : List Nat} (h : ∀ x ∈ l, x = 1) : prodL l = 1 := by
  induction l with
  | nil => rfl
  | cons a l ih => rw [prodL_cons, h a List.mem_cons_self, ih fun x hx => h x (List.mem_cons_of_mem _ hx)]
theorem prodL_le {l : List Nat} (f g : Nat → Nat) (h : ∀ x ∈ l, f x ≤ g x) : prodL (l.map f) ≤ prodL (l.map g) := by
  induction l with
  | nil => exact Nat.le_refl _
  | cons a l ih =>
    rw [List.map_cons, List.map_cons, prodL_cons, prodL_cons]
    exact Nat.mul_le_mul (h a List.mem_cons_self) (ih fun x hx => h x (List.mem_cons_of_mem _ hx))
theorem prodL_pow (l : List Nat) (e : Nat) : prodL (l.map (· ^ e)) = prodL l ^ e := by
  induction l with
  | nil => simp [prodL_nil]
  | cons a l ih => rw [List.map_cons, prodL_cons, prodL_cons, ih, Nat.mul_pow]
theorem pfT_prod : ∀ (z d n : Nat), 2 * n - d ≤ z → 2 ≤ d → 1 ≤ n → prodL (pfT d n) = n := by
  intro z
  induction z with
  | zero =>
    intro d n hz hd h1
    rcases Nat.lt_or_ge 1 n with hn | hn
    · have c : n < d * d := Nat.lt_of_lt_of_le (by omega : n < 2 * d) (Nat.mul_le_mul_right d hd)
      rw [pfT_big hd hn c, prodL_cons, prodL_nil, Nat.mul_one]
    · rw [pfT_one hn, prodL_nil]
      omega
  | succ z ih =>
    intro d n hz hd h1
    rcases Nat.lt_or_ge 1 n with hn | hn
    · rcases Nat.lt_or_ge n (d * d) with c | c
      · rw [pfT_big hd hn c, prodL_cons, prodL_nil, Nat.mul_one]
      · have h4 : d ≤ n := Nat.le_trans (Nat.le_mul_of_pos_left d (by omega)) c
        rw [pfT, dif_neg (by omega), dif_neg (by omega)]
        split
        · rename_i h3
          have h5 : n / d < n := Nat.div_lt_self (by omega) (by omega)
          have h6 : 1 ≤ n / d := Nat.div_pos h4 (by omega)
          rw [prodL_cons, ih d (n / d) (by omega) hd h6]
          exact Nat.mul_div_cancel' (Nat.dvd_of_mod_eq_zero h3)
        · exact ih (d + 1) n (by omega) (by omega) h1
    · rw [pfT_one hn, prodL_nil]
      omega
theorem pf_prod {n : Nat} (h : 1 ≤ n) : prodL (pf n) = n := pfT_prod _ 2 n (Nat.le_refl _) (Nat.le_refl _) h
/-! ### all primes of many numbers -/
def pfs (L : List Nat) : List Nat := L.flatMap pf
theorem pfs_nil : pfs [] = [] := rfl
theorem pfs_append (a b : List Nat) : pfs (a ++ b) = pfs a ++ pfs b := List.flatMap_append
theorem pfs_one (n : Nat) : pfs [n] = pf n := by simp [pfs]
theorem pfs_perm {a b : List Nat} (h : a.Perm b) : (pfs a).Perm (pfs b) := h.flatMap_right pf
theorem pfs_mem {L : List Nat} {N p : Nat} (hL : ∀ x ∈ L, x ≤ N) (h : p ∈ pfs L) : 2 ≤ p ∧ p ≤ N := by
  unfold pfs at h
  obtain ⟨x, hx, hp⟩ := List.mem_flatMap.mp h
  have := pf_mem hp
  have := hL x hx
  omega
theorem pfs_prod {L : List Nat} (h : ∀ x ∈ L, 1 ≤ x) : prodL (pfs L) = prodL L := by
  induction L with
  | nil => rfl
  | cons a L ih =>
    have e : pfs (a :: L) = pf a ++ pfs L := rfl
    rw [e, prodL_append, prodL_cons, pf_prod (h a List.mem_cons_self), ih fun x hx => h x (List.mem_cons_of_mem _ hx)]
/-! ### the greatest exponent, and what lacks -/
/-- what divides all counts divides it; 2 where there are none -/
def IsExp (l : List Nat) (e : Nat) : Prop := (l = [] → e = 2) ∧ (l ≠ [] → 1 ≤ e ∧ ∀ d, d ∣ e ↔ ∀ p ∈ l, d ∣ l.count p)
theorem isExp_unique {l : List Nat} {e e' : Nat} (h : IsExp l e) (h' : IsExp l e') : e = e' := by
  by_cases c : l = []
  · rw [h.1 c, h'.1 c]
  · have a := (h.2 c).2
    have b := (h'.2 c).2
    exact Nat.dvd_antisymm ((b e).mpr ((a e).mp (Nat.dvd_refl e))) ((a e').mpr ((b e').mp (Nat.dvd_refl e')))
theorem isExp_perm {l l' : List Nat} {e : Nat} (p : l.Perm l') (h : IsExp l e) : IsExp l' e := by
  refine ⟨fun c => h.1 ?_, fun c => ?_⟩
  · subst c
    exact p.eq_nil
  · have c' : l ≠ [] := fun z => c (by subst z; exact p.symm.eq_nil)
    obtain ⟨h1, h2⟩ := h.2 c'
    refine ⟨h1, fun d => (h2 d).trans ?_⟩
    constructor
    · intro h3 q hq
      rw [← p.count_eq q]
      exact h3 q (p.mem_iff.mpr hq)
    · intro h3 q hq
      rw [p.count_eq q]
      exact h3 q (p.mem_iff.mp hq)
/-- what lacks of a prime that stands so often -/
def lackE (m e : Nat) : Nat := (e - m % e) % e
def lackK (ks l : List Nat) (e : Nat) : Nat := prodL (ks.map fun p => p ^ lackE (l.count p) e)
theorem lackE_0 (e : Nat) : lackE 0 e = 0 := by simp [lackE]
/-- over more keys it is no other -/
theorem prod_keys (f : Nat → Nat) {ks ks' : List Nat} (h1 : ks.Nodup) (h2 : ks'.Nodup) (h3 : ∀ p ∈ ks, p ∉ ks' → f p = 1) (h4 : ∀ p ∈ ks', p ∉ ks → f p = 1) : prodL (ks.map f) = prodL (ks'.map f) := by
  have cut : ∀ l : List Nat, prodL (l.map f) = prodL ((l.filter fun p => decide (f p ≠ 1)).map f) := by
    intro l
    induction l with
    | nil => rfl
    | cons a l ih =>
      rw [List.map_cons, prodL_cons, List.filter_cons]
      by_cases c : f a = 1
      · rw [if_neg (by simp [c]), c, Nat.one_mul, ih]
      · rw [if_pos (by simp [c]), List.map_cons, prodL_cons, ih]
  rw [cut ks, cut ks']
  refine prodL_perm (List.Perm.map f ?_)
  rw [List.perm_ext_iff_of_nodup (h1.filter _) (h2.filter _)]
  intro p
  rw [List.mem_filter, List.mem_filter]
  simp only [decide_eq_true_eq]
  constructor
  · rintro ⟨a, b⟩
    exact ⟨Classical.byContradiction fun c => b (h3 p a c), b⟩
  · rintro ⟨a, b⟩
    exact ⟨Classical.byContradiction fun c => b (h4 p a c), b⟩
/-- what lacks of all -/
def IsLack (l : List Nat) (e r : Nat) : Prop := ∀ ks : List Nat, ks.Nodup → (∀ p ∈ l, p ∈ ks) → r = lackK ks l e
theorem lack_keys {l ks : List Nat} {e : Nat} (h1 : ks.Nodup) (h2 : ∀ p ∈ l, p ∈ ks) : IsLack l e (lackK ks l e) := by
  intro ks' h3 h4
  refine prod_keys _ h1 h3 (fun p _ h => ?_) fun p _ h => ?_
  · rw [List.count_eq_zero_of_not_mem fun z => h (h4 p z), lackE_0, Nat.pow_zero]
  · rw [List.count_eq_zero_of_not_mem fun z => h (h2 p z), lackE_0, Nat.pow_zero]
theorem nodup_of (l : List Nat) : ∃ ks : List Nat, ks.Nodup ∧ ∀ p, p ∈ ks ↔ p ∈ l := by
  induction l with
  | nil => exact ⟨[], List.nodup_nil, fun p => Iff.rfl⟩
  | cons a l ih =>
    obtain ⟨ks, h1, h2⟩ := ih
    by_cases c : a ∈ ks
    · refine ⟨ks, h1, fun p => ?_⟩
      rw [h2, List.mem_cons]
      exact ⟨.inr, fun z => z.elim (fun e => by rw [e]; exact (h2 a).mp c) id⟩
    · refine ⟨a :: ks, List.nodup_cons.mpr ⟨c, h1⟩, fun p => ?_⟩
      rw [List.mem_cons, List.mem_cons, h2]
theorem isLack_unique {l : List Nat} {e r r' : Nat} (h : IsLack l e r) (h' : IsLack l e r') : r = r' := by
  obtain ⟨ks, h1, h2⟩ := nodup_of l
  rw [h ks h1 fun p hp => (h2 p).mpr hp, h' ks h1 fun p hp => (h2 p).mpr hp]
theorem isLack_perm {l l' : List Nat} {e r : Nat} (p : l.Perm l') (h : IsLack l e r) : IsLack l' e r := by
  intro ks h1 h2
  rw [h ks h1 fun q hq => h2 q (p.mem_iff.mp hq)]
  unfold lackK
  congr 1
  exact List.map_congr_left fun q _ => by rw [p.count_eq q]
/-- a part of the primes, each once, has no greater product -/
theorem prod_sub {ks l : List Nat} (h1 : ks.Nodup) (h2 : ∀ p ∈ ks, p ∈ l) (h3 : ∀ p ∈ l, 1 ≤ p) : prodL ks ≤ prodL l := by
  induction ks generalizing l with
  | nil => exact prodL_pos h3
  | cons a ks ih =>
    have ha : a ∈ l := h2 a List.mem_cons_self
    rw [List.nodup_cons] at h1
    have hp := List.perm_cons_erase ha
    rw [prodL_perm hp, prodL_cons, prodL_cons]
    refine Nat.mul_le_mul_left a (ih h1.2 (fun p hp2 => ?_) fun p hp2 => h3 p (List.mem_of_mem_erase hp2))
    exact (List.mem_erase_of_ne fun e : p = a => h1.1 (e ▸ hp2)).mpr (h2 p (List.mem_cons_of_mem _ hp2))
/-- partial products are small: at most N to the e -/
theorem lack_le {ks l : List Nat} {e : Nat} (he : 1 ≤ e) (h1 : ks.Nodup) (h3 : ∀ p ∈ l, 1 ≤ p) (h4 : ∀ p ∈ ks, 1 ≤ p) : lackK ks l e ≤ prodL l ^ e := by
  have e1 : lackK ks l e = lackK (ks.filter fun p => decide (p ∈ l)) l e := by
    refine prod_keys _ h1 (h1.filter _) (fun p hp h => ?_) fun p hp h => absurd (List.mem_filter.mp hp).1 h
    rw [List.mem_filter] at h
    have : p ∉ l := fun z => h ⟨hp, by simp [z]⟩
    rw [List.count_eq_zero_of_not_mem this, lackE_0, Nat.pow_zero]
  rw [e1]
  unfold lackK
  refine Nat.le_trans (prodL_le _ (fun p => p ^ e) fun p hp => Nat.pow_le_pow_right (h4 p (List.mem_filter.mp hp).1) (Nat.le_of_lt (Nat.mod_lt _ (by omega)))) ?_
  rw [prodL_pow]
  refine Nat.pow_le_pow_left (prod_sub (h1.filter _) (fun p hp => ?_) h3) e
  simpa using (List.mem_filter.mp hp).2
theorem lackK_snoc (ks : List Nat) (p : Nat) (l : List Nat) (e : Nat) : lackK (ks ++ [p]) l e = lackK ks l e * p ^ lackE (l.count p) e := by
  unfold lackK
  rw [List.map_append, prodL_append]
  simp [prodL]
end Pn
namespace Pn
/-! ### one factorization alone -/
def Pr (p : Nat) : Prop := 2 ≤ p ∧ Low p p
theorem pr_dvd {p k : Nat} (h : Pr p) (hk : k ∣ p) : k = 1 ∨ k = p := by
  have h1 : k ≤ p := Nat.le_of_dvd (by have := h.1; omega) hk
  rcases (by omega : k = 0 ∨ k = 1 ∨ (2 ≤ k ∧ k < p) ∨ k = p) with c | c | c | c
  · subst c
    have := Nat.eq_zero_of_zero_dvd hk
    have := h.1
    omega
  · exact .inl c
  · exact absurd hk (h.2 k c.1 c.2)
  · exact .inr c
theorem pr_mul {p a b : Nat} (h : Pr p) (hd : p ∣ a * b) : p ∣ a ∨ p ∣ b := by
  rcases pr_dvd h (Nat.gcd_dvd_left p a) with c | c
  · exact .inr (Nat.Coprime.dvd_of_dvd_mul_left c hd)
  · exact .inl (c ▸ Nat.gcd_dvd_right p a)
theorem pr_list {p : Nat} (h : Pr p) : ∀ {l : List Nat}, (∀ q ∈ l, Pr q) → p ∣ prodL l → p ∈ l
  | [], _, hd => by
    have := Nat.le_of_dvd (by decide) hd
    have := h.1
    simp [prodL] at *
    omega
  | a :: l, hl, hd => by
    rw [prodL_cons] at hd
    rcases pr_mul h hd with c | c
    · rcases pr_dvd (hl a List.mem_cons_self) c with e | e
      · have := h.1
        omega
      · exact e ▸ List.mem_cons_self
    · exact List.mem_cons_of_mem _ (pr_list h (fun q hq => hl q (List.mem_cons_of_mem _ hq)) c)
theorem pr_unique : ∀ {l l' : List Nat}, (∀ q ∈ l, Pr q) → (∀ q ∈ l', Pr q) → prodL l = prodL l' → l.Perm l'
  | [], l', _, h', e => by
    cases l' with
    | nil => exact List.Perm.refl _
    | cons a l' =>
      exfalso
      have h1 := (h' a List.mem_cons_self).1
      have h2 := prodL_pos (l := l') fun x hx => by have := (h' x (List.mem_cons_of_mem _ hx)).1; omega
      rw [prodL_cons] at e
      have h3 : prodL [] = 1 := rfl
      have h4 : 2 * 1 ≤ a * prodL l' := Nat.mul_le_mul h1 h2
      omega
  | a :: l, l', h, h', e => by
    have ha := h a List.mem_cons_self
    have hm : a ∈ l' := pr_list ha h' (by rw [← e, prodL_cons]; exact Nat.dvd_mul_right a _)
    have hp := List.perm_cons_erase hm
    have e2 : prodL l = prodL (l'.erase a) := by
      have h1 := prodL_perm hp
      rw [← e, prodL_cons, prodL_cons] at h1
      exact Nat.eq_of_mul_eq_mul_left (by have := ha.1; omega) h1
    exact ((pr_unique (fun q hq => h q (List.mem_cons_of_mem _ hq)) (fun q hq => h' q (List.mem_of_mem_erase hq)) e2).cons a).trans hp.symm
theorem pfT_pr : ∀ (z d n : Nat), 2 * n - d ≤ z → 2 ≤ d → Low d n → ∀ p ∈ pfT d n, Pr p := by
  intro z
  induction z with
  | zero =>
    intro d n hz hd hl p hp
    rcases Nat.lt_or_ge 1 n with hn | hn
    · have c : n < d * d := Nat.lt_of_lt_of_le (by omega : n < 2 * d) (Nat.mul_le_mul_right d hd)
      rw [pfT_big hd hn c] at hp
      simp at hp
      subst hp
      exact ⟨hn, low_self hl c⟩
    · rw [pfT_one hn] at hp
      cases hp
  | succ z ih =>
    intro d n hz hd hl p hp
    rcases Nat.lt_or_ge 1 n with hn | hn
    · rcases Nat.lt_or_ge n (d * d) with c | c
      · rw [pfT_big hd hn c] at hp
        simp at hp
        subst hp
        exact ⟨hn, low_self hl c⟩
      · have h4 : d ≤ n := Nat.le_trans (Nat.le_mul_of_pos_left d (by omega)) c
        by_cases h3 : d ∣ n
        · rw [pfT_dvd hd (by omega) hl h3] at hp
          have h5 : n / d < n := Nat.div_lt_self (by omega) (by omega)
          rcases List.mem_cons.mp hp with rfl | hp
          · exact ⟨hd, fun k h1 h2 h6 => hl k h1 h2 (Nat.dvd_trans h6 h3)⟩
          · exact ih d (n / d) (by omega) hd (low_div hl h3) p hp
        · rw [pfT_up hd h3] at hp
          exact ih (d + 1) n (by omega) (by omega) (low_up hl h3) p hp
    · rw [pfT_one hn] at hp
      cases hp
theorem pf_pr {n p : Nat} (h : p ∈ pf n) : Pr p := pfT_pr _ 2 n (Nat.le_refl _) (Nat.le_refl _) (low_2 n) p h
theorem pfs_pr {L : List Nat} {p : Nat} (h : p ∈ pfs L) : Pr p := by
  obtain ⟨x, _, hp⟩ := List.mem_flatMap.mp h
  exact pf_pr hp
/-- the primes of numbers are those of their product -/
theorem pfs_pf {L : List Nat} (h : ∀ x ∈ L, 1 ≤ x) : (pfs L).Perm (pf (prodL L)) :=
  pr_unique (fun _ hq => pfs_pr hq) (fun _ hq => pf_pr hq) (by rw [pfs_prod h, pf_prod (prodL_pos h)])
theorem pf_mul {a b : Nat} (ha : 1 ≤ a) (hb : 1 ≤ b) : (pf (a * b)).Perm (pf a ++ pf b) := by
  refine pr_unique (fun _ hq => pf_pr hq) (fun q hq => ?_) ?_
  · rcases List.mem_append.mp hq with c | c <;> exact pf_pr c
  · rw [prodL_append, pf_prod (Nat.mul_pos ha hb), pf_prod ha, pf_prod hb]
theorem ct_mul {a b p : Nat} (ha : 1 ≤ a) (hb : 1 ≤ b) : (pf (a * b)).count p = (pf a).count p + (pf b).count p := by
  rw [(pf_mul ha hb).count_eq, List.count_append]
theorem pf_1 : pf 1 = [] := pfT_one (Nat.le_refl 1)
theorem ct_pow {a p : Nat} (ha : 1 ≤ a) (e : Nat) : (pf (a ^ e)).count p = e * (pf a).count p := by
  induction e with
  | zero => rw [Nat.pow_zero, pf_1, Nat.zero_mul]; rfl
  | succ e ih => rw [Nat.pow_succ, ct_mul (Nat.pow_pos ha) ha, ih, Nat.succ_mul]
theorem pf_self {p : Nat} (h : Pr p) : pf p = [p] := by
  have h1 : (pf p).Perm [p] := pr_unique (fun _ hq => pf_pr hq) (fun q hq => by simp at hq; exact hq ▸ h) (by rw [pf_prod (by have := h.1; omega)]; simp [prodL])
  exact List.perm_singleton.mp h1
/-- a list's product by its counts -/
theorem prod_counts {ks : List Nat} (hn : ks.Nodup) : ∀ l : List Nat, (∀ p ∈ l, p ∈ ks) → prodL l = prodL (ks.map fun p => p ^ l.count p)
  | [], _ => by
    have e : prodL (ks.map fun p => p ^ ([] : List Nat).count p) = 1 := prodL_one fun x hx => by
      obtain ⟨y, _, rfl⟩ := List.mem_map.mp hx
      simp
    rw [e]
    rfl
  | a :: l, h => by
    have ih := prod_counts hn l fun p hp => h p (List.mem_cons_of_mem _ hp)
    have ha := h a List.mem_cons_self
    rw [prodL_cons, ih]
    have hp := List.perm_cons_erase ha
    rw [prodL_perm (hp.map fun p => p ^ l.count p), prodL_perm (hp.map fun p => p ^ (a :: l).count p), List.map_cons, List.map_cons, prodL_cons, prodL_cons, List.count_cons_self, Nat.pow_succ, ← Nat.mul_assoc, Nat.mul_comm a]
    congr 2
    refine List.map_congr_left fun p hp2 => ?_
    have hne : p ≠ a := fun e => by
      subst e
      exact (List.Nodup.not_mem_erase hn) hp2
    rw [List.count_cons_of_ne (Ne.symm hne)]
/-- the counts of a product of powers of primes -/
theorem ct_prod {ks : List Nat} (hn : ks.Nodup) (hp : ∀ q ∈ ks, Pr q) (f : Nat → Nat) (p : Nat) : (pf (prodL (ks.map fun q => q ^ f q))).count p = if p ∈ ks then f p else 0 := by
  induction ks with
  | nil => simp [prodL, pf_1]
  | cons a ks ih =>
    have ha := hp a List.mem_cons_self
    have hpos : ∀ x ∈ ks.map (fun q => q ^ f q), 1 ≤ x := fun x hx => by
      obtain ⟨y, hy, rfl⟩ := List.mem_map.mp hx
      exact Nat.pow_pos (by have := (hp y (List.mem_cons_of_mem _ hy)).1; omega)
    rw [List.nodup_cons] at hn
    rw [List.map_cons, prodL_cons, ct_mul (Nat.pow_pos (by have := ha.1; omega)) (prodL_pos hpos), ct_pow (by have := ha.1; omega), pf_self ha, ih hn.2 fun q hq => hp q (List.mem_cons_of_mem _ hq)]
    by_cases c : p = a
    · subst c
      rw [if_neg hn.1, if_pos List.mem_cons_self]
      simp
    · rw [List.count_eq_zero_of_not_mem (by simp [c]), Nat.mul_zero, Nat.zero_add]
      by_cases c2 : p ∈ ks
      · rw [if_pos c2, if_pos (List.mem_cons_of_mem _ c2)]
      · rw [if_neg c2, if_neg (by simp [c, c2])]
/-- N is a power by e just where e divides all counts -/
theorem pow_iff {N e : Nat} (hN : 1 ≤ N) (he : 1 ≤ e) : (∃ b, N = b ^ e) ↔ ∀ p, e ∣ (pf N).count p := by
  constructor
  · rintro ⟨b, rfl⟩ p
    have hb : 1 ≤ b := by
      rcases Nat.eq_zero_or_pos b with c | c
      · subst c
        rw [Nat.zero_pow (by omega)] at hN
        omega
      · exact c
    rw [ct_pow hb]
    exact Nat.dvd_mul_right e _
  · intro h
    obtain ⟨ks, h1, h2⟩ := nodup_of (pf N)
    refine ⟨prodL (ks.map fun p => p ^ ((pf N).count p / e)), ?_⟩
    rw [← prodL_pow, List.map_map]
    have e1 := prod_counts h1 (pf N) fun p hp => (h2 p).mpr hp
    rw [pf_prod hN] at e1
    refine e1.trans ?_
    congr 1
    refine List.map_congr_left fun p _ => ?_
    show p ^ (pf N).count p = (p ^ ((pf N).count p / e)) ^ e
    rw [← Nat.pow_mul, Nat.div_mul_cancel (h p)]
theorem lackE_dvd (m : Nat) {e : Nat} (he : 1 ≤ e) : e ∣ m + lackE m e := by
  unfold lackE
  have h1 : m % e < e := Nat.mod_lt _ (by omega)
  have h3 := Nat.div_add_mod m e
  rcases Nat.eq_zero_or_pos (m % e) with c | c
  · rw [c, Nat.sub_zero, Nat.mod_self, Nat.add_zero]
    exact Nat.dvd_of_mod_eq_zero c
  · rw [Nat.mod_eq_of_lt (by omega : e - m % e < e)]
    refine ⟨m / e + 1, ?_⟩
    rw [Nat.mul_add, Nat.mul_one]
    omega
theorem lackE_min {m k e : Nat} (he : 1 ≤ e) (h : e ∣ m + k) : lackE m e ≤ k := by
  unfold lackE
  have h1 : m % e < e := Nat.mod_lt _ (by omega)
  rcases Nat.eq_zero_or_pos (m % e) with c | c
  · rw [c, Nat.sub_zero, Nat.mod_self]
    exact Nat.zero_le _
  · rw [Nat.mod_eq_of_lt (by omega : e - m % e < e)]
    refine Nat.le_of_not_lt fun z => ?_
    have h2 : (m + k) % e = 0 := Nat.mod_eq_zero_of_dvd h
    rw [Nat.add_mod, Nat.mod_eq_of_lt (by omega : k < e), Nat.mod_eq_of_lt (by omega : m % e + k < e)] at h2
    omega
/-- the counts of what lacks -/
theorem ct_lack {N e r : Nat} (h : IsLack (pf N) e r) (p : Nat) : (pf r).count p = lackE ((pf N).count p) e := by
  obtain ⟨ks, h1, h2⟩ := nodup_of (pf N)
  rw [h ks h1 fun q hq => (h2 q).mpr hq]
  unfold lackK
  rw [ct_prod h1 (fun q hq => pf_pr ((h2 q).mp hq)) (fun q => lackE ((pf N).count q) e)]
  by_cases c : p ∈ ks
  · rw [if_pos c]
  · rw [if_neg c, List.count_eq_zero_of_not_mem fun z => c ((h2 p).mpr z), lackE_0]
theorem lack_pos {N e r : Nat} (h : IsLack (pf N) e r) : 1 ≤ r := by
  obtain ⟨ks, h1, h2⟩ := nodup_of (pf N)
  rw [h ks h1 fun q hq => (h2 q).mpr hq]
  refine prodL_pos fun x hx => ?_
  obtain ⟨y, hy, rfl⟩ := List.mem_map.mp hx
  exact Nat.pow_pos (by have := (pf_mem ((h2 y).mp hy)).1; omega)
/-- with what lacks it is a power -/
theorem lack_pow {N e r : Nat} (hN : 1 ≤ N) (he : 1 ≤ e) (h : IsLack (pf N) e r) : ∃ b, N * r = b ^ e := by
  rw [pow_iff (Nat.mul_pos hN (lack_pos h)) he]
  intro p
  rw [ct_mul hN (lack_pos h), ct_lack h]
  exact lackE_dvd _ he
/-- and with no lesser number -/
theorem lack_min {N e r s : Nat} (hN : 1 ≤ N) (he : 1 ≤ e) (hs : 1 ≤ s) (h : IsLack (pf N) e r) (hb : ∃ b, N * s = b ^ e) : r ≤ s := by
  rw [pow_iff (Nat.mul_pos hN hs) he] at hb
  obtain ⟨ks, h1, h2⟩ := nodup_of (pf N ++ pf s)
  rw [h ks h1 fun q hq => (h2 q).mpr (List.mem_append_left _ hq)]
  have e1 := prod_counts h1 (pf s) fun p hp => (h2 p).mpr (List.mem_append_right _ hp)
  rw [pf_prod hs] at e1
  rw [e1]
  refine prodL_le _ _ fun p hp => Nat.pow_le_pow_right ?_ ?_
  · rcases List.mem_append.mp ((h2 p).mp hp) with c | c
    · have := (pf_mem c).1
      omega
    · have := (pf_mem c).1
      omega
  · have := hb p
    rw [ct_mul hN hs] at this
    exact lackE_min he this
/-- the greatest exponent -/
theorem exp_pow {N e : Nat} (hN : 2 ≤ N) (h : IsExp (pf N) e) : (∃ b, N = b ^ e) ∧ ∀ e', 1 ≤ e' → (∃ b, N = b ^ e') → e' ≤ e := by
  have hne : pf N ≠ [] := fun c => by
    have := pf_prod (n := N) (by omega)
    rw [c, prodL_nil] at this
    omega
  obtain ⟨h1, h2⟩ := h.2 hne
  refine ⟨(pow_iff (by omega) h1).mpr fun p => ?_, fun e' he' hb => ?_⟩
  · by_cases c : p ∈ pf N
    · exact (h2 e).mp (Nat.dvd_refl e) p c
    · rw [List.count_eq_zero_of_not_mem c]
      exact Nat.dvd_zero e
  · rw [pow_iff (by omega) he'] at hb
    exact Nat.le_of_dvd (by omega) ((h2 e').mpr fun p _ => hb p)
theorem pf_nil {N : Nat} (hN : 1 ≤ N) : pf N = [] ↔ N = 1 := by
  constructor
  · intro c
    have := pf_prod hN
    rw [c, prodL_nil] at this
    exact this.symm
  · rintro rfl
    exact pf_1
/-- all twice -/
theorem exp_twice {l : List Nat} {e : Nat} (hl : l ≠ []) (h : IsExp l e) : IsExp (l ++ l) (2 * e) := by
  obtain ⟨h1, h2⟩ := h.2 hl
  refine ⟨fun c => absurd (List.append_eq_nil_iff.mp c).1 hl, fun _ => ⟨by omega, fun d => ?_⟩⟩
  constructor
  · intro hd p hp
    rw [List.count_append, ← Nat.two_mul]
    have hp' : p ∈ l := (List.mem_append.mp hp).elim id id
    exact Nat.dvd_trans hd (Nat.mul_dvd_mul_left 2 ((h2 e).mp (Nat.dvd_refl e) p hp'))
  · intro hd
    have hm : ∀ p ∈ l, Nat.lcm d 2 ∣ 2 * l.count p := fun p hp => by
      have := hd p (List.mem_append_left _ hp)
      rw [List.count_append, ← Nat.two_mul] at this
      exact Nat.lcm_dvd this (Nat.dvd_mul_right 2 _)
    obtain ⟨k, hk⟩ := Nat.dvd_lcm_right d 2
    have hke : k ∣ e := (h2 k).mpr fun p hp => by
      have := hm p hp
      rw [hk] at this
      exact Nat.dvd_of_mul_dvd_mul_left (by decide) this
    have : Nat.lcm d 2 ∣ 2 * e := by
      rw [hk]
      exact Nat.mul_dvd_mul_left 2 hke
    exact Nat.dvd_trans (Nat.dvd_lcm_left d 2) this
/-- with what lacks nothing lacks -/
theorem lack_one {l r' : List Nat} {e : Nat} (he : 1 ≤ e) (h : ∀ p, e ∣ (l ++ r').count p) : IsLack (l ++ r') e 1 := by
  intro ks _ _
  refine (prodL_one fun x hx => ?_).symm
  obtain ⟨p, _, rfl⟩ := List.mem_map.mp hx
  have : lackE ((l ++ r').count p) e ≤ 0 := lackE_min he (by simpa using h p)
  rw [Nat.le_zero.mp this, Nat.pow_zero]
end Pn
/-! ListVals: list(d.values()). -/
namespace LiV
open PySem PySem.Spec PyProof.Rows L2
def rValsL : V → Hp → VK → Prop := fun x H Q => ∃ (d : Addr) (kvs : List (Key × V)), x = .ref d ∧ H d = some (.dK kvs) ∧
  ∀ p : Addr, H p = none → Q (.ref p) (upd H p (.lst (kvs.map fun kv => kv.2)))
def tListVals (te : TE) : TE := fun σ H Q => te σ H fun x H1 => rValsL x H1 Q
section
variable {X : Cx} {e : Expr} {te : TE} {p apos cpos pos : Pos}
/-- list(e.values()) -/
theorem pe_listVals (hc : X.calm = true) (he : PE X e te) (hg : Gl X "list") (hm : X.mg "list" = none) (hv : bootBuiltins "list" = some (.type "list")) (hbase : attributeBase e "values" X.env (eval e X.env) = eval e X.env := by rfl) (hline : (apos.endLine == cpos.line) = true := by rfl)
    (hs : starEach [.Call (.Attribute e "values" apos) [] [] cpos] X.env = (false, eval (.Call (.Attribute e "values" apos) [] [] cpos) X.env) :: starEach [] X.env := by rfl) :
    PE X (.Call (.Name "list" p) [.Call (.Attribute e "values" apos) [] [] cpos] [] pos) (tListVals te) := by
  refine ⟨fun pins s σ H Q I hq => ?_⟩
  refine wpAny_Call_Name_kw (ld_blt I hg hm hv ?_)
  refine PyProof.Rows.callWith_type1 ?_ hs rfl
  rw [hs]
  show wpAny _ _ (spliced ((false, eval (.Call (.Attribute e "values" apos) [] [] cpos) X.env) :: backTo pos (starEach [] X.env))) _ _ s
  refine Calls.spliced_cons ?_
  refine wpAny_Call_method (T := "dict") (id := "dict.values") hbase rfl hline F.plainAttrs_dict F.slot_dict_values F.type_dict_values (thn (he.run pins s σ H _ I hq) fun u s1 ⟨x, H1, I1, rx, d, kvs, ex, hd, q⟩ => ?_)
  subst ex
  obtain rfl : u = Value.ref d := rx
  obtain ⟨hz, hs0, vs, kv, hdo⟩ := I1.hok d _ hd
  obtain ⟨ep, hat⟩ := hdo.dictAt
  have lk : kvs.length = vs.length := Paired.length kv
  have I2 : Inv X pins σ H1 { s1 with heap := s1.heap.push { cls := .type "dict_values", data := .fields #[.ref d] } } := I1.kept (t' := s1.toks) fun b ob q => Heap.get?_push_of_some _ q
  refine ⟨hdo.typeIs, hdo.mapOf.noDict, ?_⟩
  show wpAny _ _ (callWith cpos (.builtin "dict.values") [.ref d] [] []) _ X.xe s1
  refine method_meetsIn F.slot_dict_values F.entry_dict_values rfl (PySem.evalArgs_none ⟨rfl, hdo.typeIs, F.args_dict_values_1 _, _, meets_dict_values (mixKind X.prog X.w) d hs0, ⟨vs, hdo⟩, ?_⟩)
  refine Calls.spliced_nil ?_
  refine PySem.W.kdl_call (PySem.W.kdl_values (knd := mixKind X.prog X.w) (d := d) (kvs := vs) (ep := ep)) (I1.ok.hd hc) ⟨⟨_, Heap.get?_push_size _ rfl, rfl, rfl⟩, hat.push _⟩ (by rw [← lk]; exact hz) fun h' tk acc' c' hk hS hacc => ?_
  have e0 : ∀ o : Obj, (s1.heap.push o).objs.size = s1.heap.objs.size + 1 := fun o => Heap.size_push _ _
  refine ⟨.ref (s1.heap.push { cls := .type "dict_values", data := .fields #[.ref d] }).objs.size, upd H1 (s1.heap.push { cls := .type "dict_values", data := .fields #[.ref d] }).objs.size (.lst (kvs.map fun kv => kv.2)), I2.laid hk (Nat.le_refl _) (show ObjOk X.prog X.w _ _ _ (.lst (kvs.map fun kv => kv.2)) from ⟨?_, acc'.toList, c', ?_, ?_⟩), rfl, q _ (I2.hok.fresh (Nat.le_refl _))⟩
  · rw [List.length_map]; exact hz
  · have el : acc'.toList.length = acc'.size := by simp
    refine vals_of_at (by rw [List.length_map, el, hacc.1, lk]) fun j x w h1 h2 => ?_
    obtain ⟨k, hky⟩ := hacc.2 j w (by rw [← Array.getElem?_toList]; exact h2)
    obtain ⟨x', g1, g2⟩ := KV.at' kv hky
    have e2 : (kvs.map fun kv => kv.2)[j]? = some x' := by rw [List.getElem?_map, g1] <;> rfl
    rw [e2] at h1
    cases h1
    exact g2
  · rw [Array.toArray_toList]; exact hS
end
end LiV

namespace Pn
open PySem PySem.Spec PyProof.Rows L2 LiV
/-! ### dicts by whole numbers -/
section
variable {σ : L2.St} {H : Hp} {Q : VK} {D : Ends} {K : PySem.W.Frag} {td ty tv tx te : TE}
theorem w_dget : tDGet td ty σ H Q = td σ H fun x H1 => ty σ H1 fun y H2 => ∃ a v, x = .ref a ∧ DGet H2 a y (some v) ∧ Q v H2 := rfl
theorem w_dget2 : tDGet2 td ty tx σ H Q = td σ H fun x H1 => ∃ a, x = .ref a ∧ IsD H1 a ∧ ty σ H1 fun y H2 => tx σ H2 fun z H3 => ∃ o, DGet H3 a y o ∧ Q (o.getD z) H3 := rfl
theorem w_dput : sDPut td ty tv D σ H = tv σ H fun v H1 => td σ H1 fun x H2 => ty σ H2 fun y H3 => ∃ a H4, x = .ref a ∧ DPut H3 a y v H4 ∧ D.nx σ H4 := rfl
theorem w_dnew : tDNewK σ H Q = ∀ p, H p = none → Q (.ref p) (upd H p (.dK [])) := rfl
theorem w_lv : tListVals te σ H Q = te σ H fun x H1 => ∃ (d : Addr) (kvs : List (Key × V)), x = .ref d ∧ H1 d = some (.dK kvs) ∧ ∀ p : Addr, H1 p = none → Q (.ref p) (upd H1 p (.lst (kvs.map fun kv => kv.2))) := rfl
end
/-- the dict with the keys ks, each with what g tells -/
def dN (ks : List Nat) (g : Nat → V) : List (Key × V) := ks.map fun k : Nat => ((Sum.inl (k : Int) : Key), g k)
theorem dN_val (g : Nat → V) (m : Nat) : ∀ ks : List Nat, valV (dN ks g) (Sum.inl (m : Int)) = if m ∈ ks then some (g m) else none
  | [] => rfl
  | k :: ks => by
    show valV (((Sum.inl (k : Int) : Key), g k) :: dN ks g) (Sum.inl (m : Int)) = _
    by_cases e : k = m
    · subst e
      rw [valV_pos rfl, if_pos (by simp)]
    · rw [valV_neg (fun z => e (by injection z with z; omega)), dN_val g m ks]
      have : (m ∈ k :: ks) = (m ∈ ks) := by
        simp
        intro z
        exact absurd z.symm e
      simp only [this]
theorem dN_get {H : Hp} {a : Addr} {ks : List Nat} {g : Nat → V} {m : Nat} (h : H a = some (.dK (dN ks g))) : DGet H a (.int (m : Int)) (if m ∈ ks then some (g m) else none) := by
  have := DGet.k (k := (Sum.inl (m : Int) : Key)) h
  rw [dN_val] at this
  exact this
theorem dN_at {H : Hp} {a : Addr} {ks : List Nat} {g : Nat → V} {m : Nat} (h : H a = some (.dK (dN ks g))) (hm : m ∈ ks) : DGet H a (.int (m : Int)) (some (g m)) := by
  have := dN_get (m := m) h
  rwa [if_pos hm] at this
theorem dN_put {H : Hp} {a : Addr} {ks : List Nat} {g : Nat → V} {m : Nat} (h : H a = some (.dK (dN ks g))) (hm : m ∉ ks) (hl : ks.length < sizeLine) : DPut H a (.int (m : Int)) (g m) (upd H a (.dK (dN (ks ++ [m]) g))) := by
  have e : dN (ks ++ [m]) g = putK (dN ks g) (Sum.inl (m : Int)) (g m) := by
    rw [putK_new (g m) (by rw [dN_val, if_neg hm])]
    simp [dN]
  rw [e]
  exact DPut.k (k := (Sum.inl (m : Int) : Key)) h (by simpa [dN] using hl)
theorem dN_vals (ks : List Nat) (g : Nat → V) : (dN ks g).map (fun kv => kv.2) = ks.map g := by simp [dN]
theorem dN_len (ks : List Nat) (g : Nat → V) : (dN ks g).length = ks.length := by simp [dN]
theorem w_isB {x y : V} {H : Hp} {Q : VK} : rIsB x y H Q = ∃ a b : Bool, x = .bl a ∧ y = .bl b ∧ Q (.bl (decide (a = b))) H := rfl
theorem w_notB {x y : V} {H : Hp} {Q : VK} : rNotB x y H Q = ∃ a b : Bool, x = .bl a ∧ y = .bl b ∧ Q (.bl (!decide (a = b))) H := rfl
/-! ### methods within a comprehension -/
theorem k_bm {X : Cx} {K : PySem.W.Frag} {e : Expr} {T : String} {r : V → List V → Hp → VK → Prop} {to : TE} {t : TA} (h : PE X e (tBM X.K T r to t)) (hk : X.K = K := by rfl) : PE X e (tBM K T r to t) := by
  subst hk
  exact h
theorem k_count {X : Cx} (K : PySem.W.Frag) (hk : X.K = K := by rfl) : MtR X "list.count" (rCntI K) := by
  subst hk
  exact mt_lcount
/-! ### xs[i] op= e of a list -/
theorem pget_list {X : Cx} (K : PySem.W.Frag) (h : X.K = K := by rfl) : PGet X (rIxL K) := by
  subst h
  intro pins s σ H o at' ov iv Q I ro ri hg
  obtain ⟨l, ys, k, z, rfl, rfl, hS, hA, hq⟩ := hg
  cases ro
  obtain ⟨tk, rfl⟩ := ri
  obtain ⟨raw, rel, isl, size⟩ := I.list hS
  obtain ⟨n, g1, g2, g3, g4, g5⟩ := atI_get hA
  obtain ⟨got, ge, gr⟩ := rel.get g2
  have len := rel.length
  have top := line63
  have done : EP X pins σ Q got s := ⟨z, H, I, gr, hq⟩
  by_cases neg : k < 0
  · have en : (k + (raw.toArray.size : Int)).toNat = n := by
      have g := g1
      rw [seqIndex_neg neg g4] at g
      rw [List.size_toArray, ← len]
      exact Option.some.inj g
    refine wpAny_getItem_list_neg isl.isList neg ?_ (by omega) ?_ done
    · rw [List.size_toArray]
      omega
    · rw [en]
      simpa using ge
  · have en : k.toNat = n := by
      have g := g1
      rw [seqIndex_of (by omega) g5] at g
      exact Option.some.inj g
    refine wpAny_getItem_list isl.isList (by omega) (by omega) ?_ done
    rw [en]
    simpa using ge
theorem w_augS {to ti te : TE} {tget : V → V → Hp → VK → Prop} {tip : TIp} {tset : TSet} {D : Ends} {σ : L2.St} {H : Hp} : tAugS to ti te tget tip tset D σ H = to σ H fun o H1 => ti σ H1 fun i H2 => tget o i H2 fun x H3 => te σ H3 fun y H4 => tip x y H4 fun z H5 => tset o i z H5 fun H6 => D.nx σ H6 := rfl
/-! ### comprehensions over ranges by steps -/
section
variable {σ : L2.St} {H : Hp} {Q : VK} {K : PySem.W.Frag} {te tl : TE} {tt : TT} {tr : TA} {g : TG} {vs : List Nat}
theorem lc_c {lo c : Int} {n : Nat} (f : Nat → Option V) (hl : n < sizeLine)
    (hs : ∀ (i : Nat) (H' : Hp), i < n → Same H H' → ∀ (N0 : Hp → Prop) (N1 : VK), (f i = none → ∀ H2, Same H' H2 → N0 H2) → (∀ y, f i = some y → ∀ H2, Same H' H2 → N1 y H2) →
      g (.int (lo + (i : Nat) * c)) (wipe σ vs) H' fun σ2 H2 => wipe σ2 vs = wipe σ vs ∧ tt σ2 H2 fun b H3 => if b = true then te σ2 H3 N1 else N0 H3)
    (q : ∀ D H', H D = none → Same H H' → H' D = some (.lst ((List.range n).filterMap f)) → Q (.ref D) H') : LJ (Itc lo c n) g tt te vs σ H Q := by
  intro D hD
  refine ⟨fun j left Hw => left + j = n ∧ Same H Hw ∧ Hw D = some (.lst ((List.range j).filterMap f)), ⟨n, Nat.add_zero n, same_new hD, by rw [upd_same]; simp⟩, fun j left Hw => ?_⟩
  rintro ⟨ej, p1, p2⟩
  rcases Nat.eq_zero_or_pos left with h0 | h0
  · left
    obtain rfl : j = n := by omega
    exact ⟨Nat.le_refl j, q D Hw hD p1 p2⟩
  · right
    have hj : j < n := by omega
    refine ⟨hj, fun Hz => Same H Hz ∧ Hz D = some (.lst ((List.range (j + 1)).filterMap f)), fun Hz hz => ⟨left - 1, by omega, by omega, hz.1, hz.2⟩, fun x Hy hy => ?_⟩
    obtain ⟨e1, e2⟩ := hy
    subst e1 e2
    have hlen : ((List.range j).filterMap f).length < sizeLine := Nat.lt_of_le_of_lt (List.length_filterMap_le _ _) (by rw [List.length_range]; omega)
    have hf1 : (List.range (j + 1)).filterMap f = (List.range j).filterMap f ++ (f j).toList := by
      rw [List.range_succ, List.filterMap_append]
      cases e : f j <;> simp [e]
    refine hs j Hy hj p1 _ _ (fun hf H2 k2 => ⟨p1.trans k2, ?_⟩) fun y hf H2 k2 => ⟨_, k2 _ _ p2, hlen, fun b o h => ?_, ?_⟩
    · rw [k2 _ _ p2, hf1, hf]
      simp
    · rw [upd_ne (ne_of_none h hD)]
      exact k2 _ _ (p1 _ _ h)
    · rw [upd_same, hf1, hf]
      rfl
end
/-! ### a comprehension over a dict's keys -/
section
variable {σ : L2.St} {H : Hp} {Q : VK} {K : PySem.W.Frag} {te tl td : TE} {tt : TT} {tr : TA} {g : TG} {vs : List Nat}
theorem w_lockE {t : TE} : tLockE t σ H Q = ∃ d u, H d = some u ∧ Mut (some u) ∧ ∀ od, t σ (upd H d (.frz od u)) fun v H' => H' d = some (.frz od u) ∧ Q v (upd H' d u) := rfl
theorem w_lcK : tLc (iKeys td) g tt te vs σ H Q = td σ H fun x H1 => ∃ d o, x = .ref d ∧ ((∃ kvs, H1 d = some (.frz o (.dK kvs)) ∧ LJ (Itk d o kvs) g tt te vs σ H1 Q) ∨ ∃ kvs, H1 d = some (.frz o (.dT kvs)) ∧ LJ (Itkt d o kvs) g tt te vs σ H1 Q) := rfl
theorem same_unlock {H0 H' : Hp} {d : Addr} {x u : HO} (s : Same (upd H0 d x) H') (h : H0 d = some u) : Same H0 (upd H' d u) := fun b o hb => by
  by_cases e : b = d
  · subst e
    rw [upd_same, ← h, hb]
  · rw [upd_ne e]
    exact s _ _ ((upd_ne e).trans hb)
theorem lc_k {d : Addr} {o : Obj} {kvs : List (Key × V)} (f : Key → Option V) (hx : H d = some (.frz o (.dK kvs))) (hl : kvs.length < sizeLine)
    (hs : ∀ (i : Nat) (k : Key) (v : V) (H' : Hp), kvs[i]? = some (k, v) → Same H H' → ∀ (N0 : Hp → Prop) (N1 : VK), (f k = none → ∀ H2, Same H' H2 → N0 H2) → (∀ y, f k = some y → ∀ H2, Same H' H2 → N1 y H2) →
      g (kV k) (wipe σ vs) H' fun σ2 H2 => wipe σ2 vs = wipe σ vs ∧ tt σ2 H2 fun b H3 => if b = true then te σ2 H3 N1 else N0 H3)
    (q : ∀ D H', H D = none → Same H H' → H' D = some (.lst ((kvs.map (·.1)).filterMap f)) → Q (.ref D) H') : LJ (Itk d o kvs) g tt te vs σ H Q := by
  intro D hD
  have hDd : d ≠ D := ne_of_none hx hD
  refine ⟨fun j left Hw => left + j = kvs.length ∧ Same H Hw ∧ Hw D = some (.lst (((kvs.map (·.1)).take j).filterMap f)), ⟨kvs.length, Nat.add_zero _, same_new hD, by rw [upd_same]; simp⟩, fun j left Hw => ?_⟩
  rintro ⟨ej, p1, p2⟩
  rcases Nat.eq_zero_or_pos left with h0 | h0
  · left
    have e : j = kvs.length := by omega
    refine ⟨⟨p1 _ _ hx, by omega⟩, q D Hw hD p1 ?_⟩
    rw [p2, List.take_of_length_le (by simp; omega)]
  · right
    have hj : j < kvs.length := by omega
    refine ⟨⟨p1 _ _ hx, hj⟩, fun Hz => Same H Hz ∧ Hz D = some (.lst (((kvs.map (·.1)).take (j + 1)).filterMap f)), fun Hz hz => ⟨left - 1, by omega, by omega, hz.1, hz.2⟩, fun x Hy hy => ?_⟩
    obtain ⟨e1, k, v, hk, e2⟩ := hy
    subst e1 e2
    have hk1 : (kvs.map (·.1))[j]? = some k := by rw [List.getElem?_map, hk]; rfl
    have hlen : (((kvs.map (·.1)).take j).filterMap f).length < sizeLine := Nat.lt_of_le_of_lt (Nat.le_trans (List.length_filterMap_le _ _) (by rw [List.length_take, List.length_map]; exact Nat.min_le_right _ _)) hl
    refine hs j k v Hy hk p1 _ _ (fun hf H2 k2 => ⟨p1.trans k2, ?_⟩) fun y hf H2 k2 => ⟨_, k2 _ _ p2, hlen, fun b o h => ?_, ?_⟩
    · rw [k2 _ _ p2, filt_take f hk1, hf]
      simp
    · rw [upd_ne (ne_of_none h hD)]
      exact k2 _ _ (p1 _ _ h)
    · rw [upd_same, filt_take f hk1, hf]
      rfl
/-- within the lock the dict still tells -/
theorem dN_atF {H : Hp} {a : Addr} {o : Obj} {ks : List Nat} {g : Nat → V} {m : Nat} (h : H a = some (.frz o (.dK (dN ks g)))) (hm : m ∈ ks) : DGet H a (.int (m : Int)) (some (g m)) := by
  refine .inl ⟨dN ks g, Sum.inl (m : Int), .inr ⟨o, h⟩, rfl, ?_⟩
  rw [dN_val, if_pos hm]
end
/-- the dict with one more, or one told anew -/
theorem dN_upd {H : Hp} {a : Addr} {ks : List Nat} {g : Nat → V} {v : V} {m : Nat} (h : H a = some (.dK (dN ks g))) (hl : ks.length < sizeLine) : DPut H a (.int (m : Int)) v (upd H a (.dK (dN (if m ∈ ks then ks else ks ++ [m]) fun k => if k = m then v else g k))) := by
  by_cases e : m ∈ ks
  · have e1 : dN ks (fun k => if k = m then v else g k) = putK (dN ks g) (Sum.inl (m : Int)) v := by
      unfold putK
      rw [valV_any, dN_val, if_pos e]
      simp only [Option.isSome_some, if_true]
      unfold dN
      rw [List.map_map]
      refine List.map_congr_left fun k hk => ?_
      show ((Sum.inl (k : Int) : Key), if k = m then v else g k) = if (Sum.inl (k : Int) : Key) = Sum.inl (m : Int) then ((Sum.inl (k : Int) : Key), v) else ((Sum.inl (k : Int) : Key), g k)
      by_cases c : k = m
      · subst c
        rw [if_pos rfl, if_pos rfl]
      · rw [if_neg c, if_neg fun z => c (by injection z with z; omega)]
    rw [if_pos e, e1]
    exact DPut.k (k := (Sum.inl (m : Int) : Key)) h (by simpa [dN] using hl)
  · rw [if_neg e]
    have e1 : dN (ks ++ [m]) (fun k => if k = m then v else g k) = putK (dN ks g) (Sum.inl (m : Int)) v := by
      rw [putK_new v (by rw [dN_val, if_neg e])]
      unfold dN
      rw [List.map_append]
      congr 1
      · refine List.map_congr_left fun k hk => ?_
        show ((Sum.inl (k : Int) : Key), if k = m then v else g k) = ((Sum.inl (k : Int) : Key), g k)
        rw [if_neg fun z : k = m => e (by rw [← z]; exact hk)]
      · simp
    rw [e1]
    exact DPut.k (k := (Sum.inl (m : Int) : Key)) h (by simpa [dN] using hl)
end Pn
/-! PnZ: zip in loops and comprehensions; is None. -/
namespace Pn
open PySem PySem.Spec PyProof.Rows L2
section
variable {σ : L2.St} {H : Hp} {Q : VK} {D : Ends} {K : PySem.W.Frag} {te : TE} {tt : TT} {tr : TA} {s1 : TS} {g : TG} {vs : List Nat}
theorem w_forZ : tFor (iZip K tr) g s1 D σ H = tr σ H fun us H1 => ∃ a b xs ys, us = [.ref a, .ref b] ∧ SqL K H1 a xs ∧ SqL K H1 b ys ∧ FJ (Itz K a b) g s1 D σ H1 := rfl
theorem for_z {a b : Addr} {xs ys : List V} {n : Nat} (hn : n = min xs.length ys.length) (Pv : Nat → L2.St → Hp → Prop) (h0 : Pv 0 σ H) (hl : ∀ i σ H, i ≤ n → Pv i σ H → SqL K H a xs ∧ SqL K H b ys)
    (hs : ∀ i x y σ H T, xs[i]? = some x → ys[i]? = some y → i < n → Pv i σ H → H T = none → ∀ N : L2.St → Hp → Prop, (∀ σ' H', Pv (i + 1) σ' H' → N σ' H') → g (.ref T) σ (upd H T (.tup [x, y])) fun σ2 H2 => s1 { D with nx := N, ct := N, bk := D.nx } σ2 H2)
    (hd : ∀ σ H, Pv n σ H → D.nx σ H) : FJ (Itz K a b) g s1 D σ H :=
  for_it (walk_zip hn) Pv h0 hl (fun i v σ H H' hi p y => by
    obtain ⟨T, x, z, rfl, hT, rfl, h1, h2⟩ := y
    exact hs i x z σ H T h1 h2 hi p hT _ fun _ _ z => z) hd
theorem w_lcZ : tLc (RZ.iZipA K tr) g tt te vs σ H Q = tr σ H fun us H1 => ∃ a b xs ys, us = [.ref a, .ref b] ∧ ((SqL K H1 a xs ∧ SqL K H1 b ys ∧ LJ (Itz K a b) g tt te vs σ H1 Q) ∨ (SqT K H1 a xs ∧ SqT K H1 b ys ∧ LJ (RZ.ItzT K a b) g tt te vs σ H1 Q)) := rfl
/-- over two tuples of one length: f tells of two items what is put into the list, if anything -/
theorem lc_zt {a b : Addr} {xs ys : List V} (f : V → V → Option V) (hx : SqT K H a xs) (hy : SqT K H b ys) (hn : xs.length = ys.length) (hl : xs.length < sizeLine)
    (hs : ∀ (i : Nat) (x y : V) (T : Addr) (H' : Hp), xs[i]? = some x → ys[i]? = some y → Same H H' → H' T = some (.tup [x, y]) → ∀ (N0 : Hp → Prop) (N1 : VK), (f x y = none → ∀ H2, Same H' H2 → N0 H2) → (∀ z, f x y = some z → ∀ H2, Same H' H2 → N1 z H2) →
      g (.ref T) (wipe σ vs) H' fun σ2 H2 => wipe σ2 vs = wipe σ vs ∧ tt σ2 H2 fun b H3 => if b = true then te σ2 H3 N1 else N0 H3)
    (q : ∀ D H', H D = none → Same H H' → H' D = some (.lst ((xs.zip ys).filterMap fun p => f p.1 p.2)) → Q (.ref D) H') : LJ (RZ.ItzT K a b) g tt te vs σ H Q := by
  intro D hD
  have hlen2 : (xs.zip ys).length = xs.length := by rw [List.length_zip, ← hn, Nat.min_self]
  refine ⟨fun j left Hw => left + j = xs.length ∧ Same H Hw ∧ Hw D = some (.lst (((xs.zip ys).take j).filterMap fun p => f p.1 p.2)), ⟨xs.length, Nat.add_zero _, same_new hD, by rw [upd_same]; simp⟩, fun j left Hw => ?_⟩
  rintro ⟨ej, p1, p2⟩
  have qx := same_seqT p1 hx
  have qy := same_seqT p1 hy
  rcases Nat.eq_zero_or_pos left with h0 | h0
  · left
    have e : j = xs.length := by omega
    subst e
    refine ⟨⟨xs, ys, qx, qy, .inl (Nat.le_refl _)⟩, q D Hw hD p1 ?_⟩
    rw [p2, ← hlen2, List.take_length]
  · right
    have hj : j < xs.length := by omega
    have hj2 : j < ys.length := by omega
    refine ⟨⟨xs, ys, xs[j], ys[j], qx, qy, List.getElem?_eq_getElem hj, List.getElem?_eq_getElem hj2⟩, fun Hz => Same H Hz ∧ Hz D = some (.lst (((xs.zip ys).take (j + 1)).filterMap fun p => f p.1 p.2)), fun Hz hz => ⟨left - 1, by omega, by omega, hz.1, hz.2⟩, fun v Hy hy' => ?_⟩
    obtain ⟨T, x, y, rfl, hT, rfl, fx, fy⟩ := hy'
    have ex := fx xs qx
    have ey := fy ys qy
    have ez : (xs.zip ys)[j]? = some (x, y) := by
      rw [List.getElem?_zip_eq_some]
      exact ⟨ex, ey⟩
    have n1 : Same Hw (upd Hw T (.tup [x, y])) := same_new hT
    have hlen : (((xs.zip ys).take j).filterMap fun p => f p.1 p.2).length < sizeLine := Nat.lt_of_le_of_lt (Nat.le_trans (List.length_filterMap_le _ _) (by rw [List.length_take, hlen2]; exact Nat.min_le_right _ _)) hl
    have hf1 := filt_take (fun p : V × V => f p.1 p.2) ez
    have hD2 := n1 _ _ p2
    refine hs j x y T _ ex ey (p1.trans n1) upd_same _ _ (fun hf H2 k2 => ⟨(p1.trans n1).trans k2, ?_⟩) fun z hf H2 k2 => ⟨_, k2 _ _ hD2, hlen, fun b o h => ?_, ?_⟩
    · rw [k2 _ _ hD2, hf1, hf]
      simp
    · rw [upd_ne (ne_of_none h hD)]
      exact k2 _ _ (n1 _ _ (p1 _ _ h))
    · rw [upd_same, hf1, hf]
      rfl
end
end Pn
namespace Pn
open PySem PySem.Spec PyProof.Rows L2
/-- a deck at a: the cells at l, how many are begun, what is left of one, how many were mixed (at most n), the sum -/
def Dk (H : Hp) (a l : Addr) (n : Nat) : Prop := ∃ (ns : List Int) (i x c s : Int), H a = some (.lst [.ref l, .int i, .int x, .int c, .int s]) ∧ l ≠ a ∧ H l = some (.lst (ns.map V.int)) ∧ ns.length ≤ 63 ∧ 0 ≤ i ∧ i ≤ ns.length ∧ 0 ≤ x ∧ 0 ≤ c ∧ c ≤ n
theorem Dk.mono {H : Hp} {a l : Addr} {n m : Nat} (h : Dk H a l n) (le : n ≤ m) : Dk H a l m := by
  obtain ⟨ns, i, x, c, s, h1, h2, h3, h4, h5, h6, h7, h8, h9⟩ := h
  exact ⟨ns, i, x, c, s, h1, h2, h3, h4, h5, h6, h7, h8, by omega⟩
/-- it stands where nothing of what was tracked changed -/
theorem Dk.same {H H' : Hp} {a l : Addr} {n : Nat} (h : Dk H a l n) (e : Same H H') : Dk H' a l n := by
  obtain ⟨ns, i, x, c, s, h1, h2, h3, h⟩ := h
  exact ⟨ns, i, x, c, s, e _ _ h1, h2, e _ _ h3, h⟩
theorem Dk.lst {H : Hp} {a l : Addr} {n : Nat} (h : Dk H a l n) : ∃ ys, H a = some (.lst ys) := by
  obtain ⟨ns, i, x, c, s, h1, _⟩ := h
  exact ⟨_, h1⟩
theorem Dk.ne {H : Hp} {a l p : Addr} {n : Nat} (h : Dk H a l n) (hp : H p = none) : p ≠ a := by
  obtain ⟨_, h1⟩ := h.lst
  exact (ne_of_none h1 hp).symm
theorem Dk.neL {H : Hp} {a l p : Addr} {n : Nat} (h : Dk H a l n) (hp : H p = none) : p ≠ l := by
  obtain ⟨ns, i, x, c, s, h1, h2, h3, h⟩ := h
  exact (ne_of_none h3 hp).symm
/-- where something apart from the deck and its cells is changed -/
theorem Dk.upd {H : Hp} {a l p : Addr} {n : Nat} {o : HO} (h : Dk H a l n) (n1 : p ≠ a) (n2 : p ≠ l) : Dk (upd H p o) a l n := by
  obtain ⟨ns, i, x, c, s, h1, h2, h3, h⟩ := h
  exact ⟨ns, i, x, c, s, (upd_ne n1.symm).trans h1, h2, (upd_ne n2.symm).trans h3, h⟩
end Pn
namespace Pn
open PySem PySem.Spec PyProof.Rows L2
/-- a triple, or None -/
def VG (H : Hp) (v : V) : Option (Nat × Nat × Nat) → Prop
  | none => v = .non
  | some t => ∃ p, v = .ref p ∧ H p = some (.tup [.int (t.1 : Int), .int (t.2.1 : Int), .int (t.2.2 : Int)])
theorem VG.same {H H' : Hp} {v : V} {o : Option (Nat × Nat × Nat)} (h : VG H v o) (s : Same H H') : VG H' v o := by
  cases o with
  | none => exact h
  | some t =>
    obtain ⟨p, rfl, hp⟩ := h
    exact ⟨p, rfl, s _ _ hp⟩
def dG : Option (Nat × Nat × Nat) → PyData
  | none => .none
  | some t => .tuple (dI [(t.1 : Int), (t.2.1 : Int), (t.2.2 : Int)])
theorem dp_g {K : PySem.W.Frag} {H : Hp} {v : V} : ∀ {o : Option (Nat × Nat × Nat)}, VG H v o → Dp K H v (dG o)
  | none, h => by
    cases h
    exact .non
  | some t, h => by
    obtain ⟨p, rfl, hp⟩ := h
    exact .tup (SqT.of hp) (dpAll_ints [(t.1 : Int), (t.2.1 : Int), (t.2.2 : Int)])
theorem sh_g : ∀ o : Option (Nat × Nat × Nat), SeqAt.shaped (dG o) = true
  | none => rfl
  | some t => sh_tI _
theorem eqv_g : ∀ o o' : Option (Nat × Nat × Nat), PyData.eqv (dG o) (dG o') = decide (o = o')
  | some (a, b, c), some (d, e, f) => by
    simp only [dG, PyData.eqv, eqv_ints, List.cons.injEq, Int.natCast_inj, Option.some.injEq, Prod.mk.injEq, and_true]
  | some a, none => by simp [dG, PyData.eqv]
  | none, some b => by simp [dG, PyData.eqv]
  | none, none => by simp [dG, PyData.eqv]
section
variable {K : PySem.W.Frag} {H : Hp} {Q : VK} {x y : V}
theorem r_neG {o o' : Option (Nat × Nat × Nat)} (hx : VG H x o) (hy : VG H y o') (q : Q (.bl (!decide (o = o'))) H) : rNeD K x y H Q :=
  ⟨dG o, dG o', dp_g hx, dp_g hy, sh_g o, sh_g o', by rw [eqv_g]; exact q⟩
theorem r_eqG {o o' : Option (Nat × Nat × Nat)} (hx : VG H x o) (hy : VG H y o') (q : Q (.bl (decide (o = o'))) H) : rEqD K x y H Q :=
  ⟨dG o, dG o', dp_g hx, dp_g hy, sh_g o, sh_g o', by rw [eqv_g]; exact q⟩
end
theorem ofN_sorted {ns : List Nat} (h : ns.Pairwise (· < ·)) : (ofN ns).Pairwise (· ≤ ·) := by
  unfold ofN
  rw [List.pairwise_map]
  exact h.imp fun c => by omega
/-- what sorted tells of these keys -/
theorem sorted_is {ks ls : List Nat} {ys : List Int} (hn : ks.Nodup) (hl : ls.Pairwise (· < ·)) (h : ∀ x, x ∈ ks ↔ x ∈ ls) (hp : ys.Perm (ofN ks)) (hs : ys.Pairwise (· ≤ ·)) : ys = ofN ls := by
  have p1 : ks.Perm ls := (List.perm_ext_iff_of_nodup hn (hl.imp fun c => Nat.ne_of_lt c)).mpr h
  have p2 : ys.Perm (ofN ls) := hp.trans (p1.map _)
  exact List.Perm.eq_of_pairwise (fun a b _ _ h1 h2 => Int.le_antisymm h1 h2) hs (ofN_sorted hl) p2
theorem dN_keys (ks : List Nat) (g : Nat → V) : (dN ks g).map (·.1) = (ofN ks).map Sum.inl := by
  unfold dN ofN
  rw [List.map_map, List.map_map]
  rfl
theorem powL_len (m : Nat) : (powL m).length ≤ m := by
  unfold powL
  refine Nat.le_trans (List.length_filterMap_le _ _) ?_
  rw [List.length_range]
  exact Nat.le_refl _
theorem ofN_at {ns : List Nat} {i : Nat} {x : V} (h : ((ofN ns).map V.int)[i]? = some x) : ∃ n : Nat, ns[i]? = some n ∧ x = V.int (n : Int) := by
  unfold ofN at h
  rw [List.getElem?_map, List.getElem?_map] at h
  cases e : ns[i]? with
  | none => simp [e] at h
  | some n =>
    simp [e] at h
    exact ⟨n, rfl, h.symm⟩
/-- the squares and the higher powers together -/
theorem pow_split {m x : Nat} : (1 ≤ x ∧ x ≤ m ∧ IsPow x) ↔ (∃ b e, 1 ≤ b ∧ 3 ≤ e ∧ 2 ^ e ≤ m ∧ x = b ^ e ∧ x ≤ m) ∨ ∃ b, 1 ≤ b ∧ b ≤ rootN m 2 ∧ x = b * b := by
  constructor
  · rintro ⟨h1, h2, b, e, b1, e2, rfl⟩
    have sq : ∀ c, 1 ≤ c → c * c ≤ m → ∃ b, 1 ≤ b ∧ b ≤ rootN m 2 ∧ c * c = b * b := fun c c1 c2 => ⟨c, c1, rootN_ge (by omega) (by rw [Nat.pow_two]; exact c2), rfl⟩
    rcases (by omega : e = 2 ∨ 3 ≤ e) with rfl | e3
    · rw [Nat.pow_two] at h2 ⊢
      exact .inr (sq b b1 h2)
    · rcases (by omega : b = 1 ∨ 2 ≤ b) with rfl | b2
      · rw [Nat.one_pow] at h2 ⊢
        exact .inr (sq 1 (by omega) h2)
      · exact .inl ⟨b, e, b1, e3, Nat.le_trans (Nat.pow_le_pow_left b2 e) h2, rfl, h2⟩
  · rintro (⟨b, e, b1, e3, h, rfl, h2⟩ | ⟨b, b1, b2, rfl⟩)
    · exact ⟨Nat.pow_pos b1, h2, b, e, b1, by omega, rfl⟩
    · have h3 : b ^ 2 ≤ rootN m 2 ^ 2 := Nat.pow_le_pow_left b2 2
      have h4 := rootN_le (n := m) (e := 2) (by omega)
      rw [Nat.pow_two b] at h3
      exact ⟨Nat.mul_pos b1 b1, by omega, b, 2, b1, by omega, by rw [Nat.pow_two]⟩
theorem pairwise_at {l : List Nat} {i j x y : Nat} (h : l.Pairwise (· < ·)) (hij : i < j) (h1 : l[i]? = some x) (h2 : l[j]? = some y) : x < y := by
  obtain ⟨a, ea⟩ := List.getElem?_eq_some_iff.mp h1
  obtain ⟨b, eb⟩ := List.getElem?_eq_some_iff.mp h2
  rw [List.pairwise_iff_getElem] at h
  have := h i j a b hij
  rwa [ea, eb] at this
/-- a display of one pair, its key a whole number -/
theorem r_disp1 {σ : L2.St} {H : Hp} {Q : VK} {k : Nat} {y : V} (q : ∀ p, H p = none → Q (.ref p) (upd H p (.dK (dN [k] fun _ => y)))) : tDisp [(tC (.int (k : Int)), tC y)] σ H Q := fun p hp => by
  refine ⟨upd_same, [((Sum.inl (k : Int) : Key), y)], rfl, by show 1 ≤ 15; decide, ?_⟩
  rw [upd_upd]
  exact q p hp
theorem dN_any {H : Hp} {a : Addr} {ks : List Nat} {v : V} {m : Nat} (h : H a = some (.dK (dN ks fun _ => v))) (hl : ks.length < sizeLine) : DPut H a (.int (m : Int)) v (upd H a (.dK (dN (if m ∈ ks then ks else ks ++ [m]) fun _ => v))) := by
  have := dN_upd (m := m) (v := v) h hl
  have e : (fun k => if k = m then v else (fun _ => v) k) = fun _ : Nat => v := by
    funext k
    split <;> rfl
  rw [e] at this
  exact this
theorem put_nodup {x : Nat} {ks : List Nat} (h : ks.Nodup) : (if x ∈ ks then ks else ks ++ [x]).Nodup ∧ (∀ y, y ∈ (if x ∈ ks then ks else ks ++ [x]) ↔ y ∈ ks ∨ y = x) ∧ (if x ∈ ks then ks else ks ++ [x]).length ≤ ks.length + 1 := by
  by_cases c : x ∈ ks
  · rw [if_pos c]
    exact ⟨h, fun y => ⟨.inl, fun z => z.elim id fun e => e ▸ c⟩, by omega⟩
  · rw [if_neg c]
    refine ⟨?_, fun y => by simp, by simp⟩
    rw [List.nodup_append]
    refine ⟨h, by simp, ?_⟩
    intro y hy z hz e2
    simp at hz
    subst hz e2
    exact c hy
theorem r_eqDI {K : PySem.W.Frag} {H : Hp} {Q : VK} {a b : Int} (q : Q (.bl (decide (a = b))) H) : rEqD K (.int a) (.int b) H Q :=
  ⟨.int a, .int b, .int a, .int b, rfl, rfl, by rw [PyData.eqv, Bool.beq_eq_decide_eq]; exact q⟩
end Pn
/-! PnO: objects of a class, loops over a dict's pairs and values, dicts compared with none. -/
namespace Pn
open PySem PySem.Spec PyProof.Rows L2
/-- the class of this name, as the top has made it; these are names of fields -/
structure KCl (K : PySem.W.Frag) (x : PySem.Str) (as : List PySem.Str) (C : Addr) : Prop where
  ns : PySem.W.nsIn K mainGlobals x = some (some (.ref C))
  cl : Cls K C
  no : ∀ a, a ∈ as → NoAttr K C a
/-- a method that stands in it, with its promise -/
structure FnM (P : Program) (w : World) (K : PySem.W.Frag) (mg : PySem.Str → Option Value) (base : Heap) (CX : CXT) (k : Nat) (x : PySem.Str) (as : List PySem.Str) (m : PySem.Str) (ps : List PySem.Str) (sp : Sp) : Prop where
  ex : ∃ (C f : Addr) (fd : FuncData), KCl K x as C ∧ Meth K C m f ∧ Binds K fd ps [] ∧ FnOk P w K mg base CX k f fd ps sp
/-- how one is made -/
structure FnK (P : Program) (w : World) (K : PySem.W.Frag) (mg : PySem.Str → Option Value) (base : Heap) (CX : CXT) (k : Nat) (x : PySem.Str) (as : List PySem.Str) (ps : List PySem.Str) (sp : Sp) : Prop where
  ex : ∃ (C f : Addr) (fd : FuncData), KCl K x as C ∧ Mk K C f ∧ mg x = some (.ref C) ∧ Binds K fd ps [] ∧ FnOk P w K mg base CX k f fd ps sp
/-- it is an object of the class -/
def IsO (K : PySem.W.Frag) (x m : PySem.Str) (y : V) (H : Hp) : Prop := ∃ (a C dx : Addr) (fs : List (PySem.Str × V)), y = .ref a ∧ H a = some (.ins C dx fs) ∧ PySem.W.nsIn K mainGlobals x = some (some (.ref C)) ∧ fs.lookup m = none
def tMt (K : PySem.W.Frag) (x m : PySem.Str) (sp : Sp) (E : XK) (ta : TE) (t : TA) : TE := fun σ H Q => ta σ H fun y H1 => IsO K x m y H1 ∧ t σ H1 fun vs H2 => sp (y :: vs) H2 Q E
def tMk (K : PySem.W.Frag) (x : PySem.Str) (as : List PySem.Str) (sp : Sp) (E : XK) (t : TA) : TE := fun σ H Q => t σ H fun vs H1 => ∀ (C y dx : Addr), KCl K x as C → H1 y = none → H1 dx = none → dx ≠ y → sp (.ref y :: vs) (upd (upd H1 dx (.own y)) y (.ins C dx [])) (fun v H2 => v = .non ∧ Q (.ref y) H2) E
theorem mt_eq {K : PySem.W.Frag} {x m : PySem.Str} {C : Addr} (ns : PySem.W.nsIn K mainGlobals x = some (some (.ref C))) (sp : Sp) (E : XK) (ta : TE) (t : TA) : tMeth C m sp [] E ta t = tMt K x m sp E ta t := by
  funext σ H Q
  unfold tMeth tMt IsO
  congr 1
  funext y H1
  refine propext ⟨?_, ?_⟩
  · rintro ⟨a, dx, fs, h1, h2, h3, h4⟩
    simp only [List.append_nil] at h4
    exact ⟨⟨a, C, dx, fs, h1, h2, ns, h3⟩, h4⟩
  · rintro ⟨⟨a, C', dx, fs, h1, h2, h3, h4⟩, h5⟩
    rw [ns] at h3
    cases h3
    refine ⟨a, dx, fs, h1, h2, h4, ?_⟩
    simp only [List.append_nil]
    exact h5
section
variable {X : Cx} {k : Nat} {x m : PySem.Str} {as ps : List PySem.Str} {sp : Sp} {ta : TE} {t : TA} {o e : Expr} {es : List Expr} {p apos pos : Pos}
theorem pe_mt {K : PySem.W.Frag} {pl : Sem Bool} (h : FnM X.prog X.w K X.mg X.base CX0 k x as m ps sp) (hr : Room k X.A) (he : PE X o ta) (ha : PA X (e :: es) t)
    (hst : starEach (e :: es) X.env = (false, eval e X.env) :: starEach es X.env := by rfl) (hpl : (backTo pos (starEach es X.env)).any (·.1) = false := by rfl)
    (ht : eval (.Call (.Attribute o m apos) (e :: es) [] pos) X.env = (do
      let ov ← eval o X.env
      standAt apos.atName
      let (f, first) ← holding [ov] (getMethod ov m pl)
      callWith pos f first (backTo pos (starEach (e :: es) X.env)) (backToKw pos (keywordEach [] X.env))) := by rfl) (hk : X.K = K := by rfl) :
    PE X (.Call (.Attribute o m apos) (e :: es) [] pos) (tMt K x m sp E0 ta t) := by
  subst hk
  obtain ⟨C, f, fd, hC, hM, hB, F⟩ := h.ex
  rw [← mt_eq hC.ns]
  exact pe_meth he hC.cl hM F hr hB .nil pass0 ha hst hpl ht
theorem pe_mt0 {K : PySem.W.Frag} {pl : Sem Bool} (h : FnM X.prog X.w K X.mg X.base CX0 k x as m ps sp) (hr : Room k X.A) (he : PE X o ta)
    (ht : eval (.Call (.Attribute o m apos) [] [] pos) X.env = (do
      let ov ← eval o X.env
      standAt apos.atName
      let (f, first) ← holding [ov] (getMethod ov m pl)
      callWith pos f first (backTo pos (starEach [] X.env)) (backToKw pos (keywordEach [] X.env))) := by rfl) (hk : X.K = K := by rfl) :
    PE X (.Call (.Attribute o m apos) [] [] pos) (tMt K x m sp E0 ta tNil) := by
  subst hk
  obtain ⟨C, f, fd, hC, hM, hB, F⟩ := h.ex
  rw [← mt_eq hC.ns]
  exact pe_meth0 he hC.cl hM F hr hB .nil pass0 ht
theorem k_fld (K : PySem.W.Frag) {f : PySem.Str} (he : PE X e ta) (hb : attributeBase e f X.env (eval e X.env) = eval e X.env) (hk : X.K = K := by rfl) : PE X (.Attribute e f pos) (tFld K ta f) := by
  subst hk
  exact pe_fld he hb
theorem pe_mk0 {K : PySem.W.Frag} (h : FnK X.prog X.w K X.mg X.base CX0 k x as ps sp) (hr : Room (k + 1) X.A) (hg : Gl X x) (hdb : (x == ("__debug__" : PySem.Str)) = false := by decide) (hk : X.K = K := by rfl) :
    PE X (.Call (.Name x p) [] [] pos) (tMk K x as sp E0 tNil) := by
  subst hk
  obtain ⟨C, f, fd, hC, hM, hm, hB, F⟩ := h.ex
  have g := pe_make0 (p := p) (pos := pos) hM F hr hg hm hB .nil pass0 hdb
  refine ⟨fun pins s σ H Q I q => g.run pins s σ H Q I ?_⟩
  intro y dx h1 h2 h3
  exact q C y dx hC h1 h2 h3
theorem k_lstG (K : PySem.W.Frag) {es : List Expr} {k : Nat} {t : TGs} {n : Nat} {pos : Pos} (hc : X.calm = true) (h : PGs X es t)
    (hn : (assignEach es X.env).length = n := by rfl) (hst : (assignEach es X.env).findIdx? (·.1) = none := by rfl) (hk : X.K = K := by rfl) : PG X (.Tuple es k pos) (gLst K n t) := by
  subst hk
  exact pg_lst hc h hn hst
/-- a dict that is but walked from here on -/
def tFrz (td : TE) : TE := fun σ H Q => td σ H fun x H1 => ∃ (d : Addr) (kvs : List (Key × V)), x = .ref d ∧ H1 d = some (.dK kvs) ∧ ∀ od, Q (.ref d) (upd H1 d (.frz od (.dK kvs)))
theorem pe_frz {e : Expr} {td : TE} (h : PE X e td) : PE X e (tFrz td) := by
  refine ⟨fun pins s σ H Q I q => ?_⟩
  refine thn (h.run pins s σ H _ I q) fun v s1 ⟨x, H1, I1, r, d, kvs, ex, hd, q1⟩ => ?_
  subst ex
  obtain ⟨od, I2⟩ := I1.lock hd trivial
  exact ⟨.ref d, _, I2, r, q1 od⟩
/-- d == {}: and what it is where a pair stands in it -/
def rEqD0 : R2 := fun x y H Q => ∃ (a b : Addr) (ks : List (Key × V)), x = .ref a ∧ y = .ref b ∧ H a = some (.dK ks) ∧ H b = some (.dK []) ∧ Q (.bl ks.isEmpty) H
theorem op_eqD0 (hu : X.A.units < cLine) : OpR X (compareOp .Eq) rEqD0 := by
  intro pins s σ H x y v u Q I rx ry h
  obtain ⟨a, b, ks, rfl, rfl, ea, eb, q⟩ := h
  obtain rfl : v = Value.ref a := rx
  obtain rfl : u = Value.ref b := ry
  obtain ⟨_, ya, va, ra, da⟩ := (show ObjOk X.prog X.w H s.heap a (.dK ks) from I.hok a _ ea)
  obtain ⟨_, yb, vb, rb, db⟩ := (show ObjOk X.prog X.w H s.heap b (.dK []) from I.hok b _ eb)
  have hb : vb.length = 0 := by rw [← rb.length]; rfl
  have ha : va.length = ks.length := ra.length.symm
  refine PySem.W.keq_eq (knd := mixKind X.prog X.w) (r := true) ya yb da db hu (fun e => ?_) (fin_bl I q ?_)
  · have e0 : ks = [] := List.length_eq_zero_iff.mp (by omega)
    subst e0
    exact hits_all rb ra fun p hp => by cases hp
  · rw [hb, ha]
    cases ks <;> rfl
end
/-! ### readings -/
section
variable {σ : L2.St} {H : Hp} {Q : VK} {D : Ends} {K : PySem.W.Frag} {te td ta tv : TE} {tt : TT} {tr : TA} {s1 : TS} {g : TG} {vs : List Nat}
def rFld (K : PySem.W.Frag) (f : PySem.Str) (x : V) (H : Hp) (Q : VK) : Prop := ∃ a C dx fs v, x = .ref a ∧ H a = some (.ins C dx fs) ∧ Cls K C ∧ NoAttr K C f ∧ fs.lookup f = some v ∧ Q v H
theorem w_fld {f : PySem.Str} : tFld K ta f σ H Q = ta σ H fun x H1 => rFld K f x H1 Q := rfl
def rPutF (K : PySem.W.Frag) (f : PySem.Str) (x y : V) (H : Hp) (QH : Hp → Prop) : Prop := ∃ a C dx fs, x = .ref a ∧ H a = some (.ins C dx fs) ∧ Cls K C ∧ NoAttr K C f ∧ fs.length < 1000 ∧ QH (upd H a (.ins C dx (putF f y fs)))
theorem w_sfld {f : PySem.Str} : sFld K ta tv f D σ H = tv σ H fun y H1 => ta σ H1 fun x H2 => rPutF K f x y H2 fun H3 => D.nx σ H3 := rfl
theorem w_mt {x m : PySem.Str} {sp : Sp} {E : XK} : tMt K x m sp E ta tr σ H Q = ta σ H fun y H1 => IsO K x m y H1 ∧ tr σ H1 fun us H2 => sp (y :: us) H2 Q E := rfl
theorem w_mk {x : PySem.Str} {as : List PySem.Str} {sp : Sp} {E : XK} : tMk K x as sp E tr σ H Q = tr σ H fun us H1 => ∀ (C y dx : Addr), KCl K x as C → H1 y = none → H1 dx = none → dx ≠ y → sp (.ref y :: us) (upd (upd H1 dx (.own y)) y (.ins C dx [])) (fun v H2 => v = .non ∧ Q (.ref y) H2) E := rfl
theorem w_frz : tFrz td σ H Q = td σ H fun x H1 => ∃ (d : Addr) (kvs : List (Key × V)), x = .ref d ∧ H1 d = some (.dK kvs) ∧ ∀ od, Q (.ref d) (upd H1 d (.frz od (.dK kvs))) := rfl
theorem w_forI : tFor (iItems td) g s1 D σ H = td σ H fun x H1 => ∃ d o kvs, x = .ref d ∧ H1 d = some (.frz o (.dK kvs)) ∧ FJ (Iti d o kvs) g s1 D σ H1 := rfl
theorem w_forV : tFor (iVals td) g s1 D σ H = td σ H fun x H1 => ∃ d o kvs, x = .ref d ∧ H1 d = some (.frz o (.dK kvs)) ∧ FJ (Itd d o kvs) g s1 D σ H1 := rfl
theorem w_lcV : tLc (iVals td) g tt te vs σ H Q = td σ H fun x H1 => ∃ d o kvs, x = .ref d ∧ H1 d = some (.frz o (.dK kvs)) ∧ LJ (Itd d o kvs) g tt te vs σ H1 Q := rfl
theorem w_lockS {s : TS} : tLock s D σ H = ∃ d u, H d = some u ∧ Mut (some u) ∧ ∀ od, s ⟨fun σ' H' => H' d = some (.frz od u) ∧ D.nx σ' (upd H' d u), fun v H' => H' d = some (.frz od u) ∧ D.rt v (upd H' d u), fun σ' H' => H' d = some (.frz od u) ∧ D.bk σ' (upd H' d u), fun σ' H' => H' d = some (.frz od u) ∧ D.ct σ' (upd H' d u)⟩ σ (upd H d (.frz od u)) := rfl
theorem w_asgL {n : Nat} {t : TGs} : tAsg te (gLst K n t) D σ H = te σ H fun v H1 => ∃ a xs, v = .ref a ∧ SqL K H1 a xs ∧ xs.length = n ∧ t xs σ H1 D.nx := rfl
theorem w_gSub {to ti : TE} {ts : TSet} {v : V} {QN : L2.St → Hp → Prop} : gSub to ti ts v σ H QN = to σ H fun o H1 => ti σ H1 fun i H2 => ts o i v H2 fun H3 => QN σ H3 := rfl
theorem w_minV : tMinVals td σ H Q = td σ H fun x H1 => ∃ a kvs is, x = V.ref a ∧ H1 a = some (.dK kvs) ∧ kvs.map (·.2) = is.map V.int ∧ is ≠ [] ∧ ∀ m, m ∈ is → (∀ j ∈ is, m ≤ j) → Q (.int m) H1 := rfl
/-- over the pairs of a dict of whole numbers -/
theorem for_i {d : Addr} {o : Obj} {ks : List Nat} {f : Nat → V} (Pv : Nat → L2.St → Hp → Prop) (h0 : Pv 0 σ H) (hl : ∀ i σ H, i ≤ ks.length → Pv i σ H → H d = some (.frz o (.dK (dN ks f))))
    (hs : ∀ i k σ H T, ks[i]? = some k → i < ks.length → Pv i σ H → H T = none → ∀ N : L2.St → Hp → Prop, (∀ σ' H', Pv (i + 1) σ' H' → N σ' H') → g (.ref T) σ (upd H T (.tup [.int (k : Int), f k])) fun σ2 H2 => s1 { D with nx := N, ct := N, bk := D.nx } σ2 H2)
    (hd : ∀ σ H, Pv ks.length σ H → D.nx σ H) : FJ (Iti d o (dN ks f)) g s1 D σ H := by
  have el : (dN ks f).length = ks.length := dN_len ks f
  refine for_it (n := ks.length) (G := fun H => H d = some (.frz o (.dK (dN ks f)))) (Y := fun i H x H' => ∃ (T : Addr) (k : Nat), x = .ref T ∧ H T = none ∧ H' = upd H T (.tup [.int (k : Int), f k]) ∧ ks[i]? = some k) ?_ Pv h0 hl ?_ hd
  · refine ⟨fun i H hi q => ⟨q, by rw [el]; exact hi⟩, fun H q => ⟨q, by rw [el]; exact Nat.le_refl _⟩, fun i H x H' hi q y => ?_⟩
    obtain ⟨T, k, v, h1, h2, h3, h4⟩ := y
    unfold dN at h1
    rw [List.getElem?_map] at h1
    cases e : ks[i]? with
    | none =>
      rw [e] at h1
      cases h1
    | some n =>
      rw [e] at h1
      cases h1
      exact ⟨T, n, h2, h3, h4, rfl⟩
  · rintro i x σ H H' hi p ⟨T, k, rfl, hT, rfl, hk⟩
    exact hs i k σ H T hk hi p hT _ fun _ _ z => z
/-- over the values of a dict of whole numbers -/
theorem for_v {d : Addr} {o : Obj} {ks : List Nat} {f : Nat → V} (Pv : Nat → L2.St → Hp → Prop) (h0 : Pv 0 σ H) (hl : ∀ i σ H, i ≤ ks.length → Pv i σ H → H d = some (.frz o (.dK (dN ks f))))
    (hs : ∀ i k σ H, ks[i]? = some k → i < ks.length → Pv i σ H → ∀ N : L2.St → Hp → Prop, (∀ σ' H', Pv (i + 1) σ' H' → N σ' H') → g (f k) σ H fun σ2 H2 => s1 { D with nx := N, ct := N, bk := D.nx } σ2 H2)
    (hd : ∀ σ H, Pv ks.length σ H → D.nx σ H) : FJ (Itd d o (dN ks f)) g s1 D σ H := by
  have el : (dN ks f).length = ks.length := dN_len ks f
  refine for_it (n := ks.length) (G := fun H => H d = some (.frz o (.dK (dN ks f)))) (Y := fun i H x H' => H' = H ∧ ∃ k : Nat, x = f k ∧ ks[i]? = some k) ?_ Pv h0 hl ?_ hd
  · refine ⟨fun i H hi q => ⟨q, by rw [el]; exact hi⟩, fun H q => ⟨q, by rw [el]; exact Nat.le_refl _⟩, fun i H x H' hi q y => ?_⟩
    obtain ⟨h0, k, h1⟩ := y
    unfold dN at h1
    rw [List.getElem?_map] at h1
    cases e : ks[i]? with
    | none =>
      rw [e] at h1
      cases h1
    | some n =>
      rw [e] at h1
      cases h1
      exact ⟨h0, n, rfl, rfl⟩
  · rintro i x σ H H' hi p ⟨rfl, k, rfl, hk⟩
    exact hs i k σ _ hk hi p _ fun _ _ z => z
/-- a comprehension over the values of a locked dict -/
theorem lc_v {d : Addr} {o : Obj} {ks : List Nat} {f : Nat → V} (h : Nat → Option V) (hx : H d = some (.frz o (.dK (dN ks f)))) (hl : ks.length < sizeLine)
    (hs : ∀ (i k : Nat) (H' : Hp), ks[i]? = some k → Same H H' → ∀ (N0 : Hp → Prop) (N1 : VK), (h k = none → ∀ H2, Same H' H2 → N0 H2) → (∀ y, h k = some y → ∀ H2, Same H' H2 → N1 y H2) →
      g (f k) (wipe σ vs) H' fun σ2 H2 => wipe σ2 vs = wipe σ vs ∧ tt σ2 H2 fun b H3 => if b = true then te σ2 H3 N1 else N0 H3)
    (q : ∀ D H', H D = none → Same H H' → H' D = some (.lst (ks.filterMap h)) → Q (.ref D) H') : LJ (Itd d o (dN ks f)) g tt te vs σ H Q := by
  intro D hD
  have el : (dN ks f).length = ks.length := dN_len ks f
  refine ⟨fun j left Hw => left + j = ks.length ∧ Same H Hw ∧ Hw D = some (.lst ((ks.take j).filterMap h)), ⟨ks.length, Nat.add_zero _, same_new hD, by rw [upd_same]; simp⟩, fun j left Hw => ?_⟩
  rintro ⟨ej, p1, p2⟩
  rcases Nat.eq_zero_or_pos left with h0 | h0
  · left
    have e : j = ks.length := by omega
    subst e
    refine ⟨⟨p1 _ _ hx, by rw [el]; exact Nat.le_refl _⟩, q D Hw hD p1 ?_⟩
    rw [p2, List.take_length]
  · right
    have hj : j < ks.length := by omega
    refine ⟨⟨p1 _ _ hx, by rw [el]; exact hj⟩, fun Hz => Same H Hz ∧ Hz D = some (.lst ((ks.take (j + 1)).filterMap h)), fun Hz hz => ⟨left - 1, by omega, by omega, hz.1, hz.2⟩, fun x Hy hy => ?_⟩
    obtain ⟨e1, k, h1⟩ := hy
    subst e1
    unfold dN at h1
    rw [List.getElem?_map] at h1
    cases e : ks[j]? with
    | none =>
      rw [e] at h1
      cases h1
    | some n =>
      rw [e] at h1
      cases h1
      have hlen : ((ks.take j).filterMap h).length < sizeLine := Nat.lt_of_le_of_lt (Nat.le_trans (List.length_filterMap_le _ _) (by rw [List.length_take]; exact Nat.min_le_right _ _)) hl
      refine hs j n Hy e p1 _ _ (fun hf H2 k2 => ⟨p1.trans k2, ?_⟩) fun y hf H2 k2 => ⟨_, k2 _ _ p2, hlen, fun b o h => ?_, ?_⟩
      · rw [k2 _ _ p2, filt_take h e, hf]
        simp
      · rw [upd_ne (ne_of_none h hD)]
        exact k2 _ _ (p1 _ _ h)
      · rw [upd_same, filt_take h e, hf]
        rfl
end
end Pn
/-! PnX: exceptions of the program's own classes: made, raised, caught and kept in a name, asked for their class and field. -/
namespace Pn
open PySem PySem.Spec PyProof.Rows L2
/-- where the class of this name stands -/
def clA (K : PySem.W.Frag) (x : PySem.Str) : Addr := match PySem.W.nsIn K mainGlobals x with | some (some (.ref C)) => C | _ => 0
/-- an exception class of the program, over ValueError -/
structure EC (K : PySem.W.Frag) (mg : PySem.Str → Option Value) (x : PySem.Str) : Prop where
  at_ : mg x = some (.ref (clA K x))
  ox : OexC K (clA K x)
  is : ExcC K (clA K x)
/-- what it answers: asked for its class, in an except clause; that its field is no name of the class -/
structure ET (K : PySem.W.Frag) (x f : PySem.Str) (asks : List (PySem.Str × Bool)) : Prop where
  kit : ∀ p ∈ asks, PySem.W.kitOne K (.ref (clA K x)) (.ref (clA K p.1)) = some p.2
  ve : PySem.W.kitOne K (.ref (clA K x)) (.type "ValueError") = some true
  ex : PySem.W.exmOne K (.ref (clA K x)) (.ref (clA K "PowerError")) = some true
  no : PySem.W.findIn K (.ref (clA K x)) f = some none
theorem ExcC.xf {K : PySem.W.Frag} {C : Addr} (h : ExcC K C) : XfC K C := ⟨h.hg, h.hk, h.hs, h.hd⟩
/-- an exception object that is kept: its class, its dict -/
def xob (a : Addr) (cls : Value) (d : Option Addr) : HO := .ext fun h => ∃ (oe : Obj) (vs : Array Value), h.get? a = some oe ∧ Zc cls d oe ∧ oe.data = .fields vs
theorem xob_ok {P : Program} {w : World} {H : Hp} {h : Heap} {a : Addr} {cls : Value} {d : Option Addr} {oe : Obj} {vs : Array Value} (e : h.get? a = some oe) (z : Zc cls d oe) (hd : oe.data = .fields vs) : ObjOk P w H h a (xob a cls d) :=
  ⟨⟨oe, vs, e, z, hd⟩, ⟨oe, e⟩, fun _ _ ⟨o, v, q, r⟩ k => ⟨o, v, k o q, r⟩⟩
theorem xob_at {P : Program} {w : World} {H : Hp} {h : Heap} {a : Addr} {cls : Value} {d : Option Addr} (hok : HOk P w H h) (e : H a = some (xob a cls d)) : ∃ (oe : Obj) (vs : Array Value), h.get? a = some oe ∧ Zc cls d oe ∧ oe.data = .fields vs := by
  have x : ObjOk P w H h a (.ext fun h => ∃ (oe : Obj) (vs : Array Value), h.get? a = some oe ∧ Zc cls d oe ∧ oe.data = .fields vs) := hok a _ e
  exact x.1
section
variable {X : Cx} {pins : List (Addr × Obj)} {σ : L2.St} {H : Hp} {s : Shared} {a : Addr}
/-- an object that stands there and is new since the entry is tracked from here on -/
theorem track {cls : Value} {d : Option Addr} {oe : Obj} {vs : Array Value} (I : Inv X pins σ H s) (ge : s.heap.get? a = some oe) (z : Zc cls d oe) (dt : oe.data = .fields vs) (free : H a = none) (l1 : X.env.locals ≠ a)
    (new : X.s_0.heap.get? a = none) (far : ∀ p ∈ X.pn ++ pins, p.1 ≠ a) : Inv X pins σ (upd H a (xob a cls d)) s := by
  have off : ∀ {b : Addr} {o : HO}, H b = some o → b ≠ a := fun q => ne_of_none q free
  have lft : ∀ {b : Addr} {o : HO}, H b = some o → upd H a (xob a cls d) b = some o := fun q => (upd_ne (off q)).trans q
  constructor
  · exact I.ok
  · exact I.os
  · exact I.bare
  · have u := I.base
    constructor
    · exact u.keep
    · exact u.slot
    · intro b o q n hx
      rw [upd_ne (fun y => by rw [y, new] at q; cases q)]
      exact u.free b o q n hx
    · exact u.there
    · exact fun b xs q => lft (u.tups b xs q)
    · exact fun b o v q => lft (u.frzs b o v q)
    · intro b ps q
      obtain ⟨more, r⟩ := u.tbls b ps q
      exact ⟨more, lft r⟩
  · exact I.loc
  · exact I.cell
  · rw [upd_ne l1]
    exact I.free
  · intro x c q
    have ca : c ≠ a := by
      obtain ⟨v, o, r1, r2⟩ := I.cell x c q
      intro y
      rw [y, ge] at r1
      cases r1
      rw [dt] at r2
      cases r2
    rw [upd_ne ca]
    exact I.freeC x c q
  · intro p hp
    obtain ⟨p1, p2, p3⟩ := I.pin p hp
    exact ⟨p1, by rw [upd_ne (far p hp)]; exact p2, p3⟩
  · intro b o q
    by_cases y : b = a
    · subst y
      rw [upd_same] at q
      cases q
      exact xob_ok ge z dt
    · rw [upd_ne y] at q
      exact (I.hok b o q).stay (fun _ _ _ r => r) (fun _ r => lft r) fun _ _ r => lft r
  · exact I.len
end
/-- what the clause 'except x as n' wishes where every exception of the body is one of x, and the suite keeps it in a name -/
def wKeep (K : PySem.W.Frag) (c : Value) (i : Nat) (ts : Addr → Value → Option Addr → TS) (D : Ends) : WX := fun cls d σ H =>
  PySem.W.exmOne K cls c = some true ∧ ∀ a, H a = none → ts a cls d { nx := fun σ' H' => H' a = none → D.nx (σ'.set i none) (upd H' a (xob a cls d)), rt := D.rt, bk := fun σ' H' => D.bk (σ'.set i none) H', ct := fun σ' H' => D.ct (σ'.set i none) H' } (σ.set i (some (.ref a))) H
def tTryK (K : PySem.W.Frag) (c : Value) (i : Nat) (ts : Addr → Value → Option Addr → TS) (tb : WX → TS) : TS := fun D σ H => tb (wKeep K c i ts D) D σ H
section
variable {X : Cx} {x n : PySem.Str} {c : Value} {i : Nat} {body more : List Stmt} {b1 : Stmt} {p1 p2 p3 : Pos} {tb : WX → TS} {ts : Addr → Value → Option Addr → TS}
theorem ps_try_keep (st : X.stack = X.env :: X.outer) (fr : X.env.frame = some X.env.locals) (ex : X.ex = []) (nd : X.N.Nodup) (hi : X.N[i]? = some n) (kn : X.env.kindOf n = some .local) (nm : Names X x c)
    (hb : ∀ (W : WX) (pn : List (Addr × Obj)) (xe : Value → Shared → Prop), Takes (X.tr pn xe) W → PassesOwn (model X.prog X.w) X.A X.env xe → PSs (X.tr pn xe) body (tb W))
    (hsu : ∀ (a : Addr) (oe : Obj) (cls : Value) (d : Option Addr) (pn : List (Addr × Obj)), Zc cls d oe → (∃ vs, oe.data = .fields vs) → PSs (X.suite a ((a, oe) :: pn)) (b1 :: more) (ts a cls d)) :
    PS X (.Try body [.ExceptHandler (some (.Name x p1)) (some n) (b1 :: more) p2] [] [] p3) (tTryK X.K c i ts tb) := by
  constructor
  intro pins s σ H D I wish
  have ok := I.ok
  have afr : X.A.frames = some (X.env :: X.outer) := st ▸ ok.frames
  have run := (hb (wKeep X.K c i ts D) (X.pn ++ pins)
    (fun e t => wpAny (model X.prog X.w) X.A (noteFrame e X.env)
      (fun _ t1 => wpAny (model X.prog X.w) X.A (setFlight e none)
        (fun _ t2 => wpAny (model X.prog X.w) X.A (handleBy e X.env [.ExceptHandler (some (.Name x p1)) (some n) (b1 :: more) p2])
          (SP X pins D) X.xe t2) X.xe t1) X.xe t)
    (fun u t caught => ?_) PassesOwn.looking).run [] s σ H D (I.toTry _) wish
  · refine wpAny_Try_except (wpAny_mono run (fun f t done => ?_) fun _ _ y => y)
    cases f with
    | ret u =>
      obtain ⟨v, σ1, H1, I1, r1, q⟩ := done
      exact ⟨v, σ1, H1, I1.ofTry ok, r1, q⟩
    | next =>
      obtain ⟨σ1, H1, I1, q⟩ := done
      exact wpAny_execs_nil ⟨σ1, H1, I1.ofTry ok, q⟩
    | brk =>
      obtain ⟨σ1, H1, I1, q⟩ := done
      exact ⟨σ1, H1, I1.ofTry ok, q⟩
    | cont =>
      obtain ⟨σ1, H1, I1, q⟩ := done
      exact ⟨σ1, H1, I1.ofTry ok, q⟩
  · obtain ⟨a, B, sI, pins1, σ1, H1, cls, d, eu, I0, gr, up, sky, free, eos, bare, match_, go⟩ := caught
    subst eu
    have I1 : Inv X pins σ1 H1 sI := I0.ofTry ok
    rw [show (X.tr (X.pn ++ pins) _).stack = X.env :: X.outer from st] at sky
    show wpAny (model X.prog X.w) X.A (noteFrame (.ref a) X.env) _ _ _
    refine Sky.land Zc.steady afr fr sky fun h1 fl1 up1 => ?_
    obtain ⟨o1, v1, g1, z1, d1⟩ := fl1.there
    have L1 := I1.landed (s' := { t with heap := h1 }) gr fl1.1 (up.trans up1) eos bare
    -- where it can't stand
    have nfr : a ∉ frs (X.env :: X.outer) := by
      intro hm
      obtain ⟨_, o, go1, nf⟩ := fl1.2.2.1.mem hm
      rw [g1] at go1
      cases go1
      exact nf v1 d1
    have nloc : a ≠ X.env.locals := by
      intro y
      refine nfr (List.mem_filterMap.mpr ⟨X.env, List.mem_cons_self, ?_⟩)
      rw [fr, y]
    have nfs : a ∉ X.fs := by
      intro hm
      obtain ⟨e, he, q⟩ := List.mem_filterMap.mp hm
      exact nfr (List.mem_filterMap.mpr ⟨e, List.mem_cons_of_mem _ he, q⟩)
    have nI : sI.heap.get? a = none := by
      cases q : sI.heap.get? a with
      | none => rfl
      | some o =>
        have y := gr a o q (by rw [show (X.tr (X.pn ++ pins) _).stack = X.env :: X.outer from st]; exact nfr)
        rw [fl1.2.1] at y
        cases y
    have n0 : X.s_0.heap.get? a = none := by
      cases q : X.s_0.heap.get? a with
      | none => rfl
      | some o =>
        obtain ⟨o', y⟩ := I1.base.there a o q (by rw [ex]; exact List.not_mem_nil)
        rw [nI] at y
        cases y
    have far : ∀ p ∈ X.pn ++ pins, p.1 ≠ a := by
      intro p hp y
      have q := (I1.pin p hp).1
      rw [y, nI] at q
      cases q
    have C1 := L1.suite g1 d1 free nloc nfs
    refine wpAny_handleBy_cons (codeAny_handlers_test ?_) (fun y => by cases y)
    have ty : PySem.W.Looks (model X.prog X.w) h1 (typeOf (.ref a)) cls := fun _ _ _ _ k q => wpAny_typeOf_ref (k _ _ g1) (by rw [z1.1]; exact q)
    have named : ∀ {Q : Value → Shared → Prop} {E : Value → Shared → Prop}, Q c { t with heap := h1 } → wpAny (model X.prog X.w) (X.A.mark (some (.ref a))) (eval (.Name x p1) X.env) Q E { t with heap := h1 } := by
      intro Q E q
      rcases nm with ⟨y1, y2, y3 | ⟨y3, y4, y5⟩⟩
      · exact ld_glob C1 y1 y3 q y2
      · exact ld_blt C1 y1 y3 y4 q y5 y2
    refine named ((PySem.W.exm_one (M := model X.prog X.w) L1.kIn ty match_).here ?_)
    refine codeAny_handlers_suite_as ?_
    refine HandSPX.lands_againZ fl1 fun h2 fl2 up2 => ?_
    obtain ⟨o2, v2, g2, z2, d2⟩ := fl2.there
    have L2' := I1.landed (s' := { t with heap := h2 }) gr fl2.1 ((up.trans up1).trans up2) eos bare
    refine store_ok (X := X.suite a ((a, o2) :: (X.pn ++ pins))) (v := .ref a) (L2'.suite g2 d2 free nloc nfs) nd hi (.inl kn) rfl (fun t3 C3 => ?_) (.inr kn)
    refine wpAny_mono ((hsu a o2 cls d (X.pn ++ pins) z2 ⟨_, d2⟩).run [] t3 _ H1 _ C3 (go a free)) (fun f t4 done => ?_) fun _ _ y => y.elim
    have fin : ∀ {σ4 : L2.St} {H4 : Hp} {R : Shared → Prop}, Inv (X.suite a ((a, o2) :: (X.pn ++ pins))) [] σ4 H4 t4 → (∀ t5, Inv X pins (σ4.set i none) H4 t5 → R t5) →
        wpAny (model X.prog X.w) X.A (do bindName X.env n .none; unbindBehindTheSuite X.env n p2) (fun _ t5 => R t5) X.xe t4 :=
      fun C4 hR => gone_ok (C4.unsuite ok) nd hi kn hR
    cases f with
    | ret u =>
      obtain ⟨v, σ4, H4, C4, r4, q⟩ := done
      exact fin C4 fun _ J => ⟨_, _, _, J, r4, q⟩
    | brk =>
      obtain ⟨σ4, H4, C4, q⟩ := done
      exact fin C4 fun _ J => ⟨_, _, J, q⟩
    | cont =>
      obtain ⟨σ4, H4, C4, q⟩ := done
      exact fin C4 fun _ J => ⟨_, _, J, q⟩
    | next =>
      obtain ⟨σ4, H4, C4, q⟩ := done
      obtain ⟨g4, f4, _⟩ := C4.pin (a, o2) (List.mem_append_left _ List.mem_cons_self)
      have J4 := track (C4.unsuite ok) g4 z2 d2 f4 (Ne.symm nloc) n0 far
      exact gone_ok J4 nd hi kn fun _ J => ⟨_, _, J, q f4⟩
end

/-! ### calls of what may raise -/
def tFnS (sp : Sp) (W : WX) (t : TA) : TE := tCallS sp (WE W) t
def tMtS (K : PySem.W.Frag) (x m : PySem.Str) (sp : Sp) (W : WX) (ta : TE) (t : TA) : TE := fun σ H Q => ta σ H fun y H1 => IsO K x m y H1 ∧ t σ H1 fun vs H2 => sp (y :: vs) H2 Q (WE W σ)
section
variable {X : Cx} {W : WX} {k : Nat} {x m : PySem.Str} {as ps : List PySem.Str} {sp : Sp} {ta te to : TE} {t : TA} {o e : Expr} {es : List Expr} {p q1 q2 pos apos : Pos}
theorem k_fnX (tk : Takes X W) (h : Fn X.prog X.w X.K X.mg X.base (L2.CX X.prog X.w) k x ps sp) (hr : Room k X.A) (hg : Gl X x) (ha : PA X (e :: es) t) (hdb : (x == ("__debug__" : PySem.Str)) = false := by decide)
    (he : starEach (e :: es) X.env = (false, eval e X.env) :: starEach es X.env := by rfl) (hpl : (backTo pos (starEach es X.env)).any (·.1) = false := by rfl) :
    PE X (.Call (.Name x p) (e :: es) [] pos) (tFnS sp W t) := by
  obtain ⟨f, fd, a1, a2, a3, F⟩ := h.ex
  exact pe_callS F hr hg a1 a2 a3 (fun σ => passAt tk σ) ha hdb he hpl
theorem k_mtX {K : PySem.W.Frag} {pl : Sem Bool} (tk : Takes X W) (h : FnM X.prog X.w K X.mg X.base (L2.CX X.prog X.w) k x as m ps sp) (hr : Room k X.A) (he : PE X o ta) (ha : PA X (e :: es) t)
    (hst : starEach (e :: es) X.env = (false, eval e X.env) :: starEach es X.env := by rfl) (hpl : (backTo pos (starEach es X.env)).any (·.1) = false := by rfl)
    (ht : eval (.Call (.Attribute o m apos) (e :: es) [] pos) X.env = (do
      let ov ← eval o X.env
      standAt apos.atName
      let (f, first) ← holding [ov] (getMethod ov m pl)
      callWith pos f first (backTo pos (starEach (e :: es) X.env)) (backToKw pos (keywordEach [] X.env))) := by rfl) (hk : X.K = K := by rfl) :
    PE X (.Call (.Attribute o m apos) (e :: es) [] pos) (tMtS K x m sp W ta t) := by
  subst hk
  obtain ⟨C, f, fd, hC, hM, hB, F⟩ := h.ex
  constructor
  intro pins s σ H Q I wish
  have first := he.run pins s σ H _ I wish
  refine PySem.W.methodCall_KW (pl := pl) (thn first fun u s1 y => ?_) ht
  obtain ⟨v, H1, I1, rv, ⟨a, C1, dx, fs, rfl, at1, n1, l1⟩, more⟩ := y
  have eC : C1 = C := by
    have z := n1.symm.trans hC.ns
    cases z
    rfl
  subst eC
  have eu : u = Value.ref a := rv
  subst eu
  refine getmeth_ok I1 at1 hC.cl hM l1 (PySem.W.callWith_K (first := [.ref a]) (h₀ := X.base) I1.ok.mod.kin hM.kp (thn (ha.run pos pins s1 σ H1 _ I1 more) fun us s2 y => ?_) hst hpl)
  obtain ⟨vs, H2, I2, r2, more2⟩ := y
  exact ⟨I2.kIn, run_fnS (us := Value.ref a :: us) F hr hB (passAt tk σ) I2 (.cons rv r2) more2⟩
/-! ### made and raised -/
/-- how one is made: its own __init__ takes one value -/
structure FnE (P : Program) (w : World) (K : PySem.W.Frag) (mg : PySem.Str → Option Value) (base : Heap) (k : Nat) (x : PySem.Str) (ps : List PySem.Str) (sp : Sp) : Prop where
  ec : EC K mg x
  ex : ∃ (f : Addr) (fd : FuncData), PySem.W.findIn K (.ref (clA K x)) "__init__" = some (some (.ref f)) ∧ PySem.W.typeIn K (.ref f) = some (.type "function") ∧ Binds K fd ps [] ∧ FnOk P w K mg base CX0 k f fd ps sp
/-- the promise of such an __init__: the value is kept as the field fld -/
def spE (K : PySem.W.Frag) (x fld : PySem.Str) (good : V → Prop) : Sp := fun vs H Q _ => ∃ (a : Addr) (v : V), vs = [.ref a, v] ∧ good v ∧ H a = some (exo a (clA K x) none) ∧ ∀ d, H d = none → d ≠ a → Q .non (upd (upd H d (exd d [(fld, v)])) a (exo a (clA K x) (some d)))
/-- a reading made weaker -/
def wk (te : TE) : TE := fun σ H Q => ∃ Q0, te σ H Q0 ∧ ∀ v H1, Q0 v H1 → Q v H1
theorem pe_wk (h : PE X e te) : PE X e (wk te) := ⟨fun pins s σ H Q I ⟨Q0, h0, h1⟩ => thn (h.run pins s σ H Q0 I h0) fun _ _ ⟨v, H1, I1, r, q⟩ => ⟨v, H1, I1, r, h1 v H1 q⟩⟩
theorem heap_made {H : Hp} {a d : Addr} {o1 o2 o3 o4 : HO} (ha : H a = none) (hda : d ≠ a) : upd (del (upd (upd (upd H a o1) d o2) a o3) a) d o4 = upd H d o4 := by
  funext b
  by_cases e : b = d
  · rw [e, upd_same, upd_same]
  · rw [upd_ne e, upd_ne e]
    by_cases c : b = a
    · rw [c, del_same, ha]
    · rw [del_ne c, upd_ne c, upd_ne e, upd_ne c]
/-- X(e), with its own __init__ -/
def tMkF (K : PySem.W.Frag) (x fld : PySem.Str) (good : V → Prop) (te : TE) : L2.St → Hp → XK → Prop := fun σ H Q => te σ H fun v H1 => good v ∧ ∀ d, H1 d = none → Q (.ref (clA K x)) (some d) (upd H1 d (.xd [(fld, v)]))
theorem k_made {fld : PySem.Str} {good : V → Prop} (h : FnE X.prog X.w X.K X.mg X.base k x ps (spE X.K x fld good)) (hr : Room (k + 1) X.A) (hg : Gl X x) (he : PE X e te) (hdb : (x == ("__debug__" : PySem.Str)) = false := by decide)
    (hs : starEach [e] X.env = (false, eval e X.env) :: starEach [] X.env := by rfl) (hpl : (backTo pos (starEach [] X.env)).any (·.1) = false := by rfl) : PMk X (.Call (.Name x p) [e] [] pos) (tMkF X.K x fld good te) := by
  obtain ⟨f, fd, fi, ty, hB, F⟩ := h.ex
  have made := pmk_oex (p := p) (dvs := []) h.ec.ox fi ty F hr hB .nil pass0 hg h.ec.at_ (pa_cons (pe_wk he) pa_nil hs) hdb hs hpl
  intro pins s σ H Q I wish
  refine made pins s σ H Q I ⟨_, wish, ?_⟩
  rintro v H1 ⟨g1, g2⟩
  refine ⟨by show 1 ≤ 1000; decide, fun a ha => ⟨a, v, rfl, g1, upd_same, fun d hd hda => ⟨rfl, d, [(fld, v)], upd_same, (upd_ne hda).trans upd_same, (upd_ne hda).symm.trans hd, ?_⟩⟩⟩
  rw [heap_made ha hda]
  exact g2 d ((upd_ne hda).symm.trans hd)
/-- raise X(e) -/
def tRaiseF (K : PySem.W.Frag) (x fld : PySem.Str) (good : V → Prop) (W : WX) (te : TE) : TS := fun _ σ H => te σ H fun v H1 => good v ∧ ∀ d, H1 d = none → W (.ref (clA K x)) (some d) σ (upd H1 d (.xd [(fld, v)]))
theorem k_raise {fld : PySem.Str} {good : V → Prop} (hc : X.calm = true) (tk : Takes X W) (h : FnE X.prog X.w X.K X.mg X.base k x ps (spE X.K x fld good)) (hr : Room (k + 1) X.A) (hg : Gl X x) (he : PE X e te) (hdb : (x == ("__debug__" : PySem.Str)) = false := by decide)
    (hs : starEach [e] X.env = (false, eval e X.env) :: starEach [] X.env := by rfl) (hpl : (backTo q1 (starEach [] X.env)).any (·.1) = false := by rfl) : PS X (.Raise (some (.Call (.Name x p) [e] [] q1)) none pos) (tRaiseF X.K x fld good W te) :=
  ps_raise hc tk (k_made h hr hg he hdb hs hpl)
/-! ### B.__init__(self, ..), B a class of the program that takes ValueError's -/
structure BI (K : PySem.W.Frag) (mg : PySem.Str → Option Value) (x : PySem.Str) : Prop where
  at_ : mg x = some (.ref (clA K x))
  rd : PySem.W.readsIn K (clA K x) (.type "type") = true
  ga : PySem.W.specialIn K (.ref (clA K x)) "__getattribute__" = some (some (.builtin "type.__getattribute__"))
  fi : PySem.W.findCls K (.ref (clA K x)) (.type "type") "__init__" = some (.val (.builtin "ValueError.__init__"))
theorem k_binit {pl : Sem Bool} (h : BI X.K X.mg x) (hg : Gl X x) (ha : PA X (e :: es) t) (hdb : (x == ("__debug__" : PySem.Str)) = false := by decide)
    (hc : eval (.Call (.Attribute (.Name x q1) "__init__" q2) (e :: es) [] pos) X.env = (do
      let ov ← eval (.Name x q1) X.env
      standAt q2.atName
      let (f, first) ← holding [ov] (getMethod ov "__init__" pl)
      callWith pos f first (backTo pos (starEach (e :: es) X.env)) (backToKw pos (keywordEach [] X.env))) := by rfl)
    (hs : starEach (e :: es) X.env = (false, eval e X.env) :: starEach es X.env := by rfl) (hpl : (backTo pos (starEach es X.env)).any (·.1) = false := by rfl) :
    PE X (.Call (.Attribute (.Name x q1) "__init__" q2) (e :: es) [] pos) (tVeI X.K t) := by
  constructor
  intro pins s σ H Q I wish
  refine PySem.W.methodCall_KW (ld_glob I hg h.at_ (PySem.W.method_cls I.kIn h.ga (PySem.W.cls_value I.kIn h.rd h.fi (by decide +kernel) ?_)) hdb) hc
  show wpAny _ _ (callWith pos (Value.builtin "ValueError.__init__") [] (backTo pos (starEach (e :: es) X.env)) []) _ _ _
  have args := ha.run pos pins _ σ H _ (I.tok (s.toks + 1)) wish
  refine PyProof.Rows.callWith_method1 (thn args fun us s1 y => ?_) hs hpl
  obtain ⟨vs, H1, I1, r1, a, C, ws, rfl, n1, T, at1, more⟩ := y
  cases r1 with
  | @cons _ u _ ur ru rw1 =>
    have eu : u = Value.ref a := ru
    subst eu
    have small : ur.length ≤ sizeLine := by
      have z := rw1.length
      rw [← z, sizeLine_eq]
      omega
    exact oinit_ok T I1 at1 small fun s2 J => ⟨.non, H1, J, rfl, more⟩
/-! ### a kept exception asked -/
/-- its class is x's; its one field fld holds v -/
def XO (K : PySem.W.Frag) (H : Hp) (a : Addr) (x fld : PySem.Str) (v : V) : Prop := ∃ d, H a = some (xob a (.ref (clA K x)) (some d)) ∧ H d = some (.xd [(fld, v)])
theorem XO.same {K : PySem.W.Frag} {H H' : Hp} {a : Addr} {x fld : PySem.Str} {v : V} (h : XO K H a x fld v) (s : Same H H') : XO K H' a x fld v := let ⟨d, h1, h2⟩ := h; ⟨d, s _ _ h1, s _ _ h2⟩
def rIsX (K : PySem.W.Frag) : List V → Hp → VK → Prop := fun xs H Q => ∃ (c v : V) (cv : Value) (a : Addr) (x fld : PySem.Str) (b : Bool), xs = [.ref a, c] ∧ XO K H a x fld v ∧ ExcC K (clA K x) ∧ (∀ u, RelV c u → u = cv) ∧ PySem.W.kitOne K (.ref (clA K x)) cv = some b ∧ Q (.bl b) H
theorem xo_inst {X : Cx} {pins : List (Addr × Obj)} {σ : L2.St} {H : Hp} {s : Shared} {a d C : Addr} {fs : List (PySem.Str × V)} (I : Inv X pins σ H s) (h1 : H a = some (xob a (.ref C) (some d))) (h2 : H d = some (.xd fs)) :
    ∃ (oe od : Obj) (mA : PySem.Str → Option Value), PySem.W.InstAt s.heap a oe C (some od) ∧ s.heap.get? d = some od ∧ s.heap.Ns1 d mA ∧ (∀ f, RelO (fs.lookup f) (mA f)) ∧ ∀ n, PySem.W.lookIn n od = some (mA n) := by
  obtain ⟨oe, vs, g, z, dt⟩ := xob_at I.hok h1
  have hx : ObjOk X.prog X.w H s.heap d (.xd fs) := I.hok d _ h2
  obtain ⟨mA, ns, rl⟩ := hx
  obtain ⟨od, go, lk⟩ := lookIn_ns ns
  refine ⟨oe, od, mA, ⟨g, z.1, ?_, ?_⟩, go, ns, rl, lk⟩
  · unfold PySem.W.notCls
    rw [dt] <;> rfl
  · rw [z.2]
    exact go
theorem k_isX (K : PySem.W.Frag) (hk : X.K = K := by rfl) : CallR X (.builtin "isinstance") (rIsX K) := by
  subst hk
  intro pins s σ H xs us Q I r wish
  obtain ⟨c, v, cv, a, x, fld, b, rfl, ⟨d, h1, h2⟩, ec, hc, hb, q⟩ := wish
  cases r with
  | cons r1 r2 =>
    cases r2 with
    | cons r3 r4 =>
      cases r4
      cases r1
      have e3 := hc _ r3
      subst e3
      obtain ⟨oe, od, mA, J, _⟩ := xo_inst I h1 h2
      have cl : (PySem.W.clsIn X.K (clA X.K x)).isSome = true := by
        obtain ⟨cd, y, _⟩ := PySem.W.any_some ec.hd
        rw [y]
        rfl
      exact PySem.W.kia_one (PySem.W.kitx_exc cl ec.hg ec.hk ec.hs ec.ha ec.hn ec.ht ec.hm) I.kIn J hb (fun y => nomatch y) fun tk => ⟨.bl b, H, I.tok tk, rfl, q⟩
/-- e.f of such -/
def rXf (K : PySem.W.Frag) (f : PySem.Str) (y : V) (H : Hp) (Q : VK) : Prop := ∃ (a : Addr) (x : PySem.Str) (v : V), y = .ref a ∧ XO K H a x f v ∧ ExcC K (clA K x) ∧ PySem.W.findIn K (.ref (clA K x)) f = some none ∧ Q v H
def tXfK (K : PySem.W.Frag) (f : PySem.Str) (te : TE) : TE := fun σ H Q => te σ H fun y H1 => rXf K f y H1 Q
theorem k_xf (K : PySem.W.Frag) {f : PySem.Str} (he : PE X e te) (hb : attributeBase e f X.env (eval e X.env) = eval e X.env := by rfl) (hk : X.K = K := by rfl) : PE X (.Attribute e f pos) (tXfK K f te) := by
  subst hk
  constructor
  intro pins s σ H Q I wish
  refine attr_of hb (thn (he.run pins s σ H _ I wish) fun u s1 y => ?_)
  obtain ⟨y, H1, I1, r1, a, x, v, rfl, ⟨d, h1, h2⟩, ec, no, q⟩ := y
  have eu : u = Value.ref a := r1
  subst eu
  obtain ⟨oe, od, mA, J, go, ns, rl, lk⟩ := xo_inst I1 h1 h2
  have l1 : List.lookup f [(f, v)] = some v := by simp [List.lookup]
  have r2 := rl f
  rw [l1] at r2
  obtain ⟨w, ew, rw2⟩ := RelO.some_of r2
  exact HandSPX.exc_get I1.kIn J ec.hg ec.hk ec.hs (PySem.W.findObj_own ec.hd no rfl (by rw [lk, ew])) (handed_of rw2) ⟨v, H1, I1.tok _, rw2, q⟩
end
/-! ### how often a flat value stands in a list, in a tuple -/
def rCntF (S : PySem.W.Frag → Hp → Addr → List V → Prop) (K : PySem.W.Frag) : V → List V → Hp → VK → Prop := fun x xs H Q => ∃ (p : Addr) (ys : List V) (y : V), x = .ref p ∧ xs = [y] ∧ S K H p ys ∧ flatV y = true ∧ ys.all flatV = true ∧ Q (.int ((ys.countP fun z => eqV z y : Nat) : Int)) H
theorem count_eqU {x : V} : ∀ {xs : List V} {us : List Value}, Vals xs us → xs.all flatV = true → us.countP (eqU x) = xs.countP fun y => eqV y x
  | _, _, .nil, _ => rfl
  | y :: xs, u :: us, .cons r t, f => by
    rw [List.all_cons, Bool.and_eq_true] at f
    rw [List.countP_cons, List.countP_cons, eqU_of r f.1, count_eqU t f.2]
theorem k_countF {X : Cx} (K : PySem.W.Frag) (hk : X.K = K := by rfl) : MtR X "list.count" (rCntF SqL K) := by
  subst hk
  intro pins s σ H x xs v us Q I rx rxs wish
  obtain ⟨p, ys, y, rfl, rfl, hs, fy, fs, q⟩ := wish
  cases rx
  obtain ⟨u, rfl, ru⟩ := rxs.one
  obtain ⟨its, rv, ⟨⟨c0, d0, b0, l0⟩, n, at1, e1, e2, e3⟩, small⟩ := I.list hs
  simp only at e1 e3
  subst e1 e3
  have z := count_eqU (x := y) rv fs
  refine call_meets PySem.F.slot_list_count ⟨_, at1, rfl⟩ PySem.F.entry_list_count (PySem.F.args_list_count_2 _ _) (SeqAt.list_countAt p its.toArray n d0 l0 u (eqU y)) ⟨at1, fun w hw => mem_eqAt ru fy rv fs w (by simpa using hw), ?_⟩
  exact ⟨.int ((ys.countP fun z => eqV z y : Nat) : Int), H, I.tok _, ⟨s.toks, by rw [← z]⟩, q⟩
theorem k_countT {X : Cx} (K : PySem.W.Frag) (hk : X.K = K := by rfl) : MtR X "tuple.count" (rCntF SqT K) := by
  subst hk
  intro pins s σ H x xs v us Q I rx rxs wish
  obtain ⟨p, ys, y, rfl, rfl, hs, fy, fs, q⟩ := wish
  cases rx
  obtain ⟨u, rfl, ru⟩ := rxs.one
  obtain ⟨its, rv, ⟨⟨c0, d0, b0, l0⟩, at1, e1, n, e3⟩, small⟩ := I.tuple hs
  simp only at e1 e3
  subst e1 e3
  have z := count_eqU (x := y) rv fs
  refine call_meets PySem.F.slot_tuple_count ⟨_, at1, rfl⟩ PySem.F.entry_tuple_count (PySem.F.args_tuple_count_2 _ _) (SeqAt.tuple_countAt p its.toArray n d0 l0 u (eqU y)) ⟨at1, fun w hw => mem_eqAt ru fy rv fs w (by simpa using hw), ?_⟩
  exact ⟨.int ((ys.countP fun z => eqV z y : Nat) : Int), H, I.tok _, ⟨s.toks, by rw [← z]⟩, q⟩
/-! ### a tuple of which it is known that it has no dict: its methods -/
def rTupF (K : PySem.W.Frag) : List V → Hp → VK → Prop := fun xs H Q => ∃ p ys, xs = [.ref p] ∧ SqL K H p ys ∧ ∀ (l : Addr) (o : Obj), H l = none → o.cls = .type "tuple" → o.dict = none → Q (.ref l) (upd H l (.frz o (.tup ys)))
theorem k_tupleF {X : Cx} (K : PySem.W.Frag) (hk : X.K = K := by rfl) : CallR X (.type "tuple") (rTupF K) := by
  subst hk
  intro pins s σ H xs us Q I r wish
  obtain ⟨p, ys, rfl, hs, q⟩ := wish
  cases r with
  | cons r1 r2 =>
    cases r2
    cases r1
    obtain ⟨its, rv, pl, small⟩ := I.list hs
    have hlen := rv.length
    refine call_tuple_list pl.isList (fun h1 k1 => ?_) (by simp only [List.size_toArray] <;> omega)
    have I1 : Inv X pins σ H { s with heap := h1 } := I.kept (t' := s.toks) k1
    have ok : ObjOk X.prog X.w (upd H h1.objs.size (.frz { cls := .type "tuple", data := .seq its.toArray } (.tup ys))) (h1.push { cls := .type "tuple", data := .seq its.toArray }) h1.objs.size (.frz { cls := .type "tuple", data := .seq its.toArray } (.tup ys)) :=
      ⟨Heap.get?_push_at rfl rfl, small, its, rv, IsTup.new _ _⟩
    have I2 := I1.laid (t' := s.toks) (h' := h1.push { cls := .type "tuple", data := .seq its.toArray }) (fun b o e => Heap.get?_push_of_some _ e) (Nat.le_refl _) ok
    exact ⟨.ref h1.objs.size, _, I2, rfl, q _ _ (I1.hok.fresh (Nat.le_refl _)) rfl rfl⟩
def isF (T : String) (x : V) (H : Hp) : Prop := ∃ (p : Addr) (o : Obj) (u : HO), x = .ref p ∧ H p = some (.frz o u) ∧ o.cls = .type T ∧ o.dict = none
def tBMF (T : String) (r : V → List V → Hp → VK → Prop) (to : TE) (t : TA) : TE := fun σ H Q => to σ H fun x H1 => isF T x H1 ∧ t σ H1 fun xs H2 => r x xs H2 Q
theorem pe_bmF {X : Cx} {T id : String} {name : PySem.Str} {r : V → List V → Hp → VK → Prop} {o e : Expr} {es : List Expr} {to : TE} {t : TA} {apos cpos : Pos} (pa : PlainAttrs T) (slot : Slot T name id) (hty : typeOf (.builtin id) = pure (.type "method_descriptor")) (hm : MtR X id r) (ho : PE X o to) (ha : PA X (e :: es) t)
    (hbase : attributeBase o name X.env (eval o X.env) = eval o X.env := by rfl)
    (hfew : ((backTo cpos (starEach (e :: es) X.env)).all (fun x => !x.1) && (backToKw cpos (keywordEach [] X.env)).all (fun x => x.1.isSome)
      && decide ((e :: es).length + ([] : List Keyword).length + (if ([] : List Keyword).isEmpty then 0 else 1) < 30)) = true := by rfl)
    (hline : (apos.endLine == cpos.line) = true := by rfl) (hs : starEach (e :: es) X.env = (false, eval e X.env) :: starEach es X.env := by rfl) (hplain : (backTo cpos (starEach es X.env)).any (·.1) = false := by rfl) :
    PE X (.Call (.Attribute o name apos) (e :: es) [] cpos) (tBMF T r to t) := by
  constructor
  intro pins s σ H Q I wish
  refine wpAny_Call_method_late hbase hfew hline rfl (thn (ho.run pins s σ H _ I wish) fun v s1 y => ?_)
  obtain ⟨x, H1, I1, r1, ⟨p, ob, u, rfl, at1, e1, e2⟩, more⟩ := y
  have ev : v = Value.ref p := r1
  subst ev
  obtain ⟨get, _⟩ := (show ObjOk X.prog X.w H1 s1.heap p (.frz ob u) from I1.hok p _ at1)
  refine ⟨T, id, pa, slot, hty, ⟨ob, get, e1⟩, fun a ea => ?_, ?_⟩
  · cases ea
    exact ⟨ob, get, e2⟩
  · have args := ha.run cpos pins s1 σ H1 _ I1 more
    rw [hs] at args ⊢
    refine Calls.callWith_builtin (by show (false || (backTo cpos (starEach es X.env)).any (·.1)) = false; rw [hplain] <;> rfl) (Calls.evalArgs_plain ?_)
    exact thn args fun us s2 ⟨vs, H2, I2, r2, q2⟩ => hm pins s2 σ H2 (.ref p) vs (.ref p) us Q I2 rfl r2 q2
/-! ### readings -/
section
variable {σ : L2.St} {H : Hp} {Q : VK} {D : Ends} {K : PySem.W.Frag} {W : WX} {te ta : TE} {tr : TA} {sp : Sp}
theorem w_fnX : tFnS sp W tr σ H Q = tr σ H fun vs H1 => sp vs H1 Q (fun cls d H2 => W cls d σ H2) := rfl
theorem w_mtX {x m : PySem.Str} : tMtS K x m sp W ta tr σ H Q = ta σ H fun y H1 => IsO K x m y H1 ∧ tr σ H1 fun us H2 => sp (y :: us) H2 Q (fun cls d H3 => W cls d σ H3) := rfl
theorem w_raise {x fld : PySem.Str} {good : V → Prop} : tRaiseF K x fld good W te D σ H = te σ H fun v H1 => good v ∧ ∀ d, H1 d = none → W (.ref (clA K x)) (some d) σ (upd H1 d (.xd [(fld, v)])) := rfl
theorem w_bmF {T : String} {r : V → List V → Hp → VK → Prop} {to : TE} : tBMF T r to tr σ H Q = to σ H fun x H1 => isF T x H1 ∧ tr σ H1 fun xs H2 => r x xs H2 Q := rfl
theorem w_xf {f : PySem.Str} : tXfK K f te σ H Q = te σ H fun y H1 => rXf K f y H1 Q := rfl
theorem w_binit : tVeI K tr σ H Q = tr σ H fun vs H1 => ∃ (a C : Addr) (ws : List V), vs = .ref a :: ws ∧ ws.length ≤ 1000 ∧ OexC K C ∧ H1 a = some (exo a C none) ∧ Q .non H1 := rfl
theorem w_ost {f : PySem.Str} {to : TE} : tOst K f to te D σ H = te σ H fun y H1 => to σ H1 fun x H2 => ∃ a C : Addr, x = .ref a ∧ OexC K C ∧ PySem.W.findIn K (.ref C) f = some none ∧
  ((H2 a = some (exo a C none) ∧ ∀ dx, H2 dx = none → dx ≠ a → D.nx σ (upd (upd H2 dx (exd dx [(f, y)])) a (exo a C (some dx)))) ∨
    ∃ (dx : Addr) (fs : List (PySem.Str × V)), H2 a = some (exo a C (some dx)) ∧ H2 dx = some (exd dx fs) ∧ fs.length ≤ 900 ∧ D.nx σ (upd H2 dx (exd dx ((f, y) :: fs)))) := rfl
theorem w_tryK {c : Value} {i : Nat} {ts : Addr → Value → Option Addr → TS} {tb : WX → TS} : tTryK K c i ts tb D σ H = tb (wKeep K c i ts D) D σ H := rfl
theorem w_keep {c : Value} {i : Nat} {ts : Addr → Value → Option Addr → TS} {cls : Value} {d : Option Addr} : wKeep K c i ts D cls d σ H = (PySem.W.exmOne K cls c = some true ∧ ∀ a, H a = none → ts a cls d { nx := fun σ' H' => H' a = none → D.nx (σ'.set i none) (upd H' a (xob a cls d)), rt := D.rt, bk := fun σ' H' => D.bk (σ'.set i none) H', ct := fun σ' H' => D.ct (σ'.set i none) H' } (σ.set i (some (.ref a))) H) := rfl
end
end Pn
namespace Pn
open PySem PySem.Spec PyProof.Rows L2
/-! ### a dict of counts -/
/-- the counts of l stand at a, for the keys ks -/
structure CD (H : Hp) (a : Addr) (l ks : List Nat) : Prop where
  at_ : H a = some (.dK (dN ks fun k => .int ((l.count k : Nat) : Int)))
  nd : ks.Nodup
  all : ∀ x ∈ l, x ∈ ks
  rng : ∀ x ∈ ks, 2 ≤ x ∧ x ≤ 1000000
theorem keys_len {ks : List Nat} (h : ks.Nodup) (r : ∀ x ∈ ks, 2 ≤ x ∧ x ≤ 1000000) : ks.length ≤ 1000000 := by
  have h1 := List.Nodup.length_le_of_subset (l₂ := List.range' 1 1000000) h (fun x hx => by
    have := r x hx
    rw [List.mem_range'_1]
    omega)
  rwa [List.length_range'] at h1
theorem two_len {l : List Nat} (h : ∀ x ∈ l, 2 ≤ x) : 2 ^ l.length ≤ prodL l := by
  induction l with
  | nil => exact Nat.le_refl _
  | cons a l ih =>
    rw [List.length_cons, Nat.pow_succ, prodL_cons, Nat.mul_comm]
    exact Nat.mul_le_mul (h a List.mem_cons_self) (ih fun x hx => h x (List.mem_cons_of_mem _ hx))
theorem pf_len {n : Nat} (h1 : 1 ≤ n) (h : n ≤ 1000000) : (pf n).length < 20 := by
  have h2 := two_len (l := pf n) fun x hx => (pf_mem hx).1
  rw [pf_prod h1] at h2
  exact (Nat.pow_lt_pow_iff_right (by omega : 1 < 2)).mp (Nat.lt_of_le_of_lt h2 (Nat.lt_of_le_of_lt h (by decide)))
theorem CD.len {H : Hp} {a : Addr} {l ks : List Nat} (h : CD H a l ks) : ks.length ≤ 1000000 := by
  have h1 := List.Nodup.length_le_of_subset (l₂ := List.range' 1 1000000) h.nd (fun x hx => by
    have := h.rng x hx
    rw [List.mem_range'_1]
    omega)
  rwa [List.length_range'] at h1
theorem CD.same {H H' : Hp} {a : Addr} {l ks : List Nat} (h : CD H a l ks) (s : Same H H') : CD H' a l ks := ⟨s _ _ h.at_, h.nd, h.all, h.rng⟩
theorem CD.to {H H' : Hp} {a : Addr} {l ks : List Nat} (h : CD H a l ks) (e : H' a = H a) : CD H' a l ks := ⟨e.trans h.at_, h.nd, h.all, h.rng⟩
theorem count_snoc (l : List Nat) (m : Nat) : (fun k : Nat => V.int (((l ++ [m]).count k : Nat) : Int)) = fun k => if k = m then V.int (((l.count m : Nat) : Int) + 1) else V.int ((l.count k : Nat) : Int) := by
  funext k
  rw [List.count_append]
  by_cases c : k = m
  · subst c
    rw [if_pos rfl]
    simp
  · rw [if_neg c]
    have : ([m] : List Nat).count k = 0 := List.count_eq_zero_of_not_mem fun z => c (by simpa using z)
    rw [this]
    rfl
/-- one more of m is counted -/
theorem CD.put {H : Hp} {a : Addr} {l ks : List Nat} {m : Nat} (h : CD H a l ks) (h2 : 2 ≤ m) (h3 : m ≤ 1000000) : ∃ H' ks', DPut H a (.int (m : Int)) (.int (((l.count m : Nat) : Int) + 1)) H' ∧ H' = upd H a (.dK (dN ks' fun k => .int (((l ++ [m]).count k : Nat) : Int))) ∧ CD H' a (l ++ [m]) ks' ∧ ∀ x, x ∈ ks' ↔ x ∈ ks ∨ x = m := by
  have hz := h.len
  have p := dN_upd (m := m) (v := .int (((l.count m : Nat) : Int) + 1)) h.at_ (size_le hz)
  obtain ⟨g1, g2, g3⟩ := put_nodup (x := m) h.nd
  rw [← count_snoc] at p
  refine ⟨_, _, p, rfl, ⟨upd_same, g1, fun x hx => ?_, fun x hx => ?_⟩, g2⟩
  · rw [g2]
    rcases List.mem_append.mp hx with c | c
    · exact .inl (h.all x c)
    · simp at c
      exact .inr c
  · rcases (g2 x).mp hx with c | c
    · exact h.rng x c
    · omega
/-- what the dict tells of m -/
theorem CD.get {H : Hp} {a : Addr} {l ks : List Nat} {m : Nat} (h : CD H a l ks) : ∃ o : Option V, DGet H a (.int (m : Int)) o ∧ o.getD (.int 0) = .int ((l.count m : Nat) : Int) := by
  refine ⟨_, dN_get (m := m) h.at_, ?_⟩
  by_cases c : m ∈ ks
  · rw [if_pos c]
    rfl
  · rw [if_neg c, List.count_eq_zero_of_not_mem fun z => c (h.all m z)]
    rfl
theorem CD.isD {H : Hp} {a : Addr} {l ks : List Nat} (h : CD H a l ks) : IsD H a := .inl ⟨_, .inl h.at_⟩
/-! ### a kept product -/
theorem k_no : ¬ (("numbers" : PySem.Str) = "often") := by decide +kernel
def kpF (ln lo : Addr) : List (PySem.Str × V) := putF "often" (.ref lo) (putF "numbers" (.ref ln) [])
theorem kpF_n (ln lo : Addr) : (kpF ln lo).lookup ("numbers" : PySem.Str) = some (.ref ln) := by
  unfold kpF
  rw [lookup_putF, if_neg k_no, lookup_putF, if_pos rfl]
theorem kpF_o (ln lo : Addr) : (kpF ln lo).lookup ("often" : PySem.Str) = some (.ref lo) := by
  unfold kpF
  rw [lookup_putF, if_pos rfl]
theorem kpF_no (ln lo : Addr) {m : PySem.Str} (h1 : ¬ m = "often") (h2 : ¬ m = "numbers") : (kpF ln lo).lookup m = none := by
  unfold kpF
  rw [lookup_putF, if_neg h1, lookup_putF, if_neg h2]
  all_goals rfl
/-- an object stands at p with its list at ln and its dict at lo -/
def KO (K : PySem.W.Frag) (H : Hp) (p ln lo : Addr) : Prop := ∃ C dx, KCl K "KeptProduct" ["numbers", "often"] C ∧ H p = some (.ins C dx (kpF ln lo))
theorem KO.fldN {K : PySem.W.Frag} {H : Hp} {p ln lo : Addr} {Q : VK} (h : KO K H p ln lo) (q : Q (.ref ln) H) : rFld K "numbers" (.ref p) H Q := by
  obtain ⟨C, dx, hc, hp⟩ := h
  exact ⟨p, C, dx, _, _, rfl, hp, hc.cl, hc.no _ (by simp), kpF_n _ _, q⟩
theorem KO.fldO {K : PySem.W.Frag} {H : Hp} {p ln lo : Addr} {Q : VK} (h : KO K H p ln lo) (q : Q (.ref lo) H) : rFld K "often" (.ref p) H Q := by
  obtain ⟨C, dx, hc, hp⟩ := h
  exact ⟨p, C, dx, _, _, rfl, hp, hc.cl, hc.no _ (by simp), kpF_o _ _, q⟩
theorem KO.isO {K : PySem.W.Frag} {H : Hp} {p ln lo : Addr} {m : PySem.Str} (h : KO K H p ln lo) (h1 : ¬ m = "often") (h2 : ¬ m = "numbers") : IsO K "KeptProduct" m (.ref p) H := by
  obtain ⟨C, dx, hc, hp⟩ := h
  exact ⟨p, C, dx, _, rfl, hp, hc.ns, kpF_no _ _ h1 h2⟩
theorem KO.same {K : PySem.W.Frag} {H H' : Hp} {p ln lo : Addr} (h : KO K H p ln lo) (s : Same H H') : KO K H' p ln lo := by
  obtain ⟨C, dx, hc, hp⟩ := h
  exact ⟨C, dx, hc, s _ _ hp⟩
theorem KO.ne {K : PySem.W.Frag} {H : Hp} {p ln lo b : Addr} {u : HO} (h : KO K H p ln lo) (hb : H b = some u) (hu : ∀ C dx fs, u ≠ .ins C dx fs) : p ≠ b := by
  obtain ⟨C, dx, hc, hp⟩ := h
  exact ne_of hp hb fun e => hu _ _ _ e.symm
theorem KO.upd {K : PySem.W.Frag} {H : Hp} {p ln lo b : Addr} {o : HO} (h : KO K H p ln lo) (n : p ≠ b) : KO K (upd H b o) p ln lo := by
  obtain ⟨C, dx, hc, hp⟩ := h
  exact ⟨C, dx, hc, (upd_ne n).trans hp⟩
/-- a product of the numbers L -/
structure KP (K : PySem.W.Frag) (H : Hp) (p ln lo : Addr) (L : List Nat) : Prop where
  ob : KO K H p ln lo
  ns : H ln = some (.lst ((ofN L).map V.int))
  cd : ∃ ks, CD H lo (pfs L) ks
  rng : ∀ x ∈ L, 1 ≤ x ∧ x ≤ 1000000
theorem KP.same {K : PySem.W.Frag} {H H' : Hp} {p ln lo : Addr} {L : List Nat} (h : KP K H p ln lo L) (s : Same H H') : KP K H' p ln lo L := by
  obtain ⟨ks, hc⟩ := h.cd
  exact ⟨h.ob.same s, s _ _ h.ns, ⟨ks, hc.same s⟩, h.rng⟩
/-- all but what stands at two addresses is as it was -/
def K2 (a b : Addr) (H H' : Hp) : Prop := ∀ c o, c ≠ a → c ≠ b → H c = some o → H' c = some o
theorem K2.refl (a b : Addr) (H : Hp) : K2 a b H H := fun _ _ _ _ h => h
theorem K2.trans {a b : Addr} {H H1 H2 : Hp} (x : K2 a b H H1) (y : K2 a b H1 H2) : K2 a b H H2 := fun c o n1 n2 h => y c o n1 n2 (x c o n1 n2 h)
theorem K2.updA {a b : Addr} {H H' : Hp} {o : HO} (x : K2 a b H H') : K2 a b H (upd H' a o) := fun c u n1 n2 h => (upd_ne n1).trans (x c u n1 n2 h)
theorem K2.updB {a b : Addr} {H H' : Hp} {o : HO} (x : K2 a b H H') : K2 a b H (upd H' b o) := fun c u n1 n2 h => (upd_ne n2).trans (x c u n1 n2 h)
theorem K2.of {a b : Addr} {H H' : Hp} (s : Same H H') : K2 a b H H' := fun c o _ _ h => s c o h
theorem KP.ne {K : PySem.W.Frag} {H : Hp} {p ln lo : Addr} {L : List Nat} (h : KP K H p ln lo L) : p ≠ ln ∧ p ≠ lo ∧ ln ≠ lo := by
  obtain ⟨ks, hc⟩ := h.cd
  exact ⟨h.ob.ne h.ns (fun _ _ _ e => by cases e), h.ob.ne hc.at_ (fun _ _ _ e => by cases e), ne_of h.ns hc.at_ (fun e => by cases e)⟩
theorem KP.fresh {K : PySem.W.Frag} {H : Hp} {p ln lo t : Addr} {L : List Nat} (h : KP K H p ln lo L) (ht : H t = none) : p ≠ t ∧ ln ≠ t ∧ lo ≠ t := by
  obtain ⟨ks, hc⟩ := h.cd
  obtain ⟨C, dx, _, hp⟩ := h.ob
  exact ⟨ne_of_none hp ht, ne_of_none h.ns ht, ne_of_none hc.at_ ht⟩
/-- one product stays while another one changes -/
theorem KP.k2 {K : PySem.W.Frag} {H H' : Hp} {p ln lo a b : Addr} {L : List Nat} (h : KP K H p ln lo L) (k : K2 a b H H') (h1 : p ≠ a) (h2 : p ≠ b) (h3 : ln ≠ a) (h4 : ln ≠ b) (h5 : lo ≠ a) (h6 : lo ≠ b) : KP K H' p ln lo L := by
  obtain ⟨ks, hc⟩ := h.cd
  obtain ⟨C, dx, hcl, hp⟩ := h.ob
  exact ⟨⟨C, dx, hcl, k _ _ h1 h2 hp⟩, k _ _ h3 h4 h.ns, ⟨ks, ⟨k _ _ h5 h6 hc.at_, hc.nd, hc.all, hc.rng⟩⟩, h.rng⟩
theorem KP.kp {K : PySem.W.Frag} {H H' : Hp} {p ln lo a : Addr} {L : List Nat} (h : KP K H p ln lo L) (k : Kp a H H') (h1 : p ≠ a) (h3 : ln ≠ a) (h5 : lo ≠ a) : KP K H' p ln lo L :=
  h.k2 (a := a) (b := a) (fun c o n _ q => k c o n q) h1 h1 h3 h3 h5 h5
theorem ofN_app (a b : List Nat) : ofN (a ++ b) = ofN a ++ ofN b := by simp [ofN]
theorem ofN_len (a : List Nat) : (ofN a).length = a.length := by simp [ofN]
/-- H as it is, unlocked again -/
theorem upd_eta {H : Hp} {a : Addr} {u : HO} (h : H a = some u) : upd H a u = H := by
  funext b
  by_cases e : b = a
  · subst e
    rw [upd_same, h]
  · rw [upd_ne e]
theorem gcd_exp {l ks : List Nat} {r : Nat} (h1 : ∀ x ∈ l, x ∈ ks) (h : ∀ d, d ∣ r ↔ ∀ p ∈ ks, d ∣ l.count p) : IsExp l (if r = 0 then 2 else r) := by
  have hz : r = 0 ↔ l = [] := by
    constructor
    · intro e
      subst e
      refine List.eq_nil_iff_forall_not_mem.mpr fun p hp => ?_
      have h2 := (h (l.count p + 1)).mp (Nat.dvd_zero _) p (h1 p hp)
      have h3 : 0 < l.count p := List.count_pos_iff.mpr hp
      have := Nat.le_of_dvd h3 h2
      omega
    · intro e
      subst e
      have := (h 0).mpr fun p _ => by simp
      exact Nat.eq_zero_of_zero_dvd this
  refine ⟨fun c => by rw [if_pos (hz.mpr c)], fun c => ?_⟩
  have hr : r ≠ 0 := fun z => c (hz.mp z)
  rw [if_neg hr]
  refine ⟨by omega, fun d => (h d).trans ⟨fun z p hp => z p (h1 p hp), fun z p hp => ?_⟩⟩
  by_cases m : p ∈ l
  · exact z p m
  · rw [List.count_eq_zero_of_not_mem m]
    exact Nat.dvd_zero d
theorem bits20 {l : List Nat} (h : ∀ x ∈ l, x ≤ 1000000) : prodL l ≤ 2 ^ (20 * l.length) := by
  induction l with
  | nil => simp [prodL]
  | cons a l ih =>
    have e : 20 * (a :: l).length = 20 + 20 * l.length := by simp only [List.length_cons]; omega
    rw [prodL_cons, e, Nat.pow_add]
    exact Nat.mul_le_mul (Nat.le_trans (h a List.mem_cons_self) (by decide)) (ih fun x hx => h x (List.mem_cons_of_mem _ hx))
/-- how long what lacks can be -/
theorem lack_log {L ks : List Nat} {e : Nat} (he : 1 ≤ e) (h1 : ks.Nodup) (h2 : ∀ x ∈ L, 1 ≤ x ∧ x ≤ 1000000) (h4 : ∀ p ∈ ks, 1 ≤ p) : lackK ks (pfs L) e ≤ 2 ^ (20 * L.length * e) := by
  refine Nat.le_trans (lack_le he h1 (fun p hp => ?_) h4) ?_
  · have := (pfs_mem (N := 1000000) (fun x hx => (h2 x hx).2) hp).1
    omega
  · rw [pfs_prod fun x hx => (h2 x hx).1, Nat.pow_mul]
    exact Nat.pow_le_pow_left (bits20 fun x hx => (h2 x hx).2) e
theorem lack_mod (m : Nat) {e : Nat} (he : 1 ≤ e) : (0 - (m : Int)) % (e : Int) = ((lackE m e : Nat) : Int) := by
  unfold lackE
  have h1 : m % e < e := Nat.mod_lt _ (by omega)
  have h2 : (e - m % e) % e < e := Nat.mod_lt _ (by omega)
  have h3 := Nat.div_add_mod m e
  have h4 := Nat.div_add_mod (e - m % e) e
  have h5 : 0 - (m : Int) = (((e - m % e) % e : Nat) : Int) + (e : Int) * ((((e - m % e) / e : Nat) : Int) - ((m / e : Nat) : Int) - 1) := by
    have h6 : (m : Int) = (e : Int) * ((m / e : Nat) : Int) + ((m % e : Nat) : Int) := by
      have := congrArg (fun n : Nat => (n : Int)) h3.symm
      push_cast at this ⊢
      exact this
    have h7 : (((e - m % e : Nat) : Int)) = (e : Int) * (((e - m % e) / e : Nat) : Int) + (((e - m % e) % e : Nat) : Int) := by
      have := congrArg (fun n : Nat => (n : Int)) h4.symm
      push_cast at this ⊢
      exact this
    have h8 : ((e - m % e : Nat) : Int) = (e : Int) - ((m % e : Nat) : Int) := by omega
    rw [h8] at h7
    generalize ((m / e : Nat) : Int) = q at *
    generalize (((e - m % e) / e : Nat) : Int) = q2 at *
    generalize (((e - m % e) % e : Nat) : Int) = r2 at *
    generalize ((m % e : Nat) : Int) = r1 at *
    rw [h6]
    grind
  rw [h5, Int.add_mul_emod_self_left]
  exact Int.emod_eq_of_lt (by omega) (by omega)
end Pn
namespace Pn
open PySem PySem.Spec PyProof.Rows L2
/-! ### what a product tells -/
/-- a list of the numbers, the exponent, what lacks -/
def StAt (H : Hp) (t : Addr) (ys : List Int) (E R : Nat) : Prop := ∃ u, H t = some (.lst [.ref u, .int (E : Int), .int (R : Int)]) ∧ H u = some (.tup (ys.map V.int))
theorem StAt.same {H H' : Hp} {t : Addr} {ys : List Int} {E R : Nat} (h : StAt H t ys E R) (s : Same H H') : StAt H' t ys E R := by
  obtain ⟨u, h1, h2⟩ := h
  exact ⟨u, s _ _ h1, s _ _ h2⟩
def dS (ys : List Int) (E R : Nat) : PyData := .list [.tuple (dI ys), .int (E : Int), .int (R : Int)]
theorem dp_s {K : PySem.W.Frag} {H : Hp} {t : Addr} {ys : List Int} {E R : Nat} (h : StAt H t ys E R) : Dp K H (.ref t) (dS ys E R) := by
  obtain ⟨u, h1, h2⟩ := h
  exact .lst (SqL.of h1) (.cons (.tup (SqT.of h2) (dpAll_ints ys)) (.cons (.int _) (.cons (.int _) .nil)))
theorem sh_s (ys : List Int) (E R : Nat) : SeqAt.shaped (dS ys E R) = true := by
  unfold SeqAt.shaped dS
  simp [PyData.canLay0, PyData.canLayAll0, PyData.depth, PyData.depthAll, canLay_ints, depth_ints]
theorem eqv_s (ys : List Int) (E R : Nat) (ys' : List Int) (E' R' : Nat) : PyData.eqv (dS ys E R) (dS ys' E' R') = decide (ys = ys' ∧ E = E' ∧ R = R') := by
  unfold dS
  rw [PyData.eqv]
  simp only [PyData.eqvAll, PyData.eqv, eqv_ints, Bool.and_true]
  rw [Bool.decide_and, Bool.decide_and, Bool.beq_eq_decide_eq, Bool.beq_eq_decide_eq]
  simp only [Int.natCast_inj]
section
variable {K : PySem.W.Frag} {H : Hp} {Q : VK} {t t' : Addr} {ys ys' : List Int} {E R E' R' : Nat}
theorem r_neS (h : StAt H t ys E R) (h' : StAt H t' ys' E' R') (q : Q (.bl (!decide (ys = ys' ∧ E = E' ∧ R = R'))) H) : rNeD K (.ref t) (.ref t') H Q :=
  ⟨_, _, dp_s h, dp_s h', sh_s _ _ _, sh_s _ _ _, by rw [eqv_s]; exact q⟩
theorem r_eqS (h : StAt H t ys E R) (h' : StAt H t' ys' E' R') (q : Q (.bl (decide (ys = ys' ∧ E = E' ∧ R = R'))) H) : rEqD K (.ref t) (.ref t') H Q :=
  ⟨_, _, dp_s h, dp_s h', sh_s _ _ _, sh_s _ _ _, by rw [eqv_s]; exact q⟩
end
/-- this is so of the numbers L -/
structure Tells (L : List Nat) (e : Nat) (ys : List Int) (E R : Nat) : Prop where
  pm : ys.Perm (ofN L)
  so : ys.Pairwise (· ≤ ·)
  ex : IsExp (pfs L) E
  la : IsLack (pfs L) e R
theorem sorted_one {ys zs : List Int} (h1 : ys.Pairwise (· ≤ ·)) (h2 : zs.Pairwise (· ≤ ·)) (h : ys.Perm zs) : ys = zs := List.Perm.eq_of_pairwise (fun a b _ _ h1 h2 => Int.le_antisymm h1 h2) h1 h2 h
theorem Tells.one {L L' : List Nat} {e : Nat} {ys ys' : List Int} {E R E' R' : Nat} (h : Tells L e ys E R) (h' : Tells L' e ys' E' R') (p : L.Perm L') : ys = ys' ∧ E = E' ∧ R = R' :=
  ⟨sorted_one h.so h'.so (h.pm.trans ((p.map _).trans h'.pm.symm)), isExp_unique (isExp_perm (pfs_perm p) h.ex) h'.ex, isLack_unique (isLack_perm (pfs_perm p) h.la) h'.la⟩
theorem greatest_exp {N e : Nat} (hN : 1 ≤ N) (h : IsExp (pf N) e) : (greatestN N).2 = e := by
  rcases (by omega : N = 1 ∨ 2 ≤ N) with rfl | h2
  · rw [h.1 pf_1]
    rfl
  · obtain ⟨⟨b, hb⟩, hm⟩ := exp_pow h2 h
    have he1 : 1 ≤ e := (h.2 fun c => by rw [(pf_nil hN).mp c] at h2; omega).1
    have lt2 : ∀ {b e'}, 1 ≤ e' → N = b ^ e' → 2 ≤ b := fun {b e'} he' hbe => by
      rcases (by omega : b = 0 ∨ b = 1 ∨ 2 ≤ b) with c | c | c
      · subst c
        rw [Nat.zero_pow (by omega)] at hbe
        omega
      · subst c
        rw [Nat.one_pow] at hbe
        omega
      · exact c
    rcases (by omega : e = 1 ∨ 2 ≤ e) with rfl | he
    · rw [greatest_none h2 fun e' he' _ hr => ?_]
      have := hm e' (by omega) ⟨_, hr.symm⟩
      omega
    · have hb2 := lt2 he1 hb
      have e2 : rootN N e ^ e = N := by
        have h5 : rootN (b ^ e) e = b := rootN_pow he1
        rw [← hb] at h5
        rw [h5]
        exact hb.symm
      rw [greatest_of h2 he (by rw [hb]; exact Nat.pow_le_pow_left hb2 e) e2 fun e' h3 _ hr => ?_]
      have := hm e' (by omega) ⟨_, hr.symm⟩
      omega
/-- the root leaves nothing of a power, and something of another number -/
theorem rest_iff {n e r : Nat} (he : 1 ≤ e) (h1 : r ^ e ≤ n) (h2 : n < (r + 1) ^ e) : n - r ^ e = 0 ↔ ∃ b, n = b ^ e := by
  constructor
  · intro h
    exact ⟨r, by omega⟩
  · rintro ⟨b, rfl⟩
    have := rootN_is he h1 h2
    rw [rootN_pow he] at this
    rw [this, Nat.sub_self]
end Pn
namespace Pn
open PySem PySem.Spec PyProof.Rows L2
local macro_rules | `(tactic| walk_at "w") => `(tactic| try simp only [w_var, w_c, w_op, w_I0, w_I, w_un, w_U, w_eq, w_ne, w_test, w_B, w_and, w_or, w_not, w_andV, w_orV, w_notV, w_ife, w_nil, w_cons, w_fn, w_cb, w_tup, w_lst, w_seq, w_next, w_brk, w_ct, w_drop, w_ret, w_retN, w_ifS, w_asgN, w_asgT, w_asgS, w_gName, w_gNil, w_gCons, w_par, w_aug, w_ipI, w_sl, w_np, w_part, w_bm, w_bm0, w_cxK, w_bits, w_forL, w_forT, w_for1, w_for2, w_for3, w_lc3, w_lcL, w_lcT, w_lc1, w_lc2, w_yes, w_tru, wipe, scal,
   L2.start, List.map_cons, List.map_nil, List.length_cons, List.length_nil, List.replicate, List.cons_append, List.nil_append, Nat.reduceAdd, Nat.reduceSub, Nat.zero_add,
   List.getElem?_cons_zero, List.getElem?_cons_succ, List.set_cons_zero, List.set_cons_succ, Option.some.injEq, V.int.injEq, V.bl.injEq, V.ref.injEq, V.str.injEq, exists_eq_left, exists_eq_left', exists_and_left, exists_and_right, exists_eq', exists_eq, and_assoc, and_true, true_and, decide_eq_true_eq, Bool.not_eq_true', decide_eq_false_iff_not, List.cons.injEq, if_true, if_false, Bool.true_eq_false, Bool.false_eq_true, ite_true, ite_false, reduceIte, reduceCtorEq, not_true_eq_false, not_false_eq_true, decide_true, decide_false, Bool.not_true, Bool.not_false, false_and, and_false, exists_false, false_or, or_false])
local macro_rules | `(tactic| walk_at "lk") => `(tactic| first | assumption | exact upd_same | exact Eq.trans (upd_ne (by walk_at "ne")) (by walk_at "lk"))
local macro_rules | `(tactic| walk_at "ne") => `(tactic| first | assumption | exact Ne.symm (by assumption) | exact ne_fresh (by assumption) (by walk_at "lk") | exact Ne.symm (ne_fresh (by assumption) (by walk_at "lk")))
local macro_rules | `(tactic| walk_at "sq") => `(tactic| first | assumption | exact SqL.of (by walk_at "lk"))
local macro_rules | `(tactic| walk_at "ix") => `(tactic| (refine r_ixL (by walk_at "sq") (by rfl) ?_; walk_at "w"))
local macro_rules | `(tactic| walk_at "st") => `(tactic| (refine r_setL (by walk_at "lk") (by rfl) ?_; walk_at "w"))
local macro_rules | `(tactic| walk_at "d") => `(tactic| (walk_at "w"; (try simp only [w_dget, w_dget2, w_dput, w_dnew, w_lv, w_augS, w_lockE, w_lcK, w_isB, w_notB]); walk_at "w"))
local macro_rules | `(tactic| walk_at "e") => `(tactic| (walk_at "d"; (try simp only [SetL.w_sortSet]); walk_at "d"))
local macro_rules | `(tactic| walk_at "f") => `(tactic| (walk_at "d"; (try simp only [TupE.w_lcTe, TupE.w_lcE]); walk_at "d"))
local macro_rules | `(tactic| walk_at "o1") => `(tactic| (try simp only [w_fld, w_sfld, w_mt, w_mk, w_forI, w_forV, w_frz, w_lcV, w_lockS, w_asgL, w_gSub, w_minV]))
local macro_rules | `(tactic| walk_at "o") => `(tactic| (walk_at "d"; walk_at "o1"; walk_at "d"; walk_at "o1"; walk_at "d"))
local macro_rules | `(tactic| walk_at "x1") => `(tactic| (try simp only [w_fnX, w_mtX, w_bmF, w_raise, w_xf, w_binit, w_ost, w_tryK, w_keep]))
local macro_rules | `(tactic| walk_at "x") => `(tactic| (walk_at "o"; walk_at "x1"; walk_at "o"; walk_at "x1"; walk_at "o"))
def top (i : Nat) : Stmt := PySem.Challenge.pw_powernumbers_k26_factors_refused.main.body.getD i (.Pass ⟨0, 0, 0, 0⟩)
structure Bt (mg : PySem.Str → Option Value) : Prop where
  range : mg "range" = none
  len : mg "len" = none
  sum : mg "sum" = none
  min : mg "min" = none
  max : mg "max" = none
  abs : mg "abs" = none
  sorted : mg "sorted" = none
  isinstance : mg "isinstance" = none
  enumerate : mg "enumerate" = none
  zip : mg "zip" = none
  int : mg "int" = none
  bool : mg "bool" = none
  str : mg "str" = none
  list : mg "list" = none
  tuple : mg "tuple" = none
  dict : mg "dict" = none
  set : mg "set" = none
  ValueError : mg "ValueError" = none
abbrev s_NoFactor___init__ : Stmt := inClass (top 3) 0
theorem sc_NoFactor___init__ : FnScope ["self", "number"] ["self", "number"] (defScope s_NoFactor___init__) := ⟨rfl, rfl, rfl, by decide +kernel, rfl, by decide +kernel, by decide +kernel⟩
abbrev sp_NoFactor___init__ (K : PySem.W.Frag) : Sp := spE K "NoFactor" "number" fun _ => True
section
variable {P : Program} {w : World} {K : PySem.W.Frag} {mg : PySem.Str → Option Value} {base : Heap}
theorem bi_NoFactor___init__ {f : Addr} {fd : FuncData} (F : Fun K "__init__" "NoFactor.__init__" s_NoFactor___init__ f fd) : Binds K fd ["self", "number"] [] := F.binds (ps := ["self", "number"]) fun _ _ _ _ _ _ us hl => match us, hl with | [_, _], _ => rfl
set_option maxHeartbeats 4000000 in
theorem ok_NoFactor___init__ {f : Addr} {fd : FuncData} (F : Fun K "__init__" "NoFactor.__init__" s_NoFactor___init__ f fd) (B : Bt mg) (g_BI_PowerError : BI K mg "PowerError") (g_EC_NoFactor : EC K mg "NoFactor") (g_ET_NoFactor : ET K "NoFactor" "number" [("NoAsk", false), ("NoFactor", true), ("NoNumber", false), ("PowerError", true)])  : FnOk P w K mg base CX0 1 f fd ["self", "number"] (sp_NoFactor___init__ K) := by
  refine F.ok sc_NoFactor___init__ (fun vs H Q E h => ?_) (fun cdv A outer s H vs Q E hr h => ?_)
  · obtain ⟨a, v, rfl, _, ha, q⟩ := h
    rfl
  · obtain ⟨a, v, rfl, _, ha, q⟩ := h
    refine ⟨_, (pss_cons (ps_expr (k_binit g_BI_PowerError (by rfl) (pa_cons (pv 0) (pa_cons pe_str pa_nil))))
      (pss_one (ps_ost (pv 0) (pv 1)))), ?_⟩
    walk_at "x"
    refine ⟨by decide, clA K "NoFactor", g_EC_NoFactor.ox, ha, ?_⟩
    walk_at "x"
    exact ⟨clA K "NoFactor", g_EC_NoFactor.ox, g_ET_NoFactor.no, .inl ⟨ha, fun d hd hda => q d hd hda⟩⟩
end
abbrev s_taken : Stmt := top 6
theorem sc_taken : FnScope ["base", "exponent", "found"] ["base", "exponent"] (defScope s_taken) := ⟨rfl, rfl, rfl, by decide +kernel, rfl, by decide +kernel, by decide +kernel⟩
def sp_taken (K : PySem.W.Frag) : Sp := fun vs H Q _ => ∃ (b e a : Nat), vs = [.int (b : Int), .int (e : Int)] ∧ (b < 2 ^ a ∨ e = 0) ∧ a * e ≤ 300000 ∧ Q (.int ((b ^ e : Nat) : Int)) H
section
variable {P : Program} {w : World} {K : PySem.W.Frag} {mg : PySem.Str → Option Value} {base : Heap}
theorem bi_taken {f : Addr} {fd : FuncData} (F : Fun K "taken" "taken" s_taken f fd) : Binds K fd ["base", "exponent"] [] := F.binds (ps := ["base", "exponent"]) fun _ _ _ _ _ _ us hl => match us, hl with | [_, _], _ => rfl
set_option maxHeartbeats 4000000 in
theorem ok_taken {f : Addr} {fd : FuncData} (F : Fun K "taken" "taken" s_taken f fd) (B : Bt mg)   : FnOk P w K mg base CX0 1 f fd ["base", "exponent"] (sp_taken K) := by
  refine F.ok sc_taken (fun vs H Q E h => ?_) (fun cdv A outer s H vs Q E hr h => ?_)
  · obtain ⟨b, e, a, rfl, hb, ha, q⟩ := h
    rfl
  · obtain ⟨b, e, a, rfl, hb, ha, q⟩ := h
    refine ⟨_, (pss_cons (ps_set (i := 2) sc_taken.nd rfl (Or.inl rfl) pe_int)
      (pss_cons (ps_while PassesOwn.never (pt_cmpR op_gt (pv 1) pe_int (nomark _))
        (pss_cons (ps_if (pt_cmpR op_eq (pe_op op_mod (pv 1) pe_int) pe_int (nomark _))
          (pss_one (ps_set (i := 2) sc_taken.nd rfl (Or.inl rfl) (pe_op op_mulW (pv 2) (pv 0))))
          pss_nil)
        (pss_cons (ps_set (i := 0) sc_taken.nd rfl (Or.inl rfl) (pe_op op_mulW (pv 0) (pv 0)))
        (pss_one (ps_set (i := 1) sc_taken.nd rfl (Or.inl rfl) (pe_op op_fdiv (pv 1) pe_int))))))
      (pss_one (ps_ret (pv 2))))), ?_⟩
    walk_at "w"
    have hX : b ^ e ≤ 2 ^ (a * e) := by
      rcases hb with hb | rfl
      · rw [Nat.pow_mul]
        exact Nat.pow_le_pow_left (by omega) e
      · simp
    refine while_m (fun m σ H' => ∃ f b' e' : Nat, σ = [some (.int b'), some (.int e'), some (.int f)] ∧ H' = H ∧ e' = m ∧ f * b' ^ e' = b ^ e ∧ f ≤ 2 ^ (a * e) ∧ (0 < e' → b' ≤ 2 ^ (a * e)) ∧ (f = 0 → b' = 0)) e ?_ ?_
    · refine ⟨1, b, e, rfl, rfl, rfl, by simp, Nat.one_le_two_pow, fun he => ?_, by omega⟩
      exact Nat.le_trans (Nat.le_self_pow (by omega) b) hX
    · rintro m σ H' ⟨f, b', e', rfl, rfl, rfl, h1, h2, h3, h4⟩ G hG
      walk_at "w"
      refine ite2 (fun hc => hG _ _ fun N hN => ?_) (fun hc => ?_)
      · have he : 0 < e' := by omega
        have hl1 := log2_le_of_le h2
        have hl2 := log2_le_of_le (h3 he)
        walk_at "w"
        refine ⟨by decide, ite2 (fun ho => ?_) (fun ho => ?_)⟩
        · have ho' : e' % 2 = 1 := by omega
          refine ⟨cmulN (by omega), cmulN (by omega), by unfold CDiv; omega, hN (e' / 2) _ _ (by omega) ⟨f * b', b' * b', e' / 2, by simp, rfl, rfl, tk_step1 h1 ho', tk_odd h1 hX he, fun h0 => ?_, fun h0 => ?_⟩⟩
          · rcases Nat.eq_zero_or_pos f with hf | hf
            · simp [h4 hf]
            · exact tk_sq h1 hX (by omega) h4
          · rcases Nat.mul_eq_zero.mp h0 with hf | hf
            · simp [h4 hf]
            · simp [hf]
        · have ho' : e' % 2 = 0 := by omega
          refine ⟨cmulN (by omega), by unfold CDiv; omega, hN (e' / 2) _ _ (by omega) ⟨f, b' * b', e' / 2, by simp, rfl, rfl, tk_step0 h1 ho', h2, fun h0 => tk_sq h1 hX (by omega) h4, fun h0 => by simp [h4 h0]⟩⟩
      · have he : e' = 0 := by omega
        subst he
        rw [Nat.pow_zero, Nat.mul_one] at h1
        rw [h1]
        exact q
end
abbrev s_primes_in : Stmt := top 8
theorem sc_primes_in : FnScope ["number", "found", "prime"] ["number"] (defScope s_primes_in) := ⟨rfl, rfl, rfl, by decide +kernel, rfl, by decide +kernel, by decide +kernel⟩
def sp_primes_in (K : PySem.W.Frag) : Sp := fun vs H Q _ => ∃ (n : Nat), vs = [.int (n : Int)] ∧ 1 ≤ n ∧ n ≤ 1000000 ∧ ∀ (p : Addr) (ks : List Nat) (H' : Hp), H p = none → Same H H' → CD H' p (pf n) ks → (∀ x ∈ ks, x ∈ pf n) → Q (.ref p) H'
section
variable {P : Program} {w : World} {K : PySem.W.Frag} {mg : PySem.Str → Option Value} {base : Heap}
theorem bi_primes_in {f : Addr} {fd : FuncData} (F : Fun K "primes_in" "primes_in" s_primes_in f fd) : Binds K fd ["number"] [] := F.binds (ps := ["number"]) fun _ _ _ _ _ _ us hl => match us, hl with | [_], _ => rfl
set_option maxHeartbeats 4000000 in
theorem ok_primes_in {f : Addr} {fd : FuncData} (F : Fun K "primes_in" "primes_in" s_primes_in f fd) (B : Bt mg)   : FnOk P w K mg base CX0 1 f fd ["number"] (sp_primes_in K) := by
  refine F.ok sc_primes_in (fun vs H Q E h => ?_) (fun cdv A outer s H vs Q E hr h => ?_)
  · obtain ⟨n, rfl, hn1, hn, q⟩ := h
    rfl
  · obtain ⟨n, rfl, hn1, hn, q⟩ := h
    refine ⟨_, (pss_cons (ps_set (i := 1) sc_primes_in.nd rfl (Or.inl rfl) pe_dnewK)
      (pss_cons (ps_set (i := 2) sc_primes_in.nd rfl (Or.inl rfl) pe_int)
      (pss_cons (ps_while PassesOwn.never (pt_cmpR op_le (pe_op op_mulW (pv 2) (pv 2)) (pv 0) (nomark _))
        (pss_cons (ps_while PassesOwn.never (pt_cmpR op_eq (pe_op op_mod (pv 0) (pv 2)) pe_int (nomark _))
          (pss_cons (ps_dput (hu_of hr) (pv 1) (pv 2) (pe_op op_add (pe_dget2 (hu_of hr) (pv 1) (pv 2) pe_int (by constructor <;> rfl)) pe_int) rfl)
          (pss_one (ps_set (i := 0) sc_primes_in.nd rfl (Or.inl rfl) (pe_op op_fdivW (pv 0) (pv 2))))))
        (pss_one (ps_set (i := 2) sc_primes_in.nd rfl (Or.inl rfl) (pe_op op_add (pv 2) pe_int)))))
      (pss_cons (ps_if (pt_cmpR op_gt (pv 0) pe_int (nomark _))
        (pss_one (ps_dput (hu_of hr) (pv 1) (pv 0) (pe_op op_add (pe_dget2 (hu_of hr) (pv 1) (pv 0) pe_int (by constructor <;> rfl)) pe_int) rfl))
        pss_nil)
      (pss_one (ps_ret (pv 1))))))), ?_⟩
    walk_at "d"
    intro p hp
    refine while_m (fun z σ H' => ∃ (m d : Nat) (l ks : List Nat), σ = [some (.int (m : Int)), some (.ref p), some (.int (d : Int))] ∧ 2000000 - d = z ∧ 2 ≤ d ∧ d ≤ n + 2 ∧ 1 ≤ m ∧ m ≤ n ∧ Low d m ∧ l ++ pfT d m = pf n ∧ Same H H' ∧ CD H' p l ks ∧ ∀ x ∈ ks, x ∈ l) 1999998 ⟨n, 2, [], [], rfl, rfl, by omega, by omega, hn1, Nat.le_refl _, low_2 n, rfl, same_new hp, ⟨upd_same, List.nodup_nil, fun x hx => (by cases hx), fun x hx => (by cases hx)⟩, fun x hx => (by cases hx)⟩ ?_
    rintro z σ H1 ⟨m, d, l, ks, rfl, rfl, hd, hdn, hm, hmn, hlow, hl, s1, hc, hk⟩ G hG
    have cm : CMulW (d : Int) (d : Int) := wide_mul (a := 64) (b := 64) (by omega) (by omega) (by decide) (by decide) (by decide)
    have e1 : (d : Int) * (d : Int) = ((d * d : Nat) : Int) := by push_cast; rfl
    walk_at "d"
    rw [e1]
    refine ⟨cm, ite2 (fun hw => hG _ _ fun N hN => ?_) (fun hw => ?_)⟩
    · have hdm : d ≤ m := Nat.le_trans (Nat.le_mul_of_pos_left d (by omega)) (by omega : d * d ≤ m)
      refine while_m (fun z σ H' => ∃ (m' : Nat) (l ks : List Nat), σ = [some (.int (m' : Int)), some (.ref p), some (.int (d : Int))] ∧ m' = z ∧ 1 ≤ m' ∧ m' ≤ m ∧ Low d m' ∧ l ++ pfT d m' = pf n ∧ Same H H' ∧ CD H' p l ks ∧ ∀ x ∈ ks, x ∈ l) m ⟨m, l, ks, rfl, rfl, hm, Nat.le_refl _, hlow, hl, s1, hc, hk⟩ ?_
      rintro z σ H2 ⟨m2, l2, ks2, rfl, rfl, hm2, hm2n, hlow2, hl2, s2, hc2, hk2⟩ G2 hG2
      walk_at "d"
      refine ⟨by omega, ite2 (fun hw2 => hG2 _ _ fun N2 hN2 => ?_) (fun hw2 => ?_)⟩
      · have hdv : d ∣ m2 := Nat.dvd_of_mod_eq_zero (by omega)
        have hlt : m2 / d < m2 := Nat.div_lt_self (by omega) (by omega)
        have hge : 1 ≤ m2 / d := Nat.div_pos (Nat.le_of_dvd hm2 hdv) (by omega)
        have e2 : (m2 : Int) / (d : Int) = ((m2 / d : Nat) : Int) := by push_cast; rfl
        obtain ⟨o, hg, ho⟩ := hc2.get (m := d)
        obtain ⟨H3, ks3, hput, hH3, hc3, hk3⟩ := hc2.put (m := d) hd (by omega)
        walk_at "d"
        walk_at "d"
        refine ⟨hc2.isD, o, hg, _, ho, H3, hput, ?_⟩
        rw [e2]
        have s3 : Same H H3 := by
          rw [hH3]
          exact sm_new s2 hp
        refine ⟨wide_div (b := 64) (by omega) (by omega) (by decide) (by decide), hN2 _ _ _ hlt ⟨m2 / d, l2 ++ [d], ks3, rfl, rfl, hge, by omega, low_div hlow2 hdv, ?_, s3, hc3, fun x hx => ?_⟩⟩
        · rw [List.append_assoc, List.singleton_append, ← pfT_dvd hd hm2 hlow2 hdv, hl2]
        · rw [List.mem_append]
          rcases (hk3 x).mp hx with c | c
          · exact .inl (hk2 x c)
          · exact .inr (by simp [c])
      · have hnd : ¬ d ∣ m2 := fun z => hw2 (by have := Nat.mod_eq_zero_of_dvd z; omega)
        have e3 : (d : Int) + 1 = ((d + 1 : Nat) : Int) := by omega
        walk_at "d"
        rw [e3]
        exact hN _ _ _ (by omega) ⟨m2, d + 1, l2, ks2, rfl, rfl, by omega, by omega, hm2, by omega, low_up hlow2 hnd, by rw [← pfT_up hd hnd]; exact hl2, s2, hc2, hk2⟩
    · have hmd : m < d * d := by omega
      walk_at "d"
      refine ite2 (fun h1 => ?_) (fun h1 => ?_)
      · rw [pfT_big hd (by omega) hmd] at hl
        obtain ⟨o, hg, ho⟩ := hc.get (m := m)
        obtain ⟨H3, ks3, hput, hH3, hc3, hk3⟩ := hc.put (m := m) (by omega) (by omega)
        walk_at "d"
        walk_at "d"
        refine ⟨hc.isD, o, hg, _, ho, H3, hput, ?_⟩
        rw [hl] at hc3
        refine q p ks3 H3 hp (by rw [hH3]; exact sm_new s1 hp) hc3 fun x hx => ?_
        rw [← hl, List.mem_append]
        rcases (hk3 x).mp hx with c | c
        · exact .inl (hk x c)
        · exact .inr (by simp [c])
      · rw [pfT_one (by omega), List.append_nil] at hl
        subst hl
        walk_at "d"
        exact q p ks H1 hp s1 hc hk
end
abbrev s_common_divisor : Stmt := top 9
theorem sc_common_divisor : FnScope ["one", "other"] ["one", "other"] (defScope s_common_divisor) := ⟨rfl, rfl, rfl, by decide +kernel, rfl, by decide +kernel, by decide +kernel⟩
def sp_common_divisor (K : PySem.W.Frag) : Sp := fun vs H Q _ => ∃ (a b : Nat), vs = [.int (a : Int), .int (b : Int)] ∧ Q (.int ((Nat.gcd a b : Nat) : Int)) H
section
variable {P : Program} {w : World} {K : PySem.W.Frag} {mg : PySem.Str → Option Value} {base : Heap}
theorem bi_common_divisor {f : Addr} {fd : FuncData} (F : Fun K "common_divisor" "common_divisor" s_common_divisor f fd) : Binds K fd ["one", "other"] [] := F.binds (ps := ["one", "other"]) fun _ _ _ _ _ _ us hl => match us, hl with | [_, _], _ => rfl
set_option maxHeartbeats 4000000 in
theorem ok_common_divisor {f : Addr} {fd : FuncData} (F : Fun K "common_divisor" "common_divisor" s_common_divisor f fd) (B : Bt mg)   : FnOk P w K mg base CX0 1 f fd ["one", "other"] (sp_common_divisor K) := by
  refine F.ok sc_common_divisor (fun vs H Q E h => ?_) (fun cdv A outer s H vs Q E hr h => ?_)
  · obtain ⟨a, b, rfl, q⟩ := h
    rfl
  · obtain ⟨a, b, rfl, q⟩ := h
    refine ⟨_, (pss_cons (ps_while PassesOwn.never (pt_cmpR op_gt (pv 1) pe_int (nomark _))
        (pss_one (ps_par (i := 0) (j := 1) (by rfl) sc_common_divisor.nd rfl rfl (by decide) rfl rfl (pa_cons (pv 1) (pa_cons (pe_op op_mod (pv 0) (pv 1)) pa_nil)) (by rfl))))
      (pss_one (ps_ret (pv 0)))), ?_⟩
    walk_at "w"
    refine while_m (fun z σ H' => ∃ (x y : Nat), σ = [some (.int (x : Int)), some (.int (y : Int))] ∧ H' = H ∧ y = z ∧ Nat.gcd x y = Nat.gcd a b) b ⟨a, b, rfl, rfl, rfl, rfl⟩ ?_
    rintro z σ H' ⟨x, y, rfl, rfl, rfl, hg⟩ G hG
    walk_at "w"
    refine ite2 (fun hw => hG _ _ fun N hN => ?_) (fun hw => ?_)
    · have e1 : (x : Int) % (y : Int) = ((x % y : Nat) : Int) := by push_cast; rfl
      walk_at "w"
      rw [e1]
      have hlt : x % y < y := Nat.mod_lt _ (by omega)
      refine ⟨by omega, hN _ _ _ hlt ⟨y, x % y, rfl, rfl, rfl, ?_⟩⟩
      rw [Nat.gcd_comm y, ← Nat.gcd_rec, Nat.gcd_comm, hg]
    · have e0 : y = 0 := by omega
      subst e0
      rw [Nat.gcd_zero_right] at hg
      walk_at "w"
      rw [hg]
      exact q
end
abbrev s_KeptProduct___init__ : Stmt := inClass (top 10) 0
theorem sc_KeptProduct___init__ : FnScope ["self"] ["self"] (defScope s_KeptProduct___init__) := ⟨rfl, rfl, rfl, by decide +kernel, rfl, by decide +kernel, by decide +kernel⟩
def sp_KeptProduct___init__ (K : PySem.W.Frag) : Sp := fun vs H Q _ => ∃ (p C dx : Addr), vs = [.ref p] ∧ KCl K "KeptProduct" ["numbers", "often"] C ∧ H p = some (.ins C dx []) ∧ ∀ (ln lo : Addr) (H' : Hp), H ln = none → H lo = none → KP K H' p ln lo [] → (∀ b o, b ≠ p → H b = some o → H' b = some o) → Q .non H'
section
variable {P : Program} {w : World} {K : PySem.W.Frag} {mg : PySem.Str → Option Value} {base : Heap}
theorem bi_KeptProduct___init__ {f : Addr} {fd : FuncData} (F : Fun K "__init__" "KeptProduct.__init__" s_KeptProduct___init__ f fd) : Binds K fd ["self"] [] := F.binds (ps := ["self"]) fun _ _ _ _ _ _ us hl => match us, hl with | [_], _ => rfl
set_option maxHeartbeats 4000000 in
theorem ok_KeptProduct___init__ {f : Addr} {fd : FuncData} (F : Fun K "__init__" "KeptProduct.__init__" s_KeptProduct___init__ f fd) (B : Bt mg)   : FnOk P w K mg base CX0 1 f fd ["self"] (sp_KeptProduct___init__ K) := by
  refine F.ok sc_KeptProduct___init__ (fun vs H Q E h => ?_) (fun cdv A outer s H vs Q E hr h => ?_)
  · obtain ⟨p, C, dx, rfl, hC, hp, q⟩ := h
    rfl
  · obtain ⟨p, C, dx, rfl, hC, hp, q⟩ := h
    refine ⟨_, (pss_cons (ps_fld (pv 0) (pe_lst pa_nil) rfl)
      (pss_one (ps_fld (pv 0) pe_dnewK rfl))), ?_⟩
    walk_at "d"
    simp only [w_sfld]
    walk_at "d"
    refine ⟨Nat.zero_le _, fun ln hln => ?_⟩
    have n1 : p ≠ ln := ne_of_none hp hln
    refine ⟨p, C, dx, [], rfl, (upd_ne n1).trans hp, hC.cl, hC.no _ (by simp), by show 0 < 1000; decide, ?_⟩
    intro lo hlo
    have n2 : p ≠ lo := ne_of_none upd_same hlo
    have n3 : ln ≠ lo := ne_of_none ((upd_ne n1.symm).trans upd_same) hlo
    refine ⟨p, C, dx, _, rfl, (upd_ne n2).trans upd_same, hC.cl, hC.no _ (by simp), by show 1 < 1000; decide, ?_⟩
    have hlo2 : H lo = none := upd_free (upd_free hlo)
    refine q ln lo _ hln hlo2 ⟨⟨C, dx, hC, upd_same⟩, ?_, ⟨[], ?_, List.nodup_nil, fun x hx => (by cases hx), fun x hx => (by cases hx)⟩, fun x hx => (by cases hx)⟩ fun b o hb h => ?_
    · rw [upd_ne n1.symm, upd_ne n3, upd_ne n1.symm, upd_same]
      rfl
    · rw [upd_ne n2.symm, upd_same]
      rfl
    · rw [upd_ne hb, upd_ne (ne_of_none h hlo2), upd_ne hb, upd_ne (ne_of_none h hln)]
      exact h
end
abbrev s_KeptProduct_put_primes : Stmt := inClass (top 10) 1
theorem sc_KeptProduct_put_primes : FnScope ["self", "number", "sign", "prime", "many"] ["self", "number", "sign"] (defScope s_KeptProduct_put_primes) := ⟨rfl, rfl, rfl, by decide +kernel, rfl, by decide +kernel, by decide +kernel⟩
def sp_KeptProduct_put_primes (K : PySem.W.Frag) : Sp := fun vs H Q _ => ∃ (p ln lo : Addr) (n : Nat) (s : Int) (l l' ks : List Nat), vs = [.ref p, .int (n : Int), .int s] ∧ 1 ≤ n ∧ n ≤ 1000000 ∧ KO K H p ln lo ∧ CD H lo l ks ∧ (s = 1 ∧ (∀ x, l'.count x = l.count x + (pf n).count x) ∨ s = -1 ∧ ∀ x, l.count x = l'.count x + (pf n).count x) ∧ ∀ (H' : Hp) (ks' : List Nat), Kp lo H H' → CD H' lo l' ks' → Q .non H'
def gAt (l ks1 c : List Nat) (s : Int) (i k : Nat) : Int := (l.count k : Int) + s * (if k ∈ ks1.take i then (c.count k : Int) else 0)
theorem mem_take_succ {ks : List Nat} {i m k : Nat} (h : ks[i]? = some m) : k ∈ ks.take (i + 1) ↔ k ∈ ks.take i ∨ k = m := by
  rw [List.take_add_one, h]
  simp
theorem not_take {ks : List Nat} {i m : Nat} (h : ks[i]? = some m) (hn : ks.Nodup) : m ∉ ks.take i := fun z => by
  have e : ks = ks.take i ++ ks.drop i := (List.take_append_drop i ks).symm
  rw [e, List.nodup_append] at hn
  have h2 : m ∈ ks.drop i := by
    rw [List.mem_iff_getElem?]
    exact ⟨0, by rw [List.getElem?_drop]; exact h⟩
  exact hn.2.2 m z m h2 rfl
theorem gAt_set (l ks1 c : List Nat) (s : Int) {i m : Nat} (h : ks1[i]? = some m) (hn : ks1.Nodup) : (fun k => if k = m then V.int (gAt l ks1 c s i m + s * (c.count m : Int)) else V.int (gAt l ks1 c s i k)) = fun k => V.int (gAt l ks1 c s (i + 1) k) := by
  funext k
  have hno := not_take h hn
  by_cases e : k = m
  · subst e
    rw [if_pos rfl]
    unfold gAt
    rw [if_neg hno, if_pos ((mem_take_succ h).mpr (.inr rfl))]
    congr 1
    omega
  · rw [if_neg e]
    unfold gAt
    by_cases c2 : k ∈ ks1.take i
    · rw [if_pos c2, if_pos ((mem_take_succ h).mpr (.inl c2))]
    · rw [if_neg c2, if_neg fun z => ((mem_take_succ h).mp z).elim c2 e]
section
variable {P : Program} {w : World} {K : PySem.W.Frag} {mg : PySem.Str → Option Value} {base : Heap}
theorem bi_KeptProduct_put_primes {f : Addr} {fd : FuncData} (F : Fun K "put_primes" "KeptProduct.put_primes" s_KeptProduct_put_primes f fd) : Binds K fd ["self", "number", "sign"] [] := F.binds (ps := ["self", "number", "sign"]) fun _ _ _ _ _ _ us hl => match us, hl with | [_, _, _], _ => rfl
set_option maxHeartbeats 4000000 in
theorem ok_KeptProduct_put_primes {f : Addr} {fd : FuncData} (F : Fun K "put_primes" "KeptProduct.put_primes" s_KeptProduct_put_primes f fd) (B : Bt mg)  (h_primes_in : Fn P w K mg base CX0 1 "primes_in" ["number"] (sp_primes_in K)) : FnOk P w K mg base CX0 2 f fd ["self", "number", "sign"] (sp_KeptProduct_put_primes K) := by
  refine F.ok sc_KeptProduct_put_primes (fun vs H Q E h => ?_) (fun cdv A outer s H vs Q E hr h => ?_)
  · obtain ⟨p, ln, lo, n, s0, l, l', ks, rfl, hn1, hn, hO, hc, hs, q⟩ := h
    rfl
  · obtain ⟨p, ln, lo, n, s0, l, l', ks, rfl, hn1, hn, hO, hc, hs, q⟩ := h
    refine ⟨_, (pss_one (ps_for PassesOwn.never rfl (pi_items (pe_frz (pe_fn h_primes_in (hr.mono (by decide)) (by rfl) (pa_cons (pv 1) pa_nil)))) (pg_tup rfl (pgs_cons (pg_name (i := 3) sc_KeptProduct_put_primes.nd rfl (Or.inl rfl)) (pgs_cons (pg_name (i := 4) sc_KeptProduct_put_primes.nd rfl (Or.inl rfl)) pgs_nil)))
        (pss_one (ps_dput (hu_of hr) (k_fld K (pv 0) rfl) (pv 3) (pe_op op_add (pe_dget2 (hu_of hr) (k_fld K (pv 0) rfl) (pv 3) pe_int (by constructor <;> rfl)) (pe_op op_mulW (pv 2) (pv 4))) rfl)))), ?_⟩
    walk_at "o"
    refine ⟨n, rfl, hn1, hn, fun t ks1 H1 ht s1 hc1 hk1 => ?_⟩
    refine ⟨t, rfl, _, hc1.at_, fun od => ?_⟩
    have nlo : lo ≠ t := ne_of_none hc.at_ ht
    have fz : upd H1 t (.frz od (.dK (dN ks1 fun k => .int (((pf n).count k : Nat) : Int)))) t = some (.frz od (.dK (dN ks1 fun k => .int (((pf n).count k : Nat) : Int)))) := upd_same
    have s2 : Same H (upd H1 t (.frz od (.dK (dN ks1 fun k => .int (((pf n).count k : Nat) : Int))))) := sm_new s1 ht
    generalize upd H1 t (.frz od (.dK (dN ks1 fun k => .int (((pf n).count k : Nat) : Int)))) = H2 at fz s2 ⊢
    have hsg : s0 = 1 ∨ s0 = -1 := hs.elim (fun z => .inl z.1) fun z => .inr z.1
    refine ⟨od, _, fz, for_i (fun i σ H' => ∃ (v3 v4 : Option V) (ks' : List Nat), σ = [some (.ref p), some (.int (n : Int)), some (.int s0), v3, v4] ∧ Kp lo H2 H' ∧ H' lo = some (.dK (dN ks' fun k => .int (gAt l ks1 (pf n) s0 i k))) ∧ ks'.Nodup ∧ (∀ x ∈ l, x ∈ ks') ∧ (∀ x ∈ ks1.take i, x ∈ ks') ∧ ∀ x ∈ ks', 2 ≤ x ∧ x ≤ 1000000) ⟨_, _, ks, rfl, Kp.refl _ _, ?_, hc.nd, hc.all, fun x hx => by simp at hx, hc.rng⟩ ?_ ?_ ?_⟩
    · rw [s2 _ _ hc.at_]
      congr 3
      funext k
      unfold gAt
      simp
    · rintro i σ H' _ ⟨_, _, _, _, k', _⟩
      exact k' _ _ nlo.symm fz
    · rintro i m σ H' T hm hi ⟨v3, v4, ks', rfl, k', hd, nd, al, tk, rg⟩ hT N hN
      have nT : lo ≠ T := ne_of_none hd hT
      have hmem := hk1 m (List.mem_of_getElem? hm)
      have hr := pf_mem hmem
      have hd2 : upd H' T (.tup [.int (m : Int), .int (((pf n).count m : Nat) : Int)]) lo = _ := (upd_ne nT).trans hd
      have hT2 : upd H' T (.tup [.int (m : Int), .int (((pf n).count m : Nat) : Int)]) T = _ := upd_same
      have k2 : Kp lo H2 (upd H' T (.tup [.int (m : Int), .int (((pf n).count m : Nat) : Int)])) := k'.trans (sm_kp (same_new hT))
      generalize upd H' T (.tup [.int (m : Int), .int (((pf n).count m : Nat) : Int)]) = H3 at hd2 hT2 k2 ⊢
      have hO3 : KO K H3 p ln lo := by
        obtain ⟨C, dx, hC, hp⟩ := hO
        exact ⟨C, dx, hC, k2 _ _ (ne_of hp hc.at_ fun e => by cases e) (s2 _ _ hp)⟩
      have hcnt : (pf n).count m < 20 := Nat.lt_of_le_of_lt List.count_le_length (pf_len hn1 hn)
      have hg := dN_get (m := m) hd2
      have hgv : ((if m ∈ ks' then some (V.int (gAt l ks1 (pf n) s0 i m)) else none).getD (.int 0)) = .int (gAt l ks1 (pf n) s0 i m) := by
        by_cases c : m ∈ ks'
        · rw [if_pos c]
          rfl
        · rw [if_neg c]
          unfold gAt
          rw [if_neg (not_take hm hc1.nd), List.count_eq_zero_of_not_mem fun z => c (al m z)]
          simp
      have hput := dN_upd (m := m) (v := .int (gAt l ks1 (pf n) s0 i m + s0 * ((pf n).count m : Int))) hd2 (size_le (keys_len nd rg))
      rw [gAt_set l ks1 (pf n) s0 hm hc1.nd] at hput
      obtain ⟨g1, g2, g3⟩ := put_nodup (x := m) nd
      refine ⟨T, _, rfl, SqT.of hT2, rfl, ?_⟩
      walk_at "o"
      refine hO3.fldO ?_
      walk_at "o"
      refine ⟨.inl ⟨_, .inl hd2⟩, _, hg, wide_mul (a := 64) (b := 64) (by omega) (by omega) (by decide) (by decide) (by decide), _, hgv, hO3.fldO ?_⟩
      walk_at "d"
      refine ⟨_, hput, hN _ _ ⟨_, _, _, rfl, k2.upd, upd_same, g1, fun x hx => (g2 x).mpr (.inl (al x hx)), fun x hx => ?_, fun x hx => ?_⟩⟩
      · rw [g2]
        rcases (mem_take_succ hm).mp hx with c | c
        · exact .inl (tk x c)
        · exact .inr c
      · rcases (g2 x).mp hx with c | c
        · exact rg x c
        · omega
    · rintro σ H' ⟨v3, v4, ks', rfl, k', hd, nd, al, tk, rg⟩
      rw [List.take_length] at tk
      walk_at "d"
      have hcnt0 : ∀ k, k ∉ ks1 → (pf n).count k = 0 := fun k hk => List.count_eq_zero_of_not_mem fun z => hk (hc1.all k z)
      have eg : (fun k => V.int (gAt l ks1 (pf n) s0 ks1.length k)) = fun k => V.int ((l'.count k : Nat) : Int) := by
        funext k
        unfold gAt
        rw [List.take_length]
        congr 1
        have h0 := hcnt0 k
        rcases hs with ⟨rfl, hs⟩ | ⟨rfl, hs⟩
        · have := hs k
          by_cases c : k ∈ ks1
          · rw [if_pos c]
            omega
          · rw [if_neg c]
            have := h0 c
            omega
        · have := hs k
          by_cases c : k ∈ ks1
          · rw [if_pos c]
            omega
          · rw [if_neg c]
            have := h0 c
            omega
      rw [eg] at hd
      refine q H' ks' ((sm_kp s2).trans k') ⟨hd, nd, fun x hx => ?_, rg⟩
      have hx1 : 0 < l'.count x := List.count_pos_iff.mpr hx
      have hor : 0 < l.count x ∨ 0 < (pf n).count x := by
        rcases hs with ⟨_, hs⟩ | ⟨_, hs⟩
        · have := hs x
          omega
        · have := hs x
          omega
      rcases hor with c | c
      · exact al x (List.count_pos_iff.mp c)
      · exact tk x (hc1.all x (List.count_pos_iff.mp c))
end
abbrev s_KeptProduct_come : Stmt := inClass (top 10) 2
theorem sc_KeptProduct_come : FnScope ["self", "number"] ["self", "number"] (defScope s_KeptProduct_come) := ⟨rfl, rfl, rfl, by decide +kernel, rfl, by decide +kernel, by decide +kernel⟩
def sp_KeptProduct_come (K : PySem.W.Frag) : Sp := fun vs H Q E => ∃ (p ln lo : Addr) (i : Int) (L : List Nat), vs = [.ref p, .int i] ∧ KP K H p ln lo L ∧ L.length ≤ 10000 ∧
  ((i < 1 ∧ ∀ d, H d = none → E (.ref (clA K "NoFactor")) (some d) (upd H d (.xd [("number", .int i)]))) ∨ ∃ n : Nat, i = (n : Int) ∧ 1 ≤ n ∧ n ≤ 1000000 ∧ ∀ H' : Hp, K2 ln lo H H' → KP K H' p ln lo (L ++ [n]) → Q .non H')
section
variable {P : Program} {w : World} {K : PySem.W.Frag} {mg : PySem.Str → Option Value} {base : Heap}
theorem bi_KeptProduct_come {f : Addr} {fd : FuncData} (F : Fun K "come" "KeptProduct.come" s_KeptProduct_come f fd) : Binds K fd ["self", "number"] [] := F.binds (ps := ["self", "number"]) fun _ _ _ _ _ _ us hl => match us, hl with | [_, _], _ => rfl
set_option maxHeartbeats 4000000 in
theorem ok_KeptProduct_come {f : Addr} {fd : FuncData} (F : Fun K "come" "KeptProduct.come" s_KeptProduct_come f fd) (B : Bt mg)  (h_KeptProduct_put_primes : FnM P w K mg base CX0 2 "KeptProduct" ["numbers", "often"] "put_primes" ["self", "number", "sign"] (sp_KeptProduct_put_primes K)) (h_NoFactor___init__ : FnE P w K mg base 1 "NoFactor" ["self", "number"] (sp_NoFactor___init__ K)) : FnOk P w K mg base (L2.CX P w) 3 f fd ["self", "number"] (sp_KeptProduct_come K) := by
  refine F.okX sc_KeptProduct_come (fun vs H Q E h => ?_) (fun cdv A outer s H vs Q E hr h => ?_)
  · obtain ⟨p, ln, lo, i, L, rfl, hK, hlen, q⟩ := h
    rfl
  · obtain ⟨p, ln, lo, i, L, rfl, hK, hlen, q⟩ := h
    refine ⟨_, (pss_cons (ps_if (pt_cmpR op_lt (pv 1) pe_int (nomark _))
        (pss_one (k_raise rfl (takes_of rfl rfl rfl rfl) h_NoFactor___init__ (hr.mono (by decide)) (by rfl) (pv 1)))
        pss_nil)
      (pss_cons (ps_expr (pe_bm PySem.F.plainAttrs_list PySem.F.slot_list_append PySem.F.type_list_append mt_append (k_fld K (pv 0) rfl) (pa_cons (pv 1) pa_nil)))
      (pss_one (ps_expr (pe_mt (K := K) h_KeptProduct_put_primes (hr.mono (by decide)) (pv 0) (pa_cons (pv 1) (pa_cons pe_int pa_nil))))))), ?_⟩
    walk_at "x"
    rcases q with ⟨hi, q⟩ | ⟨n, rfl, hn1, hn, q⟩
    · rw [if_pos hi]
      walk_at "x"
      exact q
    obtain ⟨n1, n2, n3⟩ := hK.ne
    obtain ⟨ks, hc⟩ := hK.cd
    rw [if_neg (by omega)]
    walk_at "o"
    refine hK.ob.fldN ?_
    refine ⟨.inl ⟨rfl, _, SqL.of hK.ns⟩, r_app hK.ns (size_le (by rw [List.length_map, ofN_len]; omega)) ?_⟩
    have eL : (ofN L).map V.int ++ [V.int (n : Int)] = (ofN (L ++ [n])).map V.int := by simp [ofN]
    rw [eL]
    have hO := hK.ob.upd (o := .lst ((ofN (L ++ [n])).map V.int)) n1
    walk_at "o"
    refine ⟨hO.isO (by decide +kernel) (by decide +kernel), p, ln, lo, n, 1, pfs L, pfs (L ++ [n]), ks, rfl, hn1, hn, hO, hc.to (upd_ne n3.symm), .inl ⟨rfl, fun x => by rw [pfs_append, List.count_append, pfs_one]⟩, fun H' ks' k' hc' => ?_⟩
    walk_at "o"
    obtain ⟨C, dx, hC, hp⟩ := hO
    refine q H' ((K2.refl ln lo H).updA.trans fun c o _ h2 h => k' c o h2 h) ⟨⟨C, dx, hC, k' _ _ n2 hp⟩, k' _ _ n3 upd_same, ⟨ks', hc'⟩, fun x hx => ?_⟩
    rcases List.mem_append.mp hx with c | c
    · exact hK.rng x c
    · simp at c
      omega
end
abbrev s_KeptProduct_go : Stmt := inClass (top 10) 3
theorem sc_KeptProduct_go : FnScope ["self", "number"] ["self", "number"] (defScope s_KeptProduct_go) := ⟨rfl, rfl, rfl, by decide +kernel, rfl, by decide +kernel, by decide +kernel⟩
def sp_KeptProduct_go (K : PySem.W.Frag) : Sp := fun vs H Q E => ∃ (p ln lo : Addr) (i : Int) (L : List Nat), vs = [.ref p, .int i] ∧ KP K H p ln lo L ∧
  ((i ∉ ofN L ∧ ∀ d, H d = none → E (.ref (clA K "NoFactor")) (some d) (upd H d (.xd [("number", .int i)]))) ∨ ∃ n : Nat, i = (n : Int) ∧ n ∈ L ∧ ∀ (H' : Hp) (L' : List Nat), K2 ln lo H H' → L.Perm (n :: L') → KP K H' p ln lo L' → Q .non H')
theorem first_at {L : List Nat} {n : Nat} (h : n ∈ L) : ∃ j, (ofN L)[j]? = some (n : Int) ∧ (∀ m, m < j → (ofN L)[m]? ≠ some (n : Int)) ∧ (ofN L).eraseIdx j = ofN (L.eraseIdx j) ∧ L.Perm (n :: L.eraseIdx j) := by
  induction L with
  | nil => cases h
  | cons a L ih =>
    by_cases c : a = n
    · subst c
      exact ⟨0, rfl, fun m hm => by omega, rfl, List.Perm.refl _⟩
    · have h2 : n ∈ L := by
        rcases List.mem_cons.mp h with e | e
        · exact absurd e.symm c
        · exact e
      obtain ⟨j, h3, h4, h5, h6⟩ := ih h2
      refine ⟨j + 1, h3, fun m hm => ?_, ?_, ?_⟩
      · cases m with
        | zero =>
          intro z
          have : (a : Int) = (n : Int) := Option.some.inj z
          omega
        | succ m => exact h4 m (by omega)
      · show (a : Int) :: (ofN L).eraseIdx j = (a : Int) :: ofN (L.eraseIdx j)
        rw [h5]
      · show (a :: L).Perm (n :: a :: L.eraseIdx j)
        exact (h6.cons a).trans (List.Perm.swap n a _)
theorem inV_mem {L : List Nat} {n : Nat} (h : n ∈ L) : inV (.int (n : Int)) ((ofN L).map V.int) = true := by
  unfold inV ofN
  rw [List.any_eq_true]
  exact ⟨.int (n : Int), List.mem_map.mpr ⟨(n : Int), List.mem_map.mpr ⟨n, h, rfl⟩, rfl⟩, decide_eq_true rfl⟩
theorem flat_ints (ns : List Int) : (ns.map V.int).all flatV = true := by
  rw [List.all_eq_true]
  intro x hx
  obtain ⟨i, _, rfl⟩ := List.mem_map.mp hx
  rfl
theorem inV_not {L : List Nat} {i : Int} (h : i ∉ ofN L) : inV (.int i) ((ofN L).map V.int) = false := by
  unfold inV
  rw [List.any_eq_false]
  intro x hx
  obtain ⟨j, hj, rfl⟩ := List.mem_map.mp hx
  intro e
  have e2 := of_decide_eq_true e
  cases e2
  exact h hj
section
variable {P : Program} {w : World} {K : PySem.W.Frag} {mg : PySem.Str → Option Value} {base : Heap}
theorem bi_KeptProduct_go {f : Addr} {fd : FuncData} (F : Fun K "go" "KeptProduct.go" s_KeptProduct_go f fd) : Binds K fd ["self", "number"] [] := F.binds (ps := ["self", "number"]) fun _ _ _ _ _ _ us hl => match us, hl with | [_, _], _ => rfl
set_option maxHeartbeats 4000000 in
theorem ok_KeptProduct_go {f : Addr} {fd : FuncData} (F : Fun K "go" "KeptProduct.go" s_KeptProduct_go f fd) (B : Bt mg)  (h_KeptProduct_put_primes : FnM P w K mg base CX0 2 "KeptProduct" ["numbers", "often"] "put_primes" ["self", "number", "sign"] (sp_KeptProduct_put_primes K)) (h_NoFactor___init__ : FnE P w K mg base 1 "NoFactor" ["self", "number"] (sp_NoFactor___init__ K)) : FnOk P w K mg base (L2.CX P w) 3 f fd ["self", "number"] (sp_KeptProduct_go K) := by
  refine F.okX sc_KeptProduct_go (fun vs H Q E h => ?_) (fun cdv A outer s H vs Q E hr h => ?_)
  · obtain ⟨p, ln, lo, i, L, rfl, hK, q⟩ := h
    rfl
  · obtain ⟨p, ln, lo, i, L, rfl, hK, q⟩ := h
    refine ⟨_, (pss_cons (ps_if (pt_cmpR (k_notIn K) (pv 1) (k_fld K (pv 0) rfl) (by rfl))
        (pss_one (k_raise rfl (takes_of rfl rfl rfl rfl) h_NoFactor___init__ (hr.mono (by decide)) (by rfl) (pv 1)))
        pss_nil)
      (pss_cons (ps_expr (pe_bm PySem.F.plainAttrs_list PySem.F.slot_list_remove PySem.F.type_list_remove mt_remove (k_fld K (pv 0) rfl) (pa_cons (pv 1) pa_nil)))
      (pss_one (ps_expr (pe_mt (K := K) h_KeptProduct_put_primes (hr.mono (by decide)) (pv 0) (pa_cons (pv 1) (pa_cons (pe_un un_neg pe_int) pa_nil))))))), ?_⟩
    obtain ⟨n1, n2, n3⟩ := hK.ne
    obtain ⟨ks, hc⟩ := hK.cd
    walk_at "x"
    refine hK.ob.fldN ?_
    refine ⟨ln, _, rfl, .inl (SqL.of hK.ns), rfl, flat_ints _, ?_⟩
    rcases q with ⟨hi, q⟩ | ⟨n, rfl, hmem, q⟩
    · rw [inV_not hi]
      walk_at "x"
      exact q
    obtain ⟨j, h3, h4, h5, h6⟩ := first_at hmem
    have hg := hK.rng n hmem
    rw [inV_mem hmem]
    walk_at "o"
    refine hK.ob.fldN ?_
    refine ⟨.inl ⟨rfl, _, SqL.of hK.ns⟩, ln, ofN L, (n : Int), j, rfl, rfl, hK.ns, h3, h4, ?_⟩
    rw [h5]
    have hO := hK.ob.upd (o := .lst ((ofN (L.eraseIdx j)).map V.int)) n1
    walk_at "o"
    refine ⟨hO.isO (by decide +kernel) (by decide +kernel), p, ln, lo, n, -1, pfs L, pfs (L.eraseIdx j), ks, rfl, hg.1, hg.2, hO, hc.to (upd_ne n3.symm), .inr ⟨rfl, fun x => ?_⟩, fun H' ks' k' hc' => ?_⟩
    · have e : pfs (n :: L.eraseIdx j) = pf n ++ pfs (L.eraseIdx j) := rfl
      rw [(pfs_perm h6).count_eq x, e, List.count_append]
      omega
    walk_at "o"
    obtain ⟨C, dx, hC, hp⟩ := hO
    refine q H' _ ((K2.refl ln lo H).updA.trans fun c o _ h2 h => k' c o h2 h) h6 ⟨⟨C, dx, hC, k' _ _ n2 hp⟩, k' _ _ n3 upd_same, ⟨ks', hc'⟩, fun x hx => hK.rng x (h6.mem_iff.mpr (List.mem_cons_of_mem _ hx))⟩
end
abbrev s_KeptProduct_numbers_now : Stmt := inClass (top 10) 4
theorem sc_KeptProduct_numbers_now : FnScope ["self"] ["self"] (defScope s_KeptProduct_numbers_now) := ⟨rfl, rfl, rfl, by decide +kernel, rfl, by decide +kernel, by decide +kernel⟩
def sp_KeptProduct_numbers_now (K : PySem.W.Frag) : Sp := fun vs H Q _ => ∃ (p ln lo : Addr) (L : List Nat), vs = [.ref p] ∧ KP K H p ln lo L ∧ ∀ (t : Addr) (o : Obj) (ys : List Int) (H' : Hp), H t = none → Same H H' → ys.Perm (ofN L) → ys.Pairwise (· ≤ ·) → H' t = some (.frz o (.tup (ys.map V.int))) → o.cls = .type "tuple" → o.dict = none → Q (.ref t) H'
section
variable {P : Program} {w : World} {K : PySem.W.Frag} {mg : PySem.Str → Option Value} {base : Heap}
theorem bi_KeptProduct_numbers_now {f : Addr} {fd : FuncData} (F : Fun K "numbers_now" "KeptProduct.numbers_now" s_KeptProduct_numbers_now f fd) : Binds K fd ["self"] [] := F.binds (ps := ["self"]) fun _ _ _ _ _ _ us hl => match us, hl with | [_], _ => rfl
set_option maxHeartbeats 4000000 in
theorem ok_KeptProduct_numbers_now {f : Addr} {fd : FuncData} (F : Fun K "numbers_now" "KeptProduct.numbers_now" s_KeptProduct_numbers_now f fd) (B : Bt mg)   : FnOk P w K mg base CX0 1 f fd ["self"] (sp_KeptProduct_numbers_now K) := by
  refine F.ok sc_KeptProduct_numbers_now (fun vs H Q E h => ?_) (fun cdv A outer s H vs Q E hr h => ?_)
  · obtain ⟨p, ln, lo, L, rfl, hK, q⟩ := h
    rfl
  · obtain ⟨p, ln, lo, L, rfl, hK, q⟩ := h
    refine ⟨_, (pss_one (ps_ret (pe_callTy (k_tupleF K) (by rfl) B.tuple (by decide +kernel) (pa_cons (pe_callB (k_sorted K) (by rfl) B.sorted (by decide +kernel) (pa_cons (k_fld K (pv 0) rfl) pa_nil)) pa_nil)))), ?_⟩
    walk_at "o"
    refine hK.ob.fldN ?_
    refine ⟨ln, ofN L, rfl, SqL.of hK.ns, fun ys r hp hs hr => ?_⟩
    refine ⟨r, _, rfl, SqL.of upd_same, fun t o ht h1 h2 => ?_⟩
    have ht2 := upd_free ht
    exact q t o ys _ ht2 (sm_new (same_new hr) ht2) hp hs upd_same h1 h2
end
abbrev s_KeptProduct_exponent_now : Stmt := inClass (top 10) 5
theorem sc_KeptProduct_exponent_now : FnScope ["self", "found", "many"] ["self"] (defScope s_KeptProduct_exponent_now) := ⟨rfl, rfl, rfl, by decide +kernel, rfl, by decide +kernel, by decide +kernel⟩
def sp_KeptProduct_exponent_now (K : PySem.W.Frag) : Sp := fun vs H Q _ => ∃ (p ln lo : Addr) (L : List Nat), vs = [.ref p] ∧ KP K H p ln lo L ∧ ∀ (e : Nat) (H' : Hp), Same H H' → IsExp (pfs L) e → Q (.int (e : Int)) H'
theorem dvd_step {f : Nat → Nat} {ks : List Nat} {i m r : Nat} (h : ∀ d, d ∣ r ↔ ∀ p ∈ ks.take i, d ∣ f p) (hm : ks[i]? = some m) : ∀ d, d ∣ Nat.gcd r (f m) ↔ ∀ p ∈ ks.take (i + 1), d ∣ f p := by
  intro d
  rw [Nat.dvd_gcd_iff, h d, List.take_add_one, hm]
  constructor
  · rintro ⟨h1, h2⟩ p hp
    rcases List.mem_append.mp hp with c | c
    · exact h1 p c
    · simp at c
      exact c ▸ h2
  · intro h1
    exact ⟨fun p hp => h1 p (List.mem_append_left _ hp), h1 m (List.mem_append_right _ (by simp))⟩
section
variable {P : Program} {w : World} {K : PySem.W.Frag} {mg : PySem.Str → Option Value} {base : Heap}
theorem bi_KeptProduct_exponent_now {f : Addr} {fd : FuncData} (F : Fun K "exponent_now" "KeptProduct.exponent_now" s_KeptProduct_exponent_now f fd) : Binds K fd ["self"] [] := F.binds (ps := ["self"]) fun _ _ _ _ _ _ us hl => match us, hl with | [_], _ => rfl
set_option maxHeartbeats 4000000 in
theorem ok_KeptProduct_exponent_now {f : Addr} {fd : FuncData} (F : Fun K "exponent_now" "KeptProduct.exponent_now" s_KeptProduct_exponent_now f fd) (B : Bt mg)  (h_common_divisor : Fn P w K mg base CX0 1 "common_divisor" ["one", "other"] (sp_common_divisor K)) : FnOk P w K mg base CX0 2 f fd ["self"] (sp_KeptProduct_exponent_now K) := by
  refine F.ok sc_KeptProduct_exponent_now (fun vs H Q E h => ?_) (fun cdv A outer s H vs Q E hr h => ?_)
  · obtain ⟨p, ln, lo, L, rfl, hK, q⟩ := h
    rfl
  · obtain ⟨p, ln, lo, L, rfl, hK, q⟩ := h
    refine ⟨_, (pss_cons (ps_set (i := 1) sc_KeptProduct_exponent_now.nd rfl (Or.inl rfl) pe_int)
      (pss_cons (ps_lock (ps_for PassesOwn.never rfl (pi_values (k_fld K (pv 0) rfl)) (pg_name (i := 2) sc_KeptProduct_exponent_now.nd rfl (Or.inl rfl))
        (pss_one (ps_set (i := 1) sc_KeptProduct_exponent_now.nd rfl (Or.inl rfl) (pe_fn h_common_divisor (hr.mono (by decide)) (by rfl) (pa_cons (pv 1) (pa_cons (pv 2) pa_nil)))))))
      (pss_cons (ps_if (pt_cmpR op_eq (pv 1) pe_int (nomark _))
        (pss_one (ps_ret pe_int))
        pss_nil)
      (pss_one (ps_ret (pv 1)))))), ?_⟩
    obtain ⟨n1, n2, n3⟩ := hK.ne
    obtain ⟨ks, hc⟩ := hK.cd
    walk_at "o"
    refine ⟨lo, _, hc.at_, trivial, fun od => ?_⟩
    have hO := hK.ob.upd (o := .frz od (.dK (dN ks fun k => .int (((pfs L).count k : Nat) : Int)))) n2
    refine hO.fldO ?_
    refine ⟨lo, rfl, od, _, upd_same, for_v (fun i σ H' => H' = upd H lo (.frz od (.dK (dN ks fun k => .int (((pfs L).count k : Nat) : Int)))) ∧ ∃ (r : Nat) (v2 : Option V), σ = [some (.ref p), some (.int (r : Int)), v2] ∧ ∀ d, d ∣ r ↔ ∀ p ∈ ks.take i, d ∣ (pfs L).count p) ⟨rfl, 0, _, rfl, fun d => ⟨fun _ p hp => by simp at hp, fun _ => Nat.dvd_zero d⟩⟩ ?_ ?_ ?_⟩
    · rintro i σ H' _ ⟨rfl, _⟩
      exact upd_same
    · rintro i m σ H' hm hi ⟨rfl, r, v2, rfl, hd⟩ N hN
      walk_at "o"
      refine ⟨r, (pfs L).count m, rfl, ?_⟩
      walk_at "o"
      exact hN _ _ ⟨rfl, _, _, rfl, dvd_step hd hm⟩
    · rintro σ H' ⟨rfl, r, v2, rfl, hd⟩
      rw [List.take_length] at hd
      refine ⟨upd_same, ?_⟩
      rw [upd_upd, upd_eta hc.at_]
      have hE := gcd_exp hc.all hd
      walk_at "o"
      refine ite2 (fun h0 => ?_) (fun h0 => ?_)
      · rw [if_pos (by omega)] at hE
        exact q 2 _ (Same.refl _) hE
      · rw [if_neg (by omega)] at hE
        walk_at "o"
        exact q r _ (Same.refl _) hE
end
abbrev s_KeptProduct_lacks_now : Stmt := inClass (top 10) 6
theorem sc_KeptProduct_lacks_now : FnScope ["self", "exponent", "found", "prime", "many"] ["self", "exponent"] (defScope s_KeptProduct_lacks_now) := ⟨rfl, rfl, rfl, by decide +kernel, rfl, by decide +kernel, by decide +kernel⟩
def sp_KeptProduct_lacks_now (K : PySem.W.Frag) : Sp := fun vs H Q _ => ∃ (p ln lo : Addr) (L : List Nat) (e : Nat), vs = [.ref p, .int (e : Int)] ∧ KP K H p ln lo L ∧ 1 ≤ e ∧ e ≤ 200 ∧ L.length ≤ 200 ∧ ∀ (r : Nat) (H' : Hp), Same H H' → IsLack (pfs L) e r → Q (.int (r : Int)) H'
section
variable {P : Program} {w : World} {K : PySem.W.Frag} {mg : PySem.Str → Option Value} {base : Heap}
theorem bi_KeptProduct_lacks_now {f : Addr} {fd : FuncData} (F : Fun K "lacks_now" "KeptProduct.lacks_now" s_KeptProduct_lacks_now f fd) : Binds K fd ["self", "exponent"] [] := F.binds (ps := ["self", "exponent"]) fun _ _ _ _ _ _ us hl => match us, hl with | [_, _], _ => rfl
set_option maxHeartbeats 4000000 in
theorem ok_KeptProduct_lacks_now {f : Addr} {fd : FuncData} (F : Fun K "lacks_now" "KeptProduct.lacks_now" s_KeptProduct_lacks_now f fd) (B : Bt mg)  (h_taken : Fn P w K mg base CX0 1 "taken" ["base", "exponent"] (sp_taken K)) : FnOk P w K mg base CX0 2 f fd ["self", "exponent"] (sp_KeptProduct_lacks_now K) := by
  refine F.ok sc_KeptProduct_lacks_now (fun vs H Q E h => ?_) (fun cdv A outer s H vs Q E hr h => ?_)
  · obtain ⟨p, ln, lo, L, e, rfl, hK, he1, he, hlen, q⟩ := h
    rfl
  · obtain ⟨p, ln, lo, L, e, rfl, hK, he1, he, hlen, q⟩ := h
    refine ⟨_, (pss_cons (ps_set (i := 2) sc_KeptProduct_lacks_now.nd rfl (Or.inl rfl) pe_int)
      (pss_cons (ps_lock (ps_for PassesOwn.never rfl (pi_items (k_fld K (pv 0) rfl)) (pg_tup rfl (pgs_cons (pg_name (i := 3) sc_KeptProduct_lacks_now.nd rfl (Or.inl rfl)) (pgs_cons (pg_name (i := 4) sc_KeptProduct_lacks_now.nd rfl (Or.inl rfl)) pgs_nil)))
        (pss_one (ps_set (i := 2) sc_KeptProduct_lacks_now.nd rfl (Or.inl rfl) (pe_op op_mulW (pv 2) (pe_fn h_taken (hr.mono (by decide)) (by rfl) (pa_cons (pv 3) (pa_cons (pe_op op_mod (pe_op op_sub pe_int (pv 4)) (pv 1)) pa_nil))))))))
      (pss_one (ps_ret (pv 2))))), ?_⟩
    obtain ⟨n1, n2, n3⟩ := hK.ne
    obtain ⟨ks, hc⟩ := hK.cd
    walk_at "o"
    refine ⟨lo, _, hc.at_, trivial, fun od => ?_⟩
    have hO := hK.ob.upd (o := .frz od (.dK (dN ks fun k => .int (((pfs L).count k : Nat) : Int)))) n2
    refine hO.fldO ?_
    have fz : upd H lo (.frz od (.dK (dN ks fun k => .int (((pfs L).count k : Nat) : Int)))) lo = _ := upd_same
    refine ⟨lo, rfl, od, _, fz, for_i (fun i σ H' => Same (upd H lo (.frz od (.dK (dN ks fun k => .int (((pfs L).count k : Nat) : Int))))) H' ∧ ∃ (v3 v4 : Option V), σ = [some (.ref p), some (.int (e : Int)), some (.int ((lackK (ks.take i) (pfs L) e : Nat) : Int)), v3, v4]) ⟨Same.refl _, _, _, rfl⟩ ?_ ?_ ?_⟩
    · rintro i σ H' _ ⟨s, _⟩
      exact s _ _ fz
    · rintro i m σ H' T hm hi ⟨s1, v3, v4, rfl⟩ hT N hN
      have sT := same_new (o := .tup [V.int (m : Int), V.int (((pfs L).count m : Nat) : Int)]) hT
      have hT2 : upd H' T (.tup [V.int (m : Int), V.int (((pfs L).count m : Nat) : Int)]) T = _ := upd_same
      have s2 := s1.trans sT
      generalize upd H' T (.tup [V.int (m : Int), V.int (((pfs L).count m : Nat) : Int)]) = H3 at sT hT2 s2 ⊢
      have hr := hc.rng m (List.mem_of_getElem? hm)
      have hlt : lackE ((pfs L).count m) e < e := Nat.mod_lt _ (by omega)
      have hm20 : m < 2 ^ 20 := Nat.lt_of_le_of_lt hr.2 (by decide)
      have hX : lackK (ks.take i) (pfs L) e ≤ 2 ^ (20 * L.length * e) := lack_log he1 (hc.nd.sublist (List.take_sublist i ks)) hK.rng fun x hx => by
        have := hc.rng x (List.mem_of_mem_take hx)
        omega
      have hB : 20 * L.length * e ≤ 20 * 200 * 200 := Nat.mul_le_mul (by omega) he
      have l1 := log2_le_of_le hX
      have hY : m ^ lackE ((pfs L).count m) e ≤ 2 ^ (20 * lackE ((pfs L).count m) e) := by
        rw [Nat.pow_mul]
        exact Nat.pow_le_pow_left (by omega) _
      have l2 := log2_le_of_le hY
      have em := lack_mod ((pfs L).count m) he1
      have ep : ((lackK (ks.take i) (pfs L) e : Nat) : Int) * ((m ^ lackE ((pfs L).count m) e : Nat) : Int) = ((lackK (ks.take (i + 1)) (pfs L) e : Nat) : Int) := by
        rw [List.take_add_one, hm, Option.toList_some, lackK_snoc]
        push_cast
        rfl
      refine ⟨T, _, rfl, SqT.of hT2, rfl, ?_⟩
      walk_at "o"
      rw [em]
      refine ⟨by omega, m, lackE ((pfs L).count m) e, 20, rfl, .inl hm20, by omega, ?_⟩
      walk_at "o"
      rw [ep]
      refine ⟨cmulN (by omega), hN _ _ ⟨s2, _, _, rfl⟩⟩
    · rintro σ H' ⟨s1, v3, v4, rfl⟩
      rw [List.take_length]
      refine ⟨s1 _ _ fz, ?_⟩
      walk_at "o"
      exact q _ _ (same_unlock s1 hc.at_) (lack_keys hc.nd hc.all)
end
abbrev s__law_mix : Stmt := top 12
theorem sc__law_mix : FnScope ["cell", "k", "number"] ["cell", "k"] (defScope s__law_mix) := ⟨rfl, rfl, rfl, by decide +kernel, rfl, by decide +kernel, by decide +kernel⟩
def sp__law_mix (K : PySem.W.Frag) : Sp := fun vs H Q _ => ∃ (c k : Int), vs = [.int c, .int k] ∧ 0 ≤ k ∧ k ≤ 2 ^ 40 ∧ ∀ r : Int, 0 ≤ r → Q (.int r) H
section
variable {P : Program} {w : World} {K : PySem.W.Frag} {mg : PySem.Str → Option Value} {base : Heap}
theorem bi__law_mix {f : Addr} {fd : FuncData} (F : Fun K "_law_mix" "_law_mix" s__law_mix f fd) : Binds K fd ["cell", "k"] [] := F.binds (ps := ["cell", "k"]) fun _ _ _ _ _ _ us hl => match us, hl with | [_, _], _ => rfl
set_option maxHeartbeats 4000000 in
theorem ok__law_mix {f : Addr} {fd : FuncData} (F : Fun K "_law_mix" "_law_mix" s__law_mix f fd) (B : Bt mg)   : FnOk P w K mg base CX0 1 f fd ["cell", "k"] (sp__law_mix K) := by
  refine F.ok sc__law_mix (fun vs H Q E h => ?_) (fun cdv A outer s H vs Q E hr h => ?_)
  · obtain ⟨c, k, rfl, h0, h1, q⟩ := h
    rfl
  · obtain ⟨c, k, rfl, h0, h1, q⟩ := h
    refine ⟨_, (pss_cons (ps_set (i := 2) sc__law_mix.nd rfl (Or.inl rfl) (pe_op op_add (pe_op op_mod (pv 0) pe_int) (pe_op op_mulW (pe_op op_mul pe_int (pv 1)) (pv 1))))
      (pss_cons (ps_set (i := 2) sc__law_mix.nd rfl (Or.inl rfl) (pe_op op_mod (pe_op op_add (pv 2) (pe_op op_mul pe_int (pv 1))) pe_int))
      (pss_cons (ps_set (i := 2) sc__law_mix.nd rfl (Or.inl rfl) (pe_op op_mod (pe_op op_mulW (pv 2) (pv 2)) pe_int))
      (pss_one (ps_ret (pe_op op_fdiv (pe_op op_mod (pe_op op_mulW (pv 2) (pe_op op_add (pv 2) pe_int)) pe_int) pe_int)))))), ?_⟩
    walk_at "w"
    refine ⟨by decide, by unfold CMul; omega, wide_mul (a := 64) (b := 64) (by omega) (by omega) (by decide) (by decide) (by decide), ?_⟩
    generalize 1000003 * k * k = z
    generalize hx : (c % 2147483629 + z + 7919 * k) % 2147483629 = x
    have hx1 : 0 ≤ x ∧ x < 2147483629 := by omega
    generalize hy : x * x % 2147483587 = y
    have hy1 : 0 ≤ y ∧ y < 2147483587 := by omega
    refine ⟨by unfold CMul; omega, by decide, wide_mul (a := 64) (b := 64) (by omega) (by omega) (by decide) (by decide) (by decide), by decide, wide_mul (a := 64) (b := 64) (by omega) (by omega) (by decide) (by decide) (by decide), by decide, by unfold CDiv; omega, q _ ?_⟩
    omega
end
abbrev s__law_deck : Stmt := top 13
theorem sc__law_deck : FnScope ["script"] ["script"] (defScope s__law_deck) := ⟨rfl, rfl, rfl, by decide +kernel, rfl, by decide +kernel, by decide +kernel⟩
def sp__law_deck (K : PySem.W.Frag) : Sp := fun vs H Q _ => ∃ (a : Addr) (ns : List Int), vs = [.ref a] ∧ SqL K H a (ns.map V.int) ∧ ∀ (p l : Addr) (H' : Hp), H p = none → Same H H' → Dk H' p l 0 → Q (.ref p) H'
section
variable {P : Program} {w : World} {K : PySem.W.Frag} {mg : PySem.Str → Option Value} {base : Heap}
theorem bi__law_deck {f : Addr} {fd : FuncData} (F : Fun K "_law_deck" "_law_deck" s__law_deck f fd) : Binds K fd ["script"] [] := F.binds (ps := ["script"]) fun _ _ _ _ _ _ us hl => match us, hl with | [_], _ => rfl
set_option maxHeartbeats 4000000 in
theorem ok__law_deck {f : Addr} {fd : FuncData} (F : Fun K "_law_deck" "_law_deck" s__law_deck f fd) (B : Bt mg)   : FnOk P w K mg base CX0 1 f fd ["script"] (sp__law_deck K) := by
  refine F.ok sc__law_deck (fun vs H Q E h => ?_) (fun cdv A outer s H vs Q E hr h => ?_)
  · obtain ⟨a, ns, rfl, hS, q⟩ := h
    rfl
  · obtain ⟨a, ns, rfl, hS, q⟩ := h
    refine ⟨_, (pss_one (ps_ret (pe_lst (pa_cons (pe_slice (k_slL K) (pv 0) po_none (po_some pe_int)) (pa_cons pe_int (pa_cons pe_int (pa_cons pe_int (pa_cons (pe_callB (k_sum K) (by rfl) B.sum (by decide +kernel) (pa_cons (pe_slice (k_slL K) (pv 0) po_none (po_some pe_int)) pa_nil)) pa_nil)))))))), ?_⟩
    walk_at "w"
    refine r_slL hS fun l hl => r_slL ((same_new hl).seq hS) fun l2 hl2 => ?_
    have e : cutV (ns.map V.int) none (some 63) = (ns.take 63).map V.int := by
      have := cut_to (ns.map V.int) 63
      rw [List.map_take]
      exact this
    rw [e] at hl2 ⊢
    refine r_sum (SqL.of (K := K) upd_same) ⟨by show 5 ≤ sizeLine; decide, fun p hp => ?_⟩
    have n1 := upd_free_ne hp
    have n2 := upd_free_ne (upd_free hp)
    refine q p l _ (upd_free (upd_free hp)) (sm_new (sm_new (same_new hl) (upd_free hl2)) (upd_free (upd_free hp))) ⟨ns.take 63, 0, 0, 0, _, upd_same, n2.symm, by walk_at "lk", by simp; omega, by omega, by omega, by omega, by omega, by omega⟩
end
abbrev s__law_next : Stmt := top 14
theorem sc__law_next : FnScope ["deck", "many", "cell", "found"] ["deck", "many"] (defScope s__law_next) := ⟨rfl, rfl, rfl, by decide +kernel, rfl, by decide +kernel, by decide +kernel⟩
def sp__law_next (K : PySem.W.Frag) : Sp := fun vs H Q _ => ∃ (a l : Addr) (n : Nat) (m : Int), vs = [.ref a, .int m] ∧ Dk H a l n ∧ n ≤ 2 ^ 39 ∧ 1 ≤ m ∧ m < 2 ^ 200 ∧ ∀ (r : Int) (H' : Hp), Kp a H H' → Dk H' a l (n + 1) → 0 ≤ r → r < m → Q (.int r) H'
theorem use_next {K : PySem.W.Frag} {a l : Addr} {n : Nat} {m : Int} {H H0 : Hp} {Q : VK} {E : XK} (k : Kp a H0 H) (d : Dk H a l n) (hn : n ≤ 2 ^ 39) (h1 : 1 ≤ m) (h2 : m < 2 ^ 200)
    (q : ∀ (r : Int) (H' : Hp), Kp a H H' → Kp a H0 H' → Dk H' a l (n + 1) → 0 ≤ r → r < m → Q (.int r) H') : sp__law_next K [.ref a, .int m] H Q E :=
  ⟨a, l, n, m, rfl, d, hn, h1, h2, fun r H' k' d' => q r H' k' (k.trans k') d'⟩
theorem pick_next {K : PySem.W.Frag} {a l p : Addr} {n : Nat} {m : Int} {xs : List V} {H H0 : Hp} {Q : VK} {E : XK} (P : V → Prop) (hP : ∀ x ∈ xs, P x) (k : Kp a H0 H) (d : Dk H a l n) (hn : n ≤ 2 ^ 39) (hp : H p = none) (hm : (xs.length : Int) = m) (h1 : 1 ≤ m) (h2 : m < 2 ^ 200)
    (q : ∀ (v : V) (H' : Hp), P v → Kp a H H' → Kp a H0 H' → Dk H' a l (n + 1) → Q v H') : sp__law_next K [.ref a, .int m] (upd H p (.lst xs)) (fun y H2 => rIxL K (.ref p) y H2 Q) E := by
  have np := d.ne hp
  refine use_next (K := K) (k.trans (sm_kp (same_new hp))) (d.same (same_new hp)) hn h1 h2 fun r H' k' K' d' r0 r1 => ?_
  obtain ⟨v, hv, hat⟩ := atI_mem (xs := xs) r0 (by omega)
  exact r_ixL (SqL.of (k' _ _ np upd_same)) hat (q v H' (hP v hv) ((sm_kp (same_new hp)).trans k') K' d')
/-- a whole number from lo to hi -/
def Btw (lo hi : Nat) (v : V) : Prop := ∃ f : Nat, v = .int (f : Int) ∧ lo ≤ f ∧ f ≤ hi
theorem Btw.mk {lo hi : Nat} {i : Int} (h1 : (lo : Int) ≤ i) (h2 : i ≤ hi) : Btw lo hi (.int i) := ⟨i.toNat, by congr 1; omega, by omega, by omega⟩
section
variable {P : Program} {w : World} {K : PySem.W.Frag} {mg : PySem.Str → Option Value} {base : Heap}
theorem bi__law_next {f : Addr} {fd : FuncData} (F : Fun K "_law_next" "_law_next" s__law_next f fd) : Binds K fd ["deck", "many"] [] := F.binds (ps := ["deck", "many"]) fun _ _ _ _ _ _ us hl => match us, hl with | [_, _], _ => rfl
set_option maxHeartbeats 4000000 in
theorem ok__law_next {f : Addr} {fd : FuncData} (F : Fun K "_law_next" "_law_next" s__law_next f fd) (B : Bt mg)  (h__law_mix : Fn P w K mg base CX0 1 "_law_mix" ["cell", "k"] (sp__law_mix K)) : FnOk P w K mg base CX0 2 f fd ["deck", "many"] (sp__law_next K) := by
  refine F.ok sc__law_next (fun vs H Q E h => ?_) (fun cdv A outer s H vs Q E hr h => ?_)
  · obtain ⟨a, l, n, m, rfl, hD, hn, hm, hm2, q⟩ := h
    rfl
  · obtain ⟨a, l, n, m, rfl, hD, hn, hm, hm2, q⟩ := h
    refine ⟨_, (pss_cons (ps_if (PW.pt (pw_and (pt_cmpR op_eq (pe_ix (k_ixL K) (pv 0) pe_int (fun _ _ => rfl)) pe_int (nomark _)) (pw_and1 (pt_cmpR op_lt (pe_ix (k_ixL K) (pv 0) pe_int (fun _ _ => rfl)) (pe_callB (k_len K) (by rfl) B.len (by decide +kernel) (pa_cons (pe_ix (k_ixL K) (pv 0) pe_int (fun _ _ => rfl)) pa_nil)) (nomark _)))))
        (pss_cons (ps_set (i := 2) sc__law_next.nd rfl (Or.inl rfl) (pe_ix (k_ixL K) (pe_ix (k_ixL K) (pv 0) pe_int (fun _ _ => rfl)) (pe_ix (k_ixL K) (pv 0) pe_int (fun _ _ => rfl)) (fun _ _ => rfl)))
        (pss_cons (ps_asg (pe_op op_add (pe_ix (k_ixL K) (pv 0) pe_int (fun _ _ => rfl)) pe_int) (pg_sub (pv 0) pe_int set_list))
        (pss_cons (ps_if (pt_cmpR op_lt (pv 2) (pe_op op_pow pe_int pe_int) (nomark _))
          (pss_one (ps_ret (pe_op op_mod (pe_fn h__law_mix (hr.mono (by decide)) (by rfl) (pa_cons (pv 2) (pa_cons (pe_ix (k_ixL K) (pv 0) pe_int (fun _ _ => rfl)) pa_nil))) (pv 1))))
          pss_nil)
        (pss_one (ps_asg (pv 2) (pg_sub (pv 0) pe_int set_list))))))
        pss_nil)
      (pss_cons (ps_if (pt_cmpR op_gt (pe_ix (k_ixL K) (pv 0) pe_int (fun _ _ => rfl)) pe_int (nomark _))
        (pss_cons (ps_set (i := 3) sc__law_next.nd rfl (Or.inl rfl) (pe_op op_mod (pe_ix (k_ixL K) (pv 0) pe_int (fun _ _ => rfl)) (pv 1)))
        (pss_cons (ps_asg (pe_op op_fdivW (pe_ix (k_ixL K) (pv 0) pe_int (fun _ _ => rfl)) (pv 1)) (pg_sub (pv 0) pe_int set_list))
        (pss_one (ps_ret (pv 3)))))
        pss_nil)
      (pss_cons (ps_asg (pe_op op_add (pe_ix (k_ixL K) (pv 0) pe_int (fun _ _ => rfl)) pe_int) (pg_sub (pv 0) pe_int set_list))
      (pss_one (ps_ret (pe_op op_mod (pe_fn h__law_mix (hr.mono (by decide)) (by rfl) (pa_cons (pe_ix (k_ixL K) (pv 0) pe_int (fun _ _ => rfl)) (pa_cons (pe_op op_add (pe_ix (k_ixL K) (pv 0) pe_int (fun _ _ => rfl)) pe_int) pa_nil))) (pv 1))))))), ?_⟩
    obtain ⟨ns, i, x, c, s, h1, h2, h3, h4, h5, h6, h7, h8, h9⟩ := hD
    have h3' : ∀ (o : HO), upd H a o l = some (.lst (ns.map V.int)) := fun o => (upd_ne h2).trans h3
    have q' : ∀ (z : Int) (H' : Hp), Kp a H H' → Dk H' a l (n + 1) → Q (.int (z % m)) H' := fun z H' k d => q _ H' k d (Int.emod_nonneg _ (by omega)) (Int.emod_lt_of_pos _ (by omega))
    have q2 : ∀ (z i' x' c' : Int), 0 ≤ i' → i' ≤ ns.length → 0 ≤ x' → 0 ≤ c' → c' ≤ n + 1 → Q (.int (z % m)) (upd H a (.lst [.ref l, .int i', .int x', .int c', .int s])) := fun z i' x' c' a1 a2 a3 a4 a5 =>
      q' z _ (Kp.refl a H).upd ⟨ns, i', x', c', s, upd_same, h2, h3' _, h4, a1, a2, a3, a4, by omega⟩
    have hdv : ∀ z : Int, CDivW z m := fun z => wide_div (b := 200) (by omega) (by omega) (by decide) (by decide)
    have hp : CPow 10 18 := by unfold CPow; omega
    -- an old cell goes on, or all are mixed
    walk_at "w"
    walk_at "ix"
    refine ite2 (fun hx => ?_) (fun hx => ?_)
    · subst hx
      walk_at "ix"
      walk_at "ix"
      refine r_len (SqL.of h3) ?_
      walk_at "w"
      refine ite2 (fun hi => ?_) (fun hi => ?_)
      · rw [List.length_map] at hi
        walk_at "ix"
        walk_at "ix"
        obtain ⟨z, hz, hat⟩ := atI_ints h5 hi
        refine r_ixL (SqL.of h3) hat ?_
        walk_at "ix"
        walk_at "st"
        refine ⟨hp, ite2 (fun hc => ?_) (fun hc => ?_)⟩
        · walk_at "ix"
          refine ⟨z, i + 1, rfl, by omega, by omega, fun r hr0 => ?_⟩
          walk_at "w"
          exact ⟨by omega, q2 r _ _ _ (by omega) (by omega) (by omega) (by omega) (by omega)⟩
        · have hz0 : 0 ≤ z := by
            have e : (10 : Int) ^ Int.toNat 18 = 1000000000000000000 := rfl
            omega
          walk_at "st"
          rw [upd_upd]
          walk_at "ix"
          have e : (10 : Int) ^ Int.toNat 18 = 1000000000000000000 := rfl
          rw [if_pos (by omega)]
          walk_at "ix"
          refine ⟨by omega, ?_⟩
          walk_at "ix"
          refine ⟨hdv _, ?_⟩
          walk_at "st"
          rw [upd_upd]
          exact q2 z _ _ _ (by omega) (by omega) (Int.ediv_nonneg hz0 (by omega)) (by omega) (by omega)
      · walk_at "ix"
        rw [if_neg (by omega)]
        walk_at "ix"
        walk_at "st"
        walk_at "ix"
        walk_at "ix"
        refine ⟨s, _, rfl, by omega, by omega, fun r hr0 => ?_⟩
        walk_at "w"
        exact ⟨by omega, q2 r _ _ _ (by omega) (by omega) (by omega) (by omega) (by omega)⟩
    · walk_at "ix"
      rw [if_pos (by omega)]
      walk_at "ix"
      refine ⟨by omega, ?_⟩
      walk_at "ix"
      refine ⟨hdv _, ?_⟩
      walk_at "st"
      exact q2 x _ _ _ (by omega) (by omega) (Int.ediv_nonneg h7 (by omega)) (by omega) (by omega)
end
abbrev s__law_small : Stmt := top 15
theorem sc__law_small : FnScope ["deck", "smooth", "k", "factor", "base", "power", "some"] ["deck"] (defScope s__law_small) := ⟨rfl, rfl, rfl, by decide +kernel, rfl, by decide +kernel, by decide +kernel⟩
def sp__law_small (K : PySem.W.Frag) : Sp := fun vs H Q _ => ∃ (a l : Addr) (n : Nat), vs = [.ref a] ∧ Dk H a l n ∧ n ≤ 2 ^ 38 ∧ ∀ (r : Nat) (H' : Hp), Kp a H H' → Dk H' a l (n + 60) → 1 ≤ r → r ≤ 1000000 → Q (.int (r : Int)) H'
theorem use_small {K : PySem.W.Frag} {a l : Addr} {n : Nat} {H H0 : Hp} {Q : VK} {E : XK} (k : Kp a H0 H) (d : Dk H a l n) (hn : n ≤ 2 ^ 38)
    (q : ∀ (r : Nat) (H' : Hp), Kp a H H' → Kp a H0 H' → Dk H' a l (n + 60) → 1 ≤ r → r ≤ 1000000 → Q (.int (r : Int)) H') : sp__law_small K [.ref a] H Q E :=
  ⟨a, l, n, rfl, d, hn, fun r H' k' d' => q r H' k' (k.trans k') d'⟩
section
variable {P : Program} {w : World} {K : PySem.W.Frag} {mg : PySem.Str → Option Value} {base : Heap}
theorem bi__law_small {f : Addr} {fd : FuncData} (F : Fun K "_law_small" "_law_small" s__law_small f fd) : Binds K fd ["deck"] [] := F.binds (ps := ["deck"]) fun _ _ _ _ _ _ us hl => match us, hl with | [_], _ => rfl
set_option maxHeartbeats 4000000 in
theorem ok__law_small {f : Addr} {fd : FuncData} (F : Fun K "_law_small" "_law_small" s__law_small f fd) (B : Bt mg)  (h__law_next : Fn P w K mg base CX0 2 "_law_next" ["deck", "many"] (sp__law_next K)) : FnOk P w K mg base CX0 3 f fd ["deck"] (sp__law_small K) := by
  refine F.ok sc__law_small (fun vs H Q E h => ?_) (fun cdv A outer s H vs Q E hr h => ?_)
  · obtain ⟨a, l, n, rfl, hD, hn, q⟩ := h
    rfl
  · obtain ⟨a, l, n, rfl, hD, hn, q⟩ := h
    refine ⟨_, (pss_cons (ps_set (i := 1) sc__law_small.nd rfl (Or.inl rfl) pe_int)
      (pss_cons (ps_for PassesOwn.never rfl (pi_range1 rfl B.range (pa_cons (pe_fn h__law_next (hr.mono (by decide)) (by rfl) (pa_cons (pv 0) (pa_cons pe_int pa_nil))) pa_nil)) (pg_name (i := 2) sc__law_small.nd rfl (Or.inl rfl))
        (pss_cons (ps_set (i := 3) sc__law_small.nd rfl (Or.inl rfl) (pe_ix (k_ixL K) (pe_lst (pa_cons pe_int (pa_cons pe_int (pa_cons pe_int (pa_cons pe_int (pa_cons pe_int (pa_cons pe_int (pa_cons pe_int (pa_cons pe_int pa_nil))))))))) (pe_fn h__law_next (hr.mono (by decide)) (by rfl) (pa_cons (pv 0) (pa_cons pe_int pa_nil))) (fun _ _ => rfl)))
        (pss_one (ps_if (pt_cmpR op_le (pe_op op_mulW (pv 1) (pv 3)) (pe_op op_pow pe_int pe_int) (nomark _))
          (pss_one (ps_set (i := 1) sc__law_small.nd rfl (Or.inl rfl) (pe_op op_mulW (pv 1) (pv 3))))
          pss_nil))))
      (pss_cons (ps_set (i := 4) sc__law_small.nd rfl (Or.inl rfl) (pe_op op_add pe_int (pe_fn h__law_next (hr.mono (by decide)) (by rfl) (pa_cons (pv 0) (pa_cons pe_int pa_nil)))))
      (pss_cons (ps_set (i := 5) sc__law_small.nd rfl (Or.inl rfl) (pv 4))
      (pss_cons (ps_for PassesOwn.never rfl (pi_range1 rfl B.range (pa_cons (pe_fn h__law_next (hr.mono (by decide)) (by rfl) (pa_cons (pv 0) (pa_cons pe_int pa_nil))) pa_nil)) (pg_name (i := 2) sc__law_small.nd rfl (Or.inl rfl))
        (pss_one (ps_if (pt_cmpR op_le (pe_op op_mulW (pv 5) (pv 4)) (pe_op op_pow pe_int pe_int) (nomark _))
          (pss_one (ps_set (i := 5) sc__law_small.nd rfl (Or.inl rfl) (pe_op op_mulW (pv 5) (pv 4))))
          pss_nil)))
      (pss_cons (ps_set (i := 6) sc__law_small.nd rfl (Or.inl rfl) (pe_lst (pa_cons (pe_op op_add pe_int (pe_fn h__law_next (hr.mono (by decide)) (by rfl) (pa_cons (pv 0) (pa_cons pe_int pa_nil)))) (pa_cons (pv 1) (pa_cons (pv 1) (pa_cons (pv 5) (pa_cons (pe_op op_add pe_int (pe_fn h__law_next (hr.mono (by decide)) (by rfl) (pa_cons (pv 0) (pa_cons (pe_op op_pow pe_int pe_int) pa_nil)))) (pa_cons pe_int (pa_cons (pe_op op_pow pe_int pe_int) (pa_cons pe_int pa_nil))))))))))
      (pss_one (ps_ret (pe_ix (k_ixL K) (pv 6) (pe_fn h__law_next (hr.mono (by decide)) (by rfl) (pa_cons (pv 0) (pa_cons pe_int pa_nil))) (fun _ _ => rfl)))))))))), ?_⟩
    have e6 : (10 : Int) ^ Int.toNat 6 = 1000000 := rfl
    have c6 : CPow 10 6 := by unfold CPow; omega
    have mul : ∀ x y : Nat, (x : Int) * (y : Int) = ((x * y : Nat) : Int) := fun x y => by push_cast; rfl
    have cm : ∀ x y : Nat, x ≤ 1000000 → y ≤ 1000000 → CMulW (x : Int) (y : Int) := fun x y hx hy => wide_mul (a := 64) (b := 64) (by omega) (by omega) (by decide) (by decide) (by decide)
    walk_at "w"
    refine use_next (Kp.refl a H) hD (by omega) (by omega) (by omega) fun r1 H1 k1 K1 d1 a1 b1 => ?_
    refine ⟨r1, rfl, by omega, by omega, for_r (fun i σ H' => ∃ (s : Nat) (v2 v3 : Option V), σ = [some (.ref a), some (.int (s : Int)), v2, v3, none, none, none] ∧ Kp a H H' ∧ Dk H' a l (n + 1 + i) ∧ 1 ≤ s ∧ s ≤ 1000000) ⟨1, _, _, rfl, K1, d1, by omega, by omega⟩ ?_ ?_⟩
    · rintro i σ H2 hi ⟨s, v2, v3, rfl, k2, d2, s1, s2⟩ N hN
      have hi : i < 12 := by omega
      walk_at "w"
      refine ⟨by show 8 ≤ sizeLine; decide, fun p hp => ?_⟩
      refine pick_next (Btw 2 11) (fun x hx => by
        simp only [List.mem_cons, List.not_mem_nil, or_false] at hx
        rcases hx with rfl | rfl | rfl | rfl | rfl | rfl | rfl | rfl <;> exact Btw.mk (by omega) (by omega)) (Kp.refl _ _) d2 (by omega) hp rfl (by omega) (by omega) fun v H3 hv _ K3 d3 => ?_
      obtain ⟨f, rfl, f1, f2⟩ := hv
      walk_at "w"
      rw [e6, mul]
      refine ⟨cm _ _ s2 (by omega), c6, ite2 (fun hc => ?_) (fun hc => ?_)⟩
      · walk_at "w"
        exact ⟨cm _ _ s2 (by omega), hN _ _ ⟨_, _, _, rfl, k2.trans K3, d3.mono (by omega), Nat.mul_pos s1 (by omega), by omega⟩⟩
      · walk_at "w"
        exact hN _ _ ⟨_, _, _, rfl, k2.trans K3, d3.mono (by omega), s1, s2⟩
    · rintro σ H2 ⟨s, v2, v3, rfl, k2, d2, s1, s2⟩
      have hr : r1.toNat ≤ 11 := by omega
      walk_at "w"
      refine use_next k2 (d2.mono (m := n + 12) (by omega)) (by omega) (by omega) (by omega) fun r2 H3 k3 K3 d3 a3 b3 => ?_
      obtain ⟨r2, rfl⟩ := Int.eq_ofNat_of_zero_le a3
      have e2 : (2 : Int) + (r2 : Int) = ((2 + r2 : Nat) : Int) := by omega
      walk_at "w"
      refine use_next K3 d3 (by omega) (by omega) (by omega) fun r3 H4 k4 K4 d4 a4 b4 => ?_
      rw [e2]
      refine ⟨r3, rfl, by omega, by omega, for_r (fun i σ H' => ∃ (g : Nat) (v2 v3 : Option V), σ = [some (.ref a), some (.int (s : Int)), v2, v3, some (.int ((2 + r2 : Nat) : Int)), some (.int (g : Int)), none] ∧ Kp a H H' ∧ Dk H' a l (n + 14) ∧ 1 ≤ g ∧ g ≤ 1000000) ⟨2 + r2, _, _, rfl, K4, d4, by omega, by omega⟩ ?_ ?_⟩
      · rintro i σ H5 hi ⟨g, v2, v3, rfl, k5, d5, g1, g2⟩ N hN
        walk_at "w"
        rw [e6, mul]
        refine ⟨cm _ _ g2 (by omega), c6, ite2 (fun hc => ?_) (fun hc => ?_)⟩
        · walk_at "w"
          exact ⟨cm _ _ g2 (by omega), hN _ _ ⟨_, _, _, rfl, k5, d5, Nat.mul_pos g1 (by omega), by omega⟩⟩
        · walk_at "w"
          exact hN _ _ ⟨_, _, _, rfl, k5, d5, g1, g2⟩
      · rintro σ H5 ⟨g, v2, v3, rfl, k5, d5, g1, g2⟩
        walk_at "w"
        rw [e6]
        refine use_next k5 d5 (by omega) (by omega) (by omega) fun r4 H6 k6 K6 d6 a6 b6 => ⟨r4, rfl, c6, ?_⟩
        refine use_next K6 d6 (by omega) (by omega) (by omega) fun r5 H7 k7 K7 d7 a7 b7 => ⟨r5, rfl, c6, by show 8 ≤ sizeLine; decide, fun p hp => ?_⟩
        refine pick_next (Btw 1 1000000) (fun x hx => by
          simp only [List.mem_cons, List.not_mem_nil, or_false] at hx
          rcases hx with rfl | rfl | rfl | rfl | rfl | rfl | rfl | rfl <;> exact Btw.mk (by omega) (by omega)) K7 d7 (by omega) hp rfl (by omega) (by omega) fun v H8 hv _ K8 d8 => ?_
        obtain ⟨f, rfl, f1, f2⟩ := hv
        exact q f H8 K8 (d8.mono (by omega)) f1 f2
end
abbrev s__law_primes : Stmt := top 16
theorem sc__law_primes : FnScope ["number", "found", "prime"] ["number"] (defScope s__law_primes) := ⟨rfl, rfl, rfl, by decide +kernel, rfl, by decide +kernel, by decide +kernel⟩
def sp__law_primes (K : PySem.W.Frag) : Sp := fun vs H Q _ => ∃ (n : Nat), vs = [.int (n : Int)] ∧ 1 ≤ n ∧ n ≤ 1000000 ∧ ∀ (p : Addr) (H' : Hp), H p = none → Same H H' → H' p = some (.lst ((ofN (pf n)).map V.int)) → Q (.ref p) H'
section
variable {P : Program} {w : World} {K : PySem.W.Frag} {mg : PySem.Str → Option Value} {base : Heap}
theorem bi__law_primes {f : Addr} {fd : FuncData} (F : Fun K "_law_primes" "_law_primes" s__law_primes f fd) : Binds K fd ["number"] [] := F.binds (ps := ["number"]) fun _ _ _ _ _ _ us hl => match us, hl with | [_], _ => rfl
set_option maxHeartbeats 4000000 in
theorem ok__law_primes {f : Addr} {fd : FuncData} (F : Fun K "_law_primes" "_law_primes" s__law_primes f fd) (B : Bt mg)   : FnOk P w K mg base CX0 1 f fd ["number"] (sp__law_primes K) := by
  refine F.ok sc__law_primes (fun vs H Q E h => ?_) (fun cdv A outer s H vs Q E hr h => ?_)
  · obtain ⟨n, rfl, hn1, hn, q⟩ := h
    rfl
  · obtain ⟨n, rfl, hn1, hn, q⟩ := h
    refine ⟨_, (pss_cons (ps_set (i := 1) sc__law_primes.nd rfl (Or.inl rfl) (pe_lst pa_nil))
      (pss_cons (ps_set (i := 2) sc__law_primes.nd rfl (Or.inl rfl) pe_int)
      (pss_cons (ps_while PassesOwn.never (pt_cmpR op_gt (pv 0) pe_int (nomark _))
        (Evl.pss_cut (ps_if (pt_cmpR op_gt (pe_op op_mulW (pv 2) (pv 2)) (pv 0) (nomark _))
          (pss_one (ps_set (i := 2) sc__law_primes.nd rfl (Or.inl rfl) (pv 0)))
          pss_nil)
        (pss_cons (ps_while PassesOwn.never (pt_cmpR op_eq (pe_op op_mod (pv 0) (pv 2)) pe_int (nomark _))
          (pss_cons (ps_expr (pe_bm PySem.F.plainAttrs_list PySem.F.slot_list_append PySem.F.type_list_append mt_append (pv 1) (pa_cons (pv 2) pa_nil)))
          (pss_one (ps_set (i := 0) sc__law_primes.nd rfl (Or.inl rfl) (pe_op op_fdivW (pv 0) (pv 2))))))
        (pss_one (ps_set (i := 2) sc__law_primes.nd rfl (Or.inl rfl) (pe_op op_add (pv 2) pe_int))))))
      (pss_one (ps_ret (pv 1)))))), ?_⟩
    walk_at "w"
    refine ⟨Nat.zero_le _, fun p hp => ?_⟩
    have short : ∀ l r : List Nat, l ++ r = pf n → l.length < 20 := fun l r e => by
      have h1 := pf_len hn1 hn
      rw [← e, List.length_append] at h1
      omega
    refine while_m (fun z σ H' => ∃ (m d : Nat) (l : List Nat), σ = [some (.int (m : Int)), some (.ref p), some (.int (d : Int))] ∧ (if m ≤ 1 then 0 else 2000000 - d) = z ∧ 2 ≤ d ∧ d ≤ n + 2 ∧ 1 ≤ m ∧ m ≤ n ∧ Low d m ∧ l ++ pfT d m = pf n ∧ Same H H' ∧ H' p = some (.lst ((ofN l).map V.int))) (if n ≤ 1 then 0 else 1999998) ⟨n, 2, [], rfl, rfl, by omega, by omega, hn1, Nat.le_refl _, low_2 n, rfl, same_new hp, upd_same⟩ ?_
    rintro z σ H1 ⟨m, d, l, rfl, rfl, hd, hdn, hm, hmn, hlow, hl, s1, hP⟩ G hG
    walk_at "w"
    refine ite2 (fun hw => hG _ _ fun N hN => ?_) (fun hw => ?_)
    · have hm2 : 2 ≤ m := by omega
      rw [if_neg (by omega)] at hN
      have cm : CMulW (d : Int) (d : Int) := wide_mul (a := 64) (b := 64) (by omega) (by omega) (by decide) (by decide) (by decide)
      have e1 : (d : Int) * (d : Int) = ((d * d : Nat) : Int) := by push_cast; rfl
      refine cut_m (fun σ H' => H' = H1 ∧ ∃ d' : Nat, σ = [some (.int (m : Int)), some (.ref p), some (.int (d' : Int))] ∧ 2 ≤ d' ∧ d' ≤ m ∧ Low d' m ∧ l ++ pfT d' m = pf n ∧ (d' = d ∨ d' = m)) (fun N2 hN2 => ?_) ?_
      · walk_at "w"
        rw [e1]
        refine ⟨cm, ite2 (fun hc => ?_) (fun hc => ?_)⟩
        · have hmd : m < d * d := by omega
          walk_at "w"
          refine hN2 _ _ ⟨rfl, m, rfl, hm2, Nat.le_refl _, low_self hlow hmd, ?_, .inr rfl⟩
          rw [pfT_big hm2 (by omega) (Nat.lt_of_lt_of_le (by omega : m < 2 * m) (Nat.mul_le_mul_right m hm2)), ← pfT_big hd (by omega) hmd]
          exact hl
        · walk_at "w"
          exact hN2 _ _ ⟨rfl, d, rfl, hd, Nat.le_trans (Nat.le_mul_of_pos_left d (by omega)) (by omega : d * d ≤ m), hlow, hl, .inl rfl⟩
      · rintro σ H' ⟨rfl, d', rfl, hd2, hdm, hlow2, hl2, hor⟩
        refine while_m (fun z σ H' => ∃ (m' : Nat) (l' : List Nat), σ = [some (.int (m' : Int)), some (.ref p), some (.int (d' : Int))] ∧ m' = z ∧ 1 ≤ m' ∧ m' ≤ m ∧ (m' = m ∨ m' ≤ m / d') ∧ Low d' m' ∧ l' ++ pfT d' m' = pf n ∧ Same H H' ∧ H' p = some (.lst ((ofN l').map V.int))) m ⟨m, l, rfl, rfl, hm, Nat.le_refl _, .inl rfl, hlow2, hl2, s1, hP⟩ ?_
        rintro z σ H2 ⟨m2, l2, rfl, rfl, hm21, hm2n, hmo, hlow3, hl3, s2, hP2⟩ G2 hG2
        walk_at "w"
        refine ⟨by omega, ite2 (fun hw2 => hG2 _ _ fun N2 hN2 => ?_) (fun hw2 => ?_)⟩
        · have hdv : d' ∣ m2 := Nat.dvd_of_mod_eq_zero (by omega)
          have hlt : m2 / d' < m2 := Nat.div_lt_self (by omega) (by omega)
          have hge : 1 ≤ m2 / d' := Nat.div_pos (Nat.le_of_dvd hm21 hdv) (by omega)
          have e2 : (m2 : Int) / (d' : Int) = ((m2 / d' : Nat) : Int) := by push_cast; rfl
          have eL : (ofN l2).map V.int ++ [V.int (d' : Int)] = (ofN (l2 ++ [d'])).map V.int := by simp [ofN]
          have hsh := short _ _ hl3
          walk_at "w"
          refine ⟨.inl ⟨rfl, _, SqL.of hP2⟩, r_app hP2 (size_le (by rw [List.length_map, ofN_len]; omega)) ?_⟩
          rw [eL, e2]
          have hdd : m2 / d' ≤ m / d' := Nat.div_le_div_right hm2n
          refine ⟨wide_div (b := 64) (by omega) (by omega) (by decide) (by decide), hN2 _ _ _ hlt ⟨m2 / d', l2 ++ [d'], rfl, rfl, hge, by omega, .inr hdd, low_div hlow3 hdv, ?_, sm_new s2 hp, upd_same⟩⟩
          rw [List.append_assoc, List.singleton_append, ← pfT_dvd hd2 hm21 hlow3 hdv, hl3]
        · have hnd : ¬ d' ∣ m2 := fun z => hw2 (by have := Nat.mod_eq_zero_of_dvd z; omega)
          have e3 : (d' : Int) + 1 = ((d' + 1 : Nat) : Int) := by omega
          walk_at "w"
          rw [e3]
          refine hN (if m2 ≤ 1 then 0 else 2000000 - (d' + 1)) _ _ ?_ ⟨m2, d' + 1, l2, rfl, rfl, by omega, by omega, hm21, by omega, low_up hlow3 hnd, by rw [← pfT_up hd2 hnd]; exact hl3, s2, hP2⟩
          split
          · omega
          · rcases hor with rfl | rfl
            · omega
            · exfalso
              rw [Nat.div_self (by omega)] at hmo
              rcases hmo with c | c
              · exact hnd (c ▸ Nat.dvd_refl m2)
              · omega
    · rw [pfT_one (by omega), List.append_nil] at hl
      subst hl
      walk_at "w"
      exact q p H1 hp s1 hP
end
abbrev s__law_often : Stmt := top 17
theorem sc__law_often : FnScope ["numbers", "found", "number", "prime"] ["numbers"] (defScope s__law_often) := ⟨rfl, rfl, rfl, by decide +kernel, rfl, by decide +kernel, by decide +kernel⟩
def sp__law_often (K : PySem.W.Frag) : Sp := fun vs H Q _ => ∃ (a : Addr) (L : List Nat), vs = [.ref a] ∧ SqL K H a ((ofN L).map V.int) ∧ L.length ≤ 10000 ∧ (∀ x ∈ L, 1 ≤ x ∧ x ≤ 1000000) ∧ ∀ (p : Addr) (ks : List Nat) (H' : Hp), H p = none → Same H H' → CD H' p (pfs L) ks → (∀ x ∈ ks, x ∈ pfs L) → Q (.ref p) H'
theorem pfs_take {L : List Nat} {i n : Nat} (h : L[i]? = some n) : pfs (L.take (i + 1)) = pfs (L.take i) ++ pf n := by
  rw [List.take_add_one, h, Option.toList_some, pfs_append, pfs_one]
section
variable {P : Program} {w : World} {K : PySem.W.Frag} {mg : PySem.Str → Option Value} {base : Heap}
theorem bi__law_often {f : Addr} {fd : FuncData} (F : Fun K "_law_often" "_law_often" s__law_often f fd) : Binds K fd ["numbers"] [] := F.binds (ps := ["numbers"]) fun _ _ _ _ _ _ us hl => match us, hl with | [_], _ => rfl
set_option maxHeartbeats 4000000 in
theorem ok__law_often {f : Addr} {fd : FuncData} (F : Fun K "_law_often" "_law_often" s__law_often f fd) (B : Bt mg)  (h__law_primes : Fn P w K mg base CX0 1 "_law_primes" ["number"] (sp__law_primes K)) : FnOk P w K mg base CX0 2 f fd ["numbers"] (sp__law_often K) := by
  refine F.ok sc__law_often (fun vs H Q E h => ?_) (fun cdv A outer s H vs Q E hr h => ?_)
  · obtain ⟨a, L, rfl, hS, hlen, hrng, q⟩ := h
    rfl
  · obtain ⟨a, L, rfl, hS, hlen, hrng, q⟩ := h
    refine ⟨_, (pss_cons (ps_set (i := 1) sc__law_often.nd rfl (Or.inl rfl) pe_dnewK)
      (pss_cons (ps_for PassesOwn.never rfl (pi_list (pv 0)) (pg_name (i := 2) sc__law_often.nd rfl (Or.inl rfl))
        (pss_one (ps_for PassesOwn.never rfl (pi_list (pe_fn h__law_primes (hr.mono (by decide)) (by rfl) (pa_cons (pv 2) pa_nil))) (pg_name (i := 3) sc__law_often.nd rfl (Or.inl rfl))
          (pss_one (ps_dput (hu_of hr) (pv 1) (pv 3) (pe_op op_add (pe_dget2 (hu_of hr) (pv 1) (pv 3) pe_int (by constructor <;> rfl)) pe_int) rfl)))))
      (pss_one (ps_ret (pv 1))))), ?_⟩
    walk_at "o"
    intro p hp
    refine ⟨⟨_, (same_new hp).seq hS⟩, for_l (xs := (ofN L).map V.int) (fun i σ H' => ∃ (v2 v3 : Option V) (ks : List Nat), σ = [some (.ref a), some (.ref p), v2, v3] ∧ Same H H' ∧ CD H' p (pfs (L.take i)) ks ∧ ∀ x ∈ ks, x ∈ pfs (L.take i)) ⟨_, _, [], rfl, same_new hp, ⟨upd_same, List.nodup_nil, fun x hx => (by cases hx), fun x hx => (by cases hx)⟩, fun x hx => (by cases hx)⟩ ?_ ?_ ?_⟩
    · rintro i σ H' _ ⟨_, _, _, _, s, _⟩
      exact s.seq hS
    · rintro i y σ H' hy ⟨v2, v3, ks, rfl, s1, hc, hk⟩ N hN
      obtain ⟨n, hn, rfl⟩ := ofN_at hy
      have hr := hrng n (List.mem_of_getElem? hn)
      walk_at "o"
      refine ⟨n, rfl, hr.1, hr.2, fun r H2 hr2 s2 hR => ?_⟩
      have hpr : p ≠ r := ne_of_none hc.at_ hr2
      have hrH : H r = none := s1.free hr2
      refine ⟨r, rfl, ⟨_, SqL.of hR⟩, for_l (xs := (ofN (pf n)).map V.int) (fun j σ H' => ∃ (v3 : Option V) (ks : List Nat), σ = [some (.ref a), some (.ref p), some (.int (n : Int)), v3] ∧ Same H H' ∧ H' r = some (.lst ((ofN (pf n)).map V.int)) ∧ CD H' p (pfs (L.take i) ++ (pf n).take j) ks ∧ ∀ x ∈ ks, x ∈ pfs (L.take i) ++ (pf n).take j) ⟨_, ks, rfl, s1.trans s2, hR, by rw [List.take_zero, List.append_nil]; exact hc.same s2, by rw [List.take_zero, List.append_nil]; exact hk⟩ ?_ ?_ ?_⟩
      · rintro j σ H' _ ⟨_, _, _, _, h, _⟩
        exact SqL.of h
      · rintro j y σ H3 hy2 ⟨v3, ks3, rfl, s3, hR3, hc3, hk3⟩ N2 hN2
        obtain ⟨m, hm, rfl⟩ := ofN_at hy2
        have hmr := pf_mem (List.mem_of_getElem? hm)
        obtain ⟨o, hg, ho⟩ := hc3.get (m := m)
        obtain ⟨H4, ks4, hput, hH4, hc4, hk4⟩ := hc3.put (m := m) hmr.1 (by omega)
        have e : pfs (L.take i) ++ (pf n).take j ++ [m] = pfs (L.take i) ++ (pf n).take (j + 1) := by
          rw [List.take_add_one, hm, Option.toList_some, List.append_assoc]
        rw [e] at hc4
        walk_at "o"
        refine ⟨hc3.isD, o, hg, _, ho, H4, hput, hN2 _ _ ⟨_, ks4, rfl, by rw [hH4]; exact sm_new s3 hp, ?_, hc4, fun x hx => ?_⟩⟩
        · rw [hH4, upd_ne hpr.symm]
          exact hR3
        · rw [← e, List.mem_append]
          rcases (hk4 x).mp hx with c | c
          · exact .inl (hk3 x c)
          · exact .inr (by simp [c])
      · rintro σ H3 ⟨v3, ks3, rfl, s3, hR3, hc3, hk3⟩
        rw [List.length_map, ofN_len, List.take_length, ← pfs_take hn] at hc3 hk3
        exact hN _ _ ⟨_, _, ks3, rfl, s3, hc3, hk3⟩
    · rintro σ H' ⟨v2, v3, ks, rfl, s1, hc, hk⟩
      rw [List.length_map, ofN_len, List.take_length] at hc hk
      walk_at "o"
      exact q p ks H' hp s1 hc hk
end
abbrev s__law_exponent : Stmt := top 18
theorem sc__law_exponent : FnScope ["often", "one", "many"] ["often"] (defScope s__law_exponent) := ⟨rfl, rfl, rfl, by decide +kernel, rfl, by decide +kernel, by decide +kernel⟩
def sp__law_exponent (K : PySem.W.Frag) : Sp := fun vs H Q _ => ∃ (d : Addr) (l ks : List Nat), vs = [.ref d] ∧ CD H d l ks ∧ (∀ x ∈ ks, x ∈ l) ∧ l.length ≤ 1000000 ∧ ∀ (e : Nat) (H' : Hp), Same H H' → IsExp l e → Q (.int (e : Int)) H'
theorem fm_ones (P : Nat → Prop) [DecidablePred P] : ∀ ks : List Nat, ∃ c, ks.filterMap (fun k => if P k then some (V.int 1) else none) = (List.replicate c (1 : Int)).map V.int ∧ (c = 0 ↔ ∀ k ∈ ks, ¬ P k)
  | [] => ⟨0, rfl, by simp⟩
  | k :: ks => by
    obtain ⟨c, h1, h2⟩ := fm_ones P ks
    by_cases p : P k
    · refine ⟨c + 1, ?_, by simp [p]⟩
      rw [List.filterMap_cons, if_pos p]
      simp only [h1]
      rfl
    · refine ⟨c, ?_, by simp [p, h2]⟩
      rw [List.filterMap_cons, if_neg p]
      simp only [h1]
theorem top_is {l ks : List Nat} {m e : Nat} (h0 : ∀ x ∈ ks, x ∈ l) (h0' : ∀ x ∈ l, x ∈ ks) (hm : ∃ p ∈ ks, m = l.count p) (he1 : 1 ≤ e) (hd : ∀ p ∈ ks, e ∣ l.count p) (hn : ∀ e', e < e' → e' ≤ m → ¬ ∀ p ∈ ks, e' ∣ l.count p) : IsExp l e := by
  obtain ⟨p, hp, rfl⟩ := hm
  have hpl := h0 p hp
  have hpos : 0 < l.count p := List.count_pos_iff.mpr hpl
  refine ⟨fun c => (by subst c; cases hpl), fun _ => ⟨he1, fun d => ⟨fun z q hq => Nat.dvd_trans z (hd q (h0' q hq)), fun z => ?_⟩⟩⟩
  have h2 : ∀ q ∈ ks, Nat.lcm d e ∣ l.count q := fun q hq => Nat.lcm_dvd (z q (h0 q hq)) (hd q hq)
  have h3 : Nat.lcm d e ≤ l.count p := Nat.le_of_dvd hpos (h2 p hp)
  have hdpos : 0 < d := Nat.pos_of_dvd_of_pos (z p hpl) hpos
  have h4 : 0 < Nat.lcm d e := Nat.lcm_pos hdpos (by omega)
  have h5 : e ≤ Nat.lcm d e := Nat.le_of_dvd h4 (Nat.dvd_lcm_right d e)
  rcases (by omega : e < Nat.lcm d e ∨ e = Nat.lcm d e) with c | c
  · exact absurd h2 (hn _ c h3)
  · rw [c]
    exact Nat.dvd_lcm_left d e
section
variable {P : Program} {w : World} {K : PySem.W.Frag} {mg : PySem.Str → Option Value} {base : Heap}
theorem bi__law_exponent {f : Addr} {fd : FuncData} (F : Fun K "_law_exponent" "_law_exponent" s__law_exponent f fd) : Binds K fd ["often"] [] := F.binds (ps := ["often"]) fun _ _ _ _ _ _ us hl => match us, hl with | [_], _ => rfl
set_option maxHeartbeats 4000000 in
theorem ok__law_exponent {f : Addr} {fd : FuncData} (F : Fun K "_law_exponent" "_law_exponent" s__law_exponent f fd) (B : Bt mg)   : FnOk P w K mg base CX0 1 f fd ["often"] (sp__law_exponent K) := by
  refine F.ok sc__law_exponent (fun vs H Q E h => ?_) (fun cdv A outer s H vs Q E hr h => ?_)
  · obtain ⟨d, l, ks, rfl, hc, hk, hll, q⟩ := h
    rfl
  · obtain ⟨d, l, ks, rfl, hc, hk, hll, q⟩ := h
    refine ⟨_, (pss_cons (ps_if (pt_cmpR (op_eqD0 (Nat.lt_of_le_of_lt (Nat.le_add_right _ _) hr.units)) (pv 0) pe_dnewK (nomark _))
        (pss_one (ps_ret pe_int))
        pss_nil)
      (pss_cons (ps_for PassesOwn.never rfl (pi_range3 rfl B.range (pa_cons (pe_minVals rfl (by rfl) B.min (pv 0)) (pa_cons pe_int (pa_cons (pe_un un_neg pe_int) pa_nil)))) (pg_name (i := 1) sc__law_exponent.nd rfl (Or.inr rfl))
        (pss_one (ps_if (pt_cmpR (k_eqD K rfl hr.units) (pe_lock (pe_lc (own := [("many", 2)]) (g := gName 2) rfl sc__law_exponent.nd (pi_values (pv 0)) (blkOk_by (own := [("many", 2)]) (N := ["often", "one", "many"]) (sc := defScope s__law_exponent) (by decide +kernel)) (fun _ _ _ _ _ => (pg_name (i := 2) sc__law_exponent.nd rfl (Or.inl rfl))) (fun _ _ _ _ _ => (pts_one (pt_cmpR op_gt (pe_op op_mod (pv 2) (pv 1)) pe_int (nomark _)))) (fun _ _ _ _ _ => pe_int))) (pe_lst pa_nil) (nomark _))
          (pss_one (ps_ret (pv 1)))
          pss_nil)))
      (pss_one (ps_ret pe_int)))), ?_⟩
    walk_at "o"
    intro p hp
    have s0 : Same H (upd H p (.dK [])) := same_new hp
    refine ⟨d, p, _, rfl, rfl, s0 _ _ hc.at_, upd_same, ?_⟩
    walk_at "o"
    by_cases h0 : ks = []
    · have hl : l = [] := List.eq_nil_iff_forall_not_mem.mpr fun x hx => by
        have := hc.all x hx
        rw [h0] at this
        cases this
      subst h0
      have e0 : (dN [] fun k => V.int ((l.count k : Nat) : Int)).isEmpty = true := rfl
      rw [e0, if_pos rfl]
      exact q 2 _ s0 ⟨fun _ => rfl, fun z => absurd hl z⟩
    · have e0 : (dN ks fun k => V.int ((l.count k : Nat) : Int)).isEmpty = false := by
        cases ks with
        | nil => exact absurd rfl h0
        | cons a b => rfl
      rw [e0]
      walk_at "o"
      have hD := s0 _ _ hc.at_
      generalize upd H p (.dK []) = H1 at s0 hD ⊢
      refine ⟨_, hD, ofN (ks.map fun k => l.count k), ?_, ?_, fun mi hmi hle => ?_⟩
      · simp [dN, ofN]
      · cases ks with
        | nil => exact absurd rfl h0
        | cons a b => simp [ofN]
      obtain ⟨m, rfl, hm⟩ : ∃ m : Nat, mi = (m : Int) ∧ ∃ p ∈ ks, m = l.count p := by
        unfold ofN at hmi
        obtain ⟨c, h1, h2⟩ := List.mem_map.mp hmi
        obtain ⟨x, h3, h4⟩ := List.mem_map.mp h1
        exact ⟨c, h2.symm, x, h3, h4.symm⟩
      have hm1 : m ≤ 1000000 := by
        obtain ⟨x, _, rfl⟩ := hm
        exact Nat.le_trans List.count_le_length hll
      have hmp : 1 ≤ m := by
        obtain ⟨x, h3, rfl⟩ := hm
        exact List.count_pos_iff.mpr (hk x h3)
      have hrg : RgC (m : Int) 0 (-1) m := by
        have := RgC.neg (i := (m : Int)) (j := 0) (by omega) (by omega) (by omega) (by omega)
        rwa [show ((m : Int) - 0).toNat = m by omega] at this
      have hcd := hc.nd
      refine ⟨m, hrg, for_c (fun i σ H' => Same H1 H' ∧ ∃ (v1 : Option V), σ = [some (.ref d), v1, none] ∧ ∀ e', m - i < e' → e' ≤ m → ¬ ∀ p ∈ ks, e' ∣ l.count p) ⟨Same.refl _, _, rfl, fun e' h1 h2 => by omega⟩ ?_ ?_⟩
      · rintro i σ H' hi ⟨s1, v1, rfl, hno⟩ N hN
        have e1 : (m : Int) + (i : Nat) * (-1) = ((m - i : Nat) : Int) := by omega
        have hD1 := s1 _ _ hD
        walk_at "o"
        rw [e1]
        refine ⟨d, _, hD1, trivial, fun od => ?_⟩
        walk_at "o"
        have fz : upd H' d (.frz od (.dK (dN ks fun k => .int ((l.count k : Nat) : Int)))) d = _ := upd_same
        have hpos : 0 < m - i := by omega
        obtain ⟨c, hc1, hc2⟩ := fm_ones (fun k => l.count k % (m - i) > 0) ks
        refine ⟨od, _, fz, lc_v (fun k => if l.count k % (m - i) > 0 then some (V.int 1) else none) fz (size_le hc.len) ?_ ?_⟩
        · intro j k H2 hk2 s2 N0 N1 h0 h1
          walk_at "o"
          refine ⟨by omega, ?_⟩
          by_cases cc : l.count k % (m - i) > 0
          · rw [if_pos (by omega)]
            exact h1 _ (if_pos cc) _ (Same.refl _)
          · rw [if_neg (by omega)]
            exact h0 (if_neg cc) _ (Same.refl _)
        · intro D H2 hD2 s2 hL
          rw [hc1] at hL
          have nd : D ≠ d := (ne_of_none fz hD2).symm
          refine ⟨s2 _ _ fz, by show 0 ≤ sizeLine; decide, fun p2 hp2 => ?_⟩
          have hLu : upd H2 d (.dK (dN ks fun k => .int ((l.count k : Nat) : Int))) D = some (.lst ((List.replicate c (1 : Int)).map V.int)) := (upd_ne nd).trans hL
          refine r_eqL (ns := List.replicate c 1) (ms := []) (SqL.of ((upd_ne (ne_of_none hLu hp2)).trans hLu)) (SqL.of upd_same) ?_
          have s3 : Same H' (upd H2 d (.dK (dN ks fun k => .int ((l.count k : Nat) : Int)))) := same_unlock s2 hD1
          walk_at "o"
          refine ite2 (fun hz => ?_) (fun hz => ?_)
          · have h0 : c = 0 := by simpa using hz
            have hall := hc2.mp h0
            refine q (m - i) _ (s0.trans (s1.trans (sm_new s3 (s3.free hp2)))) (top_is hk hc.all hm (by omega) (fun p hp => ?_) fun e' h1 h2 => hno e' h1 h2)
            have := hall p hp
            exact Nat.dvd_of_mod_eq_zero (by omega)
          · have h0 : c ≠ 0 := by simpa using hz
            refine hN _ _ ⟨s1.trans (sm_new s3 (s3.free hp2)), _, rfl, fun e' h1 h2 h3 => ?_⟩
            rcases (by omega : m - i < e' ∨ e' = m - i) with a | a
            · exact hno e' a h2 h3
            · subst a
              refine h0 (hc2.mpr fun k hk2 => ?_)
              have := Nat.mod_eq_zero_of_dvd (h3 k hk2)
              omega
      · rintro σ H' ⟨s1, v1, rfl, hno⟩
        exact absurd (fun p _ => Nat.one_dvd _) (hno 1 (by omega) hmp)
end
abbrev s__law_lacks : Stmt := top 19
theorem sc__law_lacks : FnScope ["often", "exponent", "found", "prime", "many", "k"] ["often", "exponent"] (defScope s__law_lacks) := ⟨rfl, rfl, rfl, by decide +kernel, rfl, by decide +kernel, by decide +kernel⟩
def sp__law_lacks (K : PySem.W.Frag) : Sp := fun vs H Q _ => ∃ (d : Addr) (L ks : List Nat) (e : Nat), vs = [.ref d, .int (e : Int)] ∧ CD H d (pfs L) ks ∧ 1 ≤ e ∧ e ≤ 200 ∧ L.length ≤ 200 ∧ (∀ x ∈ L, 1 ≤ x ∧ x ≤ 1000000) ∧ ∀ (r : Nat) (H' : Hp), Same H H' → IsLack (pfs L) e r → Q (.int (r : Int)) H'
section
variable {P : Program} {w : World} {K : PySem.W.Frag} {mg : PySem.Str → Option Value} {base : Heap}
theorem bi__law_lacks {f : Addr} {fd : FuncData} (F : Fun K "_law_lacks" "_law_lacks" s__law_lacks f fd) : Binds K fd ["often", "exponent"] [] := F.binds (ps := ["often", "exponent"]) fun _ _ _ _ _ _ us hl => match us, hl with | [_, _], _ => rfl
set_option maxHeartbeats 4000000 in
theorem ok__law_lacks {f : Addr} {fd : FuncData} (F : Fun K "_law_lacks" "_law_lacks" s__law_lacks f fd) (B : Bt mg)   : FnOk P w K mg base CX0 1 f fd ["often", "exponent"] (sp__law_lacks K) := by
  refine F.ok sc__law_lacks (fun vs H Q E h => ?_) (fun cdv A outer s H vs Q E hr h => ?_)
  · obtain ⟨d, L, ks, e, rfl, hc, he1, he, hlen, hrng, q⟩ := h
    rfl
  · obtain ⟨d, L, ks, e, rfl, hc, he1, he, hlen, hrng, q⟩ := h
    refine ⟨_, (pss_cons (ps_set (i := 2) sc__law_lacks.nd rfl (Or.inl rfl) pe_int)
      (pss_cons (ps_lock (ps_for PassesOwn.never rfl (pi_items (pv 0)) (pg_tup rfl (pgs_cons (pg_name (i := 3) sc__law_lacks.nd rfl (Or.inl rfl)) (pgs_cons (pg_name (i := 4) sc__law_lacks.nd rfl (Or.inl rfl)) pgs_nil)))
        (pss_one (ps_for PassesOwn.never rfl (pi_range1 rfl B.range (pa_cons (pe_op op_mod (pe_op op_sub (pv 1) (pe_op op_mod (pv 4) (pv 1))) (pv 1)) pa_nil)) (pg_name (i := 5) sc__law_lacks.nd rfl (Or.inl rfl))
          (pss_one (ps_set (i := 2) sc__law_lacks.nd rfl (Or.inl rfl) (pe_op op_mulW (pv 2) (pv 3))))))))
      (pss_one (ps_ret (pv 2))))), ?_⟩
    walk_at "o"
    refine ⟨d, _, hc.at_, trivial, fun od => ?_⟩
    have fz : upd H d (.frz od (.dK (dN ks fun k => .int (((pfs L).count k : Nat) : Int)))) d = _ := upd_same
    refine ⟨od, _, fz, for_i (fun i σ H' => Same (upd H d (.frz od (.dK (dN ks fun k => .int (((pfs L).count k : Nat) : Int))))) H' ∧ ∃ (v3 v4 v5 : Option V), σ = [some (.ref d), some (.int (e : Int)), some (.int ((lackK (ks.take i) (pfs L) e : Nat) : Int)), v3, v4, v5]) ⟨Same.refl _, _, _, _, rfl⟩ ?_ ?_ ?_⟩
    · rintro i σ H' _ ⟨s, _⟩
      exact s _ _ fz
    · rintro i m σ H' T hm hi ⟨s1, v3, v4, v5, rfl⟩ hT N hN
      have sT := same_new (o := .tup [V.int (m : Int), V.int (((pfs L).count m : Nat) : Int)]) hT
      have hT2 : upd H' T (.tup [V.int (m : Int), V.int (((pfs L).count m : Nat) : Int)]) T = _ := upd_same
      have s2 := s1.trans sT
      generalize upd H' T (.tup [V.int (m : Int), V.int (((pfs L).count m : Nat) : Int)]) = H3 at sT hT2 s2 ⊢
      have hr := hc.rng m (List.mem_of_getElem? hm)
      have hlt : lackE ((pfs L).count m) e < e := Nat.mod_lt _ (by omega)
      have hm20 : m ≤ 2 ^ 20 := Nat.le_trans hr.2 (by decide)
      have hX : lackK (ks.take i) (pfs L) e ≤ 2 ^ (20 * L.length * e) := lack_log he1 (hc.nd.sublist (List.take_sublist i ks)) hrng fun x hx => by
        have := hc.rng x (List.mem_of_mem_take hx)
        omega
      have hB : 20 * L.length * e ≤ 20 * 200 * 200 := Nat.mul_le_mul (by omega) he
      have em : ((e : Int) - ((((pfs L).count m : Nat) : Int)) % (e : Int)) % (e : Int) = ((lackE ((pfs L).count m) e : Nat) : Int) := by
        unfold lackE
        have h1 : (pfs L).count m % e < e := Nat.mod_lt _ (by omega)
        have h2 : (e : Int) - ((((pfs L).count m : Nat) : Int)) % (e : Int) = ((e - (pfs L).count m % e : Nat) : Int) := by
          have h3 : ((((pfs L).count m : Nat) : Int)) % (e : Int) = (((pfs L).count m % e : Nat) : Int) := by push_cast; rfl
          rw [h3]
          omega
        rw [h2]
        push_cast
        rfl
      refine ⟨T, _, rfl, SqT.of hT2, rfl, ?_⟩
      walk_at "o"
      rw [em]
      have ek : ((lackE ((pfs L).count m) e : Nat) : Int).toNat = lackE ((pfs L).count m) e := by omega
      rw [ek]
      refine ⟨by omega, by omega, by omega, by omega, for_r (fun j σ H' => H' = H3 ∧ ∃ v5 : Option V, σ = [some (.ref d), some (.int (e : Int)), some (.int ((lackK (ks.take i) (pfs L) e * m ^ j : Nat) : Int)), some (.int (m : Int)), some (.int (((pfs L).count m : Nat) : Int)), v5]) ⟨rfl, _, by rw [Nat.pow_zero, Nat.mul_one]⟩ ?_ ?_⟩
      · rintro j σ H4 hj ⟨rfl, v5, rfl⟩ N2 hN2
        have l1 : lackK (ks.take i) (pfs L) e * m ^ j ≤ 2 ^ (20 * L.length * e + 20 * j) := by
          rw [Nat.pow_add, Nat.pow_mul 2 20 j]
          exact Nat.mul_le_mul hX (Nat.pow_le_pow_left hm20 j)
        have l2 := log2_le_of_le l1
        have l3 := log2_le_of_le hm20
        have e5 : ((lackK (ks.take i) (pfs L) e * m ^ j : Nat) : Int) * (m : Int) = ((lackK (ks.take i) (pfs L) e * m ^ (j + 1) : Nat) : Int) := by
          rw [Nat.pow_succ, ← Nat.mul_assoc]
          push_cast
          rfl
        walk_at "o"
        rw [e5]
        refine ⟨cmulN (by omega), hN2 _ _ ⟨rfl, _, rfl⟩⟩
      · rintro σ H4 ⟨rfl, v5, rfl⟩
        have e6 : lackK (ks.take i) (pfs L) e * m ^ lackE ((pfs L).count m) e = lackK (ks.take (i + 1)) (pfs L) e := by
          rw [List.take_add_one, hm, Option.toList_some, lackK_snoc]
        rw [e6]
        exact hN _ _ ⟨s2, _, _, _, rfl⟩
    · rintro σ H' ⟨s1, v3, v4, v5, rfl⟩
      rw [List.take_length]
      refine ⟨s1 _ _ fz, ?_⟩
      walk_at "o"
      exact q _ _ (same_unlock s1 hc.at_) (lack_keys hc.nd hc.all)
end
abbrev s__law_kind : Stmt := top 20
theorem sc__law_kind : FnScope ["caught", "kinds"] ["caught"] (defScope s__law_kind) := ⟨rfl, rfl, rfl, by decide +kernel, rfl, by decide +kernel, by decide +kernel⟩
def sp__law_kind (K : PySem.W.Frag) : Sp := fun vs H Q _ => ∃ (a : Addr) (i : Int), vs = [.ref a] ∧ XO K H a "NoFactor" "number" (.int i) ∧ ∀ (t : Addr) (H' : Hp), Same H H' → H' t = some (.tup [.str "factor", .int i]) → Q (.ref t) H'
section
variable {P : Program} {w : World} {K : PySem.W.Frag} {mg : PySem.Str → Option Value} {base : Heap}
theorem bi__law_kind {f : Addr} {fd : FuncData} (F : Fun K "_law_kind" "_law_kind" s__law_kind f fd) : Binds K fd ["caught"] [] := F.binds (ps := ["caught"]) fun _ _ _ _ _ _ us hl => match us, hl with | [_], _ => rfl
set_option maxHeartbeats 4000000 in
theorem ok__law_kind {f : Addr} {fd : FuncData} (F : Fun K "_law_kind" "_law_kind" s__law_kind f fd) (B : Bt mg) (g_EC_NoAsk : EC K mg "NoAsk") (g_EC_NoFactor : EC K mg "NoFactor") (g_EC_NoNumber : EC K mg "NoNumber") (g_EC_PowerError : EC K mg "PowerError") (g_ET_NoFactor : ET K "NoFactor" "number" [("NoAsk", false), ("NoFactor", true), ("NoNumber", false), ("PowerError", true)])  : FnOk P w K mg base CX0 1 f fd ["caught"] (sp__law_kind K) := by
  refine F.ok sc__law_kind (fun vs H Q E h => ?_) (fun cdv A outer s H vs Q E hr h => ?_)
  · obtain ⟨a, i, rfl, hX, q⟩ := h
    rfl
  · obtain ⟨a, i, rfl, hX, q⟩ := h
    refine ⟨_, (pss_cons (ps_set (i := 1) sc__law_kind.nd rfl (Or.inl rfl) (pe_lst (pa_cons (pe_callB (k_isX K) (by rfl) B.isinstance (by decide +kernel) (pa_cons (pv 0) (pa_cons (pe_glob (v := .ref (clA K "NoAsk")) (by rfl) g_EC_NoAsk.at_ rfl) pa_nil))) (pa_cons (pe_callB (k_isX K) (by rfl) B.isinstance (by decide +kernel) (pa_cons (pv 0) (pa_cons (pe_glob (v := .ref (clA K "NoFactor")) (by rfl) g_EC_NoFactor.at_ rfl) pa_nil))) (pa_cons (pe_callB (k_isX K) (by rfl) B.isinstance (by decide +kernel) (pa_cons (pv 0) (pa_cons (pe_glob (v := .ref (clA K "NoNumber")) (by rfl) g_EC_NoNumber.at_ rfl) pa_nil))) pa_nil)))))
      (pss_cons (ps_if (PW.pt (pw_or (pt_not (pt_val (pe_callB (k_isX K) (by rfl) B.isinstance (by decide +kernel) (pa_cons (pv 0) (pa_cons (pe_glob (v := .ref (clA K "PowerError")) (by rfl) g_EC_PowerError.at_ rfl) pa_nil))))) (pw_or (pt_not (pt_val (pe_callB (k_isX K) (by rfl) B.isinstance (by decide +kernel) (pa_cons (pv 0) (pa_cons (pe_bltn (v := .ty "ValueError") (u := .type "ValueError") (by rfl) B.ValueError (by decide +kernel) rfl) pa_nil))))) (pw_or1 (pt_cmpR op_ne (k_bm (K := K) (pe_bm PySem.F.plainAttrs_list PySem.F.slot_list_count PySem.F.type_list_count (k_countF K) (pv 1) (pa_cons pe_bl pa_nil))) pe_int (nomark _))))))
        (pss_one (ps_ret (pe_tup (pa_cons pe_str pa_nil))))
        pss_nil)
      (pss_cons (ps_if (pt_val (pe_ix (k_ixL K) (pv 1) pe_int (fun _ _ => rfl)))
        (pss_one (ps_ret (pe_tup (pa_cons pe_str pa_nil))))
        pss_nil)
      (pss_cons (ps_if (pt_val (pe_ix (k_ixL K) (pv 1) pe_int (fun _ _ => rfl)))
        (pss_one (ps_ret (pe_ix (k_ixL K) (pe_lst (pa_cons (pe_tup (pa_cons pe_str (pa_cons (k_xf K (pv 0)) pa_nil))) (pa_cons (pe_tup (pa_cons pe_str pa_nil)) pa_nil))) (pe_callTy call_int1 (by rfl) B.int (by decide +kernel) (pa_cons (pe_callB (k_isi K) (by rfl) B.isinstance (by decide +kernel) (pa_cons (k_xf K (pv 0)) (pa_cons (pe_bltn (v := .ty "bool") (u := .type "bool") (by rfl) B.bool (by decide +kernel) rfl) pa_nil))) pa_nil)) (fun _ _ => rfl))))
        pss_nil)
      (pss_one (ps_ret (pe_ix (k_ixL K) (pe_lst (pa_cons (pe_tup (pa_cons pe_str (pa_cons (k_xf K (pv 0)) pa_nil))) (pa_cons (pe_tup (pa_cons pe_str pa_nil)) pa_nil))) (pe_callTy call_int1 (by rfl) B.int (by decide +kernel) (pa_cons (pe_callB (k_isi K) (by rfl) B.isinstance (by decide +kernel) (pa_cons (k_xf K (pv 0)) (pa_cons (pe_bltn (v := .ty "bool") (u := .type "bool") (by rfl) B.bool (by decide +kernel) rfl) pa_nil))) pa_nil)) (fun _ _ => rfl)))))))), ?_⟩
    walk_at "x"
    have is_ : ∀ (H1 : Hp) (x : PySem.Str) (b : Bool) (Q1 : VK), Same H H1 → (x, b) ∈ [(("NoAsk" : PySem.Str), false), ("NoFactor", true), ("NoNumber", false), ("PowerError", true)] → Q1 (.bl b) H1 → rIsX K [.ref a, .ref (clA K x)] H1 Q1 := fun H1 x b Q1 s hm q => ⟨_, _, .ref (clA K x), a, "NoFactor", "number", b, rfl, hX.same s, g_EC_NoFactor.is, fun u r => r, g_ET_NoFactor.kit _ hm, q⟩
    refine is_ _ "NoAsk" false _ (Same.refl H) (by simp) ?_
    refine is_ _ "NoFactor" true _ (Same.refl H) (by simp) ?_
    refine is_ _ "NoNumber" false _ (Same.refl H) (by simp) ?_
    walk_at "x"
    refine ⟨by show 3 ≤ sizeLine; decide, fun p hp => ?_⟩
    have s1 := same_new (o := .lst [V.bl false, V.bl true, V.bl false]) hp
    have hP : upd H p (.lst [V.bl false, V.bl true, V.bl false]) p = some (.lst [V.bl false, V.bl true, V.bl false]) := upd_same
    generalize upd H p (.lst [V.bl false, V.bl true, V.bl false]) = H1 at s1 hP ⊢
    refine is_ _ "PowerError" true _ s1 (by simp) ?_
    walk_at "x"
    refine ⟨.ty "ValueError", _, .type "ValueError", a, "NoFactor", "number", true, rfl, hX.same s1, g_EC_NoFactor.is, fun u r => r, g_ET_NoFactor.ve, ?_⟩
    walk_at "x"
    refine ⟨.inl ⟨rfl, _, SqL.of hP⟩, p, _, .bl true, rfl, rfl, SqL.of hP, rfl, rfl, ?_⟩
    rw [show (([V.bl false, V.bl true, V.bl false].countP fun z => eqV z (V.bl true)) : Nat) = 1 from rfl]
    walk_at "x"
    rw [if_neg (fun z => z rfl)]
    refine r_ixL (SqL.of hP) (by rfl) ?_
    walk_at "x"
    refine r_ixL (SqL.of hP) (by rfl) ?_
    walk_at "x"
    refine ⟨a, "NoFactor", .int i, rfl, hX.same s1, g_EC_NoFactor.is, g_ET_NoFactor.no, ?_⟩
    walk_at "x"
    refine ⟨by show 2 ≤ sizeLine; decide, fun t ht => ⟨by show 1 ≤ sizeLine; decide, fun t2 ht2 => ⟨by show 2 ≤ sizeLine; decide, fun p3 hp3 => ?_⟩⟩⟩
    have s2 := ((s1.trans (same_new ht)).trans (same_new ht2)).trans (same_new (o := .lst [.ref t, .ref t2]) hp3)
    refine ⟨a, "NoFactor", .int i, rfl, hX.same s2, g_EC_NoFactor.is, g_ET_NoFactor.no, r_isi (ty_int i) (c := false) (by decide +kernel) ?_⟩
    refine .inr ⟨_, rfl, ?_⟩
    refine r_ixL (SqL.of upd_same) (by rfl) ?_
    refine q t _ s2 ?_
    rw [upd_ne (ne_of_none ((upd_ne (ne_of_none upd_same ht2)).trans upd_same) hp3), upd_ne (ne_of_none upd_same ht2), upd_same]
end
abbrev s__law_told : Stmt := top 21
theorem sc__law_told : FnScope ["way", "kept", "number", "told", "caught", "e"] ["way", "kept", "number"] (defScope s__law_told) := ⟨rfl, rfl, rfl, by decide +kernel, rfl, by decide +kernel, by decide +kernel⟩
def sp__law_told (K : PySem.W.Frag) : Sp := fun vs H Q _ => ∃ (p ln lo : Addr) (w i : Int) (L : List Nat), vs = [.int w, .ref p, .int i] ∧ KP K H p ln lo L ∧ L.length ≤ 10000 ∧
  (((w = 0 ∧ i < 1 ∨ w = 1 ∧ i ∉ ofN L) ∧ ∀ (t : Addr) (H' : Hp), Same H H' → H' t = some (.tup [.str "factor", .int i]) → Q (.ref t) H') ∨
   (∃ n : Nat, w = 0 ∧ i = (n : Int) ∧ 1 ≤ n ∧ n ≤ 1000000 ∧ ∀ (t : Addr) (H' : Hp), K2 ln lo H H' → KP K H' p ln lo (L ++ [n]) → H' t = some (.lst [.non]) → Q (.ref t) H') ∨
   (∃ n : Nat, w = 1 ∧ i = (n : Int) ∧ n ∈ L ∧ ∀ (t : Addr) (H' : Hp) (L' : List Nat), K2 ln lo H H' → L.Perm (n :: L') → KP K H' p ln lo L' → H' t = some (.lst [.non]) → Q (.ref t) H'))
section
variable {P : Program} {w : World} {K : PySem.W.Frag} {mg : PySem.Str → Option Value} {base : Heap}
theorem bi__law_told {f : Addr} {fd : FuncData} (F : Fun K "_law_told" "_law_told" s__law_told f fd) : Binds K fd ["way", "kept", "number"] [] := F.binds (ps := ["way", "kept", "number"]) fun _ _ _ _ _ _ us hl => match us, hl with | [_, _, _], _ => rfl
set_option maxHeartbeats 4000000 in
theorem ok__law_told {f : Addr} {fd : FuncData} (F : Fun K "_law_told" "_law_told" s__law_told f fd) (B : Bt mg) (g_EC_PowerError : EC K mg "PowerError") (g_ET_NoFactor : ET K "NoFactor" "number" [("NoAsk", false), ("NoFactor", true), ("NoNumber", false), ("PowerError", true)]) (h__law_kind : Fn P w K mg base CX0 1 "_law_kind" ["caught"] (sp__law_kind K)) (h_KeptProduct_come : FnM P w K mg base (L2.CX P w) 3 "KeptProduct" ["numbers", "often"] "come" ["self", "number"] (sp_KeptProduct_come K)) (h_KeptProduct_go : FnM P w K mg base (L2.CX P w) 3 "KeptProduct" ["numbers", "often"] "go" ["self", "number"] (sp_KeptProduct_go K)) : FnOk P w K mg base CX0 4 f fd ["way", "kept", "number"] (sp__law_told K) := by
  refine F.ok sc__law_told (fun vs H Q E h => ?_) (fun cdv A outer s H vs Q E hr h => ?_)
  · obtain ⟨p, ln, lo, w0, i, L, rfl, hK, hlen, q⟩ := h
    rfl
  · obtain ⟨p, ln, lo, w0, i, L, rfl, hK, hlen, q⟩ := h
    refine ⟨_, (pss_cons (ps_set (i := 3) sc__law_told.nd rfl (Or.inl rfl) pe_non)
      (pss_cons (ps_set (i := 4) sc__law_told.nd rfl (Or.inl rfl) pe_non)
      (pss_cons (ps_try_keep (i := 5) rfl rfl rfl sc__law_told.nd rfl rfl ⟨rfl, by decide, .inl g_EC_PowerError.at_⟩ (fun W pn xe tk hp => (pss_one (ps_if (pt_cmpR op_eq (pv 0) pe_int (nomark _))
          (pss_one (ps_set (i := 3) sc__law_told.nd rfl (Or.inl rfl) (k_mtX (K := K) tk h_KeptProduct_come (hr.mono (by decide)) (pv 1) (pa_cons (pv 2) pa_nil))))
          (pss_one (ps_set (i := 3) sc__law_told.nd rfl (Or.inl rfl) (k_mtX (K := K) tk h_KeptProduct_go (hr.mono (by decide)) (pv 1) (pa_cons (pv 2) pa_nil)))))))
        (fun a oe cls d pn hz hf => (pss_one (ps_set (i := 4) sc__law_told.nd rfl (Or.inl rfl) (pv 5)))))
      (pss_cons (ps_if (pt_cmpR op_notN (pv 4) pe_non (nomark _))
        (pss_one (ps_ret (pe_fn h__law_kind (hr.mono (by decide)) (by rfl) (pa_cons (pv 4) pa_nil))))
        pss_nil)
      (pss_one (ps_ret (pe_lst (pa_cons (pv 3) pa_nil)))))))), ?_⟩
    walk_at "x"
    have no : (∀ (t : Addr) (H' : Hp), Same H H' → H' t = some (.tup [.str "factor", .int i]) → Q (.ref t) H') → ∀ d : Addr, H d = none → PySem.W.exmOne K (.ref (clA K "NoFactor")) (.ref (clA K "PowerError")) = some true ∧
        ∀ (a : Addr), upd H d (.xd [("number", .int i)]) a = none → upd H d (.xd [("number", .int i)]) a = none → sp__law_kind K [.ref a] (upd (upd H d (.xd [("number", .int i)])) a (xob a (.ref (clA K "NoFactor")) (some d))) Q E0 := fun q d hd =>
      ⟨g_ET_NoFactor.ex, fun a ha _ => ⟨a, i, rfl, ⟨d, upd_same, (upd_ne (ne_of_none upd_same ha)).trans upd_same⟩, fun t H' s ht => q t H' (((same_new hd).trans (same_new ha)).trans s) ht⟩⟩
    have o1 := hK.ob.isO (m := "come") (by decide +kernel) (by decide +kernel)
    have o2 := hK.ob.isO (m := "go") (by decide +kernel) (by decide +kernel)
    obtain ⟨n1, n2, n3⟩ := hK.ne
    have out : ∀ (H1 : Hp) (t : Addr) (L1 : List Nat), H1 t = none → KP K H1 p ln lo L1 → KP K (upd H1 t (.lst [.non])) p ln lo L1 ∧ Same H1 (upd H1 t (.lst [.non])) := fun H1 t L1 ht h => ⟨h.same (same_new ht), same_new ht⟩
    rcases q with ⟨h1, q⟩ | ⟨n, rfl, rfl, hn1, hn, q⟩ | ⟨n, rfl, rfl, hmem, q⟩
    · rcases h1 with ⟨rfl, hi⟩ | ⟨rfl, hi⟩
      · rw [if_pos rfl]
        exact ⟨o1, p, ln, lo, i, L, rfl, hK, hlen, .inl ⟨hi, no q⟩⟩
      · rw [if_neg (by decide)]
        exact ⟨o2, p, ln, lo, i, L, rfl, hK, .inl ⟨hi, no q⟩⟩
    · rw [if_pos rfl]
      exact ⟨o1, p, ln, lo, n, L, rfl, hK, hlen, .inr ⟨n, rfl, hn1, hn, fun H1 k1 h1 => ⟨by show 1 ≤ sizeLine; decide, fun t ht => q t _ (k1.trans (K2.of (same_new ht))) (out H1 t _ ht h1).1 upd_same⟩⟩⟩
    · rw [if_neg (by decide)]
      exact ⟨o2, p, ln, lo, n, L, rfl, hK, .inr ⟨n, rfl, hmem, fun H1 L' k1 hp h1 => ⟨by show 1 ≤ sizeLine; decide, fun t ht => q t _ L' (k1.trans (K2.of (same_new ht))) hp (out H1 t _ ht h1).1 upd_same⟩⟩⟩
end
abbrev s__law_state : Stmt := top 22
theorem sc__law_state : FnScope ["kept"] ["kept"] (defScope s__law_state) := ⟨rfl, rfl, rfl, by decide +kernel, rfl, by decide +kernel, by decide +kernel⟩
/-- a told state: the numbers rising, the exponent, what lacks by 2 and by 3 -/
structure Tl (L : List Nat) (ys : List Int) (e r2 r3 : Nat) : Prop where
  pm : ys.Perm (ofN L)
  up : ys.Pairwise (· ≤ ·)
  ex : IsExp (pfs L) e
  l2 : IsLack (pfs L) 2 r2
  l3 : IsLack (pfs L) 3 r3
def S4 (K : PySem.W.Frag) (H : Hp) (t : Addr) (ys : List Int) (e r2 r3 : Nat) : Prop := ∃ u, H t = some (.lst [.ref u, .int (e : Int), .int (r2 : Int), .int (r3 : Int)]) ∧ SqT K H u (ys.map V.int)
def sp__law_state (K : PySem.W.Frag) : Sp := fun vs H Q _ => ∃ (p ln lo : Addr) (L : List Nat), vs = [.ref p] ∧ KP K H p ln lo L ∧ L.length ≤ 200 ∧ ∀ (t : Addr) (ys : List Int) (e r2 r3 : Nat) (H' : Hp), Same H H' → S4 K H' t ys e r2 r3 → Tl L ys e r2 r3 → Q (.ref t) H'
section
variable {P : Program} {w : World} {K : PySem.W.Frag} {mg : PySem.Str → Option Value} {base : Heap}
theorem bi__law_state {f : Addr} {fd : FuncData} (F : Fun K "_law_state" "_law_state" s__law_state f fd) : Binds K fd ["kept"] [] := F.binds (ps := ["kept"]) fun _ _ _ _ _ _ us hl => match us, hl with | [_], _ => rfl
set_option maxHeartbeats 4000000 in
theorem ok__law_state {f : Addr} {fd : FuncData} (F : Fun K "_law_state" "_law_state" s__law_state f fd) (B : Bt mg)  (h_KeptProduct_numbers_now : FnM P w K mg base CX0 1 "KeptProduct" ["numbers", "often"] "numbers_now" ["self"] (sp_KeptProduct_numbers_now K)) (h_KeptProduct_exponent_now : FnM P w K mg base CX0 2 "KeptProduct" ["numbers", "often"] "exponent_now" ["self"] (sp_KeptProduct_exponent_now K)) (h_KeptProduct_lacks_now : FnM P w K mg base CX0 2 "KeptProduct" ["numbers", "often"] "lacks_now" ["self", "exponent"] (sp_KeptProduct_lacks_now K)) : FnOk P w K mg base CX0 3 f fd ["kept"] (sp__law_state K) := by
  refine F.ok sc__law_state (fun vs H Q E h => ?_) (fun cdv A outer s H vs Q E hr h => ?_)
  · obtain ⟨p, ln, lo, L, rfl, hK, hlen, q⟩ := h
    rfl
  · obtain ⟨p, ln, lo, L, rfl, hK, hlen, q⟩ := h
    refine ⟨_, (pss_one (ps_ret (pe_lst (pa_cons (pe_mt0 (K := K) h_KeptProduct_numbers_now (hr.mono (by decide)) (pv 0)) (pa_cons (pe_mt0 (K := K) h_KeptProduct_exponent_now (hr.mono (by decide)) (pv 0)) (pa_cons (pe_mt (K := K) h_KeptProduct_lacks_now (hr.mono (by decide)) (pv 0) (pa_cons pe_int pa_nil)) (pa_cons (pe_mt (K := K) h_KeptProduct_lacks_now (hr.mono (by decide)) (pv 0) (pa_cons pe_int pa_nil)) pa_nil))))))), ?_⟩
    walk_at "o"
    refine ⟨hK.ob.isO (by decide +kernel) (by decide +kernel), p, ln, lo, L, rfl, hK, fun u ob ys H1 hu s1 hy1 hy2 hU c1 c2 => ?_⟩
    have hK1 := hK.same s1
    refine ⟨hK1.ob.isO (by decide +kernel) (by decide +kernel), p, ln, lo, L, rfl, hK1, fun E H2 s2 hE => ?_⟩
    have hK2 := hK1.same s2
    refine ⟨hK2.ob.isO (by decide +kernel) (by decide +kernel), p, ln, lo, L, 2, rfl, hK2, by omega, by omega, hlen, fun R2 H3 s3 hR2 => ?_⟩
    have hK3 := hK2.same s3
    refine ⟨hK3.ob.isO (by decide +kernel) (by decide +kernel), p, ln, lo, L, 3, rfl, hK3, by omega, by omega, hlen, fun R3 H4 s4 hR3 => ⟨by show 4 ≤ sizeLine; decide, fun t ht => ?_⟩⟩
    have st := same_new (o := .lst [.ref u, .int (E : Int), .int (R2 : Int), .int (R3 : Int)]) ht
    exact q t ys E R2 R3 _ (s1.trans (s2.trans (s3.trans (s4.trans st)))) ⟨u, upd_same, .inl (.inr ⟨ob, st _ _ (s4 _ _ (s3 _ _ (s2 _ _ hU)))⟩)⟩ ⟨hy1, hy2, hE, hR2, hR3⟩
end
abbrev s__law_bad_right : Stmt := top 23
theorem sc__law_bad_right : FnScope ["deck", "kept", "numbers", "far", "bad", "number", "some", "often", "due", "way"] ["deck", "kept", "numbers"] (defScope s__law_bad_right) := ⟨rfl, rfl, rfl, by decide +kernel, rfl, by decide +kernel, by decide +kernel⟩
/-- a deck, a product and the law's own list of its numbers -/
structure One (K : PySem.W.Frag) (H : Hp) (d l nn p ln lo : Addr) (n : Nat) (L L2 : List Nat) : Prop where
  dk : Dk H d l n
  hn : H nn = some (.lst ((ofN L2).map V.int))
  kp : KP K H p ln lo L
  pm : L2.Perm L
  nd : nn ≠ d ∧ p ≠ d ∧ ln ≠ d ∧ lo ≠ d ∧ nn ≠ l ∧ ln ≠ l ∧ lo ≠ l ∧ nn ≠ ln ∧ nn ≠ lo ∧ nn ≠ p
theorem One.kpd {K : PySem.W.Frag} {H H' : Hp} {d l nn p ln lo : Addr} {n m : Nat} {L L2 : List Nat} (h : One K H d l nn p ln lo n L L2) (k : Kp d H H') (hd : Dk H' d l m) : One K H' d l nn p ln lo m L L2 :=
  ⟨hd, k _ _ h.nd.1 h.hn, h.kp.kp k h.nd.2.1 h.nd.2.2.1 h.nd.2.2.2.1, h.pm, h.nd⟩
theorem One.same {K : PySem.W.Frag} {H H' : Hp} {d l nn p ln lo : Addr} {n : Nat} {L L2 : List Nat} (h : One K H d l nn p ln lo n L L2) (s : Same H H') : One K H' d l nn p ln lo n L L2 := h.kpd (sm_kp s) (h.dk.same s)
theorem One.mono {K : PySem.W.Frag} {H : Hp} {d l nn p ln lo : Addr} {n m : Nat} {L L2 : List Nat} (h : One K H d l nn p ln lo n L L2) (le : n ≤ m) : One K H d l nn p ln lo m L L2 := ⟨h.dk.mono le, h.hn, h.kp, h.pm, h.nd⟩
theorem One.rng {K : PySem.W.Frag} {H : Hp} {d l nn p ln lo : Addr} {n : Nat} {L L2 : List Nat} (h : One K H d l nn p ln lo n L L2) : ∀ x ∈ L2, 1 ≤ x ∧ x ≤ 1000000 := fun x hx => h.kp.rng x (h.pm.mem_iff.mp hx)
theorem Dk.k2b {H H' : Hp} {a l b c : Addr} {n : Nat} (h : Dk H a l n) (k : K2 b c H H') (h1 : a ≠ b) (h2 : a ≠ c) (h3 : l ≠ b) (h4 : l ≠ c) : Dk H' a l n := by
  obtain ⟨ns, i, x, c, s, g1, g2, g3, g⟩ := h
  exact ⟨ns, i, x, c, s, k _ _ h1 h2 g1, g2, k _ _ h3 h4 g3, g⟩
/-- the product changes alone -/
theorem One.k2 {K : PySem.W.Frag} {H H' : Hp} {d l nn p ln lo : Addr} {n : Nat} {L L' L2 : List Nat} (h : One K H d l nn p ln lo n L L2) (k : K2 ln lo H H') (hk : KP K H' p ln lo L') : Dk H' d l n ∧ H' nn = some (.lst ((ofN L2).map V.int)) := by
  obtain ⟨n1, n2, n3, n4, n5, n6, n7, n8, n9, n10⟩ := h.nd
  exact ⟨h.dk.k2b k n3.symm n4.symm n6.symm n7.symm, k _ _ n8 n9 h.hn⟩
/-- a bad way and number, as a tuple -/
def Gd (H : Hp) (L : List Nat) (x : V) : Prop := ∃ (t : Addr) (w i : Int), x = .ref t ∧ H t = some (.tup [.int w, .int i]) ∧ (w = 0 ∧ i < 1 ∨ w = 1 ∧ i ∉ ofN L)
theorem Gd.same {H H' : Hp} {L : List Nat} {x : V} (h : Gd H L x) (s : Same H H') : Gd H' L x := let ⟨t, w, i, e, h1, h2⟩ := h; ⟨t, w, i, e, s _ _ h1, h2⟩
theorem Gd.new {H : Hp} {L : List Nat} {t : Addr} {w i : Int} (h : w = 0 ∧ i < 1 ∨ w = 1 ∧ i ∉ ofN L) : Gd (upd H t (.tup [.int w, .int i])) L (.ref t) := ⟨t, w, i, rfl, upd_same, h⟩
theorem low_not {L : List Nat} (hr : ∀ x ∈ L, 1 ≤ x ∧ x ≤ 1000000) {i : Int} (h : i < 1) : i ∉ ofN L := fun hm => by
  obtain ⟨x, hx, e⟩ := List.mem_map.mp hm
  have := hr x hx
  subst e
  omega
theorem r_neOne {K : PySem.W.Frag} {H : Hp} {Q : VK} {x y : V} {d : PyData} (h1 : Dp K H x d) (h2 : Dp K H y d) (sh : SeqAt.shaped d = true) (e : PyData.eqv d d = true) (q : Q (.bl false) H) : rNeD K x y H Q := ⟨d, d, h1, h2, sh, sh, by rw [e]; exact q⟩
def dF (i : Int) : PyData := .tuple [.str "factor", .int i]
theorem sh_F (i : Int) : SeqAt.shaped (dF i) = true := by
  unfold SeqAt.shaped dF
  simp [PyData.canLay0, PyData.canLayAll0, PyData.depth, PyData.depthAll]
  decide +kernel
theorem eqv_F (i : Int) : PyData.eqv (dF i) (dF i) = true := by
  unfold dF
  simp [PyData.eqv, PyData.eqvAll]
theorem dp_F {K : PySem.W.Frag} {H : Hp} {t : Addr} {i : Int} (h : H t = some (.tup [.str "factor", .int i])) : Dp K H (.ref t) (dF i) := .tup (SqT.of h) (.cons (.str _) (.cons (.int _) .nil))
def d4 (ys : List Int) (e r2 r3 : Nat) : PyData := .list [.tuple (dI ys), .int (e : Int), .int (r2 : Int), .int (r3 : Int)]
theorem dp_4 {K : PySem.W.Frag} {H : Hp} {t : Addr} {ys : List Int} {e r2 r3 : Nat} (h : S4 K H t ys e r2 r3) : Dp K H (.ref t) (d4 ys e r2 r3) := by
  obtain ⟨u, h1, h2⟩ := h
  exact .lst (SqL.of h1) (.cons (.tup h2 (dpAll_ints ys)) (.cons (.int _) (.cons (.int _) (.cons (.int _) .nil))))
theorem sh_4 (ys : List Int) (e r2 r3 : Nat) : SeqAt.shaped (d4 ys e r2 r3) = true := by
  unfold SeqAt.shaped d4
  simp [PyData.canLay0, PyData.canLayAll0, PyData.depth, PyData.depthAll, canLay_ints, depth_ints]
theorem eqv_4 (ys : List Int) (e r2 r3 : Nat) : PyData.eqv (d4 ys e r2 r3) (d4 ys e r2 r3) = true := by
  unfold d4
  simp [PyData.eqv, PyData.eqvAll, eqv_ints]
theorem Tl.one {L L' : List Nat} {ys ys' : List Int} {e r2 r3 e' r2' r3' : Nat} (h : Tl L ys e r2 r3) (h' : Tl L' ys' e' r2' r3') (p : L.Perm L') : ys = ys' ∧ e = e' ∧ r2 = r2' ∧ r3 = r3' :=
  ⟨sorted_one h.up h'.up (h.pm.trans ((p.map _).trans h'.pm.symm)), isExp_unique (isExp_perm (pfs_perm p) h.ex) h'.ex, isLack_unique (isLack_perm (pfs_perm p) h.l2) h'.l2, isLack_unique (isLack_perm (pfs_perm p) h.l3) h'.l3⟩
theorem cut_ints (ns : List Int) (lo hi : Option Int) : ∃ ms : List Int, cutV (ns.map V.int) lo hi = ms.map V.int ∧ ms.length ≤ ns.length ∧ ∀ x ∈ ms, x ∈ ns := by
  refine ⟨(ns.drop (HT.sIx ns.length 0 lo)).take (HT.sIx ns.length ns.length hi - HT.sIx ns.length 0 lo), ?_, ?_, fun x hx => List.mem_of_mem_drop (List.mem_of_mem_take hx)⟩
  · unfold cutV
    rw [List.length_map, List.map_take, List.map_drop]
  · rw [List.length_take, List.length_drop]
    omega
theorem pfs_len : ∀ {L : List Nat}, (∀ x ∈ L, 1 ≤ x ∧ x ≤ 1000000) → (pfs L).length ≤ 20 * L.length
  | [], _ => Nat.le_refl _
  | a :: L, h => by
    have h1 := pf_len (h a List.mem_cons_self).1 (h a List.mem_cons_self).2
    have h2 := pfs_len (L := L) fun x hx => h x (List.mem_cons_of_mem _ hx)
    show (pf a ++ pfs L).length ≤ _
    rw [List.length_append, List.length_cons]
    omega
theorem fm_plus (ms : List Int) : (ms.map V.int).filterMap (fun v => match v with | .int i => some (V.int (i + 1)) | _ => none) = (ms.map (· + 1)).map V.int := by
  induction ms with
  | nil => rfl
  | cons a ms ih => simp only [List.map_cons, List.filterMap_cons, ih]
def sp__law_bad_right (K : PySem.W.Frag) : Sp := fun vs H Q _ => ∃ (d l nn p ln lo : Addr) (n : Nat) (L L2 : List Nat), vs = [.ref d, .ref p, .ref nn] ∧ One K H d l nn p ln lo n L L2 ∧ L2.length ≤ 60 ∧ n ≤ 2 ^ 38 ∧ ∀ H', One K H' d l nn p ln lo (n + 1) L L2 → Q (.bl true) H'
section
variable {P : Program} {w : World} {K : PySem.W.Frag} {mg : PySem.Str → Option Value} {base : Heap}
theorem bi__law_bad_right {f : Addr} {fd : FuncData} (F : Fun K "_law_bad_right" "_law_bad_right" s__law_bad_right f fd) : Binds K fd ["deck", "kept", "numbers"] [] := F.binds (ps := ["deck", "kept", "numbers"]) fun _ _ _ _ _ _ us hl => match us, hl with | [_, _, _], _ => rfl
set_option maxHeartbeats 4000000 in
theorem ok__law_bad_right {f : Addr} {fd : FuncData} (F : Fun K "_law_bad_right" "_law_bad_right" s__law_bad_right f fd) (B : Bt mg)  (h__law_next : Fn P w K mg base CX0 2 "_law_next" ["deck", "many"] (sp__law_next K)) (h__law_often : Fn P w K mg base CX0 2 "_law_often" ["numbers"] (sp__law_often K)) (h__law_exponent : Fn P w K mg base CX0 1 "_law_exponent" ["often"] (sp__law_exponent K)) (h__law_lacks : Fn P w K mg base CX0 1 "_law_lacks" ["often", "exponent"] (sp__law_lacks K)) (h__law_told : Fn P w K mg base CX0 4 "_law_told" ["way", "kept", "number"] (sp__law_told K)) (h__law_state : Fn P w K mg base CX0 3 "_law_state" ["kept"] (sp__law_state K)) : FnOk P w K mg base CX0 5 f fd ["deck", "kept", "numbers"] (sp__law_bad_right K) := by
  refine F.ok sc__law_bad_right (fun vs H Q E h => ?_) (fun cdv A outer s H vs Q E hr h => ?_)
  · obtain ⟨d, l, nn, p, ln, lo, n, L, L2, rfl, O, hlen, hn, q⟩ := h
    rfl
  · obtain ⟨d, l, nn, p, ln, lo, n, L, L2, rfl, O, hlen, hn, q⟩ := h
    refine ⟨_, (pss_cons (ps_set (i := 3) sc__law_bad_right.nd rfl (Or.inl rfl) (pe_fn h__law_next (hr.mono (by decide)) (by rfl) (pa_cons (pv 0) (pa_cons (pe_op op_pow pe_int pe_int) pa_nil))))
      (pss_cons (ps_set (i := 4) sc__law_bad_right.nd rfl (Or.inl rfl) (pe_lst (pa_cons (pe_tup (pa_cons pe_int (pa_cons pe_int pa_nil))) (pa_cons (pe_tup (pa_cons pe_int (pa_cons (pe_un un_neg pe_int) pa_nil))) (pa_cons (pe_tup (pa_cons pe_int (pa_cons (pe_op op_sub pe_int (pv 3)) pa_nil))) (pa_cons (pe_tup (pa_cons pe_int (pa_cons pe_int pa_nil))) (pa_cons (pe_tup (pa_cons pe_int (pa_cons (pe_un un_neg pe_int) pa_nil))) (pa_cons (pe_tup (pa_cons pe_int (pa_cons (pe_op op_sub (pe_op op_sub pe_int (pv 3)) pe_int) pa_nil))) pa_nil))))))))
      (pss_cons (ps_set (i := 6) sc__law_bad_right.nd rfl (Or.inl rfl) (pe_op op_cat (pe_lst (pa_cons (pe_op op_add pe_int (pv 3)) (pa_cons pe_int (pa_cons pe_int (pa_cons pe_int pa_nil))))) (pe_lc (own := [("number", 5)]) (g := gName 5) (tt := tYes) rfl sc__law_bad_right.nd (pi_list (pe_slice (k_slL K) (pv 2) po_none (po_some pe_int))) (blkOk_by (own := [("number", 5)]) (N := ["deck", "kept", "numbers", "far", "bad", "number", "some", "often", "due", "way"]) (sc := defScope s__law_bad_right) (by decide +kernel)) (fun _ _ _ _ _ => (pg_name (i := 5) sc__law_bad_right.nd rfl (Or.inl rfl))) (fun _ _ _ _ _ => pts_nil) (fun _ _ _ _ _ => (pe_op op_add (pv 5) pe_int)))))
      (pss_cons (ps_for PassesOwn.never rfl (pi_list (pe_slice (k_slL K) (pv 2) (po_some (pe_un un_neg pe_int)) po_none)) (pg_name (i := 5) sc__law_bad_right.nd rfl (Or.inl rfl))
        (pss_one (ps_set (i := 6) sc__law_bad_right.nd rfl (Or.inl rfl) (pe_op op_cat (pv 6) (pe_lst (pa_cons (pe_op op_sub (pv 5) pe_int) (pa_cons (pe_op op_fdiv (pv 5) pe_int) (pa_cons (pe_op op_mul pe_int (pv 5)) (pa_cons (pe_op op_sub pe_int (pv 5)) pa_nil)))))))))
      (pss_cons (ps_set (i := 4) sc__law_bad_right.nd rfl (Or.inl rfl) (pe_op op_cat (pv 4) (pe_lc (own := [("number", 5)]) (g := gName 5) rfl sc__law_bad_right.nd (pi_list (pv 6)) (blkOk_by (own := [("number", 5)]) (N := ["deck", "kept", "numbers", "far", "bad", "number", "some", "often", "due", "way"]) (sc := defScope s__law_bad_right) (by decide +kernel)) (fun _ _ _ _ _ => (pg_name (i := 5) sc__law_bad_right.nd rfl (Or.inl rfl))) (fun _ _ _ _ _ => (pts_one (PW.pt (pw_and (pt_cmpR (k_notIn K) (pv 5) (pv 2) (by rfl)) (pw_and1 (pt_cmpR op_le (pv 5) (pe_op op_pow pe_int pe_int) (nomark _))))))) (fun _ _ _ _ _ => (pe_tup (pa_cons pe_int (pa_cons (pv 5) pa_nil)))))))
      (pss_cons (ps_set (i := 7) sc__law_bad_right.nd rfl (Or.inl rfl) (pe_fn h__law_often (hr.mono (by decide)) (by rfl) (pa_cons (pv 2) pa_nil)))
      (pss_cons (ps_set (i := 8) sc__law_bad_right.nd rfl (Or.inl rfl) (pe_lst (pa_cons (pe_callTy (k_tuple K) (by rfl) B.tuple (by decide +kernel) (pa_cons (pe_callB (k_sorted K) (by rfl) B.sorted (by decide +kernel) (pa_cons (pv 2) pa_nil)) pa_nil)) (pa_cons (pe_fn h__law_exponent (hr.mono (by decide)) (by rfl) (pa_cons (pv 7) pa_nil)) (pa_cons (pe_fn h__law_lacks (hr.mono (by decide)) (by rfl) (pa_cons (pv 7) (pa_cons pe_int pa_nil))) (pa_cons (pe_fn h__law_lacks (hr.mono (by decide)) (by rfl) (pa_cons (pv 7) (pa_cons pe_int pa_nil))) pa_nil))))))
      (pss_cons (ps_for PassesOwn.never rfl (pi_list (pv 4)) (pg_tup rfl (pgs_cons (pg_name (i := 9) sc__law_bad_right.nd rfl (Or.inl rfl)) (pgs_cons (pg_name (i := 5) sc__law_bad_right.nd rfl (Or.inl rfl)) pgs_nil)))
        (pss_one (ps_if (PW.pt (pw_or (pt_cmpR (k_neD K rfl hr.units) (pe_fn h__law_told (hr.mono (by decide)) (by rfl) (pa_cons (pv 9) (pa_cons (pv 1) (pa_cons (pv 5) pa_nil)))) (pe_tup (pa_cons pe_str (pa_cons (pv 5) pa_nil))) (nomark _)) (pw_or1 (pt_cmpR (k_neD K rfl hr.units) (pe_fn h__law_state (hr.mono (by decide)) (by rfl) (pa_cons (pv 1) pa_nil)) (pv 8) (nomark _)))))
          (pss_one (ps_ret pe_bl))
          pss_nil)))
      (pss_one (ps_ret pe_bl)))))))))), ?_⟩
    have e6 : (10 : Int) ^ Int.toNat 6 = 1000000 := rfl
    have c6 : CPow 10 6 := by unfold CPow; omega
    have hr2 := O.rng
    have hr1 := O.kp.rng
    walk_at "x"
    rw [e6]
    refine ⟨c6, use_next (Kp.refl _ _) O.dk (by omega) (by omega) (by omega) fun far H1 k1 _ d1 a1 b1 => ?_⟩
    have O1 := O.kpd k1 d1
    have neg : ∀ {w i : Int}, (w = 0 ∨ w = 1) → i < 1 → (w = 0 ∧ i < 1 ∨ w = 1 ∧ i ∉ ofN L) := fun {w i} hw hi => hw.elim (fun e => .inl ⟨e, hi⟩) fun e => .inr ⟨e, low_not hr1 hi⟩
    refine ⟨by show 2 ≤ sizeLine; decide, fun t0 h0 => ?_⟩
    have g0 : Gd (upd H1 t0 (.tup [.int 0, .int 0])) L (.ref t0) := Gd.new (neg (.inl rfl) (by omega))
    have s0 := same_new (o := .tup [.int 0, .int 0]) h0
    generalize upd H1 t0 (.tup [.int 0, .int 0]) = Ha at g0 s0 ⊢
    refine ⟨by show 2 ≤ sizeLine; decide, fun t1 h1 => ⟨far, rfl, ?_⟩⟩
    have g1 : Gd (upd Ha t1 (.tup [.int 0, .int (-1)])) L (.ref t1) := Gd.new (neg (.inl rfl) (by omega))
    have s1 := same_new (o := .tup [.int 0, .int (-1)]) h1
    generalize upd Ha t1 (.tup [.int 0, .int (-1)]) = Hb at g1 s1 ⊢
    refine ⟨by show 2 ≤ sizeLine; decide, fun t2 h2 => ?_⟩
    have g2 : Gd (upd Hb t2 (.tup [.int 0, .int (0 - far)])) L (.ref t2) := Gd.new (neg (.inl rfl) (by omega))
    have s2 := same_new (o := .tup [.int 0, .int (0 - far)]) h2
    generalize upd Hb t2 (.tup [.int 0, .int (0 - far)]) = Hc at g2 s2 ⊢
    refine ⟨by show 2 ≤ sizeLine; decide, fun t3 h3 => ?_⟩
    have g3 : Gd (upd Hc t3 (.tup [.int 1, .int 0])) L (.ref t3) := Gd.new (neg (.inr rfl) (by omega))
    have s3 := same_new (o := .tup [.int 1, .int 0]) h3
    generalize upd Hc t3 (.tup [.int 1, .int 0]) = Hd at g3 s3 ⊢
    refine ⟨by show 2 ≤ sizeLine; decide, fun t4 h4 => ⟨far, rfl, ?_⟩⟩
    have g4 : Gd (upd Hd t4 (.tup [.int 1, .int (-1)])) L (.ref t4) := Gd.new (neg (.inr rfl) (by omega))
    have s4 := same_new (o := .tup [.int 1, .int (-1)]) h4
    generalize upd Hd t4 (.tup [.int 1, .int (-1)]) = He at g4 s4 ⊢
    refine ⟨by show 2 ≤ sizeLine; decide, fun t5 h5 => ?_⟩
    have g5 : Gd (upd He t5 (.tup [.int 1, .int (0 - far - 1)])) L (.ref t5) := Gd.new (neg (.inr rfl) (by omega))
    have s5 := same_new (o := .tup [.int 1, .int (0 - far - 1)]) h5
    generalize upd He t5 (.tup [.int 1, .int (0 - far - 1)]) = Hf at g5 s5 ⊢
    have S1 : Same H1 Hf := s0.trans (s1.trans (s2.trans (s3.trans (s4.trans s5))))
    have G6 : ∀ x ∈ [V.ref t0, V.ref t1, V.ref t2, V.ref t3, V.ref t4, V.ref t5], Gd Hf L x := fun x hx => by
      simp only [List.mem_cons, List.not_mem_nil, or_false] at hx
      rcases hx with rfl | rfl | rfl | rfl | rfl | rfl
      · exact g0.same (s1.trans (s2.trans (s3.trans (s4.trans s5))))
      · exact g1.same (s2.trans (s3.trans (s4.trans s5)))
      · exact g2.same (s3.trans (s4.trans s5))
      · exact g3.same (s4.trans s5)
      · exact g4.same s5
      · exact g5
    refine ⟨by show 6 ≤ sizeLine; decide, fun bd hbd => ⟨far, rfl, by show 4 ≤ sizeLine; decide, fun sm hsm => ?_⟩⟩
    have S2 := (S1.trans (same_new (o := .lst [V.ref t0, V.ref t1, V.ref t2, V.ref t3, V.ref t4, V.ref t5]) hbd)).trans (same_new (o := .lst ([1 + far, 1, 2, 999983].map V.int)) hsm)
    have G7 : ∀ x ∈ [V.ref t0, V.ref t1, V.ref t2, V.ref t3, V.ref t4, V.ref t5], Gd (upd (upd Hf bd (.lst [V.ref t0, V.ref t1, V.ref t2, V.ref t3, V.ref t4, V.ref t5])) sm (.lst ([1 + far, 1, 2, 999983].map V.int))) L x := fun x hx => (G6 x hx).same ((same_new hbd).trans (same_new hsm))
    have hBd : upd (upd Hf bd (.lst [V.ref t0, V.ref t1, V.ref t2, V.ref t3, V.ref t4, V.ref t5])) sm (.lst ([1 + far, 1, 2, 999983].map V.int)) bd = some (.lst [V.ref t0, V.ref t1, V.ref t2, V.ref t3, V.ref t4, V.ref t5]) := same_new hsm _ _ upd_same
    have hSm : upd (upd Hf bd (.lst [V.ref t0, V.ref t1, V.ref t2, V.ref t3, V.ref t4, V.ref t5])) sm (.lst ([1 + far, 1, 2, 999983].map V.int)) sm = some (.lst ([1 + far, 1, 2, 999983].map V.int)) := upd_same
    show rSlL K (.ref nn) none (some 3) (upd (upd Hf bd (.lst [V.ref t0, V.ref t1, V.ref t2, V.ref t3, V.ref t4, V.ref t5])) sm (.lst ([1 + far, 1, 2, 999983].map V.int))) _
    generalize upd (upd Hf bd (.lst [V.ref t0, V.ref t1, V.ref t2, V.ref t3, V.ref t4, V.ref t5])) sm (.lst ([1 + far, 1, 2, 999983].map V.int)) = Hg at S2 G7 hBd hSm ⊢
    have lb6 : [V.ref t0, V.ref t1, V.ref t2, V.ref t3, V.ref t4, V.ref t5].length = 6 := rfl
    generalize [V.ref t0, V.ref t1, V.ref t2, V.ref t3, V.ref t4, V.ref t5] = bs at G7 hBd lb6
    have O2 := O1.same S2
    obtain ⟨ms, em, lm, _⟩ := cut_ints (ofN L2) none (some 3)
    refine r_slL (SqL.of O2.hn) fun sl hsl => ?_
    rw [em]
    refine ⟨sl, rfl, ⟨_, SqL.of upd_same⟩, lc_l (fun v => match v with | .int i => some (V.int (i + 1)) | _ => none) (SqL.of upd_same) (size_le' (by rw [List.length_map]; rw [ofN_len] at lm; omega)) (fun i x H' hx s' N0 N1 n0 n1 => ?_) fun ls H' hls s' hL => ?_⟩
    · rw [List.getElem?_map] at hx
      obtain ⟨z, hz, rfl⟩ := Option.map_eq_some_iff.mp hx
      walk_at "w"
      exact n1 _ rfl _ (Same.refl _)
    rw [fm_plus] at hL
    have S3 := (same_new hsl).trans s'
    refine r_cat (S3 _ _ hSm) hL (size_le' (by simp; rw [ofN_len] at lm; omega)) fun sm2 hsm2 => ?_
    have S4 := S3.trans (same_new (o := .lst (([1 + far, 1, 2, 999983] ++ ms.map (· + 1)).map V.int)) hsm2)
    rw [← List.map_append]
    have hSm2 : upd H' sm2 (.lst (([1 + far, 1, 2, 999983] ++ ms.map (· + 1)).map V.int)) sm2 = some (.lst (([1 + far, 1, 2, 999983] ++ ms.map (· + 1)).map V.int)) := upd_same
    have lz : ([1 + far, 1, 2, 999983] ++ ms.map (· + 1)).length ≤ 70 := by simp; rw [ofN_len] at lm; omega
    generalize [1 + far, 1, 2, 999983] ++ ms.map (· + 1) = zs0 at S4 hSm2 lz ⊢
    generalize upd H' sm2 (.lst (zs0.map V.int)) = Hh at S4 hSm2 ⊢
    have O3 := O2.same S4
    have G8 : ∀ x ∈ bs, Gd Hh L x := fun x hx => (G7 x hx).same S4
    have hBd2 := S4 _ _ hBd
    obtain ⟨ms2, em2, lm2, mm2⟩ := cut_ints (ofN L2) (some (-3)) none
    refine r_slL (SqL.of O3.hn) fun sl2 hsl2 => ?_
    rw [em2]
    have S5 := same_new (o := .lst (ms2.map V.int)) hsl2
    have hSl2 : upd Hh sl2 (.lst (ms2.map V.int)) sl2 = some (.lst (ms2.map V.int)) := upd_same
    generalize upd Hh sl2 (.lst (ms2.map V.int)) = Hi at S5 hSl2 ⊢
    refine ⟨sl2, rfl, ⟨_, SqL.of hSl2⟩, for_l (xs := ms2.map V.int) (fun i σ H' => ∃ (zs : List Int) (v5 : Option V) (sm : Addr), σ = [some (.ref d), some (.ref p), some (.ref nn), some (.int far), some (.ref bd), v5, some (.ref sm), none, none, none] ∧ Same Hi H' ∧ H' sm = some (.lst (zs.map V.int)) ∧ zs.length ≤ 70 + 4 * i) ⟨zs0, _, sm2, rfl, Same.refl _, S5 _ _ hSm2, by omega⟩ ?_ ?_ ?_⟩
    · rintro i σ H' _ ⟨_, _, _, _, s', _⟩
      exact SqL.of (s' _ _ hSl2)
    · rintro i y σ H' hy ⟨zs, v5, sm, rfl, s', hz, lz'⟩ N hN
      rw [List.getElem?_map] at hy
      obtain ⟨z, hz0, rfl⟩ := Option.map_eq_some_iff.mp hy
      have hil : i < ms2.length := (List.getElem?_eq_some_iff.mp hz0).1
      obtain ⟨x0, hx0, ex0⟩ := List.mem_map.mp (mm2 z (List.mem_of_getElem? hz0))
      have hb0 := hr2 x0 hx0
      walk_at "w"
      refine ⟨by unfold CDiv; omega, .inl (by omega), by show 4 ≤ sizeLine; decide, fun p4 hp4 => ?_⟩
      refine r_cat ((same_new hp4) _ _ hz) upd_same (size_le' (by simp; rw [ofN_len] at lm2; omega)) fun sm3 hsm3 => ?_
      exact hN _ _ ⟨zs ++ [z - 1, z / 2, 2 * z, 0 - z], _, sm3, rfl, (s'.trans (same_new hp4)).trans (same_new hsm3), by rw [List.map_append]; exact upd_same, by simp; omega⟩
    · rintro σ H' ⟨zs, v5, sm, rfl, s', hz, lz'⟩
      walk_at "x"
      rw [List.length_map] at lz'
      rw [ofN_len] at lm2
      have O4 := O3.same (S5.trans s')
      have G9 : ∀ x ∈ bs, Gd H' L x := fun x hx => (G8 x hx).same (S5.trans s')
      have hBd3 := s' _ _ (S5 _ _ hBd2)
      refine ⟨⟨_, SqL.of hz⟩, lc_lI (xs := zs.map V.int) (fun i acc Hx => Same H' Hx ∧ (∀ x ∈ acc, Gd Hx L x) ∧ acc.length ≤ i) (fun D hD => ⟨same_new hD, fun x hx => (by cases hx), Nat.le_refl _⟩) (fun i acc Hx _ h => SqL.of (h.1 _ _ hz)) ?_ ?_⟩
      · rintro i x acc D Hx hx hD hDa ⟨sx, gx, lx⟩ N0 N1 n0 n1
        rw [List.getElem?_map] at hx
        obtain ⟨z, hz0, rfl⟩ := Option.map_eq_some_iff.mp hx
        have hil : i < zs.length := (List.getElem?_eq_some_iff.mp hz0).1
        walk_at "x"
        refine ⟨nn, _, rfl, .inl (SqL.of (sx _ _ O4.hn)), rfl, flat_ints _, ?_⟩
        by_cases c : z ∈ ofN L2
        · obtain ⟨m, hm, rfl⟩ := List.mem_map.mp c
          rw [if_pos rfl, inV_mem hm]
          walk_at "w"
          exact n0 _ hDa ⟨sx, gx, Nat.le_succ_of_le lx⟩
        · rw [if_pos rfl, inV_not c]
          walk_at "w"
          rw [e6]
          refine ⟨c6, ite2 (fun c2 => ⟨by show 2 ≤ sizeLine; decide, fun T hT => ?_⟩) (fun c2 => n0 _ hDa ⟨sx, gx, Nat.le_succ_of_le lx⟩)⟩
          have sT := same_new (o := .tup [V.int 1, V.int z]) hT
          have hD1 := sT _ _ hDa
          have gT : Gd (upd Hx T (.tup [V.int 1, V.int z])) L (.ref T) := Gd.new (.inr ⟨rfl, fun hm => c (((O4.pm.map (fun n : Nat => (n : Int))).mem_iff).mpr hm)⟩)
          generalize upd Hx T (.tup [V.int 1, V.int z]) = Hy at sT hD1 gT ⊢
          refine n1 _ Hy hD1 (size_le' (by omega)) ⟨fun b o h => ?_, fun x hx => ?_, by simp; omega⟩
          · exact (upd_ne (ne_of_none h hD)).trans (sT _ _ (sx _ _ h))
          · have ws : ∀ x, Gd Hy L x → Gd (upd Hy D (.lst (acc ++ [.ref T]))) L x := fun x ⟨t, w, i, e, h1, h2⟩ => ⟨t, w, i, e, (upd_ne (ne_of h1 hD1 fun z => by cases z)).trans h1, h2⟩
            rcases List.mem_append.mp hx with h | h
            · exact ws _ ((gx x h).same sT)
            · simp only [List.mem_cons, List.not_mem_nil, or_false] at h
              exact h ▸ ws _ gT
      intro D acc Hx hD hDa ⟨sx, gx, lx⟩
      rw [List.length_map] at lx
      refine r_cat (sx _ _ hBd3) hDa (size_le' (by omega)) fun bd2 hbd2 => ?_
      have O5 := O4.same (sx.trans (same_new (o := .lst (bs ++ acc)) hbd2))
      have G10 : ∀ x ∈ bs ++ acc, Gd (upd Hx bd2 (.lst (bs ++ acc))) L x := fun x hx => by
        rcases List.mem_append.mp hx with h | h
        · exact (G9 x h).same (sx.trans (same_new hbd2))
        · exact (gx x h).same (same_new hbd2)
      have hBd4 : upd Hx bd2 (.lst (bs ++ acc)) bd2 = some (.lst (bs ++ acc)) := upd_same
      generalize bs ++ acc = xs at O5 G10 hBd4 ⊢
      generalize upd Hx bd2 (.lst xs) = Hj at O5 G10 hBd4 ⊢
      refine ⟨nn, L2, rfl, SqL.of O5.hn, by omega, hr2, fun po ks Hk hpo sk hc hks => ?_⟩
      refine r_sortedI (SqL.of (sk _ _ O5.hn)) fun ys ry hyp hys hry => r_tupL (SqL.of upd_same) fun ty hty => ?_
      have S6 := (same_new (o := .lst (ys.map V.int)) hry).trans (same_new (o := .tup (ys.map V.int)) hty)
      have hTy : upd (upd Hk ry (.lst (ys.map V.int))) ty (.tup (ys.map V.int)) ty = some (.tup (ys.map V.int)) := upd_same
      generalize upd (upd Hk ry (.lst (ys.map V.int))) ty (.tup (ys.map V.int)) = Hl at S6 hTy ⊢
      have hc2 := hc.same S6
      have lp := pfs_len hr2
      refine ⟨po, pfs L2, ks, rfl, hc2, hks, by omega, fun e0 Hm sm' hE => ?_⟩
      refine ⟨po, L2, ks, 2, rfl, hc2.same sm', by omega, by omega, by omega, hr2, fun q2 Hn sn hQ2 => ?_⟩
      refine ⟨po, L2, ks, 3, rfl, (hc2.same sm').same sn, by omega, by omega, by omega, hr2, fun q3 Ho so hQ3 => ⟨by show 4 ≤ sizeLine; decide, fun du hdu => ?_⟩⟩
      have S7 := (((sk.trans S6).trans sm').trans sn).trans (so.trans (same_new (o := .lst [V.ref ty, V.int (e0 : Int), V.int (q2 : Int), V.int (q3 : Int)]) hdu))
      have hDu : Pn.S4 K (upd Ho du (.lst [V.ref ty, V.int (e0 : Int), V.int (q2 : Int), V.int (q3 : Int)])) du ys e0 q2 q3 := ⟨ty, upd_same, SqT.of (same_new hdu _ _ (so _ _ (sn _ _ (sm' _ _ hTy))))⟩
      have hT0 : Tl L2 ys e0 q2 q3 := ⟨hyp, hys, hE, hQ2, hQ3⟩
      generalize upd Ho du (.lst [V.ref ty, V.int (e0 : Int), V.int (q2 : Int), V.int (q3 : Int)]) = Hp1 at S7 hDu ⊢
      have O6 := O5.same S7
      have lL : L.length ≤ 60 := O.pm.length_eq ▸ hlen
      refine ⟨bd2, rfl, ⟨_, SqL.of (S7 _ _ hBd4)⟩, for_l (xs := xs) (fun i σ H' => ∃ (v5 v9 : Option V), σ = [some (.ref d), some (.ref p), some (.ref nn), some (.int far), some (.ref bd2), v5, some (.ref sm), some (.ref po), some (.ref du), v9] ∧ Same Hp1 H') ⟨_, _, rfl, Same.refl _⟩ ?_ ?_ ?_⟩
      · rintro i σ H' _ ⟨_, _, _, s'⟩
        exact SqL.of (s' _ _ (S7 _ _ hBd4))
      · rintro i y σ H2 hy ⟨v5, v9, rfl, s2⟩ N hN
        obtain ⟨t, w1, i1, rfl, ht, hg⟩ := (G10 y (List.mem_of_getElem? hy)).same (S7.trans s2)
        refine ⟨t, _, rfl, SqT.of ht, rfl, ?_⟩
        walk_at "x"
        have O7 := O6.same s2
        refine ⟨p, ln, lo, w1, i1, L, rfl, O7.kp, by omega, .inl ⟨hg, fun t2 H3 s3 ht2 => ⟨by show 2 ≤ sizeLine; decide, fun t3 ht3 => ?_⟩⟩⟩
        have s4 := same_new (o := .tup [V.str "factor", V.int i1]) ht3
        refine r_neOne (dp_F (s4 _ _ ht2)) (dp_F upd_same) (sh_F i1) (eqv_F i1) ?_
        walk_at "x"
        have O8 := (O7.same s3).same s4
        refine ⟨p, ln, lo, L, rfl, O8.kp, by omega, fun t4 ys4 e4 r24 r34 H5 s5 hS5 hT5 => ?_⟩
        obtain ⟨rfl, rfl, rfl, rfl⟩ := hT5.one hT0 O.pm.symm
        have s6 := s2.trans (s3.trans (s4.trans s5))
        have hDu5 : Pn.S4 K H5 du ys4 e4 r24 r34 := let ⟨u, h1, h2⟩ := hDu; ⟨u, s6 _ _ h1, same_seqT s6 h2⟩
        refine r_neOne (dp_4 hS5) (dp_4 hDu5) (sh_4 _ _ _ _) (eqv_4 _ _ _ _) ?_
        walk_at "x"
        exact hN _ _ ⟨_, _, rfl, s6⟩
      · rintro σ H2 ⟨v5, v9, rfl, s2⟩
        walk_at "x"
        exact q _ (O6.same s2)
end
abbrev s_law : Stmt := top 24
theorem sc_law : FnScope ["script", "deck", "kept", "numbers", "turn", "number", "many", "k"] ["script"] (defScope s_law) := ⟨rfl, rfl, rfl, by decide +kernel, rfl, by decide +kernel, by decide +kernel⟩
def sp_law (K : PySem.W.Frag) : Sp := fun vs H Q _ => ∃ (a : Addr) (ns : List Int), vs = [.ref a] ∧ SqL K H a (ns.map V.int) ∧ ns.length ≤ 63 ∧ ∀ H', Q (.bl true) H'
theorem erase_at {L : List Nat} {j n : Nat} (h : L[j]? = some n) : L.Perm (n :: L.eraseIdx j) := by
  induction L generalizing j with
  | nil => simp at h
  | cons a L ih =>
    cases j with
    | zero =>
      simp at h
      subst h
      exact List.Perm.refl _
    | succ j =>
      have := ih (j := j) (by simpa using h)
      exact (this.cons a).trans (List.Perm.swap n a _)
theorem ofN_erase (L : List Nat) (j : Nat) : ((ofN L).map V.int).eraseIdx j = (ofN (L.eraseIdx j)).map V.int := by
  induction L generalizing j with
  | nil => simp [ofN]
  | cons a L ih =>
    cases j with
    | zero => rfl
    | succ j =>
      have := ih j
      simp only [ofN, List.map_cons, List.eraseIdx_cons_succ] at this ⊢
      rw [this]
/-- where the parts of One stand apart -/
def Nd (d l nn p ln lo : Addr) : Prop := nn ≠ d ∧ p ≠ d ∧ ln ≠ d ∧ lo ≠ d ∧ nn ≠ l ∧ ln ≠ l ∧ lo ≠ l ∧ nn ≠ ln ∧ nn ≠ lo ∧ nn ≠ p
section
variable {K : PySem.W.Frag} {H : Hp} {d l nn p ln lo : Addr} {n m : Nat} {L L2 : List Nat} {Q : VK} {E : XK}
theorem told_come (dk : Dk H d l n) (hn : H nn = some (.lst ((ofN L2).map V.int))) (hK : KP K H p ln lo L) (nd : Nd d l nn p ln lo) (pm : L2.Perm (L ++ [m])) (h1 : 1 ≤ m) (h2 : m ≤ 1000000) (hl : L.length ≤ 1000)
    (q : ∀ t H', H' t = some (.lst [.non]) → One K H' d l nn p ln lo n (L ++ [m]) L2 → Q (.ref t) H') : sp__law_told K [.int 0, .ref p, .int (m : Int)] H Q E := by
  obtain ⟨n1, n2, n3, n4, n5, n6, n7, n8, n9, n10⟩ := id nd
  exact ⟨p, ln, lo, 0, m, L, rfl, hK, by omega, .inr (.inl ⟨m, rfl, rfl, h1, h2, fun t H' k hk ht => q t H' ht ⟨dk.k2b k n3.symm n4.symm n6.symm n7.symm, k _ _ n8 n9 hn, hk, pm, nd⟩⟩)⟩
theorem told_go (dk : Dk H d l n) (hn : H nn = some (.lst ((ofN L2).map V.int))) (hK : KP K H p ln lo L) (nd : Nd d l nn p ln lo) (pm : (m :: L2).Perm L) (hl : L.length ≤ 1000)
    (q : ∀ t H' L', H' t = some (.lst [.non]) → One K H' d l nn p ln lo n L' L2 → Q (.ref t) H') : sp__law_told K [.int 1, .ref p, .int (m : Int)] H Q E := by
  obtain ⟨n1, n2, n3, n4, n5, n6, n7, n8, n9, n10⟩ := id nd
  exact ⟨p, ln, lo, 1, m, L, rfl, hK, by omega, .inr (.inr ⟨m, rfl, rfl, pm.mem_iff.mp List.mem_cons_self, fun t H' L' k hp hk ht => q t H' L' ht ⟨dk.k2b k n3.symm n4.symm n6.symm n7.symm, k _ _ n8 n9 hn, hk, (List.perm_cons m).mp (pm.trans hp), nd⟩⟩)⟩
theorem not_ofN {L : List Nat} {m : Nat} (hm : m ∉ L) : (m : Int) ∉ ofN L := fun h => by
  obtain ⟨x, hx, e⟩ := List.mem_map.mp h
  have : x = m := by omega
  exact hm (this ▸ hx)
theorem told_no (hK : KP K H p ln lo L) (hm : m ∉ L) (hl : L.length ≤ 1000) (q : ∀ t H', Same H H' → H' t = some (.tup [.str "factor", .int (m : Int)]) → Q (.ref t) H') : sp__law_told K [.int 1, .ref p, .int (m : Int)] H Q E :=
  ⟨p, ln, lo, 1, m, L, rfl, hK, by omega, .inl ⟨.inr ⟨rfl, not_ofN hm⟩, q⟩⟩
end
def dN1 : PyData := .list [.none]
theorem dp_N {K : PySem.W.Frag} {H : Hp} {t : Addr} (h : H t = some (.lst [.non])) : Dp K H (.ref t) dN1 := .lst (SqL.of h) (.cons .non .nil)
theorem sh_N : SeqAt.shaped dN1 = true := by
  unfold SeqAt.shaped dN1
  simp [PyData.canLay0, PyData.canLayAll0, PyData.depth, PyData.depthAll]
theorem eqv_N : PyData.eqv dN1 dN1 = true := by
  unfold dN1
  simp [PyData.eqv, PyData.eqvAll]
theorem r_eqOne {K : PySem.W.Frag} {H : Hp} {Q : VK} {x y : V} {d : PyData} (h1 : Dp K H x d) (h2 : Dp K H y d) (sh : SeqAt.shaped d = true) (e : PyData.eqv d d = true) (q : Q (.bl true) H) : rEqD K x y H Q := ⟨d, d, h1, h2, sh, sh, by rw [e]; exact q⟩
theorem countP_int (m : Int) : ∀ ys : List Int, (ys.map V.int).countP (fun z => eqV z (V.int m)) = ys.count m
  | [] => rfl
  | y :: ys => by
    rw [List.map_cons, List.countP_cons, countP_int m ys, List.count_cons]
    rfl
theorem count_ofN (m : Nat) : ∀ L : List Nat, (ofN L).count (m : Int) = L.count m
  | [] => rfl
  | y :: L => by
    show ((y : Int) :: ofN L).count (m : Int) = _
    rw [List.count_cons, List.count_cons, count_ofN m L]
    congr 1
    by_cases c : y = m
    · subst c
      simp
    · rw [if_neg (by simp; omega), if_neg (by simpa using c)]
section
variable {P : Program} {w : World} {K : PySem.W.Frag} {mg : PySem.Str → Option Value} {base : Heap}
theorem bi_law {f : Addr} {fd : FuncData} (F : Fun K "law" "law" s_law f fd) : Binds K fd ["script"] [] := F.binds (ps := ["script"]) fun _ _ _ _ _ _ us hl => match us, hl with | [_], _ => rfl
set_option maxHeartbeats 4000000 in
theorem ok_law {f : Addr} {fd : FuncData} (F : Fun K "law" "law" s_law f fd) (B : Bt mg)  (h__law_deck : Fn P w K mg base CX0 1 "_law_deck" ["script"] (sp__law_deck K)) (h_KeptProduct___init__ : FnK P w K mg base CX0 1 "KeptProduct" ["numbers", "often"] ["self"] (sp_KeptProduct___init__ K)) (h__law_small : Fn P w K mg base CX0 3 "_law_small" ["deck"] (sp__law_small K)) (h__law_next : Fn P w K mg base CX0 2 "_law_next" ["deck", "many"] (sp__law_next K)) (h__law_told : Fn P w K mg base CX0 4 "_law_told" ["way", "kept", "number"] (sp__law_told K)) (h__law_bad_right : Fn P w K mg base CX0 5 "_law_bad_right" ["deck", "kept", "numbers"] (sp__law_bad_right K)) (h_KeptProduct_numbers_now : FnM P w K mg base CX0 1 "KeptProduct" ["numbers", "often"] "numbers_now" ["self"] (sp_KeptProduct_numbers_now K)) : FnOk P w K mg base CX0 6 f fd ["script"] (sp_law K) := by
  refine F.ok sc_law (fun vs H Q E h => ?_) (fun cdv A outer s H vs Q E hr h => ?_)
  · obtain ⟨a, ns, rfl, hS, hlen, q⟩ := h
    rfl
  · obtain ⟨a, ns, rfl, hS, hlen, q⟩ := h
    refine ⟨_, (pss_cons (ps_set (i := 1) sc_law.nd rfl (Or.inl rfl) (pe_fn h__law_deck (hr.mono (by decide)) (by rfl) (pa_cons (pv 0) pa_nil)))
      (pss_cons (ps_set (i := 2) sc_law.nd rfl (Or.inl rfl) (pe_mk0 h_KeptProduct___init__ (hr.mono (by decide)) (by rfl)))
      (pss_cons (ps_set (i := 3) sc_law.nd rfl (Or.inl rfl) (pe_lst pa_nil))
      (pss_cons (ps_for PassesOwn.never rfl (pi_range1 rfl B.range (pa_cons (pe_fn h__law_next (hr.mono (by decide)) (by rfl) (pa_cons (pv 1) (pa_cons pe_int pa_nil))) pa_nil)) (pg_name (i := 4) sc_law.nd rfl (Or.inl rfl))
        (Evl.pss_cut (ps_if (PW.pt (pw_and (pt_cmpR (k_neD K rfl hr.units) (pv 3) (pe_lst pa_nil) (nomark _)) (pw_and1 (pt_cmpR op_eq (pe_fn h__law_next (hr.mono (by decide)) (by rfl) (pa_cons (pv 1) (pa_cons pe_int pa_nil))) pe_int (nomark _)))))
          (pss_cons (ps_set (i := 5) sc_law.nd rfl (Or.inl rfl) (pe_bm PySem.F.plainAttrs_list PySem.F.slot_list_pop PySem.F.type_list_pop mt_popAt (pv 3) (pa_cons (pe_fn h__law_next (hr.mono (by decide)) (by rfl) (pa_cons (pv 1) (pa_cons (pe_callB (k_len K) (by rfl) B.len (by decide +kernel) (pa_cons (pv 3) pa_nil)) pa_nil))) pa_nil)))
          (pss_cons (ps_if (pt_cmpR (k_neD K rfl hr.units) (pe_fn h__law_told (hr.mono (by decide)) (by rfl) (pa_cons pe_int (pa_cons (pv 2) (pa_cons (pv 5) pa_nil)))) (pe_lst (pa_cons pe_non pa_nil)) (nomark _))
            (pss_one (ps_ret pe_bl))
            pss_nil)
          (pss_one (ps_if (PW.pt (pw_and (pt_cmpR (k_notIn K) (pv 5) (pv 3) (by rfl)) (pw_and1 (pt_cmpR (k_neD K rfl hr.units) (pe_fn h__law_told (hr.mono (by decide)) (by rfl) (pa_cons pe_int (pa_cons (pv 2) (pa_cons (pv 5) pa_nil)))) (pe_tup (pa_cons pe_str (pa_cons (pv 5) pa_nil))) (nomark _)))))
            (pss_one (ps_ret pe_bl))
            pss_nil))))
          (pss_cons (ps_set (i := 5) sc_law.nd rfl (Or.inl rfl) (pe_fn h__law_small (hr.mono (by decide)) (by rfl) (pa_cons (pv 1) pa_nil)))
          (pss_cons (ps_expr (pe_bm PySem.F.plainAttrs_list PySem.F.slot_list_append PySem.F.type_list_append mt_append (pv 3) (pa_cons (pv 5) pa_nil)))
          (pss_one (ps_if (pt_cmpR (k_neD K rfl hr.units) (pe_fn h__law_told (hr.mono (by decide)) (by rfl) (pa_cons pe_int (pa_cons (pv 2) (pa_cons (pv 5) pa_nil)))) (pe_lst (pa_cons pe_non pa_nil)) (nomark _))
            (pss_one (ps_ret pe_bl))
            pss_nil)))))
        (pss_one (ps_if (PW.pt (pw_and (pt_cmpR op_eq (pe_fn h__law_next (hr.mono (by decide)) (by rfl) (pa_cons (pv 1) (pa_cons pe_int pa_nil))) pe_int (nomark _)) (pw_and1 (pt_not (pt_val (pe_fn h__law_bad_right (hr.mono (by decide)) (by rfl) (pa_cons (pv 1) (pa_cons (pv 2) (pa_cons (pv 3) pa_nil)))))))))
          (pss_one (ps_ret pe_bl))
          pss_nil))))
      (pss_cons (ps_if (PW.pt (pw_or (pt_not (pt_val (pe_fn h__law_bad_right (hr.mono (by decide)) (by rfl) (pa_cons (pv 1) (pa_cons (pv 2) (pa_cons (pv 3) pa_nil)))))) (pw_or1 (pt_not (pt_val (pe_fn h__law_bad_right (hr.mono (by decide)) (by rfl) (pa_cons (pv 1) (pa_cons (pv 2) (pa_cons (pv 3) pa_nil)))))))))
        (pss_one (ps_ret pe_bl))
        pss_nil)
      (pss_cons (ps_set (i := 5) sc_law.nd rfl (Or.inl rfl) (pe_fn h__law_small (hr.mono (by decide)) (by rfl) (pa_cons (pv 1) pa_nil)))
      (pss_cons (ps_set (i := 6) sc_law.nd rfl (Or.inl rfl) (pe_bm PySem.F.plainAttrs_list PySem.F.slot_list_count PySem.F.type_list_count mt_lcount (pv 3) (pa_cons (pv 5) pa_nil)))
      (pss_cons (ps_if (PW.pt (pw_or (pt_cmpR (k_neD K rfl hr.units) (pe_fn h__law_told (hr.mono (by decide)) (by rfl) (pa_cons pe_int (pa_cons (pv 2) (pa_cons (pv 5) pa_nil)))) (pe_lst (pa_cons pe_non pa_nil)) (nomark _)) (pw_or1 (pt_cmpR (k_neD K rfl hr.units) (pe_fn h__law_told (hr.mono (by decide)) (by rfl) (pa_cons pe_int (pa_cons (pv 2) (pa_cons (pv 5) pa_nil)))) (pe_lst (pa_cons pe_non pa_nil)) (nomark _)))))
        (pss_one (ps_ret pe_bl))
        pss_nil)
      (pss_cons (ps_for PassesOwn.never rfl (pi_range1 rfl B.range (pa_cons (pe_op op_add (pv 6) pe_int) pa_nil)) (pg_name (i := 7) sc_law.nd rfl (Or.inl rfl))
        (pss_one (ps_if (PW.pt (pw_or (pt_cmpR op_ne (pe_bmF PySem.F.plainAttrs_tuple PySem.F.slot_tuple_count PySem.F.type_tuple_count (k_countT K) (pe_mt0 (K := K) h_KeptProduct_numbers_now (hr.mono (by decide)) (pv 2)) (pa_cons (pv 5) pa_nil)) (pe_op op_sub (pe_op op_add (pv 6) pe_int) (pv 7)) (nomark _)) (pw_or1 (pt_cmpR (k_neD K rfl hr.units) (pe_fn h__law_told (hr.mono (by decide)) (by rfl) (pa_cons pe_int (pa_cons (pv 2) (pa_cons (pv 5) pa_nil)))) (pe_lst (pa_cons pe_non pa_nil)) (nomark _)))))
          (pss_one (ps_ret pe_bl))
          pss_nil)))
      (pss_one (ps_ret (pe_cmpR (k_eqD K rfl hr.units) (pe_fn h__law_told (hr.mono (by decide)) (by rfl) (pa_cons pe_int (pa_cons (pv 2) (pa_cons (pv 5) pa_nil)))) (pe_tup (pa_cons pe_str (pa_cons (pv 5) pa_nil))) (nomark _))))))))))))), ?_⟩
    walk_at "x"
    refine ⟨a, ns, rfl, hS, fun d l H1 nd s1 d1 => ?_⟩
    walk_at "x"
    refine fun C y dx hC hy hdx hdy => ⟨y, C, dx, rfl, hC, upd_same, fun ln lo H3 hln hlo hK3 hfr => ⟨rfl, ?_⟩⟩
    have up : Same H1 H3 := fun b o h => hfr b o (ne_of_none h hy) (by rw [upd_ne (ne_of_none h hy), upd_ne (ne_of_none h hdx)]; exact h)
    have hl1 : H1 ln = none := upd_free (upd_free hln)
    have ho1 : H1 lo = none := upd_free (upd_free hlo)
    have d3 := d1.same up
    walk_at "x"
    refine ⟨Nat.zero_le _, fun nn hnn => ?_⟩
    have fr := hK3.fresh hnn
    have O5 : One K (upd H3 nn (.lst [])) d l nn y ln lo 0 [] [] := ⟨d3.same (same_new hnn), upd_same, hK3.same (same_new hnn), List.Perm.refl _, d3.ne hnn, d1.ne hy, d1.ne hl1, d1.ne ho1, d3.neL hnn, d1.neL hl1, d1.neL ho1, fr.2.1.symm, fr.2.2.symm, fr.1.symm⟩
    generalize upd H3 nn (.lst []) = H5 at O5 ⊢
    refine use_next (Kp.refl _ _) O5.dk (by omega) (by omega) (by omega) fun r1 H6 k6 _ d6 a6 b6 => ?_
    have O6 := O5.kpd k6 d6
    refine ⟨r1, rfl, by omega, by omega, for_r (fun i σ H' => ∃ (v4 v5 : Option V) (L L2 : List Nat), σ = [some (.ref a), some (.ref d), some (.ref y), some (.ref nn), v4, v5, none, none] ∧ One K H' d l nn y ln lo (1 + 100 * i) L L2 ∧ L2.length ≤ i) ⟨_, _, [], [], rfl, O6, by simp⟩ ?_ ?_⟩
    · rintro i σ H7 hi ⟨v4, v5, L, L2, rfl, O, hlen2⟩ N hN
      have hi : i < 31 := by omega
      have lL := O.pm.length_eq
      obtain ⟨n1, n2, n3, n4, n5, n6, n7, n8, n9, n10⟩ := O.nd
      walk_at "x"
      refine cut_m (fun σ' H' => ∃ (v5 : Option V) (n' : Nat) (L' L2' : List Nat), σ' = [some (.ref a), some (.ref d), some (.ref y), some (.ref nn), some (.int (0 + (i : Int))), v5, none, none] ∧ One K H' d l nn y ln lo n' L' L2' ∧ n' ≤ 1 + 100 * i + 70 ∧ L2'.length ≤ i + 1) ?_ ?_
      · intro N1 hN1
        walk_at "x"
        refine ⟨Nat.zero_le _, fun u hu => ?_⟩
        have su := same_new (o := .lst []) hu
        have O8 := O.same su
        have eN : ofN L2 = [] ↔ L2 = [] := by
          cases L2 <;> simp [ofN]
        refine r_neL (ns := ofN L2) (ms := []) (SqL.of O8.hn) (SqL.of upd_same) ?_
        generalize upd H7 u (.lst []) = H8 at su O8 ⊢
        walk_at "x"
        have fin : ∀ (v5 : Option V) (n' : Nat) (H' : Hp) (L' L2' : List Nat), One K H' d l nn y ln lo n' L' L2' → n' ≤ 1 + 100 * i + 70 → L2'.length ≤ i + 1 → N1 [some (.ref a), some (.ref d), some (.ref y), some (.ref nn), some (.int (0 + (i : Int))), v5, none, none] H' := fun v5 n' H' L' L2' O' h1 h2 => hN1 _ _ ⟨v5, n', L', L2', rfl, O', h1, h2⟩
        by_cases hne : L2 = []
        · rw [if_neg fun z => z (eN.mpr hne)]
          have O9 := O8
          refine use_small (Kp.refl _ _) O9.dk (by omega) fun m Ha ka _ da m1 m2 => ?_
          have Oa := O9.kpd ka da
          refine ⟨.inl ⟨rfl, _, SqL.of Oa.hn⟩, r_app Oa.hn (size_le (by rw [List.length_map, ofN_len]; omega)) ?_⟩
          have eL : (ofN L2).map V.int ++ [V.int (m : Int)] = (ofN (L2 ++ [m])).map V.int := by simp [ofN]
          rw [eL]
          have hKb : KP K (upd Ha nn (.lst ((ofN (L2 ++ [m])).map V.int))) y ln lo L := Oa.kp.kp (a := nn) ((Kp.refl nn Ha).upd) n10.symm n8.symm n9.symm
          refine told_come (Oa.dk.upd n1 n5) upd_same hKb O.nd (Oa.pm.append_right [m]) m1 m2 (by omega) fun t Hb ht Ob => ⟨by show 1 ≤ sizeLine; decide, fun t2 ht2 => ?_⟩
          refine r_neOne (dp_N (same_new ht2 _ _ ht)) (dp_N upd_same) sh_N eqv_N ?_
          walk_at "x"
          exact fin _ _ _ _ _ (Ob.same (same_new ht2)) (by omega) (by simp; omega)
        · rw [if_pos fun z => hne (eN.mp z)]
          have hp0 : 1 ≤ L2.length := List.length_pos_iff.mpr hne
          refine use_next (Kp.refl _ _) O8.dk (by omega) (by omega) (by omega) fun r0 H9 k9 _ d9 _ _ => ⟨rfl, ?_⟩
          have O9 := O8.kpd k9 d9
          refine ite2 (fun hc => ?_) (fun hc => ?_)
          · refine ⟨.inl ⟨rfl, _, SqL.of O9.hn⟩, r_len (SqL.of O9.hn) ?_⟩
            rw [List.length_map, ofN_len]
            refine use_next (Kp.refl _ _) O9.dk (by omega) (by omega) (by omega) fun r Hc kc _ dc ac bc => ?_
            have Oc := O9.kpd kc dc
            obtain ⟨j, rfl⟩ := Int.eq_ofNat_of_zero_le ac
            have hj : j < L2.length := by omega
            have hat0 : L2[j]? = some L2[j] := List.getElem?_eq_getElem hj
            generalize L2[j] = m at hat0
            have hat : ((ofN L2).map V.int)[j]? = some (V.int (m : Int)) := by
              unfold ofN
              rw [List.getElem?_map, List.getElem?_map, hat0]
              rfl
            refine ⟨nn, _, (j : Int), j, _, rfl, rfl, Oc.hn, by omega, by omega, ?_, hat, ?_⟩
            · rw [List.length_map, ofN_len]
              exact seqIndex_of (by omega) (by omega)
            rw [ofN_erase]
            have hp2 := erase_at hat0
            have hl2 : (L2.eraseIdx j).length + 1 = L2.length := by
              have := hp2.length_eq
              rw [List.length_cons] at this
              omega
            have hKd : KP K (upd Hc nn (.lst ((ofN (L2.eraseIdx j)).map V.int))) y ln lo L := Oc.kp.kp (a := nn) ((Kp.refl nn Hc).upd) n10.symm n8.symm n9.symm
            refine told_go (Oc.dk.upd n1 n5) upd_same hKd O.nd (hp2.symm.trans O.pm) (by omega) fun t Hd L' ht Od => ⟨by show 1 ≤ sizeLine; decide, fun t2 ht2 => ?_⟩
            refine r_neOne (dp_N (same_new ht2 _ _ ht)) (dp_N upd_same) sh_N eqv_N ?_
            have Oe := Od.same (same_new (o := .lst [.non]) ht2)
            generalize upd Hd t2 (.lst [.non]) = He at Oe ⊢
            have lL' := Oe.pm.length_eq
            walk_at "x"
            refine ⟨nn, _, rfl, .inl (SqL.of Oe.hn), rfl, flat_ints _, ?_⟩
            by_cases c : m ∈ L2.eraseIdx j
            · rw [if_pos rfl, inV_mem c]
              walk_at "x"
              exact fin _ _ _ _ _ Oe (by omega) (by omega)
            · rw [if_pos rfl, inV_not (not_ofN c)]
              walk_at "x"
              refine told_no Oe.kp (fun h => c (Oe.pm.mem_iff.mpr h)) (by omega) fun t3 Hf sf ht3 => ⟨by show 2 ≤ sizeLine; decide, fun t4 ht4 => ?_⟩
              have s4 := same_new (o := .tup [V.str "factor", V.int (m : Int)]) ht4
              refine r_neOne (dp_F (s4 _ _ ht3)) (dp_F upd_same) (sh_F _) (eqv_F _) ?_
              walk_at "x"
              exact fin _ _ _ _ _ ((Oe.same sf).same s4) (by omega) (by omega)
          · refine use_small (Kp.refl _ _) O9.dk (by omega) fun m Ha ka _ da m1 m2 => ?_
            have Oa := O9.kpd ka da
            refine ⟨.inl ⟨rfl, _, SqL.of Oa.hn⟩, r_app Oa.hn (size_le (by rw [List.length_map, ofN_len]; omega)) ?_⟩
            have eL : (ofN L2).map V.int ++ [V.int (m : Int)] = (ofN (L2 ++ [m])).map V.int := by simp [ofN]
            rw [eL]
            have hKb : KP K (upd Ha nn (.lst ((ofN (L2 ++ [m])).map V.int))) y ln lo L := Oa.kp.kp (a := nn) ((Kp.refl nn Ha).upd) n10.symm n8.symm n9.symm
            refine told_come (Oa.dk.upd n1 n5) upd_same hKb O.nd (Oa.pm.append_right [m]) m1 m2 (by omega) fun t Hb ht Ob => ⟨by show 1 ≤ sizeLine; decide, fun t2 ht2 => ?_⟩
            refine r_neOne (dp_N (same_new ht2 _ _ ht)) (dp_N upd_same) sh_N eqv_N ?_
            walk_at "x"
            exact fin _ _ _ _ _ (Ob.same (same_new ht2)) (by omega) (by simp; omega)
      · rintro σ H' ⟨v5, n', L', L2', rfl, O', hn', hl'⟩
        walk_at "x"
        refine use_next (Kp.refl _ _) O'.dk (by omega) (by omega) (by omega) fun r0 H9 k9 _ d9 _ _ => ⟨rfl, ?_⟩
        have O9 := O'.kpd k9 d9
        refine ite2 (fun hc => ?_) (fun hc => hN _ _ ⟨_, _, _, _, rfl, O9.mono (by omega), hl'⟩)
        refine ⟨d, l, nn, y, ln, lo, _, L', L2', rfl, O9, by omega, by omega, fun H10 O10 => ?_⟩
        walk_at "x"
        exact hN _ _ ⟨_, _, _, _, rfl, O10.mono (by omega), hl'⟩
    · rintro σ H7 ⟨v4, v5, L, L2, rfl, O, hlen2⟩
      walk_at "x"
      have hr1 : r1.toNat ≤ 30 := by omega
      refine ⟨d, l, nn, y, ln, lo, _, L, L2, rfl, O.mono (m := 4000) (by omega), by omega, by omega, fun H8 O8 => ?_⟩
      walk_at "x"
      refine ⟨d, l, nn, y, ln, lo, _, L, L2, rfl, O8, by omega, by omega, fun H9 O9 => ?_⟩
      walk_at "x"
      refine use_small (Kp.refl _ _) O9.dk (by omega) fun m Ha ka _ da m1 m2 => ?_
      have Oa := O9.kpd ka da
      have lL := O.pm.length_eq
      refine ⟨.inl ⟨rfl, _, SqL.of Oa.hn⟩, nn, ofN L2, (m : Int), rfl, rfl, SqL.of Oa.hn, ?_⟩
      rw [count_ofN]
      have hK1 := Oa.kp
      refine ⟨y, ln, lo, 0, m, L, rfl, hK1, by omega, .inr (.inl ⟨m, rfl, rfl, m1, m2, fun t Hb kb hKb ht => ⟨by show 1 ≤ sizeLine; decide, fun t2 ht2 => ?_⟩⟩)⟩
      refine r_neOne (dp_N (same_new ht2 _ _ ht)) (dp_N upd_same) sh_N eqv_N ?_
      have hKc := hKb.same (same_new (o := .lst [.non]) ht2)
      generalize upd Hb t2 (.lst [.non]) = Hc at hKc ⊢
      walk_at "x"
      refine ⟨y, ln, lo, 0, m, L ++ [m], rfl, hKc, by simp; omega, .inr (.inl ⟨m, rfl, rfl, m1, m2, fun t3 Hd kd hKd ht3 => ⟨by show 1 ≤ sizeLine; decide, fun t4 ht4 => ?_⟩⟩)⟩
      refine r_neOne (dp_N (same_new ht4 _ _ ht3)) (dp_N upd_same) sh_N eqv_N ?_
      have hKe := hKd.same (same_new (o := .lst [.non]) ht4)
      generalize upd Hd t4 (.lst [.non]) = He at hKe ⊢
      walk_at "x"
      have hcl : L2.count m ≤ L2.length := List.count_le_length
      have hc0 : (L ++ [m] ++ [m]).count m = L2.count m + 2 := by
        rw [List.count_append, List.count_append, O.pm.count_eq]
        simp
      rw [show (((L2.count m : Nat) : Int) + 2).toNat = L2.count m + 2 by omega]
      refine ⟨by omega, by omega, for_r (fun i σ H' => ∃ (v7 : Option V) (L' : List Nat), σ = [some (.ref a), some (.ref d), some (.ref y), some (.ref nn), v4, some (.int (m : Int)), some (.int ((L2.count m : Nat) : Int)), v7] ∧ KP K H' y ln lo L' ∧ L'.count m + i = L2.count m + 2 ∧ L'.length ≤ 100) ⟨_, _, rfl, hKe, by omega, by simp; omega⟩ ?_ ?_⟩
      · rintro i σ H' hi ⟨v7, L', rfl, hKf, hcn, hll⟩ N hN
        walk_at "x"
        refine ⟨hKf.ob.isO (by decide +kernel) (by decide +kernel), y, ln, lo, L', rfl, hKf, fun t o ys Hf ht sf hyp hys hT c1 c2 => ⟨⟨t, o, _, rfl, hT, c1, c2⟩, t, ys.map V.int, .int (m : Int), rfl, rfl, .inl (.inr ⟨o, hT⟩), rfl, flat_ints _, ?_⟩⟩
        rw [countP_int, hyp.count_eq, count_ofN]
        walk_at "x"
        rw [if_neg fun z => z (by omega)]
        have hKg := hKf.same sf
        have hmem : m ∈ L' := List.count_pos_iff.mp (by omega)
        refine ⟨y, ln, lo, 1, m, L', rfl, hKg, by omega, .inr (.inr ⟨m, rfl, rfl, hmem, fun t2 H2 L2' k2 hp2 hK2 ht2 => ⟨by show 1 ≤ sizeLine; decide, fun t3 ht3 => ?_⟩⟩)⟩
        refine r_neOne (dp_N (same_new ht3 _ _ ht2)) (dp_N upd_same) sh_N eqv_N ?_
        walk_at "x"
        have hc2 := hp2.count_eq m
        have hl2 := hp2.length_eq
        rw [List.count_cons_self] at hc2
        rw [List.length_cons] at hl2
        exact hN _ _ ⟨_, L2', rfl, hK2.same (same_new ht3), by omega, by omega⟩
      · rintro σ H' ⟨v7, L', rfl, hKf, hcn, hll⟩
        walk_at "x"
        have hno : m ∉ L' := fun h => by
          have := List.count_pos_iff.mpr h
          omega
        refine told_no hKf hno (by omega) fun t Hf sf ht => ⟨by show 2 ≤ sizeLine; decide, fun t2 ht2 => ?_⟩
        have s4 := same_new (o := .tup [V.str "factor", V.int (m : Int)]) ht2
        exact r_eqOne (dp_F (s4 _ _ ht)) (dp_F upd_same) (sh_F _) (eqv_F _) (q _)
end
theorem all_mk {l : PySem.W.OpenLaw} {w : World} {K : PySem.W.Frag} {h : Heap} {mg : PySem.Str → Option Value} {fa : Addr} (X : K.In h) (G : h.Ns mainGlobals mg) (hfa : mg "law" = some (.ref fa))
    {C0 : Addr} (aC0 : PySem.W.nsIn K mainGlobals "KeptProduct" = some (some (.ref C0))) (pg0 : PySem.W.plainGet K C0 Str.empty = true) (hd0 : PySem.W.hasDictIn K C0 = true) (po0 : PySem.W.plainOver K C0 = true) (sa0 : PySem.W.findIn K (.ref C0) "__setattr__" = some (some (.builtin "object.__setattr__"))) (mk0 : PySem.W.makesIn K C0 = true) (kc0 : PySem.W.keepIn K (.ref C0) = true)
    (n0_0 : PySem.W.findIn K (.ref C0) "numbers" = some none)
    (n0_1 : PySem.W.findIn K (.ref C0) "often" = some none)
    {E0 : Addr} {xn0 xq0 : Str} {xN0 : Addr} {xb0 : List Value} {xs0 : List Str} {xu0 : List Value} {xa0 : Bool} {xc0 : Option Bool} {xd0 : Option Addr} {xm0 xo0 xp0 xr0 xt0 : Option Value}
    (ae0 : PySem.W.nsIn K mainGlobals "PowerError" = some (some (.ref E0)))
    (xl0 : K.lookup E0 = some (excClassObj xn0 xq0 E0 xN0 xb0 [.type "ValueError", .type "Exception", .type "BaseException", .type "object"] true xs0 xu0 xa0 xc0 xd0 xm0 xo0 xp0 xr0 xt0 "ValueError.__new__"))
    (es0 : PySem.W.findIn K (.ref E0) "__setattr__" = some (some (.builtin "object.__setattr__"))) (et0 : PySem.W.typeIn K (.ref E0) = some (.type "type")) (ek0 : PySem.W.keepIn K (.ref E0) = true)
    (eg0 : PySem.W.findIn K (.ref E0) "__getattribute__" = some (some (.builtin "BaseException.__getattribute__"))) (eh0 : PySem.W.findIn K (.ref E0) "__getattr__" = some none) (eb0 : PySem.W.subIn K (.ref E0) (.type "BaseException") = some true) (ed0 : PySem.W.hasDictIn K E0 = true)
    (ec0 : PySem.W.findIn K (.ref E0) "__class__" = some (some (.builtin "object.__class__"))) (em0 : PySem.W.mroIn K E0 (.type "object") = some true)
    {E1 : Addr} {xn1 xq1 : Str} {xN1 : Addr} {xb1 : List Value} {xs1 : List Str} {xu1 : List Value} {xa1 : Bool} {xc1 : Option Bool} {xd1 : Option Addr} {xm1 xo1 xp1 xr1 xt1 : Option Value}
    (ae1 : PySem.W.nsIn K mainGlobals "NoNumber" = some (some (.ref E1)))
    (xl1 : K.lookup E1 = some (excClassObj xn1 xq1 E1 xN1 xb1 [.ref E0, .type "ValueError", .type "Exception", .type "BaseException", .type "object"] true xs1 xu1 xa1 xc1 xd1 xm1 xo1 xp1 xr1 xt1 "ValueError.__new__"))
    (es1 : PySem.W.findIn K (.ref E1) "__setattr__" = some (some (.builtin "object.__setattr__"))) (et1 : PySem.W.typeIn K (.ref E1) = some (.type "type")) (ek1 : PySem.W.keepIn K (.ref E1) = true)
    (eg1 : PySem.W.findIn K (.ref E1) "__getattribute__" = some (some (.builtin "BaseException.__getattribute__"))) (eh1 : PySem.W.findIn K (.ref E1) "__getattr__" = some none) (eb1 : PySem.W.subIn K (.ref E1) (.type "BaseException") = some true) (ed1 : PySem.W.hasDictIn K E1 = true)
    (ec1 : PySem.W.findIn K (.ref E1) "__class__" = some (some (.builtin "object.__class__"))) (em1 : PySem.W.mroIn K E1 (.type "object") = some true)
    {E2 : Addr} {xn2 xq2 : Str} {xN2 : Addr} {xb2 : List Value} {xs2 : List Str} {xu2 : List Value} {xa2 : Bool} {xc2 : Option Bool} {xd2 : Option Addr} {xm2 xo2 xp2 xr2 xt2 : Option Value}
    (ae2 : PySem.W.nsIn K mainGlobals "NoFactor" = some (some (.ref E2)))
    (xl2 : K.lookup E2 = some (excClassObj xn2 xq2 E2 xN2 xb2 [.ref E0, .type "ValueError", .type "Exception", .type "BaseException", .type "object"] true xs2 xu2 xa2 xc2 xd2 xm2 xo2 xp2 xr2 xt2 "ValueError.__new__"))
    (es2 : PySem.W.findIn K (.ref E2) "__setattr__" = some (some (.builtin "object.__setattr__"))) (et2 : PySem.W.typeIn K (.ref E2) = some (.type "type")) (ek2 : PySem.W.keepIn K (.ref E2) = true)
    (eg2 : PySem.W.findIn K (.ref E2) "__getattribute__" = some (some (.builtin "BaseException.__getattribute__"))) (eh2 : PySem.W.findIn K (.ref E2) "__getattr__" = some none) (eb2 : PySem.W.subIn K (.ref E2) (.type "BaseException") = some true) (ed2 : PySem.W.hasDictIn K E2 = true)
    (ec2 : PySem.W.findIn K (.ref E2) "__class__" = some (some (.builtin "object.__class__"))) (em2 : PySem.W.mroIn K E2 (.type "object") = some true)
    {E3 : Addr} {xn3 xq3 : Str} {xN3 : Addr} {xb3 : List Value} {xs3 : List Str} {xu3 : List Value} {xa3 : Bool} {xc3 : Option Bool} {xd3 : Option Addr} {xm3 xo3 xp3 xr3 xt3 : Option Value}
    (ae3 : PySem.W.nsIn K mainGlobals "NoAsk" = some (some (.ref E3)))
    (xl3 : K.lookup E3 = some (excClassObj xn3 xq3 E3 xN3 xb3 [.ref E0, .type "ValueError", .type "Exception", .type "BaseException", .type "object"] true xs3 xu3 xa3 xc3 xd3 xm3 xo3 xp3 xr3 xt3 "ValueError.__new__"))
    (es3 : PySem.W.findIn K (.ref E3) "__setattr__" = some (some (.builtin "object.__setattr__"))) (et3 : PySem.W.typeIn K (.ref E3) = some (.type "type")) (ek3 : PySem.W.keepIn K (.ref E3) = true)
    (eg3 : PySem.W.findIn K (.ref E3) "__getattribute__" = some (some (.builtin "BaseException.__getattribute__"))) (eh3 : PySem.W.findIn K (.ref E3) "__getattr__" = some none) (eb3 : PySem.W.subIn K (.ref E3) (.type "BaseException") = some true) (ed3 : PySem.W.hasDictIn K E3 = true)
    (ec3 : PySem.W.findIn K (.ref E3) "__class__" = some (some (.builtin "object.__class__"))) (em3 : PySem.W.mroIn K E3 (.type "object") = some true)
    (en : PySem.W.specialIn K (.builtin "object.__class__") "__get__" = some (some (.builtin "getset_descriptor.__get__"))) (eu : PySem.W.takesIn K (.builtin "object.__class__") = some true)
    (br0 : PySem.W.readsIn K E0 (.type "type") = true) (bg0 : PySem.W.specialIn K (.ref E0) "__getattribute__" = some (some (.builtin "type.__getattribute__"))) (bf0 : PySem.W.findCls K (.ref E0) (.type "type") "__init__" = some (.val (.builtin "ValueError.__init__")))
    (kt2_0 : PySem.W.kitOne K (.ref E2) (.ref E3) = some false)
    (kt2_1 : PySem.W.kitOne K (.ref E2) (.ref E2) = some true)
    (kt2_2 : PySem.W.kitOne K (.ref E2) (.ref E1) = some false)
    (kt2_3 : PySem.W.kitOne K (.ref E2) (.ref E0) = some true)
    (kv2 : PySem.W.kitOne K (.ref E2) (.type "ValueError") = some true) (kx2 : PySem.W.subIn K (.ref E2) (.ref E0) = some true) (kn2 : PySem.W.findIn K (.ref E2) "number" = some none)
    {f0 : Addr} {od0 an0 : Option Addr} {sl0 : Array (Option Value)} {oc0 kV0 dc0 pm0 cd0 ct0 : Value}
    (a0 : PySem.W.findIn K (.ref E2) "__init__" = some (some (.ref f0))) (i0 : PySem.W.typeIn K (.ref f0) = some (.type "function")) (l0 : K.lookup f0 = some ⟨oc0, od0, .func (PySem.W.fnOf "__init__" "NoFactor.__init__" (defArgs s_NoFactor___init__) (defBody s_NoFactor___init__) (defScope s_NoFactor___init__) .none kV0 dc0 pm0 an0 cd0 ct0), sl0⟩) (c0 : PySem.W.codeIn K cd0 "NoFactor.__init__" = true) (k0 : PySem.W.keepIn K (.ref f0) = true)
    {f1 : Addr} {od1 an1 : Option Addr} {sl1 : Array (Option Value)} {oc1 kV1 dc1 pm1 cd1 ct1 : Value}
    (a1 : PySem.W.nsIn K mainGlobals "taken" = some (some (.ref f1))) (l1 : K.lookup f1 = some ⟨oc1, od1, .func (PySem.W.fnOf "taken" "taken" (defArgs s_taken) (defBody s_taken) (defScope s_taken) .none kV1 dc1 pm1 an1 cd1 ct1), sl1⟩) (c1 : PySem.W.codeIn K cd1 "taken" = true) (k1 : PySem.W.keepIn K (.ref f1) = true)
    {f2 : Addr} {od2 an2 : Option Addr} {sl2 : Array (Option Value)} {oc2 kV2 dc2 pm2 cd2 ct2 : Value}
    (a2 : PySem.W.nsIn K mainGlobals "primes_in" = some (some (.ref f2))) (l2 : K.lookup f2 = some ⟨oc2, od2, .func (PySem.W.fnOf "primes_in" "primes_in" (defArgs s_primes_in) (defBody s_primes_in) (defScope s_primes_in) .none kV2 dc2 pm2 an2 cd2 ct2), sl2⟩) (c2 : PySem.W.codeIn K cd2 "primes_in" = true) (k2 : PySem.W.keepIn K (.ref f2) = true)
    {f3 : Addr} {od3 an3 : Option Addr} {sl3 : Array (Option Value)} {oc3 kV3 dc3 pm3 cd3 ct3 : Value}
    (a3 : PySem.W.nsIn K mainGlobals "common_divisor" = some (some (.ref f3))) (l3 : K.lookup f3 = some ⟨oc3, od3, .func (PySem.W.fnOf "common_divisor" "common_divisor" (defArgs s_common_divisor) (defBody s_common_divisor) (defScope s_common_divisor) .none kV3 dc3 pm3 an3 cd3 ct3), sl3⟩) (c3 : PySem.W.codeIn K cd3 "common_divisor" = true) (k3 : PySem.W.keepIn K (.ref f3) = true)
    {f4 : Addr} {od4 an4 : Option Addr} {sl4 : Array (Option Value)} {oc4 kV4 dc4 pm4 cd4 ct4 : Value}
    (a4 : PySem.W.findIn K (.ref C0) "__init__" = some (some (.ref f4))) (i4 : PySem.W.isFn K (.ref f4) = true) (l4 : K.lookup f4 = some ⟨oc4, od4, .func (PySem.W.fnOf "__init__" "KeptProduct.__init__" (defArgs s_KeptProduct___init__) (defBody s_KeptProduct___init__) (defScope s_KeptProduct___init__) .none kV4 dc4 pm4 an4 cd4 ct4), sl4⟩) (c4 : PySem.W.codeIn K cd4 "KeptProduct.__init__" = true) (k4 : PySem.W.keepIn K (.ref f4) = true)
    {f5 : Addr} {od5 an5 : Option Addr} {sl5 : Array (Option Value)} {oc5 kV5 dc5 pm5 cd5 ct5 : Value}
    (a5 : PySem.W.findIn K (.ref C0) "put_primes" = some (some (.ref f5))) (i5 : PySem.W.isFn K (.ref f5) = true) (l5 : K.lookup f5 = some ⟨oc5, od5, .func (PySem.W.fnOf "put_primes" "KeptProduct.put_primes" (defArgs s_KeptProduct_put_primes) (defBody s_KeptProduct_put_primes) (defScope s_KeptProduct_put_primes) .none kV5 dc5 pm5 an5 cd5 ct5), sl5⟩) (c5 : PySem.W.codeIn K cd5 "KeptProduct.put_primes" = true) (k5 : PySem.W.keepIn K (.ref f5) = true)
    {f6 : Addr} {od6 an6 : Option Addr} {sl6 : Array (Option Value)} {oc6 kV6 dc6 pm6 cd6 ct6 : Value}
    (a6 : PySem.W.findIn K (.ref C0) "come" = some (some (.ref f6))) (i6 : PySem.W.isFn K (.ref f6) = true) (l6 : K.lookup f6 = some ⟨oc6, od6, .func (PySem.W.fnOf "come" "KeptProduct.come" (defArgs s_KeptProduct_come) (defBody s_KeptProduct_come) (defScope s_KeptProduct_come) .none kV6 dc6 pm6 an6 cd6 ct6), sl6⟩) (c6 : PySem.W.codeIn K cd6 "KeptProduct.come" = true) (k6 : PySem.W.keepIn K (.ref f6) = true)
    {f7 : Addr} {od7 an7 : Option Addr} {sl7 : Array (Option Value)} {oc7 kV7 dc7 pm7 cd7 ct7 : Value}
    (a7 : PySem.W.findIn K (.ref C0) "go" = some (some (.ref f7))) (i7 : PySem.W.isFn K (.ref f7) = true) (l7 : K.lookup f7 = some ⟨oc7, od7, .func (PySem.W.fnOf "go" "KeptProduct.go" (defArgs s_KeptProduct_go) (defBody s_KeptProduct_go) (defScope s_KeptProduct_go) .none kV7 dc7 pm7 an7 cd7 ct7), sl7⟩) (c7 : PySem.W.codeIn K cd7 "KeptProduct.go" = true) (k7 : PySem.W.keepIn K (.ref f7) = true)
    {f8 : Addr} {od8 an8 : Option Addr} {sl8 : Array (Option Value)} {oc8 kV8 dc8 pm8 cd8 ct8 : Value}
    (a8 : PySem.W.findIn K (.ref C0) "numbers_now" = some (some (.ref f8))) (i8 : PySem.W.isFn K (.ref f8) = true) (l8 : K.lookup f8 = some ⟨oc8, od8, .func (PySem.W.fnOf "numbers_now" "KeptProduct.numbers_now" (defArgs s_KeptProduct_numbers_now) (defBody s_KeptProduct_numbers_now) (defScope s_KeptProduct_numbers_now) .none kV8 dc8 pm8 an8 cd8 ct8), sl8⟩) (c8 : PySem.W.codeIn K cd8 "KeptProduct.numbers_now" = true) (k8 : PySem.W.keepIn K (.ref f8) = true)
    {f9 : Addr} {od9 an9 : Option Addr} {sl9 : Array (Option Value)} {oc9 kV9 dc9 pm9 cd9 ct9 : Value}
    (a9 : PySem.W.findIn K (.ref C0) "exponent_now" = some (some (.ref f9))) (i9 : PySem.W.isFn K (.ref f9) = true) (l9 : K.lookup f9 = some ⟨oc9, od9, .func (PySem.W.fnOf "exponent_now" "KeptProduct.exponent_now" (defArgs s_KeptProduct_exponent_now) (defBody s_KeptProduct_exponent_now) (defScope s_KeptProduct_exponent_now) .none kV9 dc9 pm9 an9 cd9 ct9), sl9⟩) (c9 : PySem.W.codeIn K cd9 "KeptProduct.exponent_now" = true) (k9 : PySem.W.keepIn K (.ref f9) = true)
    {f10 : Addr} {od10 an10 : Option Addr} {sl10 : Array (Option Value)} {oc10 kV10 dc10 pm10 cd10 ct10 : Value}
    (a10 : PySem.W.findIn K (.ref C0) "lacks_now" = some (some (.ref f10))) (i10 : PySem.W.isFn K (.ref f10) = true) (l10 : K.lookup f10 = some ⟨oc10, od10, .func (PySem.W.fnOf "lacks_now" "KeptProduct.lacks_now" (defArgs s_KeptProduct_lacks_now) (defBody s_KeptProduct_lacks_now) (defScope s_KeptProduct_lacks_now) .none kV10 dc10 pm10 an10 cd10 ct10), sl10⟩) (c10 : PySem.W.codeIn K cd10 "KeptProduct.lacks_now" = true) (k10 : PySem.W.keepIn K (.ref f10) = true)
    {f11 : Addr} {od11 an11 : Option Addr} {sl11 : Array (Option Value)} {oc11 kV11 dc11 pm11 cd11 ct11 : Value}
    (a11 : PySem.W.nsIn K mainGlobals "_law_mix" = some (some (.ref f11))) (l11 : K.lookup f11 = some ⟨oc11, od11, .func (PySem.W.fnOf "_law_mix" "_law_mix" (defArgs s__law_mix) (defBody s__law_mix) (defScope s__law_mix) .none kV11 dc11 pm11 an11 cd11 ct11), sl11⟩) (c11 : PySem.W.codeIn K cd11 "_law_mix" = true) (k11 : PySem.W.keepIn K (.ref f11) = true)
    {f12 : Addr} {od12 an12 : Option Addr} {sl12 : Array (Option Value)} {oc12 kV12 dc12 pm12 cd12 ct12 : Value}
    (a12 : PySem.W.nsIn K mainGlobals "_law_deck" = some (some (.ref f12))) (l12 : K.lookup f12 = some ⟨oc12, od12, .func (PySem.W.fnOf "_law_deck" "_law_deck" (defArgs s__law_deck) (defBody s__law_deck) (defScope s__law_deck) .none kV12 dc12 pm12 an12 cd12 ct12), sl12⟩) (c12 : PySem.W.codeIn K cd12 "_law_deck" = true) (k12 : PySem.W.keepIn K (.ref f12) = true)
    {f13 : Addr} {od13 an13 : Option Addr} {sl13 : Array (Option Value)} {oc13 kV13 dc13 pm13 cd13 ct13 : Value}
    (a13 : PySem.W.nsIn K mainGlobals "_law_next" = some (some (.ref f13))) (l13 : K.lookup f13 = some ⟨oc13, od13, .func (PySem.W.fnOf "_law_next" "_law_next" (defArgs s__law_next) (defBody s__law_next) (defScope s__law_next) .none kV13 dc13 pm13 an13 cd13 ct13), sl13⟩) (c13 : PySem.W.codeIn K cd13 "_law_next" = true) (k13 : PySem.W.keepIn K (.ref f13) = true)
    {f14 : Addr} {od14 an14 : Option Addr} {sl14 : Array (Option Value)} {oc14 kV14 dc14 pm14 cd14 ct14 : Value}
    (a14 : PySem.W.nsIn K mainGlobals "_law_small" = some (some (.ref f14))) (l14 : K.lookup f14 = some ⟨oc14, od14, .func (PySem.W.fnOf "_law_small" "_law_small" (defArgs s__law_small) (defBody s__law_small) (defScope s__law_small) .none kV14 dc14 pm14 an14 cd14 ct14), sl14⟩) (c14 : PySem.W.codeIn K cd14 "_law_small" = true) (k14 : PySem.W.keepIn K (.ref f14) = true)
    {f15 : Addr} {od15 an15 : Option Addr} {sl15 : Array (Option Value)} {oc15 kV15 dc15 pm15 cd15 ct15 : Value}
    (a15 : PySem.W.nsIn K mainGlobals "_law_primes" = some (some (.ref f15))) (l15 : K.lookup f15 = some ⟨oc15, od15, .func (PySem.W.fnOf "_law_primes" "_law_primes" (defArgs s__law_primes) (defBody s__law_primes) (defScope s__law_primes) .none kV15 dc15 pm15 an15 cd15 ct15), sl15⟩) (c15 : PySem.W.codeIn K cd15 "_law_primes" = true) (k15 : PySem.W.keepIn K (.ref f15) = true)
    {f16 : Addr} {od16 an16 : Option Addr} {sl16 : Array (Option Value)} {oc16 kV16 dc16 pm16 cd16 ct16 : Value}
    (a16 : PySem.W.nsIn K mainGlobals "_law_often" = some (some (.ref f16))) (l16 : K.lookup f16 = some ⟨oc16, od16, .func (PySem.W.fnOf "_law_often" "_law_often" (defArgs s__law_often) (defBody s__law_often) (defScope s__law_often) .none kV16 dc16 pm16 an16 cd16 ct16), sl16⟩) (c16 : PySem.W.codeIn K cd16 "_law_often" = true) (k16 : PySem.W.keepIn K (.ref f16) = true)
    {f17 : Addr} {od17 an17 : Option Addr} {sl17 : Array (Option Value)} {oc17 kV17 dc17 pm17 cd17 ct17 : Value}
    (a17 : PySem.W.nsIn K mainGlobals "_law_exponent" = some (some (.ref f17))) (l17 : K.lookup f17 = some ⟨oc17, od17, .func (PySem.W.fnOf "_law_exponent" "_law_exponent" (defArgs s__law_exponent) (defBody s__law_exponent) (defScope s__law_exponent) .none kV17 dc17 pm17 an17 cd17 ct17), sl17⟩) (c17 : PySem.W.codeIn K cd17 "_law_exponent" = true) (k17 : PySem.W.keepIn K (.ref f17) = true)
    {f18 : Addr} {od18 an18 : Option Addr} {sl18 : Array (Option Value)} {oc18 kV18 dc18 pm18 cd18 ct18 : Value}
    (a18 : PySem.W.nsIn K mainGlobals "_law_lacks" = some (some (.ref f18))) (l18 : K.lookup f18 = some ⟨oc18, od18, .func (PySem.W.fnOf "_law_lacks" "_law_lacks" (defArgs s__law_lacks) (defBody s__law_lacks) (defScope s__law_lacks) .none kV18 dc18 pm18 an18 cd18 ct18), sl18⟩) (c18 : PySem.W.codeIn K cd18 "_law_lacks" = true) (k18 : PySem.W.keepIn K (.ref f18) = true)
    {f19 : Addr} {od19 an19 : Option Addr} {sl19 : Array (Option Value)} {oc19 kV19 dc19 pm19 cd19 ct19 : Value}
    (a19 : PySem.W.nsIn K mainGlobals "_law_kind" = some (some (.ref f19))) (l19 : K.lookup f19 = some ⟨oc19, od19, .func (PySem.W.fnOf "_law_kind" "_law_kind" (defArgs s__law_kind) (defBody s__law_kind) (defScope s__law_kind) .none kV19 dc19 pm19 an19 cd19 ct19), sl19⟩) (c19 : PySem.W.codeIn K cd19 "_law_kind" = true) (k19 : PySem.W.keepIn K (.ref f19) = true)
    {f20 : Addr} {od20 an20 : Option Addr} {sl20 : Array (Option Value)} {oc20 kV20 dc20 pm20 cd20 ct20 : Value}
    (a20 : PySem.W.nsIn K mainGlobals "_law_told" = some (some (.ref f20))) (l20 : K.lookup f20 = some ⟨oc20, od20, .func (PySem.W.fnOf "_law_told" "_law_told" (defArgs s__law_told) (defBody s__law_told) (defScope s__law_told) .none kV20 dc20 pm20 an20 cd20 ct20), sl20⟩) (c20 : PySem.W.codeIn K cd20 "_law_told" = true) (k20 : PySem.W.keepIn K (.ref f20) = true)
    {f21 : Addr} {od21 an21 : Option Addr} {sl21 : Array (Option Value)} {oc21 kV21 dc21 pm21 cd21 ct21 : Value}
    (a21 : PySem.W.nsIn K mainGlobals "_law_state" = some (some (.ref f21))) (l21 : K.lookup f21 = some ⟨oc21, od21, .func (PySem.W.fnOf "_law_state" "_law_state" (defArgs s__law_state) (defBody s__law_state) (defScope s__law_state) .none kV21 dc21 pm21 an21 cd21 ct21), sl21⟩) (c21 : PySem.W.codeIn K cd21 "_law_state" = true) (k21 : PySem.W.keepIn K (.ref f21) = true)
    {f22 : Addr} {od22 an22 : Option Addr} {sl22 : Array (Option Value)} {oc22 kV22 dc22 pm22 cd22 ct22 : Value}
    (a22 : PySem.W.nsIn K mainGlobals "_law_bad_right" = some (some (.ref f22))) (l22 : K.lookup f22 = some ⟨oc22, od22, .func (PySem.W.fnOf "_law_bad_right" "_law_bad_right" (defArgs s__law_bad_right) (defBody s__law_bad_right) (defScope s__law_bad_right) .none kV22 dc22 pm22 an22 cd22 ct22), sl22⟩) (c22 : PySem.W.codeIn K cd22 "_law_bad_right" = true) (k22 : PySem.W.keepIn K (.ref f22) = true)
    {f23 : Addr} {od23 an23 : Option Addr} {sl23 : Array (Option Value)} {oc23 kV23 dc23 pm23 cd23 ct23 : Value}
    (a23 : PySem.W.nsIn K mainGlobals "law" = some (some (.ref f23))) (l23 : K.lookup f23 = some ⟨oc23, od23, .func (PySem.W.fnOf "law" "law" (defArgs s_law) (defBody s_law) (defScope s_law) .none kV23 dc23 pm23 an23 cd23 ct23), sl23⟩) (c23 : PySem.W.codeIn K cd23 "law" = true) (k23 : PySem.W.keepIn K (.ref f23) = true)
    (z_range : PySem.W.nsIn K mainGlobals "range" = some none)
    (z_len : PySem.W.nsIn K mainGlobals "len" = some none)
    (z_sum : PySem.W.nsIn K mainGlobals "sum" = some none)
    (z_min : PySem.W.nsIn K mainGlobals "min" = some none)
    (z_max : PySem.W.nsIn K mainGlobals "max" = some none)
    (z_abs : PySem.W.nsIn K mainGlobals "abs" = some none)
    (z_sorted : PySem.W.nsIn K mainGlobals "sorted" = some none)
    (z_isinstance : PySem.W.nsIn K mainGlobals "isinstance" = some none)
    (z_enumerate : PySem.W.nsIn K mainGlobals "enumerate" = some none)
    (z_zip : PySem.W.nsIn K mainGlobals "zip" = some none)
    (z_int : PySem.W.nsIn K mainGlobals "int" = some none)
    (z_bool : PySem.W.nsIn K mainGlobals "bool" = some none)
    (z_str : PySem.W.nsIn K mainGlobals "str" = some none)
    (z_list : PySem.W.nsIn K mainGlobals "list" = some none)
    (z_tuple : PySem.W.nsIn K mainGlobals "tuple" = some none)
    (z_dict : PySem.W.nsIn K mainGlobals "dict" = some none)
    (z_set : PySem.W.nsIn K mainGlobals "set" = some none)
    (z_ValueError : PySem.W.nsIn K mainGlobals "ValueError" = some none)
    : ∃ fd : FuncData, (∀ (s : Shared) (v : Value), BindsTo s fd ⟨[v], []⟩ [("script", v)]) ∧ ∀ base : Heap, K.In base → base.Ns mainGlobals mg → FnOk l.prog w K mg base CX0 6 fa fd ["script"] (sp_law K) := by
  have e := hfa.symm.trans (PySem.W.mg_of X G a23)
  cases e
  have B : Bt mg := ⟨PySem.W.mg_none_of X G z_range, PySem.W.mg_none_of X G z_len, PySem.W.mg_none_of X G z_sum, PySem.W.mg_none_of X G z_min, PySem.W.mg_none_of X G z_max, PySem.W.mg_none_of X G z_abs, PySem.W.mg_none_of X G z_sorted, PySem.W.mg_none_of X G z_isinstance, PySem.W.mg_none_of X G z_enumerate, PySem.W.mg_none_of X G z_zip, PySem.W.mg_none_of X G z_int, PySem.W.mg_none_of X G z_bool, PySem.W.mg_none_of X G z_str, PySem.W.mg_none_of X G z_list, PySem.W.mg_none_of X G z_tuple, PySem.W.mg_none_of X G z_dict, PySem.W.mg_none_of X G z_set, PySem.W.mg_none_of X G z_ValueError⟩
  have kcl0 : KCl K "KeptProduct" ["numbers", "often"] C0 := ⟨aC0, ⟨pg0, hd0, po0, sa0⟩, fun a ha => by
    simp only [List.mem_cons, List.not_mem_nil, or_false] at ha
    rcases ha with rfl | rfl
    · exact n0_0
    · exact n0_1⟩
  refine ⟨PySem.W.fnOf "law" "law" (defArgs s_law) (defBody s_law) (defScope s_law) .none kV23 dc23 pm23 an23 cd23 ct23, fun s v => .of_eq rfl, fun base _ _ => ?_⟩
  have ce0 : clA K "PowerError" = E0 := by
    unfold clA
    rw [ae0]
  have g_EC_PowerError : EC K mg "PowerError" := by
    constructor
    · rw [ce0]
      exact PySem.W.mg_of X G ae0
    · rw [ce0]
      exact ⟨⟨_, _, _, _, _, _, _, _, _, _, _, _, _, _, _, xl0, by show PySem.HandSPX.refsVE [.type "ValueError", .type "Exception", .type "BaseException", .type "object"] = true; decide +kernel⟩, es0, eb0, et0, ek0⟩
    · rw [ce0]
      exact ⟨eg0, eh0, eb0, ed0, ec0, en, eu, em0⟩
  have ce1 : clA K "NoNumber" = E1 := by
    unfold clA
    rw [ae1]
  have g_EC_NoNumber : EC K mg "NoNumber" := by
    constructor
    · rw [ce1]
      exact PySem.W.mg_of X G ae1
    · rw [ce1]
      exact ⟨⟨_, _, _, _, _, _, _, _, _, _, _, _, _, _, _, xl1, by show PySem.HandSPX.refsVE [.type "ValueError", .type "Exception", .type "BaseException", .type "object"] = true; decide +kernel⟩, es1, eb1, et1, ek1⟩
    · rw [ce1]
      exact ⟨eg1, eh1, eb1, ed1, ec1, en, eu, em1⟩
  have ce2 : clA K "NoFactor" = E2 := by
    unfold clA
    rw [ae2]
  have g_EC_NoFactor : EC K mg "NoFactor" := by
    constructor
    · rw [ce2]
      exact PySem.W.mg_of X G ae2
    · rw [ce2]
      exact ⟨⟨_, _, _, _, _, _, _, _, _, _, _, _, _, _, _, xl2, by show PySem.HandSPX.refsVE [.type "ValueError", .type "Exception", .type "BaseException", .type "object"] = true; decide +kernel⟩, es2, eb2, et2, ek2⟩
    · rw [ce2]
      exact ⟨eg2, eh2, eb2, ed2, ec2, en, eu, em2⟩
  have ce3 : clA K "NoAsk" = E3 := by
    unfold clA
    rw [ae3]
  have g_EC_NoAsk : EC K mg "NoAsk" := by
    constructor
    · rw [ce3]
      exact PySem.W.mg_of X G ae3
    · rw [ce3]
      exact ⟨⟨_, _, _, _, _, _, _, _, _, _, _, _, _, _, _, xl3, by show PySem.HandSPX.refsVE [.type "ValueError", .type "Exception", .type "BaseException", .type "object"] = true; decide +kernel⟩, es3, eb3, et3, ek3⟩
    · rw [ce3]
      exact ⟨eg3, eh3, eb3, ed3, ec3, en, eu, em3⟩
  have g_BI_PowerError : BI K mg "PowerError" := ⟨by rw [ce0]; exact PySem.W.mg_of X G ae0, by rw [ce0]; exact br0, by rw [ce0]; exact bg0, by rw [ce0]; exact bf0⟩
  have g_ET_NoFactor : ET K "NoFactor" "number" [("NoAsk", false), ("NoFactor", true), ("NoNumber", false), ("PowerError", true)] := by
    refine ⟨fun p hp => ?_, by rw [ce2]; exact kv2, by rw [ce2, ce0]; exact PySem.W.exm_ref eb0 ed0 et0 kx2, by rw [ce2]; exact kn2⟩
    simp only [List.mem_cons, List.not_mem_nil, or_false] at hp
    rcases hp with rfl | rfl | rfl | rfl
    · rw [ce2, ce3]
      exact kt2_0
    · rw [ce2]
      exact kt2_1
    · rw [ce2, ce1]
      exact kt2_2
    · rw [ce2, ce0]
      exact kt2_3
  have F0 := fun_mk (st := s_NoFactor___init__) l0 c0 k0
  have h_NoFactor___init__ : FnE l.prog w K mg base 1 "NoFactor" ["self", "number"] (sp_NoFactor___init__ K) := ⟨g_EC_NoFactor, _, _, by rw [ce2]; exact a0, i0, bi_NoFactor___init__ F0, ok_NoFactor___init__ F0 B g_BI_PowerError g_EC_NoFactor g_ET_NoFactor⟩
  have F1 := fun_mk (st := s_taken) l1 c1 k1
  have h_taken : Fn l.prog w K mg base CX0 1 "taken" ["base", "exponent"] (sp_taken K) := ⟨_, _, PySem.W.mg_of X G a1, k1, bi_taken F1, ok_taken F1 B⟩
  have F2 := fun_mk (st := s_primes_in) l2 c2 k2
  have h_primes_in : Fn l.prog w K mg base CX0 1 "primes_in" ["number"] (sp_primes_in K) := ⟨_, _, PySem.W.mg_of X G a2, k2, bi_primes_in F2, ok_primes_in F2 B⟩
  have F3 := fun_mk (st := s_common_divisor) l3 c3 k3
  have h_common_divisor : Fn l.prog w K mg base CX0 1 "common_divisor" ["one", "other"] (sp_common_divisor K) := ⟨_, _, PySem.W.mg_of X G a3, k3, bi_common_divisor F3, ok_common_divisor F3 B⟩
  have F4 := fun_mk (st := s_KeptProduct___init__) l4 c4 k4
  have h_KeptProduct___init__ : FnK l.prog w K mg base CX0 1 "KeptProduct" ["numbers", "often"] ["self"] (sp_KeptProduct___init__ K) := ⟨_, _, _, kcl0, ⟨mk0, a4, i4, kc0⟩, PySem.W.mg_of X G aC0, bi_KeptProduct___init__ F4, ok_KeptProduct___init__ F4 B⟩
  have F5 := fun_mk (st := s_KeptProduct_put_primes) l5 c5 k5
  have h_KeptProduct_put_primes : FnM l.prog w K mg base CX0 2 "KeptProduct" ["numbers", "often"] "put_primes" ["self", "number", "sign"] (sp_KeptProduct_put_primes K) := ⟨_, _, _, kcl0, ⟨a5, i5, k5⟩, bi_KeptProduct_put_primes F5, ok_KeptProduct_put_primes F5 B h_primes_in⟩
  have F6 := fun_mk (st := s_KeptProduct_come) l6 c6 k6
  have h_KeptProduct_come : FnM l.prog w K mg base (L2.CX l.prog w) 3 "KeptProduct" ["numbers", "often"] "come" ["self", "number"] (sp_KeptProduct_come K) := ⟨_, _, _, kcl0, ⟨a6, i6, k6⟩, bi_KeptProduct_come F6, ok_KeptProduct_come F6 B h_KeptProduct_put_primes h_NoFactor___init__⟩
  have F7 := fun_mk (st := s_KeptProduct_go) l7 c7 k7
  have h_KeptProduct_go : FnM l.prog w K mg base (L2.CX l.prog w) 3 "KeptProduct" ["numbers", "often"] "go" ["self", "number"] (sp_KeptProduct_go K) := ⟨_, _, _, kcl0, ⟨a7, i7, k7⟩, bi_KeptProduct_go F7, ok_KeptProduct_go F7 B h_KeptProduct_put_primes h_NoFactor___init__⟩
  have F8 := fun_mk (st := s_KeptProduct_numbers_now) l8 c8 k8
  have h_KeptProduct_numbers_now : FnM l.prog w K mg base CX0 1 "KeptProduct" ["numbers", "often"] "numbers_now" ["self"] (sp_KeptProduct_numbers_now K) := ⟨_, _, _, kcl0, ⟨a8, i8, k8⟩, bi_KeptProduct_numbers_now F8, ok_KeptProduct_numbers_now F8 B⟩
  have F9 := fun_mk (st := s_KeptProduct_exponent_now) l9 c9 k9
  have h_KeptProduct_exponent_now : FnM l.prog w K mg base CX0 2 "KeptProduct" ["numbers", "often"] "exponent_now" ["self"] (sp_KeptProduct_exponent_now K) := ⟨_, _, _, kcl0, ⟨a9, i9, k9⟩, bi_KeptProduct_exponent_now F9, ok_KeptProduct_exponent_now F9 B h_common_divisor⟩
  have F10 := fun_mk (st := s_KeptProduct_lacks_now) l10 c10 k10
  have h_KeptProduct_lacks_now : FnM l.prog w K mg base CX0 2 "KeptProduct" ["numbers", "often"] "lacks_now" ["self", "exponent"] (sp_KeptProduct_lacks_now K) := ⟨_, _, _, kcl0, ⟨a10, i10, k10⟩, bi_KeptProduct_lacks_now F10, ok_KeptProduct_lacks_now F10 B h_taken⟩
  have F11 := fun_mk (st := s__law_mix) l11 c11 k11
  have h__law_mix : Fn l.prog w K mg base CX0 1 "_law_mix" ["cell", "k"] (sp__law_mix K) := ⟨_, _, PySem.W.mg_of X G a11, k11, bi__law_mix F11, ok__law_mix F11 B⟩
  have F12 := fun_mk (st := s__law_deck) l12 c12 k12
  have h__law_deck : Fn l.prog w K mg base CX0 1 "_law_deck" ["script"] (sp__law_deck K) := ⟨_, _, PySem.W.mg_of X G a12, k12, bi__law_deck F12, ok__law_deck F12 B⟩
  have F13 := fun_mk (st := s__law_next) l13 c13 k13
  have h__law_next : Fn l.prog w K mg base CX0 2 "_law_next" ["deck", "many"] (sp__law_next K) := ⟨_, _, PySem.W.mg_of X G a13, k13, bi__law_next F13, ok__law_next F13 B h__law_mix⟩
  have F14 := fun_mk (st := s__law_small) l14 c14 k14
  have h__law_small : Fn l.prog w K mg base CX0 3 "_law_small" ["deck"] (sp__law_small K) := ⟨_, _, PySem.W.mg_of X G a14, k14, bi__law_small F14, ok__law_small F14 B h__law_next⟩
  have F15 := fun_mk (st := s__law_primes) l15 c15 k15
  have h__law_primes : Fn l.prog w K mg base CX0 1 "_law_primes" ["number"] (sp__law_primes K) := ⟨_, _, PySem.W.mg_of X G a15, k15, bi__law_primes F15, ok__law_primes F15 B⟩
  have F16 := fun_mk (st := s__law_often) l16 c16 k16
  have h__law_often : Fn l.prog w K mg base CX0 2 "_law_often" ["numbers"] (sp__law_often K) := ⟨_, _, PySem.W.mg_of X G a16, k16, bi__law_often F16, ok__law_often F16 B h__law_primes⟩
  have F17 := fun_mk (st := s__law_exponent) l17 c17 k17
  have h__law_exponent : Fn l.prog w K mg base CX0 1 "_law_exponent" ["often"] (sp__law_exponent K) := ⟨_, _, PySem.W.mg_of X G a17, k17, bi__law_exponent F17, ok__law_exponent F17 B⟩
  have F18 := fun_mk (st := s__law_lacks) l18 c18 k18
  have h__law_lacks : Fn l.prog w K mg base CX0 1 "_law_lacks" ["often", "exponent"] (sp__law_lacks K) := ⟨_, _, PySem.W.mg_of X G a18, k18, bi__law_lacks F18, ok__law_lacks F18 B⟩
  have F19 := fun_mk (st := s__law_kind) l19 c19 k19
  have h__law_kind : Fn l.prog w K mg base CX0 1 "_law_kind" ["caught"] (sp__law_kind K) := ⟨_, _, PySem.W.mg_of X G a19, k19, bi__law_kind F19, ok__law_kind F19 B g_EC_NoAsk g_EC_NoFactor g_EC_NoNumber g_EC_PowerError g_ET_NoFactor⟩
  have F20 := fun_mk (st := s__law_told) l20 c20 k20
  have h__law_told : Fn l.prog w K mg base CX0 4 "_law_told" ["way", "kept", "number"] (sp__law_told K) := ⟨_, _, PySem.W.mg_of X G a20, k20, bi__law_told F20, ok__law_told F20 B g_EC_PowerError g_ET_NoFactor h__law_kind h_KeptProduct_come h_KeptProduct_go⟩
  have F21 := fun_mk (st := s__law_state) l21 c21 k21
  have h__law_state : Fn l.prog w K mg base CX0 3 "_law_state" ["kept"] (sp__law_state K) := ⟨_, _, PySem.W.mg_of X G a21, k21, bi__law_state F21, ok__law_state F21 B h_KeptProduct_numbers_now h_KeptProduct_exponent_now h_KeptProduct_lacks_now⟩
  have F22 := fun_mk (st := s__law_bad_right) l22 c22 k22
  have h__law_bad_right : Fn l.prog w K mg base CX0 5 "_law_bad_right" ["deck", "kept", "numbers"] (sp__law_bad_right K) := ⟨_, _, PySem.W.mg_of X G a22, k22, bi__law_bad_right F22, ok__law_bad_right F22 B h__law_next h__law_often h__law_exponent h__law_lacks h__law_told h__law_state⟩
  exact ok_law (fun_mk (st := s_law) l23 c23 k23) B h__law_deck h_KeptProduct___init__ h__law_small h__law_next h__law_told h__law_bad_right h_KeptProduct_numbers_now
end Pn
open PySem PySem.W PyProof.Rows
set_option maxHeartbeats 0 in
theorem PySem.Challenge.cw_powernumbers_k26_factors_refused_holds : PySem.Challenge.rw_powernumbers_k26_factors_refused.Holds := by
  w_on; o_law; k_head; (case hw => w_witness2)
  k_fill
  refine L2.walk_of (l := PySem.Challenge.rw_powernumbers_k26_factors_refused) (n := 63) (k := 6) (x := "script") (CX := fun _ => L2.CX0) (sp := fun w => Pn.sp_law _) rfl (by decide) rfl ⟨rfl, by decide, by decide⟩ (fun w h Y => PySem.W.kIn_of Y) ?F (fun _ _ a ns hl _ hS => ⟨a, ns, rfl, hS, hl, fun _ => rfl⟩) (fun _ _ _ _ _ h => h)
  case F =>
    intro w mg fa h KX G hmg
    refine' Pn.all_mk KX G hmg ?aC0 ?pg0 ?hd0 ?po0 ?sa0 ?mk0 ?kc0 ?n0_0 ?n0_1 ?ae0 ?xl0 ?es0 ?et0 ?ek0 ?eg0 ?eh0 ?eb0 ?ed0 ?ec0 ?em0 ?ae1 ?xl1 ?es1 ?et1 ?ek1 ?eg1 ?eh1 ?eb1 ?ed1 ?ec1 ?em1 ?ae2 ?xl2 ?es2 ?et2 ?ek2 ?eg2 ?eh2 ?eb2 ?ed2 ?ec2 ?em2 ?ae3 ?xl3 ?es3 ?et3 ?ek3 ?eg3 ?eh3 ?eb3 ?ed3 ?ec3 ?em3 ?en ?eu ?br0 ?bg0 ?bf0 ?kt2_0 ?kt2_1 ?kt2_2 ?kt2_3 ?kv2 ?kx2 ?kn2 ?a0 ?i0 ?l0 ?c0 ?k0 ?a1 ?l1 ?c1 ?k1 ?a2 ?l2 ?c2 ?k2 ?a3 ?l3 ?c3 ?k3 ?a4 ?i4 ?l4 ?c4 ?k4 ?a5 ?i5 ?l5 ?c5 ?k5 ?a6 ?i6 ?l6 ?c6 ?k6 ?a7 ?i7 ?l7 ?c7 ?k7 ?a8 ?i8 ?l8 ?c8 ?k8 ?a9 ?i9 ?l9 ?c9 ?k9 ?a10 ?i10 ?l10 ?c10 ?k10 ?a11 ?l11 ?c11 ?k11 ?a12 ?l12 ?c12 ?k12 ?a13 ?l13 ?c13 ?k13 ?a14 ?l14 ?c14 ?k14 ?a15 ?l15 ?c15 ?k15 ?a16 ?l16 ?c16 ?k16 ?a17 ?l17 ?c17 ?k17 ?a18 ?l18 ?c18 ?k18 ?a19 ?l19 ?c19 ?k19 ?a20 ?l20 ?c20 ?k20 ?a21 ?l21 ?c21 ?k21 ?a22 ?l22 ?c22 ?k22 ?a23 ?l23 ?c23 ?k23 ?z_range ?z_len ?z_sum ?z_min ?z_max ?z_abs ?z_sorted ?z_isinstance ?z_enumerate ?z_zip ?z_int ?z_bool ?z_str ?z_list ?z_tuple ?z_dict ?z_set ?z_ValueError
    (case aC0 => k_is)
    (case pg0 => k_is)
    (case hd0 => k_is)
    (case po0 => k_is)
    (case sa0 => k_is)
    (case mk0 => k_is)
    (case kc0 => k_is)
    (case n0_0 => k_is)
    (case n0_1 => k_is)
    (case ae0 => k_is)
    (case xl0 => k_is)
    (case es0 => k_is)
    (case et0 => k_is)
    (case ek0 => k_is)
    (case eg0 => k_is)
    (case eh0 => k_is)
    (case eb0 => k_is)
    (case ed0 => k_is)
    (case ec0 => k_is)
    (case em0 => k_is)
    (case ae1 => k_is)
    (case xl1 => k_is)
    (case es1 => k_is)
    (case et1 => k_is)
    (case ek1 => k_is)
    (case eg1 => k_is)
    (case eh1 => k_is)
    (case eb1 => k_is)
    (case ed1 => k_is)
    (case ec1 => k_is)
    (case em1 => k_is)
    (case ae2 => k_is)
    (case xl2 => k_is)
    (case es2 => k_is)
    (case et2 => k_is)
    (case ek2 => k_is)
    (case eg2 => k_is)
    (case eh2 => k_is)
    (case eb2 => k_is)
    (case ed2 => k_is)
    (case ec2 => k_is)
    (case em2 => k_is)
    (case ae3 => k_is)
    (case xl3 => k_is)
    (case es3 => k_is)
    (case et3 => k_is)
    (case ek3 => k_is)
    (case eg3 => k_is)
    (case eh3 => k_is)
    (case eb3 => k_is)
    (case ed3 => k_is)
    (case ec3 => k_is)
    (case em3 => k_is)
    (case en => k_is)
    (case eu => k_is)
    (case br0 => k_is)
    (case bg0 => k_is)
    (case bf0 => k_is)
    (case kt2_0 => first | kit_is | k_is)
    (case kt2_1 => first | kit_is | k_is)
    (case kt2_2 => first | kit_is | k_is)
    (case kt2_3 => first | kit_is | k_is)
    (case kv2 => first | kit_is | k_is)
    (case kx2 => k_is)
    (case kn2 => k_is)
    (case a0 => k_is)
    (case i0 => k_is)
    (case l0 => k_is)
    (case c0 => k_is)
    (case k0 => k_is)
    (case a1 => k_is)
    (case l1 => k_is)
    (case c1 => k_is)
    (case k1 => k_is)
    (case a2 => k_is)
    (case l2 => k_is)
    (case c2 => k_is)
    (case k2 => k_is)
    (case a3 => k_is)
    (case l3 => k_is)
    (case c3 => k_is)
    (case k3 => k_is)
    (case a4 => k_is)
    (case i4 => k_is)
    (case l4 => k_is)
    (case c4 => k_is)
    (case k4 => k_is)
    (case a5 => k_is)
    (case i5 => k_is)
    (case l5 => k_is)
    (case c5 => k_is)
    (case k5 => k_is)
    (case a6 => k_is)
    (case i6 => k_is)
    (case l6 => k_is)
    (case c6 => k_is)
    (case k6 => k_is)
    (case a7 => k_is)
    (case i7 => k_is)
    (case l7 => k_is)
    (case c7 => k_is)
    (case k7 => k_is)
    (case a8 => k_is)
    (case i8 => k_is)
    (case l8 => k_is)
    (case c8 => k_is)
    (case k8 => k_is)
    (case a9 => k_is)
    (case i9 => k_is)
    (case l9 => k_is)
    (case c9 => k_is)
    (case k9 => k_is)
    (case a10 => k_is)
    (case i10 => k_is)
    (case l10 => k_is)
    (case c10 => k_is)
    (case k10 => k_is)
    (case a11 => k_is)
    (case l11 => k_is)
    (case c11 => k_is)
    (case k11 => k_is)
    (case a12 => k_is)
    (case l12 => k_is)
    (case c12 => k_is)
    (case k12 => k_is)
    (case a13 => k_is)
    (case l13 => k_is)
    (case c13 => k_is)
    (case k13 => k_is)
    (case a14 => k_is)
    (case l14 => k_is)
    (case c14 => k_is)
    (case k14 => k_is)
    (case a15 => k_is)
    (case l15 => k_is)
    (case c15 => k_is)
    (case k15 => k_is)
    (case a16 => k_is)
    (case l16 => k_is)
    (case c16 => k_is)
    (case k16 => k_is)
    (case a17 => k_is)
    (case l17 => k_is)
    (case c17 => k_is)
    (case k17 => k_is)
    (case a18 => k_is)
    (case l18 => k_is)
    (case c18 => k_is)
    (case k18 => k_is)
    (case a19 => k_is)
    (case l19 => k_is)
    (case c19 => k_is)
    (case k19 => k_is)
    (case a20 => k_is)
    (case l20 => k_is)
    (case c20 => k_is)
    (case k20 => k_is)
    (case a21 => k_is)
    (case l21 => k_is)
    (case c21 => k_is)
    (case k21 => k_is)
    (case a22 => k_is)
    (case l22 => k_is)
    (case c22 => k_is)
    (case k22 => k_is)
    (case a23 => k_is)
    (case l23 => k_is)
    (case c23 => k_is)
    (case k23 => k_is)
    (case z_range => k_is)
    (case z_len => k_is)
    (case z_sum => k_is)
    (case z_min => k_is)
    (case z_max => k_is)
    (case z_abs => k_is)
    (case z_sorted => k_is)
    (case z_isinstance => k_is)
    (case z_enumerate => k_is)
    (case z_zip => k_is)
    (case z_int => k_is)
    (case z_bool => k_is)
    (case z_str => k_is)
    (case z_list => k_is)
    (case z_tuple => k_is)
    (case z_dict => k_is)
    (case z_set => k_is)
    (case z_ValueError => k_is)
