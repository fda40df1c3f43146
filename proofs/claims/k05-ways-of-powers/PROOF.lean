import PyProof.Rows.All
import Wide.All
import OpenK.AllK
import Wide.FinOn
import HandS.ForMost
import HandS.Wide
import HandS.IsInst
import HandS.SortInts
import HandS.TupAny
import HandS.WideBits
import HandS.Evl
import KE.KItemsList
import KE.KDictList
import HandS.Conv
import HandS.Sort
import HandS.More
import HandS.SetFor
import HandS.Style
import HandS.SortOrd
import HandS.Walk
import HandS.TryOnly
import HandS.Deep
import HandS.SortRule
import PySem.Challenge.RW_powernumbers_k05_ways_of_powers
set_option Elab.async false
set_option linter.all false
set_option maxRecDepth 100000
namespace Pn
open PySem PySem.Spec PyProof.Rows L2
/-! ### a def that stands in the module, with its promise -/
structure Fn (P : Program) (w : World) (K : PySem.W.Frag) (mg : PySem.Str → Option Value) (base : Heap) (CX : CXT) (k : Nat) (x : PySem.Str) (ps : List PySem.Str) (sp : Sp) : Prop where
  ex : ∃ (f : Addr) (fd : FuncData), mg x = some (.ref f) ∧ PySem.W.keepIn K (.ref f) = true ∧ Binds K fd ps [] ∧ FnOk P w K mg base CX k f fd ps sp
def tFn (sp : Sp) (E : XK) (t : TA) : TE := fun σ H Q => t σ H fun vs H1 => sp vs H1 Q E
section
variable {X : Cx} {CX : CXT} {k : Nat} {x : PySem.Str} {ps : List PySem.Str} {sp : Sp} {E : XK} {t : TA} {e : Expr} {es : List Expr} {p pos : Pos}
theorem pe_fnX (h : Fn X.prog X.w X.K X.mg X.base CX k x ps sp) (hr : Room k X.A) (hg : Gl X x) (hx : Passes CX X E) (ha : PA X (e :: es) t) (hdb : (x == ("__debug__" : PySem.Str)) = false := by decide)
    (he : starEach (e :: es) X.env = (false, eval e X.env) :: starEach es X.env := by rfl) (hpl : (backTo pos (starEach es X.env)).any (·.1) = false := by rfl) :
    PE X (.Call (.Name x p) (e :: es) [] pos) (tFn sp E t) := by
  obtain ⟨f, fd, hm, hk, hb, F⟩ := h.ex
  have g := pe_call (p := p) (pos := pos) F hr hg hm hk hb .nil hx ha hdb he hpl
  have e1 : tCall sp [] E t = tFn sp E t := by
    unfold tCall tFn
    simp only [List.append_nil]
  rw [← e1]
  exact g
theorem pe_fn (h : Fn X.prog X.w X.K X.mg X.base CX0 k x ps sp) (hr : Room k X.A) (hg : Gl X x) (ha : PA X (e :: es) t) (hdb : (x == ("__debug__" : PySem.Str)) = false := by decide)
    (he : starEach (e :: es) X.env = (false, eval e X.env) :: starEach es X.env := by rfl) (hpl : (backTo pos (starEach es X.env)).any (·.1) = false := by rfl) :
    PE X (.Call (.Name x p) (e :: es) [] pos) (tFn sp E0 t) := pe_fnX h hr hg pass0 ha hdb he hpl
end
/-- a promise of nothing -/
theorem ps_void {X : Cx} {st : Stmt} : PS X st (fun _ _ _ => False) := ⟨fun _ _ _ _ _ _ h => h.elim⟩
theorem fn_vac {P : Program} {w : World} {K : PySem.W.Frag} {mg : PySem.Str → Option Value} {base : Heap} {CX : CXT} {k : Nat} {f : Addr} {fd : FuncData} {ps : List PySem.Str} {sp : Sp} (h : ∀ vs H Q E, ¬ sp vs H Q E) : FnOk P w K mg base CX k f fd ps sp :=
  ⟨fun vs H Q E q => (h vs H Q E q).elim, fun _ _ _ _ _ _ _ _ _ _ _ _ _ q => (h _ _ _ _ q).elim⟩
/-! ### rules by values, the written part named (in a comprehension's block X is another one) -/
def rLen (K : PySem.W.Frag) : List V → Hp → VK → Prop := fun xs H Q => ∃ p ys, xs = [.ref p] ∧ (SqL K H p ys ∨ SqT K H p ys) ∧ Q (.int ys.length) H
def rListO (K : PySem.W.Frag) : List V → Hp → VK → Prop := fun xs H Q => ∃ p ys, xs = [.ref p] ∧ (SqL K H p ys ∨ SqT K H p ys) ∧ ∀ l, H l = none → Q (.ref l) (upd H l (.lst ys))
def rTupO (K : PySem.W.Frag) : List V → Hp → VK → Prop := fun xs H Q => ∃ p ys, xs = [.ref p] ∧ ((SqL K H p ys ∧ ∀ l, H l = none → Q (.ref l) (upd H l (.tup ys))) ∨ (SqT K H p ys ∧ Q (.ref p) H))
section
variable {X : Cx} (K : PySem.W.Frag)
theorem k_len (h : X.K = K := by rfl) : CallR X (.builtin "len") (rLen K) := by subst h; exact call_len_seq
theorem k_isi (h : X.K = K := by rfl) : CallR X (.builtin "isinstance") (rIsi K) := by subst h; exact call_isi
theorem k_sum (h : X.K = K := by rfl) (hc : X.calm = true := by rfl) : CallR X (.builtin "sum") (rSum K) := by subst h; exact cr_sum hc
theorem k_min (h : X.K = K := by rfl) (hc : X.calm = true := by rfl) : CallR X (.builtin "min") (rMin K) := by subst h; exact cr_min hc
theorem k_max (h : X.K = K := by rfl) (hc : X.calm = true := by rfl) : CallR X (.builtin "max") (rMax K) := by subst h; exact cr_max hc
theorem k_sorted (h : X.K = K := by rfl) : CallR X (.builtin "sorted") (rSortedI K) := by subst h; exact cr_sortedI
theorem k_list (h : X.K = K := by rfl) : CallR X (.type "list") (rListO K) := by subst h; exact call_list_of
theorem k_tuple (h : X.K = K := by rfl) : CallR X (.type "tuple") (rTupO K) := by subst h; exact call_tuple_of
theorem k_ixL (h : X.K = K := by rfl) : IxR X (rIxL K) := by subst h; exact ix_list
theorem k_ixT (h : X.K = K := by rfl) : IxR X (rIxT K) := by subst h; exact ix_tup
theorem k_slL (h : X.K = K := by rfl) : SlR X (rSlL K) := by subst h; exact sl_list
theorem k_eqD (h : X.K = K := by rfl) (hu : X.A.units + 64 < cLine) : OpR X (compareOp .Eq) (rEqD K) := by subst h; exact op_eqD hu
theorem k_neD (h : X.K = K := by rfl) (hu : X.A.units + 64 < cLine) : OpR X (compareOp .NotEq) (rNeD K) := by subst h; exact op_neD hu
theorem k_in (h : X.K = K := by rfl) : OpR X (compareOp .In) (rIn K false) := by subst h; exact op_in_seq
theorem k_notIn (h : X.K = K := by rfl) : OpR X (compareOp .NotIn) (rIn K true) := by subst h; exact op_notIn_seq
theorem k_catT (h : X.K = K := by rfl) : OpR X (binaryOp .Add) (rCatA K) := by subst h; exact op_catA
def tTru (K : PySem.W.Frag) (ta : TE) : TT := fun σ H Q => ta σ H fun x H' => ∃ k, TruV K x H' k ∧ Q k H'
theorem pt_tru {a : Expr} {ta : TE} (ha : PE X a ta) (he : ∀ whole, isTrue a X.env whole = (do let v ← whole; standAt a.pos; holding [v] (truthy v)) := by intro _; rfl) (h : X.K = K := by rfl) : PT X a (tTru K ta) := by subst h; exact pt_truth ha he
end
/-! ### readings, applied -/
section
variable {σ : L2.St} {H : Hp} {Q : VK} {QT : Bool → Hp → Prop} {QA : List V → Hp → Prop} {K : PySem.W.Frag} {ta tb te : TE} {t u : TT} {tr : TA} {D : Ends} {s1 s2 : TS} {x y v : V}
theorem w_var {i : Nat} : tVar i σ H Q = ∃ v, σ[i]? = some (some v) ∧ Q v H := rfl
theorem w_c : tC v σ H Q = Q v H := rfl
theorem w_op {r : R2} : tOp r ta tb σ H Q = ta σ H fun x H1 => tb σ H1 fun y H2 => r x y H2 Q := rfl
theorem w_I0 {g : Int → Int → V} : rI0 g x y H Q = ∃ i j, x = .int i ∧ y = .int j ∧ Q (g i j) H := rfl
theorem w_I {C : Int → Int → Prop} {g : Int → Int → V} : rI C g x y H Q = ∃ i j, x = .int i ∧ y = .int j ∧ C i j ∧ Q (g i j) H := rfl
theorem w_un {r : V → Hp → VK → Prop} : tUn r ta σ H Q = ta σ H fun x H1 => r x H1 Q := rfl
theorem w_U {g : Int → V} : rU g x H Q = ∃ i, x = .int i ∧ Q (g i) H := rfl
theorem w_eq : rEq x y H Q = (scal x y = true ∧ Q (.bl (decide (x = y))) H) := rfl
theorem w_ne : rNe x y H Q = (scal x y = true ∧ Q (.bl (!decide (x = y))) H) := rfl
theorem w_test : tTest ta σ H QT = ta σ H fun x H1 => ∃ k, x = .bl k ∧ QT k H1 := rfl
theorem w_B : tB ta σ H QT = ta σ H fun x H1 => ∃ k, x = .bl k ∧ QT k H1 := rfl
theorem w_and : tAnd t u σ H QT = t σ H fun c H1 => if c = true then u σ H1 QT else QT false H1 := rfl
theorem w_or : tOr t u σ H QT = t σ H fun c H1 => if c = true then QT true H1 else u σ H1 QT := rfl
theorem w_not : tNot t σ H QT = t σ H fun c H1 => QT (!c) H1 := rfl
theorem w_andV : tAndV ta tb σ H Q = ta σ H fun x H1 => ∃ c, x = .bl c ∧ if c = true then tb σ H1 Q else Q (.bl false) H1 := rfl
theorem w_orV : tOrV ta tb σ H Q = ta σ H fun x H1 => ∃ c, x = .bl c ∧ if c = true then Q (.bl true) H1 else tb σ H1 Q := rfl
theorem w_notV : tNotV ta σ H Q = ta σ H fun x H1 => ∃ c, x = .bl c ∧ Q (.bl (!c)) H1 := rfl
theorem w_ife : tIf t ta tb σ H Q = t σ H fun c H1 => if c = true then ta σ H1 Q else tb σ H1 Q := rfl
theorem w_nil : tNil σ H QA = QA [] H := rfl
theorem w_cons : tCons ta tr σ H QA = ta σ H fun x H1 => tr σ H1 fun xs H2 => QA (x :: xs) H2 := rfl
theorem w_fn {sp : Sp} {E : XK} : tFn sp E tr σ H Q = tr σ H fun vs H1 => sp vs H1 Q E := rfl
theorem w_cb {r : List V → Hp → VK → Prop} : tCB r tr σ H Q = tr σ H fun vs H1 => r vs H1 Q := rfl
theorem w_tup : tTup tr σ H Q = tr σ H fun xs H1 => xs.length ≤ sizeLine ∧ ∀ p, H1 p = none → Q (.ref p) (upd H1 p (.tup xs)) := rfl
theorem w_lst : tLst tr σ H Q = tr σ H fun xs H1 => xs.length ≤ sizeLine ∧ ∀ p, H1 p = none → Q (.ref p) (upd H1 p (.lst xs)) := rfl
theorem w_seq : tSeq s1 s2 D σ H = s1 { D with nx := s2 D } σ H := rfl
theorem w_next : tNext D σ H = D.nx σ H := rfl
theorem w_brk : tBreak D σ H = D.bk σ H := rfl
theorem w_ct : tCont D σ H = D.ct σ H := rfl
theorem w_drop : tDrop te D σ H = te σ H fun _ H1 => D.nx σ H1 := rfl
theorem w_ret : tRet te D σ H = te σ H D.rt := rfl
theorem w_retN : tRetN D σ H = D.rt .non H := rfl
theorem w_ifS : tIfS t s1 s2 D σ H = t σ H fun b H1 => if b = true then s1 D σ H1 else s2 D σ H1 := rfl
theorem w_asgN {i : Nat} : tAsg te (gName i) D σ H = te σ H fun x H1 => D.nx (σ.set i (some x)) H1 := rfl
theorem w_asgT {n : Nat} {t : TGs} : tAsg te (gTup K n t) D σ H = te σ H fun v H1 => ∃ a xs, v = .ref a ∧ SqT K H1 a xs ∧ xs.length = n ∧ t xs σ H1 D.nx := rfl
theorem w_asgS {to ti : TE} {ts : TSet} : tAsg te (gSub to ti ts) D σ H = te σ H fun v H1 => to σ H1 fun o H2 => ti σ H2 fun i H3 => ts o i v H3 fun H4 => D.nx σ H4 := rfl
theorem w_gName {i : Nat} {QN : L2.St → Hp → Prop} : gName i v σ H QN = QN (σ.set i (some v)) H := rfl
theorem w_gNil {vs : List V} {QN : L2.St → Hp → Prop} : gNil vs σ H QN = (vs = [] ∧ QN σ H) := rfl
theorem w_gCons {g : TG} {gs : TGs} {vs : List V} {QN : L2.St → Hp → Prop} : gCons g gs vs σ H QN = ∃ v r, vs = v :: r ∧ g v σ H fun σ' H' => gs r σ' H' QN := rfl
theorem w_par {i j : Nat} : tPar i j tr D σ H = tr σ H fun vs H1 => ∃ v w, vs = [v, w] ∧ D.nx ((σ.set i (some v)).set j (some w)) H1 := rfl
theorem w_bits : tBits te σ H Q = te σ H fun x H1 => ∃ i, x = .int i ∧ Q (.int (Builtin.Int.intBits i : Nat)) H1 := rfl
theorem w_sl {r : V → Option Int → Option Int → Hp → VK → Prop} {tl th : TO} : tSl r te tl th σ H Q = te σ H fun x H1 => tl σ H1 fun l H2 => th σ H2 fun u H3 => r x l u H3 Q := rfl
theorem w_np {QO : Option Int → Hp → Prop} : tNoPart σ H QO = QO none H := rfl
theorem w_part {QO : Option Int → Hp → Prop} : tPart te σ H QO = te σ H fun x H1 => ∃ i, x = .int i ∧ QO (some i) H1 := rfl
theorem w_bm {T : String} {r : V → List V → Hp → VK → Prop} : tBM K T r te tr σ H Q = te σ H fun x H1 => tyV K T x H1 ∧ tr σ H1 fun xs H2 => r x xs H2 Q := rfl
theorem w_bm0 {T : String} {r : V → List V → Hp → VK → Prop} : tBM0 K T r te σ H Q = te σ H fun x H1 => tyV K T x H1 ∧ r x [] H1 Q := rfl
theorem w_cxK {CX : CXT} {P : Program} {w : World} {mg : PySem.Str → Option Value} {base : Heap} {N : List PySem.Str} {qual : PySem.Str} {scope : Scope} {f : Addr} {cd : Value} {A : Around} {outer : List Env} {s : Shared} {E : XK} : (cxOf CX P w K mg base N qual scope f cd A outer s H E).K = K := rfl
theorem w_aug {i : Nat} {ti : TIp} : tAug i te ti D σ H = ∃ x, σ[i]? = some (some x) ∧ te σ H fun y H1 => ti x y H1 fun z H2 => D.nx (σ.set i (some z)) H2 := rfl
theorem w_ipI {f : Int → Int → Int} : ipI f x y H Q = ∃ i j, x = .int i ∧ y = .int j ∧ Q (.int (f i j)) H := rfl
/-! ### readings that look into the heap -/
theorem r_ixL {p : Addr} {xs : List V} {i : Int} (h : SqL K H p xs) (ha : atI xs i = some v) (q : Q v H) : rIxL K (.ref p) (.int i) H Q := ⟨p, xs, i, v, rfl, rfl, h, ha, q⟩
theorem r_ixT {p : Addr} {xs : List V} {i : Int} (h : SqT K H p xs) (ha : atI xs i = some v) (q : Q v H) : rIxT K (.ref p) (.int i) H Q := ⟨p, xs, i, v, rfl, rfl, h, ha, q⟩
theorem r_slL {p : Addr} {xs : List V} {lo hi : Option Int} (h : SqL K H p xs) (q : ∀ l, H l = none → Q (.ref l) (upd H l (.lst (cutV xs lo hi)))) : rSlL K (.ref p) lo hi H Q := ⟨p, xs, rfl, h, q⟩
theorem r_sum {p : Addr} {ns : List Int} (h : SqL K H p (ns.map V.int)) (q : Q (.int ns.sum) H) : rSum K [.ref p] H Q := ⟨p, ns, rfl, h, q⟩
theorem r_setL {p : Addr} {xs : List V} {k : Int} {j : Nat} {QH : Hp → Prop} (h : H p = some (.lst xs)) (hj : ixN xs.length k = some j) (q : QH (upd H p (.lst (xs.set j v)))) : rSetL (.ref p) (.int k) v H QH := ⟨p, xs, k, j, rfl, rfl, h, hj, q⟩
theorem r_app {p : Addr} {xs : List V} (h : H p = some (.lst xs)) (hl : xs.length < sizeLine) (q : Q .non (upd H p (.lst (xs ++ [v])))) : rAppend (.ref p) [v] H Q := ⟨p, xs, v, rfl, rfl, h, hl, q⟩
theorem r_len {p : Addr} {xs : List V} (h : SqL K H p xs) (q : Q (.int (xs.length : Int)) H) : rLen K [.ref p] H Q := ⟨p, xs, rfl, .inl h, q⟩
theorem r_lenT {p : Addr} {xs : List V} (h : SqT K H p xs) (q : Q (.int (xs.length : Int)) H) : rLen K [.ref p] H Q := ⟨p, xs, rfl, .inr h, q⟩
theorem r_listL {p : Addr} {xs : List V} (h : SqL K H p xs) (q : ∀ l, H l = none → Q (.ref l) (upd H l (.lst xs))) : rListO K [.ref p] H Q := ⟨p, xs, rfl, .inl h, q⟩
theorem r_listT {p : Addr} {xs : List V} (h : SqT K H p xs) (q : ∀ l, H l = none → Q (.ref l) (upd H l (.lst xs))) : rListO K [.ref p] H Q := ⟨p, xs, rfl, .inr h, q⟩
theorem r_tupL {p : Addr} {xs : List V} (h : SqL K H p xs) (q : ∀ l, H l = none → Q (.ref l) (upd H l (.tup xs))) : rTupO K [.ref p] H Q := ⟨p, xs, rfl, .inl ⟨h, q⟩⟩
theorem r_tupT {p : Addr} {xs : List V} (h : SqT K H p xs) (q : Q (.ref p) H) : rTupO K [.ref p] H Q := ⟨p, xs, rfl, .inr ⟨h, q⟩⟩
theorem r_min {p : Addr} {ns : List Int} (h : SqL K H p (ns.map V.int)) (h0 : 0 < ns.length) (q : ∀ m, m ∈ ns → (∀ y, y ∈ ns → m ≤ y) → Q (.int m) H) : rMin K [.ref p] H Q := ⟨p, ns, rfl, h, h0, q⟩
theorem r_max {p : Addr} {ns : List Int} (h : SqL K H p (ns.map V.int)) (h0 : 0 < ns.length) (q : ∀ m, m ∈ ns → (∀ y, y ∈ ns → y ≤ m) → Q (.int m) H) : rMax K [.ref p] H Q := ⟨p, ns, rfl, h, h0, q⟩
theorem r_sortedI {p : Addr} {ns : List Int} (h : SqL K H p (ns.map V.int)) (q : ∀ (ns' : List Int) (l : Addr), ns'.Perm ns → ns'.Pairwise (· ≤ ·) → H l = none → Q (.ref l) (upd H l (.lst (ns'.map V.int)))) : rSortedI K [.ref p] H Q := ⟨p, ns, rfl, h, q⟩
theorem r_cat {l b : Addr} {xs zs : List V} (h1 : H l = some (.lst xs)) (h2 : H b = some (.lst zs)) (hl : xs.length + zs.length ≤ sizeLine) (q : ∀ p, H p = none → Q (.ref p) (upd H p (.lst (xs ++ zs)))) : rCat (.ref l) (.ref b) H Q := ⟨l, b, xs, zs, rfl, rfl, h1, h2, hl, q⟩
theorem r_catA {a b : Addr} {xs ys : List V} (h1 : SqT K H a xs) (h2 : SqT K H b ys) (hl : xs.length + ys.length ≤ sizeLine) (q0 : xs = [] → Q (.ref b) H) (q1 : xs ≠ [] → ys = [] → Q (.ref a) H) (q2 : xs ≠ [] → ys ≠ [] → ∀ p, H p = none → Q (.ref p) (upd H p (.tup (xs ++ ys)))) : rCatA K (.ref a) (.ref b) H Q :=
  ⟨a, b, xs, ys, rfl, rfl, h1, h2, hl, q0, q1, q2⟩
theorem ty_list {p : Addr} {xs : List V} (h : SqL K H p xs) : tyV K "list" (.ref p) H := .inl ⟨rfl, xs, h⟩
/-- a statement, then the rest, with a word between -/
theorem cut_m (Mid : L2.St → Hp → Prop) (h1 : ∀ N : L2.St → Hp → Prop, (∀ σ' H', Mid σ' H' → N σ' H') → s1 { D with nx := N } σ H) (h2 : ∀ σ' H', Mid σ' H' → s2 D σ' H') : Evl.tCut s1 s2 D σ H :=
  ⟨Mid, h1 Mid fun _ _ z => z, h2⟩
/-- a while, by a word with its measure; G: a turn is wanted, N: what is wanted behind it -/
theorem while_m {c : TT} (Pv : Nat → L2.St → Hp → Prop) (m0 : Nat) (h0 : Pv m0 σ H)
    (hs : ∀ m σ H, Pv m σ H → ∀ G : L2.St → Hp → Prop, (∀ σ1 H1, (∀ N : L2.St → Hp → Prop, (∀ m' σ' H', m' < m → Pv m' σ' H' → N σ' H') → s1 { D with nx := N, ct := N, bk := D.nx } σ1 H1) → G σ1 H1) →
      c σ H fun b H1 => if b = true then G σ H1 else D.nx σ H1) : tWhile c s1 D σ H :=
  ⟨Pv, ⟨m0, h0⟩, fun m σ H p => hs m σ H p (fun σ1 H1 => ∃ N : L2.St → Hp → Prop, (∀ σ' H', N σ' H' → ∃ m', m' < m ∧ Pv m' σ' H') ∧ s1 { D with nx := N, ct := N, bk := D.nx } σ1 H1)
    fun σ1 H1 h => ⟨_, fun _ _ z => z, h (fun σ' H' => ∃ m', m' < m ∧ Pv m' σ' H') fun m' _ _ h1 h2 => ⟨m', h1, h2⟩⟩⟩
/-- the turns of a for: over a list at a, a tuple at a, lo, lo + 1, .. (n of them) -/
def FJ (J : It) (g : TG) (s1 : TS) (D : Ends) (σ : L2.St) (H : Hp) : Prop := ∃ W : Nat → Nat → L2.St → Hp → Prop, (∃ m, W 0 m σ H) ∧ ∀ i m σ H, W i m σ H →
  (J.stop i H ∧ D.nx σ H) ∨ (J.go i H ∧ ∃ N : L2.St → Hp → Prop, (∀ σ' H', N σ' H' → ∃ m', m' < m ∧ W (i + 1) m' σ' H') ∧ ∀ x H', J.yld i H x H' → g x σ H' fun σ2 H2 => s1 { D with nx := N, ct := N, bk := D.nx } σ2 H2)
theorem w_tru : tTru K te σ H QT = te σ H fun x H1 => ∃ k, TruV K x H1 k ∧ QT k H1 := rfl
theorem w_forL {g : TG} : tFor (iList K te) g s1 D σ H = te σ H fun x H1 => ∃ a, x = .ref a ∧ (∃ xs, SqL K H1 a xs) ∧ FJ (Itl K a) g s1 D σ H1 := rfl
theorem w_forT {g : TG} : tFor (iTup K te) g s1 D σ H = te σ H fun x H1 => ∃ a, x = .ref a ∧ (∃ xs, SqT K H1 a xs) ∧ FJ (Itt K a) g s1 D σ H1 := rfl
theorem w_for1 {g : TG} : tFor (iRng1 tr) g s1 D σ H = tr σ H fun vs H1 => ∃ j : Int, vs = [.int j] ∧ -(2 ^ 62) ≤ j ∧ j < 2 ^ 62 ∧ FJ (Itr 0 j.toNat) g s1 D σ H1 := rfl
theorem w_for2 {g : TG} : tFor (iRng2 tr) g s1 D σ H = tr σ H fun vs H1 => ∃ i j : Int, vs = [.int i, .int j] ∧ (-(2 ^ 62) ≤ i ∧ i < 2 ^ 62 ∧ -(2 ^ 62) ≤ j ∧ j < 2 ^ 62) ∧ FJ (Itr i (j - i).toNat) g s1 D σ H1 := rfl
theorem w_for3 {g : TG} : tFor (iRng3 tr) g s1 D σ H = tr σ H fun vs H1 => ∃ (i j c : Int) (n : Nat), vs = [.int i, .int j, .int c] ∧ RgC i j c n ∧ FJ (Itc i c n) g s1 D σ H1 := rfl
theorem for_c {lo c : Int} {n : Nat} {g : TG} (Pv : Nat → L2.St → Hp → Prop) (h0 : Pv 0 σ H)
    (hs : ∀ i σ H, i < n → Pv i σ H → ∀ N : L2.St → Hp → Prop, (∀ σ' H', Pv (i + 1) σ' H' → N σ' H') → g (.int (lo + (i : Nat) * c)) σ H fun σ2 H2 => s1 { D with nx := N, ct := N, bk := D.nx } σ2 H2) (hd : ∀ σ H, Pv n σ H → D.nx σ H) :
    FJ (Itc lo c n) g s1 D σ H := for_rangeC Pv h0 (fun i σ H hx hp => hs i σ H hx hp _ fun _ _ z => z) hd
theorem for_l {a : Addr} {xs : List V} {g : TG} (Pv : Nat → L2.St → Hp → Prop) (h0 : Pv 0 σ H) (hl : ∀ i σ H, i ≤ xs.length → Pv i σ H → SqL K H a xs)
    (hs : ∀ i x σ H, xs[i]? = some x → Pv i σ H → ∀ N : L2.St → Hp → Prop, (∀ σ' H', Pv (i + 1) σ' H' → N σ' H') → g x σ H fun σ2 H2 => s1 { D with nx := N, ct := N, bk := D.nx } σ2 H2) (hd : ∀ σ H, Pv xs.length σ H → D.nx σ H) :
    FJ (Itl K a) g s1 D σ H := for_list Pv h0 hl (fun i x σ H hx hp => hs i x σ H hx hp _ fun _ _ z => z) hd
theorem for_t {a : Addr} {xs : List V} {g : TG} (Pv : Nat → L2.St → Hp → Prop) (h0 : Pv 0 σ H) (hl : ∀ i σ H, i ≤ xs.length → Pv i σ H → SqT K H a xs)
    (hs : ∀ i x σ H, xs[i]? = some x → Pv i σ H → ∀ N : L2.St → Hp → Prop, (∀ σ' H', Pv (i + 1) σ' H' → N σ' H') → g x σ H fun σ2 H2 => s1 { D with nx := N, ct := N, bk := D.nx } σ2 H2) (hd : ∀ σ H, Pv xs.length σ H → D.nx σ H) :
    FJ (Itt K a) g s1 D σ H := for_tup Pv h0 hl (fun i x σ H hx hp => hs i x σ H hx hp _ fun _ _ z => z) hd
theorem for_r {lo : Int} {n : Nat} {g : TG} (Pv : Nat → L2.St → Hp → Prop) (h0 : Pv 0 σ H)
    (hs : ∀ i σ H, i < n → Pv i σ H → ∀ N : L2.St → Hp → Prop, (∀ σ' H', Pv (i + 1) σ' H' → N σ' H') → g (.int (lo + i)) σ H fun σ2 H2 => s1 { D with nx := N, ct := N, bk := D.nx } σ2 H2) (hd : ∀ σ H, Pv n σ H → D.nx σ H) :
    FJ (Itr lo n) g s1 D σ H := for_range Pv h0 (fun i σ H hx hp => hs i σ H hx hp _ fun _ _ z => z) hd
end
/-! ### heaps -/
theorem ne_fresh {H : Hp} {a b : Addr} {o : HO} (h' : H b = none) (h : H a = some o) : a ≠ b := ne_of_none h h'
theorem upd_free {H : Hp} {a p : Addr} {o : HO} (h : upd H a o p = none) : H p = none := by
  unfold upd at h
  split at h
  · cases h
  · exact h
theorem upd_free_ne {H : Hp} {a p : Addr} {o : HO} (h : upd H a o p = none) : p ≠ a := by
  intro e
  rw [e, upd_same] at h
  cases h
theorem same_new {H : Hp} {p : Addr} {o : HO} (h : H p = none) : Same H (upd H p o) := fun b x e => by
  rw [upd_ne (ne_of_none e h)]
  exact e
/-- all that was tracked is as it was, but what stands at a -/
def Kp (a : Addr) (H H' : Hp) : Prop := ∀ b o, b ≠ a → H b = some o → H' b = some o
theorem Kp.refl (a : Addr) (H : Hp) : Kp a H H := fun _ _ _ h => h
theorem Kp.trans {a : Addr} {H H1 H2 : Hp} (x : Kp a H H1) (y : Kp a H1 H2) : Kp a H H2 := fun b o n h => y b o n (x b o n h)
theorem sm_kp {a : Addr} {H H' : Hp} (x : Same H H') : Kp a H H' := fun b o _ h => x b o h
theorem Kp.upd {a : Addr} {H H' : Hp} {o : HO} (x : Kp a H H') : Kp a H (upd H' a o) := fun b u n h => by
  rw [upd_ne n]
  exact x b u n h
theorem Kp.new {a p : Addr} {H H' : Hp} {o : HO} (x : Kp a H H') (hp : H p = none) : Kp a H (L2.upd H' p o) := fun b u n h => by
  rw [upd_ne (ne_of_none h hp)]
  exact x b u n h
theorem Kp.free {a p : Addr} {H H' : Hp} (x : Kp a H H') (n : p ≠ a) (hp : H' p = none) : H p = none := by
  cases q : H p with
  | none => rfl
  | some o =>
    rw [x p o n q] at hp
    cases hp
theorem Kp.seq {K : PySem.W.Frag} {a : Addr} {H H' : Hp} {l : Addr} {xs : List V} (x : Kp a H H') (n : l ≠ a) (h : SqL K H l xs) : SqL K H' l xs := by
  rcases h with (h | ⟨o, h⟩) | h
  · exact .inl (.inl (x _ _ n h))
  · exact .inl (.inr ⟨o, x _ _ n h⟩)
  · exact .inr h
theorem sm_new {p : Addr} {H H' : Hp} {o : HO} (x : Same H H') (hp : H p = none) : Same H (L2.upd H' p o) := fun b u h => by
  rw [upd_ne (ne_of_none h hp)]
  exact x b u h
theorem cut_to (xs : List V) (k : Nat) : cutV xs none (some (k : Int)) = xs.take k := by
  unfold cutV
  rw [HT.sIx_none, HT.sIx_nat]
  simp only [List.drop_zero, Nat.sub_zero]
  rcases Nat.le_total k xs.length with h | h
  · rw [Nat.min_eq_left h]
  · rw [Nat.min_eq_right h, List.take_of_length_le (Nat.le_refl _), List.take_of_length_le h]
theorem cut_from (xs : List V) (k : Nat) : cutV xs (some (k : Int)) none = xs.drop k := by
  unfold cutV
  rw [HT.sIx_none, HT.sIx_nat]
  rcases Nat.le_total k xs.length with h | h
  · rw [Nat.min_eq_left h, List.take_of_length_le (by simp)]
  · rw [Nat.min_eq_right h, List.drop_eq_nil_of_le (Nat.le_refl _), List.drop_eq_nil_of_le h]
    simp
theorem atI_mem {xs : List V} {i : Int} (h0 : 0 ≤ i) (h1 : i < xs.length) : ∃ v, v ∈ xs ∧ atI xs i = some v := by
  obtain ⟨j, rfl⟩ := Int.eq_ofNat_of_zero_le h0
  have hj : j < xs.length := by omega
  exact ⟨xs[j], List.getElem_mem hj, atI_nat (List.getElem?_eq_getElem hj)⟩
theorem atI_ints {ns : List Int} {i : Int} (h0 : 0 ≤ i) (h1 : i < ns.length) : ∃ z, z ∈ ns ∧ atI (ns.map V.int) i = some (.int z) := by
  obtain ⟨j, rfl⟩ := Int.eq_ofNat_of_zero_le h0
  have hj : j < ns.length := by omega
  exact ⟨ns[j], List.getElem_mem hj, atI_nat (by rw [List.getElem?_map, List.getElem?_eq_getElem hj]; rfl)⟩
/-! ### data that is compared: ints, tuples and lists of ints, pairs of ints -/
def dI (ns : List Int) : List PyData := ns.map PyData.int
theorem canLay_ints : ∀ ns : List Int, PyData.canLayAll0 (dI ns) = true
  | [] => by simp [dI, PyData.canLayAll0]
  | n :: r => by
    have := canLay_ints r
    simp only [dI] at this ⊢
    simp [PyData.canLayAll0, PyData.canLay0, this]
theorem depth_ints : ∀ ns : List Int, PyData.depthAll (dI ns) = 0
  | [] => by simp [dI, PyData.depthAll]
  | n :: r => by
    have := depth_ints r
    simp only [dI] at this ⊢
    simp [PyData.depthAll, PyData.depth, this]
theorem eqv_ints : ∀ ns ms : List Int, PyData.eqvAll (dI ns) (dI ms) = decide (ns = ms)
  | [], [] => by simp [dI, PyData.eqvAll]
  | [], _ :: _ => by simp [dI, PyData.eqvAll]
  | _ :: _, [] => by simp [dI, PyData.eqvAll]
  | n :: r, m :: t => by
    have := eqv_ints r t
    simp only [dI] at this ⊢
    simp only [List.map_cons, PyData.eqvAll, PyData.eqv, this, List.cons.injEq]
    rw [Bool.decide_and, Bool.beq_eq_decide_eq]
theorem dpAll_ints {K : PySem.W.Frag} {H : Hp} : ∀ ns : List Int, DpAll K H (ns.map V.int) (dI ns)
  | [] => .nil
  | n :: r => .cons (.int n) (dpAll_ints r)
theorem sh_tI (ns : List Int) : SeqAt.shaped (.tuple (dI ns)) = true := by
  unfold SeqAt.shaped
  simp [PyData.canLay0, PyData.depth, canLay_ints, depth_ints]
theorem sh_lI (ns : List Int) : SeqAt.shaped (.list (dI ns)) = true := by
  unfold SeqAt.shaped
  simp [PyData.canLay0, PyData.depth, canLay_ints, depth_ints]
/-- pairs of ints -/
def dP (ps : List (Int × Int)) : List PyData := ps.map fun p => PyData.tuple (dI [p.1, p.2])
theorem canLay_pairs : ∀ ps : List (Int × Int), PyData.canLayAll0 (dP ps) = true
  | [] => by simp [dP, PyData.canLayAll0]
  | n :: r => by
    have := canLay_pairs r
    simp only [dP] at this ⊢
    simp [PyData.canLayAll0, PyData.canLay0, this, canLay_ints]
theorem depth_pairs : ∀ ps : List (Int × Int), PyData.depthAll (dP ps) ≤ 1
  | [] => by simp [dP, PyData.depthAll]
  | n :: r => by
    have := depth_pairs r
    simp only [dP] at this ⊢
    simp only [List.map_cons, PyData.depthAll, PyData.depth, depth_ints]
    omega
theorem eqv_pairs : ∀ ns ms : List (Int × Int), PyData.eqvAll (dP ns) (dP ms) = decide (ns = ms)
  | [], [] => by simp [dP, PyData.eqvAll]
  | [], _ :: _ => by simp [dP, PyData.eqvAll]
  | _ :: _, [] => by simp [dP, PyData.eqvAll]
  | (a, b) :: r, (c, d) :: t => by
    have := eqv_pairs r t
    simp only [dP] at this ⊢
    simp only [List.map_cons, PyData.eqvAll, PyData.eqv, this, List.cons.injEq, eqv_ints, Prod.mk.injEq, and_true]
    simp only [Bool.decide_and]
theorem sh_tP (ns : List (Int × Int)) : SeqAt.shaped (.tuple (dP ns)) = true := by
  unfold SeqAt.shaped
  have := depth_pairs ns
  simp only [PyData.canLay0, PyData.depth, canLay_pairs, Bool.true_and, decide_eq_true_eq]
  exact decide_eq_true (by omega)
theorem sh_lP (ns : List (Int × Int)) : SeqAt.shaped (.list (dP ns)) = true := by
  unfold SeqAt.shaped
  have := depth_pairs ns
  simp only [PyData.canLay0, PyData.depth, canLay_pairs, Bool.true_and, decide_eq_true_eq]
  exact decide_eq_true (by omega)
/-- tuples of two ints stand at these addresses -/
def PairsAt (K : PySem.W.Frag) (H : Hp) (as : List Addr) (ps : List (Int × Int)) : Prop := as.length = ps.length ∧ ∀ (i : Nat) (a : Addr) (p : Int × Int), as[i]? = some a → ps[i]? = some p → SqT K H a [.int p.1, .int p.2]
theorem PairsAt.nil {K : PySem.W.Frag} {H : Hp} : PairsAt K H [] [] := ⟨rfl, fun _ _ _ h => by simp at h⟩
theorem PairsAt.snoc {K : PySem.W.Frag} {H : Hp} {as : List Addr} {ps : List (Int × Int)} {a : Addr} {p : Int × Int} (h : PairsAt K H as ps) (hp : SqT K H a [.int p.1, .int p.2]) : PairsAt K H (as ++ [a]) (ps ++ [p]) := by
  refine ⟨by simp [h.1], fun i b q h1 h2 => ?_⟩
  rcases Nat.lt_or_ge i as.length with c | c
  · rw [List.getElem?_append_left c] at h1
    rw [List.getElem?_append_left (by rw [← h.1]; exact c)] at h2
    exact h.2 i b q h1 h2
  · rw [List.getElem?_append_right c] at h1
    rw [List.getElem?_append_right (by rw [← h.1]; exact c)] at h2
    have e1 : i - as.length = 0 := by
      have := (List.getElem?_eq_some_iff.mp h1).1
      simp at this
      omega
    rw [← h.1, e1] at h2
    rw [e1] at h1
    simp at h1 h2
    subst h1 h2
    exact hp
theorem dpAll_pairs {K : PySem.W.Frag} {H : Hp} : ∀ {as : List Addr} {ps : List (Int × Int)}, PairsAt K H as ps → DpAll K H (as.map V.ref) (dP ps)
  | [], [], _ => .nil
  | [], _ :: _, h => by
    have := h.1
    simp at this
  | _ :: _, [], h => by
    have := h.1
    simp at this
  | a :: as, p :: ps, h => .cons (.tup (h.2 0 a p rfl rfl) (dpAll_ints [p.1, p.2])) (dpAll_pairs ⟨by have := h.1; simp at this; exact this, fun i b q h1 h2 => h.2 (i + 1) b q (by simpa using h1) (by simpa using h2)⟩)
/-- a number, or None -/
def vo : Option Nat → V
  | some n => .int (n : Int)
  | none => .non
def dO : Option Nat → PyData
  | some n => .int (n : Int)
  | none => .none
theorem dp_o {K : PySem.W.Frag} {H : Hp} : ∀ l : Option Nat, Dp K H (vo l) (dO l)
  | some n => .int _
  | none => .non
theorem eqv_o : ∀ l l' : Option Nat, PyData.eqv (dO l) (dO l') = decide (l = l')
  | some a, some b => by
    simp only [dO, PyData.eqv, Option.some.injEq, Int.natCast_inj, Bool.beq_eq_decide_eq]
  | some a, none => by simp [dO, PyData.eqv]
  | none, some b => by simp [dO, PyData.eqv]
  | none, none => by simp [dO, PyData.eqv]
theorem sh_o (l : Option Nat) (g : Int) : SeqAt.shaped (.tuple [dO l, .int g]) = true := by cases l <;> rfl
section
variable {K : PySem.W.Frag} {H : Hp} {Q : VK} {a b : Addr}
theorem r_eqT {ns ms : List Int} (hx : SqT K H a (ns.map V.int)) (hy : SqT K H b (ms.map V.int)) (q : Q (.bl (decide (ns = ms))) H) : rEqD K (.ref a) (.ref b) H Q :=
  ⟨.tuple (dI ns), .tuple (dI ms), .tup hx (dpAll_ints ns), .tup hy (dpAll_ints ms), sh_tI ns, sh_tI ms, by rw [PyData.eqv, eqv_ints]; exact q⟩
theorem r_neT {ns ms : List Int} (hx : SqT K H a (ns.map V.int)) (hy : SqT K H b (ms.map V.int)) (q : Q (.bl (!decide (ns = ms))) H) : rNeD K (.ref a) (.ref b) H Q :=
  ⟨.tuple (dI ns), .tuple (dI ms), .tup hx (dpAll_ints ns), .tup hy (dpAll_ints ms), sh_tI ns, sh_tI ms, by rw [PyData.eqv, eqv_ints]; exact q⟩
theorem r_eqL {ns ms : List Int} (hx : SqL K H a (ns.map V.int)) (hy : SqL K H b (ms.map V.int)) (q : Q (.bl (decide (ns = ms))) H) : rEqD K (.ref a) (.ref b) H Q :=
  ⟨.list (dI ns), .list (dI ms), .lst hx (dpAll_ints ns), .lst hy (dpAll_ints ms), sh_lI ns, sh_lI ms, by rw [PyData.eqv, eqv_ints]; exact q⟩
theorem r_neL {ns ms : List Int} (hx : SqL K H a (ns.map V.int)) (hy : SqL K H b (ms.map V.int)) (q : Q (.bl (!decide (ns = ms))) H) : rNeD K (.ref a) (.ref b) H Q :=
  ⟨.list (dI ns), .list (dI ms), .lst hx (dpAll_ints ns), .lst hy (dpAll_ints ms), sh_lI ns, sh_lI ms, by rw [PyData.eqv, eqv_ints]; exact q⟩
theorem r_eqTP {as bs : List Addr} {ns ms : List (Int × Int)} (hx : SqT K H a (as.map V.ref)) (ha : PairsAt K H as ns) (hy : SqT K H b (bs.map V.ref)) (hb : PairsAt K H bs ms) (q : Q (.bl (decide (ns = ms))) H) : rEqD K (.ref a) (.ref b) H Q :=
  ⟨.tuple (dP ns), .tuple (dP ms), .tup hx (dpAll_pairs ha), .tup hy (dpAll_pairs hb), sh_tP ns, sh_tP ms, by rw [PyData.eqv, eqv_pairs]; exact q⟩
theorem r_neTP {as bs : List Addr} {ns ms : List (Int × Int)} (hx : SqT K H a (as.map V.ref)) (ha : PairsAt K H as ns) (hy : SqT K H b (bs.map V.ref)) (hb : PairsAt K H bs ms) (q : Q (.bl (!decide (ns = ms))) H) : rNeD K (.ref a) (.ref b) H Q :=
  ⟨.tuple (dP ns), .tuple (dP ms), .tup hx (dpAll_pairs ha), .tup hy (dpAll_pairs hb), sh_tP ns, sh_tP ms, by rw [PyData.eqv, eqv_pairs]; exact q⟩
theorem r_eqLP {as bs : List Addr} {ns ms : List (Int × Int)} (hx : SqL K H a (as.map V.ref)) (ha : PairsAt K H as ns) (hy : SqL K H b (bs.map V.ref)) (hb : PairsAt K H bs ms) (q : Q (.bl (decide (ns = ms))) H) : rEqD K (.ref a) (.ref b) H Q :=
  ⟨.list (dP ns), .list (dP ms), .lst hx (dpAll_pairs ha), .lst hy (dpAll_pairs hb), sh_lP ns, sh_lP ms, by rw [PyData.eqv, eqv_pairs]; exact q⟩
theorem r_neLP {as bs : List Addr} {ns ms : List (Int × Int)} (hx : SqL K H a (as.map V.ref)) (ha : PairsAt K H as ns) (hy : SqL K H b (bs.map V.ref)) (hb : PairsAt K H bs ms) (q : Q (.bl (!decide (ns = ms))) H) : rNeD K (.ref a) (.ref b) H Q :=
  ⟨.list (dP ns), .list (dP ms), .lst hx (dpAll_pairs ha), .lst hy (dpAll_pairs hb), sh_lP ns, sh_lP ms, by rw [PyData.eqv, eqv_pairs]; exact q⟩
theorem r_neO {l l' : Option Nat} {g g' : Nat} (hx : SqT K H a [vo l, .int (g : Int)]) (hy : SqT K H b [vo l', .int (g' : Int)]) (q : Q (.bl (!decide (l = l' ∧ g = g'))) H) : rNeD K (.ref a) (.ref b) H Q :=
  ⟨.tuple [dO l, .int g], .tuple [dO l', .int g'], .tup hx (.cons (dp_o l) (.cons (.int _) .nil)), .tup hy (.cons (dp_o l') (.cons (.int _) .nil)), sh_o l g, sh_o l' g', by
    rw [PyData.eqv]
    simp only [PyData.eqvAll, eqv_o, PyData.eqv, Bool.and_true]
    have : (decide (l = l') && ((g : Int) == (g' : Int))) = decide (l = l' ∧ g = g') := by
      rw [Bool.decide_and, Bool.beq_eq_decide_eq]
      simp only [Int.natCast_inj]
    rw [this]
    exact q⟩
theorem r_eqO {l l' : Option Nat} {g g' : Nat} (hx : SqT K H a [vo l, .int (g : Int)]) (hy : SqT K H b [vo l', .int (g' : Int)]) (q : Q (.bl (decide (l = l' ∧ g = g'))) H) : rEqD K (.ref a) (.ref b) H Q :=
  ⟨.tuple [dO l, .int g], .tuple [dO l', .int g'], .tup hx (.cons (dp_o l) (.cons (.int _) .nil)), .tup hy (.cons (dp_o l') (.cons (.int _) .nil)), sh_o l g, sh_o l' g', by
    rw [PyData.eqv]
    simp only [PyData.eqvAll, eqv_o, PyData.eqv, Bool.and_true]
    have : (decide (l = l') && ((g : Int) == (g' : Int))) = decide (l = l' ∧ g = g') := by
      rw [Bool.decide_and, Bool.beq_eq_decide_eq]
      simp only [Int.natCast_inj]
    rw [this]
    exact q⟩
theorem ty_non : TyX K H .non (.type "NoneType") := .base .non
/-- isinstance of a built-in class -/
theorem r_isi {x : V} {T n : String} {c : Bool} (ty : TyX K H x (.type T)) (hk : kitB T n = some c) (q : Q (.bl c) H) : rIsi K [x, .ty n] H Q := ⟨x, .ty n, .type T, .type n, c, rfl, .ty n, ty, kit_ty hk, q⟩
theorem ty_int (i : Int) : TyX K H (.int i) (.type "int") := .base (.int i)
theorem ty_bl (c : Bool) : TyX K H (.bl c) (.type "bool") := .base (.bl c)
theorem ty_str (c : PySem.Str) : TyX K H (.str c) (.type "str") := .base (.str c)
theorem ty_tup {xs : List V} (h : SqT K H a xs) : TyX K H (.ref a) (.type "tuple") := by
  rcases h with (h | ⟨o, h⟩) | ⟨o, its, n, h1, h2, _⟩
  · exact .base (.tup h)
  · exact .fTuple h
  · exact .kTuple h1 h2
theorem ty_lst {xs : List V} (h : SqL K H a xs) : TyX K H (.ref a) (.type "list") := by
  rcases h with (h | ⟨o, h⟩) | ⟨o, its, n, h1, h2, _⟩
  · exact .base (.lst h)
  · exact .base (.frz h)
  · exact .kList h1 h2
end
/-- all of these stand at tuples of a number to 10 ** 40 and an exponent from 1 to 200 -/
def Jobs (H : Hp) (xs : List V) : Prop := ∀ x ∈ xs, ∃ (a : Addr) (n e : Nat), x = .ref a ∧ H a = some (.tup [.int n, .int e]) ∧ n ≤ 10 ^ 40 ∧ 1 ≤ e ∧ e ≤ 200
theorem Jobs.kp {H H' : Hp} {xs : List V} {d : Addr} (h : Jobs H xs) (k : Kp d H H') (hd : ∃ ys, H d = some (.lst ys)) : Jobs H' xs := fun x hx => by
  obtain ⟨a, n, e, h1, h2, h3⟩ := h x hx
  obtain ⟨ys, hy⟩ := hd
  exact ⟨a, n, e, h1, k _ _ (ne_of h2 hy (by intro z; cases z)) h2, h3⟩
theorem Jobs.same {H H' : Hp} {xs : List V} (h : Jobs H xs) (k : Same H H') : Jobs H' xs := fun x hx => by
  obtain ⟨a, n, e, h1, h2, h3⟩ := h x hx
  exact ⟨a, n, e, h1, k _ _ h2, h3⟩
/-- a value that is no truth -/
def tyFalse (K : PySem.W.Frag) (x : V) (H : Hp) : Prop := ∃ T : String, TyX K H x (.type T) ∧ kitB T "bool" = some false
/-! ### a comprehension whose turns change nothing that was there -/
section
variable {σ : L2.St} {H : Hp} {Q : VK} {K : PySem.W.Frag} {te tl : TE} {tt : TT} {tr : TA} {g : TG} {vs : List Nat}
/-- the turns of a comprehension -/
def LJ (J : It) (g : TG) (tt : TT) (te : TE) (vs : List Nat) (σ : L2.St) (H1 : Hp) (Q : VK) : Prop := ∀ D, H1 D = none → ∃ W : Nat → Nat → Hp → Prop, (∃ m, W 0 m (upd H1 D (.lst []))) ∧ ∀ i m H, W i m H →
  (J.stop i H ∧ Q (.ref D) H) ∨ (J.go i H ∧ ∃ Nx : Hp → Prop, (∀ H', Nx H' → ∃ m', m' < m ∧ W (i + 1) m' H') ∧ ∀ x H', J.yld i H x H' → g x (wipe σ vs) H' fun σ2 H2 => wipe σ2 vs = wipe σ vs ∧ tt σ2 H2 fun b H3 =>
    if b = true then te σ2 H3 fun y H4 => ∃ acc, H4 D = some (.lst acc) ∧ acc.length < sizeLine ∧ Nx (upd H4 D (.lst (acc ++ [y]))) else Nx H3)
theorem w_lcL : tLc (iList K tl) g tt te vs σ H Q = tl σ H fun x H1 => ∃ a, x = .ref a ∧ (∃ xs, SqL K H1 a xs) ∧ LJ (Itl K a) g tt te vs σ H1 Q := rfl
theorem w_lcT : tLc (iTup K tl) g tt te vs σ H Q = tl σ H fun x H1 => ∃ a, x = .ref a ∧ (∃ xs, SqT K H1 a xs) ∧ LJ (Itt K a) g tt te vs σ H1 Q := rfl
theorem w_lc1 : tLc (iRng1 tr) g tt te vs σ H Q = tr σ H fun xs H1 => ∃ j : Int, xs = [.int j] ∧ -(2 ^ 62) ≤ j ∧ j < 2 ^ 62 ∧ LJ (Itr 0 j.toNat) g tt te vs σ H1 Q := rfl
theorem w_lc2 : tLc (iRng2 tr) g tt te vs σ H Q = tr σ H fun xs H1 => ∃ i j : Int, xs = [.int i, .int j] ∧ (-(2 ^ 62) ≤ i ∧ i < 2 ^ 62 ∧ -(2 ^ 62) ≤ j ∧ j < 2 ^ 62) ∧ LJ (Itr i (j - i).toNat) g tt te vs σ H1 Q := rfl
theorem w_lc3 : tLc (iRng3 tr) g tt te vs σ H Q = tr σ H fun xs H1 => ∃ (i j c : Int) (n : Nat), xs = [.int i, .int j, .int c] ∧ RgC i j c n ∧ LJ (Itc i c n) g tt te vs σ H1 Q := rfl
theorem w_yes {QT : Bool → Hp → Prop} : tYes σ H QT = QT true H := rfl
theorem same_seqT {K : PySem.W.Frag} {H H' : Hp} {a : Addr} {xs : List V} (e : Same H H') (h : SqT K H a xs) : SqT K H' a xs := by
  rcases h with (h | ⟨o, h⟩) | h
  · exact .inl (.inl (e _ _ h))
  · exact .inl (.inr ⟨o, e _ _ h⟩)
  · exact .inr h
theorem Kp.seqT {K : PySem.W.Frag} {a : Addr} {H H' : Hp} {l : Addr} {xs : List V} (x : Kp a H H') (n : l ≠ a) (h : SqT K H l xs) : SqT K H' l xs := by
  rcases h with (h | ⟨o, h⟩) | h
  · exact .inl (.inl (x _ _ n h))
  · exact .inl (.inr ⟨o, x _ _ n h⟩)
  · exact .inr h
theorem PairsAt.same {K : PySem.W.Frag} {H H' : Hp} {as : List Addr} {ps : List (Int × Int)} (h : PairsAt K H as ps) (e : Same H H') : PairsAt K H' as ps := ⟨h.1, fun i a p h1 h2 => same_seqT e (h.2 i a p h1 h2)⟩
theorem filt_take {α β : Type} (f : α → Option β) {xs : List α} {i : Nat} {x : α} (h : xs[i]? = some x) : (xs.take (i + 1)).filterMap f = (xs.take i).filterMap f ++ (f x).toList := by
  rw [List.take_add_one, h, List.filterMap_append]
  cases e : f x <;> simp [e]
/-- f tells of an item what is put into the list, if anything -/
theorem lc_l {a : Addr} {xs : List V} (f : V → Option V) (hx : SqL K H a xs) (hl : xs.length < sizeLine)
    (hs : ∀ (i : Nat) (x : V) (H' : Hp), xs[i]? = some x → Same H H' → ∀ (N0 : Hp → Prop) (N1 : VK), (f x = none → ∀ H2, Same H' H2 → N0 H2) → (∀ y, f x = some y → ∀ H2, Same H' H2 → N1 y H2) →
      g x (wipe σ vs) H' fun σ2 H2 => wipe σ2 vs = wipe σ vs ∧ tt σ2 H2 fun b H3 => if b = true then te σ2 H3 N1 else N0 H3)
    (q : ∀ D H', H D = none → Same H H' → H' D = some (.lst (xs.filterMap f)) → Q (.ref D) H') : LJ (Itl K a) g tt te vs σ H Q := by
  intro D hD
  refine lc_list (K := K) (a := a) (xs := xs) (fun i H' => Same H H' ∧ H' D = some (.lst ((xs.take i).filterMap f))) ⟨same_new hD, by rw [upd_same]; simp⟩ (fun i H' _ p => p.1.seq hx) ?_ ?_
  · rintro i x H' hi ⟨p1, p2⟩
    have hlen : ((xs.take i).filterMap f).length < sizeLine := Nat.lt_of_le_of_lt (Nat.le_trans (List.length_filterMap_le _ _) (by rw [List.length_take]; exact Nat.min_le_right _ _)) hl
    refine hs i x H' hi p1 _ _ (fun hf H2 e2 => ⟨p1.trans e2, ?_⟩) fun y hf H2 e2 => ⟨_, e2 _ _ p2, hlen, fun b o h => ?_, ?_⟩
    · rw [e2 _ _ p2, filt_take f hi, hf]
      simp
    · rw [upd_ne (ne_of_none h hD)]
      exact e2 _ _ (p1 _ _ h)
    · rw [upd_same, filt_take f hi, hf]
      rfl
  · rintro H' ⟨p1, p2⟩
    rw [List.take_length] at p2
    exact q D H' hD p1 p2
theorem lc_t {a : Addr} {xs : List V} (f : V → Option V) (hx : SqT K H a xs) (hl : xs.length < sizeLine)
    (hs : ∀ (i : Nat) (x : V) (H' : Hp), xs[i]? = some x → Same H H' → ∀ (N0 : Hp → Prop) (N1 : VK), (f x = none → ∀ H2, Same H' H2 → N0 H2) → (∀ y, f x = some y → ∀ H2, Same H' H2 → N1 y H2) →
      g x (wipe σ vs) H' fun σ2 H2 => wipe σ2 vs = wipe σ vs ∧ tt σ2 H2 fun b H3 => if b = true then te σ2 H3 N1 else N0 H3)
    (q : ∀ D H', H D = none → Same H H' → H' D = some (.lst (xs.filterMap f)) → Q (.ref D) H') : LJ (Itt K a) g tt te vs σ H Q := by
  intro D hD
  refine lc_tup (K := K) (a := a) (xs := xs) (fun i H' => Same H H' ∧ H' D = some (.lst ((xs.take i).filterMap f))) ⟨same_new hD, by rw [upd_same]; simp⟩ (fun i H' _ p => same_seqT p.1 hx) ?_ ?_
  · rintro i x H' hi ⟨p1, p2⟩
    have hlen : ((xs.take i).filterMap f).length < sizeLine := Nat.lt_of_le_of_lt (Nat.le_trans (List.length_filterMap_le _ _) (by rw [List.length_take]; exact Nat.min_le_right _ _)) hl
    refine hs i x H' hi p1 _ _ (fun hf H2 e2 => ⟨p1.trans e2, ?_⟩) fun y hf H2 e2 => ⟨_, e2 _ _ p2, hlen, fun b o h => ?_, ?_⟩
    · rw [e2 _ _ p2, filt_take f hi, hf]
      simp
    · rw [upd_ne (ne_of_none h hD)]
      exact e2 _ _ (p1 _ _ h)
    · rw [upd_same, filt_take f hi, hf]
      rfl
  · rintro H' ⟨p1, p2⟩
    rw [List.take_length] at p2
    exact q D H' hD p1 p2
/-- over lo, lo + 1, .. (n of them), by the place -/
theorem lc_r {lo : Int} {n : Nat} (f : Nat → Option V) (hl : n < sizeLine)
    (hs : ∀ (i : Nat) (H' : Hp), i < n → Same H H' → ∀ (N0 : Hp → Prop) (N1 : VK), (f i = none → ∀ H2, Same H' H2 → N0 H2) → (∀ y, f i = some y → ∀ H2, Same H' H2 → N1 y H2) →
      g (.int (lo + i)) (wipe σ vs) H' fun σ2 H2 => wipe σ2 vs = wipe σ vs ∧ tt σ2 H2 fun b H3 => if b = true then te σ2 H3 N1 else N0 H3)
    (q : ∀ D H', H D = none → Same H H' → H' D = some (.lst ((List.range n).filterMap f)) → Q (.ref D) H') : LJ (Itr lo n) g tt te vs σ H Q := by
  intro D hD
  refine lc_range (lo := lo) (n := n) (fun i H' => Same H H' ∧ H' D = some (.lst ((List.range i).filterMap f))) ⟨same_new hD, by rw [upd_same]; simp⟩ ?_ ?_
  · rintro i H' hi ⟨p1, p2⟩
    have hlen : ((List.range i).filterMap f).length < sizeLine := Nat.lt_of_le_of_lt (List.length_filterMap_le _ _) (by rw [List.length_range]; omega)
    have hf1 : (List.range (i + 1)).filterMap f = (List.range i).filterMap f ++ (f i).toList := by
      rw [List.range_succ, List.filterMap_append]
      cases e : f i <;> simp [e]
    refine hs i H' hi p1 _ _ (fun hf H2 e2 => ⟨p1.trans e2, ?_⟩) fun y hf H2 e2 => ⟨_, e2 _ _ p2, hlen, fun b o h => ?_, ?_⟩
    · rw [e2 _ _ p2, hf1, hf]
      simp
    · rw [upd_ne (ne_of_none h hD)]
      exact e2 _ _ (p1 _ _ h)
    · rw [upd_same, hf1, hf]
      rfl
  · rintro H' ⟨p1, p2⟩
    exact q D H' hD p1 p2
/-- a comprehension by an invariant over what is made so far -/
theorem lc_rI {lo : Int} {n : Nat} (Pv : Nat → List V → Hp → Prop) (h0 : ∀ D, H D = none → Pv 0 [] (upd H D (.lst [])))
    (hs : ∀ (i : Nat) (acc : List V) (D : Addr) (H' : Hp), i < n → H D = none → H' D = some (.lst acc) → Pv i acc H' → ∀ (N0 : Hp → Prop) (N1 : VK), (∀ H2, H2 D = some (.lst acc) → Pv (i + 1) acc H2 → N0 H2) →
      (∀ y H2, H2 D = some (.lst acc) → acc.length < sizeLine → Pv (i + 1) (acc ++ [y]) (upd H2 D (.lst (acc ++ [y]))) → N1 y H2) →
      g (.int (lo + i)) (wipe σ vs) H' fun σ2 H2 => wipe σ2 vs = wipe σ vs ∧ tt σ2 H2 fun b H3 => if b = true then te σ2 H3 N1 else N0 H3)
    (q : ∀ D acc H', H D = none → H' D = some (.lst acc) → Pv n acc H' → Q (.ref D) H') : LJ (Itr lo n) g tt te vs σ H Q := by
  intro D hD
  refine lc_range (lo := lo) (n := n) (fun i H' => ∃ acc, H' D = some (.lst acc) ∧ Pv i acc H') ⟨[], upd_same, h0 D hD⟩ ?_ ?_
  · rintro i H' hi ⟨acc, p1, p2⟩
    exact hs i acc D H' hi hD p1 p2 _ _ (fun H2 e h => ⟨acc, e, h⟩) fun y H2 e hl h => ⟨acc, e, hl, _, upd_same, h⟩
  · rintro H' ⟨acc, p1, p2⟩
    exact q D acc H' hD p1 p2
theorem lc_lI {a : Addr} {xs : List V} (Pv : Nat → List V → Hp → Prop) (h0 : ∀ D, H D = none → Pv 0 [] (upd H D (.lst []))) (hl : ∀ i acc H', i ≤ xs.length → Pv i acc H' → SqL K H' a xs)
    (hs : ∀ (i : Nat) (x : V) (acc : List V) (D : Addr) (H' : Hp), xs[i]? = some x → H D = none → H' D = some (.lst acc) → Pv i acc H' → ∀ (N0 : Hp → Prop) (N1 : VK), (∀ H2, H2 D = some (.lst acc) → Pv (i + 1) acc H2 → N0 H2) →
      (∀ y H2, H2 D = some (.lst acc) → acc.length < sizeLine → Pv (i + 1) (acc ++ [y]) (upd H2 D (.lst (acc ++ [y]))) → N1 y H2) →
      g x (wipe σ vs) H' fun σ2 H2 => wipe σ2 vs = wipe σ vs ∧ tt σ2 H2 fun b H3 => if b = true then te σ2 H3 N1 else N0 H3)
    (q : ∀ D acc H', H D = none → H' D = some (.lst acc) → Pv xs.length acc H' → Q (.ref D) H') : LJ (Itl K a) g tt te vs σ H Q := by
  intro D hD
  refine lc_list (K := K) (a := a) (xs := xs) (fun i H' => ∃ acc, H' D = some (.lst acc) ∧ Pv i acc H') ⟨[], upd_same, h0 D hD⟩ (fun i H' hi ⟨acc, _, p⟩ => hl i acc H' hi p) ?_ ?_
  · rintro i x H' hi ⟨acc, p1, p2⟩
    exact hs i x acc D H' hi hD p1 p2 _ _ (fun H2 e h => ⟨acc, e, h⟩) fun y H2 e hl h => ⟨acc, e, hl, _, upd_same, h⟩
  · rintro H' ⟨acc, p1, p2⟩
    exact q D acc H' hD p1 p2
end
/-- range(i, j, c) upwards -/
theorem RgC.up {i j c : Int} (ha : -(2 ^ 62) ≤ i) (ha' : i < 2 ^ 62) (hb : -(2 ^ 62) ≤ j) (hb' : j < 2 ^ 62) (hc : 0 < c) (hc' : c < 1073741824) : RgC i j c (if i < j then ((j - i - 1) / c + 1).toNat else 0) := by
  have hd : i < j → 0 ≤ (j - i - 1) / c ∧ (j - i - 1) / c ≤ j - i - 1 := fun h => ⟨Int.ediv_nonneg (by omega) (by omega), Int.ediv_le_self _ (by omega)⟩
  refine ⟨by omega, by omega, ?_, ?_⟩
  · unfold Builtin.Range.small
    simp only [Builtin.Range.rangeFitsLong, Bool.and_eq_true, Bool.or_eq_true, decide_eq_true_eq, beq_iff_eq, Builtin.Range.rangeSize, show c > 0 from hc, if_true]
    split
    · rename_i h
      obtain ⟨h1, h2⟩ := hd h
      generalize (j - i - 1) / c = z at h1 h2 ⊢
      omega
    · omega
  · simp only [Builtin.Range.rangeSize, show c > 0 from hc, if_true]
    split
    · rename_i h
      obtain ⟨h1, h2⟩ := hd h
      omega
    · rfl
theorem bits_nat {n : Nat} (h : 1 ≤ n) : Builtin.Int.intBits (n : Int) = n.log2 + 1 := by
  unfold Builtin.Int.intBits
  rw [if_neg (by simp; omega)]
  rfl
theorem bits_0 : Builtin.Int.intBits 0 = 0 := rfl
theorem filt_ints (f : Nat → Int) (k : Nat) : (List.range k).filterMap (fun i => some (V.int (f i))) = ((List.range k).map f).map V.int := by
  rw [List.map_map]
  exact congrFun (List.filterMap_eq_map (f := V.int ∘ f)) _
theorem size_le {n : Nat} (h : n ≤ 1000000) : n < sizeLine := Nat.lt_of_le_of_lt h (by decide)
theorem size_le' {n : Nat} (h : n ≤ 1000000) : n ≤ sizeLine := Nat.le_of_lt (size_le h)
/-- the items of a list of ints that are kept -/
def keepI (p : Int → Bool) : V → Option V
  | .int z => if p z = true then some (.int z) else none
  | _ => none
theorem filt_keep (p : Int → Bool) : ∀ ns : List Int, (ns.map V.int).filterMap (keepI p) = (ns.filter p).map V.int
  | [] => rfl
  | n :: r => by
    have ih := filt_keep p r
    simp only [List.map_cons, List.filterMap_cons, keepI, List.filter_cons]
    by_cases h : p n = true
    · rw [if_pos h, if_pos h]
      simp only [ih, List.map_cons]
    · rw [if_neg h, if_neg h]
      simp only [ih]
theorem int_at {ns : List Int} {i : Nat} {x : V} (h : (ns.map V.int)[i]? = some x) : ∃ n, n ∈ ns ∧ x = V.int n := by
  rw [List.getElem?_map] at h
  cases e : ns[i]? with
  | none => simp [e] at h
  | some n =>
    simp [e] at h
    exact ⟨n, List.mem_of_getElem? e, h.symm⟩
def ofN (ns : List Nat) : List Int := List.map (fun n : Nat => (n : Int)) ns
theorem ofN_filter (p : Int → Bool) (ns : List Nat) : (ofN ns).filter p = ofN (ns.filter fun n => p n) := by
  unfold ofN
  rw [List.filter_map]
  rfl
/-! ### sizes -/
theorem cmulN {a b : Nat} (h : a.log2 + b.log2 < 1000000) : CMulW (a : Int) (b : Int) := h
end Pn
namespace Pn
/-! ### powers -/
theorem tk_odd {f b e X B : Nat} (h : f * b ^ e = X) (hX : X ≤ B) (he : 1 ≤ e) : f * b ≤ B := by
  rcases Nat.eq_zero_or_pos b with rfl | hb
  · omega
  · have : b ≤ b ^ e := Nat.le_self_pow (by omega) b
    calc f * b ≤ f * b ^ e := Nat.mul_le_mul_left f this
      _ ≤ B := by omega
theorem tk_sq {f b e X B : Nat} (h : f * b ^ e = X) (hX : X ≤ B) (he : 2 ≤ e) (hf : f = 0 → b = 0) : b * b ≤ B := by
  rcases Nat.eq_zero_or_pos b with rfl | hb
  · omega
  · have h1 : b ^ 2 ≤ b ^ e := Nat.pow_le_pow_right hb he
    have hf1 : 1 ≤ f := by omega
    have h2 : 1 * b ^ e ≤ f * b ^ e := Nat.mul_le_mul_right _ hf1
    have h3 : b * b = b ^ 2 := by rw [Nat.pow_two]
    omega
theorem tk_step1 {f b e X : Nat} (h : f * b ^ e = X) (he : e % 2 = 1) : f * b * (b * b) ^ (e / 2) = X := by
  have e1 : e = 2 * (e / 2) + 1 := by omega
  have e2 : b ^ e = b * (b * b) ^ (e / 2) := by
    conv => lhs; rw [e1]
    rw [Nat.pow_succ, Nat.pow_mul, Nat.pow_two, Nat.mul_comm]
  rw [Nat.mul_assoc, ← e2, h]
theorem tk_step0 {f b e X : Nat} (h : f * b ^ e = X) (he : e % 2 = 0) : f * (b * b) ^ (e / 2) = X := by
  have e1 : e = 2 * (e / 2) := by omega
  have e2 : b ^ e = (b * b) ^ (e / 2) := by
    conv => lhs; rw [e1]
    rw [Nat.pow_mul, Nat.pow_two]
  rw [← e2, h]
theorem log2_le_of_le {x n : Nat} (h : x ≤ 2 ^ n) : x.log2 ≤ n := by
  rcases Nat.eq_zero_or_pos x with rfl | hx
  · simp
  · have : x.log2 < n + 1 := (Nat.log2_lt (by omega)).mpr (by rw [Nat.pow_succ]; omega)
    omega
theorem shl_one (j : Nat) : (1 : Int) * 2 ^ ((j : Int)).toNat = ((2 ^ j : Nat) : Int) := by
  rw [Int.toNat_natCast, Int.one_mul, Int.natCast_pow]
  rfl
/-! ### roots by halving -/
theorem root_unique {n e r s : Nat} (he : 1 ≤ e) (h1 : r ^ e ≤ n) (h2 : n < (r + 1) ^ e) (h3 : s ^ e ≤ n) (h4 : n < (s + 1) ^ e) : r = s := by
  have a : r < s + 1 := (Nat.pow_lt_pow_iff_left (by omega : e ≠ 0)).mp (Nat.lt_of_le_of_lt h1 h4)
  have b : s < r + 1 := (Nat.pow_lt_pow_iff_left (by omega : e ≠ 0)).mp (Nat.lt_of_le_of_lt h3 h2)
  omega
end Pn
namespace Pn
/-! ### the root of a number by an exponent; all ways in which it is a power -/
def rootD (n e : Nat) : Nat → Nat
  | 0 => 0
  | k + 1 => if (k + 1) ^ e ≤ n then k + 1 else rootD n e k
theorem rootD_spec (n e : Nat) (he : 1 ≤ e) : ∀ k, rootD n e k ≤ k ∧ (rootD n e k) ^ e ≤ n ∧ ∀ j, rootD n e k < j → j ≤ k → n < j ^ e
  | 0 => ⟨Nat.le_refl _, by rw [rootD, Nat.zero_pow (by omega)]; omega, fun j h1 h2 => by omega⟩
  | k + 1 => by
    obtain ⟨h1, h2, h3⟩ := rootD_spec n e he k
    rw [rootD]
    split
    · rename_i h
      exact ⟨Nat.le_refl _, h, fun j a b => by omega⟩
    · rename_i h
      refine ⟨by omega, h2, fun j a b => ?_⟩
      rcases Nat.lt_or_ge j (k + 1) with c | c
      · exact h3 j a (by omega)
      · have : j = k + 1 := by omega
        subst this
        omega
def rootN (n e : Nat) : Nat := rootD n e n
theorem rootN_le {n e : Nat} (he : 1 ≤ e) : (rootN n e) ^ e ≤ n := (rootD_spec n e he n).2.1
theorem rootN_lt {n e : Nat} (he : 1 ≤ e) : n < (rootN n e + 1) ^ e := by
  obtain ⟨h1, h2, h3⟩ := rootD_spec n e he n
  unfold rootN
  rcases Nat.lt_or_ge (rootD n e n) n with c | c
  · exact h3 _ (by omega) (by omega)
  · have : rootD n e n = n := by omega
    rw [this]
    exact Nat.lt_of_lt_of_le (Nat.lt_succ_self n) (Nat.le_self_pow (by omega) _)
theorem rootN_is {n e r : Nat} (he : 1 ≤ e) (h1 : r ^ e ≤ n) (h2 : n < (r + 1) ^ e) : r = rootN n e := root_unique he h1 h2 (rootN_le he) (rootN_lt he)
theorem rootN_ge {n e b : Nat} (he : 1 ≤ e) (h : b ^ e ≤ n) : b ≤ rootN n e := by
  have : b < rootN n e + 1 := (Nat.pow_lt_pow_iff_left (by omega : e ≠ 0)).mp (Nat.lt_of_le_of_lt h (rootN_lt he))
  omega
theorem rootN_pow {b e : Nat} (he : 1 ≤ e) : rootN (b ^ e) e = b := (rootN_is he (Nat.le_refl _) (Nat.pow_lt_pow_left (Nat.lt_succ_self b) (by omega))).symm
theorem rootN_gt1 {n e : Nat} (he : 1 ≤ e) : 1 < rootN n e ↔ 2 ^ e ≤ n := by
  constructor
  · intro h
    exact Nat.le_trans (Nat.pow_le_pow_left h e) (rootN_le he)
  · intro h
    exact rootN_ge he h
def wayAt (n e : Nat) : Option (Nat × Nat) := if (rootN n e) ^ e = n then some (rootN n e, e) else none
/-- the ways by exponents 2, .., k + 1 -/
def waysTo (n k : Nat) : List (Nat × Nat) := (List.range k).filterMap fun i => wayAt n (i + 2)
theorem waysTo_succ (n k : Nat) : waysTo n (k + 1) = waysTo n k ++ (wayAt n (k + 2)).toList := by
  unfold waysTo
  rw [List.range_succ, List.filterMap_append]
  cases e : wayAt n (k + 2) <;> simp [e]
def waysN (n : Nat) : List (Nat × Nat) := if n = 0 then [] else if n = 1 then [(1, 2)] else waysTo n (n.log2 - 1)
def greatestN (n : Nat) : Nat × Nat := (waysN n).getLast?.getD (n, 1)
theorem last_filt {α : Type} {f : Nat → Option α} {v : α} {i : Nat} (hi : f i = some v) : ∀ k, i < k → (∀ j, i < j → j < k → f j = none) → ((List.range k).filterMap f).getLast? = some v
  | 0, h, _ => by omega
  | k + 1, h, hn => by
    rw [List.range_succ, List.filterMap_append]
    rcases Nat.lt_or_ge i k with c | c
    · have : f k = none := hn k c (Nat.lt_succ_self k)
      simp only [List.filterMap_cons, List.filterMap_nil, this, List.append_nil]
      exact last_filt hi k c fun j a b => hn j a (by omega)
    · have : i = k := by omega
      subst this
      simp [hi]
theorem none_filt {α : Type} {f : Nat → Option α} : ∀ k, (∀ j, j < k → f j = none) → (List.range k).filterMap f = []
  | 0, _ => rfl
  | k + 1, h => by
    rw [List.range_succ, List.filterMap_append, none_filt k fun j a => h j (by omega)]
    simp [h k (Nat.lt_succ_self k)]
theorem two_pow_le_iff {n e : Nat} (hn : n ≠ 0) : 2 ^ e ≤ n ↔ e ≤ n.log2 := by
  rw [Nat.le_log2 hn]
theorem greatest_of {n e : Nat} (hn : 2 ≤ n) (he : 2 ≤ e) (h1 : 2 ^ e ≤ n) (h2 : (rootN n e) ^ e = n) (h3 : ∀ e', e < e' → 2 ^ e' ≤ n → (rootN n e') ^ e' ≠ n) : greatestN n = (rootN n e, e) := by
  have hl : e ≤ n.log2 := (two_pow_le_iff (by omega)).mp h1
  unfold greatestN waysN
  rw [if_neg (by omega), if_neg (by omega)]
  unfold waysTo
  have hf : wayAt n (e - 2 + 2) = some (rootN n e, e) := by
    rw [show e - 2 + 2 = e by omega]
    unfold wayAt
    rw [if_pos h2]
  rw [last_filt (f := fun i => wayAt n (i + 2)) (i := e - 2) hf (n.log2 - 1) (by omega) fun j a b => ?_]
  · rfl
  · show wayAt n (j + 2) = none
    unfold wayAt
    rw [if_neg (h3 _ (by omega) ((two_pow_le_iff (by omega)).mpr (by omega)))]
theorem greatest_none {n : Nat} (hn : 2 ≤ n) (h : ∀ e, 2 ≤ e → 2 ^ e ≤ n → (rootN n e) ^ e ≠ n) : greatestN n = (n, 1) := by
  unfold greatestN waysN
  rw [if_neg (by omega), if_neg (by omega)]
  unfold waysTo
  rw [none_filt]
  · rfl
  · intro j hj
    show wayAt n (j + 2) = none
    unfold wayAt
    rw [if_neg (h _ (by omega) ((two_pow_le_iff (by omega)).mpr (by omega)))]
def zz (p : Nat × Nat) : Int × Int := ((p.1 : Int), (p.2 : Int))
/-! ### a power factor by factor, stopped beyond the number -/
theorem more_end {n x e j : Nat} (hx : 1 ≤ x) (hj : j ≤ e) (h : j = e ∨ n < x ^ j) : (x ^ j ≤ n ↔ x ^ e ≤ n) := by
  rcases h with rfl | h
  · exact Iff.rfl
  · have : x ^ j ≤ x ^ e := Nat.pow_le_pow_right hx hj
    constructor <;> omega
end Pn
namespace Pn
/-! ### Newton's steps to a root, in whole numbers -/
theorem rearr (r x k : Nat) : r * x ^ k + x * r ^ k ≤ x * x ^ k + r * r ^ k := by
  rcases Nat.le_total r x with h | h
  · obtain ⟨d, rfl⟩ := Nat.exists_eq_add_of_le h
    obtain ⟨c, hc⟩ := Nat.exists_eq_add_of_le (Nat.pow_le_pow_left h k)
    rw [hc]
    generalize r ^ k = y
    have : 0 ≤ d * c := Nat.zero_le _
    grind
  · obtain ⟨d, rfl⟩ := Nat.exists_eq_add_of_le h
    obtain ⟨c, hc⟩ := Nat.exists_eq_add_of_le (Nat.pow_le_pow_left h k)
    rw [hc]
    generalize x ^ k = y
    have : 0 ≤ d * c := Nat.zero_le _
    grind
theorem amgm (r x : Nat) : ∀ m, (m + 1) * r * x ^ m ≤ m * x ^ (m + 1) + r ^ (m + 1)
  | 0 => by simp
  | m + 1 => by
    have ih := amgm r x m
    have h1 := rearr r x (m + 1)
    have h2 : x * ((m + 1) * r * x ^ m) ≤ x * (m * x ^ (m + 1) + r ^ (m + 1)) := Nat.mul_le_mul_left x ih
    have e1 : x ^ (m + 1) = x * x ^ m := by rw [Nat.pow_succ, Nat.mul_comm]
    have e2 : x ^ (m + 1 + 1) = x * (x * x ^ m) := by rw [Nat.pow_succ, e1, Nat.mul_comm]
    have e3 : r ^ (m + 1 + 1) = r * r ^ (m + 1) := by rw [Nat.pow_succ, Nat.mul_comm]
    rw [e1] at h1 h2
    rw [e1, e2, e3]
    generalize x ^ m = y at *
    generalize r ^ (m + 1) = z at *
    grind
theorem newton_ge {n e r x : Nat} (he : 1 ≤ e) (hx : 1 ≤ x) (hr : r ^ e ≤ n) : r ≤ ((e - 1) * x + n / x ^ (e - 1)) / e := by
  obtain ⟨m, rfl⟩ : ∃ m, e = m + 1 := ⟨e - 1, by omega⟩
  rw [Nat.add_sub_cancel]
  have hy : 0 < x ^ m := Nat.pow_pos (by omega)
  have h := amgm r x m
  rw [Nat.le_div_iff_mul_le (by omega)]
  have e1 : x ^ (m + 1) = x * x ^ m := by rw [Nat.pow_succ, Nat.mul_comm]
  rw [e1] at h
  rcases Nat.le_total (r * (m + 1)) (m * x) with c | c
  · exact Nat.le_trans c (Nat.le_add_right _ _)
  · obtain ⟨d, hd⟩ := Nat.exists_eq_add_of_le c
    have : d ≤ n / x ^ m := by
      rw [Nat.le_div_iff_mul_le hy]
      have e2 : (m + 1) * r * x ^ m = m * (x * x ^ m) + d * x ^ m := by
        rw [show (m + 1) * r = r * (m + 1) by rw [Nat.mul_comm], hd, Nat.add_mul, Nat.mul_assoc]
      omega
    omega
theorem newton_stop {n e x : Nat} (he : 1 ≤ e) (hx : 1 ≤ x) (h : x ≤ ((e - 1) * x + n / x ^ (e - 1)) / e) : x ^ e ≤ n := by
  obtain ⟨m, rfl⟩ : ∃ m, e = m + 1 := ⟨e - 1, by omega⟩
  rw [Nat.add_sub_cancel] at h
  have hy : 0 < x ^ m := Nat.pow_pos (by omega)
  rw [Nat.le_div_iff_mul_le (by omega)] at h
  have h2 : x ≤ n / x ^ m := by
    have : x * (m + 1) = m * x + x := by rw [Nat.mul_add, Nat.mul_one, Nat.mul_comm]
    omega
  rw [Nat.le_div_iff_mul_le hy] at h2
  rw [Nat.pow_succ, Nat.mul_comm]
  exact h2
theorem newton_start {n e : Nat} (he : 1 ≤ e) : rootN n e ≤ 2 ^ ((n.log2 + 1 + e - 1) / e) := by
  have h1 : n < 2 ^ (n.log2 + 1) := Nat.lt_log2_self
  have h2 : n.log2 + 1 ≤ (n.log2 + 1 + e - 1) / e * e := by
    have := Nat.lt_div_mul_add (a := n.log2 + 1 + e - 1) (b := e) (by omega)
    omega
  have h3 : (rootN n e) ^ e < (2 ^ ((n.log2 + 1 + e - 1) / e)) ^ e := by
    rw [← Nat.pow_mul]
    exact Nat.lt_of_le_of_lt (rootN_le he) (Nat.lt_of_lt_of_le h1 (Nat.pow_le_pow_right (by decide) h2))
  exact Nat.le_of_lt ((Nat.pow_lt_pow_iff_left (by omega : e ≠ 0)).mp h3)
theorem rootN_0 {e : Nat} (he : 1 ≤ e) : rootN 0 e = 0 := (rootN_is he (by rw [Nat.zero_pow (by omega)]; omega) (by simp)).symm
theorem rootN_1 {e : Nat} (he : 1 ≤ e) : rootN 1 e = 1 := (rootN_is he (by simp) (Nat.one_lt_two_pow (by omega))).symm
theorem rootN_pos {n e : Nat} (he : 1 ≤ e) (hn : 1 ≤ n) : 1 ≤ rootN n e := rootN_ge he (by simpa using hn)
end Pn
namespace Pn
/-! ### powers, the next one, the one before -/
def IsPow (m : Nat) : Prop := ∃ b e : Nat, 1 ≤ b ∧ 2 ≤ e ∧ m = b ^ e
def NextPow (n g : Nat) : Prop := IsPow g ∧ n < g ∧ ∀ m, IsPow m → n < m → g ≤ m
def PrevPow (n l : Nat) : Prop := IsPow l ∧ l ≤ n ∧ ∀ m, IsPow m → m ≤ n → m ≤ l
theorem NextPow.eq {n g g' : Nat} (h : NextPow n g) (h' : NextPow n g') : g = g' := Nat.le_antisymm (h.2.2 _ h'.1 h'.2.1) (h'.2.2 _ h.1 h.2.1)
theorem PrevPow.eq {n g g' : Nat} (h : PrevPow n g) (h' : PrevPow n g') : g = g' := Nat.le_antisymm (h'.2.2 _ h.1 h.2.1) (h.2.2 _ h'.1 h'.2.1)
theorem isPow_one : IsPow 1 := ⟨1, 2, by omega, by omega, rfl⟩
theorem IsPow.pos {m : Nat} (h : IsPow m) : 1 ≤ m := by
  obtain ⟨b, e, h1, h2, rfl⟩ := h
  exact Nat.pow_pos (by omega)
theorem IsPow.base {m : Nat} (h : IsPow m) (hm : 2 ≤ m) : ∃ b e : Nat, 2 ≤ b ∧ 2 ≤ e ∧ m = b ^ e := by
  obtain ⟨b, e, h1, h2, rfl⟩ := h
  rcases (by omega : b = 1 ∨ 2 ≤ b) with rfl | h
  · simp at hm
  · exact ⟨b, e, h, h2, rfl⟩
theorem IsPow.four {m : Nat} (h : IsPow m) (hm : 2 ≤ m) : 4 ≤ m := by
  obtain ⟨b, e, h1, h2, rfl⟩ := h.base hm
  calc 4 = 2 ^ 2 := rfl
    _ ≤ b ^ 2 := Nat.pow_le_pow_left h1 2
    _ ≤ b ^ e := Nat.pow_le_pow_right (by omega) h2
theorem isPow_root {n e : Nat} (he : 2 ≤ e) (hn : 1 ≤ n) : IsPow (rootN n e ^ e) := ⟨_, e, rootN_pos (by omega) hn, he, rfl⟩
theorem isPow_up {n e : Nat} (he : 2 ≤ e) : IsPow ((rootN n e + 1) ^ e) := ⟨_, e, by omega, he, rfl⟩
/-- g is the next power above n where it is one of these, or no more than a power of two, and none of these is less -/
theorem nextPow_of {n g T : Nat} (hn : 1 ≤ n) (hg : IsPow g) (hgn : n < g) (hgT : ∀ m, IsPow m → n < m → 2 ^ (T + 1) ≤ m → g ≤ m) (hm : ∀ e, 2 ≤ e → e ≤ T → g ≤ (rootN n e + 1) ^ e) : NextPow n g := by
  refine ⟨hg, hgn, fun m hp hm2 => ?_⟩
  obtain ⟨b, e, h1, h2, rfl⟩ := hp.base (by omega)
  rcases Nat.lt_or_ge T e with c | c
  · exact hgT _ hp hm2 (Nat.le_trans (Nat.pow_le_pow_right (by omega) c) (Nat.pow_le_pow_left h1 e))
  · refine Nat.le_trans (hm e h2 c) (Nat.pow_le_pow_left ?_ e)
    have h3 : (rootN n e) ^ e < b ^ e := Nat.lt_of_le_of_lt (rootN_le (by omega)) hm2
    exact (Nat.pow_lt_pow_iff_left (by omega : e ≠ 0)).mp h3
theorem prevPow_of {n l : Nat} (hn : 1 ≤ n) (hl : IsPow l) (hln : l ≤ n) (hm : ∀ e, 2 ≤ e → e ≤ n.log2 → rootN n e ^ e ≤ l) : PrevPow n l := by
  refine ⟨hl, hln, fun m hp hm2 => ?_⟩
  rcases (by have := hp.pos; omega : m = 1 ∨ 2 ≤ m) with rfl | h
  · exact hl.pos
  · obtain ⟨b, e, h1, h2, rfl⟩ := hp.base h
    have he : e ≤ n.log2 := (two_pow_le_iff (by omega)).mp (Nat.le_trans (Nat.pow_le_pow_left h1 e) hm2)
    exact Nat.le_trans (Nat.pow_le_pow_left (rootN_ge (by omega) hm2) e) (hm e h2 he)
theorem lt_two_pow_log (n : Nat) : n < 2 ^ (n.log2 + 1) := Nat.lt_log2_self
theorem rootN_big {n e : Nat} (hn : 1 ≤ n) (h : n.log2 < e) : rootN n e = 1 := (rootN_is (by omega) (by simpa using hn) (Nat.lt_of_lt_of_le (lt_two_pow_log n) (Nat.pow_le_pow_right (by decide) h))).symm
theorem isPow_iff {n : Nat} : IsPow n ↔ n = 1 ∨ ∃ e, 2 ≤ e ∧ 2 ^ e ≤ n ∧ rootN n e ^ e = n := by
  constructor
  · intro h
    rcases (by have := h.pos; omega : n = 1 ∨ 2 ≤ n) with rfl | h2
    · exact .inl rfl
    · obtain ⟨b, e, h3, h4, rfl⟩ := h.base h2
      exact .inr ⟨e, h4, Nat.pow_le_pow_left h3 e, by rw [rootN_pow (by omega)]⟩
  · rintro (rfl | ⟨e, h1, h2, h3⟩)
    · exact isPow_one
    · exact ⟨rootN n e, e, by have := (rootN_gt1 (n := n) (e := e) (by omega)).mpr h2; omega, h1, h3.symm⟩
def Beside (n : Nat) (l : Option Nat) (g : Nat) : Prop := (n = 0 → g = 1) ∧ (1 ≤ n → NextPow n g) ∧ (n ≤ 1 → l = none) ∧ (2 ≤ n → ∃ x, l = some x ∧ PrevPow (n - 1) x)
theorem Beside.eq {n : Nat} {l l' : Option Nat} {g g' : Nat} (h : Beside n l g) (h' : Beside n l' g') : l = l' ∧ g = g' := by
  obtain ⟨a1, a2, a3, a4⟩ := h
  obtain ⟨b1, b2, b3, b4⟩ := h'
  constructor
  · rcases Nat.lt_or_ge n 2 with c | c
    · rw [a3 (by omega), b3 (by omega)]
    · obtain ⟨x, rfl, hx⟩ := a4 c
      obtain ⟨y, rfl, hy⟩ := b4 c
      rw [hx.eq hy]
  · rcases Nat.eq_zero_or_pos n with c | c
    · rw [a1 c, b1 c]
    · exact (a2 c).eq (b2 c)
def Nearest (n r : Nat) : Prop := (n = 0 → r = 1) ∧ (1 ≤ n → ∃ l g, PrevPow n l ∧ NextPow n g ∧ r = if n - l ≤ g - n then l else g)
theorem Nearest.eq {n r r' : Nat} (h : Nearest n r) (h' : Nearest n r') : r = r' := by
  rcases Nat.eq_zero_or_pos n with c | c
  · rw [h.1 c, h'.1 c]
  · obtain ⟨l, g, h1, h2, h3⟩ := h.2 c
    obtain ⟨l', g', h1', h2', h3'⟩ := h'.2 c
    rw [h3, h3', h1.eq h1', h2.eq h2']
theorem near_pow {n r : Nat} (hp : IsPow n) (h : Nearest n r) : r = n := by
  obtain ⟨l, g, h1, h2, h3⟩ := h.2 hp.pos
  have e : l = n := h1.eq ⟨hp, Nat.le_refl _, fun m _ hm => hm⟩
  subst e
  rw [h3, if_pos (by omega)]
theorem small_pow {m : Nat} (hp : IsPow m) (hm : m < 8) : m = 1 ∨ m = 4 := by
  rcases (by have := hp.pos; omega : m = 1 ∨ 2 ≤ m) with h | h
  · exact .inl h
  · right
    obtain ⟨b, e, h1, h2, rfl⟩ := hp.base h
    rcases (by omega : b = 2 ∨ 3 ≤ b) with rfl | hb
    · rcases (by omega : e = 2 ∨ 3 ≤ e) with rfl | he
      · rfl
      · have : 2 ^ 3 ≤ 2 ^ e := Nat.pow_le_pow_right (by decide) he
        omega
    · have h3 : 3 ^ 2 ≤ b ^ 2 := Nat.pow_le_pow_left hb 2
      have h4 : b ^ 2 ≤ b ^ e := Nat.pow_le_pow_right (by omega) h2
      omega
theorem isPow_four : IsPow 4 := ⟨2, 2, by omega, by omega, rfl⟩
theorem isPow_eight : IsPow 8 := ⟨2, 3, by omega, by omega, rfl⟩
theorem next_one : NextPow 1 4 := ⟨isPow_four, by omega, fun m hp h => hp.four h⟩
theorem next_two : NextPow 2 4 := ⟨isPow_four, by omega, fun m hp h => hp.four (by omega)⟩
theorem prev_two : PrevPow 2 1 := ⟨isPow_one, by omega, fun m hp h => by
  rcases small_pow hp (by omega) with h | h <;> omega⟩
theorem prev_six : PrevPow 6 4 := ⟨isPow_four, by omega, fun m hp h => by
  rcases small_pow hp (by omega) with h | h <;> omega⟩
theorem next_six : NextPow 6 8 := ⟨isPow_eight, by omega, fun m hp h => by
  rcases Nat.lt_or_ge m 8 with c | c
  · rcases small_pow hp c with h | h <;> omega
  · exact c⟩
end Pn
namespace Pn
/-! ### all powers to a number, in order -/
open Classical in
noncomputable def powAt (i : Nat) : Option Nat := if IsPow (1 + i) then some (1 + i) else none
noncomputable def powL (k : Nat) : List Nat := (List.range k).filterMap powAt
theorem mem_powL {k m : Nat} : m ∈ powL k ↔ 1 ≤ m ∧ m ≤ k ∧ IsPow m := by
  unfold powL powAt
  simp only [List.mem_filterMap, List.mem_range]
  constructor
  · rintro ⟨i, hi, h⟩
    split at h
    · rename_i hp
      cases h
      exact ⟨by omega, by omega, hp⟩
    · cases h
  · rintro ⟨h1, h2, h3⟩
    refine ⟨m - 1, by omega, ?_⟩
    have e : 1 + (m - 1) = m := by omega
    rw [e, if_pos h3]
theorem powL_sorted (k : Nat) : (powL k).Pairwise (· < ·) := by
  unfold powL
  rw [List.pairwise_filterMap]
  refine List.Pairwise.imp (R := fun a b => a < b) ?_ List.pairwise_lt_range
  intro a b hab x hx y hy
  unfold powAt at hx hy
  split at hx
  · split at hy
    · cases hx
      cases hy
      omega
    · cases hy
  · cases hx
theorem last_ge : ∀ {l : List Nat} {z : Nat}, l.Pairwise (· < ·) → l.getLast? = some z → ∀ y ∈ l, y ≤ z
  | [], _, _, h, _, _ => by simp at h
  | [x], z, _, h, y, hy => by
    simp at h hy
    omega
  | x :: x' :: r, z, hp, h, y, hy => by
    rw [List.getLast?_cons_cons] at h
    rw [List.pairwise_cons] at hp
    have ih := last_ge hp.2 h
    rcases List.mem_cons.mp hy with rfl | hy
    · have := hp.1 x' List.mem_cons_self
      have := ih x' List.mem_cons_self
      omega
    · exact ih y hy
theorem bs_list {n k g : Nat} {r : List Nat} (hn : n < 500) (hk : n + 60 ≤ k) (hm : (powL k).filter (fun m => decide (n < m)) = g :: r) : Beside n ((powL k).filter fun m => decide (m < n)).getLast? g := by
  have hs : ((powL k).filter fun m => decide (n < m)).Pairwise (· < ·) := (powL_sorted k).filter _
  rw [hm, List.pairwise_cons] at hs
  have hg : g ∈ (powL k).filter (fun m => decide (n < m)) := by rw [hm]; exact List.mem_cons_self
  rw [List.mem_filter, mem_powL, decide_eq_true_eq] at hg
  obtain ⟨⟨g1, g2, g3⟩, g4⟩ := hg
  have hmin : ∀ m, IsPow m → n < m → g ≤ m := by
    intro m hp hnm
    rcases Nat.lt_or_ge k m with c | c
    · omega
    · have : m ∈ (powL k).filter (fun m => decide (n < m)) := by
        rw [List.mem_filter, mem_powL, decide_eq_true_eq]
        exact ⟨⟨hp.pos, c, hp⟩, hnm⟩
      rw [hm] at this
      rcases List.mem_cons.mp this with rfl | h
      · exact Nat.le_refl _
      · exact Nat.le_of_lt (hs.1 m h)
  refine ⟨fun h0 => ?_, fun _ => ⟨g3, g4, hmin⟩, fun h1 => ?_, fun h2 => ?_⟩
  · have := hmin 1 isPow_one (by omega)
    omega
  · have : (powL k).filter (fun m => decide (m < n)) = [] := by
      rw [List.filter_eq_nil_iff]
      intro m hm
      rw [mem_powL] at hm
      simp
      omega
    rw [this]
    rfl
  · have h1 : 1 ∈ (powL k).filter (fun m => decide (m < n)) := by
      rw [List.mem_filter, mem_powL, decide_eq_true_eq]
      exact ⟨⟨by omega, by omega, isPow_one⟩, by omega⟩
    have hne : (powL k).filter (fun m => decide (m < n)) ≠ [] := fun e => by
      rw [e] at h1
      cases h1
    have hl := List.getLast?_eq_some_getLast hne
    refine ⟨_, hl, ?_⟩
    have hmem := List.getLast_mem hne
    have hge := last_ge ((powL_sorted k).filter _) hl
    rw [List.mem_filter, mem_powL, decide_eq_true_eq] at hmem
    obtain ⟨⟨a1, a2, a3⟩, a4⟩ := hmem
    refine ⟨a3, by omega, fun m hp hm => hge m ?_⟩
    rw [List.mem_filter, mem_powL, decide_eq_true_eq]
    exact ⟨⟨hp.pos, by omega, hp⟩, by omega⟩
theorem more_ex {n k : Nat} (hn : n < 500) (hk : n + 60 ≤ k) : ∃ g r, (powL k).filter (fun m => decide (n < m)) = g :: r := by
  have h1 := rootN_le (n := n) (e := 2) (by omega)
  have h2 := rootN_lt (n := n) (e := 2) (by omega)
  have h3 : rootN n 2 ≤ 22 := by
    refine Nat.le_of_not_lt fun c => ?_
    have : 23 ^ 2 ≤ rootN n 2 ^ 2 := Nat.pow_le_pow_left c 2
    omega
  have hp : IsPow ((rootN n 2 + 1) ^ 2) := isPow_up (by omega)
  have h4 : (rootN n 2 + 1) ^ 2 = rootN n 2 ^ 2 + 2 * rootN n 2 + 1 := by grind
  have : (rootN n 2 + 1) ^ 2 ∈ (powL k).filter (fun m => decide (n < m)) := by
    rw [List.mem_filter, mem_powL, decide_eq_true_eq]
    exact ⟨⟨hp.pos, by omega, hp⟩, h2⟩
  cases e : (powL k).filter (fun m => decide (n < m)) with
  | nil =>
    rw [e] at this
    cases this
  | cons g r => exact ⟨g, r, rfl⟩
end Pn
namespace Pn
/-! ### how often a rest comes -/
def sumN : Nat → (Nat → Nat) → Nat
  | 0, _ => 0
  | n + 1, f => sumN n f + f n
theorem sumN_congr {f g : Nat → Nat} : ∀ n, (∀ i, i < n → f i = g i) → sumN n f = sumN n g
  | 0, _ => rfl
  | n + 1, h => by rw [sumN, sumN, sumN_congr n fun i hi => h i (by omega), h n (by omega)]
/-- one place is greater by a -/
theorem sumN_one {f g : Nat → Nat} {a : Nat} : ∀ n j, j < n → (∀ i, i < n → i ≠ j → f i = g i) → f j = g j + a → sumN n f = sumN n g + a
  | 0, _, h, _, _ => by omega
  | n + 1, j, h, h1, h2 => by
    rw [sumN, sumN]
    rcases Nat.lt_or_ge j n with c | c
    · rw [sumN_one n j c (fun i hi => h1 i (by omega)) h2, h1 n (by omega) (by omega)]
      omega
    · have : j = n := by omega
      subst this
      rw [sumN_congr j fun i hi => h1 i (by omega) (by omega), h2]
      omega
theorem sumN_zero {f : Nat → Nat} {m : Nat} : ∀ n, m ≤ n → (∀ i, m ≤ i → i < n → f i = 0) → sumN n f = sumN m f
  | 0, h, _ => by
    have : m = 0 := by omega
    rw [this]
  | n + 1, h, h1 => by
    rcases Nat.lt_or_ge n m with c | c
    · have : m = n + 1 := by omega
      rw [this]
    · rw [sumN, sumN_zero n c fun i a b => h1 i a (by omega), h1 n c (by omega)]
      omega
theorem div_succ' {m d : Nat} (hd : 0 < d) : (m + 1) / d = m / d + if (m + 1) % d = 0 then 1 else 0 := by
  have h1 := Nat.div_add_mod m d
  have h2 := Nat.mod_lt m hd
  by_cases c : m % d + 1 = d
  · have e : m + 1 = d * (m / d + 1) := by rw [Nat.mul_add, Nat.mul_one]; omega
    rw [if_pos]
    · conv => lhs; rw [e]
      rw [Nat.mul_div_cancel_left _ hd]
    · rw [e, Nat.mul_mod_right]
  · have e : m + 1 = d * (m / d) + (m % d + 1) := by omega
    rw [if_neg]
    · conv => lhs; rw [e]
      rw [Nat.mul_add_div hd, Nat.div_eq_of_lt (show m % d + 1 < d by omega)]
    · rw [e, Nat.mul_add_mod, Nat.mod_eq_of_lt (by omega)]
      omega
/-- by the bases 1, .., d below one another -/
def cntS (B e d r : Nat) : Nat := sumN d fun i => if (i + 1) ^ e % d = r then (B + d - (i + 1)) / d else 0
def cntR (B e d r : Nat) : Nat := sumN B fun i => if (i + 1) ^ e % d = r then 1 else 0
theorem pow_mod_eq {a b e d : Nat} (h : a % d = b % d) : a ^ e % d = b ^ e % d := by
  rw [Nat.pow_mod, h, ← Nat.pow_mod]
theorem cntS_succ {B e d r : Nat} (hd : 0 < d) : cntS (B + 1) e d r = cntS B e d r + if (B + 1) ^ e % d = r then 1 else 0 := by
  unfold cntS
  have hj : B % d < d := Nat.mod_lt B hd
  have hB := Nat.div_add_mod B d
  refine sumN_one d (B % d) hj (fun i hi hne => ?_) ?_
  · have e1 : B + 1 + d - (i + 1) = (B + d - (i + 1)) + 1 := by omega
    rw [e1, div_succ' hd, if_neg (c := (B + d - (i + 1) + 1) % d = 0)]
    · rfl
    · intro h
      apply hne
      have h2 : B + d - (i + 1) + 1 = d * (B / d) + (B % d + d - i) := by omega
      rw [h2, Nat.mul_add_mod] at h
      rcases Nat.lt_or_ge (B % d + d - i) d with c | c
      · rw [Nat.mod_eq_of_lt c] at h
        omega
      · have h3 : B % d + d - i = (B % d - i) + d := by omega
        rw [h3, Nat.add_mod_right, Nat.mod_eq_of_lt (by omega)] at h
        omega
  · have hc : (B % d + 1) ^ e % d = (B + 1) ^ e % d := pow_mod_eq (by rw [Nat.mod_add_mod])
    rw [hc]
    by_cases c : (B + 1) ^ e % d = r
    · rw [if_pos c, if_pos c, if_pos c]
      have e1 : B + 1 + d - (B % d + 1) = (B + d - (B % d + 1)) + 1 := by omega
      rw [e1, div_succ' hd, if_pos]
      have h2 : B + d - (B % d + 1) + 1 = d * (B / d) + d := by omega
      rw [h2, Nat.mul_add_mod, Nat.mod_self]
    · rw [if_neg c, if_neg c, if_neg c]
theorem cntS_zero {e d r : Nat} (hd : 0 < d) : cntS 0 e d r = 0 := by
  unfold cntS
  rw [sumN_zero (m := 0) d (by omega)]
  · rfl
  · intro i _ hi
    split
    · rw [Nat.div_eq_of_lt (by omega)]
    · rfl
theorem cntS_eq {e d r : Nat} (hd : 0 < d) : ∀ B, cntS B e d r = cntR B e d r
  | 0 => cntS_zero hd
  | B + 1 => by
    rw [cntS_succ hd, cntS_eq hd B]
    rfl
/-- as the program sums -/
theorem cnt_prog {B e d r : Nat} (hd : 0 < d) : sumN (min d B) (fun i => if (i + 1) ^ e % d = r then (B - (i + 1)) / d + 1 else 0) = cntS B e d r := by
  unfold cntS
  rw [sumN_zero (m := min d B) d (by omega)]
  · refine sumN_congr _ fun i hi => ?_
    split
    · rw [show B + d - (i + 1) = (B - (i + 1)) + d by omega, Nat.add_div_right _ hd]
    · rfl
  · intro i h1 h2
    split
    · rw [Nat.div_eq_of_lt (by omega)]
    · rfl
theorem sumN_shift (f : Nat → Nat) : ∀ n, sumN (n + 1) f = f 0 + sumN n fun i => f (i + 1)
  | 0 => by simp [sumN]
  | n + 1 => by
    rw [sumN, sumN_shift f n, sumN]
    omega
/-- as the law sums: by the bases 0, .., d - 1 -/
theorem cnt_law {B e d r : Nat} (hd : 0 < d) : sumN d (fun i => if i ^ e % d = r then (B + d - i) / d - (if i = 0 then 1 else 0) else 0) = cntS B e d r := by
  obtain ⟨m, rfl⟩ : ∃ m, d = m + 1 := ⟨d - 1, by omega⟩
  unfold cntS
  rw [sumN_shift, sumN]
  have h0 : (0 : Nat) ^ e % (m + 1) = (m + 1) ^ e % (m + 1) := pow_mod_eq (by simp)
  have h1 : (if (0 : Nat) ^ e % (m + 1) = r then (B + (m + 1) - 0) / (m + 1) - (if (0 : Nat) = 0 then 1 else 0) else 0) = if (m + 1) ^ e % (m + 1) = r then (B + (m + 1) - (m + 1)) / (m + 1) else 0 := by
    rw [h0]
    split
    · rw [if_pos rfl, Nat.sub_zero, Nat.add_div_right _ hd, Nat.add_sub_cancel, Nat.add_sub_cancel]
    · rfl
  rw [h1, Nat.add_comm]
  congr 1
/-- a rest by halves -/
theorem rest_step1 {f b e d X : Nat} (h : f * b ^ e % d = X) (he : e % 2 = 1) : (f * b % d) * (b * b % d) ^ (e / 2) % d = X := by
  have e1 : e = 2 * (e / 2) + 1 := by omega
  have e2 : b ^ e = b * (b * b) ^ (e / 2) := by
    conv => lhs; rw [e1]
    rw [Nat.pow_succ, Nat.pow_mul, Nat.pow_two, Nat.mul_comm]
  rw [e2, ← Nat.mul_assoc] at h
  rw [Nat.mul_mod, Nat.mod_mod, ← Nat.pow_mod, ← Nat.mul_mod]
  exact h
theorem rest_step0 {f b e d X : Nat} (h : f * b ^ e % d = X) (he : e % 2 = 0) : f * (b * b % d) ^ (e / 2) % d = X := by
  have e1 : e = 2 * (e / 2) := by omega
  have e2 : b ^ e = (b * b) ^ (e / 2) := by
    conv => lhs; rw [e1]
    rw [Nat.pow_mul, Nat.pow_two]
  rw [e2] at h
  rw [Nat.mul_mod, ← Nat.pow_mod, ← Nat.mul_mod]
  exact h
theorem count_cntR (e d r : Nat) : ∀ B, ((List.range B).map fun i => (((1 + i) ^ e % d : Nat) : Int)).count (r : Int) = cntR B e d r
  | 0 => rfl
  | B + 1 => by
    have ih := count_cntR e d r B
    rw [List.range_succ, List.map_append, List.count_append, ih]
    unfold cntR
    rw [sumN]
    congr 1
    rw [List.map_singleton, List.count_singleton, Nat.add_comm 1 B]
    by_cases h : (B + 1) ^ e % d = r
    · rw [if_pos h, if_pos (by rw [h]; exact beq_self_eq_true _)]
    · rw [if_neg h, if_neg (by rw [beq_iff_eq]; omega)]
end Pn
namespace Pn
/-! ### by which exponents a number is a power -/
theorem pow_inj_left {a b n : Nat} (hn : n ≠ 0) (h : a ^ n = b ^ n) : a = b := by
  rcases Nat.lt_trichotomy a b with c | c | c
  · have := Nat.pow_lt_pow_left c hn
    omega
  · exact c
  · have := Nat.pow_lt_pow_left c hn
    omega
theorem dvd_of_pow_dvd {a b n : Nat} (hn : n ≠ 0) (h : a ^ n ∣ b ^ n) : a ∣ b := (Nat.pow_dvd_pow_iff hn).mp h
/-- two powers that are one, by exponents with nothing in common -/
theorem coprime_pow : ∀ (s a b x y : Nat), a + b ≤ s → 1 ≤ a → 1 ≤ b → 1 ≤ x → 1 ≤ y → Nat.gcd a b = 1 → x ^ a = y ^ b → ∃ z, x = z ^ b ∧ y = z ^ a
  | 0, a, b, _, _, h, ha, _, _, _, _, _ => by omega
  | s + 1, a, b, x, y, h, ha, hb, hx, hy, hg, he => by
    rcases Nat.lt_trichotomy a b with c | c | c
    · -- y divides x
      have hd : y ∣ x := dvd_of_pow_dvd (n := a) (by omega) (by rw [he]; exact Nat.pow_dvd_pow y (by omega))
      obtain ⟨k, rfl⟩ := hd
      have hk : 1 ≤ k := by
        rcases Nat.eq_zero_or_pos k with rfl | h0
        · simp at hx
        · exact h0
      have e1 : k ^ a = y ^ (b - a) := by
        have h1 : y ^ a * k ^ a = y ^ a * y ^ (b - a) := by
          rw [← Nat.mul_pow, he, ← Nat.pow_add]
          congr 1
          omega
        exact Nat.eq_of_mul_eq_mul_left (Nat.pow_pos (by omega)) h1
      have hg2 : Nat.gcd a (b - a) = 1 := by
        rw [Nat.gcd_sub_self_right (by omega)]
        exact hg
      obtain ⟨z, h1, h2⟩ := coprime_pow s a (b - a) k y (by omega) ha (by omega) hk hy hg2 e1
      refine ⟨z, ?_, h2⟩
      rw [h1, h2, ← Nat.pow_add]
      congr 1
      omega
    · subst c
      rw [Nat.gcd_self] at hg
      subst hg
      simp at he
      exact ⟨x, by simp, by simpa using he.symm⟩
    · have hd : x ∣ y := dvd_of_pow_dvd (n := b) (by omega) (by rw [← he]; exact Nat.pow_dvd_pow x (by omega))
      obtain ⟨k, rfl⟩ := hd
      have hk : 1 ≤ k := by
        rcases Nat.eq_zero_or_pos k with rfl | h0
        · simp at hy
        · exact h0
      have e1 : x ^ (a - b) = k ^ b := by
        have h1 : x ^ b * x ^ (a - b) = x ^ b * k ^ b := by
          rw [← Nat.mul_pow, ← he, ← Nat.pow_add]
          congr 1
          omega
        exact Nat.eq_of_mul_eq_mul_left (Nat.pow_pos (by omega)) h1
      have hg2 : Nat.gcd (a - b) b = 1 := by
        rw [Nat.gcd_sub_self_left (by omega)]
        exact hg
      obtain ⟨z, h1, h2⟩ := coprime_pow s (a - b) b x k (by omega) (by omega) hb hx hk hg2 e1
      refine ⟨z, h1, ?_⟩
      rw [h1, h2, ← Nat.pow_add]
      congr 1
      omega
/-- m is a power by e -/
def PowBy (m e : Nat) : Prop := ∃ b, m = b ^ e
theorem PowBy.lcm {m a b : Nat} (hm : 1 ≤ m) (ha : 1 ≤ a) (hb : 1 ≤ b) (h1 : PowBy m a) (h2 : PowBy m b) : PowBy m (Nat.lcm a b) := by
  obtain ⟨x, hx⟩ := h1
  obtain ⟨y, hy⟩ := h2
  have hg : 0 < Nat.gcd a b := Nat.gcd_pos_of_pos_left b ha
  have hx1 : 1 ≤ x := by
    rcases Nat.eq_zero_or_pos x with rfl | h
    · rw [Nat.zero_pow ha] at hx
      omega
    · exact h
  have hy1 : 1 ≤ y := by
    rcases Nat.eq_zero_or_pos y with rfl | h
    · rw [Nat.zero_pow hb] at hy
      omega
    · exact h
  have ea : a = a / Nat.gcd a b * Nat.gcd a b := (Nat.div_mul_cancel (Nat.gcd_dvd_left a b)).symm
  have eb : b = b / Nat.gcd a b * Nat.gcd a b := (Nat.div_mul_cancel (Nat.gcd_dvd_right a b)).symm
  have h3 : x ^ (a / Nat.gcd a b) = y ^ (b / Nat.gcd a b) := by
    refine pow_inj_left (n := Nat.gcd a b) (by omega) ?_
    rw [← Nat.pow_mul, ← Nat.pow_mul, ← ea, ← eb, ← hx, ← hy]
  have ha' : 1 ≤ a / Nat.gcd a b := Nat.div_pos (Nat.gcd_le_left b ha) hg
  have hb' : 1 ≤ b / Nat.gcd a b := Nat.div_pos (Nat.gcd_le_right a hb) hg
  have hc : Nat.gcd (a / Nat.gcd a b) (b / Nat.gcd a b) = 1 := by rw [Nat.gcd_div (Nat.gcd_dvd_left a b) (Nat.gcd_dvd_right a b), Nat.div_self hg]
  obtain ⟨z, h4, h5⟩ := coprime_pow _ _ _ x y (Nat.le_refl _) ha' hb' hx1 hy1 hc h3
  refine ⟨z, ?_⟩
  rw [hx, h4, ← Nat.pow_mul]
  congr 1
  unfold Nat.lcm
  rw [Nat.mul_comm a b]
  conv => lhs; rw [ea]
  rw [← Nat.mul_assoc, Nat.mul_comm]
  have : b / Nat.gcd a b * a = b * a / Nat.gcd a b := by
    rw [Nat.mul_comm b a, Nat.mul_div_assoc a (Nat.gcd_dvd_right a b), Nat.mul_comm]
  rw [← this]
  conv => rhs; rw [ea]
  rw [Nat.mul_comm (Nat.gcd a b), Nat.mul_assoc]
theorem powBy_iff {m e : Nat} (he : 1 ≤ e) : PowBy m e ↔ rootN m e ^ e = m := by
  constructor
  · rintro ⟨b, rfl⟩
    rw [rootN_pow he]
  · intro h
    exact ⟨_, h.symm⟩
instance powByDec (m e : Nat) : Decidable (1 ≤ e ∧ PowBy m e) :=
  if h : 1 ≤ e then
    if h2 : rootN m e ^ e = m then isTrue ⟨h, (powBy_iff h).mpr h2⟩ else isFalse fun c => h2 ((powBy_iff h).mp c.2)
  else isFalse fun c => h c.1
/-- the greatest exponent by which m (from 2 on) is a power, 1 where it is none -/
def gexpD (m : Nat) : Nat → Nat
  | 0 => 1
  | k + 1 => if rootN m (k + 1) ^ (k + 1) = m then k + 1 else gexpD m k
def gexp (m : Nat) : Nat := gexpD m m.log2
theorem gexpD_spec (m : Nat) : ∀ k, 1 ≤ gexpD m k ∧ PowBy m (gexpD m k) ∧ ∀ e, 1 ≤ e → e ≤ k → PowBy m e → e ≤ gexpD m k
  | 0 => ⟨Nat.le_refl _, ⟨m, by rw [gexpD, Nat.pow_one]⟩, fun e h1 h2 => by omega⟩
  | k + 1 => by
    obtain ⟨h1, h2, h3⟩ := gexpD_spec m k
    rw [gexpD]
    split
    · rename_i h
      exact ⟨by omega, (powBy_iff (by omega)).mpr h, fun e a b _ => b⟩
    · rename_i h
      refine ⟨h1, h2, fun e a b c => ?_⟩
      rcases Nat.lt_or_ge e (k + 1) with d | d
      · exact h3 e a (by omega) c
      · have : e = k + 1 := by omega
        subst this
        exact (h ((powBy_iff (by omega)).mp c)).elim
theorem powBy_le {m e : Nat} (hm : 2 ≤ m) (h : PowBy m e) : e ≤ m.log2 := by
  obtain ⟨b, rfl⟩ := h
  have hb : 2 ≤ b := by
    rcases (by omega : b = 0 ∨ b = 1 ∨ 2 ≤ b) with rfl | rfl | h
    · rcases Nat.eq_zero_or_pos e with rfl | h
      · simp at hm
      · rw [Nat.zero_pow h] at hm
        omega
    · simp at hm
    · exact h
  exact (two_pow_le_iff (by omega)).mp (Nat.pow_le_pow_left hb e)
theorem gexp_pos (m : Nat) : 1 ≤ gexp m := (gexpD_spec m _).1
theorem gexp_by (m : Nat) : PowBy m (gexp m) := (gexpD_spec m _).2.1
theorem gexp_max {m e : Nat} (hm : 2 ≤ m) (he : 1 ≤ e) (h : PowBy m e) : e ≤ gexp m := (gexpD_spec m _).2.2 e he (powBy_le hm h) h
theorem gexp_le {m : Nat} (hm : 2 ≤ m) : gexp m ≤ m.log2 := powBy_le hm (gexp_by m)
/-- a number is a power by just the divisors of its greatest exponent -/
theorem powBy_dvd {m e : Nat} (hm : 2 ≤ m) (he : 1 ≤ e) : PowBy m e ↔ e ∣ gexp m := by
  constructor
  · intro h
    have h1 := PowBy.lcm (by omega) he (gexp_pos m) h (gexp_by m)
    have h2 : 1 ≤ Nat.lcm e (gexp m) := Nat.lcm_pos he (gexp_pos m)
    have h3 := gexp_max hm h2 h1
    have h4 : gexp m ∣ Nat.lcm e (gexp m) := Nat.dvd_lcm_right _ _
    have h5 : Nat.lcm e (gexp m) = gexp m := Nat.le_antisymm h3 (Nat.le_of_dvd h2 h4)
    rw [← h5]
    exact Nat.dvd_lcm_left _ _
  · rintro ⟨k, hk⟩
    obtain ⟨b, hb⟩ := gexp_by m
    refine ⟨b ^ k, ?_⟩
    rw [← Nat.pow_mul, Nat.mul_comm k e, ← hk]
    exact hb
theorem isPow_gexp {m : Nat} (hm : 2 ≤ m) : IsPow m ↔ 2 ≤ gexp m := by
  constructor
  · intro h
    obtain ⟨b, e, h1, h2, h3⟩ := h.base hm
    exact Nat.le_trans h2 (gexp_max hm (by omega) ⟨b, h3⟩)
  · intro h
    obtain ⟨b, hb⟩ := gexp_by m
    refine ⟨b, gexp m, ?_, h, hb⟩
    rcases Nat.eq_zero_or_pos b with rfl | hb0
    · rw [Nat.zero_pow (by omega)] at hb
      omega
    · exact hb0
end Pn
namespace Pn
/-! ### how many powers there are to a number -/
theorem sumN_add (f g : Nat → Nat) : ∀ n, sumN n (fun i => f i + g i) = sumN n f + sumN n g
  | 0 => rfl
  | n + 1 => by
    rw [sumN, sumN, sumN, sumN_add f g n]
    omega
theorem sumN_nil : ∀ n, sumN n (fun _ => 0) = 0
  | 0 => rfl
  | n + 1 => by rw [sumN, sumN_nil n]
theorem sumN_swap (f : Nat → Nat → Nat) (m : Nat) : ∀ n, sumN n (fun i => sumN m fun j => f i j) = sumN m fun j => sumN n fun i => f i j
  | 0 => by
    show 0 = sumN m fun _ => 0
    rw [sumN_nil]
  | n + 1 => by
    rw [sumN, sumN_swap f m n, ← sumN_add]
    rfl
/-- just one place has 1 -/
theorem sumN_point {n j : Nat} {f : Nat → Nat} (hj : j < n) (h1 : f j = 1) (h0 : ∀ i, i < n → i ≠ j → f i = 0) : sumN n f = 1 := by
  have := sumN_one (f := f) (g := fun _ => 0) (a := 1) n j hj h0 (by rw [h1])
  rw [this, sumN_nil]
def cg (n e : Nat) : Nat := sumN (n + 1) fun m => if 2 ≤ m ∧ gexp m = e then 1 else 0
def cb (n e : Nat) : Nat := sumN (n + 1) fun m => if 2 ≤ m ∧ rootN m e ^ e = m then 1 else 0
def cp (n : Nat) : Nat := sumN (n + 1) fun m => if 2 ≤ m ∧ 2 ≤ gexp m then 1 else 0
theorem rootN_succ {n e : Nat} (he : 1 ≤ e) : rootN (n + 1) e = rootN n e + if rootN (n + 1) e ^ e = n + 1 then 1 else 0 := by
  have h1 := rootN_le (n := n) he
  have h2 := rootN_lt (n := n) he
  rcases Nat.lt_or_ge (n + 1) ((rootN n e + 1) ^ e) with c | c
  · have e1 : rootN n e = rootN (n + 1) e := rootN_is he (by omega) c
    rw [if_neg, ← e1, Nat.add_zero]
    rw [← e1]
    omega
  · have c2 : (rootN n e + 1) ^ e = n + 1 := by omega
    have e1 : rootN n e + 1 = rootN (n + 1) e := rootN_is he (by omega) (by rw [← c2]; exact Nat.pow_lt_pow_left (by omega) (by omega))
    rw [if_pos, ← e1]
    rw [← e1]
    exact c2
theorem cb_root {e : Nat} (he : 1 ≤ e) : ∀ n, 1 ≤ n → cb n e + 1 = rootN n e
  | 0, h => by omega
  | 1, _ => by
    rw [rootN_1 he]
    unfold cb
    rw [sumN, sumN, sumN]
    simp
  | n + 2, _ => by
    have ih := cb_root he (n + 1) (by omega)
    have e1 : cb (n + 2) e = cb (n + 1) e + if rootN (n + 2) e ^ e = n + 2 then 1 else 0 := by
      show sumN (n + 2 + 1) _ = sumN (n + 1 + 1) _ + _
      rw [sumN]
      congr 1
      by_cases h : rootN (n + 2) e ^ e = n + 2
      · rw [if_pos h, if_pos ⟨by omega, h⟩]
      · rw [if_neg h, if_neg fun c => h c.2]
    have e2 : rootN (n + 2) e = rootN (n + 1) e + if rootN (n + 2) e ^ e = n + 2 then 1 else 0 := rootN_succ he
    omega
theorem cb_sum {n e K : Nat} (he : 1 ≤ e) (hK : n.log2 < (K + 1) * e) : cb n e = sumN K fun i => cg n ((i + 1) * e) := by
  unfold cg
  rw [← sumN_swap (fun m i => if 2 ≤ m ∧ gexp m = (i + 1) * e then 1 else 0)]
  unfold cb
  refine sumN_congr _ fun m hm => ?_
  by_cases h2 : 2 ≤ m
  · have hmn : m.log2 ≤ n.log2 := by
      rw [Nat.le_log2 (by omega)]
      exact Nat.le_trans (Nat.log2_self_le (by omega)) (by omega)
    by_cases hp : rootN m e ^ e = m
    · rw [if_pos ⟨h2, hp⟩]
      have hd := (powBy_dvd h2 he).mp ((powBy_iff he).mpr hp)
      obtain ⟨k, hk⟩ := hd
      have hk1 : 1 ≤ k := by
        rcases Nat.eq_zero_or_pos k with rfl | h
        · have := gexp_pos m
          omega
        · exact h
      have hkK : k < K + 1 := by
        have h3 : e * k < (K + 1) * e := by
          have := gexp_le h2
          omega
        rw [Nat.mul_comm] at h3
        exact Nat.lt_of_mul_lt_mul_right h3
      refine (sumN_point (j := k - 1) (by omega) ?_ fun i hi hne => ?_).symm
      · rw [if_pos]
        refine ⟨h2, ?_⟩
        rw [show k - 1 + 1 = k by omega, hk, Nat.mul_comm]
      · rw [if_neg]
        rintro ⟨_, h4⟩
        rw [hk, Nat.mul_comm] at h4
        have := Nat.eq_of_mul_eq_mul_right (by omega) h4
        omega
    · rw [if_neg fun c => hp c.2]
      rw [sumN_congr (g := fun _ => 0) K, sumN_nil]
      intro i hi
      rw [if_neg]
      rintro ⟨_, h4⟩
      exact hp ((powBy_iff he).mp ((powBy_dvd h2 he).mpr ⟨i + 1, by rw [h4, Nat.mul_comm]⟩))
  · rw [if_neg fun c => h2 c.1]
    rw [sumN_congr (g := fun _ => 0) K, sumN_nil]
    intro i hi
    rw [if_neg fun c => h2 c.1]
theorem cp_sum {n L : Nat} (hL : n.log2 ≤ L + 1) : cp n = sumN L fun i => cg n (i + 2) := by
  unfold cg
  rw [← sumN_swap (fun m i => if 2 ≤ m ∧ gexp m = i + 2 then 1 else 0)]
  unfold cp
  refine sumN_congr _ fun m hm => ?_
  by_cases h2 : 2 ≤ m ∧ 2 ≤ gexp m
  · rw [if_pos h2]
    have hmn : m.log2 ≤ n.log2 := by
      rw [Nat.le_log2 (by omega)]
      exact Nat.le_trans (Nat.log2_self_le (by omega)) (by omega)
    have := gexp_le h2.1
    refine (sumN_point (j := gexp m - 2) (by omega) ?_ fun i hi hne => ?_).symm
    · rw [if_pos ⟨h2.1, by omega⟩]
    · rw [if_neg]
      rintro ⟨_, h4⟩
      omega
  · rw [if_neg h2]
    rw [sumN_congr (g := fun _ => 0) L, sumN_nil]
    intro i hi
    rw [if_neg]
    rintro ⟨h3, h4⟩
    exact h2 ⟨h3, by omega⟩
/-- how many powers there are to n -/
noncomputable def cntP (n : Nat) : Nat := (powL n).length
theorem powL_succ (n : Nat) : powL (n + 1) = powL n ++ (powAt n).toList := by
  unfold powL
  rw [List.range_succ, List.filterMap_append]
  cases e : powAt n <;> simp [e]
theorem cntP_zero : cntP 0 = 0 := rfl
open Classical in
theorem cntP_succ (n : Nat) : cntP (n + 1) = cntP n + if IsPow (n + 1) then 1 else 0 := by
  unfold cntP
  rw [powL_succ, List.length_append]
  congr 1
  unfold powAt
  rw [Nat.add_comm 1 n]
  by_cases h : IsPow (n + 1)
  · rw [if_pos h, if_pos h]
    rfl
  · rw [if_neg h, if_neg h]
    rfl
theorem cntP_cp : ∀ n, 1 ≤ n → cntP n = 1 + cp n
  | 0, h => by omega
  | 1, _ => by
    rw [cntP_succ, cntP_zero, if_pos isPow_one]
    rfl
  | n + 2, _ => by
    have ih := cntP_cp (n + 1) (by omega)
    rw [cntP_succ, ih]
    have e1 : cp (n + 2) = cp (n + 1) + if 2 ≤ gexp (n + 2) then 1 else 0 := by
      show sumN (n + 2 + 1) _ = sumN (n + 1 + 1) _ + _
      rw [sumN]
      congr 1
      by_cases h : 2 ≤ gexp (n + 2)
      · rw [if_pos h, if_pos ⟨by omega, h⟩]
      · rw [if_neg h, if_neg fun c => h c.2]
    rw [e1]
    have := isPow_gexp (m := n + 2) (by omega)
    by_cases h : IsPow (n + 2)
    · rw [if_pos h, if_pos (this.mp h)]
      omega
    · rw [if_neg h, if_neg fun c => h (this.mpr c)]
      omega
theorem cntP_mono {a b : Nat} (h : a ≤ b) : cntP a ≤ cntP b := by
  induction b with
  | zero =>
    have : a = 0 := by omega
    rw [this]
    exact Nat.le_refl _
  | succ b ih =>
    rcases Nat.lt_or_ge a (b + 1) with c | c
    · exact Nat.le_trans (ih (by omega)) (by rw [cntP_succ]; omega)
    · have : a = b + 1 := by omega
      rw [this]
      exact Nat.le_refl _
theorem cntP_le (n : Nat) : cntP n ≤ n := by
  induction n with
  | zero => exact Nat.le_refl _
  | succ n ih =>
    rw [cntP_succ]
    split <;> omega
end Pn
namespace Pn
/-! ### sums turned about, and the counts by greatest exponents -/
theorem sumN_head (f : Nat → Nat) : ∀ n, sumN (n + 1) f = f 0 + sumN n (fun i => f (i + 1))
  | 0 => by simp [sumN]
  | n + 1 => by
    rw [sumN, sumN_head f n, sumN]
    omega
theorem sumN_congr' {f g : Nat → Nat} : ∀ {n : Nat}, (∀ i, i < n → f i = g i) → sumN n f = sumN n g
  | 0, _ => rfl
  | n + 1, h => by rw [sumN, sumN, sumN_congr' (fun i hi => h i (by omega)), h n (by omega)]
theorem sumN_rev (f : Nat → Nat) : ∀ n, sumN n (fun i => f (n - 1 - i)) = sumN n f
  | 0 => rfl
  | n + 1 => by
    rw [sumN_head]
    have e : sumN n (fun i => f (n + 1 - 1 - (i + 1))) = sumN n (fun i => f (n - 1 - i)) := sumN_congr' fun i hi => by
      congr 1
      omega
    rw [e, sumN_rev f n, sumN]
    simp
    omega
theorem sum_range (f : Nat → Nat) : ∀ n, ((List.range n).map fun i => (f i : Int)).sum = (sumN n f : Int)
  | 0 => rfl
  | n + 1 => by
    rw [List.range_succ, List.map_append, List.sum_append, sum_range f n, sumN]
    simp
/-- the exponents from the greatest one down to 2 -/
def dn (M k : Nat) : List Nat := (List.range k).map fun j => M - j
theorem mem_dn {M k e : Nat} (hk : k ≤ M) : e ∈ dn M k ↔ M - k < e ∧ e ≤ M := by
  unfold dn
  rw [List.mem_map]
  constructor
  · rintro ⟨j, hj, rfl⟩
    have := List.mem_range.mp hj
    omega
  · intro h
    exact ⟨M - e, List.mem_range.mpr (by omega), by omega⟩
theorem dn_succ (M k : Nat) : dn M (k + 1) = dn M k ++ [M - k] := by
  unfold dn
  rw [List.range_succ, List.map_append]
  rfl
theorem dn_len (M k : Nat) : (dn M k).length = k := by simp [dn]
/-- the step of the counts -/
theorem cg_step {n e : Nat} (hn : 1 ≤ n) (h2 : 2 ≤ e) (he : e ≤ n.log2) : ((rootN n e : Nat) : Int) - 1 - ((sumN (n.log2 / e - 1) fun j => cg n ((j + 2) * e) : Nat) : Int) = (cg n e : Nat) := by
  have h1 := cb_root (e := e) (by omega) n hn
  have hd : 1 ≤ n.log2 / e := (Nat.le_div_iff_mul_le (by omega)).mpr (by omega)
  have hk : n.log2 < (n.log2 / e + 1) * e := by
    have := Nat.lt_mul_div_succ n.log2 (show 0 < e by omega)
    rw [Nat.mul_comm] at this
    exact this
  have h3 := cb_sum (n := n) (e := e) (K := n.log2 / e) (by omega) hk
  obtain ⟨k, hk'⟩ : ∃ k, n.log2 / e = k + 1 := ⟨n.log2 / e - 1, by omega⟩
  rw [hk'] at h3 ⊢
  rw [sumN_head] at h3
  have e1 : sumN k (fun i => cg n ((i + 1 + 1) * e)) = sumN k (fun j => cg n ((j + 2) * e)) := rfl
  rw [e1] at h3
  simp only [Nat.zero_add, Nat.one_mul, Nat.add_sub_cancel] at h3 ⊢
  omega
theorem cg_all {n : Nat} (hn : 1 ≤ n) : 1 + ((dn (max 1 n.log2) (max 1 n.log2 - 1)).map fun e => ((cg n e : Nat) : Int)).sum = ((cntP n : Nat) : Int) := by
  generalize hM : max 1 n.log2 = M
  have h1 := cntP_cp n hn
  have h2 := cp_sum (n := n) (L := M - 1) (by omega)
  have h3 : ((dn M (M - 1)).map fun e => ((cg n e : Nat) : Int)).sum = ((sumN (M - 1) (fun i => cg n (M - i)) : Nat) : Int) := by
    rw [← sum_range]
    unfold dn
    rw [List.map_map]
    rfl
  have h4 : sumN (M - 1) (fun i => cg n (M - i)) = sumN (M - 1) (fun i => cg n (i + 2)) := by
    rw [← sumN_rev (fun i => cg n (i + 2)) (M - 1)]
    exact sumN_congr' fun i hi => by
      congr 1
      omega
  rw [h3, h4, h1, h2]
  omega
end Pn
namespace Pn
/-! ### signs of numbers, in and out -/
/-- a turn of the law's own going along the primes: what is left, and the sign -/
def sgnN (g : Nat) : Nat → Nat × Int
  | 0 => (g, 1)
  | k + 1 => if (sgnN g k).1 % (k + 2) = 0 then ((sgnN g k).1 / (k + 2), if (sgnN g k).1 / (k + 2) % (k + 2) = 0 then 0 else 0 - (sgnN g k).2) else sgnN g k
def sg (g : Nat) : Int := if g = 0 then 0 else (sgnN g (g - 1)).2
def sumZ : Nat → (Nat → Int) → Int
  | 0, _ => 0
  | n + 1, f => sumZ n f + f n
theorem sumZ_congr {f g : Nat → Int} : ∀ {n : Nat}, (∀ i, i < n → f i = g i) → sumZ n f = sumZ n g
  | 0, _ => rfl
  | n + 1, h => by rw [sumZ, sumZ, sumZ_congr (fun i hi => h i (by omega)), h n (by omega)]
theorem sumZ_add (f g : Nat → Int) : ∀ n, sumZ n (fun i => f i + g i) = sumZ n f + sumZ n g
  | 0 => rfl
  | n + 1 => by
    rw [sumZ, sumZ, sumZ, sumZ_add f g n]
    omega
theorem sumZ_nil : ∀ n, sumZ n (fun _ => 0) = 0
  | 0 => rfl
  | n + 1 => by rw [sumZ, sumZ_nil n]; rfl
theorem sumZ_swap (f : Nat → Nat → Int) (m : Nat) : ∀ n, sumZ n (fun i => sumZ m fun j => f i j) = sumZ m fun j => sumZ n fun i => f i j
  | 0 => (sumZ_nil m).symm
  | n + 1 => by
    rw [sumZ, sumZ_swap f m n, ← sumZ_add]
    rfl
theorem sumZ_mul (c : Int) (f : Nat → Int) : ∀ n, sumZ n (fun i => c * f i) = c * sumZ n f
  | 0 => by simp [sumZ]
  | n + 1 => by rw [sumZ, sumZ, sumZ_mul c f n, Int.mul_add]
theorem sumZ_nat (f : Nat → Nat) : ∀ n, sumZ n (fun i => (f i : Int)) = ((sumN n f : Nat) : Int)
  | 0 => rfl
  | n + 1 => by
    rw [sumZ, sumZ_nat f n, sumN]
    simp
theorem sumZ_zero {f : Nat → Int} {m : Nat} : ∀ n, m ≤ n → (∀ i, m ≤ i → i < n → f i = 0) → sumZ n f = sumZ m f
  | 0, h, _ => by
    have : m = 0 := by omega
    rw [this]
  | n + 1, h, h0 => by
    by_cases e : m = n + 1
    · rw [e]
    · rw [sumZ, sumZ_zero n (by omega) (fun i hi hi2 => h0 i hi (by omega)), h0 n (by omega) (by omega)]
      omega
theorem sg_list : (List.range 141).map sg = [0, 1, -1, -1, 0, -1, 1, -1, 0, 0, 1, -1, 0, -1, 1, 1, 0, -1, 0, -1, 0, 1, 1, -1, 0, 0, 1, 0, 0, -1, -1, -1, 0, 1, 1, 1, 0, -1, 1, 1, 0, -1, -1, -1, 0, 0, 1, -1, 0, 0, 0, 1, 0, -1, 0, 1, 0, 1, 1, -1, 0, -1, 1, 0, 0, 1, -1, -1, 0, 1, -1, -1, 0, -1, 1, 0, 0, 1, -1, -1, 0, 0, 1, -1, 0, 1, 1, 1, 0, -1, 0, 1, 0, 1, 1, 1, 0, -1, 0, 0, 0, -1, -1, -1, 0, -1, 1, -1, 0, -1, -1, 1, 0, -1, -1, 1, 0, 0, 1, 1, 0, 0, 1, 1, 0, 0, 0, -1, 0, 1, -1, -1, 0, 1, 1, 0, 0, -1, -1, -1, 0] := by decide +kernel
def sgD (g : Nat) : Int := ([0, 1, -1, -1, 0, -1, 1, -1, 0, 0, 1, -1, 0, -1, 1, 1, 0, -1, 0, -1, 0, 1, 1, -1, 0, 0, 1, 0, 0, -1, -1, -1, 0, 1, 1, 1, 0, -1, 1, 1, 0, -1, -1, -1, 0, 0, 1, -1, 0, 0, 0, 1, 0, -1, 0, 1, 0, 1, 1, -1, 0, -1, 1, 0, 0, 1, -1, -1, 0, 1, -1, -1, 0, -1, 1, 0, 0, 1, -1, -1, 0, 0, 1, -1, 0, 1, 1, 1, 0, -1, 0, 1, 0, 1, 1, 1, 0, -1, 0, 0, 0, -1, -1, -1, 0, -1, 1, -1, 0, -1, -1, 1, 0, -1, -1, 1, 0, 0, 1, 1, 0, 0, 1, 1, 0, 0, 0, -1, 0, 1, -1, -1, 0, 1, 1, 0, 0, -1, -1, -1, 0] : List Int).getD g 0
theorem sgD_sg {g : Nat} (h : g < 141) : sgD g = sg g := by
  unfold sgD
  rw [← sg_list, List.getD_eq_getElem?_getD, List.getElem?_map, List.getElem?_range h]
  rfl
theorem sgD_all : ∀ g, g < 141 → 1 ≤ g → sumZ (g - 1) (fun i => if g % (i + 2) = 0 then sgD (i + 2) else 0) = if 2 ≤ g then -1 else 0 := by decide +kernel
theorem sg_all {g L : Nat} (h : g < 141) (h1 : 1 ≤ g) (hL : g ≤ L + 1) : sumZ L (fun i => if (i + 2) ∣ g then sg (i + 2) else 0) = if 2 ≤ g then -1 else 0 := by
  rw [sumZ_zero (m := g - 1) L (by omega) (fun i hi _ => if_neg fun hd => absurd (Nat.le_of_dvd (by omega) hd) (by omega)), ← sgD_all g h h1]
  refine sumZ_congr fun i hi => ?_
  by_cases c : (i + 2) ∣ g
  · rw [if_pos c, if_pos (Nat.mod_eq_zero_of_dvd c), sgD_sg (by omega)]
  · rw [if_neg c, if_neg fun z => c (Nat.dvd_of_mod_eq_zero z)]
/-- all powers by exponents that no square divides, in and out -/
theorem sg_count {n L : Nat} (hn : 1 ≤ n) (hL : n.log2 ≤ L + 1) (hb : n.log2 < 141) : 1 - sumZ L (fun i => sg (i + 2) * ((rootN n (i + 2) : Int) - 1)) = ((cntP n : Nat) : Int) := by
  have h1 : ∀ i, sg (i + 2) * ((rootN n (i + 2) : Int) - 1) = sumZ (n + 1) fun m => sg (i + 2) * (if 2 ≤ m ∧ rootN m (i + 2) ^ (i + 2) = m then 1 else 0) := fun i => by
    have e1 := cb_root (e := i + 2) (by omega) n hn
    have e2 : (rootN n (i + 2) : Int) - 1 = (cb n (i + 2) : Nat) := by omega
    rw [e2, sumZ_mul]
    congr 1
    unfold cb
    rw [← sumZ_nat]
    refine sumZ_congr fun m hm => ?_
    split <;> rfl
  rw [sumZ_congr (fun i _ => h1 i), sumZ_swap]
  have h2 : ∀ m, m < n + 1 → sumZ L (fun i => sg (i + 2) * (if 2 ≤ m ∧ rootN m (i + 2) ^ (i + 2) = m then 1 else 0)) = -1 * (((if 2 ≤ m ∧ 2 ≤ gexp m then 1 else 0 : Nat)) : Int) := fun m hm => by
    by_cases hm2 : 2 ≤ m
    · have hmn : m.log2 ≤ n.log2 := by
        rw [Nat.le_log2 (by omega)]
        exact Nat.le_trans (Nat.log2_self_le (by omega)) (by omega)
      have hg := gexp_le hm2
      have e1 := sg_all (g := gexp m) (L := L) (by omega) (gexp_pos m) (by omega)
      have e2 : sumZ L (fun i => sg (i + 2) * (if 2 ≤ m ∧ rootN m (i + 2) ^ (i + 2) = m then 1 else 0)) = sumZ L (fun i => if (i + 2) ∣ gexp m then sg (i + 2) else 0) := sumZ_congr fun i hi => by
        have e3 : (2 ≤ m ∧ rootN m (i + 2) ^ (i + 2) = m) ↔ (i + 2) ∣ gexp m := by
          rw [← powBy_iff (by omega), powBy_dvd hm2 (by omega)]
          exact ⟨fun z => z.2, fun z => ⟨hm2, z⟩⟩
        by_cases c : (i + 2) ∣ gexp m
        · rw [if_pos c, if_pos (e3.mpr c), Int.mul_one]
        · rw [if_neg c, if_neg fun z => c (e3.mp z), Int.mul_zero]
      rw [e2, e1]
      by_cases c : 2 ≤ gexp m
      · rw [if_pos c, if_pos ⟨hm2, c⟩]; rfl
      · rw [if_neg c, if_neg fun z => c z.2]; rfl
    · rw [if_neg fun z => hm2 z.1]
      rw [sumZ_congr (g := fun _ => 0) (fun i _ => by rw [if_neg fun z => hm2 z.1, Int.mul_zero]), sumZ_nil]
      rfl
  rw [sumZ_congr h2, sumZ_mul, sumZ_nat, cntP_cp n hn]
  have h3 : sumN (n + 1) (fun m => if 2 ≤ m ∧ 2 ≤ gexp m then 1 else 0) = cp n := rfl
  rw [h3]
  omega
end Pn
namespace Pn
/-! ### the counts by greatest exponents, by roots -/
theorem gexp_pow {b e : Nat} (hb : 2 ≤ b) (he : 1 ≤ e) : gexp (b ^ e) = e * gexp b := by
  have h2 : 2 ≤ b ^ e := Nat.le_trans hb (Nat.le_self_pow (by omega) _)
  have hg := gexp_pos b
  obtain ⟨c, hc⟩ := gexp_by b
  have h1 : e * gexp b ∣ gexp (b ^ e) := by
    rw [← powBy_dvd h2 (Nat.mul_pos (by omega) hg)]
    exact ⟨c, by rw [Nat.mul_comm, Nat.pow_mul, ← hc]⟩
  obtain ⟨t, ht⟩ := h1
  have h3 := gexp_pos (b ^ e)
  have t1 : 1 ≤ t := by
    rcases Nat.eq_zero_or_pos t with h | h
    · rw [h] at ht
      omega
    · exact h
  obtain ⟨d, hd⟩ := gexp_by (b ^ e)
  have e1 : b ^ e = (d ^ (gexp b * t)) ^ e := by
    have : d ^ gexp (b ^ e) = (d ^ (gexp b * t)) ^ e := by
      rw [← Nat.pow_mul, ht]
      congr 1
      rw [Nat.mul_assoc, Nat.mul_comm]
    rw [← this]
    exact hd
  have e2 := pow_inj_left (by omega) e1
  have h4 : gexp b * t ≤ gexp b := gexp_max hb (Nat.mul_pos hg t1) ⟨d, e2⟩
  have h5 : t = 1 := by
    have : gexp b * t ≤ gexp b * 1 := by omega
    have := Nat.le_of_mul_le_mul_left this hg
    omega
  rw [ht, h5, Nat.mul_one]
theorem cg_succ (n e : Nat) : cg (n + 1) e = cg n e + if 2 ≤ n + 1 ∧ gexp (n + 1) = e then 1 else 0 := rfl
theorem cg_root {e : Nat} (he : 1 ≤ e) : ∀ n, 1 ≤ n → cg n e + cntP (rootN n e) = rootN n e
  | 0, h => by omega
  | 1, _ => by
    rw [rootN_1 he]
    have h1 : cg 1 e = 0 := by
      unfold cg
      rw [sumN, sumN, sumN]
      simp
    rw [h1, cntP_succ, cntP_zero, if_pos isPow_one]
  | n + 2, _ => by
    have ih := cg_root he (n + 1) (by omega)
    have hr := rootN_succ (n := n + 1) he
    rw [cg_succ]
    by_cases h : rootN (n + 2) e ^ e = n + 2
    · rw [if_pos h] at hr
      have hb2 : 2 ≤ rootN (n + 2) e := by
        rcases (by omega : rootN (n + 2) e = 0 ∨ rootN (n + 2) e = 1 ∨ 2 ≤ rootN (n + 2) e) with c | c | c
        · rw [c, Nat.zero_pow (by omega)] at h
          omega
        · rw [c, Nat.one_pow] at h
          omega
        · exact c
      have hg := gexp_pow hb2 he
      rw [h] at hg
      have hp := isPow_gexp hb2
      have h1 := gexp_pos (rootN (n + 2) e)
      rw [hr, cntP_succ]
      rw [hr] at hp hg h1
      by_cases c : IsPow (rootN (n + 1) e + 1)
      · have h2 := hp.mp c
        rw [if_pos c, if_neg]
        · omega
        · rintro ⟨_, h3⟩
          rw [hg] at h3
          have : e * 2 ≤ e * gexp (rootN (n + 1) e + 1) := Nat.mul_le_mul_left e h2
          omega
      · have h2 : gexp (rootN (n + 1) e + 1) = 1 := by
          have : ¬ 2 ≤ gexp (rootN (n + 1) e + 1) := fun z => c (hp.mpr z)
          omega
        rw [if_neg c, if_pos ⟨by omega, by rw [hg, h2, Nat.mul_one]⟩]
        omega
    · rw [if_neg h] at hr
      rw [if_neg, hr]
      · omega
      · rintro ⟨_, h3⟩
        refine h ((powBy_iff he).mp ?_)
        rw [← h3]
        exact gexp_by (n + 2)
/-- what is told of all powers to n, by greatest exponents, 1 counted to 2 -/
def cgT (n : Nat) : List Nat := if n = 0 then [] else (List.range (max 2 n.log2 - 1)).map fun i => cg n (i + 2) + if i = 0 then 1 else 0
theorem cg_none {n e : Nat} (hn : 1 ≤ n) (h : n.log2 < e) (h2 : 2 ≤ e) : cg n e = 0 := by
  have h1 := cg_root (e := e) (by omega) n hn
  rw [rootN_big hn h] at h1
  have : cntP 1 = 1 := by rw [cntP_succ, cntP_zero, if_pos isPow_one]
  omega
theorem gexp_two (L : Nat) (h : 1 ≤ L) : gexp (2 ^ L) = L := by
  have h2 : gexp 2 = 1 := by
    have h1 := gexp_pos 2
    have h3 := gexp_le (m := 2) (by omega)
    have : Nat.log2 2 = 1 := by decide +kernel
    omega
  rw [gexp_pow (by omega) h, h2, Nat.mul_one]
theorem cg_top {n : Nat} (hn : 2 ≤ n) : 1 ≤ cg n n.log2 := by
  have hL : 1 ≤ n.log2 := (Nat.le_log2 (by omega)).mpr (by omega)
  have h := Nat.log2_self_le (n := n) (by omega)
  unfold cg
  have := sumN_one (f := fun m => if 2 ≤ m ∧ gexp m = n.log2 then 1 else 0) (g := fun m => if m = 2 ^ n.log2 then 0 else if 2 ≤ m ∧ gexp m = n.log2 then 1 else 0) (a := 1) (n + 1) (2 ^ n.log2) (by omega) (fun i _ hi => by rw [if_neg hi]) (by
    have e1 : (2 ≤ 2 ^ n.log2 ∧ gexp (2 ^ n.log2) = n.log2) := ⟨Nat.le_trans (by omega : 2 ≤ 2 ^ 1) (Nat.pow_le_pow_right (by omega) hL), gexp_two _ hL⟩
    simp [e1])
  omega
end Pn
namespace Pn
/-! ### powers by place -/
theorem cntP_pow {m : Nat} (h1 : 1 ≤ m) (h : IsPow m) : cntP m = cntP (m - 1) + 1 := by
  obtain ⟨k, rfl⟩ : ∃ k, m = k + 1 := ⟨m - 1, by omega⟩
  rw [cntP_succ, if_pos h]
  rfl
theorem cntP_same {n : Nat} : ∀ k, n ≤ k → (∀ m, n < m → m ≤ k → ¬ IsPow m) → cntP k = cntP n
  | 0, h, _ => by
    have : n = 0 := by omega
    rw [this]
  | k + 1, h, hn => by
    rcases (by omega : n = k + 1 ∨ n ≤ k) with c | c
    · rw [c]
    · rw [cntP_succ, if_neg (hn (k + 1) (by omega) (Nat.le_refl _)), cntP_same k c fun m h1 h2 => hn m h1 (by omega)]
      rfl
theorem cntP_next {n g : Nat} (h : NextPow n g) : cntP g = cntP n + 1 := by
  obtain ⟨h2, h1, h3⟩ := h
  have e1 : cntP (g - 1) = cntP n := cntP_same (g - 1) (by omega) fun m a b c => by
    have := h3 m c a
    omega
  have e2 := cntP_pow (m := g) (by omega) h2
  omega
theorem cntP_inj {x y : Nat} (hx : IsPow x) (hy : IsPow y) (hx1 : 1 ≤ x) (hy1 : 1 ≤ y) (h : cntP x = cntP y) : x = y := by
  rcases Nat.lt_trichotomy x y with c | c | c
  · have h1 := cntP_pow hy1 hy
    have h2 := cntP_mono (show x ≤ y - 1 by omega)
    omega
  · exact c
  · have h1 := cntP_pow hx1 hx
    have h2 := cntP_mono (show y ≤ x - 1 by omega)
    omega
theorem root_cntP {n : Nat} (hn : 1 ≤ n) : rootN n 2 ≤ cntP n := by
  have h1 := cb_root (e := 2) (by omega) n hn
  have h2 := cntP_cp n hn
  have h3 : cb n 2 ≤ cp n := by
    unfold cb cp
    have key : ∀ k, sumN k (fun m => if 2 ≤ m ∧ rootN m 2 ^ 2 = m then 1 else 0) ≤ sumN k (fun m => if 2 ≤ m ∧ 2 ≤ gexp m then 1 else 0) := fun k => by
      induction k with
      | zero => exact Nat.le_refl _
      | succ k ih =>
        rw [sumN, sumN]
        refine Nat.add_le_add ih ?_
        by_cases c : 2 ≤ k ∧ rootN k 2 ^ 2 = k
        · have h4 := gexp_max c.1 (by omega) ((powBy_iff (by omega)).mpr c.2)
          rw [if_pos c, if_pos ⟨c.1, h4⟩]
          exact Nat.le_refl _
        · rw [if_neg c]
          exact Nat.zero_le _
    exact key _
  omega
theorem sq_cntP {b : Nat} (hb : 1 ≤ b) : b ≤ cntP (b * b) := by
  have h := root_cntP (n := b * b) (Nat.mul_pos hb hb)
  have e : rootN (b * b) 2 = b := by
    rw [← Nat.pow_two]
    exact rootN_pow (by omega)
  omega
theorem cntP_bound {n k : Nat} (hn : 1 ≤ n) (h : cntP n ≤ k) : n < (k + 1) * (k + 1) := by
  have h1 := root_cntP hn
  have h2 := rootN_lt (n := n) (e := 2) (by omega)
  have h3 : (rootN n 2 + 1) ^ 2 ≤ (k + 1) ^ 2 := Nat.pow_le_pow_left (by omega) 2
  rw [Nat.pow_two (k + 1)] at h3
  omega
theorem powL_prefix {y : Nat} : ∀ k, ∃ r, powL (y + k) = powL y ++ r
  | 0 => ⟨[], by simp⟩
  | k + 1 => by
    obtain ⟨r, hr⟩ := powL_prefix (y := y) k
    refine ⟨r ++ (powAt (y + k)).toList, ?_⟩
    rw [← Nat.add_assoc, powL_succ, hr, List.append_assoc]
theorem powL_at {M i y : Nat} (h : (powL M)[i]? = some y) : 1 ≤ y ∧ y ≤ M ∧ IsPow y ∧ cntP y = i + 1 := by
  have hm := mem_powL.mp (List.mem_of_getElem? h)
  refine ⟨hm.1, hm.2.1, hm.2.2, ?_⟩
  obtain ⟨r, hr⟩ := powL_prefix (y := y) (M - y)
  rw [show y + (M - y) = M by omega] at hr
  have h1 := cntP_pow hm.1 hm.2.2
  have h2 : powL y = powL (y - 1) ++ [y] := by
    obtain ⟨k, hk⟩ : ∃ k, y = k + 1 := ⟨y - 1, by omega⟩
    rw [hk, powL_succ]
    have : powAt k = some (k + 1) := by
      unfold powAt
      rw [Nat.add_comm 1 k, if_pos (by rw [← hk]; exact hm.2.2)]
    rw [this]
    rfl
  have h3 : (powL M)[cntP (y - 1)]? = some y := by
    have e : cntP (y - 1) = (powL (y - 1)).length := rfl
    rw [hr, h2, List.append_assoc, e, List.getElem?_append_right (Nat.le_refl _)]
    simp
  have hi := (List.getElem?_eq_some_iff.mp h)
  have hj := (List.getElem?_eq_some_iff.mp h3)
  obtain ⟨i1, i2⟩ := hi
  obtain ⟨j1, j2⟩ := hj
  have so := List.pairwise_iff_getElem.mp (powL_sorted M)
  rcases Nat.lt_trichotomy i (cntP (y - 1)) with c | c | c
  · have := so i _ i1 j1 c
    omega
  · omega
  · have := so _ i j1 i1 c
    omega
end Pn
namespace Pn
/-! ### ways and powers -/
theorem waysN_none {n : Nat} : waysN n = [] ↔ ¬ IsPow n := by
  unfold waysN
  by_cases h0 : n = 0
  · subst h0
    rw [if_pos rfl]
    exact ⟨fun _ h => by
      have := h.pos
      omega, fun _ => rfl⟩
  · rw [if_neg h0]
    by_cases h1 : n = 1
    · subst h1
      rw [if_pos rfl]
      exact ⟨fun z => by simp at z, fun z => absurd isPow_one z⟩
    · rw [if_neg h1]
      have hn2 : 2 ≤ n := by omega
      constructor
      · intro h hp
        obtain ⟨b, e, hb, he, rfl⟩ := hp
        have hb2 : 2 ≤ b := by
          rcases (by omega : b = 1 ∨ 2 ≤ b) with z | z
          · rw [z, Nat.one_pow] at h1
            omega
          · exact z
        have hle : e ≤ (b ^ e).log2 := (two_pow_le_iff h0).mp (Nat.pow_le_pow_left hb2 e)
        have hw : wayAt (b ^ e) (e - 2 + 2) ≠ none := by
          rw [show e - 2 + 2 = e by omega]
          unfold wayAt
          rw [rootN_pow (by omega)]
          simp
        unfold waysTo at h
        have hm : ∀ x ∈ List.range ((b ^ e).log2 - 1), wayAt (b ^ e) (x + 2) = none := by
          intro x hx
          cases q : wayAt (b ^ e) (x + 2) with
          | none => rfl
          | some v =>
            have : v ∈ ([] : List (Nat × Nat)) := by
              rw [← h]
              exact List.mem_filterMap.mpr ⟨x, hx, q⟩
            simp at this
        exact hw (hm (e - 2) (List.mem_range.mpr (by omega)))
      · intro hp
        refine none_filt _ fun j hj => ?_
        unfold wayAt
        rw [if_neg]
        intro hq
        refine hp ⟨rootN n (j + 2), j + 2, ?_, by omega, hq.symm⟩
        rcases Nat.eq_zero_or_pos (rootN n (j + 2)) with z | z
        · rw [z, Nat.zero_pow (by omega)] at hq
          omega
        · exact z
theorem cntP_prev {n l : Nat} (h : PrevPow n l) : cntP n = cntP l := by
  obtain ⟨h1, h2, h3⟩ := h
  exact cntP_same n h2 fun m a b c => by
    have := h3 m c b
    omega
theorem PrevPow.self {n : Nat} (h : IsPow n) : PrevPow n n := ⟨h, Nat.le_refl _, fun _ _ z => z⟩
theorem PrevPow.less {n x l : Nat} (hn : 1 ≤ n) (hp : ¬ IsPow n) (h : PrevPow (n - 1) x) (h' : PrevPow n l) : x = l := by
  have h1 : l ≤ n - 1 := by
    rcases (by have := h'.2.1; omega : l = n ∨ l ≤ n - 1) with z | z
    · exact absurd (z ▸ h'.1) hp
    · exact z
  exact Nat.le_antisymm (h'.2.2 x h.1 (by have := h.2.1; omega)) (h.2.2 l h'.1 h1)
theorem Nearest.self {n r : Nat} (h : Nearest n r) (hp : IsPow n) : r = n := by
  have h1 := hp.pos
  obtain ⟨l, g, h2, h3, h4⟩ := h.2 h1
  have h5 := h2.eq (PrevPow.self hp)
  subst h5
  rw [h4, if_pos (by omega)]
end Pn
namespace Pn
/-! ### ways by divisors of the greatest exponent -/
theorem way_iff {n e : Nat} (hn : 2 ≤ n) (he : 1 ≤ e) : wayAt n e = if gexp n % e = 0 then some (rootN n (gexp n) ^ (gexp n / e), e) else none := by
  have hg := gexp_pos n
  have hB : rootN n (gexp n) ^ gexp n = n := (powBy_iff hg).mp (gexp_by n)
  unfold wayAt
  by_cases h : gexp n % e = 0
  · have hd : e ∣ gexp n := Nat.dvd_of_mod_eq_zero h
    have h1 : (rootN n (gexp n) ^ (gexp n / e)) ^ e = n := by
      rw [← Nat.pow_mul, Nat.div_mul_cancel hd, hB]
    have h2 : rootN n e = rootN n (gexp n) ^ (gexp n / e) := by
      generalize rootN n (gexp n) ^ (gexp n / e) = c at h1
      rw [← h1]
      exact rootN_pow he
    rw [if_pos h, h2, if_pos h1]
  · rw [if_neg h, if_neg]
    intro h1
    exact h (Nat.mod_eq_zero_of_dvd ((powBy_dvd hn he).mp ((powBy_iff he).mpr h1)))
theorem filt_more {α : Type} (f : Nat → Option α) (j : Nat) : ∀ d, (∀ i, j ≤ i → i < j + d → f i = none) → (List.range (j + d)).filterMap f = (List.range j).filterMap f
  | 0, _ => rfl
  | d + 1, h => by
    rw [← Nat.add_assoc, List.range_succ, List.filterMap_append, filt_more f j d fun i a b => h i a (by omega)]
    simp [h (j + d) (by omega) (by omega)]
/-- what a divisor of the greatest exponent gives -/
def dueAt (n i : Nat) : Option (Nat × Nat) := if gexp n % (i + 2) = 0 then some (rootN n (gexp n) ^ (gexp n / (i + 2)), i + 2) else none
theorem ways_due {n : Nat} (hn : 2 ≤ n) : waysN n = (List.range (gexp n - 1)).filterMap (dueAt n) := by
  have h1 : waysN n = (List.range (n.log2 - 1)).filterMap (dueAt n) := by
    unfold waysN waysTo
    rw [if_neg (by omega), if_neg (by omega)]
    congr 1
    funext i
    exact way_iff hn (by omega)
  have hl := gexp_le hn
  have hg := gexp_pos n
  rw [h1, show n.log2 - 1 = gexp n - 1 + (n.log2 - gexp n) by omega, filt_more]
  intro i a b
  unfold dueAt
  rw [if_neg]
  intro z
  have := Nat.le_of_dvd (by omega) (Nat.dvd_of_mod_eq_zero z)
  omega
theorem rootN_one (n : Nat) : rootN n 1 = n := (rootN_is (Nat.le_refl 1) (by simp) (by simp)).symm
theorem greatest_gexp {n : Nat} (hn : 2 ≤ n) : greatestN n = (rootN n (gexp n), gexp n) := by
  have hg := gexp_pos n
  have hB : rootN n (gexp n) ^ gexp n = n := (powBy_iff hg).mp (gexp_by n)
  rcases (by omega : gexp n = 1 ∨ 2 ≤ gexp n) with h | h
  · rw [greatest_none hn fun e h1 h2 h3 => ?_, h, rootN_one]
    have := gexp_max hn (by omega) ((powBy_iff (by omega)).mpr h3)
    omega
  · refine greatest_of hn h ((two_pow_le_iff (by omega)).mpr (gexp_le hn)) hB fun e h1 h2 h3 => ?_
    have := gexp_max hn (by omega) ((powBy_iff (by omega)).mpr h3)
    omega
theorem gbase_two {n : Nat} (hn : 2 ≤ n) : 2 ≤ rootN n (gexp n) := by
  have hg := gexp_pos n
  have hB : rootN n (gexp n) ^ gexp n = n := (powBy_iff hg).mp (gexp_by n)
  rcases (by omega : rootN n (gexp n) = 0 ∨ rootN n (gexp n) = 1 ∨ 2 ≤ rootN n (gexp n)) with h | h | h
  · rw [h, Nat.zero_pow (by omega)] at hB
    omega
  · rw [h, Nat.one_pow] at hB
    omega
  · exact h
theorem gexp_base {n : Nat} (hn : 2 ≤ n) : gexp (rootN n (gexp n)) = 1 := by
  have hg := gexp_pos n
  have hB : rootN n (gexp n) ^ gexp n = n := (powBy_iff hg).mp (gexp_by n)
  have h2 := gbase_two hn
  have hg2 := gexp_pos (rootN n (gexp n))
  obtain ⟨c, hc⟩ := gexp_by (rootN n (gexp n))
  have hp : PowBy n (gexp (rootN n (gexp n)) * gexp n) := ⟨c, by rw [Nat.pow_mul, ← hc, hB]⟩
  have h3 := gexp_max hn (Nat.mul_pos hg2 hg) hp
  generalize gexp (rootN n (gexp n)) = f at *
  rcases (by omega : f = 1 ∨ 2 ≤ f) with h | h
  · exact h
  · have : 2 * gexp n ≤ f * gexp n := Nat.mul_le_mul_right _ h
    omega
theorem greatest_base {n : Nat} (hn : 2 ≤ n) : greatestN (rootN n (gexp n)) = (rootN n (gexp n), 1) := by
  rw [greatest_gexp (gbase_two hn), gexp_base hn, rootN_one]
theorem mem_ways {b e : Nat} (hb : 2 ≤ b) (he : 2 ≤ e) : (b, e) ∈ waysN (b ^ e) := by
  have hn : 2 ≤ b ^ e := Nat.le_trans hb (Nat.le_self_pow (by omega) b)
  have hle : e ≤ (b ^ e).log2 := (two_pow_le_iff (by omega)).mp (Nat.pow_le_pow_left hb e)
  unfold waysN waysTo
  rw [if_neg (by omega), if_neg (by omega)]
  refine List.mem_filterMap.mpr ⟨e - 2, List.mem_range.mpr (by omega), ?_⟩
  rw [show e - 2 + 2 = e by omega]
  unfold wayAt
  rw [rootN_pow (by omega), if_pos rfl]
/-- each way is one -/
theorem way_is {n b e : Nat} (h : (b, e) ∈ waysN n) : 2 ≤ e ∧ b ^ e = n ∧ rootN n e = b ∧ 1 ≤ n ∧ 1 ≤ b := by
  unfold waysN at h
  split at h
  · cases h
  · split at h
    · rename_i h1
      simp only [List.mem_singleton, Prod.mk.injEq] at h
      obtain ⟨rfl, rfl⟩ := h
      subst h1
      exact ⟨by omega, rfl, rootN_1 (by omega), by omega, by omega⟩
    · obtain ⟨i, _, hi⟩ := List.mem_filterMap.mp h
      unfold wayAt at hi
      split at hi
      · rename_i h3
        injection hi with hi
        injection hi with h4 h5
        subst h5
        rw [h4] at h3
        refine ⟨by omega, h3, h4, by omega, ?_⟩
        rcases Nat.eq_zero_or_pos b with z | z
        · rw [z, Nat.zero_pow (by omega)] at h3
          omega
        · exact z
      · cases hi
theorem greatest_pow (n : Nat) : (greatestN n).1 ^ (greatestN n).2 = n ∧ 1 ≤ (greatestN n).2 ∧ (1 < (greatestN n).2 ↔ waysN n ≠ []) := by
  rcases (by omega : n = 0 ∨ n = 1 ∨ 2 ≤ n) with rfl | rfl | hn
  · exact ⟨rfl, Nat.le_refl _, by decide⟩
  · exact ⟨rfl, by decide, by decide⟩
  · rw [greatest_gexp hn]
    refine ⟨(powBy_iff (gexp_pos n)).mp (gexp_by n), gexp_pos n, ?_⟩
    have h := waysN_none (n := n)
    have h2 := isPow_gexp hn
    constructor
    · intro a b
      exact h.mp b (h2.mpr a)
    · intro a
      exact h2.mp (Classical.byContradiction fun z => a (h.mpr z))
end Pn
namespace Pn
/-! ### rows of (exponent, base) by powers -/
/-- W tells of each k below M all (exponent, base), bases below b, and b itself with exponents below e -/
def Wok (M b e : Nat) (W : Nat → List (Int × Int)) : Prop := ∀ k, (∀ p, p ∈ W k ↔ ∃ e' b' : Nat, p = ((e' : Int), (b' : Int)) ∧ k < M ∧ b' ^ e' = k ∧ 2 ≤ b' ∧ 2 ≤ e' ∧ (b' < b ∨ (b' = b ∧ e' < e))) ∧ (W k).Nodup
theorem wok_0 (M : Nat) : Wok M 2 2 fun _ => [] := fun k => ⟨fun p => ⟨fun h => (by cases h), fun ⟨e', b', _, _, _, h1, h2, h3⟩ => by omega⟩, List.nodup_nil⟩
def putW (W : Nat → List (Int × Int)) (b e : Nat) : Nat → List (Int × Int) := fun k => if k = b ^ e then W k ++ [((e : Int), (b : Int))] else W k
theorem Wok.put {M b e : Nat} {W : Nat → List (Int × Int)} (h : Wok M b e W) (hb : 2 ≤ b) (he : 2 ≤ e) (hM : b ^ e < M) : Wok M b (e + 1) (putW W b e) := fun k => by
  obtain ⟨h1, h2⟩ := h k
  unfold putW
  by_cases c : k = b ^ e
  · rw [if_pos c]
    refine ⟨fun p => ?_, ?_⟩
    · rw [List.mem_append, h1 p, List.mem_singleton]
      constructor
      · rintro (⟨e', b', g1, g2, g3, g4, g5, g6⟩ | g)
        · exact ⟨e', b', g1, g2, g3, g4, g5, by omega⟩
        · exact ⟨e, b, g, by omega, c.symm, hb, he, .inr ⟨rfl, by omega⟩⟩
      · rintro ⟨e', b', g1, g2, g3, g4, g5, g6⟩
        by_cases z : b' = b ∧ e' = e
        · right
          rw [g1, z.1, z.2]
        · left
          exact ⟨e', b', g1, g2, g3, g4, g5, by omega⟩
    · rw [List.nodup_append]
      refine ⟨h2, by simp, fun x hx y hy => ?_⟩
      rw [List.mem_singleton] at hy
      obtain ⟨e', b', g1, g2, g3, g4, g5, g6⟩ := (h1 x).mp hx
      intro z
      rw [hy, g1] at z
      injection z with z1 z2
      omega
  · rw [if_neg c]
    refine ⟨fun p => ?_, h2⟩
    rw [h1 p]
    constructor
    · rintro ⟨e', b', g1, g2, g3, g4, g5, g6⟩
      exact ⟨e', b', g1, g2, g3, g4, g5, by omega⟩
    · rintro ⟨e', b', g1, g2, g3, g4, g5, g6⟩
      refine ⟨e', b', g1, g2, g3, g4, g5, ?_⟩
      rcases g6 with g | ⟨rfl, g⟩
      · exact .inl g
      · refine .inr ⟨rfl, ?_⟩
        rcases (by omega : e' < e ∨ e' = e) with z | z
        · exact z
        · subst z
          exact absurd g3.symm c
theorem Wok.next {M b e : Nat} {W : Nat → List (Int × Int)} (h : Wok M b e W) (hb : 2 ≤ b) (hM : M ≤ b ^ e) : Wok M (b + 1) 2 W := fun k => by
  obtain ⟨h1, h2⟩ := h k
  refine ⟨fun p => ?_, h2⟩
  rw [h1 p]
  constructor
  · rintro ⟨e', b', g1, g2, g3, g4, g5, g6⟩
    exact ⟨e', b', g1, g2, g3, g4, g5, by omega⟩
  · rintro ⟨e', b', g1, g2, g3, g4, g5, g6⟩
    refine ⟨e', b', g1, g2, g3, g4, g5, ?_⟩
    rcases (by omega : b' < b ∨ b' = b) with z | z
    · exact .inl z
    · subst z
      exact .inr ⟨rfl, (Nat.pow_lt_pow_iff_right (by omega : 1 < b')).mp (by omega)⟩
theorem waysN_sorted {n : Nat} : (waysN n).Pairwise fun p q => p.2 < q.2 := by
  unfold waysN
  split
  · exact List.Pairwise.nil
  · split
    · exact List.pairwise_singleton _ _
    · unfold waysTo
      rw [List.pairwise_filterMap]
      refine List.Pairwise.imp ?_ (List.pairwise_lt_range (n := n.log2 - 1))
      intro i j hij p hp q hq
      unfold wayAt at hp hq
      split at hp
      · cases hp
        split at hq
        · cases hq
          show i + 2 < j + 2
          omega
        · cases hq
      · cases hp
/-- the sorted row, turned, is the ways -/
theorem row_ways {M B n : Nat} {W : Nat → List (Int × Int)} (h : Wok M B 2 W) (hn : 2 ≤ n) (hM : n < M) (hB : n < B * B) {zs : List (Int × Int)} (hp : zs.Perm (W n)) (hs : zs.Pairwise fun x y => ¬ (y.1 < x.1 ∨ (y.1 = x.1 ∧ y.2 < x.2))) :
    zs.map (fun p => (p.2, p.1)) = (waysN n).map zz := by
  obtain ⟨h1, h2⟩ := h n
  have hm : ∀ p, p ∈ zs ↔ ∃ e' b' : Nat, p = ((e' : Int), (b' : Int)) ∧ b' ^ e' = n ∧ 2 ≤ b' ∧ 2 ≤ e' := fun p => by
    rw [hp.mem_iff, h1 p]
    constructor
    · rintro ⟨e', b', g1, g2, g3, g4, g5, g6⟩
      exact ⟨e', b', g1, g3, g4, g5⟩
    · rintro ⟨e', b', g1, g3, g4, g5⟩
      refine ⟨e', b', g1, hM, g3, g4, g5, .inl ?_⟩
      refine Nat.lt_of_not_le fun z => ?_
      have h3 : B ^ 2 ≤ b' ^ 2 := Nat.pow_le_pow_left z 2
      have h4 : b' ^ 2 ≤ b' ^ e' := Nat.pow_le_pow_right (by omega) g5
      rw [Nat.pow_two] at h3
      omega
  have nd : zs.Nodup := hp.nodup_iff.mpr h2
  have st : zs.Pairwise fun x y => x.1 < y.1 := by
    refine List.Pairwise.imp_of_mem ?_ (List.Pairwise.and hs nd)
    rintro x y hx hy ⟨g1, g2⟩
    obtain ⟨e1, b1, rfl, a1, a2, a3⟩ := (hm x).mp hx
    obtain ⟨e2, b2, rfl, c1, c2, c3⟩ := (hm y).mp hy
    simp only [] at g1 ⊢
    rcases (by omega : (e1 : Int) < (e2 : Int) ∨ e1 = e2) with z | z
    · exact z
    · subst z
      have : b1 = b2 := pow_inj_left (by omega) (a1.trans c1.symm)
      subst this
      exact absurd rfl g2
  have p1 : (zs.map fun p => (p.2, p.1)).Pairwise fun x y : Int × Int => x.2 < y.2 := List.pairwise_map.mpr st
  have p2 : ((waysN n).map zz).Pairwise fun x y : Int × Int => x.2 < y.2 := List.pairwise_map.mpr (waysN_sorted.imp fun {a b} h => by
    show ((a.2 : Nat) : Int) < ((b.2 : Nat) : Int)
    omega)
  have n1 : (zs.map fun p => (p.2, p.1)).Nodup := p1.imp fun {a b} h z => by
    subst z
    omega
  have n2 : ((waysN n).map zz).Nodup := p2.imp fun {a b} h z => by
    subst z
    omega
  refine List.Perm.eq_of_pairwise (fun a b _ _ h1 h2 => by omega) p1 p2 ((List.perm_ext_iff_of_nodup n1 n2).mpr fun p => ?_)
  constructor
  · intro hx
    obtain ⟨q, hq, rfl⟩ := List.mem_map.mp hx
    obtain ⟨e', b', rfl, g1, g2, g3⟩ := (hm q).mp hq
    refine List.mem_map.mpr ⟨(b', e'), ?_, rfl⟩
    rw [← g1]
    exact mem_ways g2 g3
  · intro hx
    obtain ⟨⟨b, e⟩, hq, rfl⟩ := List.mem_map.mp hx
    obtain ⟨g1, g2, g3, g4, g5⟩ := way_is hq
    refine List.mem_map.mpr ⟨((e : Int), (b : Int)), (hm _).mpr ⟨e, b, rfl, g2, ?_, g1⟩, rfl⟩
    rcases (by omega : b = 1 ∨ 2 ≤ b) with z | z
    · rw [z, Nat.one_pow] at g2
      omega
    · exact z
theorem filterMap_same {α β : Type} {f g : α → Option β} : ∀ {l : List α}, (∀ i ∈ l, f i = g i) → l.filterMap f = l.filterMap g
  | [], _ => rfl
  | x :: l, h => by
    have ih := filterMap_same (f := f) (g := g) (l := l) fun i hi => h i (List.mem_cons_of_mem _ hi)
    have h0 := h x List.mem_cons_self
    rw [List.filterMap_cons, List.filterMap_cons, h0, ih]
/-- a way by the exponent i + 2, where two taken to it is not above -/
def wayLow (n i : Nat) : Option (Nat × Nat) := if 2 ^ (i + 2) ≤ n then wayAt n (i + 2) else none
theorem ways_low {n : Nat} (hn : 2 ≤ n) (h : n < 2 ^ 134) : waysN n = (List.range 132).filterMap (wayLow n) := by
  have hl : n.log2 < 134 := (Nat.log2_lt (by omega)).mpr h
  unfold waysN waysTo
  rw [if_neg (by omega), if_neg (by omega), show 132 = n.log2 - 1 + (132 - (n.log2 - 1)) by omega, filt_more]
  · refine filterMap_same fun i hi => ?_
    rw [List.mem_range] at hi
    unfold wayLow
    rw [if_pos ((two_pow_le_iff (by omega)).mpr (by omega))]
  · intro i a b
    unfold wayLow
    rw [if_neg fun z => ?_]
    have := (two_pow_le_iff (by omega)).mp z
    omega
end Pn
/-! ListVals: list(d.values()). -/
namespace LiV
open PySem PySem.Spec PyProof.Rows L2
def rValsL : V → Hp → VK → Prop := fun x H Q => ∃ (d : Addr) (kvs : List (Key × V)), x = .ref d ∧ H d = some (.dK kvs) ∧
  ∀ p : Addr, H p = none → Q (.ref p) (upd H p (.lst (kvs.map fun kv => kv.2)))
def tListVals (te : TE) : TE := fun σ H Q => te σ H fun x H1 => rValsL x H1 Q
section
variable {X : Cx} {e : Expr} {te : TE} {p apos cpos pos : Pos}
/-- list(e.values()) -/
theorem pe_listVals (hc : X.calm = true) (he : PE X e te) (hg : Gl X "list") (hm : X.mg "list" = none) (hv : bootBuiltins "list" = some (.type "list")) (hbase : attributeBase e "values" X.env (eval e X.env) = eval e X.env := by rfl) (hline : (apos.endLine == cpos.line) = true := by rfl)
    (hs : starEach [.Call (.Attribute e "values" apos) [] [] cpos] X.env = (false, eval (.Call (.Attribute e "values" apos) [] [] cpos) X.env) :: starEach [] X.env := by rfl) :
    PE X (.Call (.Name "list" p) [.Call (.Attribute e "values" apos) [] [] cpos] [] pos) (tListVals te) := by
  refine ⟨fun pins s σ H Q I hq => ?_⟩
  refine wpAny_Call_Name_kw (ld_blt I hg hm hv ?_)
  refine PyProof.Rows.callWith_type1 ?_ hs rfl
  rw [hs]
  show wpAny _ _ (spliced ((false, eval (.Call (.Attribute e "values" apos) [] [] cpos) X.env) :: backTo pos (starEach [] X.env))) _ _ s
  refine Calls.spliced_cons ?_
  refine wpAny_Call_method (T := "dict") (id := "dict.values") hbase rfl hline F.plainAttrs_dict F.slot_dict_values F.type_dict_values (thn (he.run pins s σ H _ I hq) fun u s1 ⟨x, H1, I1, rx, d, kvs, ex, hd, q⟩ => ?_)
  subst ex
  obtain rfl : u = Value.ref d := rx
  obtain ⟨hz, hs0, vs, kv, hdo⟩ := I1.hok d _ hd
  obtain ⟨ep, hat⟩ := hdo.dictAt
  have lk : kvs.length = vs.length := Paired.length kv
  have I2 : Inv X pins σ H1 { s1 with heap := s1.heap.push { cls := .type "dict_values", data := .fields #[.ref d] } } := I1.kept (t' := s1.toks) fun b ob q => Heap.get?_push_of_some _ q
  refine ⟨hdo.typeIs, hdo.mapOf.noDict, ?_⟩
  show wpAny _ _ (callWith cpos (.builtin "dict.values") [.ref d] [] []) _ X.xe s1
  refine method_meetsIn F.slot_dict_values F.entry_dict_values rfl (PySem.evalArgs_none ⟨rfl, hdo.typeIs, F.args_dict_values_1 _, _, meets_dict_values (mixKind X.prog X.w) d hs0, ⟨vs, hdo⟩, ?_⟩)
  refine Calls.spliced_nil ?_
  refine PySem.W.kdl_call (PySem.W.kdl_values (knd := mixKind X.prog X.w) (d := d) (kvs := vs) (ep := ep)) (I1.ok.hd hc) ⟨⟨_, Heap.get?_push_size _ rfl, rfl, rfl⟩, hat.push _⟩ (by rw [← lk]; exact hz) fun h' tk acc' c' hk hS hacc => ?_
  have e0 : ∀ o : Obj, (s1.heap.push o).objs.size = s1.heap.objs.size + 1 := fun o => Heap.size_push _ _
  refine ⟨.ref (s1.heap.push { cls := .type "dict_values", data := .fields #[.ref d] }).objs.size, upd H1 (s1.heap.push { cls := .type "dict_values", data := .fields #[.ref d] }).objs.size (.lst (kvs.map fun kv => kv.2)), I2.laid hk (Nat.le_refl _) (show ObjOk X.prog X.w _ _ _ (.lst (kvs.map fun kv => kv.2)) from ⟨?_, acc'.toList, c', ?_, ?_⟩), rfl, q _ (I2.hok.fresh (Nat.le_refl _))⟩
  · rw [List.length_map]; exact hz
  · have el : acc'.toList.length = acc'.size := by simp
    refine vals_of_at (by rw [List.length_map, el, hacc.1, lk]) fun j x w h1 h2 => ?_
    obtain ⟨k, hky⟩ := hacc.2 j w (by rw [← Array.getElem?_toList]; exact h2)
    obtain ⟨x', g1, g2⟩ := KV.at' kv hky
    have e2 : (kvs.map fun kv => kv.2)[j]? = some x' := by rw [List.getElem?_map, g1] <;> rfl
    rw [e2] at h1
    cases h1
    exact g2
  · rw [Array.toArray_toList]; exact hS
end
end LiV

namespace Pn
open PySem PySem.Spec PyProof.Rows L2 LiV
/-! ### dicts by whole numbers -/
section
variable {σ : L2.St} {H : Hp} {Q : VK} {D : Ends} {K : PySem.W.Frag} {td ty tv tx te : TE}
theorem w_dget : tDGet td ty σ H Q = td σ H fun x H1 => ty σ H1 fun y H2 => ∃ a v, x = .ref a ∧ DGet H2 a y (some v) ∧ Q v H2 := rfl
theorem w_dget2 : tDGet2 td ty tx σ H Q = td σ H fun x H1 => ∃ a, x = .ref a ∧ IsD H1 a ∧ ty σ H1 fun y H2 => tx σ H2 fun z H3 => ∃ o, DGet H3 a y o ∧ Q (o.getD z) H3 := rfl
theorem w_dput : sDPut td ty tv D σ H = tv σ H fun v H1 => td σ H1 fun x H2 => ty σ H2 fun y H3 => ∃ a H4, x = .ref a ∧ DPut H3 a y v H4 ∧ D.nx σ H4 := rfl
theorem w_dnew : tDNewK σ H Q = ∀ p, H p = none → Q (.ref p) (upd H p (.dK [])) := rfl
theorem w_lv : tListVals te σ H Q = te σ H fun x H1 => ∃ (d : Addr) (kvs : List (Key × V)), x = .ref d ∧ H1 d = some (.dK kvs) ∧ ∀ p : Addr, H1 p = none → Q (.ref p) (upd H1 p (.lst (kvs.map fun kv => kv.2))) := rfl
end
/-- the dict with the keys ks, each with what g tells -/
def dN (ks : List Nat) (g : Nat → V) : List (Key × V) := ks.map fun k : Nat => ((Sum.inl (k : Int) : Key), g k)
theorem dN_val (g : Nat → V) (m : Nat) : ∀ ks : List Nat, valV (dN ks g) (Sum.inl (m : Int)) = if m ∈ ks then some (g m) else none
  | [] => rfl
  | k :: ks => by
    show valV (((Sum.inl (k : Int) : Key), g k) :: dN ks g) (Sum.inl (m : Int)) = _
    by_cases e : k = m
    · subst e
      rw [valV_pos rfl, if_pos (by simp)]
    · rw [valV_neg (fun z => e (by injection z with z; omega)), dN_val g m ks]
      have : (m ∈ k :: ks) = (m ∈ ks) := by
        simp
        intro z
        exact absurd z.symm e
      simp only [this]
theorem dN_get {H : Hp} {a : Addr} {ks : List Nat} {g : Nat → V} {m : Nat} (h : H a = some (.dK (dN ks g))) : DGet H a (.int (m : Int)) (if m ∈ ks then some (g m) else none) := by
  have := DGet.k (k := (Sum.inl (m : Int) : Key)) h
  rw [dN_val] at this
  exact this
theorem dN_at {H : Hp} {a : Addr} {ks : List Nat} {g : Nat → V} {m : Nat} (h : H a = some (.dK (dN ks g))) (hm : m ∈ ks) : DGet H a (.int (m : Int)) (some (g m)) := by
  have := dN_get (m := m) h
  rwa [if_pos hm] at this
theorem dN_put {H : Hp} {a : Addr} {ks : List Nat} {g : Nat → V} {m : Nat} (h : H a = some (.dK (dN ks g))) (hm : m ∉ ks) (hl : ks.length < sizeLine) : DPut H a (.int (m : Int)) (g m) (upd H a (.dK (dN (ks ++ [m]) g))) := by
  have e : dN (ks ++ [m]) g = putK (dN ks g) (Sum.inl (m : Int)) (g m) := by
    rw [putK_new (g m) (by rw [dN_val, if_neg hm])]
    simp [dN]
  rw [e]
  exact DPut.k (k := (Sum.inl (m : Int) : Key)) h (by simpa [dN] using hl)
theorem dN_vals (ks : List Nat) (g : Nat → V) : (dN ks g).map (fun kv => kv.2) = ks.map g := by simp [dN]
theorem dN_len (ks : List Nat) (g : Nat → V) : (dN ks g).length = ks.length := by simp [dN]
theorem w_isB {x y : V} {H : Hp} {Q : VK} : rIsB x y H Q = ∃ a b : Bool, x = .bl a ∧ y = .bl b ∧ Q (.bl (decide (a = b))) H := rfl
theorem w_notB {x y : V} {H : Hp} {Q : VK} : rNotB x y H Q = ∃ a b : Bool, x = .bl a ∧ y = .bl b ∧ Q (.bl (!decide (a = b))) H := rfl
/-! ### methods within a comprehension -/
theorem k_bm {X : Cx} {K : PySem.W.Frag} {e : Expr} {T : String} {r : V → List V → Hp → VK → Prop} {to : TE} {t : TA} (h : PE X e (tBM X.K T r to t)) (hk : X.K = K := by rfl) : PE X e (tBM K T r to t) := by
  subst hk
  exact h
theorem k_count {X : Cx} (K : PySem.W.Frag) (hk : X.K = K := by rfl) : MtR X "list.count" (rCntI K) := by
  subst hk
  exact mt_lcount
/-! ### xs[i] op= e of a list -/
theorem pget_list {X : Cx} (K : PySem.W.Frag) (h : X.K = K := by rfl) : PGet X (rIxL K) := by
  subst h
  intro pins s σ H o at' ov iv Q I ro ri hg
  obtain ⟨l, ys, k, z, rfl, rfl, hS, hA, hq⟩ := hg
  cases ro
  obtain ⟨tk, rfl⟩ := ri
  obtain ⟨raw, rel, isl, size⟩ := I.list hS
  obtain ⟨n, g1, g2, g3, g4, g5⟩ := atI_get hA
  obtain ⟨got, ge, gr⟩ := rel.get g2
  have len := rel.length
  have top := line63
  have done : EP X pins σ Q got s := ⟨z, H, I, gr, hq⟩
  by_cases neg : k < 0
  · have en : (k + (raw.toArray.size : Int)).toNat = n := by
      have g := g1
      rw [seqIndex_neg neg g4] at g
      rw [List.size_toArray, ← len]
      exact Option.some.inj g
    refine wpAny_getItem_list_neg isl.isList neg ?_ (by omega) ?_ done
    · rw [List.size_toArray]
      omega
    · rw [en]
      simpa using ge
  · have en : k.toNat = n := by
      have g := g1
      rw [seqIndex_of (by omega) g5] at g
      exact Option.some.inj g
    refine wpAny_getItem_list isl.isList (by omega) (by omega) ?_ done
    rw [en]
    simpa using ge
theorem w_augS {to ti te : TE} {tget : V → V → Hp → VK → Prop} {tip : TIp} {tset : TSet} {D : Ends} {σ : L2.St} {H : Hp} : tAugS to ti te tget tip tset D σ H = to σ H fun o H1 => ti σ H1 fun i H2 => tget o i H2 fun x H3 => te σ H3 fun y H4 => tip x y H4 fun z H5 => tset o i z H5 fun H6 => D.nx σ H6 := rfl
/-! ### comprehensions over ranges by steps -/
section
variable {σ : L2.St} {H : Hp} {Q : VK} {K : PySem.W.Frag} {te tl : TE} {tt : TT} {tr : TA} {g : TG} {vs : List Nat}
theorem lc_c {lo c : Int} {n : Nat} (f : Nat → Option V) (hl : n < sizeLine)
    (hs : ∀ (i : Nat) (H' : Hp), i < n → Same H H' → ∀ (N0 : Hp → Prop) (N1 : VK), (f i = none → ∀ H2, Same H' H2 → N0 H2) → (∀ y, f i = some y → ∀ H2, Same H' H2 → N1 y H2) →
      g (.int (lo + (i : Nat) * c)) (wipe σ vs) H' fun σ2 H2 => wipe σ2 vs = wipe σ vs ∧ tt σ2 H2 fun b H3 => if b = true then te σ2 H3 N1 else N0 H3)
    (q : ∀ D H', H D = none → Same H H' → H' D = some (.lst ((List.range n).filterMap f)) → Q (.ref D) H') : LJ (Itc lo c n) g tt te vs σ H Q := by
  intro D hD
  refine ⟨fun j left Hw => left + j = n ∧ Same H Hw ∧ Hw D = some (.lst ((List.range j).filterMap f)), ⟨n, Nat.add_zero n, same_new hD, by rw [upd_same]; simp⟩, fun j left Hw => ?_⟩
  rintro ⟨ej, p1, p2⟩
  rcases Nat.eq_zero_or_pos left with h0 | h0
  · left
    obtain rfl : j = n := by omega
    exact ⟨Nat.le_refl j, q D Hw hD p1 p2⟩
  · right
    have hj : j < n := by omega
    refine ⟨hj, fun Hz => Same H Hz ∧ Hz D = some (.lst ((List.range (j + 1)).filterMap f)), fun Hz hz => ⟨left - 1, by omega, by omega, hz.1, hz.2⟩, fun x Hy hy => ?_⟩
    obtain ⟨e1, e2⟩ := hy
    subst e1 e2
    have hlen : ((List.range j).filterMap f).length < sizeLine := Nat.lt_of_le_of_lt (List.length_filterMap_le _ _) (by rw [List.length_range]; omega)
    have hf1 : (List.range (j + 1)).filterMap f = (List.range j).filterMap f ++ (f j).toList := by
      rw [List.range_succ, List.filterMap_append]
      cases e : f j <;> simp [e]
    refine hs j Hy hj p1 _ _ (fun hf H2 k2 => ⟨p1.trans k2, ?_⟩) fun y hf H2 k2 => ⟨_, k2 _ _ p2, hlen, fun b o h => ?_, ?_⟩
    · rw [k2 _ _ p2, hf1, hf]
      simp
    · rw [upd_ne (ne_of_none h hD)]
      exact k2 _ _ (p1 _ _ h)
    · rw [upd_same, hf1, hf]
      rfl
end
/-! ### a comprehension over a dict's keys -/
section
variable {σ : L2.St} {H : Hp} {Q : VK} {K : PySem.W.Frag} {te tl td : TE} {tt : TT} {tr : TA} {g : TG} {vs : List Nat}
theorem w_lockE {t : TE} : tLockE t σ H Q = ∃ d u, H d = some u ∧ Mut (some u) ∧ ∀ od, t σ (upd H d (.frz od u)) fun v H' => H' d = some (.frz od u) ∧ Q v (upd H' d u) := rfl
theorem w_lcK : tLc (iKeys td) g tt te vs σ H Q = td σ H fun x H1 => ∃ d o, x = .ref d ∧ ((∃ kvs, H1 d = some (.frz o (.dK kvs)) ∧ LJ (Itk d o kvs) g tt te vs σ H1 Q) ∨ ∃ kvs, H1 d = some (.frz o (.dT kvs)) ∧ LJ (Itkt d o kvs) g tt te vs σ H1 Q) := rfl
theorem same_unlock {H0 H' : Hp} {d : Addr} {x u : HO} (s : Same (upd H0 d x) H') (h : H0 d = some u) : Same H0 (upd H' d u) := fun b o hb => by
  by_cases e : b = d
  · subst e
    rw [upd_same, ← h, hb]
  · rw [upd_ne e]
    exact s _ _ ((upd_ne e).trans hb)
theorem lc_k {d : Addr} {o : Obj} {kvs : List (Key × V)} (f : Key → Option V) (hx : H d = some (.frz o (.dK kvs))) (hl : kvs.length < sizeLine)
    (hs : ∀ (i : Nat) (k : Key) (v : V) (H' : Hp), kvs[i]? = some (k, v) → Same H H' → ∀ (N0 : Hp → Prop) (N1 : VK), (f k = none → ∀ H2, Same H' H2 → N0 H2) → (∀ y, f k = some y → ∀ H2, Same H' H2 → N1 y H2) →
      g (kV k) (wipe σ vs) H' fun σ2 H2 => wipe σ2 vs = wipe σ vs ∧ tt σ2 H2 fun b H3 => if b = true then te σ2 H3 N1 else N0 H3)
    (q : ∀ D H', H D = none → Same H H' → H' D = some (.lst ((kvs.map (·.1)).filterMap f)) → Q (.ref D) H') : LJ (Itk d o kvs) g tt te vs σ H Q := by
  intro D hD
  have hDd : d ≠ D := ne_of_none hx hD
  refine ⟨fun j left Hw => left + j = kvs.length ∧ Same H Hw ∧ Hw D = some (.lst (((kvs.map (·.1)).take j).filterMap f)), ⟨kvs.length, Nat.add_zero _, same_new hD, by rw [upd_same]; simp⟩, fun j left Hw => ?_⟩
  rintro ⟨ej, p1, p2⟩
  rcases Nat.eq_zero_or_pos left with h0 | h0
  · left
    have e : j = kvs.length := by omega
    refine ⟨⟨p1 _ _ hx, by omega⟩, q D Hw hD p1 ?_⟩
    rw [p2, List.take_of_length_le (by simp; omega)]
  · right
    have hj : j < kvs.length := by omega
    refine ⟨⟨p1 _ _ hx, hj⟩, fun Hz => Same H Hz ∧ Hz D = some (.lst (((kvs.map (·.1)).take (j + 1)).filterMap f)), fun Hz hz => ⟨left - 1, by omega, by omega, hz.1, hz.2⟩, fun x Hy hy => ?_⟩
    obtain ⟨e1, k, v, hk, e2⟩ := hy
    subst e1 e2
    have hk1 : (kvs.map (·.1))[j]? = some k := by rw [List.getElem?_map, hk]; rfl
    have hlen : (((kvs.map (·.1)).take j).filterMap f).length < sizeLine := Nat.lt_of_le_of_lt (Nat.le_trans (List.length_filterMap_le _ _) (by rw [List.length_take, List.length_map]; exact Nat.min_le_right _ _)) hl
    refine hs j k v Hy hk p1 _ _ (fun hf H2 k2 => ⟨p1.trans k2, ?_⟩) fun y hf H2 k2 => ⟨_, k2 _ _ p2, hlen, fun b o h => ?_, ?_⟩
    · rw [k2 _ _ p2, filt_take f hk1, hf]
      simp
    · rw [upd_ne (ne_of_none h hD)]
      exact k2 _ _ (p1 _ _ h)
    · rw [upd_same, filt_take f hk1, hf]
      rfl
/-- within the lock the dict still tells -/
theorem dN_atF {H : Hp} {a : Addr} {o : Obj} {ks : List Nat} {g : Nat → V} {m : Nat} (h : H a = some (.frz o (.dK (dN ks g)))) (hm : m ∈ ks) : DGet H a (.int (m : Int)) (some (g m)) := by
  refine .inl ⟨dN ks g, Sum.inl (m : Int), .inr ⟨o, h⟩, rfl, ?_⟩
  rw [dN_val, if_pos hm]
end
/-- the dict with one more, or one told anew -/
theorem dN_upd {H : Hp} {a : Addr} {ks : List Nat} {g : Nat → V} {v : V} {m : Nat} (h : H a = some (.dK (dN ks g))) (hl : ks.length < sizeLine) : DPut H a (.int (m : Int)) v (upd H a (.dK (dN (if m ∈ ks then ks else ks ++ [m]) fun k => if k = m then v else g k))) := by
  by_cases e : m ∈ ks
  · have e1 : dN ks (fun k => if k = m then v else g k) = putK (dN ks g) (Sum.inl (m : Int)) v := by
      unfold putK
      rw [valV_any, dN_val, if_pos e]
      simp only [Option.isSome_some, if_true]
      unfold dN
      rw [List.map_map]
      refine List.map_congr_left fun k hk => ?_
      show ((Sum.inl (k : Int) : Key), if k = m then v else g k) = if (Sum.inl (k : Int) : Key) = Sum.inl (m : Int) then ((Sum.inl (k : Int) : Key), v) else ((Sum.inl (k : Int) : Key), g k)
      by_cases c : k = m
      · subst c
        rw [if_pos rfl, if_pos rfl]
      · rw [if_neg c, if_neg fun z => c (by injection z with z; omega)]
    rw [if_pos e, e1]
    exact DPut.k (k := (Sum.inl (m : Int) : Key)) h (by simpa [dN] using hl)
  · rw [if_neg e]
    have e1 : dN (ks ++ [m]) (fun k => if k = m then v else g k) = putK (dN ks g) (Sum.inl (m : Int)) v := by
      rw [putK_new v (by rw [dN_val, if_neg e])]
      unfold dN
      rw [List.map_append]
      congr 1
      · refine List.map_congr_left fun k hk => ?_
        show ((Sum.inl (k : Int) : Key), if k = m then v else g k) = ((Sum.inl (k : Int) : Key), g k)
        rw [if_neg fun z : k = m => e (by rw [← z]; exact hk)]
      · simp
    rw [e1]
    exact DPut.k (k := (Sum.inl (m : Int) : Key)) h (by simpa [dN] using hl)
end Pn
namespace Pn
open PySem PySem.Spec PyProof.Rows L2
/-- a triple, or None -/
def VG (H : Hp) (v : V) : Option (Nat × Nat × Nat) → Prop
  | none => v = .non
  | some t => ∃ p, v = .ref p ∧ H p = some (.tup [.int (t.1 : Int), .int (t.2.1 : Int), .int (t.2.2 : Int)])
theorem VG.same {H H' : Hp} {v : V} {o : Option (Nat × Nat × Nat)} (h : VG H v o) (s : Same H H') : VG H' v o := by
  cases o with
  | none => exact h
  | some t =>
    obtain ⟨p, rfl, hp⟩ := h
    exact ⟨p, rfl, s _ _ hp⟩
def dG : Option (Nat × Nat × Nat) → PyData
  | none => .none
  | some t => .tuple (dI [(t.1 : Int), (t.2.1 : Int), (t.2.2 : Int)])
theorem dp_g {K : PySem.W.Frag} {H : Hp} {v : V} : ∀ {o : Option (Nat × Nat × Nat)}, VG H v o → Dp K H v (dG o)
  | none, h => by
    cases h
    exact .non
  | some t, h => by
    obtain ⟨p, rfl, hp⟩ := h
    exact .tup (SqT.of hp) (dpAll_ints [(t.1 : Int), (t.2.1 : Int), (t.2.2 : Int)])
theorem sh_g : ∀ o : Option (Nat × Nat × Nat), SeqAt.shaped (dG o) = true
  | none => rfl
  | some t => sh_tI _
theorem eqv_g : ∀ o o' : Option (Nat × Nat × Nat), PyData.eqv (dG o) (dG o') = decide (o = o')
  | some (a, b, c), some (d, e, f) => by
    simp only [dG, PyData.eqv, eqv_ints, List.cons.injEq, Int.natCast_inj, Option.some.injEq, Prod.mk.injEq, and_true]
  | some a, none => by simp [dG, PyData.eqv]
  | none, some b => by simp [dG, PyData.eqv]
  | none, none => by simp [dG, PyData.eqv]
section
variable {K : PySem.W.Frag} {H : Hp} {Q : VK} {x y : V}
theorem r_neG {o o' : Option (Nat × Nat × Nat)} (hx : VG H x o) (hy : VG H y o') (q : Q (.bl (!decide (o = o'))) H) : rNeD K x y H Q :=
  ⟨dG o, dG o', dp_g hx, dp_g hy, sh_g o, sh_g o', by rw [eqv_g]; exact q⟩
theorem r_eqG {o o' : Option (Nat × Nat × Nat)} (hx : VG H x o) (hy : VG H y o') (q : Q (.bl (decide (o = o'))) H) : rEqD K x y H Q :=
  ⟨dG o, dG o', dp_g hx, dp_g hy, sh_g o, sh_g o', by rw [eqv_g]; exact q⟩
end
theorem ofN_sorted {ns : List Nat} (h : ns.Pairwise (· < ·)) : (ofN ns).Pairwise (· ≤ ·) := by
  unfold ofN
  rw [List.pairwise_map]
  exact h.imp fun c => by omega
/-- what sorted tells of these keys -/
theorem sorted_is {ks ls : List Nat} {ys : List Int} (hn : ks.Nodup) (hl : ls.Pairwise (· < ·)) (h : ∀ x, x ∈ ks ↔ x ∈ ls) (hp : ys.Perm (ofN ks)) (hs : ys.Pairwise (· ≤ ·)) : ys = ofN ls := by
  have p1 : ks.Perm ls := (List.perm_ext_iff_of_nodup hn (hl.imp fun c => Nat.ne_of_lt c)).mpr h
  have p2 : ys.Perm (ofN ls) := hp.trans (p1.map _)
  exact List.Perm.eq_of_pairwise (fun a b _ _ h1 h2 => Int.le_antisymm h1 h2) hs (ofN_sorted hl) p2
theorem dN_keys (ks : List Nat) (g : Nat → V) : (dN ks g).map (·.1) = (ofN ks).map Sum.inl := by
  unfold dN ofN
  rw [List.map_map, List.map_map]
  rfl
theorem powL_len (m : Nat) : (powL m).length ≤ m := by
  unfold powL
  refine Nat.le_trans (List.length_filterMap_le _ _) ?_
  rw [List.length_range]
  exact Nat.le_refl _
theorem ofN_at {ns : List Nat} {i : Nat} {x : V} (h : ((ofN ns).map V.int)[i]? = some x) : ∃ n : Nat, ns[i]? = some n ∧ x = V.int (n : Int) := by
  unfold ofN at h
  rw [List.getElem?_map, List.getElem?_map] at h
  cases e : ns[i]? with
  | none => simp [e] at h
  | some n =>
    simp [e] at h
    exact ⟨n, rfl, h.symm⟩
/-- the squares and the higher powers together -/
theorem pow_split {m x : Nat} : (1 ≤ x ∧ x ≤ m ∧ IsPow x) ↔ (∃ b e, 1 ≤ b ∧ 3 ≤ e ∧ 2 ^ e ≤ m ∧ x = b ^ e ∧ x ≤ m) ∨ ∃ b, 1 ≤ b ∧ b ≤ rootN m 2 ∧ x = b * b := by
  constructor
  · rintro ⟨h1, h2, b, e, b1, e2, rfl⟩
    have sq : ∀ c, 1 ≤ c → c * c ≤ m → ∃ b, 1 ≤ b ∧ b ≤ rootN m 2 ∧ c * c = b * b := fun c c1 c2 => ⟨c, c1, rootN_ge (by omega) (by rw [Nat.pow_two]; exact c2), rfl⟩
    rcases (by omega : e = 2 ∨ 3 ≤ e) with rfl | e3
    · rw [Nat.pow_two] at h2 ⊢
      exact .inr (sq b b1 h2)
    · rcases (by omega : b = 1 ∨ 2 ≤ b) with rfl | b2
      · rw [Nat.one_pow] at h2 ⊢
        exact .inr (sq 1 (by omega) h2)
      · exact .inl ⟨b, e, b1, e3, Nat.le_trans (Nat.pow_le_pow_left b2 e) h2, rfl, h2⟩
  · rintro (⟨b, e, b1, e3, h, rfl, h2⟩ | ⟨b, b1, b2, rfl⟩)
    · exact ⟨Nat.pow_pos b1, h2, b, e, b1, by omega, rfl⟩
    · have h3 : b ^ 2 ≤ rootN m 2 ^ 2 := Nat.pow_le_pow_left b2 2
      have h4 := rootN_le (n := m) (e := 2) (by omega)
      rw [Nat.pow_two b] at h3
      exact ⟨Nat.mul_pos b1 b1, by omega, b, 2, b1, by omega, by rw [Nat.pow_two]⟩
theorem pairwise_at {l : List Nat} {i j x y : Nat} (h : l.Pairwise (· < ·)) (hij : i < j) (h1 : l[i]? = some x) (h2 : l[j]? = some y) : x < y := by
  obtain ⟨a, ea⟩ := List.getElem?_eq_some_iff.mp h1
  obtain ⟨b, eb⟩ := List.getElem?_eq_some_iff.mp h2
  rw [List.pairwise_iff_getElem] at h
  have := h i j a b hij
  rwa [ea, eb] at this
/-- a display of one pair, its key a whole number -/
theorem r_disp1 {σ : L2.St} {H : Hp} {Q : VK} {k : Nat} {y : V} (q : ∀ p, H p = none → Q (.ref p) (upd H p (.dK (dN [k] fun _ => y)))) : tDisp [(tC (.int (k : Int)), tC y)] σ H Q := fun p hp => by
  refine ⟨upd_same, [((Sum.inl (k : Int) : Key), y)], rfl, by show 1 ≤ 15; decide, ?_⟩
  rw [upd_upd]
  exact q p hp
theorem dN_any {H : Hp} {a : Addr} {ks : List Nat} {v : V} {m : Nat} (h : H a = some (.dK (dN ks fun _ => v))) (hl : ks.length < sizeLine) : DPut H a (.int (m : Int)) v (upd H a (.dK (dN (if m ∈ ks then ks else ks ++ [m]) fun _ => v))) := by
  have := dN_upd (m := m) (v := v) h hl
  have e : (fun k => if k = m then v else (fun _ => v) k) = fun _ : Nat => v := by
    funext k
    split <;> rfl
  rw [e] at this
  exact this
theorem put_nodup {x : Nat} {ks : List Nat} (h : ks.Nodup) : (if x ∈ ks then ks else ks ++ [x]).Nodup ∧ (∀ y, y ∈ (if x ∈ ks then ks else ks ++ [x]) ↔ y ∈ ks ∨ y = x) ∧ (if x ∈ ks then ks else ks ++ [x]).length ≤ ks.length + 1 := by
  by_cases c : x ∈ ks
  · rw [if_pos c]
    exact ⟨h, fun y => ⟨.inl, fun z => z.elim id fun e => e ▸ c⟩, by omega⟩
  · rw [if_neg c]
    refine ⟨?_, fun y => by simp, by simp⟩
    rw [List.nodup_append]
    refine ⟨h, by simp, ?_⟩
    intro y hy z hz e2
    simp at hz
    subst hz e2
    exact c hy
theorem r_eqDI {K : PySem.W.Frag} {H : Hp} {Q : VK} {a b : Int} (q : Q (.bl (decide (a = b))) H) : rEqD K (.int a) (.int b) H Q :=
  ⟨.int a, .int b, .int a, .int b, rfl, rfl, by rw [PyData.eqv, Bool.beq_eq_decide_eq]; exact q⟩
end Pn
namespace Pn
open PySem PySem.Spec PyProof.Rows L2
/-- a deck at a: the cells at l, how many are begun, what is left of one, how many were mixed (at most n), the sum -/
def Dk (H : Hp) (a l : Addr) (n : Nat) : Prop := ∃ (ns : List Int) (i x c s : Int), H a = some (.lst [.ref l, .int i, .int x, .int c, .int s]) ∧ l ≠ a ∧ H l = some (.lst (ns.map V.int)) ∧ ns.length ≤ 63 ∧ 0 ≤ i ∧ i ≤ ns.length ∧ 0 ≤ x ∧ 0 ≤ c ∧ c ≤ n
theorem Dk.mono {H : Hp} {a l : Addr} {n m : Nat} (h : Dk H a l n) (le : n ≤ m) : Dk H a l m := by
  obtain ⟨ns, i, x, c, s, h1, h2, h3, h4, h5, h6, h7, h8, h9⟩ := h
  exact ⟨ns, i, x, c, s, h1, h2, h3, h4, h5, h6, h7, h8, by omega⟩
/-- it stands where nothing of what was tracked changed -/
theorem Dk.same {H H' : Hp} {a l : Addr} {n : Nat} (h : Dk H a l n) (e : Same H H') : Dk H' a l n := by
  obtain ⟨ns, i, x, c, s, h1, h2, h3, h⟩ := h
  exact ⟨ns, i, x, c, s, e _ _ h1, h2, e _ _ h3, h⟩
theorem Dk.lst {H : Hp} {a l : Addr} {n : Nat} (h : Dk H a l n) : ∃ ys, H a = some (.lst ys) := by
  obtain ⟨ns, i, x, c, s, h1, _⟩ := h
  exact ⟨_, h1⟩
theorem Dk.ne {H : Hp} {a l p : Addr} {n : Nat} (h : Dk H a l n) (hp : H p = none) : p ≠ a := by
  obtain ⟨_, h1⟩ := h.lst
  exact (ne_of_none h1 hp).symm
theorem Dk.neL {H : Hp} {a l p : Addr} {n : Nat} (h : Dk H a l n) (hp : H p = none) : p ≠ l := by
  obtain ⟨ns, i, x, c, s, h1, h2, h3, h⟩ := h
  exact (ne_of_none h3 hp).symm
/-- where something apart from the deck and its cells is changed -/
theorem Dk.upd {H : Hp} {a l p : Addr} {n : Nat} {o : HO} (h : Dk H a l n) (n1 : p ≠ a) (n2 : p ≠ l) : Dk (upd H p o) a l n := by
  obtain ⟨ns, i, x, c, s, h1, h2, h3, h⟩ := h
  exact ⟨ns, i, x, c, s, (upd_ne n1.symm).trans h1, h2, (upd_ne n2.symm).trans h3, h⟩
end Pn
/-! PnO: objects of a class, loops over a dict's pairs and values, dicts compared with none. -/
namespace Pn
open PySem PySem.Spec PyProof.Rows L2
/-- the class of this name, as the top has made it; these are names of fields -/
structure KCl (K : PySem.W.Frag) (x : PySem.Str) (as : List PySem.Str) (C : Addr) : Prop where
  ns : PySem.W.nsIn K mainGlobals x = some (some (.ref C))
  cl : Cls K C
  no : ∀ a, a ∈ as → NoAttr K C a
/-- a method that stands in it, with its promise -/
structure FnM (P : Program) (w : World) (K : PySem.W.Frag) (mg : PySem.Str → Option Value) (base : Heap) (CX : CXT) (k : Nat) (x : PySem.Str) (as : List PySem.Str) (m : PySem.Str) (ps : List PySem.Str) (sp : Sp) : Prop where
  ex : ∃ (C f : Addr) (fd : FuncData), KCl K x as C ∧ Meth K C m f ∧ Binds K fd ps [] ∧ FnOk P w K mg base CX k f fd ps sp
/-- how one is made -/
structure FnK (P : Program) (w : World) (K : PySem.W.Frag) (mg : PySem.Str → Option Value) (base : Heap) (CX : CXT) (k : Nat) (x : PySem.Str) (as : List PySem.Str) (ps : List PySem.Str) (sp : Sp) : Prop where
  ex : ∃ (C f : Addr) (fd : FuncData), KCl K x as C ∧ Mk K C f ∧ mg x = some (.ref C) ∧ Binds K fd ps [] ∧ FnOk P w K mg base CX k f fd ps sp
/-- it is an object of the class -/
def IsO (K : PySem.W.Frag) (x m : PySem.Str) (y : V) (H : Hp) : Prop := ∃ (a C dx : Addr) (fs : List (PySem.Str × V)), y = .ref a ∧ H a = some (.ins C dx fs) ∧ PySem.W.nsIn K mainGlobals x = some (some (.ref C)) ∧ fs.lookup m = none
def tMt (K : PySem.W.Frag) (x m : PySem.Str) (sp : Sp) (E : XK) (ta : TE) (t : TA) : TE := fun σ H Q => ta σ H fun y H1 => IsO K x m y H1 ∧ t σ H1 fun vs H2 => sp (y :: vs) H2 Q E
def tMk (K : PySem.W.Frag) (x : PySem.Str) (as : List PySem.Str) (sp : Sp) (E : XK) (t : TA) : TE := fun σ H Q => t σ H fun vs H1 => ∀ (C y dx : Addr), KCl K x as C → H1 y = none → H1 dx = none → dx ≠ y → sp (.ref y :: vs) (upd (upd H1 dx (.own y)) y (.ins C dx [])) (fun v H2 => v = .non ∧ Q (.ref y) H2) E
theorem mt_eq {K : PySem.W.Frag} {x m : PySem.Str} {C : Addr} (ns : PySem.W.nsIn K mainGlobals x = some (some (.ref C))) (sp : Sp) (E : XK) (ta : TE) (t : TA) : tMeth C m sp [] E ta t = tMt K x m sp E ta t := by
  funext σ H Q
  unfold tMeth tMt IsO
  congr 1
  funext y H1
  refine propext ⟨?_, ?_⟩
  · rintro ⟨a, dx, fs, h1, h2, h3, h4⟩
    simp only [List.append_nil] at h4
    exact ⟨⟨a, C, dx, fs, h1, h2, ns, h3⟩, h4⟩
  · rintro ⟨⟨a, C', dx, fs, h1, h2, h3, h4⟩, h5⟩
    rw [ns] at h3
    cases h3
    refine ⟨a, dx, fs, h1, h2, h4, ?_⟩
    simp only [List.append_nil]
    exact h5
section
variable {X : Cx} {k : Nat} {x m : PySem.Str} {as ps : List PySem.Str} {sp : Sp} {ta : TE} {t : TA} {o e : Expr} {es : List Expr} {p apos pos : Pos}
theorem pe_mt {K : PySem.W.Frag} {pl : Sem Bool} (h : FnM X.prog X.w K X.mg X.base CX0 k x as m ps sp) (hr : Room k X.A) (he : PE X o ta) (ha : PA X (e :: es) t)
    (hst : starEach (e :: es) X.env = (false, eval e X.env) :: starEach es X.env := by rfl) (hpl : (backTo pos (starEach es X.env)).any (·.1) = false := by rfl)
    (ht : eval (.Call (.Attribute o m apos) (e :: es) [] pos) X.env = (do
      let ov ← eval o X.env
      standAt apos.atName
      let (f, first) ← holding [ov] (getMethod ov m pl)
      callWith pos f first (backTo pos (starEach (e :: es) X.env)) (backToKw pos (keywordEach [] X.env))) := by rfl) (hk : X.K = K := by rfl) :
    PE X (.Call (.Attribute o m apos) (e :: es) [] pos) (tMt K x m sp E0 ta t) := by
  subst hk
  obtain ⟨C, f, fd, hC, hM, hB, F⟩ := h.ex
  rw [← mt_eq hC.ns]
  exact pe_meth he hC.cl hM F hr hB .nil pass0 ha hst hpl ht
theorem pe_mt0 {K : PySem.W.Frag} {pl : Sem Bool} (h : FnM X.prog X.w K X.mg X.base CX0 k x as m ps sp) (hr : Room k X.A) (he : PE X o ta)
    (ht : eval (.Call (.Attribute o m apos) [] [] pos) X.env = (do
      let ov ← eval o X.env
      standAt apos.atName
      let (f, first) ← holding [ov] (getMethod ov m pl)
      callWith pos f first (backTo pos (starEach [] X.env)) (backToKw pos (keywordEach [] X.env))) := by rfl) (hk : X.K = K := by rfl) :
    PE X (.Call (.Attribute o m apos) [] [] pos) (tMt K x m sp E0 ta tNil) := by
  subst hk
  obtain ⟨C, f, fd, hC, hM, hB, F⟩ := h.ex
  rw [← mt_eq hC.ns]
  exact pe_meth0 he hC.cl hM F hr hB .nil pass0 ht
theorem k_fld (K : PySem.W.Frag) {f : PySem.Str} (he : PE X e ta) (hb : attributeBase e f X.env (eval e X.env) = eval e X.env) (hk : X.K = K := by rfl) : PE X (.Attribute e f pos) (tFld K ta f) := by
  subst hk
  exact pe_fld he hb
theorem pe_mk0 {K : PySem.W.Frag} (h : FnK X.prog X.w K X.mg X.base CX0 k x as ps sp) (hr : Room (k + 1) X.A) (hg : Gl X x) (hdb : (x == ("__debug__" : PySem.Str)) = false := by decide) (hk : X.K = K := by rfl) :
    PE X (.Call (.Name x p) [] [] pos) (tMk K x as sp E0 tNil) := by
  subst hk
  obtain ⟨C, f, fd, hC, hM, hm, hB, F⟩ := h.ex
  have g := pe_make0 (p := p) (pos := pos) hM F hr hg hm hB .nil pass0 hdb
  refine ⟨fun pins s σ H Q I q => g.run pins s σ H Q I ?_⟩
  intro y dx h1 h2 h3
  exact q C y dx hC h1 h2 h3
theorem k_lstG (K : PySem.W.Frag) {es : List Expr} {k : Nat} {t : TGs} {n : Nat} {pos : Pos} (hc : X.calm = true) (h : PGs X es t)
    (hn : (assignEach es X.env).length = n := by rfl) (hst : (assignEach es X.env).findIdx? (·.1) = none := by rfl) (hk : X.K = K := by rfl) : PG X (.Tuple es k pos) (gLst K n t) := by
  subst hk
  exact pg_lst hc h hn hst
/-- a dict that is but walked from here on -/
def tFrz (td : TE) : TE := fun σ H Q => td σ H fun x H1 => ∃ (d : Addr) (kvs : List (Key × V)), x = .ref d ∧ H1 d = some (.dK kvs) ∧ ∀ od, Q (.ref d) (upd H1 d (.frz od (.dK kvs)))
theorem pe_frz {e : Expr} {td : TE} (h : PE X e td) : PE X e (tFrz td) := by
  refine ⟨fun pins s σ H Q I q => ?_⟩
  refine thn (h.run pins s σ H _ I q) fun v s1 ⟨x, H1, I1, r, d, kvs, ex, hd, q1⟩ => ?_
  subst ex
  obtain ⟨od, I2⟩ := I1.lock hd trivial
  exact ⟨.ref d, _, I2, r, q1 od⟩
/-- d == {}: and what it is where a pair stands in it -/
def rEqD0 : R2 := fun x y H Q => ∃ (a b : Addr) (ks : List (Key × V)), x = .ref a ∧ y = .ref b ∧ H a = some (.dK ks) ∧ H b = some (.dK []) ∧ Q (.bl ks.isEmpty) H
theorem op_eqD0 (hu : X.A.units < cLine) : OpR X (compareOp .Eq) rEqD0 := by
  intro pins s σ H x y v u Q I rx ry h
  obtain ⟨a, b, ks, rfl, rfl, ea, eb, q⟩ := h
  obtain rfl : v = Value.ref a := rx
  obtain rfl : u = Value.ref b := ry
  obtain ⟨_, ya, va, ra, da⟩ := (show ObjOk X.prog X.w H s.heap a (.dK ks) from I.hok a _ ea)
  obtain ⟨_, yb, vb, rb, db⟩ := (show ObjOk X.prog X.w H s.heap b (.dK []) from I.hok b _ eb)
  have hb : vb.length = 0 := by rw [← rb.length]; rfl
  have ha : va.length = ks.length := ra.length.symm
  refine PySem.W.keq_eq (knd := mixKind X.prog X.w) (r := true) ya yb da db hu (fun e => ?_) (fin_bl I q ?_)
  · have e0 : ks = [] := List.length_eq_zero_iff.mp (by omega)
    subst e0
    exact hits_all rb ra fun p hp => by cases hp
  · rw [hb, ha]
    cases ks <;> rfl
end
/-! ### readings -/
section
variable {σ : L2.St} {H : Hp} {Q : VK} {D : Ends} {K : PySem.W.Frag} {te td ta tv : TE} {tt : TT} {tr : TA} {s1 : TS} {g : TG} {vs : List Nat}
def rFld (K : PySem.W.Frag) (f : PySem.Str) (x : V) (H : Hp) (Q : VK) : Prop := ∃ a C dx fs v, x = .ref a ∧ H a = some (.ins C dx fs) ∧ Cls K C ∧ NoAttr K C f ∧ fs.lookup f = some v ∧ Q v H
theorem w_fld {f : PySem.Str} : tFld K ta f σ H Q = ta σ H fun x H1 => rFld K f x H1 Q := rfl
def rPutF (K : PySem.W.Frag) (f : PySem.Str) (x y : V) (H : Hp) (QH : Hp → Prop) : Prop := ∃ a C dx fs, x = .ref a ∧ H a = some (.ins C dx fs) ∧ Cls K C ∧ NoAttr K C f ∧ fs.length < 1000 ∧ QH (upd H a (.ins C dx (putF f y fs)))
theorem w_sfld {f : PySem.Str} : sFld K ta tv f D σ H = tv σ H fun y H1 => ta σ H1 fun x H2 => rPutF K f x y H2 fun H3 => D.nx σ H3 := rfl
theorem w_mt {x m : PySem.Str} {sp : Sp} {E : XK} : tMt K x m sp E ta tr σ H Q = ta σ H fun y H1 => IsO K x m y H1 ∧ tr σ H1 fun us H2 => sp (y :: us) H2 Q E := rfl
theorem w_mk {x : PySem.Str} {as : List PySem.Str} {sp : Sp} {E : XK} : tMk K x as sp E tr σ H Q = tr σ H fun us H1 => ∀ (C y dx : Addr), KCl K x as C → H1 y = none → H1 dx = none → dx ≠ y → sp (.ref y :: us) (upd (upd H1 dx (.own y)) y (.ins C dx [])) (fun v H2 => v = .non ∧ Q (.ref y) H2) E := rfl
theorem w_frz : tFrz td σ H Q = td σ H fun x H1 => ∃ (d : Addr) (kvs : List (Key × V)), x = .ref d ∧ H1 d = some (.dK kvs) ∧ ∀ od, Q (.ref d) (upd H1 d (.frz od (.dK kvs))) := rfl
theorem w_forI : tFor (iItems td) g s1 D σ H = td σ H fun x H1 => ∃ d o kvs, x = .ref d ∧ H1 d = some (.frz o (.dK kvs)) ∧ FJ (Iti d o kvs) g s1 D σ H1 := rfl
theorem w_forV : tFor (iVals td) g s1 D σ H = td σ H fun x H1 => ∃ d o kvs, x = .ref d ∧ H1 d = some (.frz o (.dK kvs)) ∧ FJ (Itd d o kvs) g s1 D σ H1 := rfl
theorem w_lcV : tLc (iVals td) g tt te vs σ H Q = td σ H fun x H1 => ∃ d o kvs, x = .ref d ∧ H1 d = some (.frz o (.dK kvs)) ∧ LJ (Itd d o kvs) g tt te vs σ H1 Q := rfl
theorem w_lockS {s : TS} : tLock s D σ H = ∃ d u, H d = some u ∧ Mut (some u) ∧ ∀ od, s ⟨fun σ' H' => H' d = some (.frz od u) ∧ D.nx σ' (upd H' d u), fun v H' => H' d = some (.frz od u) ∧ D.rt v (upd H' d u), fun σ' H' => H' d = some (.frz od u) ∧ D.bk σ' (upd H' d u), fun σ' H' => H' d = some (.frz od u) ∧ D.ct σ' (upd H' d u)⟩ σ (upd H d (.frz od u)) := rfl
theorem w_asgL {n : Nat} {t : TGs} : tAsg te (gLst K n t) D σ H = te σ H fun v H1 => ∃ a xs, v = .ref a ∧ SqL K H1 a xs ∧ xs.length = n ∧ t xs σ H1 D.nx := rfl
theorem w_gSub {to ti : TE} {ts : TSet} {v : V} {QN : L2.St → Hp → Prop} : gSub to ti ts v σ H QN = to σ H fun o H1 => ti σ H1 fun i H2 => ts o i v H2 fun H3 => QN σ H3 := rfl
theorem w_minV : tMinVals td σ H Q = td σ H fun x H1 => ∃ a kvs is, x = V.ref a ∧ H1 a = some (.dK kvs) ∧ kvs.map (·.2) = is.map V.int ∧ is ≠ [] ∧ ∀ m, m ∈ is → (∀ j ∈ is, m ≤ j) → Q (.int m) H1 := rfl
/-- over the pairs of a dict of whole numbers -/
theorem for_i {d : Addr} {o : Obj} {ks : List Nat} {f : Nat → V} (Pv : Nat → L2.St → Hp → Prop) (h0 : Pv 0 σ H) (hl : ∀ i σ H, i ≤ ks.length → Pv i σ H → H d = some (.frz o (.dK (dN ks f))))
    (hs : ∀ i k σ H T, ks[i]? = some k → i < ks.length → Pv i σ H → H T = none → ∀ N : L2.St → Hp → Prop, (∀ σ' H', Pv (i + 1) σ' H' → N σ' H') → g (.ref T) σ (upd H T (.tup [.int (k : Int), f k])) fun σ2 H2 => s1 { D with nx := N, ct := N, bk := D.nx } σ2 H2)
    (hd : ∀ σ H, Pv ks.length σ H → D.nx σ H) : FJ (Iti d o (dN ks f)) g s1 D σ H := by
  have el : (dN ks f).length = ks.length := dN_len ks f
  refine for_it (n := ks.length) (G := fun H => H d = some (.frz o (.dK (dN ks f)))) (Y := fun i H x H' => ∃ (T : Addr) (k : Nat), x = .ref T ∧ H T = none ∧ H' = upd H T (.tup [.int (k : Int), f k]) ∧ ks[i]? = some k) ?_ Pv h0 hl ?_ hd
  · refine ⟨fun i H hi q => ⟨q, by rw [el]; exact hi⟩, fun H q => ⟨q, by rw [el]; exact Nat.le_refl _⟩, fun i H x H' hi q y => ?_⟩
    obtain ⟨T, k, v, h1, h2, h3, h4⟩ := y
    unfold dN at h1
    rw [List.getElem?_map] at h1
    cases e : ks[i]? with
    | none =>
      rw [e] at h1
      cases h1
    | some n =>
      rw [e] at h1
      cases h1
      exact ⟨T, n, h2, h3, h4, rfl⟩
  · rintro i x σ H H' hi p ⟨T, k, rfl, hT, rfl, hk⟩
    exact hs i k σ H T hk hi p hT _ fun _ _ z => z
/-- over the values of a dict of whole numbers -/
theorem for_v {d : Addr} {o : Obj} {ks : List Nat} {f : Nat → V} (Pv : Nat → L2.St → Hp → Prop) (h0 : Pv 0 σ H) (hl : ∀ i σ H, i ≤ ks.length → Pv i σ H → H d = some (.frz o (.dK (dN ks f))))
    (hs : ∀ i k σ H, ks[i]? = some k → i < ks.length → Pv i σ H → ∀ N : L2.St → Hp → Prop, (∀ σ' H', Pv (i + 1) σ' H' → N σ' H') → g (f k) σ H fun σ2 H2 => s1 { D with nx := N, ct := N, bk := D.nx } σ2 H2)
    (hd : ∀ σ H, Pv ks.length σ H → D.nx σ H) : FJ (Itd d o (dN ks f)) g s1 D σ H := by
  have el : (dN ks f).length = ks.length := dN_len ks f
  refine for_it (n := ks.length) (G := fun H => H d = some (.frz o (.dK (dN ks f)))) (Y := fun i H x H' => H' = H ∧ ∃ k : Nat, x = f k ∧ ks[i]? = some k) ?_ Pv h0 hl ?_ hd
  · refine ⟨fun i H hi q => ⟨q, by rw [el]; exact hi⟩, fun H q => ⟨q, by rw [el]; exact Nat.le_refl _⟩, fun i H x H' hi q y => ?_⟩
    obtain ⟨h0, k, h1⟩ := y
    unfold dN at h1
    rw [List.getElem?_map] at h1
    cases e : ks[i]? with
    | none =>
      rw [e] at h1
      cases h1
    | some n =>
      rw [e] at h1
      cases h1
      exact ⟨h0, n, rfl, rfl⟩
  · rintro i x σ H H' hi p ⟨rfl, k, rfl, hk⟩
    exact hs i k σ _ hk hi p _ fun _ _ z => z
/-- a comprehension over the values of a locked dict -/
theorem lc_v {d : Addr} {o : Obj} {ks : List Nat} {f : Nat → V} (h : Nat → Option V) (hx : H d = some (.frz o (.dK (dN ks f)))) (hl : ks.length < sizeLine)
    (hs : ∀ (i k : Nat) (H' : Hp), ks[i]? = some k → Same H H' → ∀ (N0 : Hp → Prop) (N1 : VK), (h k = none → ∀ H2, Same H' H2 → N0 H2) → (∀ y, h k = some y → ∀ H2, Same H' H2 → N1 y H2) →
      g (f k) (wipe σ vs) H' fun σ2 H2 => wipe σ2 vs = wipe σ vs ∧ tt σ2 H2 fun b H3 => if b = true then te σ2 H3 N1 else N0 H3)
    (q : ∀ D H', H D = none → Same H H' → H' D = some (.lst (ks.filterMap h)) → Q (.ref D) H') : LJ (Itd d o (dN ks f)) g tt te vs σ H Q := by
  intro D hD
  have el : (dN ks f).length = ks.length := dN_len ks f
  refine ⟨fun j left Hw => left + j = ks.length ∧ Same H Hw ∧ Hw D = some (.lst ((ks.take j).filterMap h)), ⟨ks.length, Nat.add_zero _, same_new hD, by rw [upd_same]; simp⟩, fun j left Hw => ?_⟩
  rintro ⟨ej, p1, p2⟩
  rcases Nat.eq_zero_or_pos left with h0 | h0
  · left
    have e : j = ks.length := by omega
    subst e
    refine ⟨⟨p1 _ _ hx, by rw [el]; exact Nat.le_refl _⟩, q D Hw hD p1 ?_⟩
    rw [p2, List.take_length]
  · right
    have hj : j < ks.length := by omega
    refine ⟨⟨p1 _ _ hx, by rw [el]; exact hj⟩, fun Hz => Same H Hz ∧ Hz D = some (.lst ((ks.take (j + 1)).filterMap h)), fun Hz hz => ⟨left - 1, by omega, by omega, hz.1, hz.2⟩, fun x Hy hy => ?_⟩
    obtain ⟨e1, k, h1⟩ := hy
    subst e1
    unfold dN at h1
    rw [List.getElem?_map] at h1
    cases e : ks[j]? with
    | none =>
      rw [e] at h1
      cases h1
    | some n =>
      rw [e] at h1
      cases h1
      have hlen : ((ks.take j).filterMap h).length < sizeLine := Nat.lt_of_le_of_lt (Nat.le_trans (List.length_filterMap_le _ _) (by rw [List.length_take]; exact Nat.min_le_right _ _)) hl
      refine hs j n Hy e p1 _ _ (fun hf H2 k2 => ⟨p1.trans k2, ?_⟩) fun y hf H2 k2 => ⟨_, k2 _ _ p2, hlen, fun b o h => ?_, ?_⟩
      · rw [k2 _ _ p2, filt_take h e, hf]
        simp
      · rw [upd_ne (ne_of_none h hD)]
        exact k2 _ _ (p1 _ _ h)
      · rw [upd_same, filt_take h e, hf]
        rfl
end
end Pn
/-! PnI: a pair in a tuple of pairs. -/
namespace Pn
open PySem PySem.Spec PyProof.Rows L2
theorem hu65 {k : Nat} {A : Around} (r : Room k A) : A.units + 65 < cLine := by
  have := r.un
  omega
def rInTD (K : PySem.W.Frag) (neg : Bool) : R2 := fun x y H Q => ∃ d ds, Dp K H x d ∧ Dp K H y (.tuple ds) ∧ SeqAt.shaped d = true ∧ SeqAt.shaped (.tuple ds) = true ∧ Q (.bl (xor neg (ds.any fun z => PyData.eqv z d))) H
section
variable {X : Cx}
theorem k_inD (K : PySem.W.Frag) (hu : X.A.units + 65 < cLine) (h : X.K = K := by rfl) : OpR X (compareOp .In) (rInTD K false) := by
  subst h
  intro pins s σ H x y v u Q I rx ry h
  obtain ⟨d, ds, hd, he, sd, se, q⟩ := h
  obtain ⟨as, r1⟩ := Dp.reads I d x v hd rx
  obtain ⟨bs, r2⟩ := Dp.reads I (.tuple ds) y u he ry
  refine SeqAt.in_tuple_reads r2 r1 (SeqAt.canLay_of_shaped se) (SeqAt.canLay_of_shaped sd) (room_in_shaped sd hu) ⟨.bl _, H, I, rfl, ?_⟩
  rwa [Bool.false_xor] at q
theorem k_notInD (K : PySem.W.Frag) (hu : X.A.units + 65 < cLine) (h : X.K = K := by rfl) : OpR X (compareOp .NotIn) (rInTD K true) := by
  subst h
  intro pins s σ H x y v u Q I rx ry h
  obtain ⟨d, ds, hd, he, sd, se, q⟩ := h
  obtain ⟨as, r1⟩ := Dp.reads I d x v hd rx
  obtain ⟨bs, r2⟩ := Dp.reads I (.tuple ds) y u he ry
  refine SeqAt.notIn_tuple_reads r2 r1 (SeqAt.canLay_of_shaped se) (SeqAt.canLay_of_shaped sd) (room_in_shaped sd hu) ⟨.bl _, H, I, rfl, ?_⟩
  rwa [Bool.true_xor] at q
end
theorem any_pairs (a b : Int) : ∀ ps : List (Int × Int), ((dP ps).any fun z => PyData.eqv z (.tuple (dI [a, b]))) = decide ((a, b) ∈ ps)
  | [] => by simp [dP]
  | p :: r => by
    have ih := any_pairs a b r
    simp only [dP] at ih ⊢
    rw [List.map_cons, List.any_cons, ih, PyData.eqv, eqv_ints]
    have : ([p.1, p.2] = [a, b]) ↔ ((a, b) = p) := by
      obtain ⟨c, d⟩ := p
      simp only [List.cons.injEq, and_true, Prod.mk.injEq]
      constructor
      · rintro ⟨rfl, rfl⟩
        exact ⟨rfl, rfl⟩
      · rintro ⟨rfl, rfl⟩
        exact ⟨rfl, rfl⟩
    simp only [this, List.mem_cons, Bool.decide_or]
theorem r_inP {K : PySem.W.Frag} {H : Hp} {Q : VK} {a b : Addr} {x y : Int} {as : List Addr} {ps : List (Int × Int)} {neg : Bool} (hx : SqT K H a [.int x, .int y]) (hy : SqT K H b (as.map V.ref)) (hp : PairsAt K H as ps) (q : Q (.bl (xor neg (decide ((x, y) ∈ ps)))) H) : rInTD K neg (.ref a) (.ref b) H Q :=
  ⟨.tuple (dI [x, y]), dP ps, .tup hx (dpAll_ints [x, y]), .tup hy (dpAll_pairs hp), sh_tI _, sh_tP _, by rw [any_pairs]; exact q⟩
theorem sqT_upd {K : PySem.W.Frag} {H : Hp} {D b : Addr} {o : HO} {acc xs : List V} (h : SqT K H b xs) (hD : H D = some (.lst acc)) : SqT K (upd H D o) b xs := by
  rcases h with (h | ⟨u, h⟩) | h
  · exact SqT.of ((upd_ne (ne_of h hD fun e => by cases e)).trans h)
  · exact .inl (.inr ⟨u, (upd_ne (ne_of h hD fun e => by cases e)).trans h⟩)
  · exact .inr h
theorem PairsAt.upd {K : PySem.W.Frag} {H : Hp} {as : List Addr} {ps : List (Int × Int)} {D : Addr} {o : HO} {acc : List V} (h : PairsAt K H as ps) (hD : H D = some (.lst acc)) : PairsAt K (upd H D o) as ps := ⟨h.1, fun i a p h1 h2 => sqT_upd (h.2 i a p h1 h2) hD⟩
theorem PairsAt.at {K : PySem.W.Frag} {H : Hp} {as : List Addr} {ps : List (Int × Int)} (h : PairsAt K H as ps) {i : Nat} {v : V} (hv : (as.map V.ref)[i]? = some v) : ∃ (a : Addr) (p : Int × Int), v = .ref a ∧ ps[i]? = some p ∧ SqT K H a [.int p.1, .int p.2] := by
  rw [List.getElem?_map] at hv
  cases e : as[i]? with
  | none =>
    rw [e] at hv
    cases hv
  | some a =>
    rw [e] at hv
    cases hv
    have hi : i < ps.length := by
      rw [← h.1]
      exact (List.getElem?_eq_some_iff.mp e).1
    exact ⟨a, ps[i], rfl, List.getElem?_eq_getElem hi, h.2 i a _ e (List.getElem?_eq_getElem hi)⟩
end Pn
/-! PnU: sorted(t), t a tuple of pairs of whole numbers. -/
namespace TupU
open PySem PySem.Spec PyProof.Rows L2
/-- the heap with a list of these made at its end -/
abbrev withL (h : Heap) (vs : List Value) : Heap :=
  (h.push (seqObj "list" #[] 0)).update h.objs.size
    (Obj.mapSeq (· ++ vs.toArray))
section
variable {P : Program} {w : World} {A : Around} {E : Value → Shared → Prop} {s : Shared}
theorem tup_items {l : Addr} {vs : List Value} {Q : List Value → Shared → Prop} (it : s.heap.IsTuple l vs.toArray) (few : vs.length ≤ sizeLine)
    (q : Q vs { s with heap := withL s.heap vs }) : wpAny (model P w) A (collect (.ref l)) Q E s := by
  obtain ⟨ob, here, kind, num, dat⟩ := id it
  unfold collect
  refine wpAny_bind (wpAny_runValue
    (codeAny_builtin entry_proto_collect' ?_))
  show wpAny _ _
    (do again (.builtin "list.__iadd__" ⟨[← newList [], .ref l], []⟩)) _ _ s
  refine wpAny_bind (wpAny_newList (wpAny_pure
    ⟨Code.quiet_builtin _ (by decide +kernel), codeAny_builtin entry_list_iadd' ?_⟩))
  show wpAny _ _ (Builtin.List.listExtendWith (.ref s.heap.objs.size) (.ref l)
    (.ref s.heap.objs.size)) _ _ { s with heap := s.heap.push (seqObj "list" #[] 0) }
  unfold Builtin.List.listExtendWith
  have old := Heap.get?_push_of_some (seqObj "list" #[] 0) here
  have at0 : (s.heap.push (seqObj "list" #[] 0)).get? s.heap.objs.size = some (seqObj "list" #[] 0) :=
    Heap.get?_push_size _ rfl
  refine wpAny_bind (wpAny_typeOf (T := "tuple") ⟨ob, old, kind⟩ ?_)
  have same : (Value.type "tuple" == Value.type "tuple") = true := by rfl
  rw [if_pos (by rw [same] <;> simp)]
  refine wpAny_bind (listItems_at old dat ?_)
  refine wpAny_bind (listItems_at
    (xs := #[]) (n := 0) at0 rfl ?_)
  rw [if_neg (by simp)]
  have fits : (#[] ++ vs.toArray : Array Value).size ≤ sizeLine + 1 := by
    simp only [Array.size_append, List.size_toArray]
    simp only [List.size_toArray, List.length_nil]
    omega
  refine wpAny_bind (listUpdate_at
    (xs := #[]) (n := 0) at0 rfl ?_ (Nat.zero_le _) fits)
  refine wpAny_pure ?_
  have at1 := get?_update_seq at0 (· ++ vs.toArray)
  show wpAny (model P w) A (do
      let o ← load s.heap.objs.size
      match o.data with
      | .seq xs _ => pure xs.toList
      | _ => unsupported "internal:collect") Q E
    { s with heap := withL s.heap vs }
  refine wpAny_bind (wpAny_load at1 ?_)
  show wpAny _ _ (pure ((#[] : Array Value) ++ vs.toArray).toList) Q E _
  have e : ((#[] : Array Value) ++ vs.toArray).toList = vs := by simp
  rw [e]
  exact wpAny_pure q
theorem sort_tup {l : Addr} {vs : List Value} {k : Value → Int × Int} {Q : Value → Shared → Prop} (it : s.heap.IsTuple l vs.toArray) (few : vs.length ≤ sizeLine)
    (pr : ∀ v ∈ vs, Srt.IsPair s.heap v (k v).1 (k v).2)
    (q : ∀ (h' : Heap) (d : Addr) (out : List Value), SrtO.Srtd (fun v u => SrtO.lexB (k v) (k u)) out → SrtO.Stb (fun v u => SrtO.lexB (k v) (k u)) out vs →
      (∀ b o, s.heap.get? b = some o → h'.get? b = some o) → s.heap.objs.size ≤ d →
      (∃ n, h'.get? d = some (seqObj "list" out.toArray n)) → Q (.ref d) { s with heap := h' }) :
    wpAny (model P w) A (call (.builtin "sorted") [.ref l]) Q E s := by
  refine Calls.call_function_entry kind_sorted plain_sorted entry_sorted
    (args_sorted1 _) ?_
  unfold Builtin.«sorted»
  refine wpAny_bind
    (m := checkCount "sorted" 1 1 _) (wpAny_pure ?_)
  refine wpAny_bind (tup_items it few ?_)
  refine wpAny_bind (wpAny_newList ?_ few)
  have size : (withL s.heap vs).objs.size = s.heap.objs.size + 1 := by
    show ((s.heap.push (seqObj "list" #[] 0)).update _ _).objs.size = _
    rw [Heap.size_update, size_push']
  have newL : ((withL s.heap vs).push (seqObj "list" vs.toArray 0)).get? (s.heap.objs.size + 1) = some (seqObj "list" vs.toArray 0) := by
    rw [← size]
    exact Heap.get?_push_size _ rfl
  have keep : ∀ b o, s.heap.get? b = some o → ((withL s.heap vs).push (seqObj "list" vs.toArray 0)).get? b = some o := fun b o e => by
    have lt : b < s.heap.objs.size := Heap.lt_size e
    refine Heap.get?_push_of_some _ ?_
    show ((s.heap.push (seqObj "list" #[] 0)).update _ _).get? b = _
    rw [Heap.get?_update_ne _ _ _ _ (Nat.ne_of_lt lt)]
    exact Heap.get?_push_of_some _ e
  show wpAny _ _ _ _ _
    { s with heap := (withL s.heap vs).push (seqObj "list" vs.toArray 0) }
  rw [size]
  refine wpAny_bind (wpAny_holding (wpAny_call_entry slot_list_sort ⟨_, newL, rfl⟩ entry_list_sort
    (SrtO.list_sort_ord (SrtO.swo_lex k) newL few (fun h2 => ?_) fun out o1 o2 => ⟨_, rfl, ?_⟩) (args_list_sort _)))
  · refine SrtO.pairs_sortableO (by omega) (fun v hm => (pr v hm).keeps fun b o e _ => keep b o e) fun o e => ?_
    have e' := e.symm.trans newL
    cases e'
    intro c
    exact absurd (Value.type.inj c) (by decide)
  · refine wpAny_pure ⟨_, rfl, q _ _ out o1 o2 (fun b o e => ?_) (Nat.le_succ _) ?_⟩
    · exact sortedAll_old (vs := vs) (out := out.toArray) e
    · exact sortedAll_at s.heap vs out.toArray
end
/-- sorted(t), t a tuple of pairs (k says which) -/
def rSortT (K : PySem.W.Frag) : List V → Hp → VK → Prop := fun vs H Q => ∃ (a : Addr) (xs : List V) (k : V → Int × Int), vs = [V.ref a] ∧ SqT K H a xs ∧
  (∀ x ∈ xs, ∃ t, x = V.ref t ∧ SqT K H t [.int (k x).1, .int (k x).2]) ∧
  ∀ ys p, SrtO.Srtd (ltP k) ys → ys.Perm xs → H p = none → Q (.ref p) (upd H p (.lst ys))
theorem cr_sortT {X : Cx} (K : PySem.W.Frag) (hK : X.K = K := by rfl) : CallR X (.builtin "sorted") (rSortT K) := by
  subst hK
  intro pins s σ H vs us Q I r h
  obtain ⟨a, xs, k, rfl, ht, hx, q⟩ := h
  obtain ⟨raw, rel, ist, size⟩ := I.tuple ht
  obtain ⟨u, rfl, ru⟩ := vals1 r
  obtain rfl : u = Value.ref a := ru
  have back := refs_back rel fun x m => by
    obtain ⟨t, e, _⟩ := hx x m
    exact ⟨t, e⟩
  obtain ⟨e1, e2⟩ := back
  refine sort_tup (k := fun u => k (backV u)) ist (by rw [← rel.length]; exact size) (fun v hv => ?_) fun h' d out h1 h2 kp hd hn => ?_
  · obtain ⟨t, rfl⟩ := e2 v hv
    have hm : V.ref t ∈ xs := by rw [e1]; exact List.mem_map.mpr ⟨_, hv, rfl⟩
    obtain ⟨t', e, hp⟩ := hx _ hm
    cases e
    obtain ⟨raw2, rel2, ist2, _⟩ := I.tuple hp
    obtain ⟨u1, u2, rfl, ri, rj⟩ := vals2 rel2
    obtain ⟨t1, rfl⟩ := ri
    obtain ⟨t2, rfl⟩ := rj
    obtain ⟨o, ho, hc, n, hd⟩ := ist2
    exact ⟨t, o, t1, t2, n, rfl, ho, hc, hd⟩
  · have h3 : ∀ u ∈ out, ∃ a, u = Value.ref a := fun u hu => e2 u (h2.perm.mem_iff.mp hu)
    obtain ⟨n, hn⟩ := hn
    have hb : (out.map backV).Perm xs := by
      rw [e1]
      exact h2.perm.map backV
    refine ⟨.ref d, upd H d (.lst (out.map backV)), I.laid (t' := s.toks) kp hd ⟨?_, out, n, vals_back h3, hn⟩, rfl, q _ d (SrtO.srtd_map h1) hb (I.hok.fresh hd)⟩
    rw [hb.length_eq]
    exact size
end TupU
namespace Pn
open PySem PySem.Spec PyProof.Rows L2
local macro_rules | `(tactic| walk_at "w") => `(tactic| try simp only [w_var, w_c, w_op, w_I0, w_I, w_un, w_U, w_eq, w_ne, w_test, w_B, w_and, w_or, w_not, w_andV, w_orV, w_notV, w_ife, w_nil, w_cons, w_fn, w_cb, w_tup, w_lst, w_seq, w_next, w_brk, w_ct, w_drop, w_ret, w_retN, w_ifS, w_asgN, w_asgT, w_asgS, w_gName, w_gNil, w_gCons, w_par, w_aug, w_ipI, w_sl, w_np, w_part, w_bm, w_bm0, w_cxK, w_bits, w_forL, w_forT, w_for1, w_for2, w_for3, w_lc3, w_lcL, w_lcT, w_lc1, w_lc2, w_yes, w_tru, wipe, scal,
   L2.start, List.map_cons, List.map_nil, List.length_cons, List.length_nil, List.replicate, List.cons_append, List.nil_append, Nat.reduceAdd, Nat.reduceSub, Nat.zero_add,
   List.getElem?_cons_zero, List.getElem?_cons_succ, List.set_cons_zero, List.set_cons_succ, Option.some.injEq, V.int.injEq, V.bl.injEq, V.ref.injEq, V.str.injEq, exists_eq_left, exists_eq_left', exists_and_left, exists_and_right, exists_eq', exists_eq, and_assoc, and_true, true_and, decide_eq_true_eq, Bool.not_eq_true', decide_eq_false_iff_not, List.cons.injEq, if_true, if_false, Bool.true_eq_false, Bool.false_eq_true, ite_true, ite_false, reduceIte, reduceCtorEq, not_true_eq_false, not_false_eq_true, decide_true, decide_false, Bool.not_true, Bool.not_false, false_and, and_false, exists_false, false_or, or_false])
local macro_rules | `(tactic| walk_at "lk") => `(tactic| first | assumption | exact upd_same | exact Eq.trans (upd_ne (by walk_at "ne")) (by walk_at "lk"))
local macro_rules | `(tactic| walk_at "ne") => `(tactic| first | assumption | exact Ne.symm (by assumption) | exact ne_fresh (by assumption) (by walk_at "lk") | exact Ne.symm (ne_fresh (by assumption) (by walk_at "lk")))
local macro_rules | `(tactic| walk_at "sq") => `(tactic| first | assumption | exact SqL.of (by walk_at "lk"))
local macro_rules | `(tactic| walk_at "ix") => `(tactic| (refine r_ixL (by walk_at "sq") (by rfl) ?_; walk_at "w"))
local macro_rules | `(tactic| walk_at "st") => `(tactic| (refine r_setL (by walk_at "lk") (by rfl) ?_; walk_at "w"))
local macro_rules | `(tactic| walk_at "d") => `(tactic| (walk_at "w"; (try simp only [w_dget, w_dget2, w_dput, w_dnew, w_lv, w_augS, w_lockE, w_lcK, w_isB, w_notB]); walk_at "w"))
local macro_rules | `(tactic| walk_at "e") => `(tactic| (walk_at "d"; (try simp only [SetL.w_sortSet]); walk_at "d"))
local macro_rules | `(tactic| walk_at "f") => `(tactic| (walk_at "d"; (try simp only [TupE.w_lcTe, TupE.w_lcE]); walk_at "d"))
local macro_rules | `(tactic| walk_at "o1") => `(tactic| (try simp only [w_fld, w_sfld, w_mt, w_mk, w_forI, w_forV, w_frz, w_lcV, w_lockS, w_asgL, w_gSub, w_minV]))
local macro_rules | `(tactic| walk_at "o") => `(tactic| (walk_at "d"; walk_at "o1"; walk_at "d"; walk_at "o1"; walk_at "d"))
local macro_rules | `(tactic| walk_at "x1") => `(tactic| (try simp only [w_fnX, w_mtX, w_bmF, w_m1, w_mkV, w_strE, w_raise, w_xf, w_binit, w_ost, w_tryK, w_keep]))
local macro_rules | `(tactic| walk_at "x") => `(tactic| (walk_at "o"; walk_at "x1"; walk_at "o"; walk_at "x1"; walk_at "o"))
local macro_rules | `(tactic| walk_at "y1") => `(tactic| (try simp only [w_gt, w_fmtN, w_js2, w_lcS, w_m1]))
local macro_rules | `(tactic| walk_at "y") => `(tactic| (walk_at "o"; walk_at "y1"; walk_at "o"; walk_at "y1"; walk_at "o"))
def top (i : Nat) : Stmt := PySem.Challenge.pw_powernumbers_k05_ways_of_powers.main.body.getD i (.Pass ⟨0, 0, 0, 0⟩)
structure Bt (mg : PySem.Str → Option Value) : Prop where
  range : mg "range" = none
  len : mg "len" = none
  sum : mg "sum" = none
  min : mg "min" = none
  max : mg "max" = none
  abs : mg "abs" = none
  sorted : mg "sorted" = none
  isinstance : mg "isinstance" = none
  enumerate : mg "enumerate" = none
  zip : mg "zip" = none
  int : mg "int" = none
  bool : mg "bool" = none
  str : mg "str" = none
  list : mg "list" = none
  tuple : mg "tuple" = none
  dict : mg "dict" = none
  set : mg "set" = none
  ValueError : mg "ValueError" = none
abbrev s_taken : Stmt := top 1
theorem sc_taken : FnScope ["base", "exponent", "found"] ["base", "exponent"] (defScope s_taken) := ⟨rfl, rfl, rfl, by decide +kernel, rfl, by decide +kernel, by decide +kernel⟩
def sp_taken (K : PySem.W.Frag) : Sp := fun vs H Q _ => ∃ (b e a : Nat), vs = [.int (b : Int), .int (e : Int)] ∧ (b < 2 ^ a ∨ e = 0) ∧ a * e ≤ 300000 ∧ Q (.int ((b ^ e : Nat) : Int)) H
section
variable {P : Program} {w : World} {K : PySem.W.Frag} {mg : PySem.Str → Option Value} {base : Heap}
theorem bi_taken {f : Addr} {fd : FuncData} (F : Fun K "taken" "taken" s_taken f fd) : Binds K fd ["base", "exponent"] [] := F.binds (ps := ["base", "exponent"]) fun _ _ _ _ _ _ us hl => match us, hl with | [_, _], _ => rfl
set_option maxHeartbeats 4000000 in
theorem ok_taken {f : Addr} {fd : FuncData} (F : Fun K "taken" "taken" s_taken f fd) (B : Bt mg)   : FnOk P w K mg base CX0 1 f fd ["base", "exponent"] (sp_taken K) := by
  refine F.ok sc_taken (fun vs H Q E h => ?_) (fun cdv A outer s H vs Q E hr h => ?_)
  · obtain ⟨b, e, a, rfl, hb, ha, q⟩ := h
    rfl
  · obtain ⟨b, e, a, rfl, hb, ha, q⟩ := h
    refine ⟨_, (pss_cons (ps_set (i := 2) sc_taken.nd rfl (Or.inl rfl) pe_int)
      (pss_cons (ps_while PassesOwn.never (pt_cmpR op_gt (pv 1) pe_int (nomark _))
        (pss_cons (ps_if (pt_cmpR op_eq (pe_op op_mod (pv 1) pe_int) pe_int (nomark _))
          (pss_one (ps_set (i := 2) sc_taken.nd rfl (Or.inl rfl) (pe_op op_mulW (pv 2) (pv 0))))
          pss_nil)
        (pss_cons (ps_set (i := 0) sc_taken.nd rfl (Or.inl rfl) (pe_op op_mulW (pv 0) (pv 0)))
        (pss_one (ps_set (i := 1) sc_taken.nd rfl (Or.inl rfl) (pe_op op_fdiv (pv 1) pe_int))))))
      (pss_one (ps_ret (pv 2))))), ?_⟩
    walk_at "w"
    have hX : b ^ e ≤ 2 ^ (a * e) := by
      rcases hb with hb | rfl
      · rw [Nat.pow_mul]
        exact Nat.pow_le_pow_left (by omega) e
      · simp
    refine while_m (fun m σ H' => ∃ f b' e' : Nat, σ = [some (.int b'), some (.int e'), some (.int f)] ∧ H' = H ∧ e' = m ∧ f * b' ^ e' = b ^ e ∧ f ≤ 2 ^ (a * e) ∧ (0 < e' → b' ≤ 2 ^ (a * e)) ∧ (f = 0 → b' = 0)) e ?_ ?_
    · refine ⟨1, b, e, rfl, rfl, rfl, by simp, Nat.one_le_two_pow, fun he => ?_, by omega⟩
      exact Nat.le_trans (Nat.le_self_pow (by omega) b) hX
    · rintro m σ H' ⟨f, b', e', rfl, rfl, rfl, h1, h2, h3, h4⟩ G hG
      walk_at "w"
      refine ite2 (fun hc => hG _ _ fun N hN => ?_) (fun hc => ?_)
      · have he : 0 < e' := by omega
        have hl1 := log2_le_of_le h2
        have hl2 := log2_le_of_le (h3 he)
        walk_at "w"
        refine ⟨by decide, ite2 (fun ho => ?_) (fun ho => ?_)⟩
        · have ho' : e' % 2 = 1 := by omega
          refine ⟨cmulN (by omega), cmulN (by omega), by unfold CDiv; omega, hN (e' / 2) _ _ (by omega) ⟨f * b', b' * b', e' / 2, by simp, rfl, rfl, tk_step1 h1 ho', tk_odd h1 hX he, fun h0 => ?_, fun h0 => ?_⟩⟩
          · rcases Nat.eq_zero_or_pos f with hf | hf
            · simp [h4 hf]
            · exact tk_sq h1 hX (by omega) h4
          · rcases Nat.mul_eq_zero.mp h0 with hf | hf
            · simp [h4 hf]
            · simp [hf]
        · have ho' : e' % 2 = 0 := by omega
          refine ⟨cmulN (by omega), by unfold CDiv; omega, hN (e' / 2) _ _ (by omega) ⟨f, b' * b', e' / 2, by simp, rfl, rfl, tk_step0 h1 ho', h2, fun h0 => tk_sq h1 hX (by omega) h4, fun h0 => by simp [h4 h0]⟩⟩
      · have he : e' = 0 := by omega
        subst he
        rw [Nat.pow_zero, Nat.mul_one] at h1
        rw [h1]
        exact q
end
abbrev s_root_of : Stmt := top 2
theorem sc_root_of : FnScope ["number", "exponent", "low", "high", "between"] ["number", "exponent"] (defScope s_root_of) := ⟨rfl, rfl, rfl, by decide +kernel, rfl, by decide +kernel, by decide +kernel⟩
def sp_root_of (K : PySem.W.Frag) : Sp := fun vs H Q _ => ∃ (n e c : Nat), vs = [.int (n : Int), .int (e : Int)] ∧ 1 ≤ e ∧ n < 2 ^ c ∧ c + 2 * e ≤ 300000 ∧
  ∀ (r : Nat) (p : Addr), r ^ e ≤ n → n < (r + 1) ^ e → H p = none → Q (.ref p) (upd H p (.tup [.int (r : Int), .int ((n - r ^ e : Nat) : Int)]))
theorem rt_bits {j e n c : Nat} (h1 : (2 ^ j) ^ e ≤ n) (hn : n < 2 ^ c) : j * e < c := by
  rw [← Nat.pow_mul] at h1
  exact (Nat.pow_lt_pow_iff_right (by omega : 1 < 2)).mp (Nat.lt_of_le_of_lt h1 hn)
section
variable {P : Program} {w : World} {K : PySem.W.Frag} {mg : PySem.Str → Option Value} {base : Heap}
theorem bi_root_of {f : Addr} {fd : FuncData} (F : Fun K "root_of" "root_of" s_root_of f fd) : Binds K fd ["number", "exponent"] [] := F.binds (ps := ["number", "exponent"]) fun _ _ _ _ _ _ us hl => match us, hl with | [_, _], _ => rfl
set_option maxHeartbeats 4000000 in
theorem ok_root_of {f : Addr} {fd : FuncData} (F : Fun K "root_of" "root_of" s_root_of f fd) (B : Bt mg)  (h_taken : Fn P w K mg base CX0 1 "taken" ["base", "exponent"] (sp_taken K)) : FnOk P w K mg base CX0 2 f fd ["number", "exponent"] (sp_root_of K) := by
  refine F.ok sc_root_of (fun vs H Q E h => ?_) (fun cdv A outer s H vs Q E hr h => ?_)
  · obtain ⟨n, e, c, rfl, he, hn, hc, q⟩ := h
    rfl
  · obtain ⟨n, e, c, rfl, he, hn, hc, q⟩ := h
    refine ⟨_, (pss_cons (ps_set (i := 2) sc_root_of.nd rfl (Or.inl rfl) pe_int)
      (pss_cons (ps_set (i := 3) sc_root_of.nd rfl (Or.inl rfl) pe_int)
      (pss_cons (ps_while PassesOwn.never (pt_cmpR op_le (pe_fn h_taken (hr.mono (by decide)) (by rfl) (pa_cons (pv 3) (pa_cons (pv 1) pa_nil))) (pv 0) (nomark _))
        (pss_one (ps_set (i := 3) sc_root_of.nd rfl (Or.inl rfl) (pe_op op_mul pe_int (pv 3)))))
      (pss_cons (ps_while PassesOwn.never (pt_cmpR op_gt (pe_op op_sub (pv 3) (pv 2)) pe_int (nomark _))
        (pss_cons (ps_set (i := 4) sc_root_of.nd rfl (Or.inl rfl) (pe_op op_fdiv (pe_op op_add (pv 2) (pv 3)) pe_int))
        (pss_one (ps_if (pt_cmpR op_le (pe_fn h_taken (hr.mono (by decide)) (by rfl) (pa_cons (pv 4) (pa_cons (pv 1) pa_nil))) (pv 0) (nomark _))
          (pss_one (ps_set (i := 2) sc_root_of.nd rfl (Or.inl rfl) (pv 4)))
          (pss_one (ps_set (i := 3) sc_root_of.nd rfl (Or.inl rfl) (pv 4)))))))
      (pss_one (ps_ret (pe_tup (pa_cons (pv 2) (pa_cons (pe_op op_sub (pv 0) (pe_fn h_taken (hr.mono (by decide)) (by rfl) (pa_cons (pv 2) (pa_cons (pv 1) pa_nil)))) pa_nil))))))))), ?_⟩
    walk_at "w"
    have key : ∀ j : Nat, (j = 0 ∨ (2 ^ (j - 1)) ^ e ≤ n) → (j + 1) * e ≤ c + 2 * e := by
      intro j hj
      rcases hj with rfl | hj
      · omega
      · rcases Nat.eq_zero_or_pos j with rfl | hp
        · omega
        · have := rt_bits hj hn
          have e1 : j + 1 = (j - 1) + 2 := by omega
          rw [e1, Nat.add_mul]
          omega
    refine while_m (fun m σ H' => ∃ j : Nat, σ = [some (.int n), some (.int e), some (.int 0), some (.int ((2 ^ j : Nat) : Int)), none] ∧ H' = H ∧ m = n + 1 - j ∧ j ≤ n + 1 ∧ (j = 0 ∨ (2 ^ (j - 1)) ^ e ≤ n)) (n + 1) ⟨0, by simp, rfl, rfl, by omega, .inl rfl⟩ ?_
    rintro m σ H' ⟨j, rfl, rfl, rfl, hjn, hj⟩ G hG
    walk_at "w"
    refine ⟨2 ^ j, e, j + 1, rfl, .inl (Nat.pow_lt_pow_right (by omega) (by omega)), by have := key j hj; omega, ?_⟩
    walk_at "w"
    refine ite2 (fun ht => hG _ _ fun N hN => ?_) (fun ht => ?_)
    · have ht' : (2 ^ j) ^ e ≤ n := by omega
      have hjlt : j ≤ n := by
        have h2 : 2 ^ j ≤ (2 ^ j) ^ e := Nat.le_self_pow (by omega) _
        have h3 : j < 2 ^ j := Nat.lt_two_pow_self
        omega
      walk_at "w"
      refine ⟨by unfold CMul; omega, hN (n + 1 - (j + 1)) _ _ (by omega) ⟨j + 1, ?_, rfl, rfl, by omega, .inr (by simpa using ht')⟩⟩
      simp [Nat.pow_succ, Nat.mul_comm]
    · have ht' : n < (2 ^ j) ^ e := by omega
      refine while_m (fun m σ H2 => ∃ (lo hi : Nat) (b : Option V), σ = [some (.int n), some (.int e), some (.int lo), some (.int hi), b] ∧ H2 = H' ∧ hi - lo = m ∧ lo < hi ∧ hi ≤ 2 ^ j ∧ lo ^ e ≤ n ∧ n < hi ^ e) (2 ^ j) ⟨0, 2 ^ j, none, rfl, rfl, Nat.sub_zero _, Nat.two_pow_pos j, Nat.le_refl _, by rw [Nat.zero_pow (by omega)]; omega, ht'⟩ ?_
      rintro m σ H2 ⟨lo, hi, b, rfl, rfl, rfl, hlt, hle, h1, h2⟩ G hG
      have key2 := key j hj
      walk_at "w"
      refine ite2 (fun hw => hG _ _ fun N hN => ?_) (fun hw => ?_)
      · have e1 : ((lo : Int) + hi) / 2 = (((lo + hi) / 2 : Nat) : Int) := by omega
        have hpow : 2 ^ j < 2 ^ (j + 1) := Nat.pow_lt_pow_right (by omega) (by omega)
        walk_at "w"
        refine ⟨by unfold CDiv; omega, (lo + hi) / 2, e, j + 1, by rw [e1], .inl (by omega), by omega, ?_⟩
        walk_at "w"
        refine ite2 (fun hs => hN (hi - (lo + hi) / 2) _ _ (by omega) ⟨(lo + hi) / 2, hi, _, by rw [e1], rfl, rfl, by omega, hle, by omega, h2⟩)
          (fun hs => hN ((lo + hi) / 2 - lo) _ _ (by omega) ⟨lo, (lo + hi) / 2, _, by rw [e1], rfl, rfl, by omega, by omega, h1, by omega⟩)
      · have e2 : hi = lo + 1 := by omega
        subst e2
        walk_at "w"
        have hpow : 2 ^ j < 2 ^ (j + 1) := Nat.pow_lt_pow_right (by omega) (by omega)
        refine ⟨lo, e, j + 1, rfl, .inl (by omega), by omega, ?_⟩
        walk_at "w"
        refine ⟨by show 2 ≤ sizeLine; decide, fun p hp => ?_⟩
        have e3 : (n : Int) - ((lo ^ e : Nat) : Int) = ((n - lo ^ e : Nat) : Int) := by omega
        rw [e3]
        exact q lo p h1 h2 hp
end
abbrev s_ways_of : Stmt := top 4
theorem sc_ways_of : FnScope ["number", "found", "exponent", "base", "left"] ["number"] (defScope s_ways_of) := ⟨rfl, rfl, rfl, by decide +kernel, rfl, by decide +kernel, by decide +kernel⟩
def sp_ways_of (K : PySem.W.Frag) : Sp := fun vs H Q _ => ∃ (n c : Nat), vs = [.int (n : Int)] ∧ n < 2 ^ c ∧ c ≤ 90000 ∧
  ∀ (p : Addr) (as : List Addr) (H' : Hp), H p = none → Same H H' → SqT K H' p (as.map V.ref) → PairsAt K H' as ((waysN n).map zz) → Q (.ref p) H'
section
variable {P : Program} {w : World} {K : PySem.W.Frag} {mg : PySem.Str → Option Value} {base : Heap}
theorem bi_ways_of {f : Addr} {fd : FuncData} (F : Fun K "ways_of" "ways_of" s_ways_of f fd) : Binds K fd ["number"] [] := F.binds (ps := ["number"]) fun _ _ _ _ _ _ us hl => match us, hl with | [_], _ => rfl
set_option maxHeartbeats 4000000 in
theorem ok_ways_of {f : Addr} {fd : FuncData} (F : Fun K "ways_of" "ways_of" s_ways_of f fd) (B : Bt mg)  (h_root_of : Fn P w K mg base CX0 2 "root_of" ["number", "exponent"] (sp_root_of K)) : FnOk P w K mg base CX0 3 f fd ["number"] (sp_ways_of K) := by
  refine F.ok sc_ways_of (fun vs H Q E h => ?_) (fun cdv A outer s H vs Q E hr h => ?_)
  · obtain ⟨n, c, rfl, hn, hc, q⟩ := h
    rfl
  · obtain ⟨n, c, rfl, hn, hc, q⟩ := h
    refine ⟨_, (pss_cons (ps_if (pt_cmpR op_eq (pv 0) pe_int (nomark _))
        (pss_one (ps_ret (pe_tup pa_nil)))
        pss_nil)
      (pss_cons (ps_if (pt_cmpR op_eq (pv 0) pe_int (nomark _))
        (pss_one (ps_ret (pe_tup (pa_cons (pe_tup (pa_cons pe_int (pa_cons pe_int pa_nil))) pa_nil))))
        pss_nil)
      (pss_cons (ps_set (i := 1) sc_ways_of.nd rfl (Or.inl rfl) (pe_lst pa_nil))
      (pss_cons (ps_set (i := 2) sc_ways_of.nd rfl (Or.inl rfl) pe_int)
      (pss_cons (ps_asg (pe_fn h_root_of (hr.mono (by decide)) (by rfl) (pa_cons (pv 0) (pa_cons (pv 2) pa_nil))) (pg_tup rfl (pgs_cons (pg_name (i := 3) sc_ways_of.nd rfl (Or.inl rfl)) (pgs_cons (pg_name (i := 4) sc_ways_of.nd rfl (Or.inl rfl)) pgs_nil))))
      (pss_cons (ps_while PassesOwn.never (pt_cmpR op_gt (pv 3) pe_int (nomark _))
        (pss_cons (ps_if (pt_cmpR op_eq (pv 4) pe_int (nomark _))
          (pss_one (ps_expr (pe_bm PySem.F.plainAttrs_list PySem.F.slot_list_append PySem.F.type_list_append mt_append (pv 1) (pa_cons (pe_tup (pa_cons (pv 3) (pa_cons (pv 2) pa_nil))) pa_nil))))
          pss_nil)
        (pss_cons (ps_set (i := 2) sc_ways_of.nd rfl (Or.inl rfl) (pe_op op_add (pv 2) pe_int))
        (pss_one (ps_asg (pe_fn h_root_of (hr.mono (by decide)) (by rfl) (pa_cons (pv 0) (pa_cons (pv 2) pa_nil))) (pg_tup rfl (pgs_cons (pg_name (i := 3) sc_ways_of.nd rfl (Or.inl rfl)) (pgs_cons (pg_name (i := 4) sc_ways_of.nd rfl (Or.inl rfl)) pgs_nil))))))))
      (pss_one (ps_ret (pe_callTy (k_tuple K) (by rfl) B.tuple (by decide +kernel) (pa_cons (pv 1) pa_nil)))))))))), ?_⟩
    walk_at "w"
    refine ite2 (fun h0 => ?_) (fun h0 => ?_)
    · have h0 : n = 0 := by omega
      subst h0
      refine ⟨Nat.zero_le _, fun p hp => q p [] _ hp (same_new hp) (SqT.of upd_same) PairsAt.nil⟩
    · refine ite2 (fun h1 => ?_) (fun h1 => ?_)
      · have h1 : n = 1 := by omega
        subst h1
        refine ⟨by show 2 ≤ sizeLine; decide, fun t ht => ⟨by show 1 ≤ sizeLine; decide, fun p hp => ?_⟩⟩
        refine q p [t] _ (upd_free hp) (sm_new (same_new ht) (upd_free hp)) (SqT.of upd_same) ⟨rfl, fun i a w ha hw => ?_⟩
        have hi : i = 0 := by
          have := (List.getElem?_eq_some_iff.mp ha).1
          simp at this
          omega
        subst hi
        simp [waysN] at ha hw
        subst ha hw
        exact SqT.of ((upd_ne (ne_of_none upd_same hp)).trans upd_same)
      · have hn2 : 2 ≤ n := by omega
        have hcc : ∀ k, 2 ^ (1 + k) ≤ n → 1 + k < c := fun k hk => (Nat.pow_lt_pow_iff_right (by omega : 1 < 2)).mp (Nat.lt_of_le_of_lt hk hn)
        refine ⟨Nat.zero_le _, fun l hl => ?_⟩
        refine ⟨n, 2, c, rfl, by omega, hn, by omega, fun r t h1 h2 ht => ?_⟩
        have er := rootN_is (by omega) h1 h2
        subst er
        walk_at "w"
        refine ⟨_, SqT.of upd_same, rfl, ?_⟩
        walk_at "w"
        have nlt : l ≠ t := ne_of_none upd_same ht
        refine while_m (fun m σ H' => ∃ (k : Nat) (as : List Addr), σ = [some (.int n), some (.ref l), some (.int ((2 + k : Nat) : Int)), some (.int (rootN n (2 + k))), some (.int ((n - rootN n (2 + k) ^ (2 + k) : Nat) : Int))] ∧ n + 1 - k = m ∧ k ≤ n ∧ Same H H' ∧ H' l = some (.lst (as.map V.ref)) ∧ PairsAt K H' as ((waysTo n k).map zz) ∧ as.length ≤ k ∧ (k = 0 ∨ 2 ^ (1 + k) ≤ n)) (n + 1)
          ⟨0, [], rfl, rfl, Nat.zero_le _, sm_new (same_new hl) (upd_free ht), (upd_ne nlt).trans upd_same, PairsAt.nil, Nat.le_refl _, .inl rfl⟩ ?_
        rintro m σ H2 ⟨k, as, rfl, rfl, hk, hs, hL, hP, hlen, hk0⟩ G hG
        have hkc : 1 + k < c ∨ k = 0 := by
          rcases hk0 with h | h
          · exact .inr h
          · exact .inl (hcc k h)
        walk_at "w"
        refine ite2 (fun ht => hG _ _ fun N hN => ?_) (fun ht => ?_)
        · have hb : 2 ^ (2 + k) ≤ n := (rootN_gt1 (by omega)).mp (by omega)
          have hkn : k < n := by
            have : 2 + k < 2 ^ (2 + k) := Nat.lt_two_pow_self
            omega
          have hkc2 : 2 + k < c := (Nat.pow_lt_pow_iff_right (by omega : 1 < 2)).mp (Nat.lt_of_le_of_lt hb hn)
          have step : ∀ (H3 : Hp) (as3 : List Addr), Same H H3 → H3 l = some (.lst (as3.map V.ref)) → PairsAt K H3 as3 ((waysTo n (k + 1)).map zz) → as3.length ≤ k + 1 →
              ∀ (u : Addr), H3 u = none → N [some (.int n), some (.ref l), some (.int ((2 + (k + 1) : Nat) : Int)), some (.int (rootN n (2 + (k + 1)))), some (.int ((n - rootN n (2 + (k + 1)) ^ (2 + (k + 1)) : Nat) : Int))] (upd H3 u (.tup [.int (rootN n (2 + (k + 1)) : Nat), .int ((n - rootN n (2 + (k + 1)) ^ (2 + (k + 1)) : Nat) : Int)])) :=
            fun H3 as3 s3 l3 p3 len3 u hu => hN (n + 1 - (k + 1)) _ _ (by omega) ⟨k + 1, as3, rfl, rfl, by omega, sm_new s3 (s3.free hu), (upd_ne (ne_of_none l3 hu)).trans l3, p3.same (same_new hu), len3, .inr (by rw [show 1 + (k + 1) = 2 + k by omega]; exact hb)⟩
          have e3 : ((2 + k : Nat) : Int) + 1 = ((2 + (k + 1) : Nat) : Int) := by omega
          walk_at "w"
          refine ite2 (fun hz => ?_) (fun hz => ?_)
          · have hw : wayAt n (k + 2) = some (rootN n (2 + k), 2 + k) := by
              unfold wayAt
              rw [show k + 2 = 2 + k by omega, if_pos]
              have := rootN_le (n := n) (e := 2 + k) (by omega)
              omega
            refine ⟨ty_list (SqL.of hL), by show 2 ≤ sizeLine; decide, fun u hu => ?_⟩
            have nlu : l ≠ u := ne_of_none hL hu
            refine r_app ((upd_ne nlu).trans hL) (by rw [List.length_map]; exact Nat.lt_of_le_of_lt (show as.length ≤ 90000 by omega) (by decide)) ?_
            rw [e3]
            refine ⟨n, 2 + (k + 1), c, rfl, by omega, hn, by omega, fun r v h1 h2 hv => ?_⟩
            have er := rootN_is (by omega) h1 h2
            subst er
            walk_at "w"
            refine ⟨_, SqT.of upd_same, rfl, ?_⟩
            walk_at "w"
            have hmap : as.map V.ref ++ [V.ref u] = (as ++ [u]).map V.ref := by simp
            refine step _ (as ++ [u]) ?_ (by rw [upd_same, hmap]) ?_ (by simp; omega) v hv
            · intro b o hb'
              have nbl : b ≠ l := ne_of_none hb' hl
              have nbu : b ≠ u := ne_of_none (hs _ _ hb') hu
              rw [upd_ne nbl, upd_ne nbu]
              exact hs _ _ hb'
            · rw [waysTo_succ, hw]
              simp only [Option.toList, List.map_append, List.map_cons, List.map_nil]
              refine PairsAt.snoc ⟨hP.1, fun i b w h1 h2 => ?_⟩ (SqT.of ?_)
              · have hb' := hP.2 i b w h1 h2
                have nb : ∀ o, H2 b = some o → (∀ xs, o ≠ .lst xs) → b ≠ l ∧ b ≠ u := fun o h h' => ⟨ne_of h hL (h' _), ne_of_none h hu⟩
                rcases hb' with (h | ⟨o, h⟩) | h
                · obtain ⟨n1, n2⟩ := nb _ h (fun _ z => by cases z)
                  exact SqT.of ((upd_ne n1).trans ((upd_ne n2).trans h))
                · obtain ⟨n1, n2⟩ := nb _ h (fun _ z => by cases z)
                  exact .inl (.inr ⟨o, (upd_ne n1).trans ((upd_ne n2).trans h)⟩)
                · exact .inr h
              · rw [upd_ne nlu.symm, upd_same]
                simp [zz]
          · have hw : wayAt n (k + 2) = none := by
              unfold wayAt
              rw [show k + 2 = 2 + k by omega, if_neg]
              have := rootN_le (n := n) (e := 2 + k) (by omega)
              omega
            rw [e3]
            refine ⟨n, 2 + (k + 1), c, rfl, by omega, hn, by omega, fun r v h1 h2 hv => ?_⟩
            have er := rootN_is (by omega) h1 h2
            subst er
            walk_at "w"
            refine ⟨_, SqT.of upd_same, rfl, ?_⟩
            walk_at "w"
            refine step _ as hs hL ?_ (by omega) v hv
            rw [waysTo_succ, hw]
            simpa using hP
        · have hb : ¬ 2 ^ (2 + k) ≤ n := fun h => ht (by have := (rootN_gt1 (n := n) (e := 2 + k) (by omega)).mpr h; omega)
          have hk1 : k = n.log2 - 1 := by
            have h1 : ¬ 2 + k ≤ n.log2 := fun h => hb ((two_pow_le_iff (by omega)).mpr h)
            have h2 : 1 ≤ n.log2 := (two_pow_le_iff (by omega)).mp (by omega)
            rcases hk0 with h | h
            · omega
            · have := (two_pow_le_iff (n := n) (by omega)).mp h
              omega
          refine r_tupL (SqL.of hL) fun p hp => ?_
          refine q p as _ (hs.free hp) (sm_new hs (hs.free hp)) (SqT.of upd_same) ?_
          have e : waysN n = waysTo n k := by
            unfold waysN
            rw [if_neg (by omega), if_neg (by omega), hk1]
          rw [e]
          exact hP.same (same_new hp)
end
abbrev s_is_power : Stmt := top 5
theorem sc_is_power : FnScope ["number"] ["number"] (defScope s_is_power) := ⟨rfl, rfl, rfl, by decide +kernel, rfl, by decide +kernel, by decide +kernel⟩
def sp_is_power (K : PySem.W.Frag) : Sp := fun vs H Q _ => ∃ (n c : Nat), vs = [.int (n : Int)] ∧ n < 2 ^ c ∧ c ≤ 90000 ∧ ∀ (b : Bool) (H' : Hp), Same H H' → (b = true ↔ IsPow n) → Q (.bl b) H'
section
variable {P : Program} {w : World} {K : PySem.W.Frag} {mg : PySem.Str → Option Value} {base : Heap}
theorem bi_is_power {f : Addr} {fd : FuncData} (F : Fun K "is_power" "is_power" s_is_power f fd) : Binds K fd ["number"] [] := F.binds (ps := ["number"]) fun _ _ _ _ _ _ us hl => match us, hl with | [_], _ => rfl
set_option maxHeartbeats 4000000 in
theorem ok_is_power {f : Addr} {fd : FuncData} (F : Fun K "is_power" "is_power" s_is_power f fd) (B : Bt mg)  (h_ways_of : Fn P w K mg base CX0 3 "ways_of" ["number"] (sp_ways_of K)) : FnOk P w K mg base CX0 4 f fd ["number"] (sp_is_power K) := by
  refine F.ok sc_is_power (fun vs H Q E h => ?_) (fun cdv A outer s H vs Q E hr h => ?_)
  · obtain ⟨n, c, rfl, hn, hc, q⟩ := h
    rfl
  · obtain ⟨n, c, rfl, hn, hc, q⟩ := h
    refine ⟨_, (pss_one (ps_ret (pe_cmpR (k_neD K rfl hr.units) (pe_fn h_ways_of (hr.mono (by decide)) (by rfl) (pa_cons (pv 0) pa_nil)) (pe_tup pa_nil) (nomark _)))), ?_⟩
    walk_at "w"
    refine ⟨n, c, rfl, hn, hc, fun p as H1 hp s1 hT hP => ⟨by show 0 ≤ sizeLine; decide, fun t ht => ?_⟩⟩
    have hT2 := same_seqT (same_new (o := .tup []) ht) hT
    refine r_neTP (as := as) (bs := []) (ns := (waysN n).map zz) (ms := []) hT2 (hP.same (same_new ht)) (SqT.of upd_same) PairsAt.nil ?_
    refine q _ _ (sm_new s1 (s1.free ht)) ?_
    have h := waysN_none (n := n)
    by_cases e : waysN n = []
    · simp [e, h.mp e]
    · have hp : IsPow n := Classical.byContradiction fun z => e (h.mpr z)
      simp [e, hp]
end
abbrev s__law_mix : Stmt := top 7
theorem sc__law_mix : FnScope ["cell", "k", "number"] ["cell", "k"] (defScope s__law_mix) := ⟨rfl, rfl, rfl, by decide +kernel, rfl, by decide +kernel, by decide +kernel⟩
def sp__law_mix (K : PySem.W.Frag) : Sp := fun vs H Q _ => ∃ (c k : Int), vs = [.int c, .int k] ∧ 0 ≤ k ∧ k ≤ 2 ^ 40 ∧ ∀ r : Int, 0 ≤ r → Q (.int r) H
section
variable {P : Program} {w : World} {K : PySem.W.Frag} {mg : PySem.Str → Option Value} {base : Heap}
theorem bi__law_mix {f : Addr} {fd : FuncData} (F : Fun K "_law_mix" "_law_mix" s__law_mix f fd) : Binds K fd ["cell", "k"] [] := F.binds (ps := ["cell", "k"]) fun _ _ _ _ _ _ us hl => match us, hl with | [_, _], _ => rfl
set_option maxHeartbeats 4000000 in
theorem ok__law_mix {f : Addr} {fd : FuncData} (F : Fun K "_law_mix" "_law_mix" s__law_mix f fd) (B : Bt mg)   : FnOk P w K mg base CX0 1 f fd ["cell", "k"] (sp__law_mix K) := by
  refine F.ok sc__law_mix (fun vs H Q E h => ?_) (fun cdv A outer s H vs Q E hr h => ?_)
  · obtain ⟨c, k, rfl, h0, h1, q⟩ := h
    rfl
  · obtain ⟨c, k, rfl, h0, h1, q⟩ := h
    refine ⟨_, (pss_cons (ps_set (i := 2) sc__law_mix.nd rfl (Or.inl rfl) (pe_op op_add (pe_op op_mod (pv 0) pe_int) (pe_op op_mulW (pe_op op_mul pe_int (pv 1)) (pv 1))))
      (pss_cons (ps_set (i := 2) sc__law_mix.nd rfl (Or.inl rfl) (pe_op op_mod (pe_op op_add (pv 2) (pe_op op_mul pe_int (pv 1))) pe_int))
      (pss_cons (ps_set (i := 2) sc__law_mix.nd rfl (Or.inl rfl) (pe_op op_mod (pe_op op_mulW (pv 2) (pv 2)) pe_int))
      (pss_one (ps_ret (pe_op op_fdiv (pe_op op_mod (pe_op op_mulW (pv 2) (pe_op op_add (pv 2) pe_int)) pe_int) pe_int)))))), ?_⟩
    walk_at "w"
    refine ⟨by decide, by unfold CMul; omega, wide_mul (a := 64) (b := 64) (by omega) (by omega) (by decide) (by decide) (by decide), ?_⟩
    generalize 1000003 * k * k = z
    generalize hx : (c % 2147483629 + z + 7919 * k) % 2147483629 = x
    have hx1 : 0 ≤ x ∧ x < 2147483629 := by omega
    generalize hy : x * x % 2147483587 = y
    have hy1 : 0 ≤ y ∧ y < 2147483587 := by omega
    refine ⟨by unfold CMul; omega, by decide, wide_mul (a := 64) (b := 64) (by omega) (by omega) (by decide) (by decide) (by decide), by decide, wide_mul (a := 64) (b := 64) (by omega) (by omega) (by decide) (by decide) (by decide), by decide, by unfold CDiv; omega, q _ ?_⟩
    omega
end
abbrev s__law_deck : Stmt := top 8
theorem sc__law_deck : FnScope ["script"] ["script"] (defScope s__law_deck) := ⟨rfl, rfl, rfl, by decide +kernel, rfl, by decide +kernel, by decide +kernel⟩
def sp__law_deck (K : PySem.W.Frag) : Sp := fun vs H Q _ => ∃ (a : Addr) (ns : List Int), vs = [.ref a] ∧ SqL K H a (ns.map V.int) ∧ ∀ (p l : Addr) (H' : Hp), H p = none → Same H H' → Dk H' p l 0 → Q (.ref p) H'
section
variable {P : Program} {w : World} {K : PySem.W.Frag} {mg : PySem.Str → Option Value} {base : Heap}
theorem bi__law_deck {f : Addr} {fd : FuncData} (F : Fun K "_law_deck" "_law_deck" s__law_deck f fd) : Binds K fd ["script"] [] := F.binds (ps := ["script"]) fun _ _ _ _ _ _ us hl => match us, hl with | [_], _ => rfl
set_option maxHeartbeats 4000000 in
theorem ok__law_deck {f : Addr} {fd : FuncData} (F : Fun K "_law_deck" "_law_deck" s__law_deck f fd) (B : Bt mg)   : FnOk P w K mg base CX0 1 f fd ["script"] (sp__law_deck K) := by
  refine F.ok sc__law_deck (fun vs H Q E h => ?_) (fun cdv A outer s H vs Q E hr h => ?_)
  · obtain ⟨a, ns, rfl, hS, q⟩ := h
    rfl
  · obtain ⟨a, ns, rfl, hS, q⟩ := h
    refine ⟨_, (pss_one (ps_ret (pe_lst (pa_cons (pe_slice (k_slL K) (pv 0) po_none (po_some pe_int)) (pa_cons pe_int (pa_cons pe_int (pa_cons pe_int (pa_cons (pe_callB (k_sum K) (by rfl) B.sum (by decide +kernel) (pa_cons (pe_slice (k_slL K) (pv 0) po_none (po_some pe_int)) pa_nil)) pa_nil)))))))), ?_⟩
    walk_at "w"
    refine r_slL hS fun l hl => r_slL ((same_new hl).seq hS) fun l2 hl2 => ?_
    have e : cutV (ns.map V.int) none (some 63) = (ns.take 63).map V.int := by
      have := cut_to (ns.map V.int) 63
      rw [List.map_take]
      exact this
    rw [e] at hl2 ⊢
    refine r_sum (SqL.of (K := K) upd_same) ⟨by show 5 ≤ sizeLine; decide, fun p hp => ?_⟩
    have n1 := upd_free_ne hp
    have n2 := upd_free_ne (upd_free hp)
    refine q p l _ (upd_free (upd_free hp)) (sm_new (sm_new (same_new hl) (upd_free hl2)) (upd_free (upd_free hp))) ⟨ns.take 63, 0, 0, 0, _, upd_same, n2.symm, by walk_at "lk", by simp; omega, by omega, by omega, by omega, by omega, by omega⟩
end
abbrev s__law_next : Stmt := top 9
theorem sc__law_next : FnScope ["deck", "many", "cell", "found"] ["deck", "many"] (defScope s__law_next) := ⟨rfl, rfl, rfl, by decide +kernel, rfl, by decide +kernel, by decide +kernel⟩
def sp__law_next (K : PySem.W.Frag) : Sp := fun vs H Q _ => ∃ (a l : Addr) (n : Nat) (m : Int), vs = [.ref a, .int m] ∧ Dk H a l n ∧ n ≤ 2 ^ 39 ∧ 1 ≤ m ∧ m < 2 ^ 200 ∧ ∀ (r : Int) (H' : Hp), Kp a H H' → Dk H' a l (n + 1) → 0 ≤ r → r < m → Q (.int r) H'
theorem use_next {K : PySem.W.Frag} {a l : Addr} {n : Nat} {m : Int} {H H0 : Hp} {Q : VK} {E : XK} (k : Kp a H0 H) (d : Dk H a l n) (hn : n ≤ 2 ^ 39) (h1 : 1 ≤ m) (h2 : m < 2 ^ 200)
    (q : ∀ (r : Int) (H' : Hp), Kp a H H' → Kp a H0 H' → Dk H' a l (n + 1) → 0 ≤ r → r < m → Q (.int r) H') : sp__law_next K [.ref a, .int m] H Q E :=
  ⟨a, l, n, m, rfl, d, hn, h1, h2, fun r H' k' d' => q r H' k' (k.trans k') d'⟩
theorem pick_next {K : PySem.W.Frag} {a l p : Addr} {n : Nat} {m : Int} {xs : List V} {H H0 : Hp} {Q : VK} {E : XK} (P : V → Prop) (hP : ∀ x ∈ xs, P x) (k : Kp a H0 H) (d : Dk H a l n) (hn : n ≤ 2 ^ 39) (hp : H p = none) (hm : (xs.length : Int) = m) (h1 : 1 ≤ m) (h2 : m < 2 ^ 200)
    (q : ∀ (v : V) (H' : Hp), P v → Kp a H H' → Kp a H0 H' → Dk H' a l (n + 1) → Q v H') : sp__law_next K [.ref a, .int m] (upd H p (.lst xs)) (fun y H2 => rIxL K (.ref p) y H2 Q) E := by
  have np := d.ne hp
  refine use_next (K := K) (k.trans (sm_kp (same_new hp))) (d.same (same_new hp)) hn h1 h2 fun r H' k' K' d' r0 r1 => ?_
  obtain ⟨v, hv, hat⟩ := atI_mem (xs := xs) r0 (by omega)
  exact r_ixL (SqL.of (k' _ _ np upd_same)) hat (q v H' (hP v hv) ((sm_kp (same_new hp)).trans k') K' d')
/-- a whole number from lo to hi -/
def Btw (lo hi : Nat) (v : V) : Prop := ∃ f : Nat, v = .int (f : Int) ∧ lo ≤ f ∧ f ≤ hi
theorem Btw.mk {lo hi : Nat} {i : Int} (h1 : (lo : Int) ≤ i) (h2 : i ≤ hi) : Btw lo hi (.int i) := ⟨i.toNat, by congr 1; omega, by omega, by omega⟩
section
variable {P : Program} {w : World} {K : PySem.W.Frag} {mg : PySem.Str → Option Value} {base : Heap}
theorem bi__law_next {f : Addr} {fd : FuncData} (F : Fun K "_law_next" "_law_next" s__law_next f fd) : Binds K fd ["deck", "many"] [] := F.binds (ps := ["deck", "many"]) fun _ _ _ _ _ _ us hl => match us, hl with | [_, _], _ => rfl
set_option maxHeartbeats 4000000 in
theorem ok__law_next {f : Addr} {fd : FuncData} (F : Fun K "_law_next" "_law_next" s__law_next f fd) (B : Bt mg)  (h__law_mix : Fn P w K mg base CX0 1 "_law_mix" ["cell", "k"] (sp__law_mix K)) : FnOk P w K mg base CX0 2 f fd ["deck", "many"] (sp__law_next K) := by
  refine F.ok sc__law_next (fun vs H Q E h => ?_) (fun cdv A outer s H vs Q E hr h => ?_)
  · obtain ⟨a, l, n, m, rfl, hD, hn, hm, hm2, q⟩ := h
    rfl
  · obtain ⟨a, l, n, m, rfl, hD, hn, hm, hm2, q⟩ := h
    refine ⟨_, (pss_cons (ps_if (PW.pt (pw_and (pt_cmpR op_eq (pe_ix (k_ixL K) (pv 0) pe_int (fun _ _ => rfl)) pe_int (nomark _)) (pw_and1 (pt_cmpR op_lt (pe_ix (k_ixL K) (pv 0) pe_int (fun _ _ => rfl)) (pe_callB (k_len K) (by rfl) B.len (by decide +kernel) (pa_cons (pe_ix (k_ixL K) (pv 0) pe_int (fun _ _ => rfl)) pa_nil)) (nomark _)))))
        (pss_cons (ps_set (i := 2) sc__law_next.nd rfl (Or.inl rfl) (pe_ix (k_ixL K) (pe_ix (k_ixL K) (pv 0) pe_int (fun _ _ => rfl)) (pe_ix (k_ixL K) (pv 0) pe_int (fun _ _ => rfl)) (fun _ _ => rfl)))
        (pss_cons (ps_asg (pe_op op_add (pe_ix (k_ixL K) (pv 0) pe_int (fun _ _ => rfl)) pe_int) (pg_sub (pv 0) pe_int set_list))
        (pss_cons (ps_if (pt_cmpR op_lt (pv 2) (pe_op op_pow pe_int pe_int) (nomark _))
          (pss_one (ps_ret (pe_op op_mod (pe_fn h__law_mix (hr.mono (by decide)) (by rfl) (pa_cons (pv 2) (pa_cons (pe_ix (k_ixL K) (pv 0) pe_int (fun _ _ => rfl)) pa_nil))) (pv 1))))
          pss_nil)
        (pss_one (ps_asg (pv 2) (pg_sub (pv 0) pe_int set_list))))))
        pss_nil)
      (pss_cons (ps_if (pt_cmpR op_gt (pe_ix (k_ixL K) (pv 0) pe_int (fun _ _ => rfl)) pe_int (nomark _))
        (pss_cons (ps_set (i := 3) sc__law_next.nd rfl (Or.inl rfl) (pe_op op_mod (pe_ix (k_ixL K) (pv 0) pe_int (fun _ _ => rfl)) (pv 1)))
        (pss_cons (ps_asg (pe_op op_fdivW (pe_ix (k_ixL K) (pv 0) pe_int (fun _ _ => rfl)) (pv 1)) (pg_sub (pv 0) pe_int set_list))
        (pss_one (ps_ret (pv 3)))))
        pss_nil)
      (pss_cons (ps_asg (pe_op op_add (pe_ix (k_ixL K) (pv 0) pe_int (fun _ _ => rfl)) pe_int) (pg_sub (pv 0) pe_int set_list))
      (pss_one (ps_ret (pe_op op_mod (pe_fn h__law_mix (hr.mono (by decide)) (by rfl) (pa_cons (pe_ix (k_ixL K) (pv 0) pe_int (fun _ _ => rfl)) (pa_cons (pe_op op_add (pe_ix (k_ixL K) (pv 0) pe_int (fun _ _ => rfl)) pe_int) pa_nil))) (pv 1))))))), ?_⟩
    obtain ⟨ns, i, x, c, s, h1, h2, h3, h4, h5, h6, h7, h8, h9⟩ := hD
    have h3' : ∀ (o : HO), upd H a o l = some (.lst (ns.map V.int)) := fun o => (upd_ne h2).trans h3
    have q' : ∀ (z : Int) (H' : Hp), Kp a H H' → Dk H' a l (n + 1) → Q (.int (z % m)) H' := fun z H' k d => q _ H' k d (Int.emod_nonneg _ (by omega)) (Int.emod_lt_of_pos _ (by omega))
    have q2 : ∀ (z i' x' c' : Int), 0 ≤ i' → i' ≤ ns.length → 0 ≤ x' → 0 ≤ c' → c' ≤ n + 1 → Q (.int (z % m)) (upd H a (.lst [.ref l, .int i', .int x', .int c', .int s])) := fun z i' x' c' a1 a2 a3 a4 a5 =>
      q' z _ (Kp.refl a H).upd ⟨ns, i', x', c', s, upd_same, h2, h3' _, h4, a1, a2, a3, a4, by omega⟩
    have hdv : ∀ z : Int, CDivW z m := fun z => wide_div (b := 200) (by omega) (by omega) (by decide) (by decide)
    have hp : CPow 10 18 := by unfold CPow; omega
    -- an old cell goes on, or all are mixed
    walk_at "w"
    walk_at "ix"
    refine ite2 (fun hx => ?_) (fun hx => ?_)
    · subst hx
      walk_at "ix"
      walk_at "ix"
      refine r_len (SqL.of h3) ?_
      walk_at "w"
      refine ite2 (fun hi => ?_) (fun hi => ?_)
      · rw [List.length_map] at hi
        walk_at "ix"
        walk_at "ix"
        obtain ⟨z, hz, hat⟩ := atI_ints h5 hi
        refine r_ixL (SqL.of h3) hat ?_
        walk_at "ix"
        walk_at "st"
        refine ⟨hp, ite2 (fun hc => ?_) (fun hc => ?_)⟩
        · walk_at "ix"
          refine ⟨z, i + 1, rfl, by omega, by omega, fun r hr0 => ?_⟩
          walk_at "w"
          exact ⟨by omega, q2 r _ _ _ (by omega) (by omega) (by omega) (by omega) (by omega)⟩
        · have hz0 : 0 ≤ z := by
            have e : (10 : Int) ^ Int.toNat 18 = 1000000000000000000 := rfl
            omega
          walk_at "st"
          rw [upd_upd]
          walk_at "ix"
          have e : (10 : Int) ^ Int.toNat 18 = 1000000000000000000 := rfl
          rw [if_pos (by omega)]
          walk_at "ix"
          refine ⟨by omega, ?_⟩
          walk_at "ix"
          refine ⟨hdv _, ?_⟩
          walk_at "st"
          rw [upd_upd]
          exact q2 z _ _ _ (by omega) (by omega) (Int.ediv_nonneg hz0 (by omega)) (by omega) (by omega)
      · walk_at "ix"
        rw [if_neg (by omega)]
        walk_at "ix"
        walk_at "st"
        walk_at "ix"
        walk_at "ix"
        refine ⟨s, _, rfl, by omega, by omega, fun r hr0 => ?_⟩
        walk_at "w"
        exact ⟨by omega, q2 r _ _ _ (by omega) (by omega) (by omega) (by omega) (by omega)⟩
    · walk_at "ix"
      rw [if_pos (by omega)]
      walk_at "ix"
      refine ⟨by omega, ?_⟩
      walk_at "ix"
      refine ⟨hdv _, ?_⟩
      walk_at "st"
      exact q2 x _ _ _ (by omega) (by omega) (Int.ediv_nonneg h7 (by omega)) (by omega) (by omega)
end
abbrev s__law_great : Stmt := top 10
theorem sc__law_great : FnScope ["deck", "most", "found", "k"] ["deck", "most"] (defScope s__law_great) := ⟨rfl, rfl, rfl, by decide +kernel, rfl, by decide +kernel, by decide +kernel⟩
def sp__law_great (K : PySem.W.Frag) : Sp := fun vs H Q _ => ∃ (a l : Addr) (n : Nat) (m : Int), vs = [.ref a, .int m] ∧ Dk H a l n ∧ n ≤ 2 ^ 38 ∧ 1 ≤ m ∧ ∀ (r : Int) (H' : Hp), Kp a H H' → Dk H' a l (n + 8) → 0 ≤ r → r < m → Q (.int r) H'
theorem use_great {K : PySem.W.Frag} {a l : Addr} {n : Nat} {m : Int} {H H0 : Hp} {Q : VK} {E : XK} (k : Kp a H0 H) (d : Dk H a l n) (hn : n ≤ 2 ^ 38) (h1 : 1 ≤ m)
    (q : ∀ (r : Int) (H' : Hp), Kp a H H' → Kp a H0 H' → Dk H' a l (n + 8) → 0 ≤ r → r < m → Q (.int r) H') : sp__law_great K [.ref a, .int m] H Q E :=
  ⟨a, l, n, m, rfl, d, hn, h1, fun r H' k' d' => q r H' k' (k.trans k') d'⟩
section
variable {P : Program} {w : World} {K : PySem.W.Frag} {mg : PySem.Str → Option Value} {base : Heap}
theorem bi__law_great {f : Addr} {fd : FuncData} (F : Fun K "_law_great" "_law_great" s__law_great f fd) : Binds K fd ["deck", "most"] [] := F.binds (ps := ["deck", "most"]) fun _ _ _ _ _ _ us hl => match us, hl with | [_, _], _ => rfl
set_option maxHeartbeats 4000000 in
theorem ok__law_great {f : Addr} {fd : FuncData} (F : Fun K "_law_great" "_law_great" s__law_great f fd) (B : Bt mg)  (h__law_next : Fn P w K mg base CX0 2 "_law_next" ["deck", "many"] (sp__law_next K)) : FnOk P w K mg base CX0 3 f fd ["deck", "most"] (sp__law_great K) := by
  refine F.ok sc__law_great (fun vs H Q E h => ?_) (fun cdv A outer s H vs Q E hr h => ?_)
  · obtain ⟨a, l, n, m, rfl, hD, hn, hm, q⟩ := h
    rfl
  · obtain ⟨a, l, n, m, rfl, hD, hn, hm, q⟩ := h
    refine ⟨_, (pss_cons (ps_set (i := 2) sc__law_great.nd rfl (Or.inl rfl) pe_int)
      (pss_cons (ps_for PassesOwn.never rfl (pi_range1 rfl B.range (pa_cons pe_int pa_nil)) (pg_name (i := 3) sc__law_great.nd rfl (Or.inl rfl))
        (pss_one (ps_set (i := 2) sc__law_great.nd rfl (Or.inl rfl) (pe_op op_add (pe_op op_mulW (pv 2) (pe_op op_pow pe_int pe_int)) (pe_fn h__law_next (hr.mono (by decide)) (by rfl) (pa_cons (pv 0) (pa_cons (pe_op op_pow pe_int pe_int) pa_nil)))))))
      (pss_one (ps_ret (pe_op op_mod (pv 2) (pv 1)))))), ?_⟩
    walk_at "w"
    refine ⟨by decide, by decide, for_r (fun i σ H' => ∃ (z : Int) (v : Option V), σ = [some (.ref a), some (.int m), some (.int z), v] ∧ Kp a H H' ∧ Dk H' a l (n + i) ∧ 0 ≤ z ∧ z + 1 ≤ ((1000000 ^ i : Nat) : Int)) ⟨0, none, rfl, Kp.refl _ _, hD, by omega, by decide⟩ ?_ ?_⟩
    · rintro i σ H' hi ⟨z, v, rfl, k, hd, h0, h1⟩ N hN
      have e8 : (8 : Int).toNat = 8 := rfl
      have hb : 1000000 ^ i ≤ 1000000 ^ 8 := Nat.pow_le_pow_right (by decide) (by omega)
      have hb8 : 1000000 ^ 8 < 2 ^ 200 := by decide
      have ep : (10 : Int) ^ Int.toNat 6 = 1000000 := rfl
      walk_at "w"
      rw [ep]
      refine ⟨by unfold CPow; omega, wide_mul (a := 200) (b := 200) (by omega) (by omega) (by decide) (by decide) (by decide), by unfold CPow; omega, a, l, n + i, 1000000, rfl, hd, by omega, by omega, by omega, fun r H2 k2 d2 r0 r1 => ?_⟩
      walk_at "w"
      refine hN _ _ ⟨z * 1000000 + r, _, rfl, k.trans k2, d2, by omega, ?_⟩
      rw [Nat.pow_succ]
      omega
    · rintro σ H' ⟨z, v, rfl, k, hd, h0, h1⟩
      walk_at "w"
      exact ⟨by omega, q _ _ k (hd.mono (by simp)) (Int.emod_nonneg _ (by omega)) (Int.emod_lt_of_pos _ (by omega))⟩
end
abbrev s__law_a_power : Stmt := top 11
theorem sc__law_a_power : FnScope ["deck", "most", "exponent", "places", "few", "base", "found", "k"] ["deck", "most"] (defScope s__law_a_power) := ⟨rfl, rfl, rfl, by decide +kernel, rfl, by decide +kernel, by decide +kernel⟩
def sp__law_a_power (K : PySem.W.Frag) : Sp := fun vs H Q _ => ∃ (a l : Addr) (n : Nat) (m : Int), vs = [.ref a, .int m] ∧ Dk H a l n ∧ n ≤ 2 ^ 37 ∧ 1 ≤ m ∧ m < 2 ^ 200 ∧ ∀ (r : Int) (H' : Hp), Kp a H H' → Dk H' a l (n + 15) → 1 ≤ r → r ≤ m → Q (.int r) H'
theorem use_a_power {K : PySem.W.Frag} {a l : Addr} {n : Nat} {m : Int} {H H0 : Hp} {Q : VK} {E : XK} (k : Kp a H0 H) (d : Dk H a l n) (hn : n ≤ 2 ^ 37) (h1 : 1 ≤ m) (h2 : m < 2 ^ 200)
    (q : ∀ (r : Int) (H' : Hp), Kp a H H' → Kp a H0 H' → Dk H' a l (n + 15) → 1 ≤ r → r ≤ m → Q (.int r) H') : sp__law_a_power K [.ref a, .int m] H Q E :=
  ⟨a, l, n, m, rfl, d, hn, h1, h2, fun r H' k' d' => q r H' k' (k.trans k') d'⟩
section
variable {P : Program} {w : World} {K : PySem.W.Frag} {mg : PySem.Str → Option Value} {base : Heap}
theorem bi__law_a_power {f : Addr} {fd : FuncData} (F : Fun K "_law_a_power" "_law_a_power" s__law_a_power f fd) : Binds K fd ["deck", "most"] [] := F.binds (ps := ["deck", "most"]) fun _ _ _ _ _ _ us hl => match us, hl with | [_, _], _ => rfl
set_option maxHeartbeats 4000000 in
theorem ok__law_a_power {f : Addr} {fd : FuncData} (F : Fun K "_law_a_power" "_law_a_power" s__law_a_power f fd) (B : Bt mg)  (h__law_next : Fn P w K mg base CX0 2 "_law_next" ["deck", "many"] (sp__law_next K)) (h__law_great : Fn P w K mg base CX0 3 "_law_great" ["deck", "most"] (sp__law_great K)) : FnOk P w K mg base CX0 4 f fd ["deck", "most"] (sp__law_a_power K) := by
  refine F.ok sc__law_a_power (fun vs H Q E h => ?_) (fun cdv A outer s H vs Q E hr h => ?_)
  · obtain ⟨a, l, n, m, rfl, hD, hn, hm, hm2, q⟩ := h
    rfl
  · obtain ⟨a, l, n, m, rfl, hD, hn, hm, hm2, q⟩ := h
    refine ⟨_, (pss_cons (ps_set (i := 2) sc__law_a_power.nd rfl (Or.inl rfl) (pe_ix (k_ixL K) (pe_lst (pa_cons (pe_op op_add pe_int (pe_fn h__law_next (hr.mono (by decide)) (by rfl) (pa_cons (pv 0) (pa_cons pe_int pa_nil)))) (pa_cons (pe_op op_add pe_int (pe_fn h__law_next (hr.mono (by decide)) (by rfl) (pa_cons (pv 0) (pa_cons pe_int pa_nil)))) (pa_cons (pe_op op_add pe_int (pe_fn h__law_next (hr.mono (by decide)) (by rfl) (pa_cons (pv 0) (pa_cons pe_int pa_nil)))) pa_nil)))) (pe_fn h__law_next (hr.mono (by decide)) (by rfl) (pa_cons (pv 0) (pa_cons pe_int pa_nil))) (fun _ _ => rfl)))
      (pss_cons (ps_set (i := 3) sc__law_a_power.nd rfl (Or.inl rfl) (pe_op op_add pe_int (pe_fn h__law_next (hr.mono (by decide)) (by rfl) (pa_cons (pv 0) (pa_cons (pe_op op_add (pe_op op_fdivW pe_int (pe_callB (call_min2 rfl) (by rfl) B.min (by decide +kernel) (pa_cons pe_int (pa_cons (pv 2) pa_nil)))) pe_int) pa_nil)))))
      (pss_cons (ps_set (i := 4) sc__law_a_power.nd rfl (Or.inl rfl) (pe_op op_add pe_int (pe_fn h__law_next (hr.mono (by decide)) (by rfl) (pa_cons (pv 0) (pa_cons pe_int pa_nil)))))
      (pss_cons (ps_set (i := 5) sc__law_a_power.nd rfl (Or.inl rfl) (pe_ix (k_ixL K) (pe_lst (pa_cons (pv 4) (pa_cons (pv 4) (pa_cons (pe_op op_add pe_int (pe_op op_mod (pe_fn h__law_great (hr.mono (by decide)) (by rfl) (pa_cons (pv 0) (pa_cons (pe_op op_pow pe_int pe_int) pa_nil))) (pe_op op_shl pe_int (pe_op op_mul pe_int (pv 3))))) pa_nil)))) (pe_fn h__law_next (hr.mono (by decide)) (by rfl) (pa_cons (pv 0) (pa_cons pe_int pa_nil))) (fun _ _ => rfl)))
      (pss_cons (ps_set (i := 6) sc__law_a_power.nd rfl (Or.inl rfl) pe_int)
      (pss_cons (ps_for PassesOwn.never rfl (pi_range1 rfl B.range (pa_cons (pv 2) pa_nil)) (pg_name (i := 7) sc__law_a_power.nd rfl (Or.inl rfl))
        (pss_one (ps_if (pt_cmpR op_le (pe_op op_mulW (pv 6) (pv 5)) (pv 1) (nomark _))
          (pss_one (ps_set (i := 6) sc__law_a_power.nd rfl (Or.inl rfl) (pe_op op_mulW (pv 6) (pv 5))))
          pss_nil)))
      (pss_one (ps_ret (pv 6))))))))), ?_⟩
    walk_at "w"
    refine use_next (Kp.refl a H) hD (by omega) (by omega) (by omega) fun r1 H1 k1 K1 d1 a1 b1 => ?_
    walk_at "w"
    refine use_next K1 d1 (by omega) (by omega) (by omega) fun r2 H2 k2 K2 d2 a2 b2 => ?_
    walk_at "w"
    refine use_next K2 d2 (by omega) (by omega) (by omega) fun r3 H3 k3 K3 d3 a3 b3 => ?_
    walk_at "w"
    refine ⟨by show 3 ≤ sizeLine; decide, fun p hp => ?_⟩
    have np := d3.ne hp
    refine use_next (K3.trans (sm_kp (same_new hp))) (d3.same (same_new hp)) (by omega) (by omega) (by omega) fun r4 H4 k4 K4 d4 a4 b4 => ?_
    obtain ⟨v, hv, hat⟩ := atI_mem (xs := [.int (2 + r1), .int (2 + r2), .int (2 + r3)]) a4 b4
    obtain ⟨e, rfl, e1, e2⟩ : ∃ e : Int, v = .int e ∧ 2 ≤ e ∧ e ≤ 200 := by
      simp only [List.mem_cons, List.not_mem_nil, or_false] at hv
      rcases hv with rfl | rfl | rfl <;> exact ⟨_, rfl, by omega, by omega⟩
    refine r_ixL (SqL.of (k4 _ _ np upd_same)) hat ?_
    walk_at "w"
    have hmin : ∀ z : Int, z = (if e < 40 then e else 40) → 2 ≤ z ∧ z ≤ 40 := fun z hz => by
      subst hz
      split <;> omega
    generalize hz : (if e < 40 then e else 40) = z
    obtain ⟨z1, z2⟩ := hmin z hz.symm
    have zd : (40 : Int) / z ≤ 20 ∧ 0 ≤ (40 : Int) / z := by
      refine ⟨?_, Int.ediv_nonneg (by decide) (by omega)⟩
      have := Int.ediv_mul_le 40 (b := z) (by omega)
      have : (40 : Int) / z * 2 ≤ 40 / z * z := Int.mul_le_mul_of_nonneg_left z1 (Int.ediv_nonneg (by decide) (by omega))
      omega
    refine ⟨wide_div (b := 10) (by omega) (by omega) (by decide) (by decide), ?_⟩
    refine use_next K4 d4 (by omega) (by omega) (by omega) fun r5 H5 k5 K5 d5 a5 b5 => ?_
    walk_at "w"
    refine use_next K5 d5 (by omega) (by omega) (by omega) fun r6 H6 k6 K6 d6 a6 b6 => ?_
    walk_at "w"
    have ep : (10 : Int) ^ Int.toNat 42 = 1000000000000000000000000000000000000000000 := rfl
    refine ⟨by unfold CPow; omega, ?_⟩
    refine use_great K6 d6 (by omega) (by rw [ep]; decide) fun r7 H7 k7 K7 d7 a7 b7 => ?_
    walk_at "w"
    refine ⟨by unfold CMul; omega, by unfold CPow; omega, ?_⟩
    obtain ⟨j, hj⟩ := Int.eq_ofNat_of_zero_le (show 0 ≤ 3 * (1 + r5) by omega)
    have hj2 : (3 * (1 + r5)).toNat = j := by omega
    have hj3 : j ≤ 63 := by omega
    have hpw : (2 : Nat) ^ j ≤ 2 ^ 63 := Nat.pow_le_pow_right (by decide) hj3
    have hpw0 : 0 < (2 : Nat) ^ j := Nat.two_pow_pos j
    have hs : (1 : Int) * 2 ^ (3 * (1 + r5)).toNat = ((2 ^ j : Nat) : Int) := by
      rw [hj2]
      simp
    rw [hs]
    generalize hy : r7 % ((2 ^ j : Nat) : Int) = y
    have hy1 : 0 ≤ y ∧ y < ((2 ^ j : Nat) : Int) := by
      rw [← hy]
      exact ⟨Int.emod_nonneg _ (by omega), Int.emod_lt_of_pos _ (by omega)⟩
    refine ⟨by omega, by show 3 ≤ sizeLine; decide, fun p2 hp2 => ?_⟩
    have np2 := d7.ne hp2
    refine use_next (K7.trans (sm_kp (same_new hp2))) (d7.same (same_new hp2)) (by omega) (by omega) (by omega) fun r8 H8 k8 K8 d8 a8 b8 => ?_
    obtain ⟨v, hv, hat⟩ := atI_mem (xs := [.int (2 + r6), .int (2 + r6), .int (1 + y)]) a8 b8
    obtain ⟨b, rfl, e3, e4⟩ : ∃ e : Int, v = .int e ∧ 1 ≤ e ∧ e ≤ 2 ^ 64 := by
      simp only [List.mem_cons, List.not_mem_nil, or_false] at hv
      rcases hv with rfl | rfl | rfl <;> exact ⟨_, rfl, by omega, by omega⟩
    refine r_ixL (SqL.of (k8 _ _ np2 upd_same)) hat ?_
    walk_at "w"
    refine ⟨by omega, by omega, for_r (fun i σ H' => ∃ (z : Int) (v : Option V), σ = [some (.ref a), some (.int m), some (.int e), some (.int (1 + r5)), some (.int (2 + r6)), some (.int b), some (.int z), v] ∧ H' = H8 ∧ 1 ≤ z ∧ z ≤ m) ⟨1, none, rfl, rfl, by omega, by omega⟩ ?_ ?_⟩
    · rintro i σ H' hi ⟨z, v, rfl, rfl, h0, h1⟩ N hN
      have hc : CMulW z b := wide_mul (a := 200) (b := 200) (by omega) (by omega) (by decide) (by decide) (by decide)
      walk_at "w"
      refine ⟨hc, ite2 (fun ht => ⟨hc, hN _ _ ⟨z * b, _, rfl, rfl, ?_, ht⟩⟩) (fun ht => hN _ _ ⟨z, _, rfl, rfl, h0, h1⟩)⟩
      have := Int.mul_le_mul h0 e3 (by decide) (by omega)
      omega
    · rintro σ H' ⟨z, v, rfl, rfl, h0, h1⟩
      walk_at "w"
      exact q _ _ K8 d8 h0 h1
end
abbrev s__law_number : Stmt := top 12
theorem sc__law_number : FnScope ["deck", "most", "near", "some"] ["deck", "most"] (defScope s__law_number) := ⟨rfl, rfl, rfl, by decide +kernel, rfl, by decide +kernel, by decide +kernel⟩
def sp__law_number (K : PySem.W.Frag) : Sp := fun vs H Q _ => ∃ (a l : Addr) (n : Nat) (m : Int), vs = [.ref a, .int m] ∧ Dk H a l n ∧ n ≤ 2 ^ 36 ∧ 1 ≤ m ∧ m < 2 ^ 190 ∧ ∀ (r : Int) (H' : Hp), Kp a H H' → Dk H' a l (n + 42) → 0 ≤ r → r ≤ m → Q (.int r) H'
theorem use_number {K : PySem.W.Frag} {a l : Addr} {n : Nat} {m : Int} {H H0 : Hp} {Q : VK} {E : XK} (k : Kp a H0 H) (d : Dk H a l n) (hn : n ≤ 2 ^ 36) (h1 : 1 ≤ m) (h2 : m < 2 ^ 190)
    (q : ∀ (r : Int) (H' : Hp), Kp a H H' → Kp a H0 H' → Dk H' a l (n + 42) → 0 ≤ r → r ≤ m → Q (.int r) H') : sp__law_number K [.ref a, .int m] H Q E :=
  ⟨a, l, n, m, rfl, d, hn, h1, h2, fun r H' k' d' => q r H' k' (k.trans k') d'⟩
section
variable {P : Program} {w : World} {K : PySem.W.Frag} {mg : PySem.Str → Option Value} {base : Heap}
theorem bi__law_number {f : Addr} {fd : FuncData} (F : Fun K "_law_number" "_law_number" s__law_number f fd) : Binds K fd ["deck", "most"] [] := F.binds (ps := ["deck", "most"]) fun _ _ _ _ _ _ us hl => match us, hl with | [_, _], _ => rfl
set_option maxHeartbeats 4000000 in
theorem ok__law_number {f : Addr} {fd : FuncData} (F : Fun K "_law_number" "_law_number" s__law_number f fd) (B : Bt mg)  (h__law_a_power : Fn P w K mg base CX0 4 "_law_a_power" ["deck", "most"] (sp__law_a_power K)) (h__law_next : Fn P w K mg base CX0 2 "_law_next" ["deck", "many"] (sp__law_next K)) (h__law_great : Fn P w K mg base CX0 3 "_law_great" ["deck", "most"] (sp__law_great K)) : FnOk P w K mg base CX0 5 f fd ["deck", "most"] (sp__law_number K) := by
  refine F.ok sc__law_number (fun vs H Q E h => ?_) (fun cdv A outer s H vs Q E hr h => ?_)
  · obtain ⟨a, l, n, m, rfl, hD, hn, hm, hm2, q⟩ := h
    rfl
  · obtain ⟨a, l, n, m, rfl, hD, hn, hm, hm2, q⟩ := h
    refine ⟨_, (pss_cons (ps_set (i := 2) sc__law_number.nd rfl (Or.inl rfl) (pe_op op_sub (pe_op op_add (pe_fn h__law_a_power (hr.mono (by decide)) (by rfl) (pa_cons (pv 0) (pa_cons (pv 1) pa_nil))) (pe_fn h__law_next (hr.mono (by decide)) (by rfl) (pa_cons (pv 0) (pa_cons pe_int pa_nil)))) pe_int))
      (pss_cons (ps_set (i := 3) sc__law_number.nd rfl (Or.inl rfl) (pe_lst (pa_cons (pe_fn h__law_next (hr.mono (by decide)) (by rfl) (pa_cons (pv 0) (pa_cons pe_int pa_nil))) (pa_cons (pe_fn h__law_great (hr.mono (by decide)) (by rfl) (pa_cons (pv 0) (pa_cons (pe_op op_add (pv 1) pe_int) pa_nil))) (pa_cons (pe_fn h__law_a_power (hr.mono (by decide)) (by rfl) (pa_cons (pv 0) (pa_cons (pv 1) pa_nil))) (pa_cons (pv 2) (pa_cons (pe_op op_sub (pv 1) (pe_fn h__law_next (hr.mono (by decide)) (by rfl) (pa_cons (pv 0) (pa_cons pe_int pa_nil)))) pa_nil)))))))
      (pss_one (ps_ret (pe_callB (call_min2 rfl) (by rfl) B.min (by decide +kernel) (pa_cons (pv 1) (pa_cons (pe_callB (call_max2 rfl) (by rfl) B.max (by decide +kernel) (pa_cons pe_int (pa_cons (pe_ix (k_ixL K) (pv 3) (pe_fn h__law_next (hr.mono (by decide)) (by rfl) (pa_cons (pv 0) (pa_cons pe_int pa_nil))) (fun _ _ => rfl)) pa_nil))) pa_nil))))))), ?_⟩
    walk_at "w"
    refine use_a_power (Kp.refl a H) hD (by omega) (by omega) (by omega) fun r1 H1 k1 K1 d1 a1 b1 => ?_
    walk_at "w"
    refine use_next K1 d1 (by omega) (by omega) (by omega) fun r2 H2 k2 K2 d2 a2 b2 => ?_
    walk_at "w"
    refine use_next K2 d2 (by omega) (by omega) (by omega) fun r3 H3 k3 K3 d3 a3 b3 => ?_
    walk_at "w"
    refine use_great K3 d3 (by omega) (by omega) fun r4 H4 k4 K4 d4 a4 b4 => ?_
    walk_at "w"
    refine use_a_power K4 d4 (by omega) (by omega) (by omega) fun r5 H5 k5 K5 d5 a5 b5 => ?_
    walk_at "w"
    refine use_next K5 d5 (by omega) (by omega) (by omega) fun r6 H6 k6 K6 d6 a6 b6 => ?_
    walk_at "w"
    refine ⟨by show 5 ≤ sizeLine; decide, fun p hp => ?_⟩
    have np := d6.ne hp
    refine use_next (K6.trans (sm_kp (same_new hp))) (d6.same (same_new hp)) (by omega) (by omega) (by omega) fun r7 H7 k7 K7 d7 a7 b7 => ?_
    obtain ⟨v, hv, hat⟩ := atI_mem (xs := [.int r3, .int r4, .int r5, .int (r1 + r2 - 2), .int (m - r6)]) a7 b7
    obtain ⟨e, rfl⟩ : ∃ e : Int, v = .int e := by
      simp only [List.mem_cons, List.not_mem_nil, or_false] at hv
      rcases hv with rfl | rfl | rfl | rfl | rfl <;> exact ⟨_, rfl⟩
    refine r_ixL (SqL.of (k7 _ _ np upd_same)) hat ?_
    walk_at "w"
    refine q _ _ K7 (d7.mono (by omega)) ?_ ?_
    · split <;> split at * <;> omega
    · split <;> split at * <;> omega
end
abbrev s__law_taken : Stmt := top 13
theorem sc__law_taken : FnScope ["base", "exponent", "found", "k"] ["base", "exponent"] (defScope s__law_taken) := ⟨rfl, rfl, rfl, by decide +kernel, rfl, by decide +kernel, by decide +kernel⟩
def sp__law_taken (K : PySem.W.Frag) : Sp := fun vs H Q _ => ∃ (b e a : Nat), vs = [.int (b : Int), .int (e : Int)] ∧ b < 2 ^ a ∧ e ≤ 1000000 ∧ a * e ≤ 300000 ∧ Q (.int ((b ^ e : Nat) : Int)) H
section
variable {P : Program} {w : World} {K : PySem.W.Frag} {mg : PySem.Str → Option Value} {base : Heap}
theorem bi__law_taken {f : Addr} {fd : FuncData} (F : Fun K "_law_taken" "_law_taken" s__law_taken f fd) : Binds K fd ["base", "exponent"] [] := F.binds (ps := ["base", "exponent"]) fun _ _ _ _ _ _ us hl => match us, hl with | [_, _], _ => rfl
set_option maxHeartbeats 4000000 in
theorem ok__law_taken {f : Addr} {fd : FuncData} (F : Fun K "_law_taken" "_law_taken" s__law_taken f fd) (B : Bt mg)   : FnOk P w K mg base CX0 1 f fd ["base", "exponent"] (sp__law_taken K) := by
  refine F.ok sc__law_taken (fun vs H Q E h => ?_) (fun cdv A outer s H vs Q E hr h => ?_)
  · obtain ⟨b, e, a, rfl, hb, he, ha, q⟩ := h
    rfl
  · obtain ⟨b, e, a, rfl, hb, he, ha, q⟩ := h
    refine ⟨_, (pss_cons (ps_set (i := 2) sc__law_taken.nd rfl (Or.inl rfl) pe_int)
      (pss_cons (ps_for PassesOwn.never rfl (pi_range1 rfl B.range (pa_cons (pv 1) pa_nil)) (pg_name (i := 3) sc__law_taken.nd rfl (Or.inl rfl))
        (pss_one (ps_set (i := 2) sc__law_taken.nd rfl (Or.inl rfl) (pe_op op_mulW (pv 2) (pv 0)))))
      (pss_one (ps_ret (pv 2))))), ?_⟩
    walk_at "w"
    refine ⟨by omega, by omega, for_r (fun i σ H' => ∃ (v : Option V), σ = [some (.int b), some (.int e), some (.int ((b ^ i : Nat) : Int)), v] ∧ H' = H) ⟨none, by simp, rfl⟩ ?_ ?_⟩
    · rintro i σ H' hi ⟨v, rfl, rfl⟩ N hN
      have hi : i < e := by omega
      have h1 : b ^ i ≤ 2 ^ (a * e) := by
        rw [Nat.pow_mul]
        refine Nat.le_trans (Nat.pow_le_pow_left (Nat.le_of_lt hb) i) (Nat.pow_le_pow_right (Nat.two_pow_pos a) (by omega))
      have h2 : b ≤ 2 ^ (a * e) := Nat.le_trans (Nat.le_of_lt hb) (Nat.pow_le_pow_right (by decide) (Nat.le_mul_of_pos_right a (by omega)))
      have l1 := log2_le_of_le h1
      have l2 := log2_le_of_le h2
      walk_at "w"
      rw [show ((b ^ i : Nat) : Int) * (b : Int) = ((b ^ (i + 1) : Nat) : Int) by simp [Nat.pow_succ]]
      exact ⟨cmulN (by omega), hN _ _ ⟨_, rfl, rfl⟩⟩
    · rintro σ H' ⟨v, rfl, rfl⟩
      walk_at "w"
      exact q
end
abbrev s__law_root : Stmt := top 14
theorem sc__law_root : FnScope ["number", "exponent", "found", "bit", "more", "k"] ["number", "exponent"] (defScope s__law_root) := ⟨rfl, rfl, rfl, by decide +kernel, rfl, by decide +kernel, by decide +kernel⟩
def sp__law_root (K : PySem.W.Frag) : Sp := fun vs H Q _ => ∃ (n e : Nat), vs = [.int (n : Int), .int (e : Int)] ∧ n < 2 ^ 140 ∧ 2 ≤ e ∧ e ≤ 200 ∧ Q (.int (rootN n e : Nat)) H
section
variable {P : Program} {w : World} {K : PySem.W.Frag} {mg : PySem.Str → Option Value} {base : Heap}
theorem bi__law_root {f : Addr} {fd : FuncData} (F : Fun K "_law_root" "_law_root" s__law_root f fd) : Binds K fd ["number", "exponent"] [] := F.binds (ps := ["number", "exponent"]) fun _ _ _ _ _ _ us hl => match us, hl with | [_, _], _ => rfl
set_option maxHeartbeats 4000000 in
theorem ok__law_root {f : Addr} {fd : FuncData} (F : Fun K "_law_root" "_law_root" s__law_root f fd) (B : Bt mg)   : FnOk P w K mg base CX0 1 f fd ["number", "exponent"] (sp__law_root K) := by
  refine F.ok sc__law_root (fun vs H Q E h => ?_) (fun cdv A outer s H vs Q E hr h => ?_)
  · obtain ⟨n, e, rfl, hn, he, he2, q⟩ := h
    rfl
  · obtain ⟨n, e, rfl, hn, he, he2, q⟩ := h
    refine ⟨_, (pss_cons (ps_set (i := 2) sc__law_root.nd rfl (Or.inl rfl) pe_int)
      (pss_cons (ps_set (i := 3) sc__law_root.nd rfl (Or.inl rfl) (pe_op op_shl pe_int (pe_op op_add (pe_op op_fdivW pe_int (pv 1)) pe_int)))
      (pss_cons (ps_while PassesOwn.never (pt_cmpR op_gt (pv 3) pe_int (nomark _))
        (pss_cons (ps_set (i := 4) sc__law_root.nd rfl (Or.inl rfl) pe_int)
        (pss_cons (ps_for PassesOwn.never rfl (pi_range1 rfl B.range (pa_cons (pv 1) pa_nil)) (pg_name (i := 5) sc__law_root.nd rfl (Or.inl rfl))
          (pss_one (ps_if (pt_cmpR op_le (pv 4) (pv 0) (nomark _))
            (pss_one (ps_set (i := 4) sc__law_root.nd rfl (Or.inl rfl) (pe_op op_mulW (pv 4) (pe_op op_add (pv 2) (pv 3)))))
            pss_nil)))
        (pss_cons (ps_if (pt_cmpR op_le (pv 4) (pv 0) (nomark _))
          (pss_one (ps_set (i := 2) sc__law_root.nd rfl (Or.inl rfl) (pe_op op_add (pv 2) (pv 3))))
          pss_nil)
        (pss_one (ps_set (i := 3) sc__law_root.nd rfl (Or.inl rfl) (pe_op op_fdiv (pv 3) pe_int)))))))
      (pss_one (ps_ret (pv 2)))))), ?_⟩
    walk_at "w"
    have hj : (140 : Int) / (e : Int) + 1 = ((140 / e + 1 : Nat) : Int) := by simp
    have hj70 : 140 / e ≤ 70 := by
      have : 140 / e ≤ 140 / 2 := Nat.div_le_div_left he (by decide)
      omega
    have hje : 140 ≤ (140 / e + 2) * e := by
      have := Nat.lt_div_mul_add (a := 140) (b := e) (by omega)
      rw [Nat.add_mul]
      omega
    rw [hj, shl_one]
    generalize 140 / e = z at hj70 hje ⊢
    clear hj
    refine ⟨wide_div (b := 10) (by omega) (by omega) (by decide) (by decide), by unfold CPow; omega, ?_⟩
    refine while_m (fun m σ H' => ∃ (f bit : Nat) (v4 v5 : Option V), σ = [some (.int n), some (.int e), some (.int f), some (.int bit), v4, v5] ∧ H' = H ∧ bit = (if m = 0 then 0 else 2 ^ (m - 1)) ∧ f ^ e ≤ n ∧ n < (f + 2 ^ m) ^ e ∧ f + 2 ^ m ≤ 2 ^ 73) (z + 2) ⟨0, 2 ^ (z + 1), none, none, rfl, rfl, rfl, ?_, ?_, ?_⟩ ?_
    · rw [Nat.zero_pow (by omega)]
      omega
    · rw [Nat.zero_add, ← Nat.pow_mul]
      exact Nat.lt_of_lt_of_le hn (Nat.pow_le_pow_right (by decide) hje)
    · rw [Nat.zero_add]
      exact Nat.pow_le_pow_right (by decide) (by omega)
    · rintro m σ H' ⟨f, bit, v4, v5, rfl, rfl, hbit, h1, h2, h3⟩ G hG
      walk_at "w"
      refine ite2 (fun hc => hG _ _ fun N hN => ?_) (fun hc => ?_)
      · have hm : m ≠ 0 := fun h => by
          rw [if_pos h] at hbit
          omega
        rw [if_neg hm] at hbit
        obtain ⟨j, rfl⟩ : ∃ j, m = j + 1 := ⟨m - 1, by omega⟩
        have hbit : bit = 2 ^ j := hbit
        have hp : 2 ^ (j + 1) = 2 ^ j + 2 ^ j := by rw [Nat.pow_succ]; omega
        have hp0 : 0 < 2 ^ j := Nat.two_pow_pos j
        walk_at "w"
        refine ⟨by omega, by omega, for_r (fun i σ H2 => ∃ (t : Nat) (v5 : Option V), σ = [some (.int n), some (.int e), some (.int f), some (.int bit), some (.int (((f + bit) ^ t : Nat) : Int)), v5] ∧ H2 = H' ∧ t ≤ i ∧ (t = i ∨ n < (f + bit) ^ t) ∧ (f + bit) ^ t ≤ 2 ^ 220) ⟨0, _, rfl, rfl, Nat.le_refl _, .inl rfl, by rw [Nat.pow_zero]; decide⟩ ?_ ?_⟩
        · rintro i σ H2 hi ⟨t, v5, rfl, rfl, ht, ht2, ht3⟩ N2 hN2
          walk_at "w"
          refine ite2 (fun hl => ?_) (fun hl => hN2 _ _ ⟨t, _, rfl, rfl, by omega, .inr (by omega), ht3⟩)
          have ht4 : t = i := by omega
          have l1 : (((f + bit) ^ t : Nat) : Int).natAbs < 2 ^ 221 := by
            have : (2:Nat) ^ 220 < 2 ^ 221 := by decide
            omega
          have l2 : ((f : Int) + bit).natAbs < 2 ^ 74 := by
            have : (2:Nat) ^ 73 < 2 ^ 74 := by decide
            omega
          have ev : (((f + bit) ^ t : Nat) : Int) * ((f : Int) + bit) = (((f + bit) ^ (t + 1) : Nat) : Int) := by
            rw [Nat.pow_succ]
            push_cast
            rfl
          rw [ev]
          refine ⟨wide_mul l1 l2 (by decide) (by decide) (by decide), hN2 _ _ ⟨t + 1, _, rfl, rfl, by omega, .inl (by omega), ?_⟩⟩
          · rw [Nat.pow_succ]
            have a1 : (f + bit) ^ t ≤ 2 ^ 140 := by omega
            have a2 : f + bit ≤ 2 ^ 73 := by omega
            exact Nat.le_trans (Nat.mul_le_mul a1 a2) (by decide)
        · rintro σ H2 ⟨t, v5, rfl, rfl, ht, ht2, ht3⟩
          have ee : (e : Int).toNat = e := by omega
          rw [ee] at ht ht2
          have key := more_end (n := n) (x := f + bit) (by omega) ht ht2
          walk_at "w"
          have hb2 : (bit : Int) / 2 = ((bit / 2 : Nat) : Int) := by omega
          have hbj : bit / 2 = if j = 0 then 0 else 2 ^ (j - 1) := by
            rcases Nat.eq_zero_or_pos j with rfl | hj0
            · rw [hbit]
              rfl
            · rw [if_neg (by omega), hbit]
              have : 2 ^ j = 2 * 2 ^ (j - 1) := by
                conv => lhs; rw [show j = (j - 1) + 1 by omega, Nat.pow_succ]
                omega
              omega
          rw [hb2]
          refine ite2 (fun hl => ?_) (fun hl => ?_)
          · rw [show (f : Int) + (bit : Int) = ((f + bit : Nat) : Int) by push_cast; rfl]
            refine ⟨by unfold CDiv; omega, hN j _ _ (by omega) ⟨f + bit, bit / 2, _, _, rfl, rfl, hbj, key.mp (by omega), ?_, by omega⟩⟩
            · rw [hbit, Nat.add_assoc, ← hp]
              exact h2
          · refine ⟨by unfold CDiv; omega, hN j _ _ (by omega) ⟨f, bit / 2, _, _, rfl, rfl, hbj, h1, ?_, by omega⟩⟩
            · rw [← hbit]
              exact Nat.lt_of_not_le fun h => hl (by have := key.mpr h; omega)
      · have hm : m = 0 := by
          rcases Nat.eq_zero_or_pos m with h | h
          · exact h
          · rw [if_neg (by omega)] at hbit
            have := Nat.two_pow_pos (m - 1)
            omega
        subst hm
        walk_at "w"
        have := rootN_is (by omega) h1 h2
        rw [this]
        exact q
end
abbrev s__law_ways : Stmt := top 15
theorem sc__law_ways : FnScope ["number", "found", "exponent", "base"] ["number"] (defScope s__law_ways) := ⟨rfl, rfl, rfl, by decide +kernel, rfl, by decide +kernel, by decide +kernel⟩
def sp__law_ways (K : PySem.W.Frag) : Sp := fun vs H Q _ => ∃ (n : Nat), vs = [.int (n : Int)] ∧ n < 2 ^ 134 ∧
  ∀ (p : Addr) (as : List Addr) (H' : Hp), H p = none → Same H H' → SqT K H' p (as.map V.ref) → PairsAt K H' as ((waysN n).map zz) → Q (.ref p) H'
section
variable {P : Program} {w : World} {K : PySem.W.Frag} {mg : PySem.Str → Option Value} {base : Heap}
theorem bi__law_ways {f : Addr} {fd : FuncData} (F : Fun K "_law_ways" "_law_ways" s__law_ways f fd) : Binds K fd ["number"] [] := F.binds (ps := ["number"]) fun _ _ _ _ _ _ us hl => match us, hl with | [_], _ => rfl
set_option maxHeartbeats 4000000 in
theorem ok__law_ways {f : Addr} {fd : FuncData} (F : Fun K "_law_ways" "_law_ways" s__law_ways f fd) (B : Bt mg)  (h__law_root : Fn P w K mg base CX0 1 "_law_root" ["number", "exponent"] (sp__law_root K)) (h__law_taken : Fn P w K mg base CX0 1 "_law_taken" ["base", "exponent"] (sp__law_taken K)) : FnOk P w K mg base CX0 2 f fd ["number"] (sp__law_ways K) := by
  refine F.ok sc__law_ways (fun vs H Q E h => ?_) (fun cdv A outer s H vs Q E hr h => ?_)
  · obtain ⟨n, rfl, hn, q⟩ := h
    rfl
  · obtain ⟨n, rfl, hn, q⟩ := h
    refine ⟨_, (pss_cons (ps_if (pt_cmpR op_eq (pv 0) pe_int (nomark _))
        (pss_one (ps_ret (pe_tup (pa_cons (pe_tup (pa_cons pe_int (pa_cons pe_int pa_nil))) pa_nil))))
        pss_nil)
      (pss_cons (ps_set (i := 1) sc__law_ways.nd rfl (Or.inl rfl) (pe_lst pa_nil))
      (pss_cons (ps_for PassesOwn.never rfl (pi_range2 rfl B.range (pa_cons pe_int (pa_cons (pe_op op_mul pe_int (pe_callTy call_int1 (by rfl) B.int (by decide +kernel) (pa_cons (pe_cmpR op_gt (pv 0) pe_int (nomark _)) pa_nil))) pa_nil))) (pg_name (i := 2) sc__law_ways.nd rfl (Or.inl rfl))
        (pss_one (ps_if (pt_cmpR op_le (pe_op op_shl pe_int (pv 2)) (pv 0) (nomark _))
          (pss_cons (ps_set (i := 3) sc__law_ways.nd rfl (Or.inl rfl) (pe_fn h__law_root (hr.mono (by decide)) (by rfl) (pa_cons (pv 0) (pa_cons (pv 2) pa_nil))))
          (pss_one (ps_if (pt_cmpR op_eq (pe_fn h__law_taken (hr.mono (by decide)) (by rfl) (pa_cons (pv 3) (pa_cons (pv 2) pa_nil))) (pv 0) (nomark _))
            (pss_one (ps_expr (pe_bm PySem.F.plainAttrs_list PySem.F.slot_list_append PySem.F.type_list_append mt_append (pv 1) (pa_cons (pe_tup (pa_cons (pv 3) (pa_cons (pv 2) pa_nil))) pa_nil))))
            pss_nil)))
          pss_nil)))
      (pss_one (ps_ret (pe_callTy (k_tuple K) (by rfl) B.tuple (by decide +kernel) (pa_cons (pv 1) pa_nil))))))), ?_⟩
    walk_at "w"
    refine ite2 (fun h1 => ?_) (fun h1 => ?_)
    · have h1 : n = 1 := by omega
      subst h1
      refine ⟨by show 2 ≤ sizeLine; decide, fun t ht => ⟨by show 1 ≤ sizeLine; decide, fun p hp => ?_⟩⟩
      refine q p [t] _ (upd_free hp) (sm_new (same_new ht) (upd_free hp)) (SqT.of upd_same) (PairsAt.snoc (as := []) (ps := []) (p := (1, 2)) PairsAt.nil (SqT.of ((upd_ne (ne_of_none upd_same hp)).trans upd_same)))
    · refine ⟨Nat.zero_le _, fun l hl => ?_⟩
      have hw : waysN n = (List.range (if 1 < n then 132 else 0)).filterMap (wayLow n) := by
        by_cases c : 1 < n
        · rw [if_pos c]
          exact ways_low c hn
        · rw [if_neg c]
          have : n = 0 := by omega
          subst this
          rfl
      have hc : ∃ z : Int, (if 1 < (n : Int) then (1 : Int) else 0) = z ∧ (z = 0 ∨ z = 1) ∧ ((134 : Int) * z - 2).toNat = if 1 < n then 132 else 0 := by
        by_cases c : 1 < n
        · exact ⟨1, by rw [if_pos (by omega)], .inr rfl, by rw [if_pos c]; rfl⟩
        · exact ⟨0, by rw [if_neg (by omega)], .inl rfl, by rw [if_neg c]; rfl⟩
      obtain ⟨z, ez, hz, hN⟩ := hc
      rw [ez, hN]
      have hk : (if 1 < n then 132 else 0) ≤ 132 := by split <;> omega
      have hgo : 0 < (if 1 < n then 132 else 0) → 2 ≤ n := fun h => by
        by_cases c : 1 < n
        · exact c
        · rw [if_neg c] at h
          omega
      generalize (if 1 < n then 132 else 0) = k0 at hw hk hgo ⊢
      refine ⟨by unfold CMul; omega, by omega, by omega, by omega, by omega, for_r (fun i σ H' => Same H H' ∧ ∃ (v2 v3 : Option V) (as : List Addr), σ = [some (.int (n : Int)), some (.ref l), v2, v3] ∧ H' l = some (.lst (as.map V.ref)) ∧ as.length ≤ i ∧ PairsAt K H' as (((List.range i).filterMap (wayLow n)).map zz)) ⟨same_new hl, _, _, [], rfl, upd_same, Nat.le_refl _, PairsAt.nil⟩ ?_ ?_⟩
      · rintro i σ H' hi ⟨s, v2, v3, as, rfl, hL, hlen, hP⟩ N hN2
        have hn2 := hgo (by omega)
        have ee : (2 : Int) + (i : Int) = ((i + 2 : Nat) : Int) := by omega
        have hstep : (List.range (i + 1)).filterMap (wayLow n) = (List.range i).filterMap (wayLow n) ++ (wayLow n i).toList := by
          rw [List.range_succ, List.filterMap_append]
          cases e : wayLow n i <;> simp [e]
        have nx : wayLow n i = none → ∀ v2 v3, N [some (.int (n : Int)), some (.ref l), v2, v3] H' := fun h v2 v3 => hN2 _ _ ⟨s, _, _, as, rfl, hL, by omega, by rw [hstep, h, Option.toList_none, List.append_nil]; exact hP⟩
        rw [ee]
        walk_at "w"
        rw [shl_one]
        refine ⟨by unfold CPow; omega, ite2 (fun hle => ?_) (fun hle => nx (by unfold wayLow; rw [if_neg (by omega)]) _ _)⟩
        have hle' : 2 ^ (i + 2) ≤ n := by omega
        refine ⟨n, i + 2, rfl, Nat.lt_trans hn (by decide), by omega, by omega, ?_⟩
        have hr0 : rootN n (i + 2) < 2 ^ 134 := Nat.lt_of_le_of_lt (Nat.le_trans (Nat.le_self_pow (by omega) _) (rootN_le (n := n) (e := i + 2) (by omega))) hn
        walk_at "w"
        refine ⟨rootN n (i + 2), i + 2, 134, rfl, hr0, by omega, by omega, ?_⟩
        walk_at "w"
        refine ite2 (fun hq => ?_) (fun hq => nx (by unfold wayLow wayAt; rw [if_pos hle', if_neg (by omega)]) _ _)
        have hs : wayLow n i = some (rootN n (i + 2), i + 2) := by unfold wayLow wayAt; rw [if_pos hle', if_pos (by omega)]
        refine ⟨ty_list (SqL.of hL), by show 2 ≤ sizeLine; decide, fun u hu => ?_⟩
        have nlu := ne_of_none hL hu
        refine r_app ((upd_ne nlu).trans hL) (size_le (by rw [List.length_map]; omega)) ?_
        refine hN2 _ _ ⟨fun b o hb => ?_, _, _, as ++ [u], rfl, by rw [upd_same]; simp, by rw [List.length_append]; show _ + 1 ≤ i + 1; omega, ?_⟩
        · rw [upd_ne (ne_of_none hb hl), upd_ne (ne_of_none (s _ _ hb) hu)]
          exact s _ _ hb
        · rw [hstep, hs, Option.toList_some, List.map_append]
          refine PairsAt.snoc ((hP.same (same_new hu)).upd ((upd_ne nlu).trans hL)) (sqT_upd (acc := as.map V.ref) (SqT.of ?_) ((upd_ne nlu).trans hL))
          rw [upd_same]
          simp [zz]
      · rintro σ H' ⟨s, v2, v3, as, rfl, hL, hlen, hP⟩
        rw [← hw] at hP
        walk_at "w"
        refine r_tupL (SqL.of hL) fun p hp => q p as _ (s.free hp) (sm_new s (s.free hp)) (SqT.of upd_same) (hP.same (same_new hp))
end
abbrev s__law_right : Stmt := top 16
theorem sc__law_right : FnScope ["number", "due", "found", "one", "told", "part"] ["number", "due"] (defScope s__law_right) := ⟨rfl, rfl, rfl, by decide +kernel, rfl, by decide +kernel, by decide +kernel⟩
def sp__law_right (K : PySem.W.Frag) : Sp := fun vs H Q _ => ∃ (n : Nat) (d : Addr) (ds : List Addr), vs = [.int (n : Int), .ref d] ∧ n < 2 ^ 134 ∧ SqT K H d (ds.map V.ref) ∧ PairsAt K H ds ((waysN n).map zz) ∧ ∀ H', Same H H' → Q (.bl true) H'
section
variable {P : Program} {w : World} {K : PySem.W.Frag} {mg : PySem.Str → Option Value} {base : Heap}
theorem bi__law_right {f : Addr} {fd : FuncData} (F : Fun K "_law_right" "_law_right" s__law_right f fd) : Binds K fd ["number", "due"] [] := F.binds (ps := ["number", "due"]) fun _ _ _ _ _ _ us hl => match us, hl with | [_, _], _ => rfl
set_option maxHeartbeats 4000000 in
theorem ok__law_right {f : Addr} {fd : FuncData} (F : Fun K "_law_right" "_law_right" s__law_right f fd) (B : Bt mg)  (h_ways_of : Fn P w K mg base CX0 3 "ways_of" ["number"] (sp_ways_of K)) (h_is_power : Fn P w K mg base CX0 4 "is_power" ["number"] (sp_is_power K)) : FnOk P w K mg base CX0 5 f fd ["number", "due"] (sp__law_right K) := by
  refine F.ok sc__law_right (fun vs H Q E h => ?_) (fun cdv A outer s H vs Q E hr h => ?_)
  · obtain ⟨n, d, ds, rfl, hn, hD, hP, q⟩ := h
    rfl
  · obtain ⟨n, d, ds, rfl, hn, hD, hP, q⟩ := h
    refine ⟨_, (pss_cons (ps_set (i := 2) sc__law_right.nd rfl (Or.inl rfl) (pe_fn h_ways_of (hr.mono (by decide)) (by rfl) (pa_cons (pv 0) pa_nil)))
      (pss_cons (ps_if (PW.pt (pw_or (pt_not (pt_val (pe_callB (k_isi K) (by rfl) B.isinstance (by decide +kernel) (pa_cons (pv 2) (pa_cons (pe_bltn (v := .ty "tuple") (u := .type "tuple") (by rfl) B.tuple (by decide +kernel) rfl) pa_nil))))) (pw_or1 (pt_cmpR (k_neD K rfl hr.units) (pv 2) (pv 1) (nomark _)))))
        (pss_one (ps_ret pe_bl))
        pss_nil)
      (pss_cons (ps_for PassesOwn.never rfl (pi_tup (pv 2)) (pg_name (i := 3) sc__law_right.nd rfl (Or.inl rfl))
        (pss_one (ps_if (PW.pt (pw_or (pt_not (pt_val (pe_callB (k_isi K) (by rfl) B.isinstance (by decide +kernel) (pa_cons (pv 3) (pa_cons (pe_bltn (v := .ty "tuple") (u := .type "tuple") (by rfl) B.tuple (by decide +kernel) rfl) pa_nil))))) (pw_or1 (pt_cmpR (k_neD K rfl hr.units) (pe_lc (own := [("part", 5)]) (g := gName 5) rfl sc__law_right.nd (pi_tup (pv 3)) (blkOk_by (own := [("part", 5)]) (N := ["number", "due", "found", "one", "told", "part"]) (sc := defScope s__law_right) (by decide +kernel)) (fun _ _ _ _ _ => (pg_name (i := 5) sc__law_right.nd rfl (Or.inl rfl))) (fun _ _ _ _ _ => (pts_one (pt_val (pe_callB (k_isi K) (by rfl) B.isinstance (by decide +kernel) (pa_cons (pv 5) (pa_cons (pe_bltn (v := .ty "bool") (u := .type "bool") (by rfl) B.bool (by decide +kernel) rfl) pa_nil)))))) (fun _ _ _ _ _ => (pv 5))) (pe_lst pa_nil) (nomark _)))))
          (pss_one (ps_ret pe_bl))
          pss_nil)))
      (pss_cons (ps_set (i := 4) sc__law_right.nd rfl (Or.inl rfl) (pe_fn h_is_power (hr.mono (by decide)) (by rfl) (pa_cons (pv 0) pa_nil)))
      (pss_one (ps_ret (pe_and (pe_callB (k_isi K) (by rfl) B.isinstance (by decide +kernel) (pa_cons (pv 4) (pa_cons (pe_bltn (v := .ty "bool") (u := .type "bool") (by rfl) B.bool (by decide +kernel) rfl) pa_nil))) (pe_one (pe_cmpR op_eq (pv 4) (pe_cmpR (k_neD K rfl hr.units) (pv 1) (pe_tup pa_nil) (nomark _)) (nomark _)))))))))), ?_⟩
    walk_at "w"
    refine ⟨n, 134, rfl, hn, by omega, fun p as H1 hp s1 hT1 hP1 => ?_⟩
    walk_at "w"
    refine r_isi (ty_tup hT1) (c := true) (by decide +kernel) ?_
    walk_at "w"
    refine r_neTP (ns := (waysN n).map zz) (ms := (waysN n).map zz) hT1 hP1 (same_seqT s1 hD) (hP.same s1) ?_
    rw [decide_eq_true rfl]
    walk_at "w"
    refine ⟨⟨_, hT1⟩, for_t (xs := as.map V.ref) (fun i σ H' => Same H1 H' ∧ ∃ v3 : Option V, σ = [some (.int (n : Int)), some (.ref d), some (.ref p), v3, none, none]) ⟨Same.refl _, _, rfl⟩ (fun i σ H' _ h => same_seqT h.1 hT1) ?_ ?_⟩
    · rintro i x σ H2 hx ⟨s2, v3, rfl⟩ N hN
      obtain ⟨c, z, rfl, hz, hc⟩ := (hP1.same s2).at hx
      walk_at "w"
      refine r_isi (ty_tup hc) (c := true) (by decide +kernel) ?_
      walk_at "w"
      refine ⟨⟨_, hc⟩, lc_t (fun _ => none) hc (by show 2 < sizeLine; decide) ?_ ?_⟩
      · intro j x2 H3 hx2 s3 N0 N1 h0 h1
        walk_at "w"
        have hi : ∃ i : Int, x2 = .int i := by
          have hm := List.mem_of_getElem? hx2
          simp only [List.mem_cons, List.not_mem_nil, or_false] at hm
          rcases hm with rfl | rfl <;> exact ⟨_, rfl⟩
        obtain ⟨i2, rfl⟩ := hi
        refine r_isi (ty_int _) (c := false) (by decide +kernel) ?_
        walk_at "w"
        exact h0 rfl _ (Same.refl _)
      · intro D H3 hD3 s3 hD4
        have hD5 : H3 D = some (.lst (([] : List Int).map V.int)) := by
          rw [hD4]
          rfl
        walk_at "w"
        refine ⟨Nat.zero_le _, fun u hu => ?_⟩
        refine r_neL (ns := []) (ms := []) (SqL.of ((upd_ne (ne_of_none hD5 hu)).trans hD5)) (SqL.of upd_same) ?_
        rw [decide_eq_true rfl]
        walk_at "w"
        exact hN _ _ ⟨s2.trans (s3.trans (same_new hu)), _, rfl⟩
    · rintro σ H2 ⟨s2, v3, rfl⟩
      walk_at "w"
      refine ⟨n, 134, rfl, hn, by omega, fun b H3 s3 hb => ?_⟩
      walk_at "w"
      refine r_isi (ty_bl _) (c := true) (by decide +kernel) ?_
      walk_at "w"
      refine ⟨Nat.zero_le _, fun t ht => ?_⟩
      have sall : Same H H3 := s1.trans (s2.trans s3)
      refine r_neTP (as := ds) (bs := []) (ns := (waysN n).map zz) (ms := []) (same_seqT (same_new ht) (same_seqT sall hD)) ((hP.same sall).same (same_new ht)) (SqT.of upd_same) PairsAt.nil ?_
      have h1 : (waysN n).map zz = [] ↔ ¬ IsPow n := by rw [List.map_eq_nil_iff]; exact waysN_none
      have hb2 : b = !decide ((waysN n).map zz = []) := by
        by_cases c : IsPow n
        · rw [hb.mpr c, decide_eq_false fun z => h1.mp z c]
          rfl
        · rw [decide_eq_true (h1.mpr c)]
          cases b with
          | true => exact absurd (hb.mp rfl) c
          | false => rfl
      rw [hb2]
      walk_at "w"
      exact q _ (sall.trans (same_new ht))
end
abbrev s_law : Stmt := top 17
theorem sc_law : FnScope ["script", "deck", "k", "numbers", "number", "dues", "start", "here", "base", "power", "exponent", "due"] ["script"] (defScope s_law) := ⟨rfl, rfl, rfl, by decide +kernel, rfl, by decide +kernel, by decide +kernel⟩
def sp_law (K : PySem.W.Frag) : Sp := fun vs H Q _ => ∃ (a : Addr) (ns : List Int), vs = [.ref a] ∧ SqL K H a (ns.map V.int) ∧ ns.length ≤ 63 ∧ ∀ H', Q (.bl true) H'
/-- the dues made so far -/
def DueW (K : PySem.W.Frag) (H : Hp) (xs acc : List V) : Prop := ∀ (j : Nat) (y : V), acc[j]? = some y → ∃ (p : Addr) (z : Nat) (as : List Addr), y = .ref p ∧ xs[j]? = some (.int (z : Int)) ∧ SqT K H p (as.map V.ref) ∧ PairsAt K H as ((waysN z).map zz)
theorem DueW.same {K : PySem.W.Frag} {H H' : Hp} {xs acc : List V} (h : DueW K H xs acc) (s : Same H H') : DueW K H' xs acc := fun j y hy => by
  obtain ⟨p, z, as, h1, h2, h3, h4⟩ := h j y hy
  exact ⟨p, z, as, h1, h2, same_seqT s h3, h4.same s⟩
/-- tuples of pairs that are new stand at these -/
def PrsH (H : Hp) (cs : List Addr) (ps : List (Int × Int)) : Prop := cs.length = ps.length ∧ ∀ (i : Nat) (c : Addr) (p : Int × Int), cs[i]? = some c → ps[i]? = some p → H c = some (.tup [.int p.1, .int p.2])
theorem PrsH.snoc {H : Hp} {cs : List Addr} {ps : List (Int × Int)} {c : Addr} {p : Int × Int} (h : PrsH H cs ps) (hc : H c = some (.tup [.int p.1, .int p.2])) : PrsH H (cs ++ [c]) (ps ++ [p]) := by
  refine ⟨by simp [h.1], fun i b q h1 h2 => ?_⟩
  rcases Nat.lt_or_ge i cs.length with z | z
  · rw [List.getElem?_append_left z] at h1
    rw [List.getElem?_append_left (by rw [← h.1]; exact z)] at h2
    exact h.2 i b q h1 h2
  · rw [List.getElem?_append_right z] at h1
    rw [List.getElem?_append_right (by rw [← h.1]; exact z)] at h2
    have e1 : i - cs.length = 0 := by
      have := (List.getElem?_eq_some_iff.mp h1).1
      simp at this
      omega
    rw [← h.1, e1] at h2
    rw [e1] at h1
    simp at h1 h2
    subst h1 h2
    exact hc
theorem PrsH.tups {H H' : Hp} {cs : List Addr} {ps : List (Int × Int)} (h : PrsH H cs ps) (k : ∀ c xs, H c = some (.tup xs) → H' c = some (.tup xs)) : PrsH H' cs ps := ⟨h.1, fun i c p h1 h2 => k _ _ (h.2 i c p h1 h2)⟩
/-- the rows by powers -/
structure HereAt (H : Hp) (d : Addr) (W : Nat → List (Int × Int)) (N : Nat) : Prop where
  ex : ∃ (ks : List Nat) (adr : Nat → Addr) (cs : Nat → List Addr), H d = some (.dK (dN ks fun k => .ref (adr k))) ∧ ks.Nodup ∧ (∀ k ∈ ks, k < N ∧ H (adr k) = some (.tup ((cs k).map V.ref)) ∧ PrsH H (cs k) (W k)) ∧ ∀ k, k ∉ ks → W k = []
theorem HereAt.same {H H' : Hp} {d : Addr} {W : Nat → List (Int × Int)} {N : Nat} (h : HereAt H d W N) (s : Same H H') : HereAt H' d W N := by
  obtain ⟨ks, adr, cs, h1, h2, h3, h4⟩ := h.ex
  exact ⟨ks, adr, cs, s _ _ h1, h2, fun k hk => ⟨(h3 k hk).1, s _ _ (h3 k hk).2.1, (h3 k hk).2.2.tups fun c xs h => s _ _ h⟩, h4⟩
theorem nodup_lt : ∀ {N : Nat} {ks : List Nat}, ks.Nodup → (∀ k ∈ ks, k < N) → ks.length ≤ N := fun {N ks} h1 h2 => by
  have h3 := List.Nodup.length_le_of_subset (l₂ := List.range N) h1 fun x hx => List.mem_range.mpr (h2 x hx)
  rwa [List.length_range] at h3
/-- which pair stands at it -/
def kAt (H : Hp) : V → Int × Int
  | .ref t => match H t with
    | some (.tup [.int i, .int j]) => (i, j)
    | _ => (0, 0)
  | _ => (0, 0)
theorem kAt_of {H : Hp} {t : Addr} {i j : Int} (h : H t = some (.tup [.int i, .int j])) : kAt H (.ref t) = (i, j) := by
  unfold kAt
  simp only [h]
theorem kAt_map {H : Hp} {cs : List Addr} {ps : List (Int × Int)} (h : PrsH H cs ps) : (cs.map V.ref).map (kAt H) = ps := by
  refine List.ext_getElem? fun i => ?_
  rw [List.getElem?_map, List.getElem?_map]
  cases e : cs[i]? with
  | none =>
    have : ps[i]? = none := by
      rw [List.getElem?_eq_none_iff] at e ⊢
      rw [← h.1]
      exact e
    rw [this]
    rfl
  | some c =>
    have hi : i < ps.length := by
      rw [← h.1]
      exact (List.getElem?_eq_some_iff.mp e).1
    rw [List.getElem?_eq_getElem hi]
    show some (kAt H (.ref c)) = some ps[i]
    rw [kAt_of (h.2 i c _ e (List.getElem?_eq_getElem hi))]
/-- what the dict tells of k -/
theorem HereAt.get {H : Hp} {d : Addr} {W : Nat → List (Int × Int)} {N : Nat} (h : HereAt H d W N) (k : Nat) : ∃ o, DGet H d (.int (k : Int)) o ∧ ((o = none ∧ W k = []) ∨ ∃ (r : Addr) (cs : List Addr), o = some (.ref r) ∧ H r = some (.tup (cs.map V.ref)) ∧ PrsH H cs (W k)) := by
  obtain ⟨ks, adr, cs, h1, h2, h3, h4⟩ := h.ex
  refine ⟨_, dN_get (m := k) h1, ?_⟩
  by_cases c : k ∈ ks
  · rw [if_pos c]
    exact .inr ⟨adr k, cs k, rfl, (h3 k c).2.1, (h3 k c).2.2⟩
  · rw [if_neg c]
    exact .inl ⟨rfl, h4 k c⟩
theorem HereAt.isD {H : Hp} {d : Addr} {W : Nat → List (Int × Int)} {N : Nat} (h : HereAt H d W N) : IsD H d := by
  obtain ⟨ks, adr, cs, h1, _⟩ := h.ex
  exact .inl ⟨_, .inl h1⟩
/-- a row more, or one told anew -/
theorem HereAt.put {H : Hp} {d : Addr} {W : Nat → List (Int × Int)} {N : Nat} (h : HereAt H d W N) {k : Nat} (hk : k < N) (hN : N ≤ 1000000) {r : Addr} {nc : List Addr} {np : List (Int × Int)} (hr : H r = some (.tup (nc.map V.ref))) (hp : PrsH H nc np) :
    ∃ H', DPut H d (.int (k : Int)) (.ref r) H' ∧ HereAt H' d (fun k' => if k' = k then np else W k') N := by
  obtain ⟨ks, adr, cs, h1, h2, h3, h4⟩ := h.ex
  have hl := nodup_lt h2 fun k hk => (h3 k hk).1
  have put := dN_upd (m := k) (v := .ref r) h1 (size_le (by omega))
  obtain ⟨g1, g2, g3⟩ := put_nodup (x := k) h2
  have ef : (fun k' => if k' = k then V.ref r else .ref (adr k')) = fun k' => .ref (if k' = k then r else adr k') := by
    funext k'
    split <;> rfl
  rw [ef] at put
  have tup : ∀ c xs, H c = some (.tup xs) → (upd H d (.dK (dN (if k ∈ ks then ks else ks ++ [k]) fun k' => .ref (if k' = k then r else adr k')))) c = some (.tup xs) := fun c xs hc => (upd_ne (ne_of hc h1 fun e => by cases e)).trans hc
  refine ⟨_, put, ⟨_, fun k' => if k' = k then r else adr k', fun k' => if k' = k then nc else cs k', upd_same, g1, fun k' hk' => ?_, fun k' hk' => ?_⟩⟩
  · by_cases c : k' = k
    · simp only [if_pos c]
      exact ⟨by omega, tup _ _ hr, hp.tups tup⟩
    · simp only [if_neg c]
      have hm : k' ∈ ks := ((g2 k').mp hk').elim id fun z => absurd z c
      exact ⟨(h3 k' hm).1, tup _ _ (h3 k' hm).2.1, (h3 k' hm).2.2.tups tup⟩
  · have c : k' ≠ k := fun z => hk' ((g2 k').mpr (.inr z))
    simp only [if_neg c]
    exact h4 k' fun z => hk' ((g2 k').mpr (.inl z))
theorem Wok.len {M b e k : Nat} {W : Nat → List (Int × Int)} (h : Wok M b e W) (hb : b ≤ 60) (hM : M ≤ 4000) : (W k).length ≤ 4096 := by
  obtain ⟨h1, h2⟩ := h k
  have h3 := List.Nodup.length_le_of_subset (l₂ := (List.range 64).flatMap fun e : Nat => (List.range 64).map fun b : Nat => ((e : Int), (b : Int))) h2 fun p hp => by
    obtain ⟨e', b', g1, g2, g3, g4, g5, g6⟩ := (h1 p).mp hp
    have g7 : 2 ^ e' ≤ b' ^ e' := Nat.pow_le_pow_left g4 e'
    have g8 : 2 ^ e' < 2 ^ 12 := by
      have : (2 : Nat) ^ 12 = 4096 := by decide
      omega
    have g9 := (Nat.pow_lt_pow_iff_right (by omega : 1 < 2)).mp g8
    exact List.mem_flatMap.mpr ⟨e', List.mem_range.mpr (by omega), List.mem_map.mpr ⟨b', List.mem_range.mpr (by omega), g1.symm⟩⟩
  have h4 : ((List.range 64).flatMap fun e : Nat => (List.range 64).map fun b : Nat => ((e : Int), (b : Int))).length = 4096 := by
    rw [List.length_flatMap]
    simp only [List.length_map, List.length_range]
    decide
  omega
theorem ways_64 : waysN 64 = [(8, 2), (4, 3), (2, 6)] := by decide +kernel
section
variable {P : Program} {w : World} {K : PySem.W.Frag} {mg : PySem.Str → Option Value} {base : Heap}
theorem bi_law {f : Addr} {fd : FuncData} (F : Fun K "law" "law" s_law f fd) : Binds K fd ["script"] [] := F.binds (ps := ["script"]) fun _ _ _ _ _ _ us hl => match us, hl with | [_], _ => rfl
set_option maxHeartbeats 4000000 in
theorem ok_law {f : Addr} {fd : FuncData} (F : Fun K "law" "law" s_law f fd) (B : Bt mg)  (h__law_deck : Fn P w K mg base CX0 1 "_law_deck" ["script"] (sp__law_deck K)) (h__law_number : Fn P w K mg base CX0 5 "_law_number" ["deck", "most"] (sp__law_number K)) (h__law_ways : Fn P w K mg base CX0 2 "_law_ways" ["number"] (sp__law_ways K)) (h__law_right : Fn P w K mg base CX0 5 "_law_right" ["number", "due"] (sp__law_right K)) (h__law_next : Fn P w K mg base CX0 2 "_law_next" ["deck", "many"] (sp__law_next K)) (h_ways_of : Fn P w K mg base CX0 3 "ways_of" ["number"] (sp_ways_of K)) (h_is_power : Fn P w K mg base CX0 4 "is_power" ["number"] (sp_is_power K)) : FnOk P w K mg base CX0 6 f fd ["script"] (sp_law K) := by
  refine F.ok sc_law (fun vs H Q E h => ?_) (fun cdv A outer s H vs Q E hr h => ?_)
  · obtain ⟨a, ns, rfl, hS, hlen, q⟩ := h
    rfl
  · obtain ⟨a, ns, rfl, hS, hlen, q⟩ := h
    refine ⟨_, (pss_cons (ps_set (i := 1) sc_law.nd rfl (Or.inr rfl) (pe_fn h__law_deck (hr.mono (by decide)) (by rfl) (pa_cons (pv 0) pa_nil)))
      (pss_cons (ps_setLc (i := 3) (own := [("k", 2)]) (g := gName 2) (tt := tYes) rfl sc_law.nd rfl rfl (sw_true rfl rfl rfl (by decide +kernel)) (pi_range1 rfl B.range (pa_cons pe_int pa_nil)) (blkOk_by (own := [("k", 2)]) (N := ["script", "deck", "k", "numbers", "number", "dues", "start", "here", "base", "power", "exponent", "due"]) (sc := defScope s_law) (by decide +kernel)) (fun _ _ _ _ _ => (pg_name (i := 2) sc_law.nd rfl (Or.inl rfl))) (fun _ _ _ _ _ => pts_nil) (fun _ _ _ _ _ => (pe_fn h__law_number (hr.mono (by decide)) (by rfl) (pa_cons (pv 1) (pa_cons (pe_op op_pow pe_int pe_int) pa_nil)))))
      (pss_cons (ps_setLc (i := 5) (own := [("number", 4)]) (g := gName 4) (tt := tYes) rfl sc_law.nd rfl rfl (sw_true rfl rfl rfl (by decide +kernel)) (pi_list (pv 3)) (blkOk_by (own := [("number", 4)]) (N := ["script", "deck", "k", "numbers", "number", "dues", "start", "here", "base", "power", "exponent", "due"]) (sc := defScope s_law) (by decide +kernel)) (fun _ _ _ _ _ => (pg_name (i := 4) sc_law.nd rfl (Or.inl rfl))) (fun _ _ _ _ _ => pts_nil) (fun _ _ _ _ _ => (pe_fn h__law_ways (hr.mono (by decide)) (by rfl) (pa_cons (pv 4) pa_nil))))
      (pss_cons (ps_for PassesOwn.never rfl (pi_list (pe_lst (pa_cons pe_int (pa_cons pe_int (pa_cons pe_int (pa_cons pe_int (pa_cons pe_int (pa_cons pe_int (pa_cons pe_int (pa_cons pe_int (pa_cons pe_int (pa_cons pe_int pa_nil)))))))))))) (pg_name (i := 2) sc_law.nd rfl (Or.inl rfl))
        (pss_one (ps_if (pt_not (pt_tru K (pe_fn h__law_right (hr.mono (by decide)) (by rfl) (pa_cons (pe_ix (k_ixL K) (pv 3) (pv 2) (fun _ _ => rfl)) (pa_cons (pe_ix (k_ixL K) (pv 5) (pv 2) (fun _ _ => rfl)) pa_nil)))))
          (pss_one (ps_ret pe_bl))
          pss_nil)))
      (pss_cons (ps_set (i := 6) sc_law.nd rfl (Or.inl rfl) (pe_fn h__law_next (hr.mono (by decide)) (by rfl) (pa_cons (pv 1) (pa_cons pe_int pa_nil))))
      (pss_cons (ps_set (i := 7) sc_law.nd rfl (Or.inl rfl) pe_dnewK)
      (pss_cons (ps_for PassesOwn.never rfl (pi_range2 rfl B.range (pa_cons pe_int (pa_cons pe_int pa_nil))) (pg_name (i := 8) sc_law.nd rfl (Or.inl rfl))
        (pss_cons (ps_set (i := 9) sc_law.nd rfl (Or.inl rfl) (pe_op op_mulW (pv 8) (pv 8)))
        (pss_cons (ps_set (i := 10) sc_law.nd rfl (Or.inl rfl) pe_int)
        (pss_one (ps_while PassesOwn.never (pt_cmpR op_lt (pv 9) (pe_op op_add (pv 6) pe_int) (nomark _))
          (pss_cons (ps_dput (hu_of hr) (pv 7) (pv 9) (pe_op (k_catT K) (pe_dget2 (hu_of hr) (pv 7) (pv 9) (pe_tup pa_nil) (by constructor <;> rfl)) (pe_tup (pa_cons (pe_tup (pa_cons (pv 10) (pa_cons (pv 8) pa_nil))) pa_nil))) rfl)
          (pss_cons (ps_set (i := 9) sc_law.nd rfl (Or.inl rfl) (pe_op op_mulW (pv 9) (pv 8)))
          (pss_one (ps_set (i := 10) sc_law.nd rfl (Or.inl rfl) (pe_op op_add (pv 10) pe_int))))))))))
      (pss_cons (ps_for PassesOwn.never rfl (pi_range2 rfl B.range (pa_cons (pe_callB (call_max2 rfl) (by rfl) B.max (by decide +kernel) (pa_cons pe_int (pa_cons (pv 6) pa_nil))) (pa_cons (pe_op op_add (pv 6) pe_int) pa_nil))) (pg_name (i := 4) sc_law.nd rfl (Or.inl rfl))
        (pss_cons (ps_set (i := 11) sc_law.nd rfl (Or.inl rfl) (pe_callTy (k_tuple K) (by rfl) B.tuple (by decide +kernel) (pa_cons (pe_lc (own := [("exponent", 10), ("base", 8)]) (g := gTup K 2 (gCons (gName 10) (gCons (gName 8) gNil))) (tt := tYes) rfl sc_law.nd (pi_list (pe_callB (TupU.cr_sortT K) (by rfl) B.sorted (by decide +kernel) (pa_cons (pe_dget2 (hu_of hr) (pv 7) (pv 4) (pe_tup pa_nil) (by constructor <;> rfl)) pa_nil))) (blkOk_by (own := [("exponent", 10), ("base", 8)]) (N := ["script", "deck", "k", "numbers", "number", "dues", "start", "here", "base", "power", "exponent", "due"]) (sc := defScope s_law) (by decide +kernel)) (fun _ _ _ _ _ => (pg_tup rfl (pgs_cons (pg_name (i := 10) sc_law.nd rfl (Or.inl rfl)) (pgs_cons (pg_name (i := 8) sc_law.nd rfl (Or.inl rfl)) pgs_nil)))) (fun _ _ _ _ _ => pts_nil) (fun _ _ _ _ _ => (pe_tup (pa_cons (pv 8) (pa_cons (pv 10) pa_nil))))) pa_nil)))
        (pss_one (ps_if (pt_not (pt_tru K (pe_fn h__law_right (hr.mono (by decide)) (by rfl) (pa_cons (pv 4) (pa_cons (pv 11) pa_nil)))))
          (pss_one (ps_ret pe_bl))
          pss_nil))))
      (pss_one (ps_ret (pe_and (pe_cmpR (k_eqD K rfl hr.units) (pe_fn h_ways_of (hr.mono (by decide)) (by rfl) (pa_cons pe_int pa_nil)) (pe_tup (pa_cons (pe_tup (pa_cons pe_int (pa_cons pe_int pa_nil))) (pa_cons (pe_tup (pa_cons pe_int (pa_cons pe_int pa_nil))) (pa_cons (pe_tup (pa_cons pe_int (pa_cons pe_int pa_nil))) pa_nil)))) (nomark _)) (pe_and (pe_cmpR (k_eqD K rfl hr.units) (pe_fn h_ways_of (hr.mono (by decide)) (by rfl) (pa_cons pe_int pa_nil)) (pe_tup pa_nil) (nomark _)) (pe_one (pe_cmpR op_isBl (pe_fn h_is_power (hr.mono (by decide)) (by rfl) (pa_cons pe_int pa_nil)) pe_bl (nomark _))))))))))))))), ?_⟩
    have e40 : (10 : Int) ^ Int.toNat 40 = ((10 ^ 40 : Nat) : Int) := rfl
    have c40 : CPow 10 40 := by unfold CPow; omega
    have h134 : (10 : Nat) ^ 40 < 2 ^ 134 := by decide
    walk_at "d"
    refine ⟨a, ns, rfl, hS, fun d l H1 nd s1 d1 => ?_⟩
    walk_at "d"
    refine ⟨by decide, by decide, lc_rI (fun i acc H' => Kp d H1 H' ∧ Dk H' d l (42 * i) ∧ acc.length = i ∧ ∀ x ∈ acc, ∃ z : Nat, x = .int (z : Int) ∧ z < 2 ^ 134) (fun D hD => ⟨sm_kp (same_new hD), d1.same (same_new hD), rfl, fun _ h => by cases h⟩) ?_ ?_⟩
    · rintro i acc D H' hi hD hacc ⟨k, dk, hl, hall⟩ N0 N1 h0 h1
      have hi : i < 8 := hi
      walk_at "d"
      rw [e40]
      refine ⟨c40, use_number (Kp.refl _ _) dk (by omega) (by omega) (by decide) fun n H2 k2 _ d2 n0 n1 => ?_⟩
      refine h1 _ _ (k2 _ _ (d1.ne hD) hacc) (Nat.lt_of_le_of_lt (show acc.length ≤ 10 by omega) (by decide)) ⟨(k.trans k2).new hD, (d2.mono (by omega)).upd (d1.ne hD) (d1.neL hD), by simp [hl], fun x hx => ?_⟩
      rcases List.mem_append.mp hx with hx | hx
      · exact hall x hx
      · simp only [List.mem_cons, List.not_mem_nil, or_false] at hx
        subst hx
        obtain ⟨z, rfl⟩ := Int.eq_ofNat_of_zero_le n0
        exact ⟨z, rfl, by omega⟩
    · rintro u xs H2 hu hU ⟨k, dk, hlx, hxs⟩
      have hlx : xs.length = 8 := hlx
      have nud := d1.ne hu
      walk_at "d"
      refine ⟨⟨_, SqL.of hU⟩, lc_lI (xs := xs) (fun i acc H' => Same H2 H' ∧ acc.length = i ∧ DueW K H' xs acc) (fun D hD => ⟨same_new hD, rfl, fun j y h => by simp at h⟩) (fun i acc H' _ h => SqL.of (h.1 _ _ hU)) ?_ ?_⟩
      · rintro i x ac D2 H' hx hD2 hacc2 ⟨sU, hl', hdue⟩ N0 N1 h0 h1
        obtain ⟨z, rfl, hz⟩ := hxs x (List.mem_of_getElem? hx)
        walk_at "d"
        refine ⟨z, rfl, hz, fun p as H6 hp s6 h6 p6 => ?_⟩
        have hi8 : i < 8 := by
          have := (List.getElem?_eq_some_iff.mp hx).1
          omega
        have hac6 := s6 _ _ hacc2
        refine h1 _ _ hac6 (Nat.lt_of_le_of_lt (show ac.length ≤ 10 by omega) (by decide)) ⟨fun b o hb => ?_, by simp [hl'], fun j y hy => ?_⟩
        · rw [upd_ne (ne_of_none hb hD2)]
          exact s6 _ _ (sU _ _ hb)
        · rcases Nat.lt_or_ge j ac.length with c | c
          · rw [List.getElem?_append_left c] at hy
            obtain ⟨p', z', as', e1, e2, e3, e4⟩ := hdue.same s6 j y hy
            exact ⟨p', z', as', e1, e2, sqT_upd e3 hac6, e4.upd hac6⟩
          · rw [List.getElem?_append_right c] at hy
            have hj : j - ac.length = 0 := by
              have := (List.getElem?_eq_some_iff.mp hy).1
              simp at this
              omega
            rw [hj] at hy
            simp at hy
            subst hy
            have : j = i := by omega
            subst this
            exact ⟨p, z, as, rfl, hx, sqT_upd h6 hac6, p6.upd hac6⟩
      · rintro D2 ac H6 hD2 hac ⟨sU, hl', hdue⟩
        have hl' : ac.length = 8 := by rw [hl', hlx]
        walk_at "d"
        refine ⟨by show 10 ≤ sizeLine; decide, fun t2 ht2 => ?_⟩
        have sT := same_new (o := .lst [.int 0, .int 1, .int 2, .int 3, .int 4, .int 5, .int 6, .int 7, .int 0, .int 3]) ht2
        refine ⟨⟨_, SqL.of upd_same⟩, for_l (xs := [.int 0, .int 1, .int 2, .int 3, .int 4, .int 5, .int 6, .int 7, .int 0, .int 3]) (fun i σ H' => ∃ v2 v4, σ = [some (.ref a), some (.ref d), v2, some (.ref u), v4, some (.ref D2), none, none, none, none, none, none] ∧ Same (upd H6 t2 (.lst [.int 0, .int 1, .int 2, .int 3, .int 4, .int 5, .int 6, .int 7, .int 0, .int 3])) H') ⟨_, _, rfl, Same.refl _⟩ ?_ ?_ ?_⟩
        · rintro i σ H' _ ⟨v2, v5, rfl, s8⟩
          exact SqL.of (s8 _ _ upd_same)
        · rintro i x σ H' hx ⟨v2, v4, rfl, s8⟩ N hN
          obtain ⟨j, rfl, hj⟩ : ∃ j : Nat, x = .int (j : Int) ∧ j < 8 := by
            have hm := List.mem_of_getElem? hx
            simp only [List.mem_cons, List.not_mem_nil, or_false] at hm
            rcases hm with rfl | rfl | rfl | rfl | rfl | rfl | rfl | rfl | rfl | rfl
            · exact ⟨0, rfl, by decide⟩
            · exact ⟨1, rfl, by decide⟩
            · exact ⟨2, rfl, by decide⟩
            · exact ⟨3, rfl, by decide⟩
            · exact ⟨4, rfl, by decide⟩
            · exact ⟨5, rfl, by decide⟩
            · exact ⟨6, rfl, by decide⟩
            · exact ⟨7, rfl, by decide⟩
            · exact ⟨0, rfl, by decide⟩
            · exact ⟨3, rfl, by decide⟩
          have hjx : ac[j]? = some (ac[j]'(by omega)) := List.getElem?_eq_getElem _
          obtain ⟨p, z, as, e1, e2, e3, e4⟩ := hdue j _ hjx
          rw [e1] at hjx
          obtain ⟨z', ez, hz⟩ := hxs _ (List.mem_of_getElem? e2)
          cases ez
          have s68 := sT.trans s8
          walk_at "d"
          refine r_ixL (SqL.of (s68 _ _ (sU _ _ hU))) (atI_nat e2) ?_
          refine r_ixL (SqL.of (s68 _ _ hac)) (atI_nat hjx) ?_
          refine ⟨z, p, as, rfl, hz, same_seqT s68 e3, e4.same s68, fun H9 s11 => ⟨true, rfl, ?_⟩⟩
          walk_at "d"
          exact hN _ _ ⟨_, _, rfl, s8.trans s11⟩
        · rintro σ H7 ⟨v2, v4, rfl, s7⟩
          have s27 := sU.trans (sT.trans s7)
          have d7 := dk.same s27
          walk_at "d"
          refine use_next (Kp.refl _ _) d7 (by omega) (by omega) (by omega) fun st H8 k8 _ d8 a8 b8 => ?_
          obtain ⟨st, rfl⟩ := Int.eq_ofNat_of_zero_le a8
          have hst : st < 3000 := by omega
          walk_at "d"
          intro hd hhd
          have h0 : HereAt (upd H8 hd (.dK [])) hd (fun _ => []) (st + 40) := ⟨[], fun _ => 0, fun _ => [], upd_same, List.nodup_nil, fun k hk => (by cases hk), fun _ _ => rfl⟩
          generalize upd H8 hd (.dK []) = H9 at h0 ⊢
          refine ⟨by omega, by omega, by omega, by omega, ?_⟩
          refine for_r (fun i σ H' => ∃ (v8 v9 v10 : Option V) (W : Nat → List (Int × Int)), σ = [some (.ref a), some (.ref d), v2, some (.ref u), v4, some (.ref D2), some (.int (st : Int)), some (.ref hd), v8, v9, v10, none] ∧ HereAt H' hd W (st + 40) ∧ Wok (st + 40) (2 + i) 2 W) ⟨_, _, _, _, rfl, h0, wok_0 _⟩ ?_ ?_
          · rintro i σ H10 hi ⟨v8, v9, v10, W, rfl, hH, hW⟩ N hN
            have hi : i < 58 := hi
            have eb : (2 : Int) + (i : Int) = ((2 + i : Nat) : Int) := by omega
            have hb : 2 ≤ 2 + i ∧ 2 + i < 60 := by omega
            have hN' : ∀ σ' H', (∃ (v8 v9 v10 : Option V) (W : Nat → List (Int × Int)), σ' = [some (.ref a), some (.ref d), v2, some (.ref u), v4, some (.ref D2), some (.int (st : Int)), some (.ref hd), v8, v9, v10, none] ∧ HereAt H' hd W (st + 40) ∧ Wok (st + 40) (2 + i + 1) 2 W) → N σ' H' := hN
            clear hN
            rw [eb]
            generalize 2 + i = b at hb hW hN' ⊢
            have e2 : (b : Int) * (b : Int) = ((b ^ 2 : Nat) : Int) := by
              rw [Nat.pow_two]
              push_cast
              rfl
            walk_at "d"
            rw [e2]
            refine ⟨wide_mul (a := 64) (b := 64) (by omega) (by omega) (by decide) (by decide) (by decide), ?_⟩
            refine while_m (fun m σ H' => ∃ (e : Nat) (W : Nat → List (Int × Int)), σ = [some (.ref a), some (.ref d), v2, some (.ref u), v4, some (.ref D2), some (.int (st : Int)), some (.ref hd), some (.int (b : Int)), some (.int ((b ^ e : Nat) : Int)), some (.int (e : Int)), none] ∧ m = st + 40 - b ^ e ∧ 2 ≤ e ∧ HereAt H' hd W (st + 40) ∧ Wok (st + 40) b e W) (st + 40 - b ^ 2) ⟨2, W, rfl, rfl, Nat.le_refl _, hH, hW⟩ ?_
            rintro m σ H11 ⟨e, W2, rfl, rfl, he, hH2, hW2⟩ G hG
            walk_at "d"
            refine ite2 (fun hw => hG _ _ fun N2 hN2 => ?_) (fun hw => ?_)
            · have hlt : b ^ e < st + 40 := by omega
              have hln := hW2.len (k := b ^ e) (by omega) (by omega)
              have es : (b ^ e : Nat) < b ^ (e + 1) := Nat.pow_lt_pow_right (by omega) (by omega)
              have e3 : ((b ^ e : Nat) : Int) * (b : Int) = ((b ^ (e + 1) : Nat) : Int) := by
                rw [Nat.pow_succ]
                push_cast
                rfl
              have e4 : (e : Int) + 1 = ((e + 1 : Nat) : Int) := by omega
              have sb : 1 ≤ sizeLine ∧ 5000 ≤ sizeLine := by decide
              walk_at "d"
              walk_at "d"
              refine ⟨hH2.isD, Nat.zero_le _, fun w0 hw0 => ?_⟩
              have hH3 := hH2.same (same_new (o := .tup []) hw0)
              have hw1 : upd H11 w0 (.tup []) w0 = some (.tup []) := upd_same
              generalize upd H11 w0 (.tup []) = H12 at hH3 hw1 ⊢
              obtain ⟨o, ho, hor⟩ := hH3.get (b ^ e)
              refine ⟨o, ho, by show 2 ≤ sizeLine; decide, fun t1 ht1 => ⟨by show 1 ≤ sizeLine; decide, fun t2 ht2 => ?_⟩⟩
              have s12 := (same_new (o := .tup [.int (e : Int), .int (b : Int)]) ht1).trans (same_new (o := .tup [.ref t1]) ht2)
              have ht1' : upd (upd H12 t1 (.tup [.int (e : Int), .int (b : Int)])) t2 (.tup [.ref t1]) t1 = some (.tup [.int (e : Int), .int (b : Int)]) := (upd_ne (ne_of_none upd_same ht2)).trans upd_same
              have ht2' : upd (upd H12 t1 (.tup [.int (e : Int), .int (b : Int)])) t2 (.tup [.ref t1]) t2 = some (.tup [.ref t1]) := upd_same
              generalize upd (upd H12 t1 (.tup [.int (e : Int), .int (b : Int)])) t2 (.tup [.ref t1]) = H13 at s12 ht1' ht2' ⊢
              have hH4 := hH3.same s12
              have fin : ∀ (H14 : Hp) (r : Addr) (nc : List Addr), Same H13 H14 → H14 r = some (.tup (nc.map V.ref)) → PrsH H14 nc (W2 (b ^ e) ++ [((e : Int), (b : Int))]) → ∃ H4, DPut H14 hd (.int ((b ^ e : Nat) : Int)) (.ref r) H4 ∧ CMulW ((b ^ e : Nat) : Int) (b : Int) ∧ N2 [some (.ref a), some (.ref d), v2, some (.ref u), v4, some (.ref D2), some (.int (st : Int)), some (.ref hd), some (.int (b : Int)), some (.int (((b ^ e : Nat) : Int) * (b : Int))), some (.int ((e : Int) + 1)), none] H4 := fun H14 r nc s hr hp => by
                obtain ⟨H15, hput, hh⟩ := (hH4.same s).put hlt (by omega) hr hp
                rw [e3, e4]
                refine ⟨H15, hput, wide_mul (a := 64) (b := 64) (by omega) (by omega) (by decide) (by decide) (by decide), hN2 _ _ _ (by omega) ⟨e + 1, putW W2 b e, rfl, rfl, by omega, ?_, hW2.put (by omega) he hlt⟩⟩
                have ew : putW W2 b e = fun k' => if k' = b ^ e then W2 (b ^ e) ++ [((e : Int), (b : Int))] else W2 k' := by
                  funext k'
                  unfold putW
                  split
                  · rename_i c
                    rw [c]
                  · rfl
                rw [ew]
                exact hh
              rcases hor with ⟨rfl, hnil⟩ | ⟨r, cs, rfl, hr, hcs⟩
              · refine r_catA (SqT.of (s12 _ _ hw1)) (SqT.of ht2') (by show 0 + 1 ≤ sizeLine; decide) (fun _ => ?_) (fun z => absurd rfl z) (fun z => absurd rfl z)
                refine fin H13 t2 [t1] (Same.refl _) ht2' ?_
                rw [hnil]
                exact PrsH.snoc (cs := []) (ps := []) ⟨rfl, fun i c p h1 => by cases h1⟩ ht1'
              · have hlc : cs.length ≤ 4096 := by rw [hcs.1]; exact hln
                have hcs13 := hcs.tups fun c xs h => s12 _ _ h
                refine r_catA (SqT.of (s12 _ _ hr)) (SqT.of ht2') (by rw [List.length_map]; show cs.length + 1 ≤ sizeLine; omega) (fun z => ?_) (fun _ z => by cases z) (fun _ _ => ?_)
                · have hz : cs = [] := List.map_eq_nil_iff.mp z
                  subst hz
                  have hnil : W2 (b ^ e) = [] := List.length_eq_zero_iff.mp hcs.1.symm
                  refine fin H13 t2 [t1] (Same.refl _) ht2' ?_
                  rw [hnil]
                  exact PrsH.snoc (cs := []) (ps := []) ⟨rfl, fun i c p h1 => by cases h1⟩ ht1'
                · intro t3 ht3
                  have s3 := same_new (o := .tup (cs.map V.ref ++ [.ref t1])) ht3
                  refine fin _ t3 (cs ++ [t1]) s3 (by rw [upd_same]; simp) ?_
                  exact (hcs13.tups fun c xs h => s3 _ _ h).snoc (s3 _ _ ht1')
            · exact hN' _ _ ⟨_, _, _, W2, rfl, hH2, hW2.next hb.1 (by omega)⟩
          · rintro σ H10 ⟨v8, v9, v10, W, rfl, hH, hW⟩
            have hW : Wok (st + 40) 60 2 W := hW
            have hmx : ∃ m0 : Nat, (if (st : Int) > 2 then (st : Int) else 2) = (m0 : Int) ∧ 2 ≤ m0 ∧ m0 ≤ st + 2 := by
              by_cases c : (st : Int) > 2
              · exact ⟨st, by rw [if_pos c], by omega, by omega⟩
              · exact ⟨2, by rw [if_neg c]; rfl, by omega, by omega⟩
            obtain ⟨m0, em, hm0, hm1⟩ := hmx
            walk_at "d"
            rw [em]
            refine ⟨by omega, by omega, by omega, by omega, for_r (fun i σ H' => ∃ (v4 v8 v9 v10 v11 : Option V), σ = [some (.ref a), some (.ref d), v2, some (.ref u), v4, some (.ref D2), some (.int (st : Int)), some (.ref hd), v8, v9, v10, v11] ∧ HereAt H' hd W (st + 40)) ⟨_, _, _, _, _, rfl, hH⟩ ?_ ?_⟩
            · rintro i σ H11 hi ⟨w4, w8, w9, w10, w11, rfl, hH2⟩ N hN
              have ek : (m0 : Int) + (i : Int) = ((m0 + i : Nat) : Int) := by omega
              have hk : 2 ≤ m0 + i ∧ m0 + i < st + 40 := by omega
              rw [ek]
              generalize m0 + i = k at hk ⊢
              have hln := hW.len (k := k) (by omega) (by omega)
              have sb : 5000 < sizeLine := by decide
              walk_at "d"
              walk_at "d"
              refine ⟨hH2.isD, Nat.zero_le _, fun w0 hw0 => ?_⟩
              have hH3 := hH2.same (same_new (o := .tup []) hw0)
              have hw1 : upd H11 w0 (.tup []) w0 = some (.tup []) := upd_same
              generalize upd H11 w0 (.tup []) = H12 at hH3 hw1 ⊢
              obtain ⟨o, ho, hor⟩ := hH3.get k
              have hrow : ∃ (r : Addr) (cs : List Addr), o.getD (.ref w0) = .ref r ∧ H12 r = some (.tup (cs.map V.ref)) ∧ PrsH H12 cs (W k) := by
                rcases hor with ⟨rfl, hnil⟩ | ⟨r, cs, rfl, hr, hcs⟩
                · refine ⟨w0, [], rfl, hw1, ?_⟩
                  rw [hnil]
                  exact ⟨rfl, fun i c p h1 => by cases h1⟩
                · exact ⟨r, cs, rfl, hr, hcs⟩
              obtain ⟨r, cs, eo, hr, hcs⟩ := hrow
              refine ⟨o, ho, ?_⟩
              rw [eo]
              have hlc : cs.length ≤ 4096 := by rw [hcs.1]; exact hln
              refine ⟨r, cs.map V.ref, kAt H12, rfl, SqT.of hr, fun x hx => ?_, fun ys yp hsr hpm hyp => ?_⟩
              · obtain ⟨c, hc, rfl⟩ := List.mem_map.mp hx
                obtain ⟨j, hj⟩ := List.mem_iff_getElem?.mp hc
                have hj2 : j < (W k).length := by
                  rw [← hcs.1]
                  exact (List.getElem?_eq_some_iff.mp hj).1
                have hcc := hcs.2 j c _ hj (List.getElem?_eq_getElem hj2)
                refine ⟨c, rfl, ?_⟩
                rw [kAt_of hcc]
                exact SqT.of hcc
              · have hzs : (ys.map (kAt H12)).Perm (W k) := by
                  have := hpm.map (kAt H12)
                  rwa [kAt_map hcs] at this
                have hpw : (ys.map (kAt H12)).Pairwise fun x y => ¬ (y.1 < x.1 ∨ (y.1 = x.1 ∧ y.2 < x.2)) := by
                  rw [List.pairwise_map]
                  exact hsr.imp fun {x y} h => SrtO.lexB_no.mp h
                have hrw := row_ways hW hk.1 hk.2 (by omega) hzs hpw
                have hyl : ys.length ≤ 4096 := by
                  rw [hpm.length_eq, List.length_map]
                  exact hlc
                have hY : upd H12 yp (.lst ys) yp = some (.lst ys) := upd_same
                have sY : Same H12 (upd H12 yp (.lst ys)) := same_new hyp
                have hall : ∀ x ∈ ys, ∃ c, x = V.ref c ∧ H12 c = some (.tup [.int (kAt H12 x).1, .int (kAt H12 x).2]) := fun x hx => by
                  obtain ⟨c, hc, rfl⟩ := List.mem_map.mp (hpm.mem_iff.mp hx)
                  obtain ⟨j, hj⟩ := List.mem_iff_getElem?.mp hc
                  have hj2 : j < (W k).length := by
                    rw [← hcs.1]
                    exact (List.getElem?_eq_some_iff.mp hj).1
                  have hcc := hcs.2 j c _ hj (List.getElem?_eq_getElem hj2)
                  refine ⟨c, rfl, ?_⟩
                  rw [kAt_of hcc]
                  exact hcc
                walk_at "d"
                refine ⟨⟨_, SqL.of hY⟩, lc_lI (xs := ys) (fun i acc H' => Same (upd H12 yp (.lst ys)) H' ∧ acc.length ≤ i ∧ ∃ es : List Addr, acc = es.map V.ref ∧ PairsAt K H' es (((ys.take i).map (kAt H12)).map fun p => (p.2, p.1))) (fun D hD => ⟨same_new hD, Nat.le_refl _, [], rfl, PairsAt.nil⟩) (fun i acc H' _ h => SqL.of (h.1 _ _ hY)) ?_ ?_⟩
                · rintro j x acc D H13 hx hD hacc ⟨s13, hl13, es, rfl, hes⟩ N0 N1 n0 n1
                  obtain ⟨c, rfl, hc⟩ := hall x (List.mem_of_getElem? hx)
                  walk_at "d"
                  refine ⟨c, _, rfl, SqT.of (s13 _ _ (sY _ _ hc)), rfl, ?_⟩
                  walk_at "d"
                  refine ⟨by show 2 ≤ sizeLine; decide, fun t1 ht1 => ?_⟩
                  have nd1 := ne_of_none hacc ht1
                  have hj4 : j < ys.length := (List.getElem?_eq_some_iff.mp hx).1
                  refine n1 _ _ ((upd_ne nd1).trans hacc) (by omega) ⟨fun b o hb => ?_, by rw [List.length_append]; show _ + 1 ≤ j + 1; omega, es ++ [t1], by simp, ?_⟩
                  · rw [upd_ne (ne_of_none hb hD), upd_ne (ne_of_none (s13 _ _ hb) ht1)]
                    exact s13 _ _ hb
                  · rw [List.take_add_one, hx, Option.toList_some, List.map_append, List.map_append]
                    refine PairsAt.snoc ((hes.same (same_new ht1)).upd ((upd_ne nd1).trans hacc)) (sqT_upd (acc := es.map V.ref) (SqT.of ?_) ((upd_ne nd1).trans hacc))
                    rw [upd_same]
                · rintro D acc H13 hD hacc ⟨s13, hl13, es, rfl, hes⟩
                  rw [List.take_length, hrw] at hes
                  refine r_tupL (SqL.of hacc) fun tp htp => ?_
                  have sall := sY.trans (s13.trans (same_new (o := .tup (es.map V.ref)) htp))
                  refine ⟨k, tp, es, rfl, by omega, SqT.of upd_same, hes.same (same_new htp), fun H14 s14 => ⟨true, rfl, ?_⟩⟩
                  walk_at "d"
                  exact hN _ _ ⟨_, _, _, _, _, rfl, hH3.same (sall.trans s14)⟩
            · rintro σ H11 ⟨w4, w8, w9, w10, w11, rfl, hH2⟩
              walk_at "d"
              refine ⟨64, 134, rfl, by decide, by omega, fun p as H12 hp s12 hT hP => ?_⟩
              refine ⟨by show 2 ≤ sizeLine; decide, fun a1 ha1 => ⟨by show 2 ≤ sizeLine; decide, fun a2 ha2 => ⟨by show 2 ≤ sizeLine; decide, fun a3 ha3 => ⟨by show 3 ≤ sizeLine; decide, fun a4 ha4 => ?_⟩⟩⟩⟩
              have t1 := same_new (o := .tup [V.int 8, V.int 2]) ha1
              have t2 := same_new (o := .tup [V.int 4, V.int 3]) ha2
              have t3 := same_new (o := .tup [V.int 2, V.int 6]) ha3
              have t4 := same_new (o := .tup [V.ref a1, V.ref a2, V.ref a3]) ha4
              have tall := t1.trans (t2.trans (t3.trans t4))
              have g1 := (t2.trans (t3.trans t4)) _ _ (upd_same (H := H12) (a := a1) (o := .tup [V.int 8, V.int 2]))
              have g2 := (t3.trans t4) _ _ (upd_same (H := upd H12 a1 (.tup [V.int 8, V.int 2])) (a := a2) (o := .tup [V.int 4, V.int 3]))
              have g3 := t4 _ _ (upd_same (H := upd (upd H12 a1 (.tup [V.int 8, V.int 2])) a2 (.tup [V.int 4, V.int 3])) (a := a3) (o := .tup [V.int 2, V.int 6]))
              rw [ways_64] at hP
              refine r_eqTP (as := as) (bs := [a1, a2, a3]) (ns := [(8, 2), (4, 3), (2, 6)]) (ms := [(8, 2), (4, 3), (2, 6)]) (same_seqT tall hT) (hP.same tall) (SqT.of upd_same) (PairsAt.snoc (as := [a1, a2]) (ps := [(8, 2), (4, 3)]) (PairsAt.snoc (as := [a1]) (ps := [(8, 2)]) (PairsAt.snoc (as := []) (ps := []) PairsAt.nil (SqT.of g1)) (SqT.of g2)) (SqT.of g3)) ?_
              rw [decide_eq_true rfl]
              walk_at "d"
              refine ⟨0, 134, rfl, by decide, by omega, fun p5 as5 H13 hp5 s13 hT5 hP5 => ⟨by show 0 ≤ sizeLine; decide, fun a5 ha5 => ?_⟩⟩
              refine r_eqTP (as := as5) (bs := []) (ns := []) (ms := []) (same_seqT (same_new ha5) hT5) (hP5.same (same_new ha5)) (SqT.of upd_same) PairsAt.nil ?_
              rw [decide_eq_true rfl]
              walk_at "d"
              refine ⟨1, 134, rfl, by decide, by omega, fun b H14 s14 hb => ⟨b, rfl, ?_⟩⟩
              have : b = true := hb.mpr isPow_one
              subst this
              exact q _
end
theorem all_mk {l : PySem.W.OpenLaw} {w : World} {K : PySem.W.Frag} {h : Heap} {mg : PySem.Str → Option Value} {fa : Addr} (X : K.In h) (G : h.Ns mainGlobals mg) (hfa : mg "law" = some (.ref fa))
    {f0 : Addr} {od0 an0 : Option Addr} {sl0 : Array (Option Value)} {oc0 kV0 dc0 pm0 cd0 ct0 : Value}
    (a0 : PySem.W.nsIn K mainGlobals "taken" = some (some (.ref f0))) (l0 : K.lookup f0 = some ⟨oc0, od0, .func (PySem.W.fnOf "taken" "taken" (defArgs s_taken) (defBody s_taken) (defScope s_taken) .none kV0 dc0 pm0 an0 cd0 ct0), sl0⟩) (c0 : PySem.W.codeIn K cd0 "taken" = true) (k0 : PySem.W.keepIn K (.ref f0) = true)
    {f1 : Addr} {od1 an1 : Option Addr} {sl1 : Array (Option Value)} {oc1 kV1 dc1 pm1 cd1 ct1 : Value}
    (a1 : PySem.W.nsIn K mainGlobals "root_of" = some (some (.ref f1))) (l1 : K.lookup f1 = some ⟨oc1, od1, .func (PySem.W.fnOf "root_of" "root_of" (defArgs s_root_of) (defBody s_root_of) (defScope s_root_of) .none kV1 dc1 pm1 an1 cd1 ct1), sl1⟩) (c1 : PySem.W.codeIn K cd1 "root_of" = true) (k1 : PySem.W.keepIn K (.ref f1) = true)
    {f2 : Addr} {od2 an2 : Option Addr} {sl2 : Array (Option Value)} {oc2 kV2 dc2 pm2 cd2 ct2 : Value}
    (a2 : PySem.W.nsIn K mainGlobals "ways_of" = some (some (.ref f2))) (l2 : K.lookup f2 = some ⟨oc2, od2, .func (PySem.W.fnOf "ways_of" "ways_of" (defArgs s_ways_of) (defBody s_ways_of) (defScope s_ways_of) .none kV2 dc2 pm2 an2 cd2 ct2), sl2⟩) (c2 : PySem.W.codeIn K cd2 "ways_of" = true) (k2 : PySem.W.keepIn K (.ref f2) = true)
    {f3 : Addr} {od3 an3 : Option Addr} {sl3 : Array (Option Value)} {oc3 kV3 dc3 pm3 cd3 ct3 : Value}
    (a3 : PySem.W.nsIn K mainGlobals "is_power" = some (some (.ref f3))) (l3 : K.lookup f3 = some ⟨oc3, od3, .func (PySem.W.fnOf "is_power" "is_power" (defArgs s_is_power) (defBody s_is_power) (defScope s_is_power) .none kV3 dc3 pm3 an3 cd3 ct3), sl3⟩) (c3 : PySem.W.codeIn K cd3 "is_power" = true) (k3 : PySem.W.keepIn K (.ref f3) = true)
    {f4 : Addr} {od4 an4 : Option Addr} {sl4 : Array (Option Value)} {oc4 kV4 dc4 pm4 cd4 ct4 : Value}
    (a4 : PySem.W.nsIn K mainGlobals "_law_mix" = some (some (.ref f4))) (l4 : K.lookup f4 = some ⟨oc4, od4, .func (PySem.W.fnOf "_law_mix" "_law_mix" (defArgs s__law_mix) (defBody s__law_mix) (defScope s__law_mix) .none kV4 dc4 pm4 an4 cd4 ct4), sl4⟩) (c4 : PySem.W.codeIn K cd4 "_law_mix" = true) (k4 : PySem.W.keepIn K (.ref f4) = true)
    {f5 : Addr} {od5 an5 : Option Addr} {sl5 : Array (Option Value)} {oc5 kV5 dc5 pm5 cd5 ct5 : Value}
    (a5 : PySem.W.nsIn K mainGlobals "_law_deck" = some (some (.ref f5))) (l5 : K.lookup f5 = some ⟨oc5, od5, .func (PySem.W.fnOf "_law_deck" "_law_deck" (defArgs s__law_deck) (defBody s__law_deck) (defScope s__law_deck) .none kV5 dc5 pm5 an5 cd5 ct5), sl5⟩) (c5 : PySem.W.codeIn K cd5 "_law_deck" = true) (k5 : PySem.W.keepIn K (.ref f5) = true)
    {f6 : Addr} {od6 an6 : Option Addr} {sl6 : Array (Option Value)} {oc6 kV6 dc6 pm6 cd6 ct6 : Value}
    (a6 : PySem.W.nsIn K mainGlobals "_law_next" = some (some (.ref f6))) (l6 : K.lookup f6 = some ⟨oc6, od6, .func (PySem.W.fnOf "_law_next" "_law_next" (defArgs s__law_next) (defBody s__law_next) (defScope s__law_next) .none kV6 dc6 pm6 an6 cd6 ct6), sl6⟩) (c6 : PySem.W.codeIn K cd6 "_law_next" = true) (k6 : PySem.W.keepIn K (.ref f6) = true)
    {f7 : Addr} {od7 an7 : Option Addr} {sl7 : Array (Option Value)} {oc7 kV7 dc7 pm7 cd7 ct7 : Value}
    (a7 : PySem.W.nsIn K mainGlobals "_law_great" = some (some (.ref f7))) (l7 : K.lookup f7 = some ⟨oc7, od7, .func (PySem.W.fnOf "_law_great" "_law_great" (defArgs s__law_great) (defBody s__law_great) (defScope s__law_great) .none kV7 dc7 pm7 an7 cd7 ct7), sl7⟩) (c7 : PySem.W.codeIn K cd7 "_law_great" = true) (k7 : PySem.W.keepIn K (.ref f7) = true)
    {f8 : Addr} {od8 an8 : Option Addr} {sl8 : Array (Option Value)} {oc8 kV8 dc8 pm8 cd8 ct8 : Value}
    (a8 : PySem.W.nsIn K mainGlobals "_law_a_power" = some (some (.ref f8))) (l8 : K.lookup f8 = some ⟨oc8, od8, .func (PySem.W.fnOf "_law_a_power" "_law_a_power" (defArgs s__law_a_power) (defBody s__law_a_power) (defScope s__law_a_power) .none kV8 dc8 pm8 an8 cd8 ct8), sl8⟩) (c8 : PySem.W.codeIn K cd8 "_law_a_power" = true) (k8 : PySem.W.keepIn K (.ref f8) = true)
    {f9 : Addr} {od9 an9 : Option Addr} {sl9 : Array (Option Value)} {oc9 kV9 dc9 pm9 cd9 ct9 : Value}
    (a9 : PySem.W.nsIn K mainGlobals "_law_number" = some (some (.ref f9))) (l9 : K.lookup f9 = some ⟨oc9, od9, .func (PySem.W.fnOf "_law_number" "_law_number" (defArgs s__law_number) (defBody s__law_number) (defScope s__law_number) .none kV9 dc9 pm9 an9 cd9 ct9), sl9⟩) (c9 : PySem.W.codeIn K cd9 "_law_number" = true) (k9 : PySem.W.keepIn K (.ref f9) = true)
    {f10 : Addr} {od10 an10 : Option Addr} {sl10 : Array (Option Value)} {oc10 kV10 dc10 pm10 cd10 ct10 : Value}
    (a10 : PySem.W.nsIn K mainGlobals "_law_taken" = some (some (.ref f10))) (l10 : K.lookup f10 = some ⟨oc10, od10, .func (PySem.W.fnOf "_law_taken" "_law_taken" (defArgs s__law_taken) (defBody s__law_taken) (defScope s__law_taken) .none kV10 dc10 pm10 an10 cd10 ct10), sl10⟩) (c10 : PySem.W.codeIn K cd10 "_law_taken" = true) (k10 : PySem.W.keepIn K (.ref f10) = true)
    {f11 : Addr} {od11 an11 : Option Addr} {sl11 : Array (Option Value)} {oc11 kV11 dc11 pm11 cd11 ct11 : Value}
    (a11 : PySem.W.nsIn K mainGlobals "_law_root" = some (some (.ref f11))) (l11 : K.lookup f11 = some ⟨oc11, od11, .func (PySem.W.fnOf "_law_root" "_law_root" (defArgs s__law_root) (defBody s__law_root) (defScope s__law_root) .none kV11 dc11 pm11 an11 cd11 ct11), sl11⟩) (c11 : PySem.W.codeIn K cd11 "_law_root" = true) (k11 : PySem.W.keepIn K (.ref f11) = true)
    {f12 : Addr} {od12 an12 : Option Addr} {sl12 : Array (Option Value)} {oc12 kV12 dc12 pm12 cd12 ct12 : Value}
    (a12 : PySem.W.nsIn K mainGlobals "_law_ways" = some (some (.ref f12))) (l12 : K.lookup f12 = some ⟨oc12, od12, .func (PySem.W.fnOf "_law_ways" "_law_ways" (defArgs s__law_ways) (defBody s__law_ways) (defScope s__law_ways) .none kV12 dc12 pm12 an12 cd12 ct12), sl12⟩) (c12 : PySem.W.codeIn K cd12 "_law_ways" = true) (k12 : PySem.W.keepIn K (.ref f12) = true)
    {f13 : Addr} {od13 an13 : Option Addr} {sl13 : Array (Option Value)} {oc13 kV13 dc13 pm13 cd13 ct13 : Value}
    (a13 : PySem.W.nsIn K mainGlobals "_law_right" = some (some (.ref f13))) (l13 : K.lookup f13 = some ⟨oc13, od13, .func (PySem.W.fnOf "_law_right" "_law_right" (defArgs s__law_right) (defBody s__law_right) (defScope s__law_right) .none kV13 dc13 pm13 an13 cd13 ct13), sl13⟩) (c13 : PySem.W.codeIn K cd13 "_law_right" = true) (k13 : PySem.W.keepIn K (.ref f13) = true)
    {f14 : Addr} {od14 an14 : Option Addr} {sl14 : Array (Option Value)} {oc14 kV14 dc14 pm14 cd14 ct14 : Value}
    (a14 : PySem.W.nsIn K mainGlobals "law" = some (some (.ref f14))) (l14 : K.lookup f14 = some ⟨oc14, od14, .func (PySem.W.fnOf "law" "law" (defArgs s_law) (defBody s_law) (defScope s_law) .none kV14 dc14 pm14 an14 cd14 ct14), sl14⟩) (c14 : PySem.W.codeIn K cd14 "law" = true) (k14 : PySem.W.keepIn K (.ref f14) = true)
    (z_range : PySem.W.nsIn K mainGlobals "range" = some none)
    (z_len : PySem.W.nsIn K mainGlobals "len" = some none)
    (z_sum : PySem.W.nsIn K mainGlobals "sum" = some none)
    (z_min : PySem.W.nsIn K mainGlobals "min" = some none)
    (z_max : PySem.W.nsIn K mainGlobals "max" = some none)
    (z_abs : PySem.W.nsIn K mainGlobals "abs" = some none)
    (z_sorted : PySem.W.nsIn K mainGlobals "sorted" = some none)
    (z_isinstance : PySem.W.nsIn K mainGlobals "isinstance" = some none)
    (z_enumerate : PySem.W.nsIn K mainGlobals "enumerate" = some none)
    (z_zip : PySem.W.nsIn K mainGlobals "zip" = some none)
    (z_int : PySem.W.nsIn K mainGlobals "int" = some none)
    (z_bool : PySem.W.nsIn K mainGlobals "bool" = some none)
    (z_str : PySem.W.nsIn K mainGlobals "str" = some none)
    (z_list : PySem.W.nsIn K mainGlobals "list" = some none)
    (z_tuple : PySem.W.nsIn K mainGlobals "tuple" = some none)
    (z_dict : PySem.W.nsIn K mainGlobals "dict" = some none)
    (z_set : PySem.W.nsIn K mainGlobals "set" = some none)
    (z_ValueError : PySem.W.nsIn K mainGlobals "ValueError" = some none)
    : ∃ fd : FuncData, (∀ (s : Shared) (v : Value), BindsTo s fd ⟨[v], []⟩ [("script", v)]) ∧ ∀ base : Heap, K.In base → base.Ns mainGlobals mg → FnOk l.prog w K mg base CX0 6 fa fd ["script"] (sp_law K) := by
  have e := hfa.symm.trans (PySem.W.mg_of X G a14)
  cases e
  have B : Bt mg := ⟨PySem.W.mg_none_of X G z_range, PySem.W.mg_none_of X G z_len, PySem.W.mg_none_of X G z_sum, PySem.W.mg_none_of X G z_min, PySem.W.mg_none_of X G z_max, PySem.W.mg_none_of X G z_abs, PySem.W.mg_none_of X G z_sorted, PySem.W.mg_none_of X G z_isinstance, PySem.W.mg_none_of X G z_enumerate, PySem.W.mg_none_of X G z_zip, PySem.W.mg_none_of X G z_int, PySem.W.mg_none_of X G z_bool, PySem.W.mg_none_of X G z_str, PySem.W.mg_none_of X G z_list, PySem.W.mg_none_of X G z_tuple, PySem.W.mg_none_of X G z_dict, PySem.W.mg_none_of X G z_set, PySem.W.mg_none_of X G z_ValueError⟩
  refine ⟨PySem.W.fnOf "law" "law" (defArgs s_law) (defBody s_law) (defScope s_law) .none kV14 dc14 pm14 an14 cd14 ct14, fun s v => .of_eq rfl, fun base _ _ => ?_⟩
  have F0 := fun_mk (st := s_taken) l0 c0 k0
  have h_taken : Fn l.prog w K mg base CX0 1 "taken" ["base", "exponent"] (sp_taken K) := ⟨_, _, PySem.W.mg_of X G a0, k0, bi_taken F0, ok_taken F0 B⟩
  have F1 := fun_mk (st := s_root_of) l1 c1 k1
  have h_root_of : Fn l.prog w K mg base CX0 2 "root_of" ["number", "exponent"] (sp_root_of K) := ⟨_, _, PySem.W.mg_of X G a1, k1, bi_root_of F1, ok_root_of F1 B h_taken⟩
  have F2 := fun_mk (st := s_ways_of) l2 c2 k2
  have h_ways_of : Fn l.prog w K mg base CX0 3 "ways_of" ["number"] (sp_ways_of K) := ⟨_, _, PySem.W.mg_of X G a2, k2, bi_ways_of F2, ok_ways_of F2 B h_root_of⟩
  have F3 := fun_mk (st := s_is_power) l3 c3 k3
  have h_is_power : Fn l.prog w K mg base CX0 4 "is_power" ["number"] (sp_is_power K) := ⟨_, _, PySem.W.mg_of X G a3, k3, bi_is_power F3, ok_is_power F3 B h_ways_of⟩
  have F4 := fun_mk (st := s__law_mix) l4 c4 k4
  have h__law_mix : Fn l.prog w K mg base CX0 1 "_law_mix" ["cell", "k"] (sp__law_mix K) := ⟨_, _, PySem.W.mg_of X G a4, k4, bi__law_mix F4, ok__law_mix F4 B⟩
  have F5 := fun_mk (st := s__law_deck) l5 c5 k5
  have h__law_deck : Fn l.prog w K mg base CX0 1 "_law_deck" ["script"] (sp__law_deck K) := ⟨_, _, PySem.W.mg_of X G a5, k5, bi__law_deck F5, ok__law_deck F5 B⟩
  have F6 := fun_mk (st := s__law_next) l6 c6 k6
  have h__law_next : Fn l.prog w K mg base CX0 2 "_law_next" ["deck", "many"] (sp__law_next K) := ⟨_, _, PySem.W.mg_of X G a6, k6, bi__law_next F6, ok__law_next F6 B h__law_mix⟩
  have F7 := fun_mk (st := s__law_great) l7 c7 k7
  have h__law_great : Fn l.prog w K mg base CX0 3 "_law_great" ["deck", "most"] (sp__law_great K) := ⟨_, _, PySem.W.mg_of X G a7, k7, bi__law_great F7, ok__law_great F7 B h__law_next⟩
  have F8 := fun_mk (st := s__law_a_power) l8 c8 k8
  have h__law_a_power : Fn l.prog w K mg base CX0 4 "_law_a_power" ["deck", "most"] (sp__law_a_power K) := ⟨_, _, PySem.W.mg_of X G a8, k8, bi__law_a_power F8, ok__law_a_power F8 B h__law_next h__law_great⟩
  have F9 := fun_mk (st := s__law_number) l9 c9 k9
  have h__law_number : Fn l.prog w K mg base CX0 5 "_law_number" ["deck", "most"] (sp__law_number K) := ⟨_, _, PySem.W.mg_of X G a9, k9, bi__law_number F9, ok__law_number F9 B h__law_a_power h__law_next h__law_great⟩
  have F10 := fun_mk (st := s__law_taken) l10 c10 k10
  have h__law_taken : Fn l.prog w K mg base CX0 1 "_law_taken" ["base", "exponent"] (sp__law_taken K) := ⟨_, _, PySem.W.mg_of X G a10, k10, bi__law_taken F10, ok__law_taken F10 B⟩
  have F11 := fun_mk (st := s__law_root) l11 c11 k11
  have h__law_root : Fn l.prog w K mg base CX0 1 "_law_root" ["number", "exponent"] (sp__law_root K) := ⟨_, _, PySem.W.mg_of X G a11, k11, bi__law_root F11, ok__law_root F11 B⟩
  have F12 := fun_mk (st := s__law_ways) l12 c12 k12
  have h__law_ways : Fn l.prog w K mg base CX0 2 "_law_ways" ["number"] (sp__law_ways K) := ⟨_, _, PySem.W.mg_of X G a12, k12, bi__law_ways F12, ok__law_ways F12 B h__law_root h__law_taken⟩
  have F13 := fun_mk (st := s__law_right) l13 c13 k13
  have h__law_right : Fn l.prog w K mg base CX0 5 "_law_right" ["number", "due"] (sp__law_right K) := ⟨_, _, PySem.W.mg_of X G a13, k13, bi__law_right F13, ok__law_right F13 B h_ways_of h_is_power⟩
  exact ok_law (fun_mk (st := s_law) l14 c14 k14) B h__law_deck h__law_number h__law_ways h__law_right h__law_next h_ways_of h_is_power
end Pn
open PySem PySem.W PyProof.Rows
set_option maxHeartbeats 0 in
theorem PySem.Challenge.cw_powernumbers_k05_ways_of_powers_holds : PySem.Challenge.rw_powernumbers_k05_ways_of_powers.Holds := by
  w_on; o_law; k_head; (case hw => w_witness2)
  k_fill
  refine L2.walk_of (l := PySem.Challenge.rw_powernumbers_k05_ways_of_powers) (n := 63) (k := 6) (x := "script") (CX := fun _ => L2.CX0) (sp := fun w => Pn.sp_law _) rfl (by decide) rfl ⟨rfl, by decide, by decide⟩ (fun w h Y => PySem.W.kIn_of Y) ?F (fun _ _ a ns hl _ hS => ⟨a, ns, rfl, hS, hl, fun _ => rfl⟩) (fun _ _ _ _ _ h => h)
  case F =>
    intro w mg fa h KX G hmg
    refine' Pn.all_mk KX G hmg ?a0 ?l0 ?c0 ?k0 ?a1 ?l1 ?c1 ?k1 ?a2 ?l2 ?c2 ?k2 ?a3 ?l3 ?c3 ?k3 ?a4 ?l4 ?c4 ?k4 ?a5 ?l5 ?c5 ?k5 ?a6 ?l6 ?c6 ?k6 ?a7 ?l7 ?c7 ?k7 ?a8 ?l8 ?c8 ?k8 ?a9 ?l9 ?c9 ?k9 ?a10 ?l10 ?c10 ?k10 ?a11 ?l11 ?c11 ?k11 ?a12 ?l12 ?c12 ?k12 ?a13 ?l13 ?c13 ?k13 ?a14 ?l14 ?c14 ?k14 ?z_range ?z_len ?z_sum ?z_min ?z_max ?z_abs ?z_sorted ?z_isinstance ?z_enumerate ?z_zip ?z_int ?z_bool ?z_str ?z_list ?z_tuple ?z_dict ?z_set ?z_ValueError
    (case a0 => k_is)
    (case l0 => k_is)
    (case c0 => k_is)
    (case k0 => k_is)
    (case a1 => k_is)
    (case l1 => k_is)
    (case c1 => k_is)
    (case k1 => k_is)
    (case a2 => k_is)
    (case l2 => k_is)
    (case c2 => k_is)
    (case k2 => k_is)
    (case a3 => k_is)
    (case l3 => k_is)
    (case c3 => k_is)
    (case k3 => k_is)
    (case a4 => k_is)
    (case l4 => k_is)
    (case c4 => k_is)
    (case k4 => k_is)
    (case a5 => k_is)
    (case l5 => k_is)
    (case c5 => k_is)
    (case k5 => k_is)
    (case a6 => k_is)
    (case l6 => k_is)
    (case c6 => k_is)
    (case k6 => k_is)
    (case a7 => k_is)
    (case l7 => k_is)
    (case c7 => k_is)
    (case k7 => k_is)
    (case a8 => k_is)
    (case l8 => k_is)
    (case c8 => k_is)
    (case k8 => k_is)
    (case a9 => k_is)
    (case l9 => k_is)
    (case c9 => k_is)
    (case k9 => k_is)
    (case a10 => k_is)
    (case l10 => k_is)
    (case c10 => k_is)
    (case k10 => k_is)
    (case a11 => k_is)
    (case l11 => k_is)
    (case c11 => k_is)
    (case k11 => k_is)
    (case a12 => k_is)
    (case l12 => k_is)
    (case c12 => k_is)
    (case k12 => k_is)
    (case a13 => k_is)
    (case l13 => k_is)
    (case c13 => k_is)
    (case k13 => k_is)
    (case a14 => k_is)
    (case l14 => k_is)
    (case c14 => k_is)
    (case k14 => k_is)
    (case z_range => k_is)
    (case z_len => k_is)
    (case z_sum => k_is)
    (case z_min => k_is)
    (case z_max => k_is)
    (case z_abs => k_is)
    (case z_sorted => k_is)
    (case z_isinstance => k_is)
    (case z_enumerate => k_is)
    (case z_zip => k_is)
    (case z_int => k_is)
    (case z_bool => k_is)
    (case z_str => k_is)
    (case z_list => k_is)
    (case z_tuple => k_is)
    (case z_dict => k_is)
    (case z_set => k_is)
    (case z_ValueError => k_is)
