import PyProof.Rows.All
import Wide.All
import OpenK.AllK
import Wide.FinOn
import HandS.ForMost
import HandS.Wide
import HandS.IsInst
import HandS.SortInts
import HandS.TupAny
import HandS.WideBits
import HandS.Evl
import KE.KItemsList
import KE.KDictList
import HandS.Conv
import HandS.Sort
import HandS.More
import HandS.SetFor
import HandS.Style
import HandS.SortOrd
import HandS.Walk
import HandS.Zip
import HandS.TryOnly
import HandS.Text
import PyProof.Rows.StrOr
import HandS.FStr
import PyProof.Rows.Digits
import PyProof.FString
import PySem.Challenge.RW_powernumbers_k28_desk_products
set_option Elab.async false
set_option linter.all false
set_option maxRecDepth 100000
namespace Pn
open PySem PySem.Spec PyProof.Rows L2
/-! ### a def that stands in the module, with its promise -/
structure Fn (P : Program) (w : World) (K : PySem.W.Frag) (mg : PySem.Str → Option Value) (base : Heap) (CX : CXT) (k : Nat) (x : PySem.Str) (ps : List PySem.Str) (sp : Sp) : Prop where
  ex : ∃ (f : Addr) (fd : FuncData), mg x = some (.ref f) ∧ PySem.W.keepIn K (.ref f) = true ∧ Binds K fd ps [] ∧ FnOk P w K mg base CX k f fd ps sp
def tFn (sp : Sp) (E : XK) (t : TA) : TE := fun σ H Q => t σ H fun vs H1 => sp vs H1 Q E
section
variable {X : Cx} {CX : CXT} {k : Nat} {x : PySem.Str} {ps : List PySem.Str} {sp : Sp} {E : XK} {t : TA} {e : Expr} {es : List Expr} {p pos : Pos}
theorem pe_fnX (h : Fn X.prog X.w X.K X.mg X.base CX k x ps sp) (hr : Room k X.A) (hg : Gl X x) (hx : Passes CX X E) (ha : PA X (e :: es) t) (hdb : (x == ("__debug__" : PySem.Str)) = false := by decide)
    (he : starEach (e :: es) X.env = (false, eval e X.env) :: starEach es X.env := by rfl) (hpl : (backTo pos (starEach es X.env)).any (·.1) = false := by rfl) :
    PE X (.Call (.Name x p) (e :: es) [] pos) (tFn sp E t) := by
  obtain ⟨f, fd, hm, hk, hb, F⟩ := h.ex
  have g := pe_call (p := p) (pos := pos) F hr hg hm hk hb .nil hx ha hdb he hpl
  have e1 : tCall sp [] E t = tFn sp E t := by
    unfold tCall tFn
    simp only [List.append_nil]
  rw [← e1]
  exact g
theorem pe_fn (h : Fn X.prog X.w X.K X.mg X.base CX0 k x ps sp) (hr : Room k X.A) (hg : Gl X x) (ha : PA X (e :: es) t) (hdb : (x == ("__debug__" : PySem.Str)) = false := by decide)
    (he : starEach (e :: es) X.env = (false, eval e X.env) :: starEach es X.env := by rfl) (hpl : (backTo pos (starEach es X.env)).any (·.1) = false := by rfl) :
    PE X (.Call (.Name x p) (e :: es) [] pos) (tFn sp E0 t) := pe_fnX h hr hg pass0 ha hdb he hpl
end
/-- a promise of nothing -/
theorem ps_void {X : Cx} {st : Stmt} : PS X st (fun _ _ _ => False) := ⟨fun _ _ _ _ _ _ h => h.elim⟩
theorem fn_vac {P : Program} {w : World} {K : PySem.W.Frag} {mg : PySem.Str → Option Value} {base : Heap} {CX : CXT} {k : Nat} {f : Addr} {fd : FuncData} {ps : List PySem.Str} {sp : Sp} (h : ∀ vs H Q E, ¬ sp vs H Q E) : FnOk P w K mg base CX k f fd ps sp :=
  ⟨fun vs H Q E q => (h vs H Q E q).elim, fun _ _ _ _ _ _ _ _ _ _ _ _ _ q => (h _ _ _ _ q).elim⟩
/-! ### rules by values, the written part named (in a comprehension's block X is another one) -/
def rLen (K : PySem.W.Frag) : List V → Hp → VK → Prop := fun xs H Q => ∃ p ys, xs = [.ref p] ∧ (SqL K H p ys ∨ SqT K H p ys) ∧ Q (.int ys.length) H
def rListO (K : PySem.W.Frag) : List V → Hp → VK → Prop := fun xs H Q => ∃ p ys, xs = [.ref p] ∧ (SqL K H p ys ∨ SqT K H p ys) ∧ ∀ l, H l = none → Q (.ref l) (upd H l (.lst ys))
def rTupO (K : PySem.W.Frag) : List V → Hp → VK → Prop := fun xs H Q => ∃ p ys, xs = [.ref p] ∧ ((SqL K H p ys ∧ ∀ l, H l = none → Q (.ref l) (upd H l (.tup ys))) ∨ (SqT K H p ys ∧ Q (.ref p) H))
section
variable {X : Cx} (K : PySem.W.Frag)
theorem k_len (h : X.K = K := by rfl) : CallR X (.builtin "len") (rLen K) := by subst h; exact call_len_seq
theorem k_isi (h : X.K = K := by rfl) : CallR X (.builtin "isinstance") (rIsi K) := by subst h; exact call_isi
theorem k_sum (h : X.K = K := by rfl) (hc : X.calm = true := by rfl) : CallR X (.builtin "sum") (rSum K) := by subst h; exact cr_sum hc
theorem k_min (h : X.K = K := by rfl) (hc : X.calm = true := by rfl) : CallR X (.builtin "min") (rMin K) := by subst h; exact cr_min hc
theorem k_max (h : X.K = K := by rfl) (hc : X.calm = true := by rfl) : CallR X (.builtin "max") (rMax K) := by subst h; exact cr_max hc
theorem k_sorted (h : X.K = K := by rfl) : CallR X (.builtin "sorted") (rSortedI K) := by subst h; exact cr_sortedI
theorem k_list (h : X.K = K := by rfl) : CallR X (.type "list") (rListO K) := by subst h; exact call_list_of
theorem k_tuple (h : X.K = K := by rfl) : CallR X (.type "tuple") (rTupO K) := by subst h; exact call_tuple_of
theorem k_ixL (h : X.K = K := by rfl) : IxR X (rIxL K) := by subst h; exact ix_list
theorem k_ixT (h : X.K = K := by rfl) : IxR X (rIxT K) := by subst h; exact ix_tup
theorem k_slL (h : X.K = K := by rfl) : SlR X (rSlL K) := by subst h; exact sl_list
theorem k_eqD (h : X.K = K := by rfl) (hu : X.A.units + 64 < cLine) : OpR X (compareOp .Eq) (rEqD K) := by subst h; exact op_eqD hu
theorem k_neD (h : X.K = K := by rfl) (hu : X.A.units + 64 < cLine) : OpR X (compareOp .NotEq) (rNeD K) := by subst h; exact op_neD hu
theorem k_in (h : X.K = K := by rfl) : OpR X (compareOp .In) (rIn K false) := by subst h; exact op_in_seq
theorem k_notIn (h : X.K = K := by rfl) : OpR X (compareOp .NotIn) (rIn K true) := by subst h; exact op_notIn_seq
theorem k_catT (h : X.K = K := by rfl) : OpR X (binaryOp .Add) (rCatA K) := by subst h; exact op_catA
def tTru (K : PySem.W.Frag) (ta : TE) : TT := fun σ H Q => ta σ H fun x H' => ∃ k, TruV K x H' k ∧ Q k H'
theorem pt_tru {a : Expr} {ta : TE} (ha : PE X a ta) (he : ∀ whole, isTrue a X.env whole = (do let v ← whole; standAt a.pos; holding [v] (truthy v)) := by intro _; rfl) (h : X.K = K := by rfl) : PT X a (tTru K ta) := by subst h; exact pt_truth ha he
end
/-! ### readings, applied -/
section
variable {σ : L2.St} {H : Hp} {Q : VK} {QT : Bool → Hp → Prop} {QA : List V → Hp → Prop} {K : PySem.W.Frag} {ta tb te : TE} {t u : TT} {tr : TA} {D : Ends} {s1 s2 : TS} {x y v : V}
theorem w_var {i : Nat} : tVar i σ H Q = ∃ v, σ[i]? = some (some v) ∧ Q v H := rfl
theorem w_c : tC v σ H Q = Q v H := rfl
theorem w_op {r : R2} : tOp r ta tb σ H Q = ta σ H fun x H1 => tb σ H1 fun y H2 => r x y H2 Q := rfl
theorem w_I0 {g : Int → Int → V} : rI0 g x y H Q = ∃ i j, x = .int i ∧ y = .int j ∧ Q (g i j) H := rfl
theorem w_I {C : Int → Int → Prop} {g : Int → Int → V} : rI C g x y H Q = ∃ i j, x = .int i ∧ y = .int j ∧ C i j ∧ Q (g i j) H := rfl
theorem w_un {r : V → Hp → VK → Prop} : tUn r ta σ H Q = ta σ H fun x H1 => r x H1 Q := rfl
theorem w_U {g : Int → V} : rU g x H Q = ∃ i, x = .int i ∧ Q (g i) H := rfl
theorem w_eq : rEq x y H Q = (scal x y = true ∧ Q (.bl (decide (x = y))) H) := rfl
theorem w_ne : rNe x y H Q = (scal x y = true ∧ Q (.bl (!decide (x = y))) H) := rfl
theorem w_test : tTest ta σ H QT = ta σ H fun x H1 => ∃ k, x = .bl k ∧ QT k H1 := rfl
theorem w_B : tB ta σ H QT = ta σ H fun x H1 => ∃ k, x = .bl k ∧ QT k H1 := rfl
theorem w_and : tAnd t u σ H QT = t σ H fun c H1 => if c = true then u σ H1 QT else QT false H1 := rfl
theorem w_or : tOr t u σ H QT = t σ H fun c H1 => if c = true then QT true H1 else u σ H1 QT := rfl
theorem w_not : tNot t σ H QT = t σ H fun c H1 => QT (!c) H1 := rfl
theorem w_andV : tAndV ta tb σ H Q = ta σ H fun x H1 => ∃ c, x = .bl c ∧ if c = true then tb σ H1 Q else Q (.bl false) H1 := rfl
theorem w_orV : tOrV ta tb σ H Q = ta σ H fun x H1 => ∃ c, x = .bl c ∧ if c = true then Q (.bl true) H1 else tb σ H1 Q := rfl
theorem w_notV : tNotV ta σ H Q = ta σ H fun x H1 => ∃ c, x = .bl c ∧ Q (.bl (!c)) H1 := rfl
theorem w_ife : tIf t ta tb σ H Q = t σ H fun c H1 => if c = true then ta σ H1 Q else tb σ H1 Q := rfl
theorem w_nil : tNil σ H QA = QA [] H := rfl
theorem w_cons : tCons ta tr σ H QA = ta σ H fun x H1 => tr σ H1 fun xs H2 => QA (x :: xs) H2 := rfl
theorem w_fn {sp : Sp} {E : XK} : tFn sp E tr σ H Q = tr σ H fun vs H1 => sp vs H1 Q E := rfl
theorem w_cb {r : List V → Hp → VK → Prop} : tCB r tr σ H Q = tr σ H fun vs H1 => r vs H1 Q := rfl
theorem w_tup : tTup tr σ H Q = tr σ H fun xs H1 => xs.length ≤ sizeLine ∧ ∀ p, H1 p = none → Q (.ref p) (upd H1 p (.tup xs)) := rfl
theorem w_lst : tLst tr σ H Q = tr σ H fun xs H1 => xs.length ≤ sizeLine ∧ ∀ p, H1 p = none → Q (.ref p) (upd H1 p (.lst xs)) := rfl
theorem w_seq : tSeq s1 s2 D σ H = s1 { D with nx := s2 D } σ H := rfl
theorem w_next : tNext D σ H = D.nx σ H := rfl
theorem w_brk : tBreak D σ H = D.bk σ H := rfl
theorem w_ct : tCont D σ H = D.ct σ H := rfl
theorem w_drop : tDrop te D σ H = te σ H fun _ H1 => D.nx σ H1 := rfl
theorem w_ret : tRet te D σ H = te σ H D.rt := rfl
theorem w_retN : tRetN D σ H = D.rt .non H := rfl
theorem w_ifS : tIfS t s1 s2 D σ H = t σ H fun b H1 => if b = true then s1 D σ H1 else s2 D σ H1 := rfl
theorem w_asgN {i : Nat} : tAsg te (gName i) D σ H = te σ H fun x H1 => D.nx (σ.set i (some x)) H1 := rfl
theorem w_asgT {n : Nat} {t : TGs} : tAsg te (gTup K n t) D σ H = te σ H fun v H1 => ∃ a xs, v = .ref a ∧ SqT K H1 a xs ∧ xs.length = n ∧ t xs σ H1 D.nx := rfl
theorem w_asgS {to ti : TE} {ts : TSet} : tAsg te (gSub to ti ts) D σ H = te σ H fun v H1 => to σ H1 fun o H2 => ti σ H2 fun i H3 => ts o i v H3 fun H4 => D.nx σ H4 := rfl
theorem w_gName {i : Nat} {QN : L2.St → Hp → Prop} : gName i v σ H QN = QN (σ.set i (some v)) H := rfl
theorem w_gNil {vs : List V} {QN : L2.St → Hp → Prop} : gNil vs σ H QN = (vs = [] ∧ QN σ H) := rfl
theorem w_gCons {g : TG} {gs : TGs} {vs : List V} {QN : L2.St → Hp → Prop} : gCons g gs vs σ H QN = ∃ v r, vs = v :: r ∧ g v σ H fun σ' H' => gs r σ' H' QN := rfl
theorem w_par {i j : Nat} : tPar i j tr D σ H = tr σ H fun vs H1 => ∃ v w, vs = [v, w] ∧ D.nx ((σ.set i (some v)).set j (some w)) H1 := rfl
theorem w_bits : tBits te σ H Q = te σ H fun x H1 => ∃ i, x = .int i ∧ Q (.int (Builtin.Int.intBits i : Nat)) H1 := rfl
theorem w_sl {r : V → Option Int → Option Int → Hp → VK → Prop} {tl th : TO} : tSl r te tl th σ H Q = te σ H fun x H1 => tl σ H1 fun l H2 => th σ H2 fun u H3 => r x l u H3 Q := rfl
theorem w_np {QO : Option Int → Hp → Prop} : tNoPart σ H QO = QO none H := rfl
theorem w_part {QO : Option Int → Hp → Prop} : tPart te σ H QO = te σ H fun x H1 => ∃ i, x = .int i ∧ QO (some i) H1 := rfl
theorem w_bm {T : String} {r : V → List V → Hp → VK → Prop} : tBM K T r te tr σ H Q = te σ H fun x H1 => tyV K T x H1 ∧ tr σ H1 fun xs H2 => r x xs H2 Q := rfl
theorem w_bm0 {T : String} {r : V → List V → Hp → VK → Prop} : tBM0 K T r te σ H Q = te σ H fun x H1 => tyV K T x H1 ∧ r x [] H1 Q := rfl
theorem w_cxK {CX : CXT} {P : Program} {w : World} {mg : PySem.Str → Option Value} {base : Heap} {N : List PySem.Str} {qual : PySem.Str} {scope : Scope} {f : Addr} {cd : Value} {A : Around} {outer : List Env} {s : Shared} {E : XK} : (cxOf CX P w K mg base N qual scope f cd A outer s H E).K = K := rfl
theorem w_aug {i : Nat} {ti : TIp} : tAug i te ti D σ H = ∃ x, σ[i]? = some (some x) ∧ te σ H fun y H1 => ti x y H1 fun z H2 => D.nx (σ.set i (some z)) H2 := rfl
theorem w_ipI {f : Int → Int → Int} : ipI f x y H Q = ∃ i j, x = .int i ∧ y = .int j ∧ Q (.int (f i j)) H := rfl
/-! ### readings that look into the heap -/
theorem r_ixL {p : Addr} {xs : List V} {i : Int} (h : SqL K H p xs) (ha : atI xs i = some v) (q : Q v H) : rIxL K (.ref p) (.int i) H Q := ⟨p, xs, i, v, rfl, rfl, h, ha, q⟩
theorem r_ixT {p : Addr} {xs : List V} {i : Int} (h : SqT K H p xs) (ha : atI xs i = some v) (q : Q v H) : rIxT K (.ref p) (.int i) H Q := ⟨p, xs, i, v, rfl, rfl, h, ha, q⟩
theorem r_slL {p : Addr} {xs : List V} {lo hi : Option Int} (h : SqL K H p xs) (q : ∀ l, H l = none → Q (.ref l) (upd H l (.lst (cutV xs lo hi)))) : rSlL K (.ref p) lo hi H Q := ⟨p, xs, rfl, h, q⟩
theorem r_sum {p : Addr} {ns : List Int} (h : SqL K H p (ns.map V.int)) (q : Q (.int ns.sum) H) : rSum K [.ref p] H Q := ⟨p, ns, rfl, h, q⟩
theorem r_setL {p : Addr} {xs : List V} {k : Int} {j : Nat} {QH : Hp → Prop} (h : H p = some (.lst xs)) (hj : ixN xs.length k = some j) (q : QH (upd H p (.lst (xs.set j v)))) : rSetL (.ref p) (.int k) v H QH := ⟨p, xs, k, j, rfl, rfl, h, hj, q⟩
theorem r_app {p : Addr} {xs : List V} (h : H p = some (.lst xs)) (hl : xs.length < sizeLine) (q : Q .non (upd H p (.lst (xs ++ [v])))) : rAppend (.ref p) [v] H Q := ⟨p, xs, v, rfl, rfl, h, hl, q⟩
theorem r_len {p : Addr} {xs : List V} (h : SqL K H p xs) (q : Q (.int (xs.length : Int)) H) : rLen K [.ref p] H Q := ⟨p, xs, rfl, .inl h, q⟩
theorem r_lenT {p : Addr} {xs : List V} (h : SqT K H p xs) (q : Q (.int (xs.length : Int)) H) : rLen K [.ref p] H Q := ⟨p, xs, rfl, .inr h, q⟩
theorem r_listL {p : Addr} {xs : List V} (h : SqL K H p xs) (q : ∀ l, H l = none → Q (.ref l) (upd H l (.lst xs))) : rListO K [.ref p] H Q := ⟨p, xs, rfl, .inl h, q⟩
theorem r_listT {p : Addr} {xs : List V} (h : SqT K H p xs) (q : ∀ l, H l = none → Q (.ref l) (upd H l (.lst xs))) : rListO K [.ref p] H Q := ⟨p, xs, rfl, .inr h, q⟩
theorem r_tupL {p : Addr} {xs : List V} (h : SqL K H p xs) (q : ∀ l, H l = none → Q (.ref l) (upd H l (.tup xs))) : rTupO K [.ref p] H Q := ⟨p, xs, rfl, .inl ⟨h, q⟩⟩
theorem r_tupT {p : Addr} {xs : List V} (h : SqT K H p xs) (q : Q (.ref p) H) : rTupO K [.ref p] H Q := ⟨p, xs, rfl, .inr ⟨h, q⟩⟩
theorem r_min {p : Addr} {ns : List Int} (h : SqL K H p (ns.map V.int)) (h0 : 0 < ns.length) (q : ∀ m, m ∈ ns → (∀ y, y ∈ ns → m ≤ y) → Q (.int m) H) : rMin K [.ref p] H Q := ⟨p, ns, rfl, h, h0, q⟩
theorem r_max {p : Addr} {ns : List Int} (h : SqL K H p (ns.map V.int)) (h0 : 0 < ns.length) (q : ∀ m, m ∈ ns → (∀ y, y ∈ ns → y ≤ m) → Q (.int m) H) : rMax K [.ref p] H Q := ⟨p, ns, rfl, h, h0, q⟩
theorem r_sortedI {p : Addr} {ns : List Int} (h : SqL K H p (ns.map V.int)) (q : ∀ (ns' : List Int) (l : Addr), ns'.Perm ns → ns'.Pairwise (· ≤ ·) → H l = none → Q (.ref l) (upd H l (.lst (ns'.map V.int)))) : rSortedI K [.ref p] H Q := ⟨p, ns, rfl, h, q⟩
theorem r_cat {l b : Addr} {xs zs : List V} (h1 : H l = some (.lst xs)) (h2 : H b = some (.lst zs)) (hl : xs.length + zs.length ≤ sizeLine) (q : ∀ p, H p = none → Q (.ref p) (upd H p (.lst (xs ++ zs)))) : rCat (.ref l) (.ref b) H Q := ⟨l, b, xs, zs, rfl, rfl, h1, h2, hl, q⟩
theorem r_catA {a b : Addr} {xs ys : List V} (h1 : SqT K H a xs) (h2 : SqT K H b ys) (hl : xs.length + ys.length ≤ sizeLine) (q0 : xs = [] → Q (.ref b) H) (q1 : xs ≠ [] → ys = [] → Q (.ref a) H) (q2 : xs ≠ [] → ys ≠ [] → ∀ p, H p = none → Q (.ref p) (upd H p (.tup (xs ++ ys)))) : rCatA K (.ref a) (.ref b) H Q :=
  ⟨a, b, xs, ys, rfl, rfl, h1, h2, hl, q0, q1, q2⟩
theorem ty_list {p : Addr} {xs : List V} (h : SqL K H p xs) : tyV K "list" (.ref p) H := .inl ⟨rfl, xs, h⟩
/-- a statement, then the rest, with a word between -/
theorem cut_m (Mid : L2.St → Hp → Prop) (h1 : ∀ N : L2.St → Hp → Prop, (∀ σ' H', Mid σ' H' → N σ' H') → s1 { D with nx := N } σ H) (h2 : ∀ σ' H', Mid σ' H' → s2 D σ' H') : Evl.tCut s1 s2 D σ H :=
  ⟨Mid, h1 Mid fun _ _ z => z, h2⟩
/-- a while, by a word with its measure; G: a turn is wanted, N: what is wanted behind it -/
theorem while_m {c : TT} (Pv : Nat → L2.St → Hp → Prop) (m0 : Nat) (h0 : Pv m0 σ H)
    (hs : ∀ m σ H, Pv m σ H → ∀ G : L2.St → Hp → Prop, (∀ σ1 H1, (∀ N : L2.St → Hp → Prop, (∀ m' σ' H', m' < m → Pv m' σ' H' → N σ' H') → s1 { D with nx := N, ct := N, bk := D.nx } σ1 H1) → G σ1 H1) →
      c σ H fun b H1 => if b = true then G σ H1 else D.nx σ H1) : tWhile c s1 D σ H :=
  ⟨Pv, ⟨m0, h0⟩, fun m σ H p => hs m σ H p (fun σ1 H1 => ∃ N : L2.St → Hp → Prop, (∀ σ' H', N σ' H' → ∃ m', m' < m ∧ Pv m' σ' H') ∧ s1 { D with nx := N, ct := N, bk := D.nx } σ1 H1)
    fun σ1 H1 h => ⟨_, fun _ _ z => z, h (fun σ' H' => ∃ m', m' < m ∧ Pv m' σ' H') fun m' _ _ h1 h2 => ⟨m', h1, h2⟩⟩⟩
/-- the turns of a for: over a list at a, a tuple at a, lo, lo + 1, .. (n of them) -/
def FJ (J : It) (g : TG) (s1 : TS) (D : Ends) (σ : L2.St) (H : Hp) : Prop := ∃ W : Nat → Nat → L2.St → Hp → Prop, (∃ m, W 0 m σ H) ∧ ∀ i m σ H, W i m σ H →
  (J.stop i H ∧ D.nx σ H) ∨ (J.go i H ∧ ∃ N : L2.St → Hp → Prop, (∀ σ' H', N σ' H' → ∃ m', m' < m ∧ W (i + 1) m' σ' H') ∧ ∀ x H', J.yld i H x H' → g x σ H' fun σ2 H2 => s1 { D with nx := N, ct := N, bk := D.nx } σ2 H2)
theorem w_tru : tTru K te σ H QT = te σ H fun x H1 => ∃ k, TruV K x H1 k ∧ QT k H1 := rfl
theorem w_forL {g : TG} : tFor (iList K te) g s1 D σ H = te σ H fun x H1 => ∃ a, x = .ref a ∧ (∃ xs, SqL K H1 a xs) ∧ FJ (Itl K a) g s1 D σ H1 := rfl
theorem w_forT {g : TG} : tFor (iTup K te) g s1 D σ H = te σ H fun x H1 => ∃ a, x = .ref a ∧ (∃ xs, SqT K H1 a xs) ∧ FJ (Itt K a) g s1 D σ H1 := rfl
theorem w_for1 {g : TG} : tFor (iRng1 tr) g s1 D σ H = tr σ H fun vs H1 => ∃ j : Int, vs = [.int j] ∧ -(2 ^ 62) ≤ j ∧ j < 2 ^ 62 ∧ FJ (Itr 0 j.toNat) g s1 D σ H1 := rfl
theorem w_for2 {g : TG} : tFor (iRng2 tr) g s1 D σ H = tr σ H fun vs H1 => ∃ i j : Int, vs = [.int i, .int j] ∧ (-(2 ^ 62) ≤ i ∧ i < 2 ^ 62 ∧ -(2 ^ 62) ≤ j ∧ j < 2 ^ 62) ∧ FJ (Itr i (j - i).toNat) g s1 D σ H1 := rfl
theorem w_for3 {g : TG} : tFor (iRng3 tr) g s1 D σ H = tr σ H fun vs H1 => ∃ (i j c : Int) (n : Nat), vs = [.int i, .int j, .int c] ∧ RgC i j c n ∧ FJ (Itc i c n) g s1 D σ H1 := rfl
theorem for_c {lo c : Int} {n : Nat} {g : TG} (Pv : Nat → L2.St → Hp → Prop) (h0 : Pv 0 σ H)
    (hs : ∀ i σ H, i < n → Pv i σ H → ∀ N : L2.St → Hp → Prop, (∀ σ' H', Pv (i + 1) σ' H' → N σ' H') → g (.int (lo + (i : Nat) * c)) σ H fun σ2 H2 => s1 { D with nx := N, ct := N, bk := D.nx } σ2 H2) (hd : ∀ σ H, Pv n σ H → D.nx σ H) :
    FJ (Itc lo c n) g s1 D σ H := for_rangeC Pv h0 (fun i σ H hx hp => hs i σ H hx hp _ fun _ _ z => z) hd
theorem for_l {a : Addr} {xs : List V} {g : TG} (Pv : Nat → L2.St → Hp → Prop) (h0 : Pv 0 σ H) (hl : ∀ i σ H, i ≤ xs.length → Pv i σ H → SqL K H a xs)
    (hs : ∀ i x σ H, xs[i]? = some x → Pv i σ H → ∀ N : L2.St → Hp → Prop, (∀ σ' H', Pv (i + 1) σ' H' → N σ' H') → g x σ H fun σ2 H2 => s1 { D with nx := N, ct := N, bk := D.nx } σ2 H2) (hd : ∀ σ H, Pv xs.length σ H → D.nx σ H) :
    FJ (Itl K a) g s1 D σ H := for_list Pv h0 hl (fun i x σ H hx hp => hs i x σ H hx hp _ fun _ _ z => z) hd
theorem for_t {a : Addr} {xs : List V} {g : TG} (Pv : Nat → L2.St → Hp → Prop) (h0 : Pv 0 σ H) (hl : ∀ i σ H, i ≤ xs.length → Pv i σ H → SqT K H a xs)
    (hs : ∀ i x σ H, xs[i]? = some x → Pv i σ H → ∀ N : L2.St → Hp → Prop, (∀ σ' H', Pv (i + 1) σ' H' → N σ' H') → g x σ H fun σ2 H2 => s1 { D with nx := N, ct := N, bk := D.nx } σ2 H2) (hd : ∀ σ H, Pv xs.length σ H → D.nx σ H) :
    FJ (Itt K a) g s1 D σ H := for_tup Pv h0 hl (fun i x σ H hx hp => hs i x σ H hx hp _ fun _ _ z => z) hd
theorem for_r {lo : Int} {n : Nat} {g : TG} (Pv : Nat → L2.St → Hp → Prop) (h0 : Pv 0 σ H)
    (hs : ∀ i σ H, i < n → Pv i σ H → ∀ N : L2.St → Hp → Prop, (∀ σ' H', Pv (i + 1) σ' H' → N σ' H') → g (.int (lo + i)) σ H fun σ2 H2 => s1 { D with nx := N, ct := N, bk := D.nx } σ2 H2) (hd : ∀ σ H, Pv n σ H → D.nx σ H) :
    FJ (Itr lo n) g s1 D σ H := for_range Pv h0 (fun i σ H hx hp => hs i σ H hx hp _ fun _ _ z => z) hd
end
/-! ### heaps -/
theorem ne_fresh {H : Hp} {a b : Addr} {o : HO} (h' : H b = none) (h : H a = some o) : a ≠ b := ne_of_none h h'
theorem upd_free {H : Hp} {a p : Addr} {o : HO} (h : upd H a o p = none) : H p = none := by
  unfold upd at h
  split at h
  · cases h
  · exact h
theorem upd_free_ne {H : Hp} {a p : Addr} {o : HO} (h : upd H a o p = none) : p ≠ a := by
  intro e
  rw [e, upd_same] at h
  cases h
theorem same_new {H : Hp} {p : Addr} {o : HO} (h : H p = none) : Same H (upd H p o) := fun b x e => by
  rw [upd_ne (ne_of_none e h)]
  exact e
/-- all that was tracked is as it was, but what stands at a -/
def Kp (a : Addr) (H H' : Hp) : Prop := ∀ b o, b ≠ a → H b = some o → H' b = some o
theorem Kp.refl (a : Addr) (H : Hp) : Kp a H H := fun _ _ _ h => h
theorem Kp.trans {a : Addr} {H H1 H2 : Hp} (x : Kp a H H1) (y : Kp a H1 H2) : Kp a H H2 := fun b o n h => y b o n (x b o n h)
theorem sm_kp {a : Addr} {H H' : Hp} (x : Same H H') : Kp a H H' := fun b o _ h => x b o h
theorem Kp.upd {a : Addr} {H H' : Hp} {o : HO} (x : Kp a H H') : Kp a H (upd H' a o) := fun b u n h => by
  rw [upd_ne n]
  exact x b u n h
theorem Kp.new {a p : Addr} {H H' : Hp} {o : HO} (x : Kp a H H') (hp : H p = none) : Kp a H (L2.upd H' p o) := fun b u n h => by
  rw [upd_ne (ne_of_none h hp)]
  exact x b u n h
theorem Kp.free {a p : Addr} {H H' : Hp} (x : Kp a H H') (n : p ≠ a) (hp : H' p = none) : H p = none := by
  cases q : H p with
  | none => rfl
  | some o =>
    rw [x p o n q] at hp
    cases hp
theorem Kp.seq {K : PySem.W.Frag} {a : Addr} {H H' : Hp} {l : Addr} {xs : List V} (x : Kp a H H') (n : l ≠ a) (h : SqL K H l xs) : SqL K H' l xs := by
  rcases h with (h | ⟨o, h⟩) | h
  · exact .inl (.inl (x _ _ n h))
  · exact .inl (.inr ⟨o, x _ _ n h⟩)
  · exact .inr h
theorem sm_new {p : Addr} {H H' : Hp} {o : HO} (x : Same H H') (hp : H p = none) : Same H (L2.upd H' p o) := fun b u h => by
  rw [upd_ne (ne_of_none h hp)]
  exact x b u h
theorem cut_to (xs : List V) (k : Nat) : cutV xs none (some (k : Int)) = xs.take k := by
  unfold cutV
  rw [HT.sIx_none, HT.sIx_nat]
  simp only [List.drop_zero, Nat.sub_zero]
  rcases Nat.le_total k xs.length with h | h
  · rw [Nat.min_eq_left h]
  · rw [Nat.min_eq_right h, List.take_of_length_le (Nat.le_refl _), List.take_of_length_le h]
theorem cut_from (xs : List V) (k : Nat) : cutV xs (some (k : Int)) none = xs.drop k := by
  unfold cutV
  rw [HT.sIx_none, HT.sIx_nat]
  rcases Nat.le_total k xs.length with h | h
  · rw [Nat.min_eq_left h, List.take_of_length_le (by simp)]
  · rw [Nat.min_eq_right h, List.drop_eq_nil_of_le (Nat.le_refl _), List.drop_eq_nil_of_le h]
    simp
theorem atI_mem {xs : List V} {i : Int} (h0 : 0 ≤ i) (h1 : i < xs.length) : ∃ v, v ∈ xs ∧ atI xs i = some v := by
  obtain ⟨j, rfl⟩ := Int.eq_ofNat_of_zero_le h0
  have hj : j < xs.length := by omega
  exact ⟨xs[j], List.getElem_mem hj, atI_nat (List.getElem?_eq_getElem hj)⟩
theorem atI_ints {ns : List Int} {i : Int} (h0 : 0 ≤ i) (h1 : i < ns.length) : ∃ z, z ∈ ns ∧ atI (ns.map V.int) i = some (.int z) := by
  obtain ⟨j, rfl⟩ := Int.eq_ofNat_of_zero_le h0
  have hj : j < ns.length := by omega
  exact ⟨ns[j], List.getElem_mem hj, atI_nat (by rw [List.getElem?_map, List.getElem?_eq_getElem hj]; rfl)⟩
/-! ### data that is compared: ints, tuples and lists of ints, pairs of ints -/
def dI (ns : List Int) : List PyData := ns.map PyData.int
theorem canLay_ints : ∀ ns : List Int, PyData.canLayAll0 (dI ns) = true
  | [] => by simp [dI, PyData.canLayAll0]
  | n :: r => by
    have := canLay_ints r
    simp only [dI] at this ⊢
    simp [PyData.canLayAll0, PyData.canLay0, this]
theorem depth_ints : ∀ ns : List Int, PyData.depthAll (dI ns) = 0
  | [] => by simp [dI, PyData.depthAll]
  | n :: r => by
    have := depth_ints r
    simp only [dI] at this ⊢
    simp [PyData.depthAll, PyData.depth, this]
theorem eqv_ints : ∀ ns ms : List Int, PyData.eqvAll (dI ns) (dI ms) = decide (ns = ms)
  | [], [] => by simp [dI, PyData.eqvAll]
  | [], _ :: _ => by simp [dI, PyData.eqvAll]
  | _ :: _, [] => by simp [dI, PyData.eqvAll]
  | n :: r, m :: t => by
    have := eqv_ints r t
    simp only [dI] at this ⊢
    simp only [List.map_cons, PyData.eqvAll, PyData.eqv, this, List.cons.injEq]
    rw [Bool.decide_and, Bool.beq_eq_decide_eq]
theorem dpAll_ints {K : PySem.W.Frag} {H : Hp} : ∀ ns : List Int, DpAll K H (ns.map V.int) (dI ns)
  | [] => .nil
  | n :: r => .cons (.int n) (dpAll_ints r)
theorem sh_tI (ns : List Int) : SeqAt.shaped (.tuple (dI ns)) = true := by
  unfold SeqAt.shaped
  simp [PyData.canLay0, PyData.depth, canLay_ints, depth_ints]
theorem sh_lI (ns : List Int) : SeqAt.shaped (.list (dI ns)) = true := by
  unfold SeqAt.shaped
  simp [PyData.canLay0, PyData.depth, canLay_ints, depth_ints]
/-- pairs of ints -/
def dP (ps : List (Int × Int)) : List PyData := ps.map fun p => PyData.tuple (dI [p.1, p.2])
theorem canLay_pairs : ∀ ps : List (Int × Int), PyData.canLayAll0 (dP ps) = true
  | [] => by simp [dP, PyData.canLayAll0]
  | n :: r => by
    have := canLay_pairs r
    simp only [dP] at this ⊢
    simp [PyData.canLayAll0, PyData.canLay0, this, canLay_ints]
theorem depth_pairs : ∀ ps : List (Int × Int), PyData.depthAll (dP ps) ≤ 1
  | [] => by simp [dP, PyData.depthAll]
  | n :: r => by
    have := depth_pairs r
    simp only [dP] at this ⊢
    simp only [List.map_cons, PyData.depthAll, PyData.depth, depth_ints]
    omega
theorem eqv_pairs : ∀ ns ms : List (Int × Int), PyData.eqvAll (dP ns) (dP ms) = decide (ns = ms)
  | [], [] => by simp [dP, PyData.eqvAll]
  | [], _ :: _ => by simp [dP, PyData.eqvAll]
  | _ :: _, [] => by simp [dP, PyData.eqvAll]
  | (a, b) :: r, (c, d) :: t => by
    have := eqv_pairs r t
    simp only [dP] at this ⊢
    simp only [List.map_cons, PyData.eqvAll, PyData.eqv, this, List.cons.injEq, eqv_ints, Prod.mk.injEq, and_true]
    simp only [Bool.decide_and]
theorem sh_tP (ns : List (Int × Int)) : SeqAt.shaped (.tuple (dP ns)) = true := by
  unfold SeqAt.shaped
  have := depth_pairs ns
  simp only [PyData.canLay0, PyData.depth, canLay_pairs, Bool.true_and, decide_eq_true_eq]
  exact decide_eq_true (by omega)
theorem sh_lP (ns : List (Int × Int)) : SeqAt.shaped (.list (dP ns)) = true := by
  unfold SeqAt.shaped
  have := depth_pairs ns
  simp only [PyData.canLay0, PyData.depth, canLay_pairs, Bool.true_and, decide_eq_true_eq]
  exact decide_eq_true (by omega)
/-- tuples of two ints stand at these addresses -/
def PairsAt (K : PySem.W.Frag) (H : Hp) (as : List Addr) (ps : List (Int × Int)) : Prop := as.length = ps.length ∧ ∀ (i : Nat) (a : Addr) (p : Int × Int), as[i]? = some a → ps[i]? = some p → SqT K H a [.int p.1, .int p.2]
theorem PairsAt.nil {K : PySem.W.Frag} {H : Hp} : PairsAt K H [] [] := ⟨rfl, fun _ _ _ h => by simp at h⟩
theorem PairsAt.snoc {K : PySem.W.Frag} {H : Hp} {as : List Addr} {ps : List (Int × Int)} {a : Addr} {p : Int × Int} (h : PairsAt K H as ps) (hp : SqT K H a [.int p.1, .int p.2]) : PairsAt K H (as ++ [a]) (ps ++ [p]) := by
  refine ⟨by simp [h.1], fun i b q h1 h2 => ?_⟩
  rcases Nat.lt_or_ge i as.length with c | c
  · rw [List.getElem?_append_left c] at h1
    rw [List.getElem?_append_left (by rw [← h.1]; exact c)] at h2
    exact h.2 i b q h1 h2
  · rw [List.getElem?_append_right c] at h1
    rw [List.getElem?_append_right (by rw [← h.1]; exact c)] at h2
    have e1 : i - as.length = 0 := by
      have := (List.getElem?_eq_some_iff.mp h1).1
      simp at this
      omega
    rw [← h.1, e1] at h2
    rw [e1] at h1
    simp at h1 h2
    subst h1 h2
    exact hp
theorem dpAll_pairs {K : PySem.W.Frag} {H : Hp} : ∀ {as : List Addr} {ps : List (Int × Int)}, PairsAt K H as ps → DpAll K H (as.map V.ref) (dP ps)
  | [], [], _ => .nil
  | [], _ :: _, h => by
    have := h.1
    simp at this
  | _ :: _, [], h => by
    have := h.1
    simp at this
  | a :: as, p :: ps, h => .cons (.tup (h.2 0 a p rfl rfl) (dpAll_ints [p.1, p.2])) (dpAll_pairs ⟨by have := h.1; simp at this; exact this, fun i b q h1 h2 => h.2 (i + 1) b q (by simpa using h1) (by simpa using h2)⟩)
/-- a number, or None -/
def vo : Option Nat → V
  | some n => .int (n : Int)
  | none => .non
def dO : Option Nat → PyData
  | some n => .int (n : Int)
  | none => .none
theorem dp_o {K : PySem.W.Frag} {H : Hp} : ∀ l : Option Nat, Dp K H (vo l) (dO l)
  | some n => .int _
  | none => .non
theorem eqv_o : ∀ l l' : Option Nat, PyData.eqv (dO l) (dO l') = decide (l = l')
  | some a, some b => by
    simp only [dO, PyData.eqv, Option.some.injEq, Int.natCast_inj, Bool.beq_eq_decide_eq]
  | some a, none => by simp [dO, PyData.eqv]
  | none, some b => by simp [dO, PyData.eqv]
  | none, none => by simp [dO, PyData.eqv]
theorem sh_o (l : Option Nat) (g : Int) : SeqAt.shaped (.tuple [dO l, .int g]) = true := by cases l <;> rfl
section
variable {K : PySem.W.Frag} {H : Hp} {Q : VK} {a b : Addr}
theorem r_eqT {ns ms : List Int} (hx : SqT K H a (ns.map V.int)) (hy : SqT K H b (ms.map V.int)) (q : Q (.bl (decide (ns = ms))) H) : rEqD K (.ref a) (.ref b) H Q :=
  ⟨.tuple (dI ns), .tuple (dI ms), .tup hx (dpAll_ints ns), .tup hy (dpAll_ints ms), sh_tI ns, sh_tI ms, by rw [PyData.eqv, eqv_ints]; exact q⟩
theorem r_neT {ns ms : List Int} (hx : SqT K H a (ns.map V.int)) (hy : SqT K H b (ms.map V.int)) (q : Q (.bl (!decide (ns = ms))) H) : rNeD K (.ref a) (.ref b) H Q :=
  ⟨.tuple (dI ns), .tuple (dI ms), .tup hx (dpAll_ints ns), .tup hy (dpAll_ints ms), sh_tI ns, sh_tI ms, by rw [PyData.eqv, eqv_ints]; exact q⟩
theorem r_eqL {ns ms : List Int} (hx : SqL K H a (ns.map V.int)) (hy : SqL K H b (ms.map V.int)) (q : Q (.bl (decide (ns = ms))) H) : rEqD K (.ref a) (.ref b) H Q :=
  ⟨.list (dI ns), .list (dI ms), .lst hx (dpAll_ints ns), .lst hy (dpAll_ints ms), sh_lI ns, sh_lI ms, by rw [PyData.eqv, eqv_ints]; exact q⟩
theorem r_neL {ns ms : List Int} (hx : SqL K H a (ns.map V.int)) (hy : SqL K H b (ms.map V.int)) (q : Q (.bl (!decide (ns = ms))) H) : rNeD K (.ref a) (.ref b) H Q :=
  ⟨.list (dI ns), .list (dI ms), .lst hx (dpAll_ints ns), .lst hy (dpAll_ints ms), sh_lI ns, sh_lI ms, by rw [PyData.eqv, eqv_ints]; exact q⟩
theorem r_eqTP {as bs : List Addr} {ns ms : List (Int × Int)} (hx : SqT K H a (as.map V.ref)) (ha : PairsAt K H as ns) (hy : SqT K H b (bs.map V.ref)) (hb : PairsAt K H bs ms) (q : Q (.bl (decide (ns = ms))) H) : rEqD K (.ref a) (.ref b) H Q :=
  ⟨.tuple (dP ns), .tuple (dP ms), .tup hx (dpAll_pairs ha), .tup hy (dpAll_pairs hb), sh_tP ns, sh_tP ms, by rw [PyData.eqv, eqv_pairs]; exact q⟩
theorem r_neTP {as bs : List Addr} {ns ms : List (Int × Int)} (hx : SqT K H a (as.map V.ref)) (ha : PairsAt K H as ns) (hy : SqT K H b (bs.map V.ref)) (hb : PairsAt K H bs ms) (q : Q (.bl (!decide (ns = ms))) H) : rNeD K (.ref a) (.ref b) H Q :=
  ⟨.tuple (dP ns), .tuple (dP ms), .tup hx (dpAll_pairs ha), .tup hy (dpAll_pairs hb), sh_tP ns, sh_tP ms, by rw [PyData.eqv, eqv_pairs]; exact q⟩
theorem r_eqLP {as bs : List Addr} {ns ms : List (Int × Int)} (hx : SqL K H a (as.map V.ref)) (ha : PairsAt K H as ns) (hy : SqL K H b (bs.map V.ref)) (hb : PairsAt K H bs ms) (q : Q (.bl (decide (ns = ms))) H) : rEqD K (.ref a) (.ref b) H Q :=
  ⟨.list (dP ns), .list (dP ms), .lst hx (dpAll_pairs ha), .lst hy (dpAll_pairs hb), sh_lP ns, sh_lP ms, by rw [PyData.eqv, eqv_pairs]; exact q⟩
theorem r_neLP {as bs : List Addr} {ns ms : List (Int × Int)} (hx : SqL K H a (as.map V.ref)) (ha : PairsAt K H as ns) (hy : SqL K H b (bs.map V.ref)) (hb : PairsAt K H bs ms) (q : Q (.bl (!decide (ns = ms))) H) : rNeD K (.ref a) (.ref b) H Q :=
  ⟨.list (dP ns), .list (dP ms), .lst hx (dpAll_pairs ha), .lst hy (dpAll_pairs hb), sh_lP ns, sh_lP ms, by rw [PyData.eqv, eqv_pairs]; exact q⟩
theorem r_neO {l l' : Option Nat} {g g' : Nat} (hx : SqT K H a [vo l, .int (g : Int)]) (hy : SqT K H b [vo l', .int (g' : Int)]) (q : Q (.bl (!decide (l = l' ∧ g = g'))) H) : rNeD K (.ref a) (.ref b) H Q :=
  ⟨.tuple [dO l, .int g], .tuple [dO l', .int g'], .tup hx (.cons (dp_o l) (.cons (.int _) .nil)), .tup hy (.cons (dp_o l') (.cons (.int _) .nil)), sh_o l g, sh_o l' g', by
    rw [PyData.eqv]
    simp only [PyData.eqvAll, eqv_o, PyData.eqv, Bool.and_true]
    have : (decide (l = l') && ((g : Int) == (g' : Int))) = decide (l = l' ∧ g = g') := by
      rw [Bool.decide_and, Bool.beq_eq_decide_eq]
      simp only [Int.natCast_inj]
    rw [this]
    exact q⟩
theorem r_eqO {l l' : Option Nat} {g g' : Nat} (hx : SqT K H a [vo l, .int (g : Int)]) (hy : SqT K H b [vo l', .int (g' : Int)]) (q : Q (.bl (decide (l = l' ∧ g = g'))) H) : rEqD K (.ref a) (.ref b) H Q :=
  ⟨.tuple [dO l, .int g], .tuple [dO l', .int g'], .tup hx (.cons (dp_o l) (.cons (.int _) .nil)), .tup hy (.cons (dp_o l') (.cons (.int _) .nil)), sh_o l g, sh_o l' g', by
    rw [PyData.eqv]
    simp only [PyData.eqvAll, eqv_o, PyData.eqv, Bool.and_true]
    have : (decide (l = l') && ((g : Int) == (g' : Int))) = decide (l = l' ∧ g = g') := by
      rw [Bool.decide_and, Bool.beq_eq_decide_eq]
      simp only [Int.natCast_inj]
    rw [this]
    exact q⟩
theorem ty_non : TyX K H .non (.type "NoneType") := .base .non
/-- isinstance of a built-in class -/
theorem r_isi {x : V} {T n : String} {c : Bool} (ty : TyX K H x (.type T)) (hk : kitB T n = some c) (q : Q (.bl c) H) : rIsi K [x, .ty n] H Q := ⟨x, .ty n, .type T, .type n, c, rfl, .ty n, ty, kit_ty hk, q⟩
theorem ty_int (i : Int) : TyX K H (.int i) (.type "int") := .base (.int i)
theorem ty_bl (c : Bool) : TyX K H (.bl c) (.type "bool") := .base (.bl c)
theorem ty_str (c : PySem.Str) : TyX K H (.str c) (.type "str") := .base (.str c)
theorem ty_tup {xs : List V} (h : SqT K H a xs) : TyX K H (.ref a) (.type "tuple") := by
  rcases h with (h | ⟨o, h⟩) | ⟨o, its, n, h1, h2, _⟩
  · exact .base (.tup h)
  · exact .fTuple h
  · exact .kTuple h1 h2
theorem ty_lst {xs : List V} (h : SqL K H a xs) : TyX K H (.ref a) (.type "list") := by
  rcases h with (h | ⟨o, h⟩) | ⟨o, its, n, h1, h2, _⟩
  · exact .base (.lst h)
  · exact .base (.frz h)
  · exact .kList h1 h2
end
/-- all of these stand at tuples of a number to 10 ** 40 and an exponent from 1 to 200 -/
def Jobs (H : Hp) (xs : List V) : Prop := ∀ x ∈ xs, ∃ (a : Addr) (n e : Nat), x = .ref a ∧ H a = some (.tup [.int n, .int e]) ∧ n ≤ 10 ^ 40 ∧ 1 ≤ e ∧ e ≤ 200
theorem Jobs.kp {H H' : Hp} {xs : List V} {d : Addr} (h : Jobs H xs) (k : Kp d H H') (hd : ∃ ys, H d = some (.lst ys)) : Jobs H' xs := fun x hx => by
  obtain ⟨a, n, e, h1, h2, h3⟩ := h x hx
  obtain ⟨ys, hy⟩ := hd
  exact ⟨a, n, e, h1, k _ _ (ne_of h2 hy (by intro z; cases z)) h2, h3⟩
theorem Jobs.same {H H' : Hp} {xs : List V} (h : Jobs H xs) (k : Same H H') : Jobs H' xs := fun x hx => by
  obtain ⟨a, n, e, h1, h2, h3⟩ := h x hx
  exact ⟨a, n, e, h1, k _ _ h2, h3⟩
/-- a value that is no truth -/
def tyFalse (K : PySem.W.Frag) (x : V) (H : Hp) : Prop := ∃ T : String, TyX K H x (.type T) ∧ kitB T "bool" = some false
/-! ### a comprehension whose turns change nothing that was there -/
section
variable {σ : L2.St} {H : Hp} {Q : VK} {K : PySem.W.Frag} {te tl : TE} {tt : TT} {tr : TA} {g : TG} {vs : List Nat}
/-- the turns of a comprehension -/
def LJ (J : It) (g : TG) (tt : TT) (te : TE) (vs : List Nat) (σ : L2.St) (H1 : Hp) (Q : VK) : Prop := ∀ D, H1 D = none → ∃ W : Nat → Nat → Hp → Prop, (∃ m, W 0 m (upd H1 D (.lst []))) ∧ ∀ i m H, W i m H →
  (J.stop i H ∧ Q (.ref D) H) ∨ (J.go i H ∧ ∃ Nx : Hp → Prop, (∀ H', Nx H' → ∃ m', m' < m ∧ W (i + 1) m' H') ∧ ∀ x H', J.yld i H x H' → g x (wipe σ vs) H' fun σ2 H2 => wipe σ2 vs = wipe σ vs ∧ tt σ2 H2 fun b H3 =>
    if b = true then te σ2 H3 fun y H4 => ∃ acc, H4 D = some (.lst acc) ∧ acc.length < sizeLine ∧ Nx (upd H4 D (.lst (acc ++ [y]))) else Nx H3)
theorem w_lcL : tLc (iList K tl) g tt te vs σ H Q = tl σ H fun x H1 => ∃ a, x = .ref a ∧ (∃ xs, SqL K H1 a xs) ∧ LJ (Itl K a) g tt te vs σ H1 Q := rfl
theorem w_lcT : tLc (iTup K tl) g tt te vs σ H Q = tl σ H fun x H1 => ∃ a, x = .ref a ∧ (∃ xs, SqT K H1 a xs) ∧ LJ (Itt K a) g tt te vs σ H1 Q := rfl
theorem w_lc1 : tLc (iRng1 tr) g tt te vs σ H Q = tr σ H fun xs H1 => ∃ j : Int, xs = [.int j] ∧ -(2 ^ 62) ≤ j ∧ j < 2 ^ 62 ∧ LJ (Itr 0 j.toNat) g tt te vs σ H1 Q := rfl
theorem w_lc2 : tLc (iRng2 tr) g tt te vs σ H Q = tr σ H fun xs H1 => ∃ i j : Int, xs = [.int i, .int j] ∧ (-(2 ^ 62) ≤ i ∧ i < 2 ^ 62 ∧ -(2 ^ 62) ≤ j ∧ j < 2 ^ 62) ∧ LJ (Itr i (j - i).toNat) g tt te vs σ H1 Q := rfl
theorem w_lc3 : tLc (iRng3 tr) g tt te vs σ H Q = tr σ H fun xs H1 => ∃ (i j c : Int) (n : Nat), xs = [.int i, .int j, .int c] ∧ RgC i j c n ∧ LJ (Itc i c n) g tt te vs σ H1 Q := rfl
theorem w_yes {QT : Bool → Hp → Prop} : tYes σ H QT = QT true H := rfl
theorem same_seqT {K : PySem.W.Frag} {H H' : Hp} {a : Addr} {xs : List V} (e : Same H H') (h : SqT K H a xs) : SqT K H' a xs := by
  rcases h with (h | ⟨o, h⟩) | h
  · exact .inl (.inl (e _ _ h))
  · exact .inl (.inr ⟨o, e _ _ h⟩)
  · exact .inr h
theorem Kp.seqT {K : PySem.W.Frag} {a : Addr} {H H' : Hp} {l : Addr} {xs : List V} (x : Kp a H H') (n : l ≠ a) (h : SqT K H l xs) : SqT K H' l xs := by
  rcases h with (h | ⟨o, h⟩) | h
  · exact .inl (.inl (x _ _ n h))
  · exact .inl (.inr ⟨o, x _ _ n h⟩)
  · exact .inr h
theorem PairsAt.same {K : PySem.W.Frag} {H H' : Hp} {as : List Addr} {ps : List (Int × Int)} (h : PairsAt K H as ps) (e : Same H H') : PairsAt K H' as ps := ⟨h.1, fun i a p h1 h2 => same_seqT e (h.2 i a p h1 h2)⟩
theorem filt_take {α β : Type} (f : α → Option β) {xs : List α} {i : Nat} {x : α} (h : xs[i]? = some x) : (xs.take (i + 1)).filterMap f = (xs.take i).filterMap f ++ (f x).toList := by
  rw [List.take_add_one, h, List.filterMap_append]
  cases e : f x <;> simp [e]
/-- f tells of an item what is put into the list, if anything -/
theorem lc_l {a : Addr} {xs : List V} (f : V → Option V) (hx : SqL K H a xs) (hl : xs.length < sizeLine)
    (hs : ∀ (i : Nat) (x : V) (H' : Hp), xs[i]? = some x → Same H H' → ∀ (N0 : Hp → Prop) (N1 : VK), (f x = none → ∀ H2, Same H' H2 → N0 H2) → (∀ y, f x = some y → ∀ H2, Same H' H2 → N1 y H2) →
      g x (wipe σ vs) H' fun σ2 H2 => wipe σ2 vs = wipe σ vs ∧ tt σ2 H2 fun b H3 => if b = true then te σ2 H3 N1 else N0 H3)
    (q : ∀ D H', H D = none → Same H H' → H' D = some (.lst (xs.filterMap f)) → Q (.ref D) H') : LJ (Itl K a) g tt te vs σ H Q := by
  intro D hD
  refine lc_list (K := K) (a := a) (xs := xs) (fun i H' => Same H H' ∧ H' D = some (.lst ((xs.take i).filterMap f))) ⟨same_new hD, by rw [upd_same]; simp⟩ (fun i H' _ p => p.1.seq hx) ?_ ?_
  · rintro i x H' hi ⟨p1, p2⟩
    have hlen : ((xs.take i).filterMap f).length < sizeLine := Nat.lt_of_le_of_lt (Nat.le_trans (List.length_filterMap_le _ _) (by rw [List.length_take]; exact Nat.min_le_right _ _)) hl
    refine hs i x H' hi p1 _ _ (fun hf H2 e2 => ⟨p1.trans e2, ?_⟩) fun y hf H2 e2 => ⟨_, e2 _ _ p2, hlen, fun b o h => ?_, ?_⟩
    · rw [e2 _ _ p2, filt_take f hi, hf]
      simp
    · rw [upd_ne (ne_of_none h hD)]
      exact e2 _ _ (p1 _ _ h)
    · rw [upd_same, filt_take f hi, hf]
      rfl
  · rintro H' ⟨p1, p2⟩
    rw [List.take_length] at p2
    exact q D H' hD p1 p2
theorem lc_t {a : Addr} {xs : List V} (f : V → Option V) (hx : SqT K H a xs) (hl : xs.length < sizeLine)
    (hs : ∀ (i : Nat) (x : V) (H' : Hp), xs[i]? = some x → Same H H' → ∀ (N0 : Hp → Prop) (N1 : VK), (f x = none → ∀ H2, Same H' H2 → N0 H2) → (∀ y, f x = some y → ∀ H2, Same H' H2 → N1 y H2) →
      g x (wipe σ vs) H' fun σ2 H2 => wipe σ2 vs = wipe σ vs ∧ tt σ2 H2 fun b H3 => if b = true then te σ2 H3 N1 else N0 H3)
    (q : ∀ D H', H D = none → Same H H' → H' D = some (.lst (xs.filterMap f)) → Q (.ref D) H') : LJ (Itt K a) g tt te vs σ H Q := by
  intro D hD
  refine lc_tup (K := K) (a := a) (xs := xs) (fun i H' => Same H H' ∧ H' D = some (.lst ((xs.take i).filterMap f))) ⟨same_new hD, by rw [upd_same]; simp⟩ (fun i H' _ p => same_seqT p.1 hx) ?_ ?_
  · rintro i x H' hi ⟨p1, p2⟩
    have hlen : ((xs.take i).filterMap f).length < sizeLine := Nat.lt_of_le_of_lt (Nat.le_trans (List.length_filterMap_le _ _) (by rw [List.length_take]; exact Nat.min_le_right _ _)) hl
    refine hs i x H' hi p1 _ _ (fun hf H2 e2 => ⟨p1.trans e2, ?_⟩) fun y hf H2 e2 => ⟨_, e2 _ _ p2, hlen, fun b o h => ?_, ?_⟩
    · rw [e2 _ _ p2, filt_take f hi, hf]
      simp
    · rw [upd_ne (ne_of_none h hD)]
      exact e2 _ _ (p1 _ _ h)
    · rw [upd_same, filt_take f hi, hf]
      rfl
  · rintro H' ⟨p1, p2⟩
    rw [List.take_length] at p2
    exact q D H' hD p1 p2
/-- over lo, lo + 1, .. (n of them), by the place -/
theorem lc_r {lo : Int} {n : Nat} (f : Nat → Option V) (hl : n < sizeLine)
    (hs : ∀ (i : Nat) (H' : Hp), i < n → Same H H' → ∀ (N0 : Hp → Prop) (N1 : VK), (f i = none → ∀ H2, Same H' H2 → N0 H2) → (∀ y, f i = some y → ∀ H2, Same H' H2 → N1 y H2) →
      g (.int (lo + i)) (wipe σ vs) H' fun σ2 H2 => wipe σ2 vs = wipe σ vs ∧ tt σ2 H2 fun b H3 => if b = true then te σ2 H3 N1 else N0 H3)
    (q : ∀ D H', H D = none → Same H H' → H' D = some (.lst ((List.range n).filterMap f)) → Q (.ref D) H') : LJ (Itr lo n) g tt te vs σ H Q := by
  intro D hD
  refine lc_range (lo := lo) (n := n) (fun i H' => Same H H' ∧ H' D = some (.lst ((List.range i).filterMap f))) ⟨same_new hD, by rw [upd_same]; simp⟩ ?_ ?_
  · rintro i H' hi ⟨p1, p2⟩
    have hlen : ((List.range i).filterMap f).length < sizeLine := Nat.lt_of_le_of_lt (List.length_filterMap_le _ _) (by rw [List.length_range]; omega)
    have hf1 : (List.range (i + 1)).filterMap f = (List.range i).filterMap f ++ (f i).toList := by
      rw [List.range_succ, List.filterMap_append]
      cases e : f i <;> simp [e]
    refine hs i H' hi p1 _ _ (fun hf H2 e2 => ⟨p1.trans e2, ?_⟩) fun y hf H2 e2 => ⟨_, e2 _ _ p2, hlen, fun b o h => ?_, ?_⟩
    · rw [e2 _ _ p2, hf1, hf]
      simp
    · rw [upd_ne (ne_of_none h hD)]
      exact e2 _ _ (p1 _ _ h)
    · rw [upd_same, hf1, hf]
      rfl
  · rintro H' ⟨p1, p2⟩
    exact q D H' hD p1 p2
/-- a comprehension by an invariant over what is made so far -/
theorem lc_rI {lo : Int} {n : Nat} (Pv : Nat → List V → Hp → Prop) (h0 : ∀ D, H D = none → Pv 0 [] (upd H D (.lst [])))
    (hs : ∀ (i : Nat) (acc : List V) (D : Addr) (H' : Hp), i < n → H D = none → H' D = some (.lst acc) → Pv i acc H' → ∀ (N0 : Hp → Prop) (N1 : VK), (∀ H2, H2 D = some (.lst acc) → Pv (i + 1) acc H2 → N0 H2) →
      (∀ y H2, H2 D = some (.lst acc) → acc.length < sizeLine → Pv (i + 1) (acc ++ [y]) (upd H2 D (.lst (acc ++ [y]))) → N1 y H2) →
      g (.int (lo + i)) (wipe σ vs) H' fun σ2 H2 => wipe σ2 vs = wipe σ vs ∧ tt σ2 H2 fun b H3 => if b = true then te σ2 H3 N1 else N0 H3)
    (q : ∀ D acc H', H D = none → H' D = some (.lst acc) → Pv n acc H' → Q (.ref D) H') : LJ (Itr lo n) g tt te vs σ H Q := by
  intro D hD
  refine lc_range (lo := lo) (n := n) (fun i H' => ∃ acc, H' D = some (.lst acc) ∧ Pv i acc H') ⟨[], upd_same, h0 D hD⟩ ?_ ?_
  · rintro i H' hi ⟨acc, p1, p2⟩
    exact hs i acc D H' hi hD p1 p2 _ _ (fun H2 e h => ⟨acc, e, h⟩) fun y H2 e hl h => ⟨acc, e, hl, _, upd_same, h⟩
  · rintro H' ⟨acc, p1, p2⟩
    exact q D acc H' hD p1 p2
theorem lc_lI {a : Addr} {xs : List V} (Pv : Nat → List V → Hp → Prop) (h0 : ∀ D, H D = none → Pv 0 [] (upd H D (.lst []))) (hl : ∀ i acc H', i ≤ xs.length → Pv i acc H' → SqL K H' a xs)
    (hs : ∀ (i : Nat) (x : V) (acc : List V) (D : Addr) (H' : Hp), xs[i]? = some x → H D = none → H' D = some (.lst acc) → Pv i acc H' → ∀ (N0 : Hp → Prop) (N1 : VK), (∀ H2, H2 D = some (.lst acc) → Pv (i + 1) acc H2 → N0 H2) →
      (∀ y H2, H2 D = some (.lst acc) → acc.length < sizeLine → Pv (i + 1) (acc ++ [y]) (upd H2 D (.lst (acc ++ [y]))) → N1 y H2) →
      g x (wipe σ vs) H' fun σ2 H2 => wipe σ2 vs = wipe σ vs ∧ tt σ2 H2 fun b H3 => if b = true then te σ2 H3 N1 else N0 H3)
    (q : ∀ D acc H', H D = none → H' D = some (.lst acc) → Pv xs.length acc H' → Q (.ref D) H') : LJ (Itl K a) g tt te vs σ H Q := by
  intro D hD
  refine lc_list (K := K) (a := a) (xs := xs) (fun i H' => ∃ acc, H' D = some (.lst acc) ∧ Pv i acc H') ⟨[], upd_same, h0 D hD⟩ (fun i H' hi ⟨acc, _, p⟩ => hl i acc H' hi p) ?_ ?_
  · rintro i x H' hi ⟨acc, p1, p2⟩
    exact hs i x acc D H' hi hD p1 p2 _ _ (fun H2 e h => ⟨acc, e, h⟩) fun y H2 e hl h => ⟨acc, e, hl, _, upd_same, h⟩
  · rintro H' ⟨acc, p1, p2⟩
    exact q D acc H' hD p1 p2
end
/-- range(i, j, c) upwards -/
theorem RgC.up {i j c : Int} (ha : -(2 ^ 62) ≤ i) (ha' : i < 2 ^ 62) (hb : -(2 ^ 62) ≤ j) (hb' : j < 2 ^ 62) (hc : 0 < c) (hc' : c < 1073741824) : RgC i j c (if i < j then ((j - i - 1) / c + 1).toNat else 0) := by
  have hd : i < j → 0 ≤ (j - i - 1) / c ∧ (j - i - 1) / c ≤ j - i - 1 := fun h => ⟨Int.ediv_nonneg (by omega) (by omega), Int.ediv_le_self _ (by omega)⟩
  refine ⟨by omega, by omega, ?_, ?_⟩
  · unfold Builtin.Range.small
    simp only [Builtin.Range.rangeFitsLong, Bool.and_eq_true, Bool.or_eq_true, decide_eq_true_eq, beq_iff_eq, Builtin.Range.rangeSize, show c > 0 from hc, if_true]
    split
    · rename_i h
      obtain ⟨h1, h2⟩ := hd h
      generalize (j - i - 1) / c = z at h1 h2 ⊢
      omega
    · omega
  · simp only [Builtin.Range.rangeSize, show c > 0 from hc, if_true]
    split
    · rename_i h
      obtain ⟨h1, h2⟩ := hd h
      omega
    · rfl
theorem bits_nat {n : Nat} (h : 1 ≤ n) : Builtin.Int.intBits (n : Int) = n.log2 + 1 := by
  unfold Builtin.Int.intBits
  rw [if_neg (by simp; omega)]
  rfl
theorem bits_0 : Builtin.Int.intBits 0 = 0 := rfl
theorem filt_ints (f : Nat → Int) (k : Nat) : (List.range k).filterMap (fun i => some (V.int (f i))) = ((List.range k).map f).map V.int := by
  rw [List.map_map]
  exact congrFun (List.filterMap_eq_map (f := V.int ∘ f)) _
theorem size_le {n : Nat} (h : n ≤ 1000000) : n < sizeLine := Nat.lt_of_le_of_lt h (by decide)
theorem size_le' {n : Nat} (h : n ≤ 1000000) : n ≤ sizeLine := Nat.le_of_lt (size_le h)
/-- the items of a list of ints that are kept -/
def keepI (p : Int → Bool) : V → Option V
  | .int z => if p z = true then some (.int z) else none
  | _ => none
theorem filt_keep (p : Int → Bool) : ∀ ns : List Int, (ns.map V.int).filterMap (keepI p) = (ns.filter p).map V.int
  | [] => rfl
  | n :: r => by
    have ih := filt_keep p r
    simp only [List.map_cons, List.filterMap_cons, keepI, List.filter_cons]
    by_cases h : p n = true
    · rw [if_pos h, if_pos h]
      simp only [ih, List.map_cons]
    · rw [if_neg h, if_neg h]
      simp only [ih]
theorem int_at {ns : List Int} {i : Nat} {x : V} (h : (ns.map V.int)[i]? = some x) : ∃ n, n ∈ ns ∧ x = V.int n := by
  rw [List.getElem?_map] at h
  cases e : ns[i]? with
  | none => simp [e] at h
  | some n =>
    simp [e] at h
    exact ⟨n, List.mem_of_getElem? e, h.symm⟩
def ofN (ns : List Nat) : List Int := List.map (fun n : Nat => (n : Int)) ns
theorem ofN_filter (p : Int → Bool) (ns : List Nat) : (ofN ns).filter p = ofN (ns.filter fun n => p n) := by
  unfold ofN
  rw [List.filter_map]
  rfl
/-! ### sizes -/
theorem cmulN {a b : Nat} (h : a.log2 + b.log2 < 1000000) : CMulW (a : Int) (b : Int) := h
end Pn
namespace Pn
/-! ### powers -/
theorem tk_odd {f b e X B : Nat} (h : f * b ^ e = X) (hX : X ≤ B) (he : 1 ≤ e) : f * b ≤ B := by
  rcases Nat.eq_zero_or_pos b with rfl | hb
  · omega
  · have : b ≤ b ^ e := Nat.le_self_pow (by omega) b
    calc f * b ≤ f * b ^ e := Nat.mul_le_mul_left f this
      _ ≤ B := by omega
theorem tk_sq {f b e X B : Nat} (h : f * b ^ e = X) (hX : X ≤ B) (he : 2 ≤ e) (hf : f = 0 → b = 0) : b * b ≤ B := by
  rcases Nat.eq_zero_or_pos b with rfl | hb
  · omega
  · have h1 : b ^ 2 ≤ b ^ e := Nat.pow_le_pow_right hb he
    have hf1 : 1 ≤ f := by omega
    have h2 : 1 * b ^ e ≤ f * b ^ e := Nat.mul_le_mul_right _ hf1
    have h3 : b * b = b ^ 2 := by rw [Nat.pow_two]
    omega
theorem tk_step1 {f b e X : Nat} (h : f * b ^ e = X) (he : e % 2 = 1) : f * b * (b * b) ^ (e / 2) = X := by
  have e1 : e = 2 * (e / 2) + 1 := by omega
  have e2 : b ^ e = b * (b * b) ^ (e / 2) := by
    conv => lhs; rw [e1]
    rw [Nat.pow_succ, Nat.pow_mul, Nat.pow_two, Nat.mul_comm]
  rw [Nat.mul_assoc, ← e2, h]
theorem tk_step0 {f b e X : Nat} (h : f * b ^ e = X) (he : e % 2 = 0) : f * (b * b) ^ (e / 2) = X := by
  have e1 : e = 2 * (e / 2) := by omega
  have e2 : b ^ e = (b * b) ^ (e / 2) := by
    conv => lhs; rw [e1]
    rw [Nat.pow_mul, Nat.pow_two]
  rw [← e2, h]
theorem log2_le_of_le {x n : Nat} (h : x ≤ 2 ^ n) : x.log2 ≤ n := by
  rcases Nat.eq_zero_or_pos x with rfl | hx
  · simp
  · have : x.log2 < n + 1 := (Nat.log2_lt (by omega)).mpr (by rw [Nat.pow_succ]; omega)
    omega
theorem shl_one (j : Nat) : (1 : Int) * 2 ^ ((j : Int)).toNat = ((2 ^ j : Nat) : Int) := by
  rw [Int.toNat_natCast, Int.one_mul, Int.natCast_pow]
  rfl
/-! ### roots by halving -/
theorem root_unique {n e r s : Nat} (he : 1 ≤ e) (h1 : r ^ e ≤ n) (h2 : n < (r + 1) ^ e) (h3 : s ^ e ≤ n) (h4 : n < (s + 1) ^ e) : r = s := by
  have a : r < s + 1 := (Nat.pow_lt_pow_iff_left (by omega : e ≠ 0)).mp (Nat.lt_of_le_of_lt h1 h4)
  have b : s < r + 1 := (Nat.pow_lt_pow_iff_left (by omega : e ≠ 0)).mp (Nat.lt_of_le_of_lt h3 h2)
  omega
end Pn
namespace Pn
/-! ### the root of a number by an exponent; all ways in which it is a power -/
def rootD (n e : Nat) : Nat → Nat
  | 0 => 0
  | k + 1 => if (k + 1) ^ e ≤ n then k + 1 else rootD n e k
theorem rootD_spec (n e : Nat) (he : 1 ≤ e) : ∀ k, rootD n e k ≤ k ∧ (rootD n e k) ^ e ≤ n ∧ ∀ j, rootD n e k < j → j ≤ k → n < j ^ e
  | 0 => ⟨Nat.le_refl _, by rw [rootD, Nat.zero_pow (by omega)]; omega, fun j h1 h2 => by omega⟩
  | k + 1 => by
    obtain ⟨h1, h2, h3⟩ := rootD_spec n e he k
    rw [rootD]
    split
    · rename_i h
      exact ⟨Nat.le_refl _, h, fun j a b => by omega⟩
    · rename_i h
      refine ⟨by omega, h2, fun j a b => ?_⟩
      rcases Nat.lt_or_ge j (k + 1) with c | c
      · exact h3 j a (by omega)
      · have : j = k + 1 := by omega
        subst this
        omega
def rootN (n e : Nat) : Nat := rootD n e n
theorem rootN_le {n e : Nat} (he : 1 ≤ e) : (rootN n e) ^ e ≤ n := (rootD_spec n e he n).2.1
theorem rootN_lt {n e : Nat} (he : 1 ≤ e) : n < (rootN n e + 1) ^ e := by
  obtain ⟨h1, h2, h3⟩ := rootD_spec n e he n
  unfold rootN
  rcases Nat.lt_or_ge (rootD n e n) n with c | c
  · exact h3 _ (by omega) (by omega)
  · have : rootD n e n = n := by omega
    rw [this]
    exact Nat.lt_of_lt_of_le (Nat.lt_succ_self n) (Nat.le_self_pow (by omega) _)
theorem rootN_is {n e r : Nat} (he : 1 ≤ e) (h1 : r ^ e ≤ n) (h2 : n < (r + 1) ^ e) : r = rootN n e := root_unique he h1 h2 (rootN_le he) (rootN_lt he)
theorem rootN_ge {n e b : Nat} (he : 1 ≤ e) (h : b ^ e ≤ n) : b ≤ rootN n e := by
  have : b < rootN n e + 1 := (Nat.pow_lt_pow_iff_left (by omega : e ≠ 0)).mp (Nat.lt_of_le_of_lt h (rootN_lt he))
  omega
theorem rootN_pow {b e : Nat} (he : 1 ≤ e) : rootN (b ^ e) e = b := (rootN_is he (Nat.le_refl _) (Nat.pow_lt_pow_left (Nat.lt_succ_self b) (by omega))).symm
theorem rootN_gt1 {n e : Nat} (he : 1 ≤ e) : 1 < rootN n e ↔ 2 ^ e ≤ n := by
  constructor
  · intro h
    exact Nat.le_trans (Nat.pow_le_pow_left h e) (rootN_le he)
  · intro h
    exact rootN_ge he h
def wayAt (n e : Nat) : Option (Nat × Nat) := if (rootN n e) ^ e = n then some (rootN n e, e) else none
/-- the ways by exponents 2, .., k + 1 -/
def waysTo (n k : Nat) : List (Nat × Nat) := (List.range k).filterMap fun i => wayAt n (i + 2)
theorem waysTo_succ (n k : Nat) : waysTo n (k + 1) = waysTo n k ++ (wayAt n (k + 2)).toList := by
  unfold waysTo
  rw [List.range_succ, List.filterMap_append]
  cases e : wayAt n (k + 2) <;> simp [e]
def waysN (n : Nat) : List (Nat × Nat) := if n = 0 then [] else if n = 1 then [(1, 2)] else waysTo n (n.log2 - 1)
def greatestN (n : Nat) : Nat × Nat := (waysN n).getLast?.getD (n, 1)
theorem last_filt {α : Type} {f : Nat → Option α} {v : α} {i : Nat} (hi : f i = some v) : ∀ k, i < k → (∀ j, i < j → j < k → f j = none) → ((List.range k).filterMap f).getLast? = some v
  | 0, h, _ => by omega
  | k + 1, h, hn => by
    rw [List.range_succ, List.filterMap_append]
    rcases Nat.lt_or_ge i k with c | c
    · have : f k = none := hn k c (Nat.lt_succ_self k)
      simp only [List.filterMap_cons, List.filterMap_nil, this, List.append_nil]
      exact last_filt hi k c fun j a b => hn j a (by omega)
    · have : i = k := by omega
      subst this
      simp [hi]
theorem none_filt {α : Type} {f : Nat → Option α} : ∀ k, (∀ j, j < k → f j = none) → (List.range k).filterMap f = []
  | 0, _ => rfl
  | k + 1, h => by
    rw [List.range_succ, List.filterMap_append, none_filt k fun j a => h j (by omega)]
    simp [h k (Nat.lt_succ_self k)]
theorem two_pow_le_iff {n e : Nat} (hn : n ≠ 0) : 2 ^ e ≤ n ↔ e ≤ n.log2 := by
  rw [Nat.le_log2 hn]
theorem greatest_of {n e : Nat} (hn : 2 ≤ n) (he : 2 ≤ e) (h1 : 2 ^ e ≤ n) (h2 : (rootN n e) ^ e = n) (h3 : ∀ e', e < e' → 2 ^ e' ≤ n → (rootN n e') ^ e' ≠ n) : greatestN n = (rootN n e, e) := by
  have hl : e ≤ n.log2 := (two_pow_le_iff (by omega)).mp h1
  unfold greatestN waysN
  rw [if_neg (by omega), if_neg (by omega)]
  unfold waysTo
  have hf : wayAt n (e - 2 + 2) = some (rootN n e, e) := by
    rw [show e - 2 + 2 = e by omega]
    unfold wayAt
    rw [if_pos h2]
  rw [last_filt (f := fun i => wayAt n (i + 2)) (i := e - 2) hf (n.log2 - 1) (by omega) fun j a b => ?_]
  · rfl
  · show wayAt n (j + 2) = none
    unfold wayAt
    rw [if_neg (h3 _ (by omega) ((two_pow_le_iff (by omega)).mpr (by omega)))]
theorem greatest_none {n : Nat} (hn : 2 ≤ n) (h : ∀ e, 2 ≤ e → 2 ^ e ≤ n → (rootN n e) ^ e ≠ n) : greatestN n = (n, 1) := by
  unfold greatestN waysN
  rw [if_neg (by omega), if_neg (by omega)]
  unfold waysTo
  rw [none_filt]
  · rfl
  · intro j hj
    show wayAt n (j + 2) = none
    unfold wayAt
    rw [if_neg (h _ (by omega) ((two_pow_le_iff (by omega)).mpr (by omega)))]
def zz (p : Nat × Nat) : Int × Int := ((p.1 : Int), (p.2 : Int))
/-! ### a power factor by factor, stopped beyond the number -/
theorem more_end {n x e j : Nat} (hx : 1 ≤ x) (hj : j ≤ e) (h : j = e ∨ n < x ^ j) : (x ^ j ≤ n ↔ x ^ e ≤ n) := by
  rcases h with rfl | h
  · exact Iff.rfl
  · have : x ^ j ≤ x ^ e := Nat.pow_le_pow_right hx hj
    constructor <;> omega
end Pn
namespace Pn
/-! ### Newton's steps to a root, in whole numbers -/
theorem rearr (r x k : Nat) : r * x ^ k + x * r ^ k ≤ x * x ^ k + r * r ^ k := by
  rcases Nat.le_total r x with h | h
  · obtain ⟨d, rfl⟩ := Nat.exists_eq_add_of_le h
    obtain ⟨c, hc⟩ := Nat.exists_eq_add_of_le (Nat.pow_le_pow_left h k)
    rw [hc]
    generalize r ^ k = y
    have : 0 ≤ d * c := Nat.zero_le _
    grind
  · obtain ⟨d, rfl⟩ := Nat.exists_eq_add_of_le h
    obtain ⟨c, hc⟩ := Nat.exists_eq_add_of_le (Nat.pow_le_pow_left h k)
    rw [hc]
    generalize x ^ k = y
    have : 0 ≤ d * c := Nat.zero_le _
    grind
theorem amgm (r x : Nat) : ∀ m, (m + 1) * r * x ^ m ≤ m * x ^ (m + 1) + r ^ (m + 1)
  | 0 => by simp
  | m + 1 => by
    have ih := amgm r x m
    have h1 := rearr r x (m + 1)
    have h2 : x * ((m + 1) * r * x ^ m) ≤ x * (m * x ^ (m + 1) + r ^ (m + 1)) := Nat.mul_le_mul_left x ih
    have e1 : x ^ (m + 1) = x * x ^ m := by rw [Nat.pow_succ, Nat.mul_comm]
    have e2 : x ^ (m + 1 + 1) = x * (x * x ^ m) := by rw [Nat.pow_succ, e1, Nat.mul_comm]
    have e3 : r ^ (m + 1 + 1) = r * r ^ (m + 1) := by rw [Nat.pow_succ, Nat.mul_comm]
    rw [e1] at h1 h2
    rw [e1, e2, e3]
    generalize x ^ m = y at *
    generalize r ^ (m + 1) = z at *
    grind
theorem newton_ge {n e r x : Nat} (he : 1 ≤ e) (hx : 1 ≤ x) (hr : r ^ e ≤ n) : r ≤ ((e - 1) * x + n / x ^ (e - 1)) / e := by
  obtain ⟨m, rfl⟩ : ∃ m, e = m + 1 := ⟨e - 1, by omega⟩
  rw [Nat.add_sub_cancel]
  have hy : 0 < x ^ m := Nat.pow_pos (by omega)
  have h := amgm r x m
  rw [Nat.le_div_iff_mul_le (by omega)]
  have e1 : x ^ (m + 1) = x * x ^ m := by rw [Nat.pow_succ, Nat.mul_comm]
  rw [e1] at h
  rcases Nat.le_total (r * (m + 1)) (m * x) with c | c
  · exact Nat.le_trans c (Nat.le_add_right _ _)
  · obtain ⟨d, hd⟩ := Nat.exists_eq_add_of_le c
    have : d ≤ n / x ^ m := by
      rw [Nat.le_div_iff_mul_le hy]
      have e2 : (m + 1) * r * x ^ m = m * (x * x ^ m) + d * x ^ m := by
        rw [show (m + 1) * r = r * (m + 1) by rw [Nat.mul_comm], hd, Nat.add_mul, Nat.mul_assoc]
      omega
    omega
theorem newton_stop {n e x : Nat} (he : 1 ≤ e) (hx : 1 ≤ x) (h : x ≤ ((e - 1) * x + n / x ^ (e - 1)) / e) : x ^ e ≤ n := by
  obtain ⟨m, rfl⟩ : ∃ m, e = m + 1 := ⟨e - 1, by omega⟩
  rw [Nat.add_sub_cancel] at h
  have hy : 0 < x ^ m := Nat.pow_pos (by omega)
  rw [Nat.le_div_iff_mul_le (by omega)] at h
  have h2 : x ≤ n / x ^ m := by
    have : x * (m + 1) = m * x + x := by rw [Nat.mul_add, Nat.mul_one, Nat.mul_comm]
    omega
  rw [Nat.le_div_iff_mul_le hy] at h2
  rw [Nat.pow_succ, Nat.mul_comm]
  exact h2
theorem newton_start {n e : Nat} (he : 1 ≤ e) : rootN n e ≤ 2 ^ ((n.log2 + 1 + e - 1) / e) := by
  have h1 : n < 2 ^ (n.log2 + 1) := Nat.lt_log2_self
  have h2 : n.log2 + 1 ≤ (n.log2 + 1 + e - 1) / e * e := by
    have := Nat.lt_div_mul_add (a := n.log2 + 1 + e - 1) (b := e) (by omega)
    omega
  have h3 : (rootN n e) ^ e < (2 ^ ((n.log2 + 1 + e - 1) / e)) ^ e := by
    rw [← Nat.pow_mul]
    exact Nat.lt_of_le_of_lt (rootN_le he) (Nat.lt_of_lt_of_le h1 (Nat.pow_le_pow_right (by decide) h2))
  exact Nat.le_of_lt ((Nat.pow_lt_pow_iff_left (by omega : e ≠ 0)).mp h3)
theorem rootN_0 {e : Nat} (he : 1 ≤ e) : rootN 0 e = 0 := (rootN_is he (by rw [Nat.zero_pow (by omega)]; omega) (by simp)).symm
theorem rootN_1 {e : Nat} (he : 1 ≤ e) : rootN 1 e = 1 := (rootN_is he (by simp) (Nat.one_lt_two_pow (by omega))).symm
theorem rootN_pos {n e : Nat} (he : 1 ≤ e) (hn : 1 ≤ n) : 1 ≤ rootN n e := rootN_ge he (by simpa using hn)
end Pn
namespace Pn
/-! ### powers, the next one, the one before -/
def IsPow (m : Nat) : Prop := ∃ b e : Nat, 1 ≤ b ∧ 2 ≤ e ∧ m = b ^ e
def NextPow (n g : Nat) : Prop := IsPow g ∧ n < g ∧ ∀ m, IsPow m → n < m → g ≤ m
def PrevPow (n l : Nat) : Prop := IsPow l ∧ l ≤ n ∧ ∀ m, IsPow m → m ≤ n → m ≤ l
theorem NextPow.eq {n g g' : Nat} (h : NextPow n g) (h' : NextPow n g') : g = g' := Nat.le_antisymm (h.2.2 _ h'.1 h'.2.1) (h'.2.2 _ h.1 h.2.1)
theorem PrevPow.eq {n g g' : Nat} (h : PrevPow n g) (h' : PrevPow n g') : g = g' := Nat.le_antisymm (h'.2.2 _ h.1 h.2.1) (h.2.2 _ h'.1 h'.2.1)
theorem isPow_one : IsPow 1 := ⟨1, 2, by omega, by omega, rfl⟩
theorem IsPow.pos {m : Nat} (h : IsPow m) : 1 ≤ m := by
  obtain ⟨b, e, h1, h2, rfl⟩ := h
  exact Nat.pow_pos (by omega)
theorem IsPow.base {m : Nat} (h : IsPow m) (hm : 2 ≤ m) : ∃ b e : Nat, 2 ≤ b ∧ 2 ≤ e ∧ m = b ^ e := by
  obtain ⟨b, e, h1, h2, rfl⟩ := h
  rcases (by omega : b = 1 ∨ 2 ≤ b) with rfl | h
  · simp at hm
  · exact ⟨b, e, h, h2, rfl⟩
theorem IsPow.four {m : Nat} (h : IsPow m) (hm : 2 ≤ m) : 4 ≤ m := by
  obtain ⟨b, e, h1, h2, rfl⟩ := h.base hm
  calc 4 = 2 ^ 2 := rfl
    _ ≤ b ^ 2 := Nat.pow_le_pow_left h1 2
    _ ≤ b ^ e := Nat.pow_le_pow_right (by omega) h2
theorem isPow_root {n e : Nat} (he : 2 ≤ e) (hn : 1 ≤ n) : IsPow (rootN n e ^ e) := ⟨_, e, rootN_pos (by omega) hn, he, rfl⟩
theorem isPow_up {n e : Nat} (he : 2 ≤ e) : IsPow ((rootN n e + 1) ^ e) := ⟨_, e, by omega, he, rfl⟩
/-- g is the next power above n where it is one of these, or no more than a power of two, and none of these is less -/
theorem nextPow_of {n g T : Nat} (hn : 1 ≤ n) (hg : IsPow g) (hgn : n < g) (hgT : ∀ m, IsPow m → n < m → 2 ^ (T + 1) ≤ m → g ≤ m) (hm : ∀ e, 2 ≤ e → e ≤ T → g ≤ (rootN n e + 1) ^ e) : NextPow n g := by
  refine ⟨hg, hgn, fun m hp hm2 => ?_⟩
  obtain ⟨b, e, h1, h2, rfl⟩ := hp.base (by omega)
  rcases Nat.lt_or_ge T e with c | c
  · exact hgT _ hp hm2 (Nat.le_trans (Nat.pow_le_pow_right (by omega) c) (Nat.pow_le_pow_left h1 e))
  · refine Nat.le_trans (hm e h2 c) (Nat.pow_le_pow_left ?_ e)
    have h3 : (rootN n e) ^ e < b ^ e := Nat.lt_of_le_of_lt (rootN_le (by omega)) hm2
    exact (Nat.pow_lt_pow_iff_left (by omega : e ≠ 0)).mp h3
theorem prevPow_of {n l : Nat} (hn : 1 ≤ n) (hl : IsPow l) (hln : l ≤ n) (hm : ∀ e, 2 ≤ e → e ≤ n.log2 → rootN n e ^ e ≤ l) : PrevPow n l := by
  refine ⟨hl, hln, fun m hp hm2 => ?_⟩
  rcases (by have := hp.pos; omega : m = 1 ∨ 2 ≤ m) with rfl | h
  · exact hl.pos
  · obtain ⟨b, e, h1, h2, rfl⟩ := hp.base h
    have he : e ≤ n.log2 := (two_pow_le_iff (by omega)).mp (Nat.le_trans (Nat.pow_le_pow_left h1 e) hm2)
    exact Nat.le_trans (Nat.pow_le_pow_left (rootN_ge (by omega) hm2) e) (hm e h2 he)
theorem lt_two_pow_log (n : Nat) : n < 2 ^ (n.log2 + 1) := Nat.lt_log2_self
theorem rootN_big {n e : Nat} (hn : 1 ≤ n) (h : n.log2 < e) : rootN n e = 1 := (rootN_is (by omega) (by simpa using hn) (Nat.lt_of_lt_of_le (lt_two_pow_log n) (Nat.pow_le_pow_right (by decide) h))).symm
theorem isPow_iff {n : Nat} : IsPow n ↔ n = 1 ∨ ∃ e, 2 ≤ e ∧ 2 ^ e ≤ n ∧ rootN n e ^ e = n := by
  constructor
  · intro h
    rcases (by have := h.pos; omega : n = 1 ∨ 2 ≤ n) with rfl | h2
    · exact .inl rfl
    · obtain ⟨b, e, h3, h4, rfl⟩ := h.base h2
      exact .inr ⟨e, h4, Nat.pow_le_pow_left h3 e, by rw [rootN_pow (by omega)]⟩
  · rintro (rfl | ⟨e, h1, h2, h3⟩)
    · exact isPow_one
    · exact ⟨rootN n e, e, by have := (rootN_gt1 (n := n) (e := e) (by omega)).mpr h2; omega, h1, h3.symm⟩
def Beside (n : Nat) (l : Option Nat) (g : Nat) : Prop := (n = 0 → g = 1) ∧ (1 ≤ n → NextPow n g) ∧ (n ≤ 1 → l = none) ∧ (2 ≤ n → ∃ x, l = some x ∧ PrevPow (n - 1) x)
theorem Beside.eq {n : Nat} {l l' : Option Nat} {g g' : Nat} (h : Beside n l g) (h' : Beside n l' g') : l = l' ∧ g = g' := by
  obtain ⟨a1, a2, a3, a4⟩ := h
  obtain ⟨b1, b2, b3, b4⟩ := h'
  constructor
  · rcases Nat.lt_or_ge n 2 with c | c
    · rw [a3 (by omega), b3 (by omega)]
    · obtain ⟨x, rfl, hx⟩ := a4 c
      obtain ⟨y, rfl, hy⟩ := b4 c
      rw [hx.eq hy]
  · rcases Nat.eq_zero_or_pos n with c | c
    · rw [a1 c, b1 c]
    · exact (a2 c).eq (b2 c)
def Nearest (n r : Nat) : Prop := (n = 0 → r = 1) ∧ (1 ≤ n → ∃ l g, PrevPow n l ∧ NextPow n g ∧ r = if n - l ≤ g - n then l else g)
theorem Nearest.eq {n r r' : Nat} (h : Nearest n r) (h' : Nearest n r') : r = r' := by
  rcases Nat.eq_zero_or_pos n with c | c
  · rw [h.1 c, h'.1 c]
  · obtain ⟨l, g, h1, h2, h3⟩ := h.2 c
    obtain ⟨l', g', h1', h2', h3'⟩ := h'.2 c
    rw [h3, h3', h1.eq h1', h2.eq h2']
theorem near_pow {n r : Nat} (hp : IsPow n) (h : Nearest n r) : r = n := by
  obtain ⟨l, g, h1, h2, h3⟩ := h.2 hp.pos
  have e : l = n := h1.eq ⟨hp, Nat.le_refl _, fun m _ hm => hm⟩
  subst e
  rw [h3, if_pos (by omega)]
theorem small_pow {m : Nat} (hp : IsPow m) (hm : m < 8) : m = 1 ∨ m = 4 := by
  rcases (by have := hp.pos; omega : m = 1 ∨ 2 ≤ m) with h | h
  · exact .inl h
  · right
    obtain ⟨b, e, h1, h2, rfl⟩ := hp.base h
    rcases (by omega : b = 2 ∨ 3 ≤ b) with rfl | hb
    · rcases (by omega : e = 2 ∨ 3 ≤ e) with rfl | he
      · rfl
      · have : 2 ^ 3 ≤ 2 ^ e := Nat.pow_le_pow_right (by decide) he
        omega
    · have h3 : 3 ^ 2 ≤ b ^ 2 := Nat.pow_le_pow_left hb 2
      have h4 : b ^ 2 ≤ b ^ e := Nat.pow_le_pow_right (by omega) h2
      omega
theorem isPow_four : IsPow 4 := ⟨2, 2, by omega, by omega, rfl⟩
theorem isPow_eight : IsPow 8 := ⟨2, 3, by omega, by omega, rfl⟩
theorem next_one : NextPow 1 4 := ⟨isPow_four, by omega, fun m hp h => hp.four h⟩
theorem next_two : NextPow 2 4 := ⟨isPow_four, by omega, fun m hp h => hp.four (by omega)⟩
theorem prev_two : PrevPow 2 1 := ⟨isPow_one, by omega, fun m hp h => by
  rcases small_pow hp (by omega) with h | h <;> omega⟩
theorem prev_six : PrevPow 6 4 := ⟨isPow_four, by omega, fun m hp h => by
  rcases small_pow hp (by omega) with h | h <;> omega⟩
theorem next_six : NextPow 6 8 := ⟨isPow_eight, by omega, fun m hp h => by
  rcases Nat.lt_or_ge m 8 with c | c
  · rcases small_pow hp c with h | h <;> omega
  · exact c⟩
end Pn
namespace Pn
/-! ### all powers to a number, in order -/
open Classical in
noncomputable def powAt (i : Nat) : Option Nat := if IsPow (1 + i) then some (1 + i) else none
noncomputable def powL (k : Nat) : List Nat := (List.range k).filterMap powAt
theorem mem_powL {k m : Nat} : m ∈ powL k ↔ 1 ≤ m ∧ m ≤ k ∧ IsPow m := by
  unfold powL powAt
  simp only [List.mem_filterMap, List.mem_range]
  constructor
  · rintro ⟨i, hi, h⟩
    split at h
    · rename_i hp
      cases h
      exact ⟨by omega, by omega, hp⟩
    · cases h
  · rintro ⟨h1, h2, h3⟩
    refine ⟨m - 1, by omega, ?_⟩
    have e : 1 + (m - 1) = m := by omega
    rw [e, if_pos h3]
theorem powL_sorted (k : Nat) : (powL k).Pairwise (· < ·) := by
  unfold powL
  rw [List.pairwise_filterMap]
  refine List.Pairwise.imp (R := fun a b => a < b) ?_ List.pairwise_lt_range
  intro a b hab x hx y hy
  unfold powAt at hx hy
  split at hx
  · split at hy
    · cases hx
      cases hy
      omega
    · cases hy
  · cases hx
theorem last_ge : ∀ {l : List Nat} {z : Nat}, l.Pairwise (· < ·) → l.getLast? = some z → ∀ y ∈ l, y ≤ z
  | [], _, _, h, _, _ => by simp at h
  | [x], z, _, h, y, hy => by
    simp at h hy
    omega
  | x :: x' :: r, z, hp, h, y, hy => by
    rw [List.getLast?_cons_cons] at h
    rw [List.pairwise_cons] at hp
    have ih := last_ge hp.2 h
    rcases List.mem_cons.mp hy with rfl | hy
    · have := hp.1 x' List.mem_cons_self
      have := ih x' List.mem_cons_self
      omega
    · exact ih y hy
theorem bs_list {n k g : Nat} {r : List Nat} (hn : n < 500) (hk : n + 60 ≤ k) (hm : (powL k).filter (fun m => decide (n < m)) = g :: r) : Beside n ((powL k).filter fun m => decide (m < n)).getLast? g := by
  have hs : ((powL k).filter fun m => decide (n < m)).Pairwise (· < ·) := (powL_sorted k).filter _
  rw [hm, List.pairwise_cons] at hs
  have hg : g ∈ (powL k).filter (fun m => decide (n < m)) := by rw [hm]; exact List.mem_cons_self
  rw [List.mem_filter, mem_powL, decide_eq_true_eq] at hg
  obtain ⟨⟨g1, g2, g3⟩, g4⟩ := hg
  have hmin : ∀ m, IsPow m → n < m → g ≤ m := by
    intro m hp hnm
    rcases Nat.lt_or_ge k m with c | c
    · omega
    · have : m ∈ (powL k).filter (fun m => decide (n < m)) := by
        rw [List.mem_filter, mem_powL, decide_eq_true_eq]
        exact ⟨⟨hp.pos, c, hp⟩, hnm⟩
      rw [hm] at this
      rcases List.mem_cons.mp this with rfl | h
      · exact Nat.le_refl _
      · exact Nat.le_of_lt (hs.1 m h)
  refine ⟨fun h0 => ?_, fun _ => ⟨g3, g4, hmin⟩, fun h1 => ?_, fun h2 => ?_⟩
  · have := hmin 1 isPow_one (by omega)
    omega
  · have : (powL k).filter (fun m => decide (m < n)) = [] := by
      rw [List.filter_eq_nil_iff]
      intro m hm
      rw [mem_powL] at hm
      simp
      omega
    rw [this]
    rfl
  · have h1 : 1 ∈ (powL k).filter (fun m => decide (m < n)) := by
      rw [List.mem_filter, mem_powL, decide_eq_true_eq]
      exact ⟨⟨by omega, by omega, isPow_one⟩, by omega⟩
    have hne : (powL k).filter (fun m => decide (m < n)) ≠ [] := fun e => by
      rw [e] at h1
      cases h1
    have hl := List.getLast?_eq_some_getLast hne
    refine ⟨_, hl, ?_⟩
    have hmem := List.getLast_mem hne
    have hge := last_ge ((powL_sorted k).filter _) hl
    rw [List.mem_filter, mem_powL, decide_eq_true_eq] at hmem
    obtain ⟨⟨a1, a2, a3⟩, a4⟩ := hmem
    refine ⟨a3, by omega, fun m hp hm => hge m ?_⟩
    rw [List.mem_filter, mem_powL, decide_eq_true_eq]
    exact ⟨⟨hp.pos, by omega, hp⟩, by omega⟩
theorem more_ex {n k : Nat} (hn : n < 500) (hk : n + 60 ≤ k) : ∃ g r, (powL k).filter (fun m => decide (n < m)) = g :: r := by
  have h1 := rootN_le (n := n) (e := 2) (by omega)
  have h2 := rootN_lt (n := n) (e := 2) (by omega)
  have h3 : rootN n 2 ≤ 22 := by
    refine Nat.le_of_not_lt fun c => ?_
    have : 23 ^ 2 ≤ rootN n 2 ^ 2 := Nat.pow_le_pow_left c 2
    omega
  have hp : IsPow ((rootN n 2 + 1) ^ 2) := isPow_up (by omega)
  have h4 : (rootN n 2 + 1) ^ 2 = rootN n 2 ^ 2 + 2 * rootN n 2 + 1 := by grind
  have : (rootN n 2 + 1) ^ 2 ∈ (powL k).filter (fun m => decide (n < m)) := by
    rw [List.mem_filter, mem_powL, decide_eq_true_eq]
    exact ⟨⟨hp.pos, by omega, hp⟩, h2⟩
  cases e : (powL k).filter (fun m => decide (n < m)) with
  | nil =>
    rw [e] at this
    cases this
  | cons g r => exact ⟨g, r, rfl⟩
end Pn
namespace Pn
/-! ### the first greatest gap in a row -/
/-- a pair beside the best one so far -/
def gapStep (o : Option (Nat × Nat × Nat)) (x y : Nat) : Option (Nat × Nat × Nat) := match o with
  | none => some (y - x, x, y)
  | some t => if y - x > t.1 then some (y - x, x, y) else some t
/-- the best of the first i pairs of neighbours -/
def gapTo (l : List Nat) : Nat → Option (Nat × Nat × Nat)
  | 0 => none
  | i + 1 => match l[i]?, l[i + 1]? with
    | some x, some y => gapStep (gapTo l i) x y
    | _, _ => gapTo l i
theorem gapTo_succ {l : List Nat} {i x y : Nat} (h1 : l[i]? = some x) (h2 : l[i + 1]? = some y) : gapTo l (i + 1) = gapStep (gapTo l i) x y := by
  rw [gapTo, h1, h2]
end Pn
namespace Pn
/-! ### prime factors by trial division -/
def pfT (d n : Nat) : List Nat :=
  if h : n ≤ 1 ∨ d < 2 then [] else if h2 : n < d * d then [n] else if h3 : n % d = 0 then d :: pfT d (n / d) else pfT (d + 1) n
termination_by 2 * n - d
decreasing_by
  · have h4 : d ≤ n := Nat.le_trans (Nat.le_mul_of_pos_left d (by omega)) (by omega : d * d ≤ n)
    have h5 : n / d < n := Nat.div_lt_self (by omega) (by omega)
    omega
  · have h4 : d ≤ n := Nat.le_trans (Nat.le_mul_of_pos_left d (by omega)) (by omega : d * d ≤ n)
    omega
def pf (n : Nat) : List Nat := pfT 2 n
/-- no divisor below d -/
def Low (d n : Nat) : Prop := ∀ k, 2 ≤ k → k < d → ¬ k ∣ n
theorem low_2 (n : Nat) : Low 2 n := fun k h1 h2 => by omega
theorem low_div {d n : Nat} (h : Low d n) (hd : d ∣ n) : Low d (n / d) := fun k h1 h2 h3 => h k h1 h2 (Nat.dvd_trans h3 (Nat.div_dvd_of_dvd hd))
theorem low_up {d n : Nat} (h : Low d n) (hd : ¬ d ∣ n) : Low (d + 1) n := fun k h1 h2 h3 => by
  rcases (by omega : k < d ∨ k = d) with c | c
  · exact h k h1 c h3
  · exact hd (c ▸ h3)
theorem pfT_one {d n : Nat} (h : n ≤ 1) : pfT d n = [] := by
  rw [pfT, dif_pos (.inl h)]
theorem pfT_big {d n : Nat} (hd : 2 ≤ d) (hn : 1 < n) (h : n < d * d) : pfT d n = [n] := by
  rw [pfT, dif_neg (by omega), dif_pos h]
/-- a number without a divisor below d that is less than d * d has none below itself -/
theorem low_self {d n : Nat} (h : Low d n) (hn : n < d * d) : Low n n := fun k h1 h2 h3 => by
  obtain ⟨j, rfl⟩ := h3
  have hj : 2 ≤ j := by
    rcases (by omega : j = 0 ∨ j = 1 ∨ 2 ≤ j) with c | c | c
    · subst c
      omega
    · subst c
      omega
    · exact c
  rcases Nat.lt_or_ge k d with c | c
  · exact h k h1 c ⟨j, rfl⟩
  · rcases Nat.lt_or_ge j d with c2 | c2
    · exact h j hj c2 ⟨k, Nat.mul_comm k j⟩
    · exact absurd (Nat.mul_le_mul c c2) (by omega)
theorem pfT_dvd {d n : Nat} (hd : 2 ≤ d) (hn : 1 ≤ n) (hl : Low d n) (h : d ∣ n) : pfT d n = d :: pfT d (n / d) := by
  have hn2 : 2 ≤ n := Nat.le_trans hd (Nat.le_of_dvd hn h)
  rcases Nat.lt_or_ge n (d * d) with c | c
  · have e : n = d := by
      have h1 := low_self hl c
      rcases (by have := Nat.le_of_dvd hn h; omega : d < n ∨ n = d) with c2 | c2
      · exact absurd h (h1 d hd c2)
      · exact c2
    subst e
    rw [pfT_big hd (by omega) c, Nat.div_self (by omega), pfT_one (Nat.le_refl 1)]
  · rw [pfT, dif_neg (by omega), dif_neg (by omega), dif_pos (Nat.mod_eq_zero_of_dvd h)]
theorem pfT_up {d n : Nat} (hd : 2 ≤ d) (h : ¬ d ∣ n) : pfT d n = pfT (d + 1) n := by
  rcases Nat.lt_or_ge 1 n with hn | hn
  · rcases Nat.lt_or_ge n (d * d) with c | c
    · have h2 : n < (d + 1) * (d + 1) := Nat.lt_of_lt_of_le c (Nat.mul_le_mul (by omega) (by omega))
      rw [pfT_big hd hn c, pfT_big (by omega) hn h2]
    · rw [pfT, dif_neg (by omega), dif_neg (by omega), dif_neg fun z => h (Nat.dvd_of_mod_eq_zero z)]
  · rw [pfT_one hn, pfT_one hn]
/-- all are from d to n -/
theorem pfT_mem : ∀ (z d n : Nat), 2 * n - d ≤ z → 2 ≤ d → ∀ p ∈ pfT d n, 2 ≤ p ∧ p ≤ n := by
  intro z
  induction z with
  | zero =>
    intro d n hz hd p hp
    rcases Nat.lt_or_ge 1 n with hn | hn
    · have c : n < d * d := Nat.lt_of_lt_of_le (by omega : n < 2 * d) (Nat.mul_le_mul_right d hd)
      rw [pfT_big hd hn c] at hp
      simp at hp
      omega
    · rw [pfT_one hn] at hp
      cases hp
  | succ z ih =>
    intro d n hz hd p hp
    rcases Nat.lt_or_ge 1 n with hn | hn
    · rcases Nat.lt_or_ge n (d * d) with c | c
      · rw [pfT_big hd hn c] at hp
        simp at hp
        omega
      · have h4 : d ≤ n := Nat.le_trans (Nat.le_mul_of_pos_left d (by omega)) c
        rw [pfT, dif_neg (by omega), dif_neg (by omega)] at hp
        split at hp
        · have h5 : n / d < n := Nat.div_lt_self (by omega) (by omega)
          rcases List.mem_cons.mp hp with rfl | hp
          · exact ⟨hd, h4⟩
          · have := ih d (n / d) (by omega) hd p hp
            omega
        · exact ih (d + 1) n (by omega) (by omega) p hp
    · rw [pfT_one hn] at hp
      cases hp
theorem pf_mem {n p : Nat} (h : p ∈ pf n) : 2 ≤ p ∧ p ≤ n := pfT_mem _ 2 n (Nat.le_refl _) (Nat.le_refl _) p h
/-! ### the product of a list -/
def prodL (l : List Nat) : Nat := l.foldr (· * ·) 1
theorem prodL_nil : prodL [] = 1 := rfl
theorem prodL_cons (a : Nat) (l : List Nat) : prodL (a :: l) = a * prodL l := rfl
theorem prodL_append (a b : List Nat) : prodL (a ++ b) = prodL a * prodL b := by
  induction a with
  | nil => simp [prodL_nil]
  | cons x a ih => rw [List.cons_append, prodL_cons, prodL_cons, ih, Nat.mul_assoc]
theorem prodL_perm {a b : List Nat} (h : a.Perm b) : prodL a = prodL b := by
  induction h with
  | nil => rfl
  | cons x _ ih => rw [prodL_cons, prodL_cons, ih]
  | swap x y l => rw [prodL_cons, prodL_cons, prodL_cons, prodL_cons, Nat.mul_left_comm]
  | trans _ _ ih1 ih2 => exact ih1.trans ih2
theorem prodL_pos {l : List Nat} (h : ∀ x ∈ l, 1 ≤ x) : 1 ≤ prodL l := by
  induction l with
  | nil => exact Nat.le_refl _
  | cons a l ih => exact Nat.mul_pos (h a List.mem_cons_self) (ih fun x hx => h x (List.mem_cons_of_mem _ hx))
theorem prodL_one {l : List Nat} (h : ∀ x ∈ l, x = 1) : prodL l = 1 := by
  induction l with
  | nil => rfl
  | cons a l ih => rw [prodL_cons, h a List.mem_cons_self, ih fun x hx => h x (List.mem_cons_of_mem _ hx)]
theorem prodL_le {l : List Nat} (f g : Nat → Nat) (h : ∀ x ∈ l, f x ≤ g x) : prodL (l.map f) ≤ prodL (l.map g) := by
  induction l with
  | nil => exact Nat.le_refl _
  | cons a l ih =>
    rw [List.map_cons, List.map_cons, prodL_cons, prodL_cons]
    exact Nat.mul_le_mul (h a List.mem_cons_self) (ih fun x hx => h x (List.mem_cons_of_mem _ hx))
theorem prodL_pow (l : List Nat) (e : Nat) : prodL (l.map (· ^ e)) = prodL l ^ e := by
  induction l with
  | nil => simp [prodL_nil]
  | cons a l ih => rw [List.map_cons, prodL_cons, prodL_cons, ih, Nat.mul_pow]
theorem pfT_prod : ∀ (z d n : Nat), 2 * n - d ≤ z → 2 ≤ d → 1 ≤ n → prodL (pfT d n) = n := by
  intro z
  induction z with
  | zero =>
    intro d n hz hd h1
    rcases Nat.lt_or_ge 1 n with hn | hn
    · have c : n < d * d := Nat.lt_of_lt_of_le (by omega : n < 2 * d) (Nat.mul_le_mul_right d hd)
      rw [pfT_big hd hn c, prodL_cons, prodL_nil, Nat.mul_one]
    · rw [pfT_one hn, prodL_nil]
      omega
  | succ z ih =>
    intro d n hz hd h1
    rcases Nat.lt_or_ge 1 n with hn | hn
    · rcases Nat.lt_or_ge n (d * d) with c | c
      · rw [pfT_big hd hn c, prodL_cons, prodL_nil, Nat.mul_one]
      · have h4 : d ≤ n := Nat.le_trans (Nat.le_mul_of_pos_left d (by omega)) c
        rw [pfT, dif_neg (by omega), dif_neg (by omega)]
        split
        · rename_i h3
          have h5 : n / d < n := Nat.div_lt_self (by omega) (by omega)
          have h6 : 1 ≤ n / d := Nat.div_pos h4 (by omega)
          rw [prodL_cons, ih d (n / d) (by omega) hd h6]
          exact Nat.mul_div_cancel' (Nat.dvd_of_mod_eq_zero h3)
        · exact ih (d + 1) n (by omega) (by omega) h1
    · rw [pfT_one hn, prodL_nil]
      omega
theorem pf_prod {n : Nat} (h : 1 ≤ n) : prodL (pf n) = n := pfT_prod _ 2 n (Nat.le_refl _) (Nat.le_refl _) h
/-! ### all primes of many numbers -/
def pfs (L : List Nat) : List Nat := L.flatMap pf
theorem pfs_nil : pfs [] = [] := rfl
theorem pfs_append (a b : List Nat) : pfs (a ++ b) = pfs a ++ pfs b := List.flatMap_append
theorem pfs_one (n : Nat) : pfs [n] = pf n := by simp [pfs]
theorem pfs_perm {a b : List Nat} (h : a.Perm b) : (pfs a).Perm (pfs b) := h.flatMap_right pf
theorem pfs_mem {L : List Nat} {N p : Nat} (hL : ∀ x ∈ L, x ≤ N) (h : p ∈ pfs L) : 2 ≤ p ∧ p ≤ N := by
  unfold pfs at h
  obtain ⟨x, hx, hp⟩ := List.mem_flatMap.mp h
  have := pf_mem hp
  have := hL x hx
  omega
theorem pfs_prod {L : List Nat} (h : ∀ x ∈ L, 1 ≤ x) : prodL (pfs L) = prodL L := by
  induction L with
  | nil => rfl
  | cons a L ih =>
    have e : pfs (a :: L) = pf a ++ pfs L := rfl
    rw [e, prodL_append, prodL_cons, pf_prod (h a List.mem_cons_self), ih fun x hx => h x (List.mem_cons_of_mem _ hx)]
/-! ### the greatest exponent, and what lacks -/
/-- what divides all counts divides it; 2 where there are none -/
def IsExp (l : List Nat) (e : Nat) : Prop := (l = [] → e = 2) ∧ (l ≠ [] → 1 ≤ e ∧ ∀ d, d ∣ e ↔ ∀ p ∈ l, d ∣ l.count p)
theorem isExp_unique {l : List Nat} {e e' : Nat} (h : IsExp l e) (h' : IsExp l e') : e = e' := by
  by_cases c : l = []
  · rw [h.1 c, h'.1 c]
  · have a := (h.2 c).2
    have b := (h'.2 c).2
    exact Nat.dvd_antisymm ((b e).mpr ((a e).mp (Nat.dvd_refl e))) ((a e').mpr ((b e').mp (Nat.dvd_refl e')))
theorem isExp_perm {l l' : List Nat} {e : Nat} (p : l.Perm l') (h : IsExp l e) : IsExp l' e := by
  refine ⟨fun c => h.1 ?_, fun c => ?_⟩
  · subst c
    exact p.eq_nil
  · have c' : l ≠ [] := fun z => c (by subst z; exact p.symm.eq_nil)
    obtain ⟨h1, h2⟩ := h.2 c'
    refine ⟨h1, fun d => (h2 d).trans ?_⟩
    constructor
    · intro h3 q hq
      rw [← p.count_eq q]
      exact h3 q (p.mem_iff.mpr hq)
    · intro h3 q hq
      rw [p.count_eq q]
      exact h3 q (p.mem_iff.mp hq)
/-- what lacks of a prime that stands so often -/
def lackE (m e : Nat) : Nat := (e - m % e) % e
def lackK (ks l : List Nat) (e : Nat) : Nat := prodL (ks.map fun p => p ^ lackE (l.count p) e)
theorem lackE_0 (e : Nat) : lackE 0 e = 0 := by simp [lackE]
/-- over more keys it is no other -/
theorem prod_keys (f : Nat → Nat) {ks ks' : List Nat} (h1 : ks.Nodup) (h2 : ks'.Nodup) (h3 : ∀ p ∈ ks, p ∉ ks' → f p = 1) (h4 : ∀ p ∈ ks', p ∉ ks → f p = 1) : prodL (ks.map f) = prodL (ks'.map f) := by
  have cut : ∀ l : List Nat, prodL (l.map f) = prodL ((l.filter fun p => decide (f p ≠ 1)).map f) := by
    intro l
    induction l with
    | nil => rfl
    | cons a l ih =>
      rw [List.map_cons, prodL_cons, List.filter_cons]
      by_cases c : f a = 1
      · rw [if_neg (by simp [c]), c, Nat.one_mul, ih]
      · rw [if_pos (by simp [c]), List.map_cons, prodL_cons, ih]
  rw [cut ks, cut ks']
  refine prodL_perm (List.Perm.map f ?_)
  rw [List.perm_ext_iff_of_nodup (h1.filter _) (h2.filter _)]
  intro p
  rw [List.mem_filter, List.mem_filter]
  simp only [decide_eq_true_eq]
  constructor
  · rintro ⟨a, b⟩
    exact ⟨Classical.byContradiction fun c => b (h3 p a c), b⟩
  · rintro ⟨a, b⟩
    exact ⟨Classical.byContradiction fun c => b (h4 p a c), b⟩
/-- what lacks of all -/
def IsLack (l : List Nat) (e r : Nat) : Prop := ∀ ks : List Nat, ks.Nodup → (∀ p ∈ l, p ∈ ks) → r = lackK ks l e
theorem lack_keys {l ks : List Nat} {e : Nat} (h1 : ks.Nodup) (h2 : ∀ p ∈ l, p ∈ ks) : IsLack l e (lackK ks l e) := by
  intro ks' h3 h4
  refine prod_keys _ h1 h3 (fun p _ h => ?_) fun p _ h => ?_
  · rw [List.count_eq_zero_of_not_mem fun z => h (h4 p z), lackE_0, Nat.pow_zero]
  · rw [List.count_eq_zero_of_not_mem fun z => h (h2 p z), lackE_0, Nat.pow_zero]
theorem nodup_of (l : List Nat) : ∃ ks : List Nat, ks.Nodup ∧ ∀ p, p ∈ ks ↔ p ∈ l := by
  induction l with
  | nil => exact ⟨[], List.nodup_nil, fun p => Iff.rfl⟩
  | cons a l ih =>
    obtain ⟨ks, h1, h2⟩ := ih
    by_cases c : a ∈ ks
    · refine ⟨ks, h1, fun p => ?_⟩
      rw [h2, List.mem_cons]
      exact ⟨.inr, fun z => z.elim (fun e => by rw [e]; exact (h2 a).mp c) id⟩
    · refine ⟨a :: ks, List.nodup_cons.mpr ⟨c, h1⟩, fun p => ?_⟩
      rw [List.mem_cons, List.mem_cons, h2]
theorem isLack_unique {l : List Nat} {e r r' : Nat} (h : IsLack l e r) (h' : IsLack l e r') : r = r' := by
  obtain ⟨ks, h1, h2⟩ := nodup_of l
  rw [h ks h1 fun p hp => (h2 p).mpr hp, h' ks h1 fun p hp => (h2 p).mpr hp]
theorem isLack_perm {l l' : List Nat} {e r : Nat} (p : l.Perm l') (h : IsLack l e r) : IsLack l' e r := by
  intro ks h1 h2
  rw [h ks h1 fun q hq => h2 q (p.mem_iff.mp hq)]
  unfold lackK
  congr 1
  exact List.map_congr_left fun q _ => by rw [p.count_eq q]
/-- a part of the primes, each once, has no greater product -/
theorem prod_sub {ks l : List Nat} (h1 : ks.Nodup) (h2 : ∀ p ∈ ks, p ∈ l) (h3 : ∀ p ∈ l, 1 ≤ p) : prodL ks ≤ prodL l := by
  induction ks generalizing l with
  | nil => exact prodL_pos h3
  | cons a ks ih =>
    have ha : a ∈ l := h2 a List.mem_cons_self
    rw [List.nodup_cons] at h1
    have hp := List.perm_cons_erase ha
    rw [prodL_perm hp, prodL_cons, prodL_cons]
    refine Nat.mul_le_mul_left a (ih h1.2 (fun p hp2 => ?_) fun p hp2 => h3 p (List.mem_of_mem_erase hp2))
    exact (List.mem_erase_of_ne fun e : p = a => h1.1 (e ▸ hp2)).mpr (h2 p (List.mem_cons_of_mem _ hp2))
/-- partial products are small: at most N to the e -/
theorem lack_le {ks l : List Nat} {e : Nat} (he : 1 ≤ e) (h1 : ks.Nodup) (h3 : ∀ p ∈ l, 1 ≤ p) (h4 : ∀ p ∈ ks, 1 ≤ p) : lackK ks l e ≤ prodL l ^ e := by
  have e1 : lackK ks l e = lackK (ks.filter fun p => decide (p ∈ l)) l e := by
    refine prod_keys _ h1 (h1.filter _) (fun p hp h => ?_) fun p hp h => absurd (List.mem_filter.mp hp).1 h
    rw [List.mem_filter] at h
    have : p ∉ l := fun z => h ⟨hp, by simp [z]⟩
    rw [List.count_eq_zero_of_not_mem this, lackE_0, Nat.pow_zero]
  rw [e1]
  unfold lackK
  refine Nat.le_trans (prodL_le _ (fun p => p ^ e) fun p hp => Nat.pow_le_pow_right (h4 p (List.mem_filter.mp hp).1) (Nat.le_of_lt (Nat.mod_lt _ (by omega)))) ?_
  rw [prodL_pow]
  refine Nat.pow_le_pow_left (prod_sub (h1.filter _) (fun p hp => ?_) h3) e
  simpa using (List.mem_filter.mp hp).2
theorem lackK_snoc (ks : List Nat) (p : Nat) (l : List Nat) (e : Nat) : lackK (ks ++ [p]) l e = lackK ks l e * p ^ lackE (l.count p) e := by
  unfold lackK
  rw [List.map_append, prodL_append]
  simp [prodL]
end Pn
namespace Pn
/-! ### one factorization alone -/
def Pr (p : Nat) : Prop := 2 ≤ p ∧ Low p p
theorem pr_dvd {p k : Nat} (h : Pr p) (hk : k ∣ p) : k = 1 ∨ k = p := by
  have h1 : k ≤ p := Nat.le_of_dvd (by have := h.1; omega) hk
  rcases (by omega : k = 0 ∨ k = 1 ∨ (2 ≤ k ∧ k < p) ∨ k = p) with c | c | c | c
  · subst c
    have := Nat.eq_zero_of_zero_dvd hk
    have := h.1
    omega
  · exact .inl c
  · exact absurd hk (h.2 k c.1 c.2)
  · exact .inr c
theorem pr_mul {p a b : Nat} (h : Pr p) (hd : p ∣ a * b) : p ∣ a ∨ p ∣ b := by
  rcases pr_dvd h (Nat.gcd_dvd_left p a) with c | c
  · exact .inr (Nat.Coprime.dvd_of_dvd_mul_left c hd)
  · exact .inl (c ▸ Nat.gcd_dvd_right p a)
theorem pr_list {p : Nat} (h : Pr p) : ∀ {l : List Nat}, (∀ q ∈ l, Pr q) → p ∣ prodL l → p ∈ l
  | [], _, hd => by
    have := Nat.le_of_dvd (by decide) hd
    have := h.1
    simp [prodL] at *
    omega
  | a :: l, hl, hd => by
    rw [prodL_cons] at hd
    rcases pr_mul h hd with c | c
    · rcases pr_dvd (hl a List.mem_cons_self) c with e | e
      · have := h.1
        omega
      · exact e ▸ List.mem_cons_self
    · exact List.mem_cons_of_mem _ (pr_list h (fun q hq => hl q (List.mem_cons_of_mem _ hq)) c)
theorem pr_unique : ∀ {l l' : List Nat}, (∀ q ∈ l, Pr q) → (∀ q ∈ l', Pr q) → prodL l = prodL l' → l.Perm l'
  | [], l', _, h', e => by
    cases l' with
    | nil => exact List.Perm.refl _
    | cons a l' =>
      exfalso
      have h1 := (h' a List.mem_cons_self).1
      have h2 := prodL_pos (l := l') fun x hx => by have := (h' x (List.mem_cons_of_mem _ hx)).1; omega
      rw [prodL_cons] at e
      have h3 : prodL [] = 1 := rfl
      have h4 : 2 * 1 ≤ a * prodL l' := Nat.mul_le_mul h1 h2
      omega
  | a :: l, l', h, h', e => by
    have ha := h a List.mem_cons_self
    have hm : a ∈ l' := pr_list ha h' (by rw [← e, prodL_cons]; exact Nat.dvd_mul_right a _)
    have hp := List.perm_cons_erase hm
    have e2 : prodL l = prodL (l'.erase a) := by
      have h1 := prodL_perm hp
      rw [← e, prodL_cons, prodL_cons] at h1
      exact Nat.eq_of_mul_eq_mul_left (by have := ha.1; omega) h1
    exact ((pr_unique (fun q hq => h q (List.mem_cons_of_mem _ hq)) (fun q hq => h' q (List.mem_of_mem_erase hq)) e2).cons a).trans hp.symm
theorem pfT_pr : ∀ (z d n : Nat), 2 * n - d ≤ z → 2 ≤ d → Low d n → ∀ p ∈ pfT d n, Pr p := by
  intro z
  induction z with
  | zero =>
    intro d n hz hd hl p hp
    rcases Nat.lt_or_ge 1 n with hn | hn
    · have c : n < d * d := Nat.lt_of_lt_of_le (by omega : n < 2 * d) (Nat.mul_le_mul_right d hd)
      rw [pfT_big hd hn c] at hp
      simp at hp
      subst hp
      exact ⟨hn, low_self hl c⟩
    · rw [pfT_one hn] at hp
      cases hp
  | succ z ih =>
    intro d n hz hd hl p hp
    rcases Nat.lt_or_ge 1 n with hn | hn
    · rcases Nat.lt_or_ge n (d * d) with c | c
      · rw [pfT_big hd hn c] at hp
        simp at hp
        subst hp
        exact ⟨hn, low_self hl c⟩
      · have h4 : d ≤ n := Nat.le_trans (Nat.le_mul_of_pos_left d (by omega)) c
        by_cases h3 : d ∣ n
        · rw [pfT_dvd hd (by omega) hl h3] at hp
          have h5 : n / d < n := Nat.div_lt_self (by omega) (by omega)
          rcases List.mem_cons.mp hp with rfl | hp
          · exact ⟨hd, fun k h1 h2 h6 => hl k h1 h2 (Nat.dvd_trans h6 h3)⟩
          · exact ih d (n / d) (by omega) hd (low_div hl h3) p hp
        · rw [pfT_up hd h3] at hp
          exact ih (d + 1) n (by omega) (by omega) (low_up hl h3) p hp
    · rw [pfT_one hn] at hp
      cases hp
theorem pf_pr {n p : Nat} (h : p ∈ pf n) : Pr p := pfT_pr _ 2 n (Nat.le_refl _) (Nat.le_refl _) (low_2 n) p h
theorem pfs_pr {L : List Nat} {p : Nat} (h : p ∈ pfs L) : Pr p := by
  obtain ⟨x, _, hp⟩ := List.mem_flatMap.mp h
  exact pf_pr hp
/-- the primes of numbers are those of their product -/
theorem pfs_pf {L : List Nat} (h : ∀ x ∈ L, 1 ≤ x) : (pfs L).Perm (pf (prodL L)) :=
  pr_unique (fun _ hq => pfs_pr hq) (fun _ hq => pf_pr hq) (by rw [pfs_prod h, pf_prod (prodL_pos h)])
theorem pf_mul {a b : Nat} (ha : 1 ≤ a) (hb : 1 ≤ b) : (pf (a * b)).Perm (pf a ++ pf b) := by
  refine pr_unique (fun _ hq => pf_pr hq) (fun q hq => ?_) ?_
  · rcases List.mem_append.mp hq with c | c <;> exact pf_pr c
  · rw [prodL_append, pf_prod (Nat.mul_pos ha hb), pf_prod ha, pf_prod hb]
theorem ct_mul {a b p : Nat} (ha : 1 ≤ a) (hb : 1 ≤ b) : (pf (a * b)).count p = (pf a).count p + (pf b).count p := by
  rw [(pf_mul ha hb).count_eq, List.count_append]
theorem pf_1 : pf 1 = [] := pfT_one (Nat.le_refl 1)
theorem ct_pow {a p : Nat} (ha : 1 ≤ a) (e : Nat) : (pf (a ^ e)).count p = e * (pf a).count p := by
  induction e with
  | zero => rw [Nat.pow_zero, pf_1, Nat.zero_mul]; rfl
  | succ e ih => rw [Nat.pow_succ, ct_mul (Nat.pow_pos ha) ha, ih, Nat.succ_mul]
theorem pf_self {p : Nat} (h : Pr p) : pf p = [p] := by
  have h1 : (pf p).Perm [p] := pr_unique (fun _ hq => pf_pr hq) (fun q hq => by simp at hq; exact hq ▸ h) (by rw [pf_prod (by have := h.1; omega)]; simp [prodL])
  exact List.perm_singleton.mp h1
/-- a list's product by its counts -/
theorem prod_counts {ks : List Nat} (hn : ks.Nodup) : ∀ l : List Nat, (∀ p ∈ l, p ∈ ks) → prodL l = prodL (ks.map fun p => p ^ l.count p)
  | [], _ => by
    have e : prodL (ks.map fun p => p ^ ([] : List Nat).count p) = 1 := prodL_one fun x hx => by
      obtain ⟨y, _, rfl⟩ := List.mem_map.mp hx
      simp
    rw [e]
    rfl
  | a :: l, h => by
    have ih := prod_counts hn l fun p hp => h p (List.mem_cons_of_mem _ hp)
    have ha := h a List.mem_cons_self
    rw [prodL_cons, ih]
    have hp := List.perm_cons_erase ha
    rw [prodL_perm (hp.map fun p => p ^ l.count p), prodL_perm (hp.map fun p => p ^ (a :: l).count p), List.map_cons, List.map_cons, prodL_cons, prodL_cons, List.count_cons_self, Nat.pow_succ, ← Nat.mul_assoc, Nat.mul_comm a]
    congr 2
    refine List.map_congr_left fun p hp2 => ?_
    have hne : p ≠ a := fun e => by
      subst e
      exact (List.Nodup.not_mem_erase hn) hp2
    rw [List.count_cons_of_ne (Ne.symm hne)]
/-- the counts of a product of powers of primes -/
theorem ct_prod {ks : List Nat} (hn : ks.Nodup) (hp : ∀ q ∈ ks, Pr q) (f : Nat → Nat) (p : Nat) : (pf (prodL (ks.map fun q => q ^ f q))).count p = if p ∈ ks then f p else 0 := by
  induction ks with
  | nil => simp [prodL, pf_1]
  | cons a ks ih =>
    have ha := hp a List.mem_cons_self
    have hpos : ∀ x ∈ ks.map (fun q => q ^ f q), 1 ≤ x := fun x hx => by
      obtain ⟨y, hy, rfl⟩ := List.mem_map.mp hx
      exact Nat.pow_pos (by have := (hp y (List.mem_cons_of_mem _ hy)).1; omega)
    rw [List.nodup_cons] at hn
    rw [List.map_cons, prodL_cons, ct_mul (Nat.pow_pos (by have := ha.1; omega)) (prodL_pos hpos), ct_pow (by have := ha.1; omega), pf_self ha, ih hn.2 fun q hq => hp q (List.mem_cons_of_mem _ hq)]
    by_cases c : p = a
    · subst c
      rw [if_neg hn.1, if_pos List.mem_cons_self]
      simp
    · rw [List.count_eq_zero_of_not_mem (by simp [c]), Nat.mul_zero, Nat.zero_add]
      by_cases c2 : p ∈ ks
      · rw [if_pos c2, if_pos (List.mem_cons_of_mem _ c2)]
      · rw [if_neg c2, if_neg (by simp [c, c2])]
/-- N is a power by e just where e divides all counts -/
theorem pow_iff {N e : Nat} (hN : 1 ≤ N) (he : 1 ≤ e) : (∃ b, N = b ^ e) ↔ ∀ p, e ∣ (pf N).count p := by
  constructor
  · rintro ⟨b, rfl⟩ p
    have hb : 1 ≤ b := by
      rcases Nat.eq_zero_or_pos b with c | c
      · subst c
        rw [Nat.zero_pow (by omega)] at hN
        omega
      · exact c
    rw [ct_pow hb]
    exact Nat.dvd_mul_right e _
  · intro h
    obtain ⟨ks, h1, h2⟩ := nodup_of (pf N)
    refine ⟨prodL (ks.map fun p => p ^ ((pf N).count p / e)), ?_⟩
    rw [← prodL_pow, List.map_map]
    have e1 := prod_counts h1 (pf N) fun p hp => (h2 p).mpr hp
    rw [pf_prod hN] at e1
    refine e1.trans ?_
    congr 1
    refine List.map_congr_left fun p _ => ?_
    show p ^ (pf N).count p = (p ^ ((pf N).count p / e)) ^ e
    rw [← Nat.pow_mul, Nat.div_mul_cancel (h p)]
theorem lackE_dvd (m : Nat) {e : Nat} (he : 1 ≤ e) : e ∣ m + lackE m e := by
  unfold lackE
  have h1 : m % e < e := Nat.mod_lt _ (by omega)
  have h3 := Nat.div_add_mod m e
  rcases Nat.eq_zero_or_pos (m % e) with c | c
  · rw [c, Nat.sub_zero, Nat.mod_self, Nat.add_zero]
    exact Nat.dvd_of_mod_eq_zero c
  · rw [Nat.mod_eq_of_lt (by omega : e - m % e < e)]
    refine ⟨m / e + 1, ?_⟩
    rw [Nat.mul_add, Nat.mul_one]
    omega
theorem lackE_min {m k e : Nat} (he : 1 ≤ e) (h : e ∣ m + k) : lackE m e ≤ k := by
  unfold lackE
  have h1 : m % e < e := Nat.mod_lt _ (by omega)
  rcases Nat.eq_zero_or_pos (m % e) with c | c
  · rw [c, Nat.sub_zero, Nat.mod_self]
    exact Nat.zero_le _
  · rw [Nat.mod_eq_of_lt (by omega : e - m % e < e)]
    refine Nat.le_of_not_lt fun z => ?_
    have h2 : (m + k) % e = 0 := Nat.mod_eq_zero_of_dvd h
    rw [Nat.add_mod, Nat.mod_eq_of_lt (by omega : k < e), Nat.mod_eq_of_lt (by omega : m % e + k < e)] at h2
    omega
/-- the counts of what lacks -/
theorem ct_lack {N e r : Nat} (h : IsLack (pf N) e r) (p : Nat) : (pf r).count p = lackE ((pf N).count p) e := by
  obtain ⟨ks, h1, h2⟩ := nodup_of (pf N)
  rw [h ks h1 fun q hq => (h2 q).mpr hq]
  unfold lackK
  rw [ct_prod h1 (fun q hq => pf_pr ((h2 q).mp hq)) (fun q => lackE ((pf N).count q) e)]
  by_cases c : p ∈ ks
  · rw [if_pos c]
  · rw [if_neg c, List.count_eq_zero_of_not_mem fun z => c ((h2 p).mpr z), lackE_0]
theorem lack_pos {N e r : Nat} (h : IsLack (pf N) e r) : 1 ≤ r := by
  obtain ⟨ks, h1, h2⟩ := nodup_of (pf N)
  rw [h ks h1 fun q hq => (h2 q).mpr hq]
  refine prodL_pos fun x hx => ?_
  obtain ⟨y, hy, rfl⟩ := List.mem_map.mp hx
  exact Nat.pow_pos (by have := (pf_mem ((h2 y).mp hy)).1; omega)
/-- with what lacks it is a power -/
theorem lack_pow {N e r : Nat} (hN : 1 ≤ N) (he : 1 ≤ e) (h : IsLack (pf N) e r) : ∃ b, N * r = b ^ e := by
  rw [pow_iff (Nat.mul_pos hN (lack_pos h)) he]
  intro p
  rw [ct_mul hN (lack_pos h), ct_lack h]
  exact lackE_dvd _ he
/-- and with no lesser number -/
theorem lack_min {N e r s : Nat} (hN : 1 ≤ N) (he : 1 ≤ e) (hs : 1 ≤ s) (h : IsLack (pf N) e r) (hb : ∃ b, N * s = b ^ e) : r ≤ s := by
  rw [pow_iff (Nat.mul_pos hN hs) he] at hb
  obtain ⟨ks, h1, h2⟩ := nodup_of (pf N ++ pf s)
  rw [h ks h1 fun q hq => (h2 q).mpr (List.mem_append_left _ hq)]
  have e1 := prod_counts h1 (pf s) fun p hp => (h2 p).mpr (List.mem_append_right _ hp)
  rw [pf_prod hs] at e1
  rw [e1]
  refine prodL_le _ _ fun p hp => Nat.pow_le_pow_right ?_ ?_
  · rcases List.mem_append.mp ((h2 p).mp hp) with c | c
    · have := (pf_mem c).1
      omega
    · have := (pf_mem c).1
      omega
  · have := hb p
    rw [ct_mul hN hs] at this
    exact lackE_min he this
/-- the greatest exponent -/
theorem exp_pow {N e : Nat} (hN : 2 ≤ N) (h : IsExp (pf N) e) : (∃ b, N = b ^ e) ∧ ∀ e', 1 ≤ e' → (∃ b, N = b ^ e') → e' ≤ e := by
  have hne : pf N ≠ [] := fun c => by
    have := pf_prod (n := N) (by omega)
    rw [c, prodL_nil] at this
    omega
  obtain ⟨h1, h2⟩ := h.2 hne
  refine ⟨(pow_iff (by omega) h1).mpr fun p => ?_, fun e' he' hb => ?_⟩
  · by_cases c : p ∈ pf N
    · exact (h2 e).mp (Nat.dvd_refl e) p c
    · rw [List.count_eq_zero_of_not_mem c]
      exact Nat.dvd_zero e
  · rw [pow_iff (by omega) he'] at hb
    exact Nat.le_of_dvd (by omega) ((h2 e').mpr fun p _ => hb p)
theorem pf_nil {N : Nat} (hN : 1 ≤ N) : pf N = [] ↔ N = 1 := by
  constructor
  · intro c
    have := pf_prod hN
    rw [c, prodL_nil] at this
    exact this.symm
  · rintro rfl
    exact pf_1
/-- all twice -/
theorem exp_twice {l : List Nat} {e : Nat} (hl : l ≠ []) (h : IsExp l e) : IsExp (l ++ l) (2 * e) := by
  obtain ⟨h1, h2⟩ := h.2 hl
  refine ⟨fun c => absurd (List.append_eq_nil_iff.mp c).1 hl, fun _ => ⟨by omega, fun d => ?_⟩⟩
  constructor
  · intro hd p hp
    rw [List.count_append, ← Nat.two_mul]
    have hp' : p ∈ l := (List.mem_append.mp hp).elim id id
    exact Nat.dvd_trans hd (Nat.mul_dvd_mul_left 2 ((h2 e).mp (Nat.dvd_refl e) p hp'))
  · intro hd
    have hm : ∀ p ∈ l, Nat.lcm d 2 ∣ 2 * l.count p := fun p hp => by
      have := hd p (List.mem_append_left _ hp)
      rw [List.count_append, ← Nat.two_mul] at this
      exact Nat.lcm_dvd this (Nat.dvd_mul_right 2 _)
    obtain ⟨k, hk⟩ := Nat.dvd_lcm_right d 2
    have hke : k ∣ e := (h2 k).mpr fun p hp => by
      have := hm p hp
      rw [hk] at this
      exact Nat.dvd_of_mul_dvd_mul_left (by decide) this
    have : Nat.lcm d 2 ∣ 2 * e := by
      rw [hk]
      exact Nat.mul_dvd_mul_left 2 hke
    exact Nat.dvd_trans (Nat.dvd_lcm_left d 2) this
/-- with what lacks nothing lacks -/
theorem lack_one {l r' : List Nat} {e : Nat} (he : 1 ≤ e) (h : ∀ p, e ∣ (l ++ r').count p) : IsLack (l ++ r') e 1 := by
  intro ks _ _
  refine (prodL_one fun x hx => ?_).symm
  obtain ⟨p, _, rfl⟩ := List.mem_map.mp hx
  have : lackE ((l ++ r').count p) e ≤ 0 := lackE_min he (by simpa using h p)
  rw [Nat.le_zero.mp this, Nat.pow_zero]
end Pn
/-! ListVals: list(d.values()). -/
namespace LiV
open PySem PySem.Spec PyProof.Rows L2
def rValsL : V → Hp → VK → Prop := fun x H Q => ∃ (d : Addr) (kvs : List (Key × V)), x = .ref d ∧ H d = some (.dK kvs) ∧
  ∀ p : Addr, H p = none → Q (.ref p) (upd H p (.lst (kvs.map fun kv => kv.2)))
def tListVals (te : TE) : TE := fun σ H Q => te σ H fun x H1 => rValsL x H1 Q
section
variable {X : Cx} {e : Expr} {te : TE} {p apos cpos pos : Pos}
/-- list(e.values()) -/
theorem pe_listVals (hc : X.calm = true) (he : PE X e te) (hg : Gl X "list") (hm : X.mg "list" = none) (hv : bootBuiltins "list" = some (.type "list")) (hbase : attributeBase e "values" X.env (eval e X.env) = eval e X.env := by rfl) (hline : (apos.endLine == cpos.line) = true := by rfl)
    (hs : starEach [.Call (.Attribute e "values" apos) [] [] cpos] X.env = (false, eval (.Call (.Attribute e "values" apos) [] [] cpos) X.env) :: starEach [] X.env := by rfl) :
    PE X (.Call (.Name "list" p) [.Call (.Attribute e "values" apos) [] [] cpos] [] pos) (tListVals te) := by
  refine ⟨fun pins s σ H Q I hq => ?_⟩
  refine wpAny_Call_Name_kw (ld_blt I hg hm hv ?_)
  refine PyProof.Rows.callWith_type1 ?_ hs rfl
  rw [hs]
  show wpAny _ _ (spliced ((false, eval (.Call (.Attribute e "values" apos) [] [] cpos) X.env) :: backTo pos (starEach [] X.env))) _ _ s
  refine Calls.spliced_cons ?_
  refine wpAny_Call_method (T := "dict") (id := "dict.values") hbase rfl hline F.plainAttrs_dict F.slot_dict_values F.type_dict_values (thn (he.run pins s σ H _ I hq) fun u s1 ⟨x, H1, I1, rx, d, kvs, ex, hd, q⟩ => ?_)
  subst ex
  obtain rfl : u = Value.ref d := rx
  obtain ⟨hz, hs0, vs, kv, hdo⟩ := I1.hok d _ hd
  obtain ⟨ep, hat⟩ := hdo.dictAt
  have lk : kvs.length = vs.length := Paired.length kv
  have I2 : Inv X pins σ H1 { s1 with heap := s1.heap.push { cls := .type "dict_values", data := .fields #[.ref d] } } := I1.kept (t' := s1.toks) fun b ob q => Heap.get?_push_of_some _ q
  refine ⟨hdo.typeIs, hdo.mapOf.noDict, ?_⟩
  show wpAny _ _ (callWith cpos (.builtin "dict.values") [.ref d] [] []) _ X.xe s1
  refine method_meetsIn F.slot_dict_values F.entry_dict_values rfl (PySem.evalArgs_none ⟨rfl, hdo.typeIs, F.args_dict_values_1 _, _, meets_dict_values (mixKind X.prog X.w) d hs0, ⟨vs, hdo⟩, ?_⟩)
  refine Calls.spliced_nil ?_
  refine PySem.W.kdl_call (PySem.W.kdl_values (knd := mixKind X.prog X.w) (d := d) (kvs := vs) (ep := ep)) (I1.ok.hd hc) ⟨⟨_, Heap.get?_push_size _ rfl, rfl, rfl⟩, hat.push _⟩ (by rw [← lk]; exact hz) fun h' tk acc' c' hk hS hacc => ?_
  have e0 : ∀ o : Obj, (s1.heap.push o).objs.size = s1.heap.objs.size + 1 := fun o => Heap.size_push _ _
  refine ⟨.ref (s1.heap.push { cls := .type "dict_values", data := .fields #[.ref d] }).objs.size, upd H1 (s1.heap.push { cls := .type "dict_values", data := .fields #[.ref d] }).objs.size (.lst (kvs.map fun kv => kv.2)), I2.laid hk (Nat.le_refl _) (show ObjOk X.prog X.w _ _ _ (.lst (kvs.map fun kv => kv.2)) from ⟨?_, acc'.toList, c', ?_, ?_⟩), rfl, q _ (I2.hok.fresh (Nat.le_refl _))⟩
  · rw [List.length_map]; exact hz
  · have el : acc'.toList.length = acc'.size := by simp
    refine vals_of_at (by rw [List.length_map, el, hacc.1, lk]) fun j x w h1 h2 => ?_
    obtain ⟨k, hky⟩ := hacc.2 j w (by rw [← Array.getElem?_toList]; exact h2)
    obtain ⟨x', g1, g2⟩ := KV.at' kv hky
    have e2 : (kvs.map fun kv => kv.2)[j]? = some x' := by rw [List.getElem?_map, g1] <;> rfl
    rw [e2] at h1
    cases h1
    exact g2
  · rw [Array.toArray_toList]; exact hS
end
end LiV

namespace Pn
open PySem PySem.Spec PyProof.Rows L2 LiV
/-! ### dicts by whole numbers -/
section
variable {σ : L2.St} {H : Hp} {Q : VK} {D : Ends} {K : PySem.W.Frag} {td ty tv tx te : TE}
theorem w_dget : tDGet td ty σ H Q = td σ H fun x H1 => ty σ H1 fun y H2 => ∃ a v, x = .ref a ∧ DGet H2 a y (some v) ∧ Q v H2 := rfl
theorem w_dget2 : tDGet2 td ty tx σ H Q = td σ H fun x H1 => ∃ a, x = .ref a ∧ IsD H1 a ∧ ty σ H1 fun y H2 => tx σ H2 fun z H3 => ∃ o, DGet H3 a y o ∧ Q (o.getD z) H3 := rfl
theorem w_dput : sDPut td ty tv D σ H = tv σ H fun v H1 => td σ H1 fun x H2 => ty σ H2 fun y H3 => ∃ a H4, x = .ref a ∧ DPut H3 a y v H4 ∧ D.nx σ H4 := rfl
theorem w_dnew : tDNewK σ H Q = ∀ p, H p = none → Q (.ref p) (upd H p (.dK [])) := rfl
theorem w_lv : tListVals te σ H Q = te σ H fun x H1 => ∃ (d : Addr) (kvs : List (Key × V)), x = .ref d ∧ H1 d = some (.dK kvs) ∧ ∀ p : Addr, H1 p = none → Q (.ref p) (upd H1 p (.lst (kvs.map fun kv => kv.2))) := rfl
end
/-- the dict with the keys ks, each with what g tells -/
def dN (ks : List Nat) (g : Nat → V) : List (Key × V) := ks.map fun k : Nat => ((Sum.inl (k : Int) : Key), g k)
theorem dN_val (g : Nat → V) (m : Nat) : ∀ ks : List Nat, valV (dN ks g) (Sum.inl (m : Int)) = if m ∈ ks then some (g m) else none
  | [] => rfl
  | k :: ks => by
    show valV (((Sum.inl (k : Int) : Key), g k) :: dN ks g) (Sum.inl (m : Int)) = _
    by_cases e : k = m
    · subst e
      rw [valV_pos rfl, if_pos (by simp)]
    · rw [valV_neg (fun z => e (by injection z with z; omega)), dN_val g m ks]
      have : (m ∈ k :: ks) = (m ∈ ks) := by
        simp
        intro z
        exact absurd z.symm e
      simp only [this]
theorem dN_get {H : Hp} {a : Addr} {ks : List Nat} {g : Nat → V} {m : Nat} (h : H a = some (.dK (dN ks g))) : DGet H a (.int (m : Int)) (if m ∈ ks then some (g m) else none) := by
  have := DGet.k (k := (Sum.inl (m : Int) : Key)) h
  rw [dN_val] at this
  exact this
theorem dN_at {H : Hp} {a : Addr} {ks : List Nat} {g : Nat → V} {m : Nat} (h : H a = some (.dK (dN ks g))) (hm : m ∈ ks) : DGet H a (.int (m : Int)) (some (g m)) := by
  have := dN_get (m := m) h
  rwa [if_pos hm] at this
theorem dN_put {H : Hp} {a : Addr} {ks : List Nat} {g : Nat → V} {m : Nat} (h : H a = some (.dK (dN ks g))) (hm : m ∉ ks) (hl : ks.length < sizeLine) : DPut H a (.int (m : Int)) (g m) (upd H a (.dK (dN (ks ++ [m]) g))) := by
  have e : dN (ks ++ [m]) g = putK (dN ks g) (Sum.inl (m : Int)) (g m) := by
    rw [putK_new (g m) (by rw [dN_val, if_neg hm])]
    simp [dN]
  rw [e]
  exact DPut.k (k := (Sum.inl (m : Int) : Key)) h (by simpa [dN] using hl)
theorem dN_vals (ks : List Nat) (g : Nat → V) : (dN ks g).map (fun kv => kv.2) = ks.map g := by simp [dN]
theorem dN_len (ks : List Nat) (g : Nat → V) : (dN ks g).length = ks.length := by simp [dN]
theorem w_isB {x y : V} {H : Hp} {Q : VK} : rIsB x y H Q = ∃ a b : Bool, x = .bl a ∧ y = .bl b ∧ Q (.bl (decide (a = b))) H := rfl
theorem w_notB {x y : V} {H : Hp} {Q : VK} : rNotB x y H Q = ∃ a b : Bool, x = .bl a ∧ y = .bl b ∧ Q (.bl (!decide (a = b))) H := rfl
/-! ### methods within a comprehension -/
theorem k_bm {X : Cx} {K : PySem.W.Frag} {e : Expr} {T : String} {r : V → List V → Hp → VK → Prop} {to : TE} {t : TA} (h : PE X e (tBM X.K T r to t)) (hk : X.K = K := by rfl) : PE X e (tBM K T r to t) := by
  subst hk
  exact h
theorem k_count {X : Cx} (K : PySem.W.Frag) (hk : X.K = K := by rfl) : MtR X "list.count" (rCntI K) := by
  subst hk
  exact mt_lcount
/-! ### xs[i] op= e of a list -/
theorem pget_list {X : Cx} (K : PySem.W.Frag) (h : X.K = K := by rfl) : PGet X (rIxL K) := by
  subst h
  intro pins s σ H o at' ov iv Q I ro ri hg
  obtain ⟨l, ys, k, z, rfl, rfl, hS, hA, hq⟩ := hg
  cases ro
  obtain ⟨tk, rfl⟩ := ri
  obtain ⟨raw, rel, isl, size⟩ := I.list hS
  obtain ⟨n, g1, g2, g3, g4, g5⟩ := atI_get hA
  obtain ⟨got, ge, gr⟩ := rel.get g2
  have len := rel.length
  have top := line63
  have done : EP X pins σ Q got s := ⟨z, H, I, gr, hq⟩
  by_cases neg : k < 0
  · have en : (k + (raw.toArray.size : Int)).toNat = n := by
      have g := g1
      rw [seqIndex_neg neg g4] at g
      rw [List.size_toArray, ← len]
      exact Option.some.inj g
    refine wpAny_getItem_list_neg isl.isList neg ?_ (by omega) ?_ done
    · rw [List.size_toArray]
      omega
    · rw [en]
      simpa using ge
  · have en : k.toNat = n := by
      have g := g1
      rw [seqIndex_of (by omega) g5] at g
      exact Option.some.inj g
    refine wpAny_getItem_list isl.isList (by omega) (by omega) ?_ done
    rw [en]
    simpa using ge
theorem w_augS {to ti te : TE} {tget : V → V → Hp → VK → Prop} {tip : TIp} {tset : TSet} {D : Ends} {σ : L2.St} {H : Hp} : tAugS to ti te tget tip tset D σ H = to σ H fun o H1 => ti σ H1 fun i H2 => tget o i H2 fun x H3 => te σ H3 fun y H4 => tip x y H4 fun z H5 => tset o i z H5 fun H6 => D.nx σ H6 := rfl
/-! ### comprehensions over ranges by steps -/
section
variable {σ : L2.St} {H : Hp} {Q : VK} {K : PySem.W.Frag} {te tl : TE} {tt : TT} {tr : TA} {g : TG} {vs : List Nat}
theorem lc_c {lo c : Int} {n : Nat} (f : Nat → Option V) (hl : n < sizeLine)
    (hs : ∀ (i : Nat) (H' : Hp), i < n → Same H H' → ∀ (N0 : Hp → Prop) (N1 : VK), (f i = none → ∀ H2, Same H' H2 → N0 H2) → (∀ y, f i = some y → ∀ H2, Same H' H2 → N1 y H2) →
      g (.int (lo + (i : Nat) * c)) (wipe σ vs) H' fun σ2 H2 => wipe σ2 vs = wipe σ vs ∧ tt σ2 H2 fun b H3 => if b = true then te σ2 H3 N1 else N0 H3)
    (q : ∀ D H', H D = none → Same H H' → H' D = some (.lst ((List.range n).filterMap f)) → Q (.ref D) H') : LJ (Itc lo c n) g tt te vs σ H Q := by
  intro D hD
  refine ⟨fun j left Hw => left + j = n ∧ Same H Hw ∧ Hw D = some (.lst ((List.range j).filterMap f)), ⟨n, Nat.add_zero n, same_new hD, by rw [upd_same]; simp⟩, fun j left Hw => ?_⟩
  rintro ⟨ej, p1, p2⟩
  rcases Nat.eq_zero_or_pos left with h0 | h0
  · left
    obtain rfl : j = n := by omega
    exact ⟨Nat.le_refl j, q D Hw hD p1 p2⟩
  · right
    have hj : j < n := by omega
    refine ⟨hj, fun Hz => Same H Hz ∧ Hz D = some (.lst ((List.range (j + 1)).filterMap f)), fun Hz hz => ⟨left - 1, by omega, by omega, hz.1, hz.2⟩, fun x Hy hy => ?_⟩
    obtain ⟨e1, e2⟩ := hy
    subst e1 e2
    have hlen : ((List.range j).filterMap f).length < sizeLine := Nat.lt_of_le_of_lt (List.length_filterMap_le _ _) (by rw [List.length_range]; omega)
    have hf1 : (List.range (j + 1)).filterMap f = (List.range j).filterMap f ++ (f j).toList := by
      rw [List.range_succ, List.filterMap_append]
      cases e : f j <;> simp [e]
    refine hs j Hy hj p1 _ _ (fun hf H2 k2 => ⟨p1.trans k2, ?_⟩) fun y hf H2 k2 => ⟨_, k2 _ _ p2, hlen, fun b o h => ?_, ?_⟩
    · rw [k2 _ _ p2, hf1, hf]
      simp
    · rw [upd_ne (ne_of_none h hD)]
      exact k2 _ _ (p1 _ _ h)
    · rw [upd_same, hf1, hf]
      rfl
end
/-! ### a comprehension over a dict's keys -/
section
variable {σ : L2.St} {H : Hp} {Q : VK} {K : PySem.W.Frag} {te tl td : TE} {tt : TT} {tr : TA} {g : TG} {vs : List Nat}
theorem w_lockE {t : TE} : tLockE t σ H Q = ∃ d u, H d = some u ∧ Mut (some u) ∧ ∀ od, t σ (upd H d (.frz od u)) fun v H' => H' d = some (.frz od u) ∧ Q v (upd H' d u) := rfl
theorem w_lcK : tLc (iKeys td) g tt te vs σ H Q = td σ H fun x H1 => ∃ d o, x = .ref d ∧ ((∃ kvs, H1 d = some (.frz o (.dK kvs)) ∧ LJ (Itk d o kvs) g tt te vs σ H1 Q) ∨ ∃ kvs, H1 d = some (.frz o (.dT kvs)) ∧ LJ (Itkt d o kvs) g tt te vs σ H1 Q) := rfl
theorem same_unlock {H0 H' : Hp} {d : Addr} {x u : HO} (s : Same (upd H0 d x) H') (h : H0 d = some u) : Same H0 (upd H' d u) := fun b o hb => by
  by_cases e : b = d
  · subst e
    rw [upd_same, ← h, hb]
  · rw [upd_ne e]
    exact s _ _ ((upd_ne e).trans hb)
theorem lc_k {d : Addr} {o : Obj} {kvs : List (Key × V)} (f : Key → Option V) (hx : H d = some (.frz o (.dK kvs))) (hl : kvs.length < sizeLine)
    (hs : ∀ (i : Nat) (k : Key) (v : V) (H' : Hp), kvs[i]? = some (k, v) → Same H H' → ∀ (N0 : Hp → Prop) (N1 : VK), (f k = none → ∀ H2, Same H' H2 → N0 H2) → (∀ y, f k = some y → ∀ H2, Same H' H2 → N1 y H2) →
      g (kV k) (wipe σ vs) H' fun σ2 H2 => wipe σ2 vs = wipe σ vs ∧ tt σ2 H2 fun b H3 => if b = true then te σ2 H3 N1 else N0 H3)
    (q : ∀ D H', H D = none → Same H H' → H' D = some (.lst ((kvs.map (·.1)).filterMap f)) → Q (.ref D) H') : LJ (Itk d o kvs) g tt te vs σ H Q := by
  intro D hD
  have hDd : d ≠ D := ne_of_none hx hD
  refine ⟨fun j left Hw => left + j = kvs.length ∧ Same H Hw ∧ Hw D = some (.lst (((kvs.map (·.1)).take j).filterMap f)), ⟨kvs.length, Nat.add_zero _, same_new hD, by rw [upd_same]; simp⟩, fun j left Hw => ?_⟩
  rintro ⟨ej, p1, p2⟩
  rcases Nat.eq_zero_or_pos left with h0 | h0
  · left
    have e : j = kvs.length := by omega
    refine ⟨⟨p1 _ _ hx, by omega⟩, q D Hw hD p1 ?_⟩
    rw [p2, List.take_of_length_le (by simp; omega)]
  · right
    have hj : j < kvs.length := by omega
    refine ⟨⟨p1 _ _ hx, hj⟩, fun Hz => Same H Hz ∧ Hz D = some (.lst (((kvs.map (·.1)).take (j + 1)).filterMap f)), fun Hz hz => ⟨left - 1, by omega, by omega, hz.1, hz.2⟩, fun x Hy hy => ?_⟩
    obtain ⟨e1, k, v, hk, e2⟩ := hy
    subst e1 e2
    have hk1 : (kvs.map (·.1))[j]? = some k := by rw [List.getElem?_map, hk]; rfl
    have hlen : (((kvs.map (·.1)).take j).filterMap f).length < sizeLine := Nat.lt_of_le_of_lt (Nat.le_trans (List.length_filterMap_le _ _) (by rw [List.length_take, List.length_map]; exact Nat.min_le_right _ _)) hl
    refine hs j k v Hy hk p1 _ _ (fun hf H2 k2 => ⟨p1.trans k2, ?_⟩) fun y hf H2 k2 => ⟨_, k2 _ _ p2, hlen, fun b o h => ?_, ?_⟩
    · rw [k2 _ _ p2, filt_take f hk1, hf]
      simp
    · rw [upd_ne (ne_of_none h hD)]
      exact k2 _ _ (p1 _ _ h)
    · rw [upd_same, filt_take f hk1, hf]
      rfl
/-- within the lock the dict still tells -/
theorem dN_atF {H : Hp} {a : Addr} {o : Obj} {ks : List Nat} {g : Nat → V} {m : Nat} (h : H a = some (.frz o (.dK (dN ks g)))) (hm : m ∈ ks) : DGet H a (.int (m : Int)) (some (g m)) := by
  refine .inl ⟨dN ks g, Sum.inl (m : Int), .inr ⟨o, h⟩, rfl, ?_⟩
  rw [dN_val, if_pos hm]
end
/-- the dict with one more, or one told anew -/
theorem dN_upd {H : Hp} {a : Addr} {ks : List Nat} {g : Nat → V} {v : V} {m : Nat} (h : H a = some (.dK (dN ks g))) (hl : ks.length < sizeLine) : DPut H a (.int (m : Int)) v (upd H a (.dK (dN (if m ∈ ks then ks else ks ++ [m]) fun k => if k = m then v else g k))) := by
  by_cases e : m ∈ ks
  · have e1 : dN ks (fun k => if k = m then v else g k) = putK (dN ks g) (Sum.inl (m : Int)) v := by
      unfold putK
      rw [valV_any, dN_val, if_pos e]
      simp only [Option.isSome_some, if_true]
      unfold dN
      rw [List.map_map]
      refine List.map_congr_left fun k hk => ?_
      show ((Sum.inl (k : Int) : Key), if k = m then v else g k) = if (Sum.inl (k : Int) : Key) = Sum.inl (m : Int) then ((Sum.inl (k : Int) : Key), v) else ((Sum.inl (k : Int) : Key), g k)
      by_cases c : k = m
      · subst c
        rw [if_pos rfl, if_pos rfl]
      · rw [if_neg c, if_neg fun z => c (by injection z with z; omega)]
    rw [if_pos e, e1]
    exact DPut.k (k := (Sum.inl (m : Int) : Key)) h (by simpa [dN] using hl)
  · rw [if_neg e]
    have e1 : dN (ks ++ [m]) (fun k => if k = m then v else g k) = putK (dN ks g) (Sum.inl (m : Int)) v := by
      rw [putK_new v (by rw [dN_val, if_neg e])]
      unfold dN
      rw [List.map_append]
      congr 1
      · refine List.map_congr_left fun k hk => ?_
        show ((Sum.inl (k : Int) : Key), if k = m then v else g k) = ((Sum.inl (k : Int) : Key), g k)
        rw [if_neg fun z : k = m => e (by rw [← z]; exact hk)]
      · simp
    rw [e1]
    exact DPut.k (k := (Sum.inl (m : Int) : Key)) h (by simpa [dN] using hl)
end Pn
/-! PnZ: zip in loops and comprehensions; is None. -/
namespace Pn
open PySem PySem.Spec PyProof.Rows L2
section
variable {σ : L2.St} {H : Hp} {Q : VK} {D : Ends} {K : PySem.W.Frag} {te : TE} {tt : TT} {tr : TA} {s1 : TS} {g : TG} {vs : List Nat}
theorem w_forZ : tFor (iZip K tr) g s1 D σ H = tr σ H fun us H1 => ∃ a b xs ys, us = [.ref a, .ref b] ∧ SqL K H1 a xs ∧ SqL K H1 b ys ∧ FJ (Itz K a b) g s1 D σ H1 := rfl
theorem for_z {a b : Addr} {xs ys : List V} {n : Nat} (hn : n = min xs.length ys.length) (Pv : Nat → L2.St → Hp → Prop) (h0 : Pv 0 σ H) (hl : ∀ i σ H, i ≤ n → Pv i σ H → SqL K H a xs ∧ SqL K H b ys)
    (hs : ∀ i x y σ H T, xs[i]? = some x → ys[i]? = some y → i < n → Pv i σ H → H T = none → ∀ N : L2.St → Hp → Prop, (∀ σ' H', Pv (i + 1) σ' H' → N σ' H') → g (.ref T) σ (upd H T (.tup [x, y])) fun σ2 H2 => s1 { D with nx := N, ct := N, bk := D.nx } σ2 H2)
    (hd : ∀ σ H, Pv n σ H → D.nx σ H) : FJ (Itz K a b) g s1 D σ H :=
  for_it (walk_zip hn) Pv h0 hl (fun i v σ H H' hi p y => by
    obtain ⟨T, x, z, rfl, hT, rfl, h1, h2⟩ := y
    exact hs i x z σ H T h1 h2 hi p hT _ fun _ _ z => z) hd
theorem w_lcZ : tLc (RZ.iZipA K tr) g tt te vs σ H Q = tr σ H fun us H1 => ∃ a b xs ys, us = [.ref a, .ref b] ∧ ((SqL K H1 a xs ∧ SqL K H1 b ys ∧ LJ (Itz K a b) g tt te vs σ H1 Q) ∨ (SqT K H1 a xs ∧ SqT K H1 b ys ∧ LJ (RZ.ItzT K a b) g tt te vs σ H1 Q)) := rfl
/-- over two tuples of one length: f tells of two items what is put into the list, if anything -/
theorem lc_zt {a b : Addr} {xs ys : List V} (f : V → V → Option V) (hx : SqT K H a xs) (hy : SqT K H b ys) (hn : xs.length = ys.length) (hl : xs.length < sizeLine)
    (hs : ∀ (i : Nat) (x y : V) (T : Addr) (H' : Hp), xs[i]? = some x → ys[i]? = some y → Same H H' → H' T = some (.tup [x, y]) → ∀ (N0 : Hp → Prop) (N1 : VK), (f x y = none → ∀ H2, Same H' H2 → N0 H2) → (∀ z, f x y = some z → ∀ H2, Same H' H2 → N1 z H2) →
      g (.ref T) (wipe σ vs) H' fun σ2 H2 => wipe σ2 vs = wipe σ vs ∧ tt σ2 H2 fun b H3 => if b = true then te σ2 H3 N1 else N0 H3)
    (q : ∀ D H', H D = none → Same H H' → H' D = some (.lst ((xs.zip ys).filterMap fun p => f p.1 p.2)) → Q (.ref D) H') : LJ (RZ.ItzT K a b) g tt te vs σ H Q := by
  intro D hD
  have hlen2 : (xs.zip ys).length = xs.length := by rw [List.length_zip, ← hn, Nat.min_self]
  refine ⟨fun j left Hw => left + j = xs.length ∧ Same H Hw ∧ Hw D = some (.lst (((xs.zip ys).take j).filterMap fun p => f p.1 p.2)), ⟨xs.length, Nat.add_zero _, same_new hD, by rw [upd_same]; simp⟩, fun j left Hw => ?_⟩
  rintro ⟨ej, p1, p2⟩
  have qx := same_seqT p1 hx
  have qy := same_seqT p1 hy
  rcases Nat.eq_zero_or_pos left with h0 | h0
  · left
    have e : j = xs.length := by omega
    subst e
    refine ⟨⟨xs, ys, qx, qy, .inl (Nat.le_refl _)⟩, q D Hw hD p1 ?_⟩
    rw [p2, ← hlen2, List.take_length]
  · right
    have hj : j < xs.length := by omega
    have hj2 : j < ys.length := by omega
    refine ⟨⟨xs, ys, xs[j], ys[j], qx, qy, List.getElem?_eq_getElem hj, List.getElem?_eq_getElem hj2⟩, fun Hz => Same H Hz ∧ Hz D = some (.lst (((xs.zip ys).take (j + 1)).filterMap fun p => f p.1 p.2)), fun Hz hz => ⟨left - 1, by omega, by omega, hz.1, hz.2⟩, fun v Hy hy' => ?_⟩
    obtain ⟨T, x, y, rfl, hT, rfl, fx, fy⟩ := hy'
    have ex := fx xs qx
    have ey := fy ys qy
    have ez : (xs.zip ys)[j]? = some (x, y) := by
      rw [List.getElem?_zip_eq_some]
      exact ⟨ex, ey⟩
    have n1 : Same Hw (upd Hw T (.tup [x, y])) := same_new hT
    have hlen : (((xs.zip ys).take j).filterMap fun p => f p.1 p.2).length < sizeLine := Nat.lt_of_le_of_lt (Nat.le_trans (List.length_filterMap_le _ _) (by rw [List.length_take, hlen2]; exact Nat.min_le_right _ _)) hl
    have hf1 := filt_take (fun p : V × V => f p.1 p.2) ez
    have hD2 := n1 _ _ p2
    refine hs j x y T _ ex ey (p1.trans n1) upd_same _ _ (fun hf H2 k2 => ⟨(p1.trans n1).trans k2, ?_⟩) fun z hf H2 k2 => ⟨_, k2 _ _ hD2, hlen, fun b o h => ?_, ?_⟩
    · rw [k2 _ _ hD2, hf1, hf]
      simp
    · rw [upd_ne (ne_of_none h hD)]
      exact k2 _ _ (n1 _ _ (p1 _ _ h))
    · rw [upd_same, hf1, hf]
      rfl
end
end Pn
/-! PnT: texts of numbers; a module's constants. -/
namespace Pn
open PySem PySem.Spec PyProof.Rows L2 TL
def GS (mg : PySem.Str → Option Value) (x s : PySem.Str) : Prop := ∃ t, mg x = some (.str s t)
def GI (mg : PySem.Str → Option Value) (x : PySem.Str) (i : Int) : Prop := ∃ t, mg x = some (.int i t)
theorem k_globS {X : Cx} {x s : PySem.Str} {pos : Pos} (h : GS X.mg x s) (hg : Gl X x) (hd : (x == ("__debug__" : PySem.Str)) = false := by decide) : PE X (.Name x pos) (tC (.str s)) := by
  obtain ⟨t, h⟩ := h
  exact pe_glob hg h ⟨t, rfl⟩ hd
theorem k_globI {X : Cx} {x : PySem.Str} {i : Int} {pos : Pos} (h : GI X.mg x i) (hg : Gl X x) (hd : (x == ("__debug__" : PySem.Str)) = false := by decide) : PE X (.Name x pos) (tC (.int i)) := by
  obtain ⟨t, h⟩ := h
  exact pe_glob hg h ⟨t, rfl⟩ hd
/-- the text of a number -/
def sN (n : Nat) : PySem.Str := PySem.Str.ofString (toString ((n : Nat) : Int))
theorem tl_sN (n : Nat) : tl (sN n) = numL n := tl_num n
theorem str_ext {x y : PySem.Str} (h : tl x = tl y) : x = y := by
  rw [← mk_tl x, ← mk_tl y, h]
theorem str_zero : ("0" : PySem.Str) = ⟨#[48]⟩ := str_ext (by decide +kernel)
theorem str_hat : ("^" : PySem.Str) = ⟨#[94]⟩ := str_ext (by decide +kernel)
theorem len_is (x : PySem.Str) : x.length = (tl x).length := Array.length_toList.symm
section
variable {H : Hp} {Q : VK} {z : PySem.Str}
theorem r_ixS {i : Nat} {c : Nat} (hz : z.length ≤ sizeLine) (h : (tl z)[i]? = some c) (q : Q (.str ⟨#[c]⟩) H) : rIxS (.str z) (.int (i : Int)) H Q := ⟨z, (i : Int), c, rfl, rfl, hz, atI_nat h, q⟩
theorem r_slS {lo hi : Option Int} (hz : z.length ≤ sizeLine) (q : Q (.str (cutS z lo hi)) H) : rSlS (.str z) lo hi H Q := ⟨z, rfl, hz, q⟩
end
theorem tl_cut (z : PySem.Str) {i j : Nat} (hi : i ≤ z.length) (hj : j ≤ z.length) : tl (cutS z (some (i : Int)) (some (j : Int))) = ((tl z).drop i).take (j - i) := by
  unfold cutS
  rw [HT.sIx_nat, HT.sIx_nat, Nat.min_eq_left hi, Nat.min_eq_left hj]
theorem tl_cutTo (z : PySem.Str) {j : Nat} (hj : j ≤ z.length) : tl (cutS z none (some (j : Int))) = (tl z).take j := by
  unfold cutS
  rw [HT.sIx_none, HT.sIx_nat, Nat.min_eq_left hj]
  simp
/-- one sign -/
theorem one_eq (c d : Nat) : decide ((.str ⟨#[c]⟩ : V) = .str ⟨#[d]⟩) = decide (c = d) := by
  refine decide_eq_decide.mpr ⟨fun h => ?_, fun h => by rw [h]⟩
  injection h with h
  have := congrArg tl h
  simpa using this
theorem fig_mem (c : Nat) : c ∈ tl ("0123456789" : PySem.Str) ↔ 48 ≤ c ∧ c ≤ 57 := by
  have e : tl ("0123456789" : PySem.Str) = [48, 49, 50, 51, 52, 53, 54, 55, 56, 57] := by decide +kernel
  rw [e]
  simp
  omega
/-- the first figure is a nought of 0 alone -/
theorem numL_head : ∀ n : Nat, (numL n)[0]? = some 48 → n = 0 := by
  intro n
  induction n using Nat.strongRecOn with
  | _ n ih =>
    intro h
    by_cases c : n < 10
    · rw [numL_lt c] at h
      simp at h
      omega
    · rw [numL_step (by omega)] at h
      rw [List.getElem?_append_left (List.length_pos_iff.mpr (numL_ne _))] at h
      have := ih (n / 10) (by omega) h
      omega
theorem numL_zero : numL 0 = [48] := numL_lt (by decide)
/-- what int tells of figures -/
theorem int_of {z : PySem.Str} {n : Nat} (h : tl z = numL n) (hl : (numL n).length ≤ 4300) : PySem.intText? z = some (n : Int) := by
  have e : z = sN n := str_ext (h.trans (tl_sN n).symm)
  rw [e]
  exact int_num hl
theorem numL_short {n : Nat} (h : n < 2 ^ 1000) : (numL n).length ≤ 400 := numL_len (by decide) (Nat.lt_of_lt_of_le h (by decide +kernel))
/-! ### methods of texts, lengths -/
theorem w_m1 {σ : L2.St} {H : Hp} {Q : VK} {r : V → List V → Hp → VK → Prop} {to te : TE} : tM1 r to te σ H Q = to σ H fun x H1 => (∃ a, x = .str a) ∧ te σ H1 fun y H2 => r x [y] H2 Q := rfl
def rJoin (K : PySem.W.Frag) : V → List V → Hp → VK → Prop := fun x xs H Q => ∃ a p, ∃ ys : List PySem.Str, x = .str a ∧ xs = [.ref p] ∧ (SqL K H p (ys.map V.str) ∨ SqT K H p (ys.map V.str)) ∧ (ys.map (·.length)).sum + ys.length * a.length ≤ 16777216 ∧ Q (.str (PySem.Txt.join a ys)) H
theorem k_join {X : Cx} (K : PySem.W.Frag) (hk : X.K = K := by rfl) : MtR X "str.join" (rJoin K) := by
  subst hk
  exact mt_join
theorem len_app (x y : PySem.Str) : (x ++ y).length = x.length + y.length := by
  rw [len_is, len_is, len_is, tl_append, List.length_append]
theorem len_one (c : Nat) : (⟨#[c]⟩ : PySem.Str).length = 1 := rfl
theorem len_join : ∀ ys : List PySem.Str, (Str.join "" ys).length = (ys.map (·.length)).sum
  | [] => rfl
  | [x] => by simp [Str.join]
  | x :: y :: r => by
    have h := len_join (y :: r)
    have h0 : ("" : PySem.Str).length = 0 := by decide +kernel
    show (x ++ "" ++ Str.join "" (y :: r)).length = _
    have e : ((x :: y :: r).map (·.length)).sum = x.length + ((y :: r).map (·.length)).sum := by rw [List.map_cons, List.sum_cons]
    rw [len_app, len_app, h, h0, e]
    omega
end Pn
/-! PnL: str of a whole number of up to 4300 figures. -/
namespace Pn
open PySem PySem.Spec PyProof.Rows L2 TL
/-- nothing has set the line on figures -/
def NoDig (K : PySem.W.Frag) : Prop := PySem.W.nsIn K cStatics "sys.int_max_str_digits" = some none
/-- a name that a written space lacks is not in it -/
theorem ns_lacks {K : PySem.W.Frag} {h : Heap} {a : Addr} {f : PySem.Str → Option Value} {x : PySem.Str} (inn : K.In h) (sp : h.Ns a f) (lk : PySem.W.nsIn K a x = some none) : f x = none := by
  obtain ⟨ob, ents, pe, at1, dat, _, tells⟩ := sp
  unfold PySem.W.nsIn at lk
  split at lk
  · rename_i cl di en2 pe2 sl hit
    have same := inn _ _ hit
    rw [at1] at same
    injection same with same
    subst same
    injection dat with d1 d2
    subst d1
    rw [← tells x]
    cases hfind : en2.toList.find? (·.key.isStr x) with
    | some v =>
      rw [hfind] at lk
      cases lk
    | none =>
      unfold nsFind findBy
      rw [← Array.find?_toList, hfind] <;> rfl
  · cases lk
theorem noDigits {X : Cx} {pins : List (Addr × Obj)} {σ : L2.St} {H : Hp} {s : Shared} (I : Inv X pins σ H s) (hd : NoDig X.K) : s.heap.NoDigits := by
  obtain ⟨mc, hns, hl⟩ := I.nolimit
  exact ⟨mc, hns, ns_lacks I.kIn hns hd⟩
theorem call_strN {X : Cx} (K : PySem.W.Frag) (hd : NoDig K) (hk : X.K = K := by rfl) (calm : X.calm = true := by rfl) : CallR X (.type "str") (fun xs H Q => ∃ i : Int, xs = [.int i] ∧ i.natAbs < 10 ^ 4300 ∧ Q (.str (toString i)) H) := by
  subst hk
  intro pins s σ H xs us Q I r h
  obtain ⟨i, rfl, hz, q⟩ := h
  obtain ⟨u, rfl, t, rfl⟩ := vals1 r
  refine PyProof.Rows.str_of_int_or (I.ok.hd calm) (noDigits I hd) (fun _ => ⟨.str _, H, I.tok _, ⟨_, rfl⟩, q⟩) fun hge => ?_
  exact absurd hge (Nat.not_le_of_lt hz)
end Pn
/-! PnW: words: lines cut and joined, written numbers, tuples of texts at the top, comprehensions over a text. -/
namespace Pn
open PySem PySem.Spec PyProof.Rows L2 TL
theorem pss_void {X : Cx} {st : List Stmt} : PSs X st (fun _ _ _ => False) := ⟨fun _ _ _ _ _ _ h => h.elim⟩
/-- a tuple of texts at the module's top -/
structure GT (K : PySem.W.Frag) (mg : PySem.Str → Option Value) (x : PySem.Str) (ys : List PySem.Str) : Prop where
  ex : ∃ a : Addr, mg x = some (.ref a) ∧ ∃ (o : Obj) (its : Array Value) (n : Nat), K.lookup a = some o ∧ o.cls = .type "tuple" ∧ o.data = .seq its n ∧ its.size ≤ sizeLine ∧ Vals (ys.map V.str) its.toList
def tGT (K : PySem.W.Frag) (ys : List PySem.Str) : TE := fun _ H Q => ∀ a, SqT K H a (ys.map V.str) → Q (.ref a) H
theorem k_globT {X : Cx} (K : PySem.W.Frag) {x : PySem.Str} {ys : List PySem.Str} {pos : Pos} (h : GT K X.mg x ys) (hg : Gl X x) (hd : (x == ("__debug__" : PySem.Str)) = false := by decide) : PE X (.Name x pos) (tGT K ys) := by
  obtain ⟨a, h1, o, its, n, h2, h3, h4, h5, h6⟩ := h.ex
  constructor
  intro pins s σ H Q I q
  exact (pe_glob (v := .ref a) hg h1 rfl hd).run pins s σ H Q I (q a (.inr ⟨o, its, n, h2, h3, h4, h5, h6⟩))
theorem w_gt {K : PySem.W.Frag} {ys : List PySem.Str} {σ : L2.St} {H : Hp} {Q : VK} : tGT K ys σ H Q = ∀ a, SqT K H a (ys.map V.str) → Q (.ref a) H := rfl
/-! ### one word behind another -/
theorem join_eq (y : PySem.Str) (ys : List PySem.Str) : PySem.Txt.join y ys = Str.join y ys := PySem.StrLaws.glued_eq_join y ys
theorem tl_blank : tl (" " : PySem.Str) = [32] := by decide +kernel
theorem split_two {a b : PySem.Str} (ha : 32 ∉ tl a) (hb : 32 ∉ tl b) : PySem.Txt.split (a ++ " " ++ b) " " = [a, b] := by
  have h := split_join (y := (" " : PySem.Str)) tl_blank (by decide +kernel) (parts := [a, b]) (by simp) (fun p hp => by
    simp only [List.mem_cons, List.not_mem_nil, or_false] at hp
    rcases hp with rfl | rfl
    · exact ha
    · exact hb)
  rwa [join_eq] at h
theorem split_one {a : PySem.Str} (ha : 32 ∉ tl a) : PySem.Txt.split a " " = [a] := by
  have h := split_join (y := (" " : PySem.Str)) tl_blank (by decide +kernel) (parts := [a]) (by simp) (fun p hp => by
    simp only [List.mem_cons, List.not_mem_nil, or_false] at hp
    subst hp
    exact ha)
  rwa [join_eq] at h
theorem empty_app (x : PySem.Str) : Str.empty ++ x = x := str_ext (by
  rw [tl_append]
  rfl)
theorem sN_blank (n : Nat) : 32 ∉ tl (sN n) := by
  rw [tl_sN]
  intro h
  have := numL_digits n _ h
  omega
theorem sN_len {n k : Nat} (hk : 0 < k) (h : n < 10 ^ k) : (sN n).length ≤ k := by
  rw [len_is, tl_sN]
  exact numL_len hk h
theorem sN_pos (n : Nat) : 0 < (sN n).length := by
  rw [len_is, tl_sN]
  exact List.length_pos_iff.mpr (numL_ne n)
theorem ok_of {x : PySem.Str} (h : ∀ c ∈ tl x, c < 128) : PyData.strOk x = true := by
  unfold PyData.strOk
  rw [Array.all_eq_true_iff_forall_mem]
  intro c hc
  have := h c (by simpa [tl] using hc)
  exact decide_eq_true (by omega)
theorem sN_low (n : Nat) : ∀ c ∈ tl (sN n), c < 128 := fun c hc => by
  rw [tl_sN] at hc
  have := numL_digits n _ hc
  omega
/-! ### a number formatted, of up to 4300 figures -/
def tFmtN (te : TE) : TE := fun σ H Q => te σ H fun x H1 => ∃ i : Int, x = .int i ∧ i.natAbs < 10 ^ 4300 ∧ Q (.str (toString i)) H1
theorem k_fmtN {X : Cx} (K : PySem.W.Frag) (hd : NoDig K) {e : Expr} {te : TE} {pos : Pos} (he : PE X e te) (hk : X.K = K := by rfl) (calm : X.calm = true := by rfl) : PE X (.FormattedValue e (-1) none pos) (tFmtN te) := by
  subst hk
  constructor
  intro pins s σ H Q I wish
  refine wpAny_FormattedValue_plain (thn (he.run pins s σ H _ I wish) fun v s1 y => ?_)
  obtain ⟨x, H1, I1, r1, i, rfl, small, q⟩ := y
  obtain ⟨t, rfl⟩ := r1
  exact PyProof.Rows.formatField_int (I1.ok.hd calm) (noDigits I1 hd) (fun _ => ⟨.str (toString i), H1, I1.tok _, ⟨_, rfl⟩, q⟩) fun big => absurd big (Nat.not_le_of_lt small)
theorem w_fmtN {te : TE} {σ : L2.St} {H : Hp} {Q : VK} : tFmtN te σ H Q = te σ H fun x H1 => ∃ i : Int, x = .int i ∧ i.natAbs < 10 ^ 4300 ∧ Q (.str (toString i)) H1 := rfl
def tJs2 (t1 t2 : TE) : TE := fun σ H Q => t1 σ H fun x H1 => ∃ y : PySem.Str, x = .str y ∧ (Str.empty ++ y).length ≤ sizeLine ∧ t2 σ H1 fun z H2 => ∃ y2 : PySem.Str, z = .str y2 ∧ (Str.empty ++ y ++ y2).length ≤ sizeLine ∧ Q (.str (Str.empty ++ y ++ y2)) H2
theorem k_join2 {X : Cx} {v1 v2 : Expr} {t1 t2 : TE} {pos : Pos} (h1 : PE X v1 t1) (h2 : PE X v2 t2) : PE X (.JoinedStr [v1, v2] pos) (tJs2 t1 t2) := pe_joined (.cons h1 (.cons h2 .nil))
theorem w_js2 {t1 t2 : TE} {σ : L2.St} {H : Hp} {Q : VK} : tJs2 t1 t2 σ H Q = t1 σ H fun x H1 => ∃ y : PySem.Str, x = .str y ∧ (Str.empty ++ y).length ≤ sizeLine ∧ t2 σ H1 fun z H2 => ∃ y2 : PySem.Str, z = .str y2 ∧ (Str.empty ++ y ++ y2).length ≤ sizeLine ∧ Q (.str (Str.empty ++ y ++ y2)) H2 := rfl
/-! ### a comprehension over a text -/
section
variable {σ : L2.St} {H : Hp} {Q : VK} {te td : TE} {tt : TT} {g : TG} {vs : List Nat}
theorem w_lcS : tLc (iStr td) g tt te vs σ H Q = td σ H fun v H1 => ∃ x, v = .str x ∧ LJ (Its x) g tt te vs σ H1 Q := rfl
theorem lc_s {x : PySem.Str} (f : Nat → Option V) (hl : x.length < sizeLine)
    (hs : ∀ (i c : Nat) (H' : Hp), (tl x)[i]? = some c → Same H H' → ∀ (N0 : Hp → Prop) (N1 : VK), (f c = none → ∀ H2, Same H' H2 → N0 H2) → (∀ y, f c = some y → ∀ H2, Same H' H2 → N1 y H2) →
      g (.str ⟨#[c]⟩) (wipe σ vs) H' fun σ2 H2 => wipe σ2 vs = wipe σ vs ∧ tt σ2 H2 fun b H3 => if b = true then te σ2 H3 N1 else N0 H3)
    (q : ∀ D H', H D = none → Same H H' → H' D = some (.lst ((tl x).filterMap f)) → Q (.ref D) H') : LJ (Its x) g tt te vs σ H Q := by
  intro D hD
  have sz : x.cps.size = (tl x).length := len_is x
  refine ⟨fun j left Hw => left + j = (tl x).length ∧ Same H Hw ∧ Hw D = some (.lst (((tl x).take j).filterMap f)), ⟨(tl x).length, Nat.add_zero _, same_new hD, by rw [upd_same]; simp⟩, fun j left Hw => ?_⟩
  rintro ⟨ej, p1, p2⟩
  rcases Nat.eq_zero_or_pos left with h0 | h0
  · left
    have e : j = (tl x).length := by omega
    subst e
    refine ⟨by show x.cps.size ≤ _; omega, q D Hw hD p1 ?_⟩
    rw [p2, List.take_length]
  · right
    have hj : j < (tl x).length := by omega
    refine ⟨by show j < x.cps.size; omega, fun Hz => Same H Hz ∧ Hz D = some (.lst (((tl x).take (j + 1)).filterMap f)), fun Hz hz => ⟨left - 1, by omega, by omega, hz.1, hz.2⟩, fun v Hy hy => ?_⟩
    obtain ⟨e1, c, h1, h2⟩ := hy
    subst e1 h2
    have e : (tl x)[j]? = some c := by rw [← h1]; exact Array.getElem?_toList
    have hlen : (((tl x).take j).filterMap f).length < sizeLine := Nat.lt_of_le_of_lt (Nat.le_trans (List.length_filterMap_le _ _) (by rw [List.length_take]; exact Nat.min_le_right _ _)) (by rw [← len_is]; exact hl)
    refine hs j c Hy e p1 _ _ (fun hf H2 k2 => ⟨p1.trans k2, ?_⟩) fun y hf H2 k2 => ⟨_, k2 _ _ p2, hlen, fun b o h => ?_, ?_⟩
    · rw [k2 _ _ p2, List.take_add_one, e, List.filterMap_append]
      simp [hf]
    · rw [upd_ne (ne_of_none h hD)]
      exact k2 _ _ (p1 _ _ h)
    · rw [upd_same, List.take_add_one, e, List.filterMap_append]
      simp [hf]
end
end Pn
namespace Pn
open PySem PySem.Spec PyProof.Rows L2
/-- a deck at a: the cells at l, how many are begun, what is left of one, how many were mixed (at most n), the sum -/
def Dk (H : Hp) (a l : Addr) (n : Nat) : Prop := ∃ (ns : List Int) (i x c s : Int), H a = some (.lst [.ref l, .int i, .int x, .int c, .int s]) ∧ l ≠ a ∧ H l = some (.lst (ns.map V.int)) ∧ ns.length ≤ 63 ∧ 0 ≤ i ∧ i ≤ ns.length ∧ 0 ≤ x ∧ 0 ≤ c ∧ c ≤ n
theorem Dk.mono {H : Hp} {a l : Addr} {n m : Nat} (h : Dk H a l n) (le : n ≤ m) : Dk H a l m := by
  obtain ⟨ns, i, x, c, s, h1, h2, h3, h4, h5, h6, h7, h8, h9⟩ := h
  exact ⟨ns, i, x, c, s, h1, h2, h3, h4, h5, h6, h7, h8, by omega⟩
/-- it stands where nothing of what was tracked changed -/
theorem Dk.same {H H' : Hp} {a l : Addr} {n : Nat} (h : Dk H a l n) (e : Same H H') : Dk H' a l n := by
  obtain ⟨ns, i, x, c, s, h1, h2, h3, h⟩ := h
  exact ⟨ns, i, x, c, s, e _ _ h1, h2, e _ _ h3, h⟩
theorem Dk.lst {H : Hp} {a l : Addr} {n : Nat} (h : Dk H a l n) : ∃ ys, H a = some (.lst ys) := by
  obtain ⟨ns, i, x, c, s, h1, _⟩ := h
  exact ⟨_, h1⟩
theorem Dk.ne {H : Hp} {a l p : Addr} {n : Nat} (h : Dk H a l n) (hp : H p = none) : p ≠ a := by
  obtain ⟨_, h1⟩ := h.lst
  exact (ne_of_none h1 hp).symm
theorem Dk.neL {H : Hp} {a l p : Addr} {n : Nat} (h : Dk H a l n) (hp : H p = none) : p ≠ l := by
  obtain ⟨ns, i, x, c, s, h1, h2, h3, h⟩ := h
  exact (ne_of_none h3 hp).symm
/-- where something apart from the deck and its cells is changed -/
theorem Dk.upd {H : Hp} {a l p : Addr} {n : Nat} {o : HO} (h : Dk H a l n) (n1 : p ≠ a) (n2 : p ≠ l) : Dk (upd H p o) a l n := by
  obtain ⟨ns, i, x, c, s, h1, h2, h3, h⟩ := h
  exact ⟨ns, i, x, c, s, (upd_ne n1.symm).trans h1, h2, (upd_ne n2.symm).trans h3, h⟩
end Pn
namespace Pn
open PySem PySem.Spec PyProof.Rows L2
/-- a seed at a: four whole numbers -/
def Sd (H : Hp) (a : Addr) : Prop := ∃ (x f c s : Int), H a = some (.lst [.int x, .int f, .int c, .int s])
theorem Sd.same {H H' : Hp} {a : Addr} (h : Sd H a) (e : Same H H') : Sd H' a := by
  obtain ⟨x, f, c, s, h1⟩ := h
  exact ⟨x, f, c, s, e _ _ h1⟩
theorem Sd.lst {H : Hp} {a : Addr} (h : Sd H a) : ∃ ys, H a = some (.lst ys) := by
  obtain ⟨x, f, c, s, h1⟩ := h
  exact ⟨_, h1⟩
theorem Sd.ne {H : Hp} {a p : Addr} (h : Sd H a) (hp : H p = none) : p ≠ a := by
  obtain ⟨_, h1⟩ := h.lst
  exact (ne_of_none h1 hp).symm
theorem Sd.upd {H : Hp} {a p : Addr} {o : HO} (h : Sd H a) (n1 : p ≠ a) : Sd (upd H p o) a := by
  obtain ⟨x, f, c, s, h1⟩ := h
  exact ⟨x, f, c, s, (upd_ne n1.symm).trans h1⟩
end Pn
namespace Pn
open PySem PySem.Spec PyProof.Rows L2
/-- a triple, or None -/
def VG (H : Hp) (v : V) : Option (Nat × Nat × Nat) → Prop
  | none => v = .non
  | some t => ∃ p, v = .ref p ∧ H p = some (.tup [.int (t.1 : Int), .int (t.2.1 : Int), .int (t.2.2 : Int)])
theorem VG.same {H H' : Hp} {v : V} {o : Option (Nat × Nat × Nat)} (h : VG H v o) (s : Same H H') : VG H' v o := by
  cases o with
  | none => exact h
  | some t =>
    obtain ⟨p, rfl, hp⟩ := h
    exact ⟨p, rfl, s _ _ hp⟩
def dG : Option (Nat × Nat × Nat) → PyData
  | none => .none
  | some t => .tuple (dI [(t.1 : Int), (t.2.1 : Int), (t.2.2 : Int)])
theorem dp_g {K : PySem.W.Frag} {H : Hp} {v : V} : ∀ {o : Option (Nat × Nat × Nat)}, VG H v o → Dp K H v (dG o)
  | none, h => by
    cases h
    exact .non
  | some t, h => by
    obtain ⟨p, rfl, hp⟩ := h
    exact .tup (SqT.of hp) (dpAll_ints [(t.1 : Int), (t.2.1 : Int), (t.2.2 : Int)])
theorem sh_g : ∀ o : Option (Nat × Nat × Nat), SeqAt.shaped (dG o) = true
  | none => rfl
  | some t => sh_tI _
theorem eqv_g : ∀ o o' : Option (Nat × Nat × Nat), PyData.eqv (dG o) (dG o') = decide (o = o')
  | some (a, b, c), some (d, e, f) => by
    simp only [dG, PyData.eqv, eqv_ints, List.cons.injEq, Int.natCast_inj, Option.some.injEq, Prod.mk.injEq, and_true]
  | some a, none => by simp [dG, PyData.eqv]
  | none, some b => by simp [dG, PyData.eqv]
  | none, none => by simp [dG, PyData.eqv]
section
variable {K : PySem.W.Frag} {H : Hp} {Q : VK} {x y : V}
theorem r_neG {o o' : Option (Nat × Nat × Nat)} (hx : VG H x o) (hy : VG H y o') (q : Q (.bl (!decide (o = o'))) H) : rNeD K x y H Q :=
  ⟨dG o, dG o', dp_g hx, dp_g hy, sh_g o, sh_g o', by rw [eqv_g]; exact q⟩
theorem r_eqG {o o' : Option (Nat × Nat × Nat)} (hx : VG H x o) (hy : VG H y o') (q : Q (.bl (decide (o = o'))) H) : rEqD K x y H Q :=
  ⟨dG o, dG o', dp_g hx, dp_g hy, sh_g o, sh_g o', by rw [eqv_g]; exact q⟩
end
theorem ofN_sorted {ns : List Nat} (h : ns.Pairwise (· < ·)) : (ofN ns).Pairwise (· ≤ ·) := by
  unfold ofN
  rw [List.pairwise_map]
  exact h.imp fun c => by omega
/-- what sorted tells of these keys -/
theorem sorted_is {ks ls : List Nat} {ys : List Int} (hn : ks.Nodup) (hl : ls.Pairwise (· < ·)) (h : ∀ x, x ∈ ks ↔ x ∈ ls) (hp : ys.Perm (ofN ks)) (hs : ys.Pairwise (· ≤ ·)) : ys = ofN ls := by
  have p1 : ks.Perm ls := (List.perm_ext_iff_of_nodup hn (hl.imp fun c => Nat.ne_of_lt c)).mpr h
  have p2 : ys.Perm (ofN ls) := hp.trans (p1.map _)
  exact List.Perm.eq_of_pairwise (fun a b _ _ h1 h2 => Int.le_antisymm h1 h2) hs (ofN_sorted hl) p2
theorem dN_keys (ks : List Nat) (g : Nat → V) : (dN ks g).map (·.1) = (ofN ks).map Sum.inl := by
  unfold dN ofN
  rw [List.map_map, List.map_map]
  rfl
theorem powL_len (m : Nat) : (powL m).length ≤ m := by
  unfold powL
  refine Nat.le_trans (List.length_filterMap_le _ _) ?_
  rw [List.length_range]
  exact Nat.le_refl _
theorem ofN_at {ns : List Nat} {i : Nat} {x : V} (h : ((ofN ns).map V.int)[i]? = some x) : ∃ n : Nat, ns[i]? = some n ∧ x = V.int (n : Int) := by
  unfold ofN at h
  rw [List.getElem?_map, List.getElem?_map] at h
  cases e : ns[i]? with
  | none => simp [e] at h
  | some n =>
    simp [e] at h
    exact ⟨n, rfl, h.symm⟩
/-- the squares and the higher powers together -/
theorem pow_split {m x : Nat} : (1 ≤ x ∧ x ≤ m ∧ IsPow x) ↔ (∃ b e, 1 ≤ b ∧ 3 ≤ e ∧ 2 ^ e ≤ m ∧ x = b ^ e ∧ x ≤ m) ∨ ∃ b, 1 ≤ b ∧ b ≤ rootN m 2 ∧ x = b * b := by
  constructor
  · rintro ⟨h1, h2, b, e, b1, e2, rfl⟩
    have sq : ∀ c, 1 ≤ c → c * c ≤ m → ∃ b, 1 ≤ b ∧ b ≤ rootN m 2 ∧ c * c = b * b := fun c c1 c2 => ⟨c, c1, rootN_ge (by omega) (by rw [Nat.pow_two]; exact c2), rfl⟩
    rcases (by omega : e = 2 ∨ 3 ≤ e) with rfl | e3
    · rw [Nat.pow_two] at h2 ⊢
      exact .inr (sq b b1 h2)
    · rcases (by omega : b = 1 ∨ 2 ≤ b) with rfl | b2
      · rw [Nat.one_pow] at h2 ⊢
        exact .inr (sq 1 (by omega) h2)
      · exact .inl ⟨b, e, b1, e3, Nat.le_trans (Nat.pow_le_pow_left b2 e) h2, rfl, h2⟩
  · rintro (⟨b, e, b1, e3, h, rfl, h2⟩ | ⟨b, b1, b2, rfl⟩)
    · exact ⟨Nat.pow_pos b1, h2, b, e, b1, by omega, rfl⟩
    · have h3 : b ^ 2 ≤ rootN m 2 ^ 2 := Nat.pow_le_pow_left b2 2
      have h4 := rootN_le (n := m) (e := 2) (by omega)
      rw [Nat.pow_two b] at h3
      exact ⟨Nat.mul_pos b1 b1, by omega, b, 2, b1, by omega, by rw [Nat.pow_two]⟩
theorem pairwise_at {l : List Nat} {i j x y : Nat} (h : l.Pairwise (· < ·)) (hij : i < j) (h1 : l[i]? = some x) (h2 : l[j]? = some y) : x < y := by
  obtain ⟨a, ea⟩ := List.getElem?_eq_some_iff.mp h1
  obtain ⟨b, eb⟩ := List.getElem?_eq_some_iff.mp h2
  rw [List.pairwise_iff_getElem] at h
  have := h i j a b hij
  rwa [ea, eb] at this
/-- a display of one pair, its key a whole number -/
theorem r_disp1 {σ : L2.St} {H : Hp} {Q : VK} {k : Nat} {y : V} (q : ∀ p, H p = none → Q (.ref p) (upd H p (.dK (dN [k] fun _ => y)))) : tDisp [(tC (.int (k : Int)), tC y)] σ H Q := fun p hp => by
  refine ⟨upd_same, [((Sum.inl (k : Int) : Key), y)], rfl, by show 1 ≤ 15; decide, ?_⟩
  rw [upd_upd]
  exact q p hp
theorem dN_any {H : Hp} {a : Addr} {ks : List Nat} {v : V} {m : Nat} (h : H a = some (.dK (dN ks fun _ => v))) (hl : ks.length < sizeLine) : DPut H a (.int (m : Int)) v (upd H a (.dK (dN (if m ∈ ks then ks else ks ++ [m]) fun _ => v))) := by
  have := dN_upd (m := m) (v := v) h hl
  have e : (fun k => if k = m then v else (fun _ => v) k) = fun _ : Nat => v := by
    funext k
    split <;> rfl
  rw [e] at this
  exact this
theorem put_nodup {x : Nat} {ks : List Nat} (h : ks.Nodup) : (if x ∈ ks then ks else ks ++ [x]).Nodup ∧ (∀ y, y ∈ (if x ∈ ks then ks else ks ++ [x]) ↔ y ∈ ks ∨ y = x) ∧ (if x ∈ ks then ks else ks ++ [x]).length ≤ ks.length + 1 := by
  by_cases c : x ∈ ks
  · rw [if_pos c]
    exact ⟨h, fun y => ⟨.inl, fun z => z.elim id fun e => e ▸ c⟩, by omega⟩
  · rw [if_neg c]
    refine ⟨?_, fun y => by simp, by simp⟩
    rw [List.nodup_append]
    refine ⟨h, by simp, ?_⟩
    intro y hy z hz e2
    simp at hz
    subst hz e2
    exact c hy
theorem r_eqDI {K : PySem.W.Frag} {H : Hp} {Q : VK} {a b : Int} (q : Q (.bl (decide (a = b))) H) : rEqD K (.int a) (.int b) H Q :=
  ⟨.int a, .int b, .int a, .int b, rfl, rfl, by rw [PyData.eqv, Bool.beq_eq_decide_eq]; exact q⟩
end Pn
/-! PnO: objects of a class, loops over a dict's pairs and values, dicts compared with none. -/
namespace Pn
open PySem PySem.Spec PyProof.Rows L2
/-- the class of this name, as the top has made it; these are names of fields -/
structure KCl (K : PySem.W.Frag) (x : PySem.Str) (as : List PySem.Str) (C : Addr) : Prop where
  ns : PySem.W.nsIn K mainGlobals x = some (some (.ref C))
  cl : Cls K C
  no : ∀ a, a ∈ as → NoAttr K C a
/-- a method that stands in it, with its promise -/
structure FnM (P : Program) (w : World) (K : PySem.W.Frag) (mg : PySem.Str → Option Value) (base : Heap) (CX : CXT) (k : Nat) (x : PySem.Str) (as : List PySem.Str) (m : PySem.Str) (ps : List PySem.Str) (sp : Sp) : Prop where
  ex : ∃ (C f : Addr) (fd : FuncData), KCl K x as C ∧ Meth K C m f ∧ Binds K fd ps [] ∧ FnOk P w K mg base CX k f fd ps sp
/-- how one is made -/
structure FnK (P : Program) (w : World) (K : PySem.W.Frag) (mg : PySem.Str → Option Value) (base : Heap) (CX : CXT) (k : Nat) (x : PySem.Str) (as : List PySem.Str) (ps : List PySem.Str) (sp : Sp) : Prop where
  ex : ∃ (C f : Addr) (fd : FuncData), KCl K x as C ∧ Mk K C f ∧ mg x = some (.ref C) ∧ Binds K fd ps [] ∧ FnOk P w K mg base CX k f fd ps sp
/-- it is an object of the class -/
def IsO (K : PySem.W.Frag) (x m : PySem.Str) (y : V) (H : Hp) : Prop := ∃ (a C dx : Addr) (fs : List (PySem.Str × V)), y = .ref a ∧ H a = some (.ins C dx fs) ∧ PySem.W.nsIn K mainGlobals x = some (some (.ref C)) ∧ fs.lookup m = none
def tMt (K : PySem.W.Frag) (x m : PySem.Str) (sp : Sp) (E : XK) (ta : TE) (t : TA) : TE := fun σ H Q => ta σ H fun y H1 => IsO K x m y H1 ∧ t σ H1 fun vs H2 => sp (y :: vs) H2 Q E
def tMk (K : PySem.W.Frag) (x : PySem.Str) (as : List PySem.Str) (sp : Sp) (E : XK) (t : TA) : TE := fun σ H Q => t σ H fun vs H1 => ∀ (C y dx : Addr), KCl K x as C → H1 y = none → H1 dx = none → dx ≠ y → sp (.ref y :: vs) (upd (upd H1 dx (.own y)) y (.ins C dx [])) (fun v H2 => v = .non ∧ Q (.ref y) H2) E
theorem mt_eq {K : PySem.W.Frag} {x m : PySem.Str} {C : Addr} (ns : PySem.W.nsIn K mainGlobals x = some (some (.ref C))) (sp : Sp) (E : XK) (ta : TE) (t : TA) : tMeth C m sp [] E ta t = tMt K x m sp E ta t := by
  funext σ H Q
  unfold tMeth tMt IsO
  congr 1
  funext y H1
  refine propext ⟨?_, ?_⟩
  · rintro ⟨a, dx, fs, h1, h2, h3, h4⟩
    simp only [List.append_nil] at h4
    exact ⟨⟨a, C, dx, fs, h1, h2, ns, h3⟩, h4⟩
  · rintro ⟨⟨a, C', dx, fs, h1, h2, h3, h4⟩, h5⟩
    rw [ns] at h3
    cases h3
    refine ⟨a, dx, fs, h1, h2, h4, ?_⟩
    simp only [List.append_nil]
    exact h5
section
variable {X : Cx} {k : Nat} {x m : PySem.Str} {as ps : List PySem.Str} {sp : Sp} {ta : TE} {t : TA} {o e : Expr} {es : List Expr} {p apos pos : Pos}
theorem pe_mt {K : PySem.W.Frag} {pl : Sem Bool} (h : FnM X.prog X.w K X.mg X.base CX0 k x as m ps sp) (hr : Room k X.A) (he : PE X o ta) (ha : PA X (e :: es) t)
    (hst : starEach (e :: es) X.env = (false, eval e X.env) :: starEach es X.env := by rfl) (hpl : (backTo pos (starEach es X.env)).any (·.1) = false := by rfl)
    (ht : eval (.Call (.Attribute o m apos) (e :: es) [] pos) X.env = (do
      let ov ← eval o X.env
      standAt apos.atName
      let (f, first) ← holding [ov] (getMethod ov m pl)
      callWith pos f first (backTo pos (starEach (e :: es) X.env)) (backToKw pos (keywordEach [] X.env))) := by rfl) (hk : X.K = K := by rfl) :
    PE X (.Call (.Attribute o m apos) (e :: es) [] pos) (tMt K x m sp E0 ta t) := by
  subst hk
  obtain ⟨C, f, fd, hC, hM, hB, F⟩ := h.ex
  rw [← mt_eq hC.ns]
  exact pe_meth he hC.cl hM F hr hB .nil pass0 ha hst hpl ht
theorem pe_mt0 {K : PySem.W.Frag} {pl : Sem Bool} (h : FnM X.prog X.w K X.mg X.base CX0 k x as m ps sp) (hr : Room k X.A) (he : PE X o ta)
    (ht : eval (.Call (.Attribute o m apos) [] [] pos) X.env = (do
      let ov ← eval o X.env
      standAt apos.atName
      let (f, first) ← holding [ov] (getMethod ov m pl)
      callWith pos f first (backTo pos (starEach [] X.env)) (backToKw pos (keywordEach [] X.env))) := by rfl) (hk : X.K = K := by rfl) :
    PE X (.Call (.Attribute o m apos) [] [] pos) (tMt K x m sp E0 ta tNil) := by
  subst hk
  obtain ⟨C, f, fd, hC, hM, hB, F⟩ := h.ex
  rw [← mt_eq hC.ns]
  exact pe_meth0 he hC.cl hM F hr hB .nil pass0 ht
theorem k_fld (K : PySem.W.Frag) {f : PySem.Str} (he : PE X e ta) (hb : attributeBase e f X.env (eval e X.env) = eval e X.env) (hk : X.K = K := by rfl) : PE X (.Attribute e f pos) (tFld K ta f) := by
  subst hk
  exact pe_fld he hb
theorem pe_mk0 {K : PySem.W.Frag} (h : FnK X.prog X.w K X.mg X.base CX0 k x as ps sp) (hr : Room (k + 1) X.A) (hg : Gl X x) (hdb : (x == ("__debug__" : PySem.Str)) = false := by decide) (hk : X.K = K := by rfl) :
    PE X (.Call (.Name x p) [] [] pos) (tMk K x as sp E0 tNil) := by
  subst hk
  obtain ⟨C, f, fd, hC, hM, hm, hB, F⟩ := h.ex
  have g := pe_make0 (p := p) (pos := pos) hM F hr hg hm hB .nil pass0 hdb
  refine ⟨fun pins s σ H Q I q => g.run pins s σ H Q I ?_⟩
  intro y dx h1 h2 h3
  exact q C y dx hC h1 h2 h3
theorem k_lstG (K : PySem.W.Frag) {es : List Expr} {k : Nat} {t : TGs} {n : Nat} {pos : Pos} (hc : X.calm = true) (h : PGs X es t)
    (hn : (assignEach es X.env).length = n := by rfl) (hst : (assignEach es X.env).findIdx? (·.1) = none := by rfl) (hk : X.K = K := by rfl) : PG X (.Tuple es k pos) (gLst K n t) := by
  subst hk
  exact pg_lst hc h hn hst
/-- a dict that is but walked from here on -/
def tFrz (td : TE) : TE := fun σ H Q => td σ H fun x H1 => ∃ (d : Addr) (kvs : List (Key × V)), x = .ref d ∧ H1 d = some (.dK kvs) ∧ ∀ od, Q (.ref d) (upd H1 d (.frz od (.dK kvs)))
theorem pe_frz {e : Expr} {td : TE} (h : PE X e td) : PE X e (tFrz td) := by
  refine ⟨fun pins s σ H Q I q => ?_⟩
  refine thn (h.run pins s σ H _ I q) fun v s1 ⟨x, H1, I1, r, d, kvs, ex, hd, q1⟩ => ?_
  subst ex
  obtain ⟨od, I2⟩ := I1.lock hd trivial
  exact ⟨.ref d, _, I2, r, q1 od⟩
/-- d == {}: and what it is where a pair stands in it -/
def rEqD0 : R2 := fun x y H Q => ∃ (a b : Addr) (ks : List (Key × V)), x = .ref a ∧ y = .ref b ∧ H a = some (.dK ks) ∧ H b = some (.dK []) ∧ Q (.bl ks.isEmpty) H
theorem op_eqD0 (hu : X.A.units < cLine) : OpR X (compareOp .Eq) rEqD0 := by
  intro pins s σ H x y v u Q I rx ry h
  obtain ⟨a, b, ks, rfl, rfl, ea, eb, q⟩ := h
  obtain rfl : v = Value.ref a := rx
  obtain rfl : u = Value.ref b := ry
  obtain ⟨_, ya, va, ra, da⟩ := (show ObjOk X.prog X.w H s.heap a (.dK ks) from I.hok a _ ea)
  obtain ⟨_, yb, vb, rb, db⟩ := (show ObjOk X.prog X.w H s.heap b (.dK []) from I.hok b _ eb)
  have hb : vb.length = 0 := by rw [← rb.length]; rfl
  have ha : va.length = ks.length := ra.length.symm
  refine PySem.W.keq_eq (knd := mixKind X.prog X.w) (r := true) ya yb da db hu (fun e => ?_) (fin_bl I q ?_)
  · have e0 : ks = [] := List.length_eq_zero_iff.mp (by omega)
    subst e0
    exact hits_all rb ra fun p hp => by cases hp
  · rw [hb, ha]
    cases ks <;> rfl
end
/-! ### readings -/
section
variable {σ : L2.St} {H : Hp} {Q : VK} {D : Ends} {K : PySem.W.Frag} {te td ta tv : TE} {tt : TT} {tr : TA} {s1 : TS} {g : TG} {vs : List Nat}
def rFld (K : PySem.W.Frag) (f : PySem.Str) (x : V) (H : Hp) (Q : VK) : Prop := ∃ a C dx fs v, x = .ref a ∧ H a = some (.ins C dx fs) ∧ Cls K C ∧ NoAttr K C f ∧ fs.lookup f = some v ∧ Q v H
theorem w_fld {f : PySem.Str} : tFld K ta f σ H Q = ta σ H fun x H1 => rFld K f x H1 Q := rfl
def rPutF (K : PySem.W.Frag) (f : PySem.Str) (x y : V) (H : Hp) (QH : Hp → Prop) : Prop := ∃ a C dx fs, x = .ref a ∧ H a = some (.ins C dx fs) ∧ Cls K C ∧ NoAttr K C f ∧ fs.length < 1000 ∧ QH (upd H a (.ins C dx (putF f y fs)))
theorem w_sfld {f : PySem.Str} : sFld K ta tv f D σ H = tv σ H fun y H1 => ta σ H1 fun x H2 => rPutF K f x y H2 fun H3 => D.nx σ H3 := rfl
theorem w_mt {x m : PySem.Str} {sp : Sp} {E : XK} : tMt K x m sp E ta tr σ H Q = ta σ H fun y H1 => IsO K x m y H1 ∧ tr σ H1 fun us H2 => sp (y :: us) H2 Q E := rfl
theorem w_mk {x : PySem.Str} {as : List PySem.Str} {sp : Sp} {E : XK} : tMk K x as sp E tr σ H Q = tr σ H fun us H1 => ∀ (C y dx : Addr), KCl K x as C → H1 y = none → H1 dx = none → dx ≠ y → sp (.ref y :: us) (upd (upd H1 dx (.own y)) y (.ins C dx [])) (fun v H2 => v = .non ∧ Q (.ref y) H2) E := rfl
theorem w_frz : tFrz td σ H Q = td σ H fun x H1 => ∃ (d : Addr) (kvs : List (Key × V)), x = .ref d ∧ H1 d = some (.dK kvs) ∧ ∀ od, Q (.ref d) (upd H1 d (.frz od (.dK kvs))) := rfl
theorem w_forI : tFor (iItems td) g s1 D σ H = td σ H fun x H1 => ∃ d o kvs, x = .ref d ∧ H1 d = some (.frz o (.dK kvs)) ∧ FJ (Iti d o kvs) g s1 D σ H1 := rfl
theorem w_forV : tFor (iVals td) g s1 D σ H = td σ H fun x H1 => ∃ d o kvs, x = .ref d ∧ H1 d = some (.frz o (.dK kvs)) ∧ FJ (Itd d o kvs) g s1 D σ H1 := rfl
theorem w_lcV : tLc (iVals td) g tt te vs σ H Q = td σ H fun x H1 => ∃ d o kvs, x = .ref d ∧ H1 d = some (.frz o (.dK kvs)) ∧ LJ (Itd d o kvs) g tt te vs σ H1 Q := rfl
theorem w_lockS {s : TS} : tLock s D σ H = ∃ d u, H d = some u ∧ Mut (some u) ∧ ∀ od, s ⟨fun σ' H' => H' d = some (.frz od u) ∧ D.nx σ' (upd H' d u), fun v H' => H' d = some (.frz od u) ∧ D.rt v (upd H' d u), fun σ' H' => H' d = some (.frz od u) ∧ D.bk σ' (upd H' d u), fun σ' H' => H' d = some (.frz od u) ∧ D.ct σ' (upd H' d u)⟩ σ (upd H d (.frz od u)) := rfl
theorem w_asgL {n : Nat} {t : TGs} : tAsg te (gLst K n t) D σ H = te σ H fun v H1 => ∃ a xs, v = .ref a ∧ SqL K H1 a xs ∧ xs.length = n ∧ t xs σ H1 D.nx := rfl
theorem w_gSub {to ti : TE} {ts : TSet} {v : V} {QN : L2.St → Hp → Prop} : gSub to ti ts v σ H QN = to σ H fun o H1 => ti σ H1 fun i H2 => ts o i v H2 fun H3 => QN σ H3 := rfl
theorem w_minV : tMinVals td σ H Q = td σ H fun x H1 => ∃ a kvs is, x = V.ref a ∧ H1 a = some (.dK kvs) ∧ kvs.map (·.2) = is.map V.int ∧ is ≠ [] ∧ ∀ m, m ∈ is → (∀ j ∈ is, m ≤ j) → Q (.int m) H1 := rfl
/-- over the pairs of a dict of whole numbers -/
theorem for_i {d : Addr} {o : Obj} {ks : List Nat} {f : Nat → V} (Pv : Nat → L2.St → Hp → Prop) (h0 : Pv 0 σ H) (hl : ∀ i σ H, i ≤ ks.length → Pv i σ H → H d = some (.frz o (.dK (dN ks f))))
    (hs : ∀ i k σ H T, ks[i]? = some k → i < ks.length → Pv i σ H → H T = none → ∀ N : L2.St → Hp → Prop, (∀ σ' H', Pv (i + 1) σ' H' → N σ' H') → g (.ref T) σ (upd H T (.tup [.int (k : Int), f k])) fun σ2 H2 => s1 { D with nx := N, ct := N, bk := D.nx } σ2 H2)
    (hd : ∀ σ H, Pv ks.length σ H → D.nx σ H) : FJ (Iti d o (dN ks f)) g s1 D σ H := by
  have el : (dN ks f).length = ks.length := dN_len ks f
  refine for_it (n := ks.length) (G := fun H => H d = some (.frz o (.dK (dN ks f)))) (Y := fun i H x H' => ∃ (T : Addr) (k : Nat), x = .ref T ∧ H T = none ∧ H' = upd H T (.tup [.int (k : Int), f k]) ∧ ks[i]? = some k) ?_ Pv h0 hl ?_ hd
  · refine ⟨fun i H hi q => ⟨q, by rw [el]; exact hi⟩, fun H q => ⟨q, by rw [el]; exact Nat.le_refl _⟩, fun i H x H' hi q y => ?_⟩
    obtain ⟨T, k, v, h1, h2, h3, h4⟩ := y
    unfold dN at h1
    rw [List.getElem?_map] at h1
    cases e : ks[i]? with
    | none =>
      rw [e] at h1
      cases h1
    | some n =>
      rw [e] at h1
      cases h1
      exact ⟨T, n, h2, h3, h4, rfl⟩
  · rintro i x σ H H' hi p ⟨T, k, rfl, hT, rfl, hk⟩
    exact hs i k σ H T hk hi p hT _ fun _ _ z => z
/-- over the values of a dict of whole numbers -/
theorem for_v {d : Addr} {o : Obj} {ks : List Nat} {f : Nat → V} (Pv : Nat → L2.St → Hp → Prop) (h0 : Pv 0 σ H) (hl : ∀ i σ H, i ≤ ks.length → Pv i σ H → H d = some (.frz o (.dK (dN ks f))))
    (hs : ∀ i k σ H, ks[i]? = some k → i < ks.length → Pv i σ H → ∀ N : L2.St → Hp → Prop, (∀ σ' H', Pv (i + 1) σ' H' → N σ' H') → g (f k) σ H fun σ2 H2 => s1 { D with nx := N, ct := N, bk := D.nx } σ2 H2)
    (hd : ∀ σ H, Pv ks.length σ H → D.nx σ H) : FJ (Itd d o (dN ks f)) g s1 D σ H := by
  have el : (dN ks f).length = ks.length := dN_len ks f
  refine for_it (n := ks.length) (G := fun H => H d = some (.frz o (.dK (dN ks f)))) (Y := fun i H x H' => H' = H ∧ ∃ k : Nat, x = f k ∧ ks[i]? = some k) ?_ Pv h0 hl ?_ hd
  · refine ⟨fun i H hi q => ⟨q, by rw [el]; exact hi⟩, fun H q => ⟨q, by rw [el]; exact Nat.le_refl _⟩, fun i H x H' hi q y => ?_⟩
    obtain ⟨h0, k, h1⟩ := y
    unfold dN at h1
    rw [List.getElem?_map] at h1
    cases e : ks[i]? with
    | none =>
      rw [e] at h1
      cases h1
    | some n =>
      rw [e] at h1
      cases h1
      exact ⟨h0, n, rfl, rfl⟩
  · rintro i x σ H H' hi p ⟨rfl, k, rfl, hk⟩
    exact hs i k σ _ hk hi p _ fun _ _ z => z
/-- a comprehension over the values of a locked dict -/
theorem lc_v {d : Addr} {o : Obj} {ks : List Nat} {f : Nat → V} (h : Nat → Option V) (hx : H d = some (.frz o (.dK (dN ks f)))) (hl : ks.length < sizeLine)
    (hs : ∀ (i k : Nat) (H' : Hp), ks[i]? = some k → Same H H' → ∀ (N0 : Hp → Prop) (N1 : VK), (h k = none → ∀ H2, Same H' H2 → N0 H2) → (∀ y, h k = some y → ∀ H2, Same H' H2 → N1 y H2) →
      g (f k) (wipe σ vs) H' fun σ2 H2 => wipe σ2 vs = wipe σ vs ∧ tt σ2 H2 fun b H3 => if b = true then te σ2 H3 N1 else N0 H3)
    (q : ∀ D H', H D = none → Same H H' → H' D = some (.lst (ks.filterMap h)) → Q (.ref D) H') : LJ (Itd d o (dN ks f)) g tt te vs σ H Q := by
  intro D hD
  have el : (dN ks f).length = ks.length := dN_len ks f
  refine ⟨fun j left Hw => left + j = ks.length ∧ Same H Hw ∧ Hw D = some (.lst ((ks.take j).filterMap h)), ⟨ks.length, Nat.add_zero _, same_new hD, by rw [upd_same]; simp⟩, fun j left Hw => ?_⟩
  rintro ⟨ej, p1, p2⟩
  rcases Nat.eq_zero_or_pos left with h0 | h0
  · left
    have e : j = ks.length := by omega
    subst e
    refine ⟨⟨p1 _ _ hx, by rw [el]; exact Nat.le_refl _⟩, q D Hw hD p1 ?_⟩
    rw [p2, List.take_length]
  · right
    have hj : j < ks.length := by omega
    refine ⟨⟨p1 _ _ hx, by rw [el]; exact hj⟩, fun Hz => Same H Hz ∧ Hz D = some (.lst ((ks.take (j + 1)).filterMap h)), fun Hz hz => ⟨left - 1, by omega, by omega, hz.1, hz.2⟩, fun x Hy hy => ?_⟩
    obtain ⟨e1, k, h1⟩ := hy
    subst e1
    unfold dN at h1
    rw [List.getElem?_map] at h1
    cases e : ks[j]? with
    | none =>
      rw [e] at h1
      cases h1
    | some n =>
      rw [e] at h1
      cases h1
      have hlen : ((ks.take j).filterMap h).length < sizeLine := Nat.lt_of_le_of_lt (Nat.le_trans (List.length_filterMap_le _ _) (by rw [List.length_take]; exact Nat.min_le_right _ _)) hl
      refine hs j n Hy e p1 _ _ (fun hf H2 k2 => ⟨p1.trans k2, ?_⟩) fun y hf H2 k2 => ⟨_, k2 _ _ p2, hlen, fun b o h => ?_, ?_⟩
      · rw [k2 _ _ p2, filt_take h e, hf]
        simp
      · rw [upd_ne (ne_of_none h hD)]
        exact k2 _ _ (p1 _ _ h)
      · rw [upd_same, filt_take h e, hf]
        rfl
end
end Pn
namespace Pn
open PySem PySem.Spec PyProof.Rows L2
/-! ### a dict of counts -/
/-- the counts of l stand at a, for the keys ks -/
structure CD (H : Hp) (a : Addr) (l ks : List Nat) : Prop where
  at_ : H a = some (.dK (dN ks fun k => .int ((l.count k : Nat) : Int)))
  nd : ks.Nodup
  all : ∀ x ∈ l, x ∈ ks
  rng : ∀ x ∈ ks, 2 ≤ x ∧ x ≤ 1000000
theorem keys_len {ks : List Nat} (h : ks.Nodup) (r : ∀ x ∈ ks, 2 ≤ x ∧ x ≤ 1000000) : ks.length ≤ 1000000 := by
  have h1 := List.Nodup.length_le_of_subset (l₂ := List.range' 1 1000000) h (fun x hx => by
    have := r x hx
    rw [List.mem_range'_1]
    omega)
  rwa [List.length_range'] at h1
theorem two_len {l : List Nat} (h : ∀ x ∈ l, 2 ≤ x) : 2 ^ l.length ≤ prodL l := by
  induction l with
  | nil => exact Nat.le_refl _
  | cons a l ih =>
    rw [List.length_cons, Nat.pow_succ, prodL_cons, Nat.mul_comm]
    exact Nat.mul_le_mul (h a List.mem_cons_self) (ih fun x hx => h x (List.mem_cons_of_mem _ hx))
theorem pf_len {n : Nat} (h1 : 1 ≤ n) (h : n ≤ 1000000) : (pf n).length < 20 := by
  have h2 := two_len (l := pf n) fun x hx => (pf_mem hx).1
  rw [pf_prod h1] at h2
  exact (Nat.pow_lt_pow_iff_right (by omega : 1 < 2)).mp (Nat.lt_of_le_of_lt h2 (Nat.lt_of_le_of_lt h (by decide)))
theorem CD.len {H : Hp} {a : Addr} {l ks : List Nat} (h : CD H a l ks) : ks.length ≤ 1000000 := by
  have h1 := List.Nodup.length_le_of_subset (l₂ := List.range' 1 1000000) h.nd (fun x hx => by
    have := h.rng x hx
    rw [List.mem_range'_1]
    omega)
  rwa [List.length_range'] at h1
theorem CD.same {H H' : Hp} {a : Addr} {l ks : List Nat} (h : CD H a l ks) (s : Same H H') : CD H' a l ks := ⟨s _ _ h.at_, h.nd, h.all, h.rng⟩
theorem CD.to {H H' : Hp} {a : Addr} {l ks : List Nat} (h : CD H a l ks) (e : H' a = H a) : CD H' a l ks := ⟨e.trans h.at_, h.nd, h.all, h.rng⟩
theorem count_snoc (l : List Nat) (m : Nat) : (fun k : Nat => V.int (((l ++ [m]).count k : Nat) : Int)) = fun k => if k = m then V.int (((l.count m : Nat) : Int) + 1) else V.int ((l.count k : Nat) : Int) := by
  funext k
  rw [List.count_append]
  by_cases c : k = m
  · subst c
    rw [if_pos rfl]
    simp
  · rw [if_neg c]
    have : ([m] : List Nat).count k = 0 := List.count_eq_zero_of_not_mem fun z => c (by simpa using z)
    rw [this]
    rfl
/-- one more of m is counted -/
theorem CD.put {H : Hp} {a : Addr} {l ks : List Nat} {m : Nat} (h : CD H a l ks) (h2 : 2 ≤ m) (h3 : m ≤ 1000000) : ∃ H' ks', DPut H a (.int (m : Int)) (.int (((l.count m : Nat) : Int) + 1)) H' ∧ H' = upd H a (.dK (dN ks' fun k => .int (((l ++ [m]).count k : Nat) : Int))) ∧ CD H' a (l ++ [m]) ks' ∧ ∀ x, x ∈ ks' ↔ x ∈ ks ∨ x = m := by
  have hz := h.len
  have p := dN_upd (m := m) (v := .int (((l.count m : Nat) : Int) + 1)) h.at_ (size_le hz)
  obtain ⟨g1, g2, g3⟩ := put_nodup (x := m) h.nd
  rw [← count_snoc] at p
  refine ⟨_, _, p, rfl, ⟨upd_same, g1, fun x hx => ?_, fun x hx => ?_⟩, g2⟩
  · rw [g2]
    rcases List.mem_append.mp hx with c | c
    · exact .inl (h.all x c)
    · simp at c
      exact .inr c
  · rcases (g2 x).mp hx with c | c
    · exact h.rng x c
    · omega
/-- what the dict tells of m -/
theorem CD.get {H : Hp} {a : Addr} {l ks : List Nat} {m : Nat} (h : CD H a l ks) : ∃ o : Option V, DGet H a (.int (m : Int)) o ∧ o.getD (.int 0) = .int ((l.count m : Nat) : Int) := by
  refine ⟨_, dN_get (m := m) h.at_, ?_⟩
  by_cases c : m ∈ ks
  · rw [if_pos c]
    rfl
  · rw [if_neg c, List.count_eq_zero_of_not_mem fun z => c (h.all m z)]
    rfl
theorem CD.isD {H : Hp} {a : Addr} {l ks : List Nat} (h : CD H a l ks) : IsD H a := .inl ⟨_, .inl h.at_⟩
/-! ### a kept product -/
theorem k_no : ¬ (("numbers" : PySem.Str) = "often") := by decide +kernel
def kpF (ln lo : Addr) : List (PySem.Str × V) := putF "often" (.ref lo) (putF "numbers" (.ref ln) [])
theorem kpF_n (ln lo : Addr) : (kpF ln lo).lookup ("numbers" : PySem.Str) = some (.ref ln) := by
  unfold kpF
  rw [lookup_putF, if_neg k_no, lookup_putF, if_pos rfl]
theorem kpF_o (ln lo : Addr) : (kpF ln lo).lookup ("often" : PySem.Str) = some (.ref lo) := by
  unfold kpF
  rw [lookup_putF, if_pos rfl]
theorem kpF_no (ln lo : Addr) {m : PySem.Str} (h1 : ¬ m = "often") (h2 : ¬ m = "numbers") : (kpF ln lo).lookup m = none := by
  unfold kpF
  rw [lookup_putF, if_neg h1, lookup_putF, if_neg h2]
  all_goals rfl
/-- an object stands at p with its list at ln and its dict at lo -/
def KO (K : PySem.W.Frag) (H : Hp) (p ln lo : Addr) : Prop := ∃ C dx, KCl K "KeptProduct" ["numbers", "often"] C ∧ H p = some (.ins C dx (kpF ln lo))
theorem KO.fldN {K : PySem.W.Frag} {H : Hp} {p ln lo : Addr} {Q : VK} (h : KO K H p ln lo) (q : Q (.ref ln) H) : rFld K "numbers" (.ref p) H Q := by
  obtain ⟨C, dx, hc, hp⟩ := h
  exact ⟨p, C, dx, _, _, rfl, hp, hc.cl, hc.no _ (by simp), kpF_n _ _, q⟩
theorem KO.fldO {K : PySem.W.Frag} {H : Hp} {p ln lo : Addr} {Q : VK} (h : KO K H p ln lo) (q : Q (.ref lo) H) : rFld K "often" (.ref p) H Q := by
  obtain ⟨C, dx, hc, hp⟩ := h
  exact ⟨p, C, dx, _, _, rfl, hp, hc.cl, hc.no _ (by simp), kpF_o _ _, q⟩
theorem KO.isO {K : PySem.W.Frag} {H : Hp} {p ln lo : Addr} {m : PySem.Str} (h : KO K H p ln lo) (h1 : ¬ m = "often") (h2 : ¬ m = "numbers") : IsO K "KeptProduct" m (.ref p) H := by
  obtain ⟨C, dx, hc, hp⟩ := h
  exact ⟨p, C, dx, _, rfl, hp, hc.ns, kpF_no _ _ h1 h2⟩
theorem KO.same {K : PySem.W.Frag} {H H' : Hp} {p ln lo : Addr} (h : KO K H p ln lo) (s : Same H H') : KO K H' p ln lo := by
  obtain ⟨C, dx, hc, hp⟩ := h
  exact ⟨C, dx, hc, s _ _ hp⟩
theorem KO.ne {K : PySem.W.Frag} {H : Hp} {p ln lo b : Addr} {u : HO} (h : KO K H p ln lo) (hb : H b = some u) (hu : ∀ C dx fs, u ≠ .ins C dx fs) : p ≠ b := by
  obtain ⟨C, dx, hc, hp⟩ := h
  exact ne_of hp hb fun e => hu _ _ _ e.symm
theorem KO.upd {K : PySem.W.Frag} {H : Hp} {p ln lo b : Addr} {o : HO} (h : KO K H p ln lo) (n : p ≠ b) : KO K (upd H b o) p ln lo := by
  obtain ⟨C, dx, hc, hp⟩ := h
  exact ⟨C, dx, hc, (upd_ne n).trans hp⟩
/-- a product of the numbers L -/
structure KP (K : PySem.W.Frag) (H : Hp) (p ln lo : Addr) (L : List Nat) : Prop where
  ob : KO K H p ln lo
  ns : H ln = some (.lst ((ofN L).map V.int))
  cd : ∃ ks, CD H lo (pfs L) ks
  rng : ∀ x ∈ L, 1 ≤ x ∧ x ≤ 1000000
theorem KP.same {K : PySem.W.Frag} {H H' : Hp} {p ln lo : Addr} {L : List Nat} (h : KP K H p ln lo L) (s : Same H H') : KP K H' p ln lo L := by
  obtain ⟨ks, hc⟩ := h.cd
  exact ⟨h.ob.same s, s _ _ h.ns, ⟨ks, hc.same s⟩, h.rng⟩
/-- all but what stands at two addresses is as it was -/
def K2 (a b : Addr) (H H' : Hp) : Prop := ∀ c o, c ≠ a → c ≠ b → H c = some o → H' c = some o
theorem K2.refl (a b : Addr) (H : Hp) : K2 a b H H := fun _ _ _ _ h => h
theorem K2.trans {a b : Addr} {H H1 H2 : Hp} (x : K2 a b H H1) (y : K2 a b H1 H2) : K2 a b H H2 := fun c o n1 n2 h => y c o n1 n2 (x c o n1 n2 h)
theorem K2.updA {a b : Addr} {H H' : Hp} {o : HO} (x : K2 a b H H') : K2 a b H (upd H' a o) := fun c u n1 n2 h => (upd_ne n1).trans (x c u n1 n2 h)
theorem K2.updB {a b : Addr} {H H' : Hp} {o : HO} (x : K2 a b H H') : K2 a b H (upd H' b o) := fun c u n1 n2 h => (upd_ne n2).trans (x c u n1 n2 h)
theorem K2.of {a b : Addr} {H H' : Hp} (s : Same H H') : K2 a b H H' := fun c o _ _ h => s c o h
theorem KP.ne {K : PySem.W.Frag} {H : Hp} {p ln lo : Addr} {L : List Nat} (h : KP K H p ln lo L) : p ≠ ln ∧ p ≠ lo ∧ ln ≠ lo := by
  obtain ⟨ks, hc⟩ := h.cd
  exact ⟨h.ob.ne h.ns (fun _ _ _ e => by cases e), h.ob.ne hc.at_ (fun _ _ _ e => by cases e), ne_of h.ns hc.at_ (fun e => by cases e)⟩
theorem KP.fresh {K : PySem.W.Frag} {H : Hp} {p ln lo t : Addr} {L : List Nat} (h : KP K H p ln lo L) (ht : H t = none) : p ≠ t ∧ ln ≠ t ∧ lo ≠ t := by
  obtain ⟨ks, hc⟩ := h.cd
  obtain ⟨C, dx, _, hp⟩ := h.ob
  exact ⟨ne_of_none hp ht, ne_of_none h.ns ht, ne_of_none hc.at_ ht⟩
/-- one product stays while another one changes -/
theorem KP.k2 {K : PySem.W.Frag} {H H' : Hp} {p ln lo a b : Addr} {L : List Nat} (h : KP K H p ln lo L) (k : K2 a b H H') (h1 : p ≠ a) (h2 : p ≠ b) (h3 : ln ≠ a) (h4 : ln ≠ b) (h5 : lo ≠ a) (h6 : lo ≠ b) : KP K H' p ln lo L := by
  obtain ⟨ks, hc⟩ := h.cd
  obtain ⟨C, dx, hcl, hp⟩ := h.ob
  exact ⟨⟨C, dx, hcl, k _ _ h1 h2 hp⟩, k _ _ h3 h4 h.ns, ⟨ks, ⟨k _ _ h5 h6 hc.at_, hc.nd, hc.all, hc.rng⟩⟩, h.rng⟩
theorem KP.kp {K : PySem.W.Frag} {H H' : Hp} {p ln lo a : Addr} {L : List Nat} (h : KP K H p ln lo L) (k : Kp a H H') (h1 : p ≠ a) (h3 : ln ≠ a) (h5 : lo ≠ a) : KP K H' p ln lo L :=
  h.k2 (a := a) (b := a) (fun c o n _ q => k c o n q) h1 h1 h3 h3 h5 h5
theorem ofN_app (a b : List Nat) : ofN (a ++ b) = ofN a ++ ofN b := by simp [ofN]
theorem ofN_len (a : List Nat) : (ofN a).length = a.length := by simp [ofN]
/-- H as it is, unlocked again -/
theorem upd_eta {H : Hp} {a : Addr} {u : HO} (h : H a = some u) : upd H a u = H := by
  funext b
  by_cases e : b = a
  · subst e
    rw [upd_same, h]
  · rw [upd_ne e]
theorem gcd_exp {l ks : List Nat} {r : Nat} (h1 : ∀ x ∈ l, x ∈ ks) (h : ∀ d, d ∣ r ↔ ∀ p ∈ ks, d ∣ l.count p) : IsExp l (if r = 0 then 2 else r) := by
  have hz : r = 0 ↔ l = [] := by
    constructor
    · intro e
      subst e
      refine List.eq_nil_iff_forall_not_mem.mpr fun p hp => ?_
      have h2 := (h (l.count p + 1)).mp (Nat.dvd_zero _) p (h1 p hp)
      have h3 : 0 < l.count p := List.count_pos_iff.mpr hp
      have := Nat.le_of_dvd h3 h2
      omega
    · intro e
      subst e
      have := (h 0).mpr fun p _ => by simp
      exact Nat.eq_zero_of_zero_dvd this
  refine ⟨fun c => by rw [if_pos (hz.mpr c)], fun c => ?_⟩
  have hr : r ≠ 0 := fun z => c (hz.mp z)
  rw [if_neg hr]
  refine ⟨by omega, fun d => (h d).trans ⟨fun z p hp => z p (h1 p hp), fun z p hp => ?_⟩⟩
  by_cases m : p ∈ l
  · exact z p m
  · rw [List.count_eq_zero_of_not_mem m]
    exact Nat.dvd_zero d
theorem bits20 {l : List Nat} (h : ∀ x ∈ l, x ≤ 1000000) : prodL l ≤ 2 ^ (20 * l.length) := by
  induction l with
  | nil => simp [prodL]
  | cons a l ih =>
    have e : 20 * (a :: l).length = 20 + 20 * l.length := by simp only [List.length_cons]; omega
    rw [prodL_cons, e, Nat.pow_add]
    exact Nat.mul_le_mul (Nat.le_trans (h a List.mem_cons_self) (by decide)) (ih fun x hx => h x (List.mem_cons_of_mem _ hx))
/-- how long what lacks can be -/
theorem lack_log {L ks : List Nat} {e : Nat} (he : 1 ≤ e) (h1 : ks.Nodup) (h2 : ∀ x ∈ L, 1 ≤ x ∧ x ≤ 1000000) (h4 : ∀ p ∈ ks, 1 ≤ p) : lackK ks (pfs L) e ≤ 2 ^ (20 * L.length * e) := by
  refine Nat.le_trans (lack_le he h1 (fun p hp => ?_) h4) ?_
  · have := (pfs_mem (N := 1000000) (fun x hx => (h2 x hx).2) hp).1
    omega
  · rw [pfs_prod fun x hx => (h2 x hx).1, Nat.pow_mul]
    exact Nat.pow_le_pow_left (bits20 fun x hx => (h2 x hx).2) e
theorem lack_mod (m : Nat) {e : Nat} (he : 1 ≤ e) : (0 - (m : Int)) % (e : Int) = ((lackE m e : Nat) : Int) := by
  unfold lackE
  have h1 : m % e < e := Nat.mod_lt _ (by omega)
  have h2 : (e - m % e) % e < e := Nat.mod_lt _ (by omega)
  have h3 := Nat.div_add_mod m e
  have h4 := Nat.div_add_mod (e - m % e) e
  have h5 : 0 - (m : Int) = (((e - m % e) % e : Nat) : Int) + (e : Int) * ((((e - m % e) / e : Nat) : Int) - ((m / e : Nat) : Int) - 1) := by
    have h6 : (m : Int) = (e : Int) * ((m / e : Nat) : Int) + ((m % e : Nat) : Int) := by
      have := congrArg (fun n : Nat => (n : Int)) h3.symm
      push_cast at this ⊢
      exact this
    have h7 : (((e - m % e : Nat) : Int)) = (e : Int) * (((e - m % e) / e : Nat) : Int) + (((e - m % e) % e : Nat) : Int) := by
      have := congrArg (fun n : Nat => (n : Int)) h4.symm
      push_cast at this ⊢
      exact this
    have h8 : ((e - m % e : Nat) : Int) = (e : Int) - ((m % e : Nat) : Int) := by omega
    rw [h8] at h7
    generalize ((m / e : Nat) : Int) = q at *
    generalize (((e - m % e) / e : Nat) : Int) = q2 at *
    generalize (((e - m % e) % e : Nat) : Int) = r2 at *
    generalize ((m % e : Nat) : Int) = r1 at *
    rw [h6]
    grind
  rw [h5, Int.add_mul_emod_self_left]
  exact Int.emod_eq_of_lt (by omega) (by omega)
end Pn
namespace Pn
open PySem PySem.Spec PyProof.Rows L2
/-! ### what a product tells -/
/-- a list of the numbers, the exponent, what lacks -/
def StAt (H : Hp) (t : Addr) (ys : List Int) (E R : Nat) : Prop := ∃ u, H t = some (.lst [.ref u, .int (E : Int), .int (R : Int)]) ∧ H u = some (.tup (ys.map V.int))
theorem StAt.same {H H' : Hp} {t : Addr} {ys : List Int} {E R : Nat} (h : StAt H t ys E R) (s : Same H H') : StAt H' t ys E R := by
  obtain ⟨u, h1, h2⟩ := h
  exact ⟨u, s _ _ h1, s _ _ h2⟩
def dS (ys : List Int) (E R : Nat) : PyData := .list [.tuple (dI ys), .int (E : Int), .int (R : Int)]
theorem dp_s {K : PySem.W.Frag} {H : Hp} {t : Addr} {ys : List Int} {E R : Nat} (h : StAt H t ys E R) : Dp K H (.ref t) (dS ys E R) := by
  obtain ⟨u, h1, h2⟩ := h
  exact .lst (SqL.of h1) (.cons (.tup (SqT.of h2) (dpAll_ints ys)) (.cons (.int _) (.cons (.int _) .nil)))
theorem sh_s (ys : List Int) (E R : Nat) : SeqAt.shaped (dS ys E R) = true := by
  unfold SeqAt.shaped dS
  simp [PyData.canLay0, PyData.canLayAll0, PyData.depth, PyData.depthAll, canLay_ints, depth_ints]
theorem eqv_s (ys : List Int) (E R : Nat) (ys' : List Int) (E' R' : Nat) : PyData.eqv (dS ys E R) (dS ys' E' R') = decide (ys = ys' ∧ E = E' ∧ R = R') := by
  unfold dS
  rw [PyData.eqv]
  simp only [PyData.eqvAll, PyData.eqv, eqv_ints, Bool.and_true]
  rw [Bool.decide_and, Bool.decide_and, Bool.beq_eq_decide_eq, Bool.beq_eq_decide_eq]
  simp only [Int.natCast_inj]
section
variable {K : PySem.W.Frag} {H : Hp} {Q : VK} {t t' : Addr} {ys ys' : List Int} {E R E' R' : Nat}
theorem r_neS (h : StAt H t ys E R) (h' : StAt H t' ys' E' R') (q : Q (.bl (!decide (ys = ys' ∧ E = E' ∧ R = R'))) H) : rNeD K (.ref t) (.ref t') H Q :=
  ⟨_, _, dp_s h, dp_s h', sh_s _ _ _, sh_s _ _ _, by rw [eqv_s]; exact q⟩
theorem r_eqS (h : StAt H t ys E R) (h' : StAt H t' ys' E' R') (q : Q (.bl (decide (ys = ys' ∧ E = E' ∧ R = R'))) H) : rEqD K (.ref t) (.ref t') H Q :=
  ⟨_, _, dp_s h, dp_s h', sh_s _ _ _, sh_s _ _ _, by rw [eqv_s]; exact q⟩
end
/-- this is so of the numbers L -/
structure Tells (L : List Nat) (e : Nat) (ys : List Int) (E R : Nat) : Prop where
  pm : ys.Perm (ofN L)
  so : ys.Pairwise (· ≤ ·)
  ex : IsExp (pfs L) E
  la : IsLack (pfs L) e R
theorem sorted_one {ys zs : List Int} (h1 : ys.Pairwise (· ≤ ·)) (h2 : zs.Pairwise (· ≤ ·)) (h : ys.Perm zs) : ys = zs := List.Perm.eq_of_pairwise (fun a b _ _ h1 h2 => Int.le_antisymm h1 h2) h1 h2 h
theorem Tells.one {L L' : List Nat} {e : Nat} {ys ys' : List Int} {E R E' R' : Nat} (h : Tells L e ys E R) (h' : Tells L' e ys' E' R') (p : L.Perm L') : ys = ys' ∧ E = E' ∧ R = R' :=
  ⟨sorted_one h.so h'.so (h.pm.trans ((p.map _).trans h'.pm.symm)), isExp_unique (isExp_perm (pfs_perm p) h.ex) h'.ex, isLack_unique (isLack_perm (pfs_perm p) h.la) h'.la⟩
theorem greatest_exp {N e : Nat} (hN : 1 ≤ N) (h : IsExp (pf N) e) : (greatestN N).2 = e := by
  rcases (by omega : N = 1 ∨ 2 ≤ N) with rfl | h2
  · rw [h.1 pf_1]
    rfl
  · obtain ⟨⟨b, hb⟩, hm⟩ := exp_pow h2 h
    have he1 : 1 ≤ e := (h.2 fun c => by rw [(pf_nil hN).mp c] at h2; omega).1
    have lt2 : ∀ {b e'}, 1 ≤ e' → N = b ^ e' → 2 ≤ b := fun {b e'} he' hbe => by
      rcases (by omega : b = 0 ∨ b = 1 ∨ 2 ≤ b) with c | c | c
      · subst c
        rw [Nat.zero_pow (by omega)] at hbe
        omega
      · subst c
        rw [Nat.one_pow] at hbe
        omega
      · exact c
    rcases (by omega : e = 1 ∨ 2 ≤ e) with rfl | he
    · rw [greatest_none h2 fun e' he' _ hr => ?_]
      have := hm e' (by omega) ⟨_, hr.symm⟩
      omega
    · have hb2 := lt2 he1 hb
      have e2 : rootN N e ^ e = N := by
        have h5 : rootN (b ^ e) e = b := rootN_pow he1
        rw [← hb] at h5
        rw [h5]
        exact hb.symm
      rw [greatest_of h2 he (by rw [hb]; exact Nat.pow_le_pow_left hb2 e) e2 fun e' h3 _ hr => ?_]
      have := hm e' (by omega) ⟨_, hr.symm⟩
      omega
/-- the root leaves nothing of a power, and something of another number -/
theorem rest_iff {n e r : Nat} (he : 1 ≤ e) (h1 : r ^ e ≤ n) (h2 : n < (r + 1) ^ e) : n - r ^ e = 0 ↔ ∃ b, n = b ^ e := by
  constructor
  · intro h
    exact ⟨r, by omega⟩
  · rintro ⟨b, rfl⟩
    have := rootN_is he h1 h2
    rw [rootN_pow he] at this
    rw [this, Nat.sub_self]
end Pn
/-! Dsk: a desk, its kept product; texts compared; dicts' keys walked. -/
namespace Pn
open PySem PySem.Spec PyProof.Rows L2 TL
/-! ### loops and comprehensions over a locked dict's keys -/
section
variable {σ : L2.St} {H : Hp} {Q : VK} {D : Ends} {K : PySem.W.Frag} {te td : TE} {tt : TT} {s1 : TS} {g : TG} {vs : List Nat}
theorem w_forK : tFor (iKeys td) g s1 D σ H = td σ H fun x H1 => ∃ d o, x = .ref d ∧ ((∃ kvs, H1 d = some (.frz o (.dK kvs)) ∧ FJ (Itk d o kvs) g s1 D σ H1) ∨ ∃ kvs, H1 d = some (.frz o (.dT kvs)) ∧ FJ (Itkt d o kvs) g s1 D σ H1) := rfl
theorem for_k {d : Addr} {o : Obj} {ks : List Nat} {f : Nat → V} (Pv : Nat → L2.St → Hp → Prop) (h0 : Pv 0 σ H) (hl : ∀ i σ H, i ≤ ks.length → Pv i σ H → H d = some (.frz o (.dK (dN ks f))))
    (hs : ∀ i k σ H, ks[i]? = some k → i < ks.length → Pv i σ H → ∀ N : L2.St → Hp → Prop, (∀ σ' H', Pv (i + 1) σ' H' → N σ' H') → g (.int (k : Int)) σ H fun σ2 H2 => s1 { D with nx := N, ct := N, bk := D.nx } σ2 H2)
    (hd : ∀ σ H, Pv ks.length σ H → D.nx σ H) : FJ (Itk d o (dN ks f)) g s1 D σ H := by
  have el : (dN ks f).length = ks.length := dN_len ks f
  refine for_it (n := ks.length) (G := fun H => H d = some (.frz o (.dK (dN ks f)))) (Y := fun i H x H' => H' = H ∧ ∃ k : Nat, x = .int (k : Int) ∧ ks[i]? = some k) ?_ Pv h0 hl ?_ hd
  · refine ⟨fun i H hi q => ⟨q, by rw [el]; exact hi⟩, fun H q => ⟨q, by rw [el]; exact Nat.le_refl _⟩, fun i H x H' hi q y => ?_⟩
    obtain ⟨h0, k, v, h1, h2⟩ := y
    unfold dN at h1
    rw [List.getElem?_map] at h1
    cases e : ks[i]? with
    | none =>
      rw [e] at h1
      cases h1
    | some n =>
      rw [e] at h1
      cases h1
      exact ⟨h0, n, h2, rfl⟩
  · rintro i x σ H H' hi p ⟨rfl, k, rfl, hk⟩
    exact hs i k σ _ hk hi p _ fun _ _ z => z
theorem lc_kI {d : Addr} {o : Obj} {ks : List Nat} {f : Nat → V} (Pv : Nat → List V → Hp → Prop) (h0 : ∀ D, H D = none → Pv 0 [] (upd H D (.lst []))) (hl : ∀ i acc H', i ≤ ks.length → Pv i acc H' → H' d = some (.frz o (.dK (dN ks f))))
    (hs : ∀ (i k : Nat) (acc : List V) (D : Addr) (H' : Hp), ks[i]? = some k → H D = none → H' D = some (.lst acc) → Pv i acc H' → ∀ (N0 : Hp → Prop) (N1 : VK), (∀ H2, H2 D = some (.lst acc) → Pv (i + 1) acc H2 → N0 H2) →
      (∀ y H2, H2 D = some (.lst acc) → acc.length < sizeLine → Pv (i + 1) (acc ++ [y]) (upd H2 D (.lst (acc ++ [y]))) → N1 y H2) →
      g (.int (k : Int)) (wipe σ vs) H' fun σ2 H2 => wipe σ2 vs = wipe σ vs ∧ tt σ2 H2 fun b H3 => if b = true then te σ2 H3 N1 else N0 H3)
    (q : ∀ D acc H', H D = none → H' D = some (.lst acc) → Pv ks.length acc H' → Q (.ref D) H') : LJ (Itk d o (dN ks f)) g tt te vs σ H Q := by
  intro D hD
  have el : (dN ks f).length = ks.length := dN_len ks f
  refine ⟨fun j left Hw => left + j = ks.length ∧ ∃ acc, Hw D = some (.lst acc) ∧ Pv j acc Hw, ⟨ks.length, Nat.add_zero _, [], upd_same, h0 D hD⟩, fun j left Hw => ?_⟩
  rintro ⟨ej, acc, p1, p2⟩
  rcases Nat.eq_zero_or_pos left with h0 | h0
  · left
    have e : j = ks.length := by omega
    subst e
    exact ⟨⟨hl _ _ _ (Nat.le_refl _) p2, by rw [el]; exact Nat.le_refl _⟩, q D acc Hw hD p1 p2⟩
  · right
    have hj : j < ks.length := by omega
    refine ⟨⟨hl _ _ _ (Nat.le_of_lt hj) p2, by rw [el]; exact hj⟩, fun Hz => ∃ acc, Hz D = some (.lst acc) ∧ Pv (j + 1) acc Hz, fun Hz hz => ⟨left - 1, by omega, by omega, hz⟩, fun x Hy hy => ?_⟩
    obtain ⟨e1, k, v, h1, h2⟩ := hy
    subst e1
    unfold dN at h1
    rw [List.getElem?_map] at h1
    cases e : ks[j]? with
    | none =>
      rw [e] at h1
      cases h1
    | some n =>
      rw [e] at h1
      cases h1
      subst h2
      exact hs j n acc D Hy e hD p1 p2 _ _ (fun H2 e h => ⟨acc, e, h⟩) fun y H2 e hl h => ⟨acc, e, hl, _, upd_same, h⟩
end
/-! ### dict(pairs) -/
theorem merge_dN (f : Nat → V) : ∀ (ks r : List Nat), (r ++ ks).Nodup → mergeK (dN r f) (dN ks f) = dN (r ++ ks) f
  | [], r, _ => by
    rw [List.append_nil]
    rfl
  | k :: ks, r, h => by
    have h1 : k ∉ r := fun z => by
      rw [List.nodup_append] at h
      exact h.2.2 k z k List.mem_cons_self rfl
    have h2 : (r ++ [k] ++ ks).Nodup := by rwa [List.append_assoc, List.singleton_append]
    have e : putK (dN r f) (Sum.inl (k : Int)) (f k) = dN (r ++ [k]) f := by
      rw [putK_new (f k) (by rw [dN_val, if_neg h1])]
      simp [dN]
    have ih := merge_dN f ks (r ++ [k]) h2
    rw [List.append_assoc, List.singleton_append] at ih
    rw [← ih, ← e]
    rfl
/-! ### texts that are compared -/
def dX (ys : List PySem.Str) : List PyData := ys.map PyData.str
theorem dpAll_texts {K : PySem.W.Frag} {H : Hp} : ∀ ys : List PySem.Str, DpAll K H (ys.map V.str) (dX ys)
  | [] => .nil
  | y :: r => .cons (.str y) (dpAll_texts r)
theorem canLay_texts : ∀ ys : List PySem.Str, (∀ y ∈ ys, PyData.strOk y = true) → PyData.canLayAll0 (dX ys) = true
  | [], _ => by simp [dX, PyData.canLayAll0]
  | y :: r, h => by
    have := canLay_texts r fun z hz => h z (List.mem_cons_of_mem _ hz)
    have h0 := h y List.mem_cons_self
    simp only [dX] at this ⊢
    simp [PyData.canLayAll0, PyData.canLay0, this, h0]
theorem depth_texts : ∀ ys : List PySem.Str, PyData.depthAll (dX ys) = 0
  | [] => by simp [dX, PyData.depthAll]
  | n :: r => by
    have := depth_texts r
    simp only [dX] at this ⊢
    simp [PyData.depthAll, PyData.depth, this]
theorem eqv_texts : ∀ ns ms : List PySem.Str, PyData.eqvAll (dX ns) (dX ms) = decide (ns = ms)
  | [], [] => by simp [dX, PyData.eqvAll]
  | [], _ :: _ => by simp [dX, PyData.eqvAll]
  | _ :: _, [] => by simp [dX, PyData.eqvAll]
  | n :: r, m :: t => by
    have := eqv_texts r t
    simp only [dX] at this ⊢
    simp only [List.map_cons, PyData.eqvAll, PyData.eqv, this, List.cons.injEq]
    rw [Bool.decide_and, Bool.beq_eq_decide_eq]
theorem sh_lX {ys : List PySem.Str} (h : ∀ y ∈ ys, PyData.strOk y = true) : SeqAt.shaped (.list (dX ys)) = true := by
  unfold SeqAt.shaped
  simp [PyData.canLay0, PyData.depth, canLay_texts ys h, depth_texts]
section
variable {K : PySem.W.Frag} {H : Hp} {Q : VK} {a b : Addr}
def Oks (ys : List PySem.Str) : Prop := ∀ y ∈ ys, PyData.strOk y = true
theorem r_eqLX {ns ms : List PySem.Str} (hx : SqL K H a (ns.map V.str)) (hy : SqL K H b (ms.map V.str)) (h1 : Oks ns) (h2 : Oks ms) (q : Q (.bl (decide (ns = ms))) H) : rEqD K (.ref a) (.ref b) H Q :=
  ⟨.list (dX ns), .list (dX ms), .lst hx (dpAll_texts ns), .lst hy (dpAll_texts ms), sh_lX h1, sh_lX h2, by rw [PyData.eqv, eqv_texts]; exact q⟩
theorem r_neLX {ns ms : List PySem.Str} (hx : SqL K H a (ns.map V.str)) (hy : SqL K H b (ms.map V.str)) (h1 : Oks ns) (h2 : Oks ms) (q : Q (.bl (!decide (ns = ms))) H) : rNeD K (.ref a) (.ref b) H Q :=
  ⟨.list (dX ns), .list (dX ms), .lst hx (dpAll_texts ns), .lst hy (dpAll_texts ms), sh_lX h1, sh_lX h2, by rw [PyData.eqv, eqv_texts]; exact q⟩
end
theorem ok_sN (n : Nat) : PyData.strOk (sN n) = true := ok_of (sN_low n)
theorem ok_app {x y : PySem.Str} (h1 : ∀ c ∈ tl x, c < 128) (h2 : ∀ c ∈ tl y, c < 128) : ∀ c ∈ tl (x ++ y), c < 128 := fun c hc => by
  rw [tl_append] at hc
  exact (List.mem_append.mp hc).elim (h1 c) (h2 c)
/-! ### a desk -/
/-- a desk at q, its product at p -/
def DK (K : PySem.W.Frag) (H : Hp) (q p : Addr) : Prop := ∃ C dx, KCl K "Desk" ["kept"] C ∧ H q = some (.ins C dx (putF "kept" (.ref p) []))
theorem dkF (p : Addr) : (putF "kept" (.ref p) []).lookup ("kept" : PySem.Str) = some (.ref p) := by
  rw [lookup_putF, if_pos rfl]
theorem dkF_no (p : Addr) {m : PySem.Str} (h1 : ¬ m = "kept") : (putF "kept" (.ref p) []).lookup m = none := by
  rw [lookup_putF, if_neg h1]
  rfl
theorem DK.fld {K : PySem.W.Frag} {H : Hp} {q p : Addr} {Q : VK} (h : DK K H q p) (k : Q (.ref p) H) : rFld K "kept" (.ref q) H Q := by
  obtain ⟨C, dx, hC, hq⟩ := h
  exact ⟨q, C, dx, _, _, rfl, hq, hC.cl, hC.no _ (by simp), dkF p, k⟩
theorem DK.isO {K : PySem.W.Frag} {H : Hp} {q p : Addr} {m : PySem.Str} (h : DK K H q p) (h1 : ¬ m = "kept") : IsO K "Desk" m (.ref q) H := by
  obtain ⟨C, dx, hC, hq⟩ := h
  exact ⟨q, C, dx, _, rfl, hq, hC.ns, dkF_no p h1⟩
theorem DK.same {K : PySem.W.Frag} {H H' : Hp} {q p : Addr} (h : DK K H q p) (s : Same H H') : DK K H' q p := let ⟨C, dx, hC, hq⟩ := h; ⟨C, dx, hC, s _ _ hq⟩
theorem DK.kp {K : PySem.W.Frag} {H H' : Hp} {q p a : Addr} (h : DK K H q p) (s : Kp a H H') (n : q ≠ a) : DK K H' q p := let ⟨C, dx, hC, hq⟩ := h; ⟨C, dx, hC, s _ _ n hq⟩
theorem DK.k2 {K : PySem.W.Frag} {H H' : Hp} {q p a b : Addr} (h : DK K H q p) (s : K2 a b H H') (n : q ≠ a) (n2 : q ≠ b) : DK K H' q p := let ⟨C, dx, hC, hq⟩ := h; ⟨C, dx, hC, s _ _ n n2 hq⟩
theorem DK.ne {K : PySem.W.Frag} {H : Hp} {q p b : Addr} {u : HO} (h : DK K H q p) (hb : H b = some u) (hu : ∀ C dx fs, u ≠ .ins C dx fs) : q ≠ b := let ⟨C, dx, hC, hq⟩ := h; ne_of hq hb fun e => hu _ _ _ e.symm
/-- a desk whose product holds the numbers L -/
structure DO (K : PySem.W.Frag) (H : Hp) (q p ln lo : Addr) (L : List Nat) : Prop where
  dk : DK K H q p
  kp : KP K H p ln lo L
theorem DO.same {K : PySem.W.Frag} {H H' : Hp} {q p ln lo : Addr} {L : List Nat} (h : DO K H q p ln lo L) (s : Same H H') : DO K H' q p ln lo L := ⟨h.dk.same s, h.kp.same s⟩
theorem DO.ne {K : PySem.W.Frag} {H : Hp} {q p ln lo : Addr} {L : List Nat} (h : DO K H q p ln lo L) : q ≠ ln ∧ q ≠ lo := by
  obtain ⟨ks, hc⟩ := h.kp.cd
  exact ⟨h.dk.ne h.kp.ns (fun _ _ _ e => by cases e), h.dk.ne hc.at_ (fun _ _ _ e => by cases e)⟩
theorem DO.to {K : PySem.W.Frag} {H H' : Hp} {q p ln lo : Addr} {L L' : List Nat} (h : DO K H q p ln lo L) (k : K2 ln lo H H') (hk : KP K H' p ln lo L') : DO K H' q p ln lo L' := ⟨h.dk.k2 k h.ne.1 h.ne.2, hk⟩
/-- what else changes is none of the desk's -/
theorem DO.keep {K : PySem.W.Frag} {H H' : Hp} {q p ln lo a b : Addr} {L : List Nat} (h : DO K H q p ln lo L) (k : K2 a b H H') (ha : ∃ xs, H a = some (.lst xs)) (hb : ∃ xs, H b = some (.lst xs)) (n1 : ln ≠ a) (n2 : ln ≠ b) : DO K H' q p ln lo L := by
  obtain ⟨xs, ha⟩ := ha
  obtain ⟨ys, hb⟩ := hb
  obtain ⟨ks, hc⟩ := h.kp.cd
  exact ⟨h.dk.k2 k (h.dk.ne ha fun _ _ _ e => by cases e) (h.dk.ne hb fun _ _ _ e => by cases e),
    h.kp.k2 k (h.kp.ob.ne ha fun _ _ _ e => by cases e) (h.kp.ob.ne hb fun _ _ _ e => by cases e) n1 n2 (ne_of hc.at_ ha fun e => by cases e) (ne_of hc.at_ hb fun e => by cases e)⟩
/-! ### lines -/
/-- a word, a blank, a number -/
def ln2 (w : PySem.Str) (n : Nat) : PySem.Str := w ++ " " ++ sN n
def prodW (e : Nat) : PySem.Str := if 1 < e then "power " ++ sN e else "none"
def rowsW (ys : List Int) : List PySem.Str := if ys = [] then [] else [Str.join " " (ys.map fun y => Str.ofString (toString y))]
/-- what a desk with the numbers L tells to a line -/
inductive Ask (L : List Nat) : PySem.Str → List PySem.Str → Prop
  | numbers (ys : List Int) : ys.Perm (ofN L) → ys.Pairwise (· ≤ ·) → Ask L "numbers" (rowsW ys)
  | product (e : Nat) : IsExp (pfs L) e → Ask L "product" [prodW e]
  | lacks (e r : Nat) : 2 ≤ e → e ≤ 10 → IsLack (pfs L) e r → Ask L (ln2 "lacks" e) [sN r]
theorem Ask.perm {L L' : List Nat} {z : PySem.Str} {ys : List PySem.Str} (h : Ask L z ys) (p : L.Perm L') : Ask L' z ys := by
  cases h with
  | numbers ys h1 h2 => exact .numbers ys (h1.trans (p.map _)) h2
  | product e h1 => exact .product e (isExp_perm (pfs_perm p) h1)
  | lacks e r h1 h2 h3 => exact .lacks e r h1 h2 (isLack_perm (pfs_perm p) h3)
theorem low_join : ∀ ys : List PySem.Str, (∀ y ∈ ys, ∀ c ∈ tl y, c < 128) → ∀ c ∈ tl (Str.join " " ys), c < 128
  | [], _ => fun c hc => by cases hc
  | [x], h => fun c hc => h x List.mem_cons_self c (by simpa [Str.join] using hc)
  | x :: y :: r, h => by
    have ih := low_join (y :: r) fun z hz => h z (List.mem_cons_of_mem _ hz)
    show ∀ c ∈ tl (x ++ " " ++ Str.join " " (y :: r)), c < 128
    exact ok_app (ok_app (h x List.mem_cons_self) (by rw [tl_blank]; decide)) ih
theorem Ask.oks {L : List Nat} {z : PySem.Str} {ys : List PySem.Str} (h : Ask L z ys) : Oks ys := by
  cases h with
  | numbers ys h1 h2 =>
    unfold rowsW
    split
    · intro y hy
      cases hy
    · intro y hy
      rw [List.mem_singleton] at hy
      subst hy
      refine ok_of (low_join _ fun y hy => ?_)
      obtain ⟨i, hi, rfl⟩ := List.mem_map.mp hy
      have hm := h1.mem_iff.mp hi
      unfold ofN at hm
      obtain ⟨n, _, rfl⟩ := List.mem_map.mp hm
      exact sN_low n
  | product e h1 =>
    intro y hy
    rw [List.mem_singleton] at hy
    subst hy
    unfold prodW
    split
    · exact ok_of (ok_app (by decide +kernel) (sN_low e))
    · decide +kernel
  | lacks e r h1 h2 h3 =>
    intro y hy
    rw [List.mem_singleton] at hy
    subst hy
    exact ok_sN r
/-! ### what was told and is held -/
/-- pairs of lists of texts, alike, stand at the addresses xs, which are held at h -/
structure Held (H : Hp) (h ln : Addr) (xs : List Addr) : Prop where
  at_ : H h = some (.lst (xs.map V.ref))
  all : ∀ x ∈ xs, ∃ (t d : Addr) (ys : List PySem.Str), H x = some (.tup [.ref t, .ref d]) ∧ H t = some (.lst (ys.map V.str)) ∧ H d = some (.lst (ys.map V.str)) ∧ Oks ys ∧ t ≠ ln ∧ d ≠ ln
  ne : h ≠ ln
/-- what changes is a list of numbers, a dict, the list of the product -/
theorem Held.keep {H H' : Hp} {h ln a lo : Addr} {xs : List Addr} (q : Held H h ln xs) (ha : Sd H a) (hlo : ∃ kvs, H lo = some (.dK kvs)) (hln : ∃ ys, H ln = some (.lst ys)) (k : ∀ b o, b ≠ a → b ≠ ln → b ≠ lo → H b = some o → H' b = some o) : Held H' h ln xs := by
  obtain ⟨x0, x1, x2, x3, ha⟩ := ha
  obtain ⟨kvs, hlo⟩ := hlo
  obtain ⟨zs, hln⟩ := hln
  refine ⟨k _ _ (ne_of q.at_ ha fun e => ?_) q.ne (ne_of q.at_ hlo fun e => by cases e) q.at_, fun x hx => ?_, q.ne⟩
  · injection e with e
    cases xs with
    | nil => cases e
    | cons x xs =>
      rw [List.map_cons] at e
      injection e with e
      cases e
  · obtain ⟨t, d, ys, h1, h2, h3, h4, h5, h6⟩ := q.all x hx
    have no : ∀ u : Addr, H u = some (.lst (ys.map V.str)) → u ≠ a ∧ u ≠ lo := fun u hu => ⟨ne_of hu ha fun e => by
      injection e with e
      cases ys with
      | nil => cases e
      | cons y ys =>
        rw [List.map_cons] at e
        injection e with e
        (cases e), ne_of hu hlo fun e => by cases e⟩
    exact ⟨t, d, ys, k _ _ (ne_of h1 ha fun e => by cases e) (ne_of h1 hln fun e => by cases e) (ne_of h1 hlo fun e => by cases e) h1, k _ _ (no t h2).1 h5 (no t h2).2 h2, k _ _ (no d h3).1 h6 (no d h3).2 h3, h4, h5, h6⟩
/-! ### rows of numbers -/
def txtI : V → Option V
  | .int i => some (.str (Str.ofString (toString i)))
  | _ => none
theorem filt_txt : ∀ ys : List Int, (ys.map V.int).filterMap txtI = (ys.map fun y => Str.ofString (toString y)).map V.str
  | [] => rfl
  | y :: r => by
    have ih := filt_txt r
    rw [List.map_cons, List.filterMap_cons]
    show (V.str (Str.ofString (toString y)) :: (r.map V.int).filterMap txtI) = _
    rw [ih]
    rfl
theorem sum_len {k : Nat} : ∀ {ys : List PySem.Str}, (∀ y ∈ ys, y.length ≤ k) → (ys.map (·.length)).sum ≤ k * ys.length
  | [], _ => Nat.zero_le _
  | y :: r, h => by
    have ih := sum_len (ys := r) fun z hz => h z (List.mem_cons_of_mem _ hz)
    have h0 := h y List.mem_cons_self
    simp only [List.map_cons, List.sum_cons, List.length_cons, Nat.mul_add, Nat.mul_one]
    omega
/-- the texts of small numbers are short -/
theorem txt_len {L : List Nat} {ys : List Int} (p : ys.Perm (ofN L)) (h : ∀ x ∈ L, x ≤ 1000000) (hl : L.length ≤ 1000) : ((ys.map fun y => Str.ofString (toString y)).map (·.length)).sum + (ys.map fun y => Str.ofString (toString y)).length * (" " : PySem.Str).length ≤ 16777216 := by
  have h1 := sum_len (k := 7) (ys := ys.map fun y => Str.ofString (toString y)) fun z hz => by
    obtain ⟨i, hi, rfl⟩ := List.mem_map.mp hz
    have hm := p.mem_iff.mp hi
    unfold ofN at hm
    obtain ⟨n, hn, rfl⟩ := List.mem_map.mp hm
    exact sN_len (n := n) (by decide) (Nat.lt_of_le_of_lt (h n hn) (by decide))
  have h2 : (ys.map fun y => Str.ofString (toString y)).length = L.length := by
    rw [List.length_map, p.length_eq, ofN_len]
  have h3 : (" " : PySem.Str).length = 1 := by decide +kernel
  rw [h2] at h1 ⊢
  rw [h3]
  omega
theorem sN_no_sign {n c : Nat} (h : c ∈ tl (sN n)) : c ∈ tl ("0123456789" : PySem.Str) := by
  rw [tl_sN] at h
  exact (fig_mem c).mpr (numL_digits n c h)
theorem sN_ne (n : Nat) : sN n ≠ "" := fun h => by
  have h1 := sN_pos n
  have h2 : ("" : PySem.Str).length = 0 := by decide +kernel
  rw [h, h2] at h1
  omega
/-- a nought stands ahead of 0 alone -/
theorem sN_head {n c : Nat} (h : (tl (sN n))[0]? = some c) (hc : c = 48) : n = 0 := by
  rw [tl_sN, hc] at h
  exact numL_head n h
theorem sN_zero : sN 0 = "0" := str_ext (by decide +kernel)
/-- the exponent is one of a count -/
theorem exp_le {L : List Nat} {e : Nat} (h : IsExp (pfs L) e) (hr : ∀ x ∈ L, 1 ≤ x ∧ x ≤ 1000000) (hl : L.length ≤ 1000) : e ≤ 20000 := by
  by_cases c : pfs L = []
  · rw [h.1 c]
    omega
  · obtain ⟨h1, h2⟩ := h.2 c
    obtain ⟨p, hp⟩ := List.exists_mem_of_ne_nil _ c
    have h3 := (h2 e).mp (Nat.dvd_refl e) p hp
    have h4 : 0 < (pfs L).count p := List.count_pos_iff.mpr hp
    have h5 := Nat.le_of_dvd h4 h3
    have h6 : (pfs L).count p ≤ (pfs L).length := List.count_le_length
    have h7 : ∀ l : List Nat, (∀ x ∈ l, 1 ≤ x ∧ x ≤ 1000000) → (pfs l).length ≤ 20 * l.length := by
      intro l
      induction l with
      | nil => intro _; exact Nat.le_refl _
      | cons a l ih =>
        intro hl
        have e : pfs (a :: l) = pf a ++ pfs l := rfl
        rw [e, List.length_append, List.length_cons]
        have := pf_len (hl a List.mem_cons_self).1 (hl a List.mem_cons_self).2
        have := ih fun x hx => hl x (List.mem_cons_of_mem _ hx)
        omega
    have := h7 L hr
    omega
theorem fm_none {α : Type} : ∀ xs : List α, xs.filterMap (fun _ => (none : Option V)) = []
  | [] => rfl
  | x :: r => by
    rw [List.filterMap_cons, fm_none r]
/-! ### a text in a row of texts -/
theorem inV_texts (a : PySem.Str) : ∀ ys : List PySem.Str, inV (.str a) (ys.map V.str) = decide (a ∈ ys)
  | [] => by simp [inV]
  | y :: r => by
    have ih := inV_texts a r
    unfold inV at ih ⊢
    rw [List.map_cons, List.any_cons, ih]
    simp only [List.mem_cons, Bool.decide_or]
    congr 1
    exact decide_eq_decide.mpr ⟨fun h => h.symm, fun h => h.symm⟩
theorem flat_texts (ys : List PySem.Str) : (ys.map V.str).all flatV = true := by
  rw [List.all_eq_true]
  intro x hx
  obtain ⟨i, _, rfl⟩ := List.mem_map.mp hx
  rfl
theorem r_inX {K : PySem.W.Frag} {H : Hp} {Q : VK} {a : PySem.Str} {ys : List PySem.Str} {p : Addr} (h : SqT K H p (ys.map V.str)) (q : Q (.bl (decide (a ∈ ys))) H) : rIn K false (.str a) (.ref p) H Q := by
  refine ⟨p, _, rfl, .inr h, rfl, flat_texts ys, ?_⟩
  rw [inV_texts]
  exact q
theorem sN_noblank (n : Nat) : 32 ∉ tl (sN n) := sN_blank n
theorem split_ln2 {w : PySem.Str} (hw : 32 ∉ tl w) (n : Nat) : PySem.Txt.split (ln2 w n) " " = [w, sN n] := split_two hw (sN_blank n)
theorem len_ln2 (w : PySem.Str) (n : Nat) : (ln2 w n).length = w.length + 1 + (sN n).length := by
  unfold ln2
  rw [len_app, len_app]
  have : (" " : PySem.Str).length = 1 := by decide +kernel
  omega
theorem DO.free {K : PySem.W.Frag} {H H' : Hp} {q p ln lo t : Addr} {L : List Nat} (h : DO K H' q p ln lo L) (k : K2 ln lo H H') (ht : H' t = none) : H t = none := by
  obtain ⟨ks, hc⟩ := h.kp.cd
  cases e : H t with
  | none => rfl
  | some o =>
    have := k t o (fun z => (ne_of_none h.kp.ns ht) z.symm) (fun z => (ne_of_none hc.at_ ht) z.symm) e
    rw [this] at ht
    cases ht
theorem prodL_ten : ∀ {L : List Nat}, (∀ x ∈ L, x ≤ 1000000) → prodL L ≤ 10 ^ (6 * L.length)
  | [], _ => Nat.le_refl _
  | a :: L, h => by
    have ih := prodL_ten (L := L) fun x hx => h x (List.mem_cons_of_mem _ hx)
    have e : 6 * (a :: L).length = 6 + 6 * L.length := by simp only [List.length_cons]; omega
    rw [prodL_cons, e, Nat.pow_add]
    exact Nat.mul_le_mul (h a List.mem_cons_self) ih
/-- what lacks is no longer than four thousand figures -/
theorem lack_small {L : List Nat} {e r : Nat} (h : IsLack (pfs L) e r) (he : 1 ≤ e) (he2 : e ≤ 10) (hr : ∀ x ∈ L, 1 ≤ x ∧ x ≤ 1000000) (hl : L.length ≤ 70) : r < 10 ^ 4300 := by
  obtain ⟨ks, h1, h2⟩ := nodup_of (pfs L)
  rw [h ks h1 fun p hp => (h2 p).mpr hp]
  have h3 := lack_le (l := pfs L) he h1 (fun p hp => ?_) (fun p hp => ?_)
  · rw [pfs_prod fun x hx => (hr x hx).1] at h3
    have h4 := prodL_ten fun x hx => (hr x hx).2
    have h5 : prodL L ^ e ≤ (10 ^ (6 * L.length)) ^ e := Nat.pow_le_pow_left h4 e
    rw [← Nat.pow_mul] at h5
    have h6 : 6 * L.length * e ≤ 6 * 70 * 10 := Nat.mul_le_mul (by omega) he2
    have h7 : (10 : Nat) ^ (6 * L.length * e) < 10 ^ 4300 := Nat.pow_lt_pow_right (by omega) (by omega)
    exact Nat.lt_of_le_of_lt (Nat.le_trans h3 h5) h7
  · have := (pfs_mem (N := 1000000) (fun x hx => (hr x hx).2) hp).1
    omega
  · have := (pfs_mem (N := 1000000) (fun x hx => (hr x hx).2) ((h2 p).mp hp)).1
    omega
/-! ### the law's own list of numbers -/
theorem first_in {L : List Nat} {n : Nat} (h : n ∈ L) : ∃ j, (ofN L)[j]? = some (n : Int) ∧ (∀ m, m < j → (ofN L)[m]? ≠ some (n : Int)) ∧ (ofN L).eraseIdx j = ofN (L.eraseIdx j) ∧ L.Perm (n :: L.eraseIdx j) := by
  induction L with
  | nil => cases h
  | cons a L ih =>
    by_cases c : a = n
    · subst c
      exact ⟨0, rfl, fun m hm => by omega, rfl, List.Perm.refl _⟩
    · have h2 : n ∈ L := by
        rcases List.mem_cons.mp h with e | e
        · exact absurd e.symm c
        · exact e
      obtain ⟨j, h3, h4, h5, h6⟩ := ih h2
      refine ⟨j + 1, h3, fun m hm => ?_, ?_, ?_⟩
      · cases m with
        | zero =>
          intro z
          have : (a : Int) = (n : Int) := Option.some.inj z
          omega
        | succ m => exact h4 m (by omega)
      · show (a : Int) :: (ofN L).eraseIdx j = (a : Int) :: ofN (L.eraseIdx j)
        rw [h5]
      · show (a :: L).Perm (n :: a :: L.eraseIdx j)
        exact (h6.cons a).trans (List.Perm.swap n a _)
/-- a sorted row of whole numbers, as it was -/
theorem perm_ofN {zs : List Int} {L : List Nat} (h : zs.Perm (ofN L)) : ∃ L' : List Nat, zs = ofN L' ∧ L'.Perm L := by
  refine ⟨zs.map Int.toNat, ?_, ?_⟩
  · unfold ofN
    rw [List.map_map]
    have : ∀ z ∈ zs, ((fun n : Nat => (n : Int)) ∘ Int.toNat) z = z := fun z hz => by
      have hm := h.mem_iff.mp hz
      unfold ofN at hm
      obtain ⟨n, _, rfl⟩ := List.mem_map.mp hm
      rfl
    conv => lhs; rw [← List.map_id zs]
    exact List.map_congr_left fun z hz => (this z hz).symm
  · have h2 := h.map Int.toNat
    have e : (ofN L).map Int.toNat = L := by
      unfold ofN
      rw [List.map_map]
      have : (Int.toNat ∘ fun n : Nat => (n : Int)) = id := by
        funext n
        rfl
      rw [this, List.map_id]
    rwa [e] at h2
theorem come_line (n : Nat) : Str.empty ++ "come " ++ Str.ofString (toString (n : Int)) = ln2 "come" n := by
  rw [empty_app]
  show ("come " : PySem.Str) ++ sN n = _
  rw [show ("come " : PySem.Str) = "come" ++ " " from str_ext (by decide +kernel)]
  rfl
theorem go_line (n : Nat) : Str.empty ++ "go " ++ Str.ofString (toString (n : Int)) = ln2 "go" n := by
  rw [empty_app]
  show ("go " : PySem.Str) ++ sN n = _
  rw [show ("go " : PySem.Str) = "go" ++ " " from str_ext (by decide +kernel)]
  rfl
theorem lacks_line (n : Nat) : Str.empty ++ "lacks " ++ Str.ofString (toString (n : Int)) = ln2 "lacks" n := by
  rw [empty_app]
  show ("lacks " : PySem.Str) ++ sN n = _
  rw [show ("lacks " : PySem.Str) = "lacks" ++ " " from str_ext (by decide +kernel)]
  rfl
theorem dvd_step2 {f : Nat → Nat} {ks : List Nat} {i m r : Nat} (h : ∀ d, d ∣ r ↔ ∀ p ∈ ks.take i, d ∣ f p) (hm : ks[i]? = some m) : ∀ d, d ∣ Nat.gcd (f m) r ↔ ∀ p ∈ ks.take (i + 1), d ∣ f p := by
  intro d
  rw [Nat.dvd_gcd_iff, h d, List.take_add_one, hm]
  constructor
  · rintro ⟨h2, h1⟩ p hp
    rcases List.mem_append.mp hp with c | c
    · exact h1 p c
    · simp at c
      exact c ▸ h2
  · intro h1
    exact ⟨h1 m (List.mem_append_right _ (by simp)), fun p hp => h1 p (List.mem_append_left _ hp)⟩
theorem pfs_take {L : List Nat} {i m : Nat} (h : L[i]? = some m) : pfs (L.take (i + 1)) = pfs (L.take i) ++ pf m := by
  rw [List.take_add_one, h, Option.toList_some, pfs_append, pfs_one]
theorem power_line (n : Nat) : Str.empty ++ "power " ++ Str.ofString (toString (n : Int)) = "power " ++ sN n := by
  rw [empty_app]
  rfl
theorem Held.same {H H' : Hp} {h ln : Addr} {xs : List Addr} (q : Held H h ln xs) (s : Same H H') : Held H' h ln xs := ⟨s _ _ q.at_, fun x hx => by
  obtain ⟨t, d, ys, h1, h2, h3, h4⟩ := q.all x hx
  exact ⟨t, d, ys, s _ _ h1, s _ _ h2, s _ _ h3, h4⟩, q.ne⟩
/-- one pair more is held -/
theorem Held.snoc {H : Hp} {h ln u t d : Addr} {xs : List Addr} {ys : List PySem.Str} (q : Held H h ln xs) (hu : H u = some (.tup [.ref t, .ref d])) (ht : H t = some (.lst (ys.map V.str))) (hd : H d = some (.lst (ys.map V.str))) (ho : Oks ys) (n1 : t ≠ ln) (n2 : d ≠ ln) (n3 : t ≠ h) (n4 : d ≠ h) :
    Held (upd H h (.lst (xs.map V.ref ++ [.ref u]))) h ln (xs ++ [u]) := by
  refine ⟨by rw [upd_same]; simp, fun x hx => ?_, q.ne⟩
  rcases List.mem_append.mp hx with c | c
  · obtain ⟨t2, d2, zs, h1, h2, h3, h4, h5, h6⟩ := q.all x c
    have no : ∀ v : Addr, H v = some (.lst (zs.map V.str)) → v ≠ h := fun v hv => ne_of hv q.at_ fun e => by
      injection e with e
      cases xs with
      | nil => cases c
      | cons y xs =>
        cases zs with
        | nil => cases e
        | cons z zs =>
          rw [List.map_cons, List.map_cons] at e
          injection e with e
          cases e
    exact ⟨t2, d2, zs, (upd_ne (ne_of h1 q.at_ fun e => by cases e)).trans h1, (upd_ne (no _ h2)).trans h2, (upd_ne (no _ h3)).trans h3, h4, h5, h6⟩
  · rw [List.mem_singleton] at c
    subst c
    exact ⟨t, d, ys, (upd_ne (ne_of hu q.at_ fun e => by cases e)).trans hu, (upd_ne n3).trans ht, (upd_ne n4).trans hd, ho, n1, n2⟩
end Pn
namespace Pn
open PySem PySem.Spec PyProof.Rows L2
local macro_rules | `(tactic| walk_at "w") => `(tactic| try simp only [w_var, w_c, w_op, w_I0, w_I, w_un, w_U, w_eq, w_ne, w_test, w_B, w_and, w_or, w_not, w_andV, w_orV, w_notV, w_ife, w_nil, w_cons, w_fn, w_cb, w_tup, w_lst, w_seq, w_next, w_brk, w_ct, w_drop, w_ret, w_retN, w_ifS, w_asgN, w_asgT, w_asgS, w_gName, w_gNil, w_gCons, w_par, w_aug, w_ipI, w_sl, w_np, w_part, w_bm, w_bm0, w_cxK, w_bits, w_forL, w_forT, w_for1, w_for2, w_for3, w_lc3, w_lcL, w_lcT, w_lc1, w_lc2, w_yes, w_tru, wipe, scal,
   L2.start, List.map_cons, List.map_nil, List.length_cons, List.length_nil, List.replicate, List.cons_append, List.nil_append, Nat.reduceAdd, Nat.reduceSub, Nat.zero_add,
   List.getElem?_cons_zero, List.getElem?_cons_succ, List.set_cons_zero, List.set_cons_succ, Option.some.injEq, V.int.injEq, V.bl.injEq, V.ref.injEq, V.str.injEq, exists_eq_left, exists_eq_left', exists_and_left, exists_and_right, exists_eq', exists_eq, and_assoc, and_true, true_and, decide_eq_true_eq, Bool.not_eq_true', decide_eq_false_iff_not, List.cons.injEq, if_true, if_false, Bool.true_eq_false, Bool.false_eq_true, ite_true, ite_false, reduceIte, reduceCtorEq, not_true_eq_false, not_false_eq_true, decide_true, decide_false, Bool.not_true, Bool.not_false, false_and, and_false, exists_false, false_or, or_false])
local macro_rules | `(tactic| walk_at "lk") => `(tactic| first | assumption | exact upd_same | exact Eq.trans (upd_ne (by walk_at "ne")) (by walk_at "lk"))
local macro_rules | `(tactic| walk_at "ne") => `(tactic| first | assumption | exact Ne.symm (by assumption) | exact ne_fresh (by assumption) (by walk_at "lk") | exact Ne.symm (ne_fresh (by assumption) (by walk_at "lk")))
local macro_rules | `(tactic| walk_at "sq") => `(tactic| first | assumption | exact SqL.of (by walk_at "lk"))
local macro_rules | `(tactic| walk_at "ix") => `(tactic| (refine r_ixL (by walk_at "sq") (by rfl) ?_; walk_at "w"))
local macro_rules | `(tactic| walk_at "st") => `(tactic| (refine r_setL (by walk_at "lk") (by rfl) ?_; walk_at "w"))
local macro_rules | `(tactic| walk_at "d") => `(tactic| (walk_at "w"; (try simp only [w_dget, w_dget2, w_dput, w_dnew, w_lv, w_augS, w_lockE, w_lcK, w_isB, w_notB]); walk_at "w"))
local macro_rules | `(tactic| walk_at "e") => `(tactic| (walk_at "d"; (try simp only [SetL.w_sortSet]); walk_at "d"))
local macro_rules | `(tactic| walk_at "f") => `(tactic| (walk_at "d"; (try simp only [TupE.w_lcTe, TupE.w_lcE]); walk_at "d"))
local macro_rules | `(tactic| walk_at "o1") => `(tactic| (try simp only [w_fld, w_sfld, w_mt, w_mk, w_forI, w_forV, w_frz, w_lcV, w_lockS, w_asgL, w_gSub, w_minV]))
local macro_rules | `(tactic| walk_at "o") => `(tactic| (walk_at "d"; walk_at "o1"; walk_at "d"; walk_at "o1"; walk_at "d"))
local macro_rules | `(tactic| walk_at "x1") => `(tactic| (try simp only [w_fnX, w_mtX, w_bmF, w_m1, w_mkV, w_strE, w_raise, w_xf, w_binit, w_ost, w_tryK, w_keep]))
local macro_rules | `(tactic| walk_at "x") => `(tactic| (walk_at "o"; walk_at "x1"; walk_at "o"; walk_at "x1"; walk_at "o"))
local macro_rules | `(tactic| walk_at "y1") => `(tactic| (try simp only [w_gt, w_fmtN, w_js2, w_lcS, w_m1]))
local macro_rules | `(tactic| walk_at "y") => `(tactic| (walk_at "o"; walk_at "y1"; walk_at "o"; walk_at "y1"; walk_at "o"))
local macro_rules | `(tactic| walk_at "z") => `(tactic| (walk_at "y"; (try simp only [w_forK]); walk_at "y"))
def top (i : Nat) : Stmt := PySem.Challenge.pw_powernumbers_k28_desk_products.main.body.getD i (.Pass ⟨0, 0, 0, 0⟩)
structure Bt (mg : PySem.Str → Option Value) : Prop where
  range : mg "range" = none
  len : mg "len" = none
  sum : mg "sum" = none
  min : mg "min" = none
  max : mg "max" = none
  abs : mg "abs" = none
  sorted : mg "sorted" = none
  isinstance : mg "isinstance" = none
  enumerate : mg "enumerate" = none
  zip : mg "zip" = none
  int : mg "int" = none
  bool : mg "bool" = none
  str : mg "str" = none
  list : mg "list" = none
  tuple : mg "tuple" = none
  dict : mg "dict" = none
  set : mg "set" = none
  ValueError : mg "ValueError" = none
abbrev s_taken : Stmt := top 17
theorem sc_taken : FnScope ["base", "exponent", "found"] ["base", "exponent"] (defScope s_taken) := ⟨rfl, rfl, rfl, by decide +kernel, rfl, by decide +kernel, by decide +kernel⟩
def sp_taken (K : PySem.W.Frag) : Sp := fun vs H Q _ => ∃ (b e a : Nat), vs = [.int (b : Int), .int (e : Int)] ∧ (b < 2 ^ a ∨ e = 0) ∧ a * e ≤ 300000 ∧ Q (.int ((b ^ e : Nat) : Int)) H
section
variable {P : Program} {w : World} {K : PySem.W.Frag} {mg : PySem.Str → Option Value} {base : Heap}
theorem bi_taken {f : Addr} {fd : FuncData} (F : Fun K "taken" "taken" s_taken f fd) : Binds K fd ["base", "exponent"] [] := F.binds (ps := ["base", "exponent"]) fun _ _ _ _ _ _ us hl => match us, hl with | [_, _], _ => rfl
set_option maxHeartbeats 4000000 in
theorem ok_taken {f : Addr} {fd : FuncData} (F : Fun K "taken" "taken" s_taken f fd) (B : Bt mg)   : FnOk P w K mg base CX0 1 f fd ["base", "exponent"] (sp_taken K) := by
  refine F.ok sc_taken (fun vs H Q E h => ?_) (fun cdv A outer s H vs Q E hr h => ?_)
  · obtain ⟨b, e, a, rfl, hb, ha, q⟩ := h
    rfl
  · obtain ⟨b, e, a, rfl, hb, ha, q⟩ := h
    refine ⟨_, (pss_cons (ps_set (i := 2) sc_taken.nd rfl (Or.inl rfl) pe_int)
      (pss_cons (ps_while PassesOwn.never (pt_cmpR op_gt (pv 1) pe_int (nomark _))
        (pss_cons (ps_if (pt_cmpR op_eq (pe_op op_mod (pv 1) pe_int) pe_int (nomark _))
          (pss_one (ps_set (i := 2) sc_taken.nd rfl (Or.inl rfl) (pe_op op_mulW (pv 2) (pv 0))))
          pss_nil)
        (pss_cons (ps_set (i := 0) sc_taken.nd rfl (Or.inl rfl) (pe_op op_mulW (pv 0) (pv 0)))
        (pss_one (ps_set (i := 1) sc_taken.nd rfl (Or.inl rfl) (pe_op op_fdiv (pv 1) pe_int))))))
      (pss_one (ps_ret (pv 2))))), ?_⟩
    walk_at "w"
    have hX : b ^ e ≤ 2 ^ (a * e) := by
      rcases hb with hb | rfl
      · rw [Nat.pow_mul]
        exact Nat.pow_le_pow_left (by omega) e
      · simp
    refine while_m (fun m σ H' => ∃ f b' e' : Nat, σ = [some (.int b'), some (.int e'), some (.int f)] ∧ H' = H ∧ e' = m ∧ f * b' ^ e' = b ^ e ∧ f ≤ 2 ^ (a * e) ∧ (0 < e' → b' ≤ 2 ^ (a * e)) ∧ (f = 0 → b' = 0)) e ?_ ?_
    · refine ⟨1, b, e, rfl, rfl, rfl, by simp, Nat.one_le_two_pow, fun he => ?_, by omega⟩
      exact Nat.le_trans (Nat.le_self_pow (by omega) b) hX
    · rintro m σ H' ⟨f, b', e', rfl, rfl, rfl, h1, h2, h3, h4⟩ G hG
      walk_at "w"
      refine ite2 (fun hc => hG _ _ fun N hN => ?_) (fun hc => ?_)
      · have he : 0 < e' := by omega
        have hl1 := log2_le_of_le h2
        have hl2 := log2_le_of_le (h3 he)
        walk_at "w"
        refine ⟨by decide, ite2 (fun ho => ?_) (fun ho => ?_)⟩
        · have ho' : e' % 2 = 1 := by omega
          refine ⟨cmulN (by omega), cmulN (by omega), by unfold CDiv; omega, hN (e' / 2) _ _ (by omega) ⟨f * b', b' * b', e' / 2, by simp, rfl, rfl, tk_step1 h1 ho', tk_odd h1 hX he, fun h0 => ?_, fun h0 => ?_⟩⟩
          · rcases Nat.eq_zero_or_pos f with hf | hf
            · simp [h4 hf]
            · exact tk_sq h1 hX (by omega) h4
          · rcases Nat.mul_eq_zero.mp h0 with hf | hf
            · simp [h4 hf]
            · simp [hf]
        · have ho' : e' % 2 = 0 := by omega
          refine ⟨cmulN (by omega), by unfold CDiv; omega, hN (e' / 2) _ _ (by omega) ⟨f, b' * b', e' / 2, by simp, rfl, rfl, tk_step0 h1 ho', h2, fun h0 => tk_sq h1 hX (by omega) h4, fun h0 => by simp [h4 h0]⟩⟩
      · have he : e' = 0 := by omega
        subst he
        rw [Nat.pow_zero, Nat.mul_one] at h1
        rw [h1]
        exact q
end
abbrev s_primes_in_kept : Stmt := top 35
theorem sc_primes_in_kept : FnScope ["number", "found", "prime"] ["number"] (defScope s_primes_in_kept) := ⟨rfl, rfl, rfl, by decide +kernel, rfl, by decide +kernel, by decide +kernel⟩
def sp_primes_in_kept (K : PySem.W.Frag) : Sp := fun vs H Q _ => ∃ (n : Nat), vs = [.int (n : Int)] ∧ 1 ≤ n ∧ n ≤ 1000000 ∧ ∀ (p : Addr) (ks : List Nat) (H' : Hp), H p = none → Same H H' → CD H' p (pf n) ks → (∀ x ∈ ks, x ∈ pf n) → Q (.ref p) H'
section
variable {P : Program} {w : World} {K : PySem.W.Frag} {mg : PySem.Str → Option Value} {base : Heap}
theorem bi_primes_in_kept {f : Addr} {fd : FuncData} (F : Fun K "primes_in" "primes_in" s_primes_in_kept f fd) : Binds K fd ["number"] [] := F.binds (ps := ["number"]) fun _ _ _ _ _ _ us hl => match us, hl with | [_], _ => rfl
set_option maxHeartbeats 4000000 in
theorem ok_primes_in_kept {f : Addr} {fd : FuncData} (F : Fun K "primes_in" "primes_in" s_primes_in_kept f fd) (B : Bt mg)   : FnOk P w K mg base CX0 1 f fd ["number"] (sp_primes_in_kept K) := by
  refine F.ok sc_primes_in_kept (fun vs H Q E h => ?_) (fun cdv A outer s H vs Q E hr h => ?_)
  · obtain ⟨n, rfl, hn1, hn, q⟩ := h
    rfl
  · obtain ⟨n, rfl, hn1, hn, q⟩ := h
    refine ⟨_, (pss_cons (ps_set (i := 1) sc_primes_in_kept.nd rfl (Or.inl rfl) pe_dnewK)
      (pss_cons (ps_set (i := 2) sc_primes_in_kept.nd rfl (Or.inl rfl) pe_int)
      (pss_cons (ps_while PassesOwn.never (pt_cmpR op_le (pe_op op_mulW (pv 2) (pv 2)) (pv 0) (nomark _))
        (pss_cons (ps_while PassesOwn.never (pt_cmpR op_eq (pe_op op_mod (pv 0) (pv 2)) pe_int (nomark _))
          (pss_cons (ps_dput (hu_of hr) (pv 1) (pv 2) (pe_op op_add (pe_dget2 (hu_of hr) (pv 1) (pv 2) pe_int (by constructor <;> rfl)) pe_int) rfl)
          (pss_one (ps_set (i := 0) sc_primes_in_kept.nd rfl (Or.inl rfl) (pe_op op_fdivW (pv 0) (pv 2))))))
        (pss_one (ps_set (i := 2) sc_primes_in_kept.nd rfl (Or.inl rfl) (pe_op op_add (pv 2) pe_int)))))
      (pss_cons (ps_if (pt_cmpR op_gt (pv 0) pe_int (nomark _))
        (pss_one (ps_dput (hu_of hr) (pv 1) (pv 0) (pe_op op_add (pe_dget2 (hu_of hr) (pv 1) (pv 0) pe_int (by constructor <;> rfl)) pe_int) rfl))
        pss_nil)
      (pss_one (ps_ret (pv 1))))))), ?_⟩
    walk_at "d"
    intro p hp
    refine while_m (fun z σ H' => ∃ (m d : Nat) (l ks : List Nat), σ = [some (.int (m : Int)), some (.ref p), some (.int (d : Int))] ∧ 2000000 - d = z ∧ 2 ≤ d ∧ d ≤ n + 2 ∧ 1 ≤ m ∧ m ≤ n ∧ Low d m ∧ l ++ pfT d m = pf n ∧ Same H H' ∧ CD H' p l ks ∧ ∀ x ∈ ks, x ∈ l) 1999998 ⟨n, 2, [], [], rfl, rfl, by omega, by omega, hn1, Nat.le_refl _, low_2 n, rfl, same_new hp, ⟨upd_same, List.nodup_nil, fun x hx => (by cases hx), fun x hx => (by cases hx)⟩, fun x hx => (by cases hx)⟩ ?_
    rintro z σ H1 ⟨m, d, l, ks, rfl, rfl, hd, hdn, hm, hmn, hlow, hl, s1, hc, hk⟩ G hG
    have cm : CMulW (d : Int) (d : Int) := wide_mul (a := 64) (b := 64) (by omega) (by omega) (by decide) (by decide) (by decide)
    have e1 : (d : Int) * (d : Int) = ((d * d : Nat) : Int) := by push_cast; rfl
    walk_at "d"
    rw [e1]
    refine ⟨cm, ite2 (fun hw => hG _ _ fun N hN => ?_) (fun hw => ?_)⟩
    · have hdm : d ≤ m := Nat.le_trans (Nat.le_mul_of_pos_left d (by omega)) (by omega : d * d ≤ m)
      refine while_m (fun z σ H' => ∃ (m' : Nat) (l ks : List Nat), σ = [some (.int (m' : Int)), some (.ref p), some (.int (d : Int))] ∧ m' = z ∧ 1 ≤ m' ∧ m' ≤ m ∧ Low d m' ∧ l ++ pfT d m' = pf n ∧ Same H H' ∧ CD H' p l ks ∧ ∀ x ∈ ks, x ∈ l) m ⟨m, l, ks, rfl, rfl, hm, Nat.le_refl _, hlow, hl, s1, hc, hk⟩ ?_
      rintro z σ H2 ⟨m2, l2, ks2, rfl, rfl, hm2, hm2n, hlow2, hl2, s2, hc2, hk2⟩ G2 hG2
      walk_at "d"
      refine ⟨by omega, ite2 (fun hw2 => hG2 _ _ fun N2 hN2 => ?_) (fun hw2 => ?_)⟩
      · have hdv : d ∣ m2 := Nat.dvd_of_mod_eq_zero (by omega)
        have hlt : m2 / d < m2 := Nat.div_lt_self (by omega) (by omega)
        have hge : 1 ≤ m2 / d := Nat.div_pos (Nat.le_of_dvd hm2 hdv) (by omega)
        have e2 : (m2 : Int) / (d : Int) = ((m2 / d : Nat) : Int) := by push_cast; rfl
        obtain ⟨o, hg, ho⟩ := hc2.get (m := d)
        obtain ⟨H3, ks3, hput, hH3, hc3, hk3⟩ := hc2.put (m := d) hd (by omega)
        walk_at "d"
        walk_at "d"
        refine ⟨hc2.isD, o, hg, _, ho, H3, hput, ?_⟩
        rw [e2]
        have s3 : Same H H3 := by
          rw [hH3]
          exact sm_new s2 hp
        refine ⟨wide_div (b := 64) (by omega) (by omega) (by decide) (by decide), hN2 _ _ _ hlt ⟨m2 / d, l2 ++ [d], ks3, rfl, rfl, hge, by omega, low_div hlow2 hdv, ?_, s3, hc3, fun x hx => ?_⟩⟩
        · rw [List.append_assoc, List.singleton_append, ← pfT_dvd hd hm2 hlow2 hdv, hl2]
        · rw [List.mem_append]
          rcases (hk3 x).mp hx with c | c
          · exact .inl (hk2 x c)
          · exact .inr (by simp [c])
      · have hnd : ¬ d ∣ m2 := fun z => hw2 (by have := Nat.mod_eq_zero_of_dvd z; omega)
        have e3 : (d : Int) + 1 = ((d + 1 : Nat) : Int) := by omega
        walk_at "d"
        rw [e3]
        exact hN _ _ _ (by omega) ⟨m2, d + 1, l2, ks2, rfl, rfl, by omega, by omega, hm2, by omega, low_up hlow2 hnd, by rw [← pfT_up hd hnd]; exact hl2, s2, hc2, hk2⟩
    · have hmd : m < d * d := by omega
      walk_at "d"
      refine ite2 (fun h1 => ?_) (fun h1 => ?_)
      · rw [pfT_big hd (by omega) hmd] at hl
        obtain ⟨o, hg, ho⟩ := hc.get (m := m)
        obtain ⟨H3, ks3, hput, hH3, hc3, hk3⟩ := hc.put (m := m) (by omega) (by omega)
        walk_at "d"
        walk_at "d"
        refine ⟨hc.isD, o, hg, _, ho, H3, hput, ?_⟩
        rw [hl] at hc3
        refine q p ks3 H3 hp (by rw [hH3]; exact sm_new s1 hp) hc3 fun x hx => ?_
        rw [← hl, List.mem_append]
        rcases (hk3 x).mp hx with c | c
        · exact .inl (hk x c)
        · exact .inr (by simp [c])
      · rw [pfT_one (by omega), List.append_nil] at hl
        subst hl
        walk_at "d"
        exact q p ks H1 hp s1 hc hk
end
abbrev s_common_divisor : Stmt := top 37
theorem sc_common_divisor : FnScope ["one", "other"] ["one", "other"] (defScope s_common_divisor) := ⟨rfl, rfl, rfl, by decide +kernel, rfl, by decide +kernel, by decide +kernel⟩
def sp_common_divisor (K : PySem.W.Frag) : Sp := fun vs H Q _ => ∃ (a b : Nat), vs = [.int (a : Int), .int (b : Int)] ∧ Q (.int ((Nat.gcd a b : Nat) : Int)) H
section
variable {P : Program} {w : World} {K : PySem.W.Frag} {mg : PySem.Str → Option Value} {base : Heap}
theorem bi_common_divisor {f : Addr} {fd : FuncData} (F : Fun K "common_divisor" "common_divisor" s_common_divisor f fd) : Binds K fd ["one", "other"] [] := F.binds (ps := ["one", "other"]) fun _ _ _ _ _ _ us hl => match us, hl with | [_, _], _ => rfl
set_option maxHeartbeats 4000000 in
theorem ok_common_divisor {f : Addr} {fd : FuncData} (F : Fun K "common_divisor" "common_divisor" s_common_divisor f fd) (B : Bt mg)   : FnOk P w K mg base CX0 1 f fd ["one", "other"] (sp_common_divisor K) := by
  refine F.ok sc_common_divisor (fun vs H Q E h => ?_) (fun cdv A outer s H vs Q E hr h => ?_)
  · obtain ⟨a, b, rfl, q⟩ := h
    rfl
  · obtain ⟨a, b, rfl, q⟩ := h
    refine ⟨_, (pss_cons (ps_while PassesOwn.never (pt_cmpR op_gt (pv 1) pe_int (nomark _))
        (pss_one (ps_par (i := 0) (j := 1) (by rfl) sc_common_divisor.nd rfl rfl (by decide) rfl rfl (pa_cons (pv 1) (pa_cons (pe_op op_mod (pv 0) (pv 1)) pa_nil)) (by rfl))))
      (pss_one (ps_ret (pv 0)))), ?_⟩
    walk_at "w"
    refine while_m (fun z σ H' => ∃ (x y : Nat), σ = [some (.int (x : Int)), some (.int (y : Int))] ∧ H' = H ∧ y = z ∧ Nat.gcd x y = Nat.gcd a b) b ⟨a, b, rfl, rfl, rfl, rfl⟩ ?_
    rintro z σ H' ⟨x, y, rfl, rfl, rfl, hg⟩ G hG
    walk_at "w"
    refine ite2 (fun hw => hG _ _ fun N hN => ?_) (fun hw => ?_)
    · have e1 : (x : Int) % (y : Int) = ((x % y : Nat) : Int) := by push_cast; rfl
      walk_at "w"
      rw [e1]
      have hlt : x % y < y := Nat.mod_lt _ (by omega)
      refine ⟨by omega, hN _ _ _ hlt ⟨y, x % y, rfl, rfl, rfl, ?_⟩⟩
      rw [Nat.gcd_comm y, ← Nat.gcd_rec, Nat.gcd_comm, hg]
    · have e0 : y = 0 := by omega
      subst e0
      rw [Nat.gcd_zero_right] at hg
      walk_at "w"
      rw [hg]
      exact q
end
abbrev s_KeptProduct___init__ : Stmt := inClass (top 38) 0
theorem sc_KeptProduct___init__ : FnScope ["self"] ["self"] (defScope s_KeptProduct___init__) := ⟨rfl, rfl, rfl, by decide +kernel, rfl, by decide +kernel, by decide +kernel⟩
def sp_KeptProduct___init__ (K : PySem.W.Frag) : Sp := fun vs H Q _ => ∃ (p C dx : Addr), vs = [.ref p] ∧ KCl K "KeptProduct" ["numbers", "often"] C ∧ H p = some (.ins C dx []) ∧ ∀ (ln lo : Addr) (H' : Hp), H ln = none → H lo = none → KP K H' p ln lo [] → (∀ b o, b ≠ p → H b = some o → H' b = some o) → Q .non H'
section
variable {P : Program} {w : World} {K : PySem.W.Frag} {mg : PySem.Str → Option Value} {base : Heap}
theorem bi_KeptProduct___init__ {f : Addr} {fd : FuncData} (F : Fun K "__init__" "KeptProduct.__init__" s_KeptProduct___init__ f fd) : Binds K fd ["self"] [] := F.binds (ps := ["self"]) fun _ _ _ _ _ _ us hl => match us, hl with | [_], _ => rfl
set_option maxHeartbeats 4000000 in
theorem ok_KeptProduct___init__ {f : Addr} {fd : FuncData} (F : Fun K "__init__" "KeptProduct.__init__" s_KeptProduct___init__ f fd) (B : Bt mg)   : FnOk P w K mg base CX0 1 f fd ["self"] (sp_KeptProduct___init__ K) := by
  refine F.ok sc_KeptProduct___init__ (fun vs H Q E h => ?_) (fun cdv A outer s H vs Q E hr h => ?_)
  · obtain ⟨p, C, dx, rfl, hC, hp, q⟩ := h
    rfl
  · obtain ⟨p, C, dx, rfl, hC, hp, q⟩ := h
    refine ⟨_, (pss_cons (ps_fld (pv 0) (pe_lst pa_nil) rfl)
      (pss_one (ps_fld (pv 0) pe_dnewK rfl))), ?_⟩
    walk_at "d"
    simp only [w_sfld]
    walk_at "d"
    refine ⟨Nat.zero_le _, fun ln hln => ?_⟩
    have n1 : p ≠ ln := ne_of_none hp hln
    refine ⟨p, C, dx, [], rfl, (upd_ne n1).trans hp, hC.cl, hC.no _ (by simp), by show 0 < 1000; decide, ?_⟩
    intro lo hlo
    have n2 : p ≠ lo := ne_of_none upd_same hlo
    have n3 : ln ≠ lo := ne_of_none ((upd_ne n1.symm).trans upd_same) hlo
    refine ⟨p, C, dx, _, rfl, (upd_ne n2).trans upd_same, hC.cl, hC.no _ (by simp), by show 1 < 1000; decide, ?_⟩
    have hlo2 : H lo = none := upd_free (upd_free hlo)
    refine q ln lo _ hln hlo2 ⟨⟨C, dx, hC, upd_same⟩, ?_, ⟨[], ?_, List.nodup_nil, fun x hx => (by cases hx), fun x hx => (by cases hx)⟩, fun x hx => (by cases hx)⟩ fun b o hb h => ?_
    · rw [upd_ne n1.symm, upd_ne n3, upd_ne n1.symm, upd_same]
      rfl
    · rw [upd_ne n2.symm, upd_same]
      rfl
    · rw [upd_ne hb, upd_ne (ne_of_none h hlo2), upd_ne hb, upd_ne (ne_of_none h hln)]
      exact h
end
abbrev s_KeptProduct_put_primes : Stmt := inClass (top 38) 1
theorem sc_KeptProduct_put_primes : FnScope ["self", "number", "sign", "prime", "many"] ["self", "number", "sign"] (defScope s_KeptProduct_put_primes) := ⟨rfl, rfl, rfl, by decide +kernel, rfl, by decide +kernel, by decide +kernel⟩
def sp_KeptProduct_put_primes (K : PySem.W.Frag) : Sp := fun vs H Q _ => ∃ (p ln lo : Addr) (n : Nat) (s : Int) (l l' ks : List Nat), vs = [.ref p, .int (n : Int), .int s] ∧ 1 ≤ n ∧ n ≤ 1000000 ∧ KO K H p ln lo ∧ CD H lo l ks ∧ (s = 1 ∧ (∀ x, l'.count x = l.count x + (pf n).count x) ∨ s = -1 ∧ ∀ x, l.count x = l'.count x + (pf n).count x) ∧ ∀ (H' : Hp) (ks' : List Nat), Kp lo H H' → CD H' lo l' ks' → Q .non H'
def gAt (l ks1 c : List Nat) (s : Int) (i k : Nat) : Int := (l.count k : Int) + s * (if k ∈ ks1.take i then (c.count k : Int) else 0)
theorem mem_take_succ {ks : List Nat} {i m k : Nat} (h : ks[i]? = some m) : k ∈ ks.take (i + 1) ↔ k ∈ ks.take i ∨ k = m := by
  rw [List.take_add_one, h]
  simp
theorem not_take {ks : List Nat} {i m : Nat} (h : ks[i]? = some m) (hn : ks.Nodup) : m ∉ ks.take i := fun z => by
  have e : ks = ks.take i ++ ks.drop i := (List.take_append_drop i ks).symm
  rw [e, List.nodup_append] at hn
  have h2 : m ∈ ks.drop i := by
    rw [List.mem_iff_getElem?]
    exact ⟨0, by rw [List.getElem?_drop]; exact h⟩
  exact hn.2.2 m z m h2 rfl
theorem gAt_set (l ks1 c : List Nat) (s : Int) {i m : Nat} (h : ks1[i]? = some m) (hn : ks1.Nodup) : (fun k => if k = m then V.int (gAt l ks1 c s i m + s * (c.count m : Int)) else V.int (gAt l ks1 c s i k)) = fun k => V.int (gAt l ks1 c s (i + 1) k) := by
  funext k
  have hno := not_take h hn
  by_cases e : k = m
  · subst e
    rw [if_pos rfl]
    unfold gAt
    rw [if_neg hno, if_pos ((mem_take_succ h).mpr (.inr rfl))]
    congr 1
    omega
  · rw [if_neg e]
    unfold gAt
    by_cases c2 : k ∈ ks1.take i
    · rw [if_pos c2, if_pos ((mem_take_succ h).mpr (.inl c2))]
    · rw [if_neg c2, if_neg fun z => ((mem_take_succ h).mp z).elim c2 e]
section
variable {P : Program} {w : World} {K : PySem.W.Frag} {mg : PySem.Str → Option Value} {base : Heap}
theorem bi_KeptProduct_put_primes {f : Addr} {fd : FuncData} (F : Fun K "put_primes" "KeptProduct.put_primes" s_KeptProduct_put_primes f fd) : Binds K fd ["self", "number", "sign"] [] := F.binds (ps := ["self", "number", "sign"]) fun _ _ _ _ _ _ us hl => match us, hl with | [_, _, _], _ => rfl
set_option maxHeartbeats 4000000 in
theorem ok_KeptProduct_put_primes {f : Addr} {fd : FuncData} (F : Fun K "put_primes" "KeptProduct.put_primes" s_KeptProduct_put_primes f fd) (B : Bt mg)  (h_primes_in_kept : Fn P w K mg base CX0 1 "primes_in_kept" ["number"] (sp_primes_in_kept K)) : FnOk P w K mg base CX0 2 f fd ["self", "number", "sign"] (sp_KeptProduct_put_primes K) := by
  refine F.ok sc_KeptProduct_put_primes (fun vs H Q E h => ?_) (fun cdv A outer s H vs Q E hr h => ?_)
  · obtain ⟨p, ln, lo, n, s0, l, l', ks, rfl, hn1, hn, hO, hc, hs, q⟩ := h
    rfl
  · obtain ⟨p, ln, lo, n, s0, l, l', ks, rfl, hn1, hn, hO, hc, hs, q⟩ := h
    refine ⟨_, (pss_one (ps_for PassesOwn.never rfl (pi_items (pe_frz (pe_fn h_primes_in_kept (hr.mono (by decide)) (by rfl) (pa_cons (pv 1) pa_nil)))) (pg_tup rfl (pgs_cons (pg_name (i := 3) sc_KeptProduct_put_primes.nd rfl (Or.inl rfl)) (pgs_cons (pg_name (i := 4) sc_KeptProduct_put_primes.nd rfl (Or.inl rfl)) pgs_nil)))
        (pss_one (ps_dput (hu_of hr) (k_fld K (pv 0) rfl) (pv 3) (pe_op op_add (pe_dget2 (hu_of hr) (k_fld K (pv 0) rfl) (pv 3) pe_int (by constructor <;> rfl)) (pe_op op_mulW (pv 2) (pv 4))) rfl)))), ?_⟩
    walk_at "o"
    refine ⟨n, rfl, hn1, hn, fun t ks1 H1 ht s1 hc1 hk1 => ?_⟩
    refine ⟨t, rfl, _, hc1.at_, fun od => ?_⟩
    have nlo : lo ≠ t := ne_of_none hc.at_ ht
    have fz : upd H1 t (.frz od (.dK (dN ks1 fun k => .int (((pf n).count k : Nat) : Int)))) t = some (.frz od (.dK (dN ks1 fun k => .int (((pf n).count k : Nat) : Int)))) := upd_same
    have s2 : Same H (upd H1 t (.frz od (.dK (dN ks1 fun k => .int (((pf n).count k : Nat) : Int))))) := sm_new s1 ht
    generalize upd H1 t (.frz od (.dK (dN ks1 fun k => .int (((pf n).count k : Nat) : Int)))) = H2 at fz s2 ⊢
    have hsg : s0 = 1 ∨ s0 = -1 := hs.elim (fun z => .inl z.1) fun z => .inr z.1
    refine ⟨od, _, fz, for_i (fun i σ H' => ∃ (v3 v4 : Option V) (ks' : List Nat), σ = [some (.ref p), some (.int (n : Int)), some (.int s0), v3, v4] ∧ Kp lo H2 H' ∧ H' lo = some (.dK (dN ks' fun k => .int (gAt l ks1 (pf n) s0 i k))) ∧ ks'.Nodup ∧ (∀ x ∈ l, x ∈ ks') ∧ (∀ x ∈ ks1.take i, x ∈ ks') ∧ ∀ x ∈ ks', 2 ≤ x ∧ x ≤ 1000000) ⟨_, _, ks, rfl, Kp.refl _ _, ?_, hc.nd, hc.all, fun x hx => by simp at hx, hc.rng⟩ ?_ ?_ ?_⟩
    · rw [s2 _ _ hc.at_]
      congr 3
      funext k
      unfold gAt
      simp
    · rintro i σ H' _ ⟨_, _, _, _, k', _⟩
      exact k' _ _ nlo.symm fz
    · rintro i m σ H' T hm hi ⟨v3, v4, ks', rfl, k', hd, nd, al, tk, rg⟩ hT N hN
      have nT : lo ≠ T := ne_of_none hd hT
      have hmem := hk1 m (List.mem_of_getElem? hm)
      have hr := pf_mem hmem
      have hd2 : upd H' T (.tup [.int (m : Int), .int (((pf n).count m : Nat) : Int)]) lo = _ := (upd_ne nT).trans hd
      have hT2 : upd H' T (.tup [.int (m : Int), .int (((pf n).count m : Nat) : Int)]) T = _ := upd_same
      have k2 : Kp lo H2 (upd H' T (.tup [.int (m : Int), .int (((pf n).count m : Nat) : Int)])) := k'.trans (sm_kp (same_new hT))
      generalize upd H' T (.tup [.int (m : Int), .int (((pf n).count m : Nat) : Int)]) = H3 at hd2 hT2 k2 ⊢
      have hO3 : KO K H3 p ln lo := by
        obtain ⟨C, dx, hC, hp⟩ := hO
        exact ⟨C, dx, hC, k2 _ _ (ne_of hp hc.at_ fun e => by cases e) (s2 _ _ hp)⟩
      have hcnt : (pf n).count m < 20 := Nat.lt_of_le_of_lt List.count_le_length (pf_len hn1 hn)
      have hg := dN_get (m := m) hd2
      have hgv : ((if m ∈ ks' then some (V.int (gAt l ks1 (pf n) s0 i m)) else none).getD (.int 0)) = .int (gAt l ks1 (pf n) s0 i m) := by
        by_cases c : m ∈ ks'
        · rw [if_pos c]
          rfl
        · rw [if_neg c]
          unfold gAt
          rw [if_neg (not_take hm hc1.nd), List.count_eq_zero_of_not_mem fun z => c (al m z)]
          simp
      have hput := dN_upd (m := m) (v := .int (gAt l ks1 (pf n) s0 i m + s0 * ((pf n).count m : Int))) hd2 (size_le (keys_len nd rg))
      rw [gAt_set l ks1 (pf n) s0 hm hc1.nd] at hput
      obtain ⟨g1, g2, g3⟩ := put_nodup (x := m) nd
      refine ⟨T, _, rfl, SqT.of hT2, rfl, ?_⟩
      walk_at "o"
      refine hO3.fldO ?_
      walk_at "o"
      refine ⟨.inl ⟨_, .inl hd2⟩, _, hg, wide_mul (a := 64) (b := 64) (by omega) (by omega) (by decide) (by decide) (by decide), _, hgv, hO3.fldO ?_⟩
      walk_at "d"
      refine ⟨_, hput, hN _ _ ⟨_, _, _, rfl, k2.upd, upd_same, g1, fun x hx => (g2 x).mpr (.inl (al x hx)), fun x hx => ?_, fun x hx => ?_⟩⟩
      · rw [g2]
        rcases (mem_take_succ hm).mp hx with c | c
        · exact .inl (tk x c)
        · exact .inr c
      · rcases (g2 x).mp hx with c | c
        · exact rg x c
        · omega
    · rintro σ H' ⟨v3, v4, ks', rfl, k', hd, nd, al, tk, rg⟩
      rw [List.take_length] at tk
      walk_at "d"
      have hcnt0 : ∀ k, k ∉ ks1 → (pf n).count k = 0 := fun k hk => List.count_eq_zero_of_not_mem fun z => hk (hc1.all k z)
      have eg : (fun k => V.int (gAt l ks1 (pf n) s0 ks1.length k)) = fun k => V.int ((l'.count k : Nat) : Int) := by
        funext k
        unfold gAt
        rw [List.take_length]
        congr 1
        have h0 := hcnt0 k
        rcases hs with ⟨rfl, hs⟩ | ⟨rfl, hs⟩
        · have := hs k
          by_cases c : k ∈ ks1
          · rw [if_pos c]
            omega
          · rw [if_neg c]
            have := h0 c
            omega
        · have := hs k
          by_cases c : k ∈ ks1
          · rw [if_pos c]
            omega
          · rw [if_neg c]
            have := h0 c
            omega
      rw [eg] at hd
      refine q H' ks' ((sm_kp s2).trans k') ⟨hd, nd, fun x hx => ?_, rg⟩
      have hx1 : 0 < l'.count x := List.count_pos_iff.mpr hx
      have hor : 0 < l.count x ∨ 0 < (pf n).count x := by
        rcases hs with ⟨_, hs⟩ | ⟨_, hs⟩
        · have := hs x
          omega
        · have := hs x
          omega
      rcases hor with c | c
      · exact al x (List.count_pos_iff.mp c)
      · exact tk x (hc1.all x (List.count_pos_iff.mp c))
end
abbrev s_KeptProduct_come : Stmt := inClass (top 38) 2
theorem sc_KeptProduct_come : FnScope ["self", "number"] ["self", "number"] (defScope s_KeptProduct_come) := ⟨rfl, rfl, rfl, by decide +kernel, rfl, by decide +kernel, by decide +kernel⟩
def sp_KeptProduct_come (K : PySem.W.Frag) : Sp := fun vs H Q _ => ∃ (p ln lo : Addr) (n : Nat) (L : List Nat), vs = [.ref p, .int (n : Int)] ∧ 1 ≤ n ∧ n ≤ 1000000 ∧ KP K H p ln lo L ∧ L.length ≤ 10000 ∧ ∀ H' : Hp, K2 ln lo H H' → KP K H' p ln lo (L ++ [n]) → Q .non H'
section
variable {P : Program} {w : World} {K : PySem.W.Frag} {mg : PySem.Str → Option Value} {base : Heap}
theorem bi_KeptProduct_come {f : Addr} {fd : FuncData} (F : Fun K "come" "KeptProduct.come" s_KeptProduct_come f fd) : Binds K fd ["self", "number"] [] := F.binds (ps := ["self", "number"]) fun _ _ _ _ _ _ us hl => match us, hl with | [_, _], _ => rfl
set_option maxHeartbeats 4000000 in
theorem ok_KeptProduct_come {f : Addr} {fd : FuncData} (F : Fun K "come" "KeptProduct.come" s_KeptProduct_come f fd) (B : Bt mg)  (h_KeptProduct_put_primes : FnM P w K mg base CX0 2 "KeptProduct" ["numbers", "often"] "put_primes" ["self", "number", "sign"] (sp_KeptProduct_put_primes K)) : FnOk P w K mg base CX0 3 f fd ["self", "number"] (sp_KeptProduct_come K) := by
  refine F.ok sc_KeptProduct_come (fun vs H Q E h => ?_) (fun cdv A outer s H vs Q E hr h => ?_)
  · obtain ⟨p, ln, lo, n, L, rfl, hn1, hn, hK, hlen, q⟩ := h
    rfl
  · obtain ⟨p, ln, lo, n, L, rfl, hn1, hn, hK, hlen, q⟩ := h
    refine ⟨_, (pss_cons (ps_if (pt_cmpR op_lt (pv 1) pe_int (nomark _))
        (pss_one ps_void)
        pss_nil)
      (pss_cons (ps_expr (pe_bm PySem.F.plainAttrs_list PySem.F.slot_list_append PySem.F.type_list_append mt_append (k_fld K (pv 0) rfl) (pa_cons (pv 1) pa_nil)))
      (pss_one (ps_expr (pe_mt (K := K) h_KeptProduct_put_primes (hr.mono (by decide)) (pv 0) (pa_cons (pv 1) (pa_cons pe_int pa_nil))))))), ?_⟩
    obtain ⟨n1, n2, n3⟩ := hK.ne
    obtain ⟨ks, hc⟩ := hK.cd
    walk_at "o"
    rw [if_neg (by omega)]
    walk_at "o"
    refine hK.ob.fldN ?_
    refine ⟨.inl ⟨rfl, _, SqL.of hK.ns⟩, r_app hK.ns (size_le (by rw [List.length_map, ofN_len]; omega)) ?_⟩
    have eL : (ofN L).map V.int ++ [V.int (n : Int)] = (ofN (L ++ [n])).map V.int := by simp [ofN]
    rw [eL]
    have hO := hK.ob.upd (o := .lst ((ofN (L ++ [n])).map V.int)) n1
    walk_at "o"
    refine ⟨hO.isO (by decide +kernel) (by decide +kernel), p, ln, lo, n, 1, pfs L, pfs (L ++ [n]), ks, rfl, hn1, hn, hO, hc.to (upd_ne n3.symm), .inl ⟨rfl, fun x => by rw [pfs_append, List.count_append, pfs_one]⟩, fun H' ks' k' hc' => ?_⟩
    walk_at "o"
    obtain ⟨C, dx, hC, hp⟩ := hO
    refine q H' ((K2.refl ln lo H).updA.trans fun c o _ h2 h => k' c o h2 h) ⟨⟨C, dx, hC, k' _ _ n2 hp⟩, k' _ _ n3 upd_same, ⟨ks', hc'⟩, fun x hx => ?_⟩
    rcases List.mem_append.mp hx with c | c
    · exact hK.rng x c
    · simp at c
      omega
end
abbrev s_KeptProduct_go : Stmt := inClass (top 38) 3
theorem sc_KeptProduct_go : FnScope ["self", "number"] ["self", "number"] (defScope s_KeptProduct_go) := ⟨rfl, rfl, rfl, by decide +kernel, rfl, by decide +kernel, by decide +kernel⟩
def sp_KeptProduct_go (K : PySem.W.Frag) : Sp := fun vs H Q _ => ∃ (p ln lo : Addr) (n : Nat) (L : List Nat), vs = [.ref p, .int (n : Int)] ∧ n ∈ L ∧ KP K H p ln lo L ∧ ∀ (H' : Hp) (L' : List Nat), K2 ln lo H H' → L.Perm (n :: L') → KP K H' p ln lo L' → Q .non H'
theorem first_at {L : List Nat} {n : Nat} (h : n ∈ L) : ∃ j, (ofN L)[j]? = some (n : Int) ∧ (∀ m, m < j → (ofN L)[m]? ≠ some (n : Int)) ∧ (ofN L).eraseIdx j = ofN (L.eraseIdx j) ∧ L.Perm (n :: L.eraseIdx j) := by
  induction L with
  | nil => cases h
  | cons a L ih =>
    by_cases c : a = n
    · subst c
      exact ⟨0, rfl, fun m hm => by omega, rfl, List.Perm.refl _⟩
    · have h2 : n ∈ L := by
        rcases List.mem_cons.mp h with e | e
        · exact absurd e.symm c
        · exact e
      obtain ⟨j, h3, h4, h5, h6⟩ := ih h2
      refine ⟨j + 1, h3, fun m hm => ?_, ?_, ?_⟩
      · cases m with
        | zero =>
          intro z
          have : (a : Int) = (n : Int) := Option.some.inj z
          omega
        | succ m => exact h4 m (by omega)
      · show (a : Int) :: (ofN L).eraseIdx j = (a : Int) :: ofN (L.eraseIdx j)
        rw [h5]
      · show (a :: L).Perm (n :: a :: L.eraseIdx j)
        exact (h6.cons a).trans (List.Perm.swap n a _)
theorem inV_mem {L : List Nat} {n : Nat} (h : n ∈ L) : inV (.int (n : Int)) ((ofN L).map V.int) = true := by
  unfold inV ofN
  rw [List.any_eq_true]
  exact ⟨.int (n : Int), List.mem_map.mpr ⟨(n : Int), List.mem_map.mpr ⟨n, h, rfl⟩, rfl⟩, decide_eq_true rfl⟩
theorem flat_ints (ns : List Int) : (ns.map V.int).all flatV = true := by
  rw [List.all_eq_true]
  intro x hx
  obtain ⟨i, _, rfl⟩ := List.mem_map.mp hx
  rfl
section
variable {P : Program} {w : World} {K : PySem.W.Frag} {mg : PySem.Str → Option Value} {base : Heap}
theorem bi_KeptProduct_go {f : Addr} {fd : FuncData} (F : Fun K "go" "KeptProduct.go" s_KeptProduct_go f fd) : Binds K fd ["self", "number"] [] := F.binds (ps := ["self", "number"]) fun _ _ _ _ _ _ us hl => match us, hl with | [_, _], _ => rfl
set_option maxHeartbeats 4000000 in
theorem ok_KeptProduct_go {f : Addr} {fd : FuncData} (F : Fun K "go" "KeptProduct.go" s_KeptProduct_go f fd) (B : Bt mg)  (h_KeptProduct_put_primes : FnM P w K mg base CX0 2 "KeptProduct" ["numbers", "often"] "put_primes" ["self", "number", "sign"] (sp_KeptProduct_put_primes K)) : FnOk P w K mg base CX0 3 f fd ["self", "number"] (sp_KeptProduct_go K) := by
  refine F.ok sc_KeptProduct_go (fun vs H Q E h => ?_) (fun cdv A outer s H vs Q E hr h => ?_)
  · obtain ⟨p, ln, lo, n, L, rfl, hmem, hK, q⟩ := h
    rfl
  · obtain ⟨p, ln, lo, n, L, rfl, hmem, hK, q⟩ := h
    refine ⟨_, (pss_cons (ps_if (pt_cmpR (k_notIn K) (pv 1) (k_fld K (pv 0) rfl) (by rfl))
        (pss_one ps_void)
        pss_nil)
      (pss_cons (ps_expr (pe_bm PySem.F.plainAttrs_list PySem.F.slot_list_remove PySem.F.type_list_remove mt_remove (k_fld K (pv 0) rfl) (pa_cons (pv 1) pa_nil)))
      (pss_one (ps_expr (pe_mt (K := K) h_KeptProduct_put_primes (hr.mono (by decide)) (pv 0) (pa_cons (pv 1) (pa_cons (pe_un un_neg pe_int) pa_nil))))))), ?_⟩
    obtain ⟨n1, n2, n3⟩ := hK.ne
    obtain ⟨ks, hc⟩ := hK.cd
    obtain ⟨j, h3, h4, h5, h6⟩ := first_at hmem
    have hr := hK.rng n hmem
    walk_at "o"
    refine hK.ob.fldN ?_
    refine ⟨ln, _, rfl, .inl (SqL.of hK.ns), rfl, flat_ints _, ?_⟩
    rw [inV_mem hmem]
    walk_at "o"
    refine hK.ob.fldN ?_
    refine ⟨.inl ⟨rfl, _, SqL.of hK.ns⟩, ln, ofN L, (n : Int), j, rfl, rfl, hK.ns, h3, h4, ?_⟩
    rw [h5]
    have hO := hK.ob.upd (o := .lst ((ofN (L.eraseIdx j)).map V.int)) n1
    walk_at "o"
    refine ⟨hO.isO (by decide +kernel) (by decide +kernel), p, ln, lo, n, -1, pfs L, pfs (L.eraseIdx j), ks, rfl, hr.1, hr.2, hO, hc.to (upd_ne n3.symm), .inr ⟨rfl, fun x => ?_⟩, fun H' ks' k' hc' => ?_⟩
    · have e : pfs (n :: L.eraseIdx j) = pf n ++ pfs (L.eraseIdx j) := rfl
      rw [(pfs_perm h6).count_eq x, e, List.count_append]
      omega
    walk_at "o"
    obtain ⟨C, dx, hC, hp⟩ := hO
    refine q H' _ ((K2.refl ln lo H).updA.trans fun c o _ h2 h => k' c o h2 h) h6 ⟨⟨C, dx, hC, k' _ _ n2 hp⟩, k' _ _ n3 upd_same, ⟨ks', hc'⟩, fun x hx => hK.rng x (h6.mem_iff.mpr (List.mem_cons_of_mem _ hx))⟩
end
abbrev s_KeptProduct_numbers_now : Stmt := inClass (top 38) 4
theorem sc_KeptProduct_numbers_now : FnScope ["self"] ["self"] (defScope s_KeptProduct_numbers_now) := ⟨rfl, rfl, rfl, by decide +kernel, rfl, by decide +kernel, by decide +kernel⟩
def sp_KeptProduct_numbers_now (K : PySem.W.Frag) : Sp := fun vs H Q _ => ∃ (p ln lo : Addr) (L : List Nat), vs = [.ref p] ∧ KP K H p ln lo L ∧ ∀ (t : Addr) (ys : List Int) (H' : Hp), H t = none → Same H H' → ys.Perm (ofN L) → ys.Pairwise (· ≤ ·) → H' t = some (.tup (ys.map V.int)) → Q (.ref t) H'
section
variable {P : Program} {w : World} {K : PySem.W.Frag} {mg : PySem.Str → Option Value} {base : Heap}
theorem bi_KeptProduct_numbers_now {f : Addr} {fd : FuncData} (F : Fun K "numbers_now" "KeptProduct.numbers_now" s_KeptProduct_numbers_now f fd) : Binds K fd ["self"] [] := F.binds (ps := ["self"]) fun _ _ _ _ _ _ us hl => match us, hl with | [_], _ => rfl
set_option maxHeartbeats 4000000 in
theorem ok_KeptProduct_numbers_now {f : Addr} {fd : FuncData} (F : Fun K "numbers_now" "KeptProduct.numbers_now" s_KeptProduct_numbers_now f fd) (B : Bt mg)   : FnOk P w K mg base CX0 1 f fd ["self"] (sp_KeptProduct_numbers_now K) := by
  refine F.ok sc_KeptProduct_numbers_now (fun vs H Q E h => ?_) (fun cdv A outer s H vs Q E hr h => ?_)
  · obtain ⟨p, ln, lo, L, rfl, hK, q⟩ := h
    rfl
  · obtain ⟨p, ln, lo, L, rfl, hK, q⟩ := h
    refine ⟨_, (pss_one (ps_ret (pe_callTy (k_tuple K) (by rfl) B.tuple (by decide +kernel) (pa_cons (pe_callB (k_sorted K) (by rfl) B.sorted (by decide +kernel) (pa_cons (k_fld K (pv 0) rfl) pa_nil)) pa_nil)))), ?_⟩
    walk_at "o"
    refine hK.ob.fldN ?_
    refine ⟨ln, ofN L, rfl, SqL.of hK.ns, fun ys r hp hs hr => ?_⟩
    refine r_tupL (SqL.of upd_same) fun t ht => ?_
    have ht2 := upd_free ht
    exact q t ys _ ht2 (sm_new (same_new hr) ht2) hp hs upd_same
end
abbrev s_KeptProduct_exponent_now : Stmt := inClass (top 38) 5
theorem sc_KeptProduct_exponent_now : FnScope ["self", "found", "many"] ["self"] (defScope s_KeptProduct_exponent_now) := ⟨rfl, rfl, rfl, by decide +kernel, rfl, by decide +kernel, by decide +kernel⟩
def sp_KeptProduct_exponent_now (K : PySem.W.Frag) : Sp := fun vs H Q _ => ∃ (p ln lo : Addr) (L : List Nat), vs = [.ref p] ∧ KP K H p ln lo L ∧ ∀ (e : Nat) (H' : Hp), Same H H' → IsExp (pfs L) e → Q (.int (e : Int)) H'
theorem dvd_step {f : Nat → Nat} {ks : List Nat} {i m r : Nat} (h : ∀ d, d ∣ r ↔ ∀ p ∈ ks.take i, d ∣ f p) (hm : ks[i]? = some m) : ∀ d, d ∣ Nat.gcd r (f m) ↔ ∀ p ∈ ks.take (i + 1), d ∣ f p := by
  intro d
  rw [Nat.dvd_gcd_iff, h d, List.take_add_one, hm]
  constructor
  · rintro ⟨h1, h2⟩ p hp
    rcases List.mem_append.mp hp with c | c
    · exact h1 p c
    · simp at c
      exact c ▸ h2
  · intro h1
    exact ⟨fun p hp => h1 p (List.mem_append_left _ hp), h1 m (List.mem_append_right _ (by simp))⟩
section
variable {P : Program} {w : World} {K : PySem.W.Frag} {mg : PySem.Str → Option Value} {base : Heap}
theorem bi_KeptProduct_exponent_now {f : Addr} {fd : FuncData} (F : Fun K "exponent_now" "KeptProduct.exponent_now" s_KeptProduct_exponent_now f fd) : Binds K fd ["self"] [] := F.binds (ps := ["self"]) fun _ _ _ _ _ _ us hl => match us, hl with | [_], _ => rfl
set_option maxHeartbeats 4000000 in
theorem ok_KeptProduct_exponent_now {f : Addr} {fd : FuncData} (F : Fun K "exponent_now" "KeptProduct.exponent_now" s_KeptProduct_exponent_now f fd) (B : Bt mg)  (h_common_divisor : Fn P w K mg base CX0 1 "common_divisor" ["one", "other"] (sp_common_divisor K)) : FnOk P w K mg base CX0 2 f fd ["self"] (sp_KeptProduct_exponent_now K) := by
  refine F.ok sc_KeptProduct_exponent_now (fun vs H Q E h => ?_) (fun cdv A outer s H vs Q E hr h => ?_)
  · obtain ⟨p, ln, lo, L, rfl, hK, q⟩ := h
    rfl
  · obtain ⟨p, ln, lo, L, rfl, hK, q⟩ := h
    refine ⟨_, (pss_cons (ps_set (i := 1) sc_KeptProduct_exponent_now.nd rfl (Or.inl rfl) pe_int)
      (pss_cons (ps_lock (ps_for PassesOwn.never rfl (pi_values (k_fld K (pv 0) rfl)) (pg_name (i := 2) sc_KeptProduct_exponent_now.nd rfl (Or.inl rfl))
        (pss_one (ps_set (i := 1) sc_KeptProduct_exponent_now.nd rfl (Or.inl rfl) (pe_fn h_common_divisor (hr.mono (by decide)) (by rfl) (pa_cons (pv 1) (pa_cons (pv 2) pa_nil)))))))
      (pss_cons (ps_if (pt_cmpR op_eq (pv 1) pe_int (nomark _))
        (pss_one (ps_ret pe_int))
        pss_nil)
      (pss_one (ps_ret (pv 1)))))), ?_⟩
    obtain ⟨n1, n2, n3⟩ := hK.ne
    obtain ⟨ks, hc⟩ := hK.cd
    walk_at "o"
    refine ⟨lo, _, hc.at_, trivial, fun od => ?_⟩
    have hO := hK.ob.upd (o := .frz od (.dK (dN ks fun k => .int (((pfs L).count k : Nat) : Int)))) n2
    refine hO.fldO ?_
    refine ⟨lo, rfl, od, _, upd_same, for_v (fun i σ H' => H' = upd H lo (.frz od (.dK (dN ks fun k => .int (((pfs L).count k : Nat) : Int)))) ∧ ∃ (r : Nat) (v2 : Option V), σ = [some (.ref p), some (.int (r : Int)), v2] ∧ ∀ d, d ∣ r ↔ ∀ p ∈ ks.take i, d ∣ (pfs L).count p) ⟨rfl, 0, _, rfl, fun d => ⟨fun _ p hp => by simp at hp, fun _ => Nat.dvd_zero d⟩⟩ ?_ ?_ ?_⟩
    · rintro i σ H' _ ⟨rfl, _⟩
      exact upd_same
    · rintro i m σ H' hm hi ⟨rfl, r, v2, rfl, hd⟩ N hN
      walk_at "o"
      refine ⟨r, (pfs L).count m, rfl, ?_⟩
      walk_at "o"
      exact hN _ _ ⟨rfl, _, _, rfl, dvd_step hd hm⟩
    · rintro σ H' ⟨rfl, r, v2, rfl, hd⟩
      rw [List.take_length] at hd
      refine ⟨upd_same, ?_⟩
      rw [upd_upd, upd_eta hc.at_]
      have hE := gcd_exp hc.all hd
      walk_at "o"
      refine ite2 (fun h0 => ?_) (fun h0 => ?_)
      · rw [if_pos (by omega)] at hE
        exact q 2 _ (Same.refl _) hE
      · rw [if_neg (by omega)] at hE
        walk_at "o"
        exact q r _ (Same.refl _) hE
end
abbrev s_KeptProduct_lacks_now : Stmt := inClass (top 38) 6
theorem sc_KeptProduct_lacks_now : FnScope ["self", "exponent", "found", "prime", "many"] ["self", "exponent"] (defScope s_KeptProduct_lacks_now) := ⟨rfl, rfl, rfl, by decide +kernel, rfl, by decide +kernel, by decide +kernel⟩
def sp_KeptProduct_lacks_now (K : PySem.W.Frag) : Sp := fun vs H Q _ => ∃ (p ln lo : Addr) (L : List Nat) (e : Nat), vs = [.ref p, .int (e : Int)] ∧ KP K H p ln lo L ∧ 1 ≤ e ∧ e ≤ 200 ∧ L.length ≤ 200 ∧ ∀ (r : Nat) (H' : Hp), Same H H' → IsLack (pfs L) e r → Q (.int (r : Int)) H'
section
variable {P : Program} {w : World} {K : PySem.W.Frag} {mg : PySem.Str → Option Value} {base : Heap}
theorem bi_KeptProduct_lacks_now {f : Addr} {fd : FuncData} (F : Fun K "lacks_now" "KeptProduct.lacks_now" s_KeptProduct_lacks_now f fd) : Binds K fd ["self", "exponent"] [] := F.binds (ps := ["self", "exponent"]) fun _ _ _ _ _ _ us hl => match us, hl with | [_, _], _ => rfl
set_option maxHeartbeats 4000000 in
theorem ok_KeptProduct_lacks_now {f : Addr} {fd : FuncData} (F : Fun K "lacks_now" "KeptProduct.lacks_now" s_KeptProduct_lacks_now f fd) (B : Bt mg)  (h_taken : Fn P w K mg base CX0 1 "taken" ["base", "exponent"] (sp_taken K)) : FnOk P w K mg base CX0 2 f fd ["self", "exponent"] (sp_KeptProduct_lacks_now K) := by
  refine F.ok sc_KeptProduct_lacks_now (fun vs H Q E h => ?_) (fun cdv A outer s H vs Q E hr h => ?_)
  · obtain ⟨p, ln, lo, L, e, rfl, hK, he1, he, hlen, q⟩ := h
    rfl
  · obtain ⟨p, ln, lo, L, e, rfl, hK, he1, he, hlen, q⟩ := h
    refine ⟨_, (pss_cons (ps_set (i := 2) sc_KeptProduct_lacks_now.nd rfl (Or.inl rfl) pe_int)
      (pss_cons (ps_lock (ps_for PassesOwn.never rfl (pi_items (k_fld K (pv 0) rfl)) (pg_tup rfl (pgs_cons (pg_name (i := 3) sc_KeptProduct_lacks_now.nd rfl (Or.inl rfl)) (pgs_cons (pg_name (i := 4) sc_KeptProduct_lacks_now.nd rfl (Or.inl rfl)) pgs_nil)))
        (pss_one (ps_set (i := 2) sc_KeptProduct_lacks_now.nd rfl (Or.inl rfl) (pe_op op_mulW (pv 2) (pe_fn h_taken (hr.mono (by decide)) (by rfl) (pa_cons (pv 3) (pa_cons (pe_op op_mod (pe_op op_sub pe_int (pv 4)) (pv 1)) pa_nil))))))))
      (pss_one (ps_ret (pv 2))))), ?_⟩
    obtain ⟨n1, n2, n3⟩ := hK.ne
    obtain ⟨ks, hc⟩ := hK.cd
    walk_at "o"
    refine ⟨lo, _, hc.at_, trivial, fun od => ?_⟩
    have hO := hK.ob.upd (o := .frz od (.dK (dN ks fun k => .int (((pfs L).count k : Nat) : Int)))) n2
    refine hO.fldO ?_
    have fz : upd H lo (.frz od (.dK (dN ks fun k => .int (((pfs L).count k : Nat) : Int)))) lo = _ := upd_same
    refine ⟨lo, rfl, od, _, fz, for_i (fun i σ H' => Same (upd H lo (.frz od (.dK (dN ks fun k => .int (((pfs L).count k : Nat) : Int))))) H' ∧ ∃ (v3 v4 : Option V), σ = [some (.ref p), some (.int (e : Int)), some (.int ((lackK (ks.take i) (pfs L) e : Nat) : Int)), v3, v4]) ⟨Same.refl _, _, _, rfl⟩ ?_ ?_ ?_⟩
    · rintro i σ H' _ ⟨s, _⟩
      exact s _ _ fz
    · rintro i m σ H' T hm hi ⟨s1, v3, v4, rfl⟩ hT N hN
      have sT := same_new (o := .tup [V.int (m : Int), V.int (((pfs L).count m : Nat) : Int)]) hT
      have hT2 : upd H' T (.tup [V.int (m : Int), V.int (((pfs L).count m : Nat) : Int)]) T = _ := upd_same
      have s2 := s1.trans sT
      generalize upd H' T (.tup [V.int (m : Int), V.int (((pfs L).count m : Nat) : Int)]) = H3 at sT hT2 s2 ⊢
      have hr := hc.rng m (List.mem_of_getElem? hm)
      have hlt : lackE ((pfs L).count m) e < e := Nat.mod_lt _ (by omega)
      have hm20 : m < 2 ^ 20 := Nat.lt_of_le_of_lt hr.2 (by decide)
      have hX : lackK (ks.take i) (pfs L) e ≤ 2 ^ (20 * L.length * e) := lack_log he1 (hc.nd.sublist (List.take_sublist i ks)) hK.rng fun x hx => by
        have := hc.rng x (List.mem_of_mem_take hx)
        omega
      have hB : 20 * L.length * e ≤ 20 * 200 * 200 := Nat.mul_le_mul (by omega) he
      have l1 := log2_le_of_le hX
      have hY : m ^ lackE ((pfs L).count m) e ≤ 2 ^ (20 * lackE ((pfs L).count m) e) := by
        rw [Nat.pow_mul]
        exact Nat.pow_le_pow_left (by omega) _
      have l2 := log2_le_of_le hY
      have em := lack_mod ((pfs L).count m) he1
      have ep : ((lackK (ks.take i) (pfs L) e : Nat) : Int) * ((m ^ lackE ((pfs L).count m) e : Nat) : Int) = ((lackK (ks.take (i + 1)) (pfs L) e : Nat) : Int) := by
        rw [List.take_add_one, hm, Option.toList_some, lackK_snoc]
        push_cast
        rfl
      refine ⟨T, _, rfl, SqT.of hT2, rfl, ?_⟩
      walk_at "o"
      rw [em]
      refine ⟨by omega, m, lackE ((pfs L).count m) e, 20, rfl, .inl hm20, by omega, ?_⟩
      walk_at "o"
      rw [ep]
      refine ⟨cmulN (by omega), hN _ _ ⟨s2, _, _, rfl⟩⟩
    · rintro σ H' ⟨s1, v3, v4, rfl⟩
      rw [List.take_length]
      refine ⟨s1 _ _ fz, ?_⟩
      walk_at "o"
      exact q _ _ (same_unlock s1 hc.at_) (lack_keys hc.nd hc.all)
end
abbrev s_need_words : Stmt := top 62
theorem sc_need_words : FnScope ["words", "many"] ["words", "many"] (defScope s_need_words) := ⟨rfl, rfl, rfl, by decide +kernel, rfl, by decide +kernel, by decide +kernel⟩
def sp_need_words (K : PySem.W.Frag) : Sp := fun vs H Q _ => ∃ (w : Addr) (xs : List V), vs = [.ref w, .int (xs.length : Int)] ∧ SqL K H w xs ∧ Q .non H
section
variable {P : Program} {w : World} {K : PySem.W.Frag} {mg : PySem.Str → Option Value} {base : Heap}
theorem bi_need_words {f : Addr} {fd : FuncData} (F : Fun K "need_words" "need_words" s_need_words f fd) : Binds K fd ["words", "many"] [] := F.binds (ps := ["words", "many"]) fun _ _ _ _ _ _ us hl => match us, hl with | [_, _], _ => rfl
set_option maxHeartbeats 4000000 in
theorem ok_need_words {f : Addr} {fd : FuncData} (F : Fun K "need_words" "need_words" s_need_words f fd) (B : Bt mg)   : FnOk P w K mg base CX0 1 f fd ["words", "many"] (sp_need_words K) := by
  refine F.ok sc_need_words (fun vs H Q E h => ?_) (fun cdv A outer s H vs Q E hr h => ?_)
  · obtain ⟨w0, xs, rfl, hS, q⟩ := h
    rfl
  · obtain ⟨w0, xs, rfl, hS, q⟩ := h
    refine ⟨_, (pss_one (ps_if (pt_cmpR op_ne (pe_callB (k_len K) (by rfl) B.len (by decide +kernel) (pa_cons (pv 0) pa_nil)) (pv 1) (nomark _))
        (pss_one ps_void)
        pss_nil)), ?_⟩
    walk_at "y"
    refine r_len hS ⟨rfl, ?_⟩
    rw [if_neg fun z => z rfl]
    exact q
end
abbrev s_plain_number : Stmt := top 63
theorem sc_plain_number : FnScope ["word", "least", "most", "sign"] ["word", "least", "most"] (defScope s_plain_number) := ⟨rfl, rfl, rfl, by decide +kernel, rfl, by decide +kernel, by decide +kernel⟩
def sp_plain_number (K : PySem.W.Frag) : Sp := fun vs H Q _ => ∃ (n : Nat) (lo hi : Int), vs = [.str (sN n), .int lo, .int hi] ∧ n < 10 ^ 18 ∧ lo ≤ (n : Int) ∧ (n : Int) ≤ hi ∧ ∀ H', Same H H' → Q (.int (n : Int)) H'
section
variable {P : Program} {w : World} {K : PySem.W.Frag} {mg : PySem.Str → Option Value} {base : Heap}
theorem bi_plain_number {f : Addr} {fd : FuncData} (F : Fun K "plain_number" "plain_number" s_plain_number f fd) : Binds K fd ["word", "least", "most"] [] := F.binds (ps := ["word", "least", "most"]) fun _ _ _ _ _ _ us hl => match us, hl with | [_, _, _], _ => rfl
set_option maxHeartbeats 4000000 in
theorem ok_plain_number {f : Addr} {fd : FuncData} (F : Fun K "plain_number" "plain_number" s_plain_number f fd) (B : Bt mg) (g_FIGURES_whole : GS mg "FIGURES_whole" "0123456789") (g_MOST_FIGURES : GI mg "MOST_FIGURES" 18)  : FnOk P w K mg base CX0 1 f fd ["word", "least", "most"] (sp_plain_number K) := by
  refine F.ok sc_plain_number (fun vs H Q E h => ?_) (fun cdv A outer s H vs Q E hr h => ?_)
  · obtain ⟨n, lo, hi, rfl, hn, h1, h2, q⟩ := h
    rfl
  · obtain ⟨n, lo, hi, rfl, hn, h1, h2, q⟩ := h
    refine ⟨_, (pss_cons (ps_if (PW.pt (pw_or (pt_cmpR op_eq (pv 0) pe_str (nomark _)) (pw_or (pt_cmpR op_gt (pe_callB call_len_str (by rfl) B.len (by decide +kernel) (pa_cons (pv 0) pa_nil)) (k_globI g_MOST_FIGURES (by rfl)) (nomark _)) (pw_or1 (pt_cmpR (k_neD K rfl hr.units) (pe_lc (own := [("sign", 3)]) (g := gName 3) rfl sc_plain_number.nd (pi_str (pv 0)) (blkOk_by (own := [("sign", 3)]) (N := ["word", "least", "most", "sign"]) (sc := defScope s_plain_number) (by decide +kernel)) (fun _ _ _ _ _ => (pg_name (i := 3) sc_plain_number.nd rfl (Or.inl rfl))) (fun _ _ _ _ _ => (pts_one (pt_cmpR op_notIn_sign (pv 3) (k_globS g_FIGURES_whole (by rfl)) (by rfl)))) (fun _ _ _ _ _ => (pv 3))) (pe_lst pa_nil) (nomark _))))))
        (pss_one ps_void)
        pss_nil)
      (pss_cons (ps_if (PW.pt (pw_or (PW.pt (pw_and (pt_cmpR op_eq (pe_ix ix_str (pv 0) pe_int (fun _ _ => rfl)) pe_str (nomark _)) (pw_and1 (pt_cmpR op_ne (pv 0) pe_str (nomark _))))) (pw_or1 (pt_not (pt_chain op_le op_le (pv 1) (pe_callTy call_int_str (by rfl) B.int (by decide +kernel) (pa_cons (pv 0) pa_nil)) (pv 2))))))
        (pss_one ps_void)
        pss_nil)
      (pss_one (ps_ret (pe_callTy call_int_str (by rfl) B.int (by decide +kernel) (pa_cons (pv 0) pa_nil)))))), ?_⟩
    have hl : (sN n).length ≤ 18 := sN_len (by decide) hn
    have hp := sN_pos n
    have hit : PySem.intText? (sN n) = some (n : Int) := int_of (tl_sN n) (by rw [← tl_sN, ← len_is]; omega)
    have sz : 1000 < sizeLine := by decide
    walk_at "y"
    rw [if_neg (sN_ne n), if_neg (by omega)]
    refine ⟨by omega, lc_s (fun _ => none) (by omega) (fun i c H' hc s' N0 N1 h0 h1 => ?_) fun D H1 hD s1 hL => ⟨by omega, fun u hu => ?_⟩⟩
    · walk_at "y"
      refine ⟨c, rfl, ?_⟩
      rw [if_neg fun z => z (sN_no_sign (List.mem_of_getElem? hc))]
      exact h0 rfl _ (Same.refl _)
    · rw [fm_none] at hL
      refine r_neL (ns := []) (ms := []) (SqL.of ((upd_ne (ne_of_none hL hu)).trans hL)) (SqL.of upd_same) ?_
      rw [decide_eq_true rfl]
      refine ⟨false, rfl, ?_⟩
      rw [if_neg (by decide)]
      have s2 := s1.trans (same_new (o := .lst []) hu)
      generalize upd H1 u (.lst []) = H2 at s2 ⊢
      obtain ⟨c, hc⟩ : ∃ c, (TL.tl (sN n))[0]? = some c := ⟨_, List.getElem?_eq_getElem (by rw [← len_is]; exact hp)⟩
      have fin : tChain (rI0 fun i j => V.bl (decide (i ≤ j))) (rI0 fun i j => V.bl (decide (i ≤ j))) (tVar 1) (tCB (fun xs H Q => ∃ a, xs = [V.str a] ∧ ∃ x, PySem.intText? a = some x ∧ a.length ≤ 640 ∧ Q (V.int x) H) (tCons (tVar 0) tNil)) (tVar 2) [some (V.str (sN n)), some (V.int lo), some (V.int hi), none] H2 fun x H1 => ∃ k, x = V.bl k ∧ if k = false then False else ∃ x, PySem.intText? (sN n) = some x ∧ (sN n).length ≤ 640 ∧ Q (V.int x) H1 := by
        unfold tChain
        walk_at "y"
        refine ⟨_, hit, by omega, ?_⟩
        rw [if_pos h1]
        walk_at "y"
        rw [if_neg (by simpa using h2)]
        exact ⟨_, hit, by omega, q _ s2⟩
      refine r_ixS (i := 0) (by omega) hc ?_
      walk_at "y"
      refine ite2 (fun h48 => ?_) (fun h48 => fin)
      have hc48 : c = 48 := by
        rw [str_zero] at h48
        simpa using h48
      have h0 := sN_head hc hc48
      subst h0
      rw [sN_zero, if_neg (fun z => z rfl)]
      rw [sN_zero] at fin
      exact fin
end
abbrev s_Desk___init__ : Stmt := inClass (top 65) 0
theorem sc_Desk___init__ : FnScope ["self"] ["self"] (defScope s_Desk___init__) := ⟨rfl, rfl, rfl, by decide +kernel, rfl, by decide +kernel, by decide +kernel⟩
def sp_Desk___init__ (K : PySem.W.Frag) : Sp := fun vs H Q _ => ∃ (d C dx : Addr), vs = [.ref d] ∧ KCl K "Desk" ["kept"] C ∧ H d = some (.ins C dx []) ∧ ∀ (p ln lo : Addr) (H' : Hp), H p = none → H ln = none → H lo = none → DO K H' d p ln lo [] → (∀ b o, b ≠ d → H b = some o → H' b = some o) → Q .non H'
section
variable {P : Program} {w : World} {K : PySem.W.Frag} {mg : PySem.Str → Option Value} {base : Heap}
theorem bi_Desk___init__ {f : Addr} {fd : FuncData} (F : Fun K "__init__" "Desk.__init__" s_Desk___init__ f fd) : Binds K fd ["self"] [] := F.binds (ps := ["self"]) fun _ _ _ _ _ _ us hl => match us, hl with | [_], _ => rfl
set_option maxHeartbeats 4000000 in
theorem ok_Desk___init__ {f : Addr} {fd : FuncData} (F : Fun K "__init__" "Desk.__init__" s_Desk___init__ f fd) (B : Bt mg)  (h_KeptProduct___init__ : FnK P w K mg base CX0 1 "KeptProduct" ["numbers", "often"] ["self"] (sp_KeptProduct___init__ K)) : FnOk P w K mg base CX0 3 f fd ["self"] (sp_Desk___init__ K) := by
  refine F.ok sc_Desk___init__ (fun vs H Q E h => ?_) (fun cdv A outer s H vs Q E hr h => ?_)
  · obtain ⟨d, C, dx, rfl, hC, hd, q⟩ := h
    rfl
  · obtain ⟨d, C, dx, rfl, hC, hd, q⟩ := h
    refine ⟨_, (pss_one (ps_fld (pv 0) (pe_mk0 h_KeptProduct___init__ (hr.mono (by decide)) (by rfl)) rfl)), ?_⟩
    walk_at "y"
    intro C2 y dx2 hC2 hy hdx2 hne
    refine ⟨y, C2, dx2, rfl, hC2, upd_same, fun ln lo H2 hln hlo hK hfr => ⟨rfl, ?_⟩⟩
    have n1 : d ≠ y := ne_of_none hd hy
    have n2 : d ≠ dx2 := ne_of_none hd hdx2
    have up : Same H H2 := fun b o h => hfr b o (ne_of_none h hy) (by rw [upd_ne (ne_of_none h hy), upd_ne (ne_of_none h hdx2)]; exact h)
    have hd2 := up _ _ hd
    refine ⟨d, C, dx, [], rfl, hd2, hC.cl, hC.no _ (by simp), by show 0 < 1000; decide, ?_⟩
    have hq : DO K (upd H2 d (.ins C dx (putF "kept" (.ref y) []))) d y ln lo [] := by
      refine ⟨⟨C, dx, hC, upd_same⟩, hK.kp (a := d) ((Kp.refl d H2).upd) n1.symm (fun z => ?_) (fun z => ?_)⟩
      · rw [z] at hln
        have := upd_free (upd_free hln)
        rw [hd] at this
        cases this
      · rw [z] at hlo
        have := upd_free (upd_free hlo)
        rw [hd] at this
        cases this
    exact q y ln lo _ hy (upd_free (upd_free hln)) (upd_free (upd_free hlo)) hq fun b o hb h => (upd_ne hb).trans (up _ _ h)
end
abbrev s_Desk_change_by : Stmt := inClass (top 65) 2
theorem sc_Desk_change_by : FnScope ["self", "word", "number"] ["self", "word", "number"] (defScope s_Desk_change_by) := ⟨rfl, rfl, rfl, by decide +kernel, rfl, by decide +kernel, by decide +kernel⟩
def sp_Desk_change_by (K : PySem.W.Frag) : Sp := fun vs H Q _ => ∃ (d p ln lo : Addr) (n : Nat) (L : List Nat) (z : PySem.Str), vs = [.ref d, .str z, .int (n : Int)] ∧ DO K H d p ln lo L ∧ L.length ≤ 60 ∧
  ((z = "come" ∧ 1 ≤ n ∧ n ≤ 1000000 ∧ L.length < 60 ∧ ∀ H', K2 ln lo H H' → DO K H' d p ln lo (L ++ [n]) → Q .non H') ∨ (z = "go" ∧ n ∈ L ∧ ∀ H' L', K2 ln lo H H' → L.Perm (n :: L') → DO K H' d p ln lo L' → Q .non H'))
section
variable {P : Program} {w : World} {K : PySem.W.Frag} {mg : PySem.Str → Option Value} {base : Heap}
theorem bi_Desk_change_by {f : Addr} {fd : FuncData} (F : Fun K "change_by" "Desk.change_by" s_Desk_change_by f fd) : Binds K fd ["self", "word", "number"] [] := F.binds (ps := ["self", "word", "number"]) fun _ _ _ _ _ _ us hl => match us, hl with | [_, _, _], _ => rfl
set_option maxHeartbeats 4000000 in
theorem ok_Desk_change_by {f : Addr} {fd : FuncData} (F : Fun K "change_by" "Desk.change_by" s_Desk_change_by f fd) (B : Bt mg) (g_MOST_NUMBERS : GI mg "MOST_NUMBERS" 60) (h_KeptProduct_go : FnM P w K mg base CX0 3 "KeptProduct" ["numbers", "often"] "go" ["self", "number"] (sp_KeptProduct_go K)) (h_KeptProduct_numbers_now : FnM P w K mg base CX0 1 "KeptProduct" ["numbers", "often"] "numbers_now" ["self"] (sp_KeptProduct_numbers_now K)) (h_KeptProduct_come : FnM P w K mg base CX0 3 "KeptProduct" ["numbers", "often"] "come" ["self", "number"] (sp_KeptProduct_come K)) : FnOk P w K mg base CX0 4 f fd ["self", "word", "number"] (sp_Desk_change_by K) := by
  refine F.ok sc_Desk_change_by (fun vs H Q E h => ?_) (fun cdv A outer s H vs Q E hr h => ?_)
  · obtain ⟨d, p, ln, lo, n, L, z, rfl, hD, hlen, q⟩ := h
    rfl
  · obtain ⟨d, p, ln, lo, n, L, z, rfl, hD, hlen, q⟩ := h
    refine ⟨_, (pss_cons (ps_if (pt_cmpR op_eq (pv 1) pe_str (nomark _))
        (pss_cons (ps_expr (pe_mt (K := K) h_KeptProduct_go (hr.mono (by decide)) (k_fld K (pv 0) rfl) (pa_cons (pv 2) pa_nil)))
        (pss_one ps_retN))
        pss_nil)
      (pss_cons (ps_if (pt_cmpR op_eq (pe_callB (k_len K) (by rfl) B.len (by decide +kernel) (pa_cons (pe_mt0 (K := K) h_KeptProduct_numbers_now (hr.mono (by decide)) (k_fld K (pv 0) rfl)) pa_nil)) (k_globI g_MOST_NUMBERS (by rfl)) (nomark _))
        (pss_one ps_void)
        pss_nil)
      (pss_one (ps_expr (pe_mt (K := K) h_KeptProduct_come (hr.mono (by decide)) (k_fld K (pv 0) rfl) (pa_cons (pv 2) pa_nil)))))), ?_⟩
    walk_at "y"
    have o1 := hD.kp.ob.isO (m := "come") (by decide +kernel) (by decide +kernel)
    have o2 := hD.kp.ob.isO (m := "go") (by decide +kernel) (by decide +kernel)
    have o3 := hD.kp.ob.isO (m := "numbers_now") (by decide +kernel) (by decide +kernel)
    rcases q with ⟨rfl, h1, h2, h3, q⟩ | ⟨rfl, hm, q⟩
    · rw [if_neg (by decide +kernel)]
      refine hD.dk.fld ⟨o3, p, ln, lo, L, rfl, hD.kp, fun t ys H1 ht s1 hp hs hT => ?_⟩
      have hlen2 : (ys.map V.int).length = L.length := by rw [List.length_map, hp.length_eq, ofN_len]
      refine r_lenT (SqT.of hT) ?_
      rw [hlen2]
      walk_at "y"
      rw [if_neg (by omega)]
      have hD1 := hD.same s1
      refine hD1.dk.fld ⟨hD1.kp.ob.isO (m := "come") (by decide +kernel) (by decide +kernel), p, ln, lo, n, L, rfl, h1, h2, hD1.kp, by omega, fun H' k hk => ?_⟩
      exact q H' ((K2.of s1).trans k) (hD1.to k hk)
    · rw [if_pos rfl]
      refine hD.dk.fld ⟨o2, p, ln, lo, n, L, rfl, hm, hD.kp, fun H' L' k hp hk => q H' L' k hp (hD.to k hk)⟩
end
abbrev s_Desk_told : Stmt := inClass (top 65) 5
theorem sc_Desk_told : FnScope ["self", "word", "numbers", "exponent", "number"] ["self", "word"] (defScope s_Desk_told) := ⟨rfl, rfl, rfl, by decide +kernel, rfl, by decide +kernel, by decide +kernel⟩
def sp_Desk_told (K : PySem.W.Frag) : Sp := fun vs H Q _ => ∃ (d p ln lo : Addr) (L : List Nat) (z : PySem.Str) (ys : List PySem.Str), vs = [.ref d, .str z] ∧ DO K H d p ln lo L ∧ L.length ≤ 60 ∧ (z = "numbers" ∨ z = "product") ∧ Ask L z ys ∧
  ∀ (t : Addr) (H' : Hp), H t = none → Same H H' → H' t = some (.lst (ys.map V.str)) → Q (.ref t) H'
theorem ask_numbers {L : List Nat} {ys : List PySem.Str} (h : Ask L "numbers" ys) : ∃ zs : List Int, ys = rowsW zs ∧ zs.Perm (ofN L) ∧ zs.Pairwise (· ≤ ·) := by
  generalize hz : ("numbers" : PySem.Str) = z at h
  cases h with
  | numbers zs h1 h2 => exact ⟨zs, rfl, h1, h2⟩
  | product e h1 => exact absurd hz (by decide +kernel)
  | lacks e r h1 h2 h3 =>
    exfalso
    have h4 : 32 ∈ TL.tl (ln2 "lacks" e) := by
      unfold ln2
      rw [TL.tl_append, TL.tl_append, tl_blank]
      simp
    rw [← hz] at h4
    exact absurd h4 (by decide +kernel)
theorem ask_product {L : List Nat} {ys : List PySem.Str} (h : Ask L "product" ys) : ∃ e : Nat, ys = [prodW e] ∧ IsExp (pfs L) e := by
  generalize hz : ("product" : PySem.Str) = z at h
  cases h with
  | numbers zs h1 h2 => exact absurd hz (by decide +kernel)
  | product e h1 => exact ⟨e, rfl, h1⟩
  | lacks e r h1 h2 h3 =>
    exfalso
    have h4 : 32 ∈ TL.tl (ln2 "lacks" e) := by
      unfold ln2
      rw [TL.tl_append, TL.tl_append, tl_blank]
      simp
    rw [← hz] at h4
    exact absurd h4 (by decide +kernel)
section
variable {P : Program} {w : World} {K : PySem.W.Frag} {mg : PySem.Str → Option Value} {base : Heap}
theorem bi_Desk_told {f : Addr} {fd : FuncData} (F : Fun K "told" "Desk.told" s_Desk_told f fd) : Binds K fd ["self", "word"] [] := F.binds (ps := ["self", "word"]) fun _ _ _ _ _ _ us hl => match us, hl with | [_, _], _ => rfl
set_option maxHeartbeats 4000000 in
theorem ok_Desk_told {f : Addr} {fd : FuncData} (F : Fun K "told" "Desk.told" s_Desk_told f fd) (B : Bt mg) (g_DIG : NoDig K) (h_KeptProduct_numbers_now : FnM P w K mg base CX0 1 "KeptProduct" ["numbers", "often"] "numbers_now" ["self"] (sp_KeptProduct_numbers_now K)) (h_KeptProduct_exponent_now : FnM P w K mg base CX0 2 "KeptProduct" ["numbers", "often"] "exponent_now" ["self"] (sp_KeptProduct_exponent_now K)) : FnOk P w K mg base CX0 3 f fd ["self", "word"] (sp_Desk_told K) := by
  refine F.ok sc_Desk_told (fun vs H Q E h => ?_) (fun cdv A outer s H vs Q E hr h => ?_)
  · obtain ⟨d, p, ln, lo, L, z, ys, rfl, hD, hlen, hz, hA, q⟩ := h
    rfl
  · obtain ⟨d, p, ln, lo, L, z, ys, rfl, hD, hlen, hz, hA, q⟩ := h
    refine ⟨_, (pss_cons (ps_set (i := 2) sc_Desk_told.nd rfl (Or.inl rfl) (pe_mt0 (K := K) h_KeptProduct_numbers_now (hr.mono (by decide)) (k_fld K (pv 0) rfl)))
      (pss_cons (ps_if (pt_cmpR op_eq (pv 1) pe_str (nomark _))
        (pss_one (ps_ret (pe_ifExp (pt_cmpR op_gt (pe_callB (k_len K) (by rfl) B.len (by decide +kernel) (pa_cons (pv 2) pa_nil)) pe_int (nomark _)) (pe_lst (pa_cons (pe_m1 PySem.F.slot_str_join PySem.F.type_str_join (k_join K) pe_str (pe_lc (own := [("number", 4)]) (g := gName 4) (tt := tYes) rfl sc_Desk_told.nd (pi_tup (pv 2)) (blkOk_by (own := [("number", 4)]) (N := ["self", "word", "numbers", "exponent", "number"]) (sc := defScope s_Desk_told) (by decide +kernel)) (fun _ _ _ _ _ => (pg_name (i := 4) sc_Desk_told.nd rfl (Or.inl rfl))) (fun _ _ _ _ _ => pts_nil) (fun _ _ _ _ _ => (pe_callTy (call_strN K g_DIG) (by rfl) B.str (by decide +kernel) (pa_cons (pv 4) pa_nil))))) pa_nil)) (pe_lst pa_nil))))
        pss_nil)
      (pss_cons (ps_if (pt_cmpR op_ne (pv 1) pe_str (nomark _))
        (pss_one ps_void)
        pss_nil)
      (pss_cons (ps_set (i := 3) sc_Desk_told.nd rfl (Or.inl rfl) (pe_mt0 (K := K) h_KeptProduct_exponent_now (hr.mono (by decide)) (k_fld K (pv 0) rfl)))
      (pss_one (ps_ret (pe_lst (pa_cons (pe_ifExp (pt_cmpR op_gt (pv 3) pe_int (nomark _)) (pe_op op_add_str pe_str (pe_callTy (call_strN K g_DIG) (by rfl) B.str (by decide +kernel) (pa_cons (pv 3) pa_nil))) pe_str) pa_nil)))))))), ?_⟩
    walk_at "y"
    have o3 := hD.kp.ob.isO (m := "numbers_now") (by decide +kernel) (by decide +kernel)
    refine hD.dk.fld ⟨o3, p, ln, lo, L, rfl, hD.kp, fun t zs H1 ht s1 hp hs hT => ?_⟩
    have hlen2 : (zs.map V.int).length = L.length := by rw [List.length_map, hp.length_eq, ofN_len]
    rcases hz with rfl | rfl
    · obtain ⟨ms, rfl, h1, h2⟩ := ask_numbers hA
      have e := sorted_one hs h2 (hp.trans h1.symm)
      subst e
      dsimp only
      rw [if_pos rfl]
      refine r_lenT (SqT.of hT) ?_
      rw [hlen2]
      walk_at "y"
      refine ite2 (fun h0 => ?_) (fun h0 => ?_)
      · have hne : zs ≠ [] := fun z => by
          rw [z] at hlen2
          simp at hlen2
          omega
        refine ⟨⟨_, SqT.of hT⟩, lc_t txtI (SqT.of hT) (size_le (by omega)) ?_ ?_⟩
        · intro i x H2 hx s2 N0 N1 n0 n1
          obtain ⟨j, hj, rfl⟩ := int_at hx
          have hm := hp.mem_iff.mp hj
          unfold ofN at hm
          obtain ⟨n, hn, rfl⟩ := List.mem_map.mp hm
          have hr := hD.kp.rng n hn
          walk_at "y"
          refine ⟨Nat.lt_of_le_of_lt (show ((n : Nat) : Int).natAbs ≤ 1000000 by omega) (by decide +kernel), n1 _ rfl _ (Same.refl _)⟩
        · intro D H2 hD2 s2 hL
          rw [filt_txt] at hL
          refine ⟨_, D, zs.map fun y => Str.ofString (toString y), rfl, rfl, .inl (SqL.of hL), txt_len hp (fun x hx => (hD.kp.rng x hx).2) (by omega), by show 1 ≤ sizeLine; decide, fun u hu => ?_⟩
          refine q u _ (s1.free (s2.free hu)) (s1.trans (s2.trans (same_new hu))) ?_
          rw [upd_same]
          unfold rowsW
          rw [if_neg hne, join_eq]
          rfl
      · have hne : zs = [] := List.length_eq_zero_iff.mp (by
          rw [List.length_map] at hlen2
          omega)
        refine ⟨by show 0 ≤ sizeLine; decide, fun u hu => q u _ (s1.free hu) (s1.trans (same_new hu)) ?_⟩
        rw [upd_same]
        unfold rowsW
        rw [if_pos hne]
        rfl
    · obtain ⟨e, rfl, he⟩ := ask_product hA
      dsimp only
      rw [if_neg (by decide +kernel)]
      rw [if_neg (fun z => z rfl)]
      have hD1 := hD.same s1
      refine hD1.dk.fld ⟨hD1.kp.ob.isO (m := "exponent_now") (by decide +kernel) (by decide +kernel), p, ln, lo, L, rfl, hD1.kp, fun e2 H2 s2 he2 => ⟨_, rfl, ?_⟩⟩
      have : e2 = e := isExp_unique he2 he
      subst this
      have hle := exp_le he2 hD.kp.rng (by omega)
      refine ite2 (fun h1 => ?_) (fun h1 => ?_)
      · have hl : (sN e2).length ≤ 5 := sN_len (by decide) (by omega)
        have hl6 : ("power " : PySem.Str).length = 6 := by decide +kernel
        have sz : 1000 ≤ sizeLine := by decide
        refine ⟨_, rfl, Nat.lt_of_le_of_lt (show ((e2 : Nat) : Int).natAbs ≤ 20000 by omega) (by decide +kernel), ?_, by omega, fun u hu => q u _ (s1.free (s2.free hu)) (s1.trans (s2.trans (same_new hu))) ?_⟩
        · rw [hl6]
          show 6 + (sN e2).length ≤ sizeLine
          omega
        · rw [upd_same]
          unfold prodW
          rw [if_pos (by omega)]
          rfl
      · refine ⟨by show 1 ≤ sizeLine; decide, fun u hu => q u _ (s1.free (s2.free hu)) (s1.trans (s2.trans (same_new hu))) ?_⟩
        rw [upd_same]
        unfold prodW
        rw [if_neg (by omega)]
        rfl
end
abbrev s_Desk_ask : Stmt := inClass (top 65) 1
theorem sc_Desk_ask : FnScope ["self", "line", "words", "most", "number"] ["self", "line"] (defScope s_Desk_ask) := ⟨rfl, rfl, rfl, by decide +kernel, rfl, by decide +kernel, by decide +kernel⟩
def sp_Desk_ask (K : PySem.W.Frag) : Sp := fun vs H Q _ => ∃ (d p ln lo : Addr) (L : List Nat) (z : PySem.Str), vs = [.ref d, .str z] ∧ DO K H d p ln lo L ∧ L.length ≤ 60 ∧
  ((∃ ys : List PySem.Str, Ask L z ys ∧ ∀ (t : Addr) (H' : Hp), H t = none → Same H H' → H' t = some (.lst (ys.map V.str)) → Q (.ref t) H') ∨
   (∃ n : Nat, z = ln2 "come" n ∧ 1 ≤ n ∧ n ≤ 1000000 ∧ L.length < 60 ∧ ∀ (t : Addr) (H' : Hp), H t = none → K2 ln lo H H' → DO K H' d p ln lo (L ++ [n]) → H' t = some (.lst []) → Q (.ref t) H') ∨
   (∃ n : Nat, z = ln2 "go" n ∧ n ∈ L ∧ ∀ (t : Addr) (H' : Hp) (L' : List Nat), H t = none → K2 ln lo H H' → L.Perm (n :: L') → DO K H' d p ln lo L' → H' t = some (.lst []) → Q (.ref t) H'))
set_option hygiene false in
local macro_rules | `(tactic| walk_at "ask_in") => `(tactic| (
  refine ⟨bl1, by omega, ?_⟩
  rw [hsp]
  intro w0 hw0
  have s1 := same_new (o := .lst (wd.map V.str)) hw0
  have hw : upd H w0 (.lst (wd.map V.str)) w0 = _ := upd_same
  have hD1 := hD.same s1
  generalize upd H w0 (.lst (wd.map V.str)) = H1 at s1 hw hD1 ⊢
  rw [hwd] at hw
  refine go _ _ ["come", "go"] H1 w0 _ hw (by decide) fun H2 s2 => ?_
  rw [if_neg (by decide +kernel)]
  have hw2 := s2 _ _ hw
  refine r_ixL (SqL.of hw2) rfl ⟨rfl, ?_⟩))
set_option hygiene false in
local macro_rules | `(tactic| walk_at "ask_short") => `(tactic| (
  rw [if_neg (by decide +kernel)]
  refine r_ixL (SqL.of hw2) rfl ⟨rfl, ?_⟩
  rw [if_neg (by decide +kernel)]
  refine go _ _ ["apart", "free"] H2 w0 _ hw2 (by decide) fun H3 s3 => ?_
  rw [if_neg (by decide +kernel)]
  have hw3 := s3 _ _ hw2
  refine r_ixL (SqL.of hw3) rfl fun a1 ha1 => r_inX (ys := ["is", "count", "place", "near", "beside", "sums", "full"]) ha1 ⟨_, rfl, ?_⟩
  rw [if_neg (by decide +kernel)]
  refine ⟨w0, _, rfl, SqL.of hw3, ?_⟩
  have s13 := s1.trans (s2.trans s3)
  have hD3 := hD.same s13
  refine ⟨hD3.dk.isO (by decide +kernel), r_ixL (SqL.of hw3) rfl ?_⟩
  exact ⟨d, p, ln, lo, L, _, _, rfl, hD3, hlen, hkind, hA, fun t H4 ht s4 h4 => q t H4 (s13.free ht) (s13.trans s4) h4⟩))
section
variable {P : Program} {w : World} {K : PySem.W.Frag} {mg : PySem.Str → Option Value} {base : Heap}
theorem bi_Desk_ask {f : Addr} {fd : FuncData} (F : Fun K "ask" "Desk.ask" s_Desk_ask f fd) : Binds K fd ["self", "line"] [] := F.binds (ps := ["self", "line"]) fun _ _ _ _ _ _ us hl => match us, hl with | [_, _], _ => rfl
set_option maxHeartbeats 4000000 in
theorem ok_Desk_ask {f : Addr} {fd : FuncData} (F : Fun K "ask" "Desk.ask" s_Desk_ask f fd) (B : Bt mg) (g_DIG : NoDig K) (g_SMALL : GI mg "SMALL" 1000000) (g_MOST_LACKING : GI mg "MOST_LACKING" 10) (g_OF_TEXT : GT K mg "OF_TEXT" ["is", "count", "place", "near", "beside", "sums", "full"]) (h_need_words : Fn P w K mg base CX0 1 "need_words" ["words", "many"] (sp_need_words K)) (h_Desk_change_by : FnM P w K mg base CX0 4 "Desk" ["kept"] "change_by" ["self", "word", "number"] (sp_Desk_change_by K)) (h_plain_number : Fn P w K mg base CX0 1 "plain_number" ["word", "least", "most"] (sp_plain_number K)) (h_KeptProduct_lacks_now : FnM P w K mg base CX0 2 "KeptProduct" ["numbers", "often"] "lacks_now" ["self", "exponent"] (sp_KeptProduct_lacks_now K)) (h_Desk_told : FnM P w K mg base CX0 3 "Desk" ["kept"] "told" ["self", "word"] (sp_Desk_told K)) : FnOk P w K mg base CX0 5 f fd ["self", "line"] (sp_Desk_ask K) := by
  refine F.ok sc_Desk_ask (fun vs H Q E h => ?_) (fun cdv A outer s H vs Q E hr h => ?_)
  · obtain ⟨d, p, ln, lo, L, z, rfl, hD, hlen, q⟩ := h
    rfl
  · obtain ⟨d, p, ln, lo, L, z, rfl, hD, hlen, q⟩ := h
    refine ⟨_, (pss_cons (ps_set (i := 2) sc_Desk_ask.nd rfl (Or.inl rfl) (pe_m1 PySem.F.slot_str_split PySem.F.type_str_split mt_split (pv 1) pe_str))
      (pss_cons (ps_if (pt_cmpR (k_in K) (pe_ix (k_ixL K) (pv 2) pe_int (fun _ _ => rfl)) (pe_tup (pa_cons pe_str (pa_cons pe_str pa_nil))) (by rfl))
        (pss_cons (ps_expr (pe_fn h_need_words (hr.mono (by decide)) (by rfl) (pa_cons (pv 2) (pa_cons pe_int pa_nil))))
        (pss_cons (ps_expr (pe_mt (K := K) h_Desk_change_by (hr.mono (by decide)) (pv 0) (pa_cons (pe_ix (k_ixL K) (pv 2) pe_int (fun _ _ => rfl)) (pa_cons (pe_fn h_plain_number (hr.mono (by decide)) (by rfl) (pa_cons (pe_ix (k_ixL K) (pv 2) pe_int (fun _ _ => rfl)) (pa_cons pe_int (pa_cons (k_globI g_SMALL (by rfl)) pa_nil)))) pa_nil))))
        (pss_one (ps_ret (pe_lst pa_nil)))))
        pss_nil)
      (pss_cons (ps_if (pt_cmpR op_eq (pe_ix (k_ixL K) (pv 2) pe_int (fun _ _ => rfl)) pe_str (nomark _))
        (pss_cons (ps_expr (pe_fn h_need_words (hr.mono (by decide)) (by rfl) (pa_cons (pv 2) (pa_cons pe_int pa_nil))))
        (pss_one (ps_ret (pe_lst (pa_cons (pe_callTy (call_strN K g_DIG) (by rfl) B.str (by decide +kernel) (pa_cons (pe_mt (K := K) h_KeptProduct_lacks_now (hr.mono (by decide)) (k_fld K (pv 0) rfl) (pa_cons (pe_fn h_plain_number (hr.mono (by decide)) (by rfl) (pa_cons (pe_ix (k_ixL K) (pv 2) pe_int (fun _ _ => rfl)) (pa_cons pe_int (pa_cons (k_globI g_MOST_LACKING (by rfl)) pa_nil)))) pa_nil)) pa_nil)) pa_nil)))))
        pss_nil)
      (pss_cons (ps_if (pt_cmpR op_eq (pe_ix (k_ixL K) (pv 2) pe_int (fun _ _ => rfl)) pe_str (nomark _))
        pss_void
        pss_nil)
      (pss_cons (ps_if (PW.pt (pw_and (pt_cmpR (k_in K) (pe_ix (k_ixL K) (pv 2) pe_int (fun _ _ => rfl)) (pe_tup (pa_cons pe_str (pa_cons pe_str pa_nil))) (by rfl)) (pw_and1 (pt_cmpR op_gt (pe_callB (k_len K) (by rfl) B.len (by decide +kernel) (pa_cons (pv 2) pa_nil)) pe_int (nomark _)))))
        pss_void
        pss_nil)
      (pss_cons (ps_if (PW.pt (pw_and (pt_cmpR (k_in K) (pe_ix (k_ixL K) (pv 2) pe_int (fun _ _ => rfl)) (k_globT K g_OF_TEXT (by rfl)) (by rfl)) (pw_and1 (pt_cmpR op_gt (pe_callB (k_len K) (by rfl) B.len (by decide +kernel) (pa_cons (pv 2) pa_nil)) pe_int (nomark _)))))
        pss_void
        pss_nil)
      (pss_cons (ps_expr (pe_fn h_need_words (hr.mono (by decide)) (by rfl) (pa_cons (pv 2) (pa_cons pe_int pa_nil))))
      (pss_one (ps_ret (pe_mt (K := K) h_Desk_told (hr.mono (by decide)) (pv 0) (pa_cons (pe_ix (k_ixL K) (pv 2) pe_int (fun _ _ => rfl)) pa_nil))))))))))), ?_⟩
    have sz : 1000 ≤ sizeLine := by decide
    have small : ∀ n : Nat, n ≤ 1000000 → (sN n).length ≤ 7 ∧ n < 10 ^ 18 := fun n h => ⟨sN_len (by decide) (Nat.lt_of_le_of_lt h (by decide)), Nat.lt_of_le_of_lt h (by decide)⟩
    have bl1 : (((" " : PySem.Str).length == 0) = false) := by decide +kernel
    walk_at "y"
    have go : ∀ (w : PySem.Str) (ws : List PySem.Str) (T : List PySem.Str) (H1 : Hp) (w0 : Addr) (Q2 : Bool → Hp → Prop), H1 w0 = some (.lst ((w :: ws).map V.str)) → T.length ≤ 10 → (∀ H2, Same H1 H2 → Q2 (decide (w ∈ T)) H2) →
        rIxL K (.ref w0) (.int 0) H1 fun x H2 => (T.map V.str).length ≤ sizeLine ∧ ∀ p, H2 p = none → rIn K false x (.ref p) (upd H2 p (.tup (T.map V.str))) fun x H3 => ∃ k, x = .bl k ∧ Q2 k H3 := fun w ws T H1 w0 Q2 hw hT q2 =>
      r_ixL (SqL.of hw) (show atI ((w :: ws).map V.str) ((0 : Nat) : Int) = some (.str w) from atI_nat rfl) ⟨by rw [List.length_map]; omega, fun p1 hp1 => r_inX (SqT.of upd_same) ⟨_, rfl, q2 _ (same_new hp1)⟩⟩
    rcases q with ⟨ys, hA, q⟩ | ⟨n, rfl, h1, h2, h3, q⟩ | ⟨n, rfl, h1, q⟩
    · cases hA with
      | numbers zs g1 g2 =>
        have hA := Ask.numbers (L := L) zs g1 g2
        have hkind : ("numbers" : PySem.Str) = "numbers" ∨ ("numbers" : PySem.Str) = "product" := .inl rfl
        have hsp : PySem.Txt.split "numbers" " " = [("numbers" : PySem.Str)] := split_one (a := "numbers") (by decide +kernel)
        obtain ⟨wd, hwd⟩ : ∃ wd : List PySem.Str, wd = [("numbers" : PySem.Str)] := ⟨_, rfl⟩
        rw [← hwd] at hsp
        have e7 : ("numbers" : PySem.Str).length = 7 := by decide +kernel
        walk_at "ask_in"
        walk_at "ask_short"
      | product e g1 =>
        have hA := Ask.product (L := L) e g1
        have hkind : ("product" : PySem.Str) = "numbers" ∨ ("product" : PySem.Str) = "product" := .inr rfl
        have hsp : PySem.Txt.split "product" " " = [("product" : PySem.Str)] := split_one (a := "product") (by decide +kernel)
        obtain ⟨wd, hwd⟩ : ∃ wd : List PySem.Str, wd = [("product" : PySem.Str)] := ⟨_, rfl⟩
        rw [← hwd] at hsp
        have e7 : ("product" : PySem.Str).length = 7 := by decide +kernel
        walk_at "ask_in"
        walk_at "ask_short"
      | lacks e r g1 g2 g3 =>
        have hsp : PySem.Txt.split (ln2 "lacks" e) " " = [("lacks" : PySem.Str), sN e] := split_ln2 (w := "lacks") (by decide +kernel) e
        obtain ⟨wd, hwd⟩ : ∃ wd : List PySem.Str, wd = [("lacks" : PySem.Str), sN e] := ⟨_, rfl⟩
        rw [← hwd] at hsp
        have hs := small e (by omega)
        have e7 : (ln2 "lacks" e).length ≤ 20 := by
          have e5 : ("lacks" : PySem.Str).length = 5 := by decide +kernel
          rw [len_ln2, e5]
          omega
        walk_at "ask_in"
        rw [if_pos rfl]
        have s12 := s1.trans s2
        have hD2 := hD.same s12
        refine ⟨w0, _, rfl, SqL.of hw2, ?_⟩
        refine hD2.dk.fld ⟨hD2.kp.ob.isO (by decide +kernel) (by decide +kernel), r_ixL (SqL.of hw2) rfl ⟨e, 2, 10, rfl, hs.2, by omega, by omega, fun H3 s3 => ?_⟩⟩
        refine ⟨p, ln, lo, L, e, rfl, (hD2.same s3).kp, by omega, by omega, by omega, fun r2 H4 s4 hr2 => ?_⟩
        have er : r2 = r := isLack_unique hr2 g3
        subst er
        have hb := lack_small hr2 (by omega) g2 hD.kp.rng (by omega)
        exact ⟨_, rfl, by rw [Int.natAbs_natCast]; exact hb, by omega, fun t ht => q t _ (s12.free (s3.free (s4.free ht))) (s12.trans (s3.trans (s4.trans (same_new ht)))) upd_same⟩
    · have hs := small n h2
      have e4 : ("come" : PySem.Str).length = 4 := by decide +kernel
      refine ⟨bl1, by rw [len_ln2, e4]; omega, ?_⟩
      rw [split_ln2 (by decide +kernel)]
      intro w0 hw0
      have s1 := same_new (o := .lst ([("come" : PySem.Str), sN n].map V.str)) hw0
      have hw : upd H w0 (.lst ([("come" : PySem.Str), sN n].map V.str)) w0 = _ := upd_same
      have hD1 := hD.same s1
      generalize upd H w0 (.lst ([("come" : PySem.Str), sN n].map V.str)) = H1 at s1 hw hD1 ⊢
      refine go _ _ ["come", "go"] H1 w0 _ hw (by decide) fun H2 s2 => ?_
      rw [if_pos (by decide +kernel)]
      have hw2 := s2 _ _ hw
      have hD2 := hD1.same s2
      refine ⟨w0, _, rfl, SqL.of hw2, ?_⟩
      refine ⟨hD2.dk.isO (by decide +kernel), r_ixL (SqL.of hw2) rfl (r_ixL (SqL.of hw2) rfl ⟨n, 0, 1000000, rfl, hs.2, by omega, by omega, fun H3 s3 => ?_⟩)⟩
      refine ⟨d, p, ln, lo, n, L, _, rfl, hD2.same s3, by omega, .inl ⟨rfl, h1, h2, h3, fun H4 k4 hD4 => ⟨by show 0 ≤ sizeLine; omega, fun t ht => ?_⟩⟩⟩
      refine q t _ ((s1.trans (s2.trans s3)).free (hD4.free k4 ht)) ((K2.of (s1.trans (s2.trans s3))).trans (k4.trans (K2.of (same_new ht)))) (hD4.same (same_new ht)) upd_same
    · have hn := hD.kp.rng n h1
      have hs := small n hn.2
      have e2 : ("go" : PySem.Str).length = 2 := by decide +kernel
      refine ⟨bl1, by rw [len_ln2, e2]; omega, ?_⟩
      rw [split_ln2 (by decide +kernel)]
      intro w0 hw0
      have s1 := same_new (o := .lst ([("go" : PySem.Str), sN n].map V.str)) hw0
      have hw : upd H w0 (.lst ([("go" : PySem.Str), sN n].map V.str)) w0 = _ := upd_same
      have hD1 := hD.same s1
      generalize upd H w0 (.lst ([("go" : PySem.Str), sN n].map V.str)) = H1 at s1 hw hD1 ⊢
      refine go _ _ ["come", "go"] H1 w0 _ hw (by decide) fun H2 s2 => ?_
      rw [if_pos (by decide +kernel)]
      have hw2 := s2 _ _ hw
      have hD2 := hD1.same s2
      refine ⟨w0, _, rfl, SqL.of hw2, ?_⟩
      refine ⟨hD2.dk.isO (by decide +kernel), r_ixL (SqL.of hw2) rfl (r_ixL (SqL.of hw2) rfl ⟨n, 0, 1000000, rfl, hs.2, by omega, by omega, fun H3 s3 => ?_⟩)⟩
      refine ⟨d, p, ln, lo, n, L, _, rfl, hD2.same s3, by omega, .inr ⟨rfl, h1, fun H4 L' k4 hp4 hD4 => ⟨by show 0 ≤ sizeLine; omega, fun t ht => ?_⟩⟩⟩
      refine q t _ L' ((s1.trans (s2.trans s3)).free (hD4.free k4 ht)) ((K2.of (s1.trans (s2.trans s3))).trans (k4.trans (K2.of (same_new ht)))) hp4 (hD4.same (same_new ht)) upd_same
end
abbrev s__law_seed : Stmt := top 67
theorem sc__law_seed : FnScope ["cell", "number"] ["cell"] (defScope s__law_seed) := ⟨rfl, rfl, rfl, by decide +kernel, rfl, by decide +kernel, by decide +kernel⟩
def sp__law_seed (K : PySem.W.Frag) : Sp := fun vs H Q _ => ∃ (c : Int), vs = [.int c] ∧ ∀ (p : Addr) (H' : Hp), H p = none → Same H H' → Sd H' p → Q (.ref p) H'
section
variable {P : Program} {w : World} {K : PySem.W.Frag} {mg : PySem.Str → Option Value} {base : Heap}
theorem bi__law_seed {f : Addr} {fd : FuncData} (F : Fun K "_law_seed" "_law_seed" s__law_seed f fd) : Binds K fd ["cell"] [] := F.binds (ps := ["cell"]) fun _ _ _ _ _ _ us hl => match us, hl with | [_], _ => rfl
set_option maxHeartbeats 4000000 in
theorem ok__law_seed {f : Addr} {fd : FuncData} (F : Fun K "_law_seed" "_law_seed" s__law_seed f fd) (B : Bt mg)   : FnOk P w K mg base CX0 1 f fd ["cell"] (sp__law_seed K) := by
  refine F.ok sc__law_seed (fun vs H Q E h => ?_) (fun cdv A outer s H vs Q E hr h => ?_)
  · obtain ⟨c, rfl, q⟩ := h
    rfl
  · obtain ⟨c, rfl, q⟩ := h
    refine ⟨_, (pss_cons (ps_set (i := 1) sc__law_seed.nd rfl (Or.inl rfl) (pe_callB (call_max2 rfl) (by rfl) B.max (by decide +kernel) (pa_cons (pv 0) (pa_cons (pe_op op_sub pe_int (pv 0)) pa_nil))))
      (pss_one (ps_ret (pe_lst (pa_cons (pv 1) (pa_cons (pe_callTy call_int1 (by rfl) B.int (by decide +kernel) (pa_cons (pe_cmpR op_ge (pv 1) (pe_op op_pow pe_int pe_int) (nomark _)) pa_nil)) (pa_cons pe_int (pa_cons (pe_op op_mod (pv 0) pe_int) pa_nil)))))))), ?_⟩
    walk_at "w"
    refine ⟨by unfold CPow; omega, by omega, by show 4 ≤ sizeLine; decide, fun p hp => q p _ hp (same_new hp) ⟨_, _, _, _, upd_same⟩⟩
end
abbrev s__law_draw : Stmt := top 68
theorem sc__law_draw : FnScope ["seed", "most", "found", "number"] ["seed", "most"] (defScope s__law_draw) := ⟨rfl, rfl, rfl, by decide +kernel, rfl, by decide +kernel, by decide +kernel⟩
def sp__law_draw (K : PySem.W.Frag) : Sp := fun vs H Q _ => ∃ (a : Addr) (m : Int), vs = [.ref a, .int m] ∧ Sd H a ∧ 1 ≤ m ∧ m < 2 ^ 200 ∧ ∀ (r : Int) (H' : Hp), Kp a H H' → Sd H' a → 0 ≤ r → r < m → Q (.int r) H'
theorem use_draw {K : PySem.W.Frag} {a : Addr} {m : Int} {H H0 : Hp} {Q : VK} {E : XK} (k : Kp a H0 H) (d : Sd H a) (h1 : 1 ≤ m) (h2 : m < 2 ^ 200)
    (q : ∀ (r : Int) (H' : Hp), Kp a H H' → Kp a H0 H' → Sd H' a → 0 ≤ r → r < m → Q (.int r) H') : sp__law_draw K [.ref a, .int m] H Q E :=
  ⟨a, m, rfl, d, h1, h2, fun r H' k' d' => q r H' k' (k.trans k') d'⟩
theorem use_pick {K : PySem.W.Frag} {a p : Addr} {m : Int} {xs : List V} {H H0 : Hp} {Q : VK} {E : XK} (P : V → Prop) (hP : ∀ x ∈ xs, P x) (k : Kp a H0 H) (d : Sd H a) (hp : H p = none) (hm : (xs.length : Int) = m) (h1 : 1 ≤ m) (h2 : m < 2 ^ 200)
    (q : ∀ (v : V) (H' : Hp), P v → Kp a H H' → Kp a H0 H' → Sd H' a → Q v H') : sp__law_draw K [.ref a, .int m] (upd H p (.lst xs)) (fun y H2 => rIxL K (.ref p) y H2 Q) E := by
  have np := d.ne hp
  refine use_draw (K := K) (k.trans (sm_kp (same_new hp))) (d.same (same_new hp)) h1 h2 fun r H' k' K' d' r0 r1 => ?_
  obtain ⟨v, hv, hat⟩ := atI_mem (xs := xs) r0 (by omega)
  exact r_ixL (SqL.of (k' _ _ np upd_same)) hat (q v H' (hP v hv) ((sm_kp (same_new hp)).trans k') K' d')
section
variable {P : Program} {w : World} {K : PySem.W.Frag} {mg : PySem.Str → Option Value} {base : Heap}
theorem bi__law_draw {f : Addr} {fd : FuncData} (F : Fun K "_law_draw" "_law_draw" s__law_draw f fd) : Binds K fd ["seed", "most"] [] := F.binds (ps := ["seed", "most"]) fun _ _ _ _ _ _ us hl => match us, hl with | [_, _], _ => rfl
set_option maxHeartbeats 4000000 in
theorem ok__law_draw {f : Addr} {fd : FuncData} (F : Fun K "_law_draw" "_law_draw" s__law_draw f fd) (B : Bt mg)   : FnOk P w K mg base CX0 1 f fd ["seed", "most"] (sp__law_draw K) := by
  refine F.ok sc__law_draw (fun vs H Q E h => ?_) (fun cdv A outer s H vs Q E hr h => ?_)
  · obtain ⟨a, m, rfl, hD, hm, hm2, q⟩ := h
    rfl
  · obtain ⟨a, m, rfl, hD, hm, hm2, q⟩ := h
    refine ⟨_, (pss_cons (ps_asg (pe_op op_add (pe_ix (k_ixL K) (pv 0) pe_int (fun _ _ => rfl)) pe_int) (pg_sub (pv 0) pe_int set_list))
      (pss_cons (ps_if (PW.pt (pw_and (pt_cmpR op_eq (pe_ix (k_ixL K) (pv 0) pe_int (fun _ _ => rfl)) pe_int (nomark _)) (pw_and1 (pt_cmpR op_gt (pe_ix (k_ixL K) (pv 0) pe_int (fun _ _ => rfl)) pe_int (nomark _)))))
        (pss_cons (ps_set (i := 2) sc__law_draw.nd rfl (Or.inl rfl) (pe_op op_mod (pe_ix (k_ixL K) (pv 0) pe_int (fun _ _ => rfl)) (pv 1)))
        (pss_cons (ps_asg (pe_op op_fdivW (pe_ix (k_ixL K) (pv 0) pe_int (fun _ _ => rfl)) (pv 1)) (pg_sub (pv 0) pe_int set_list))
        (pss_one (ps_ret (pv 2)))))
        pss_nil)
      (pss_cons (ps_set (i := 3) sc__law_draw.nd rfl (Or.inl rfl) (pe_op op_mod (pe_op op_mul (pe_op op_add (pe_op op_add (pe_ix (k_ixL K) (pv 0) pe_int (fun _ _ => rfl)) (pe_op op_mul pe_int (pe_ix (k_ixL K) (pv 0) pe_int (fun _ _ => rfl)))) pe_int) pe_int) pe_int))
      (pss_cons (ps_set (i := 3) sc__law_draw.nd rfl (Or.inl rfl) (pe_op op_mod (pe_op op_mul (pe_op op_mod (pe_op op_mulW (pv 3) (pv 3)) pe_int) pe_int) pe_int))
      (pss_one (ps_ret (pe_op op_mod (pe_op op_fdiv (pv 3) pe_int) (pv 1)))))))), ?_⟩
    obtain ⟨x, f, c, s, h1⟩ := hD
    have hk : ∀ o, Kp a H (upd H a o) := fun o => (Kp.refl a H).upd
    have q2 : ∀ (z x' f' c' s' : Int), Q (.int (z % m)) (upd H a (.lst [.int x', .int f', .int c', .int s'])) := fun z x' f' c' s' => q _ _ (hk _) ⟨_, _, _, _, upd_same⟩ (Int.emod_nonneg _ (by omega)) (Int.emod_lt_of_pos _ (by omega))
    have hdv : ∀ z : Int, CDivW z m := fun z => wide_div (b := 200) (by omega) (by omega) (by decide) (by decide)
    have rest : ∀ (s c : Int), CMul (s + 7643 * c + 103) 48271 := fun _ _ => by unfold CMul; omega
    walk_at "w"
    walk_at "ix"
    walk_at "st"
    walk_at "ix"
    refine ite2 (fun hf => ?_) (fun hf => ?_)
    · walk_at "ix"
      refine ite2 (fun hx => ?_) (fun hx => ?_)
      · walk_at "ix"
        refine ⟨by omega, ?_⟩
        walk_at "ix"
        refine ⟨hdv _, ?_⟩
        walk_at "st"
        rw [upd_upd]
        exact q2 _ _ _ _ _
      · walk_at "ix"
        walk_at "ix"
        generalize hz : (s + 7643 * (c + 1) + 103) * 48271 % 2147483647 = z
        have hz1 : 0 ≤ z ∧ z < 2147483647 := by omega
        generalize hy : z * z % 2147483629 = y
        have hy1 : 0 ≤ y ∧ y < 2147483629 := by omega
        refine ⟨by unfold CMul; omega, by unfold CMul; omega, by omega, wide_mul (a := 64) (b := 64) (by omega) (by omega) (by decide) (by decide) (by decide), by omega, by unfold CMul; omega, by omega, by unfold CDiv; omega, by omega, q2 _ _ _ _ _⟩
    · walk_at "ix"
      walk_at "ix"
      generalize hz : (s + 7643 * (c + 1) + 103) * 48271 % 2147483647 = z
      have hz1 : 0 ≤ z ∧ z < 2147483647 := by omega
      generalize hy : z * z % 2147483629 = y
      have hy1 : 0 ≤ y ∧ y < 2147483629 := by omega
      refine ⟨by unfold CMul; omega, by unfold CMul; omega, by omega, wide_mul (a := 64) (b := 64) (by omega) (by omega) (by decide) (by decide) (by decide), by omega, by unfold CMul; omega, by omega, by unfold CDiv; omega, by omega, q2 _ _ _ _ _⟩
end
abbrev s__law_cells : Stmt := top 69
theorem sc__law_cells : FnScope ["script", "many"] ["script", "many"] (defScope s__law_cells) := ⟨rfl, rfl, rfl, by decide +kernel, rfl, by decide +kernel, by decide +kernel⟩
def sp__law_cells (K : PySem.W.Frag) : Sp := fun vs H Q _ => ∃ (a : Addr) (ns : List Int) (m : Nat), vs = [.ref a, .int (m : Int)] ∧ SqL K H a (ns.map V.int) ∧ ns.length ≤ 63 ∧ ∀ (t : Addr) (xs : List Int) (H' : Hp), H t = none → Same H H' → H' t = some (.lst (xs.map V.int)) → xs.length ≤ m + 1 → xs.length ≤ 64 → Q (.ref t) H'
section
variable {P : Program} {w : World} {K : PySem.W.Frag} {mg : PySem.Str → Option Value} {base : Heap}
theorem bi__law_cells {f : Addr} {fd : FuncData} (F : Fun K "_law_cells" "_law_cells" s__law_cells f fd) : Binds K fd ["script", "many"] [] := F.binds (ps := ["script", "many"]) fun _ _ _ _ _ _ us hl => match us, hl with | [_, _], _ => rfl
set_option maxHeartbeats 4000000 in
theorem ok__law_cells {f : Addr} {fd : FuncData} (F : Fun K "_law_cells" "_law_cells" s__law_cells f fd) (B : Bt mg)   : FnOk P w K mg base CX0 1 f fd ["script", "many"] (sp__law_cells K) := by
  refine F.ok sc__law_cells (fun vs H Q E h => ?_) (fun cdv A outer s H vs Q E hr h => ?_)
  · obtain ⟨a, ns, m, rfl, hS, hlen, q⟩ := h
    rfl
  · obtain ⟨a, ns, m, rfl, hS, hlen, q⟩ := h
    refine ⟨_, (pss_one (ps_ret (pe_op op_cat (pe_slice (k_slL K) (pv 0) po_none (po_some (pv 1))) (pe_lst (pa_cons (pe_callB (k_len K) (by rfl) B.len (by decide +kernel) (pa_cons (pv 0) pa_nil)) pa_nil))))), ?_⟩
    walk_at "w"
    refine r_slL hS fun l hl => ?_
    have s1 := same_new (o := .lst (cutV (ns.map V.int) none (some (m : Int)))) hl
    refine r_len (s1.seq hS) ⟨by show 1 ≤ sizeLine; decide, fun p hp => ?_⟩
    have ec : cutV (ns.map V.int) none (some (m : Int)) = (ns.take m).map V.int := by rw [cut_to, List.map_take]
    rw [ec] at s1 hp ⊢
    have nl := ne_of_none (upd_same (H := H) (a := l) (o := .lst ((ns.take m).map V.int))) hp
    have l1 : (ns.take m).length ≤ 63 := by rw [List.length_take]; omega
    refine r_cat ((upd_ne nl).trans upd_same) upd_same (size_le' (by rw [List.length_map]; show (ns.take m).length + 1 ≤ 1000000; omega)) fun u hu => ?_
    have s2 := s1.trans (same_new (o := .lst [V.int ((ns.map V.int).length : Int)]) hp)
    refine q u (ns.take m ++ [((ns.map V.int).length : Int)]) _ (s2.free hu) (s2.trans (same_new hu)) (by rw [upd_same]; simp) ?_ ?_
    · rw [List.length_append, List.length_take]
      show min m ns.length + 1 ≤ m + 1
      omega
    · rw [List.length_append]
      show (ns.take m).length + 1 ≤ 64
      omega
end
abbrev s__law_taken : Stmt := top 70
theorem sc__law_taken : FnScope ["base", "exponent", "found", "turn"] ["base", "exponent"] (defScope s__law_taken) := ⟨rfl, rfl, rfl, by decide +kernel, rfl, by decide +kernel, by decide +kernel⟩
def sp__law_taken (K : PySem.W.Frag) : Sp := fun vs H Q _ => ∃ (b e a : Nat), vs = [.int (b : Int), .int (e : Int)] ∧ b < 2 ^ a ∧ e ≤ 1000000 ∧ a * e ≤ 300000 ∧ Q (.int ((b ^ e : Nat) : Int)) H
section
variable {P : Program} {w : World} {K : PySem.W.Frag} {mg : PySem.Str → Option Value} {base : Heap}
theorem bi__law_taken {f : Addr} {fd : FuncData} (F : Fun K "_law_taken" "_law_taken" s__law_taken f fd) : Binds K fd ["base", "exponent"] [] := F.binds (ps := ["base", "exponent"]) fun _ _ _ _ _ _ us hl => match us, hl with | [_, _], _ => rfl
set_option maxHeartbeats 4000000 in
theorem ok__law_taken {f : Addr} {fd : FuncData} (F : Fun K "_law_taken" "_law_taken" s__law_taken f fd) (B : Bt mg)   : FnOk P w K mg base CX0 1 f fd ["base", "exponent"] (sp__law_taken K) := by
  refine F.ok sc__law_taken (fun vs H Q E h => ?_) (fun cdv A outer s H vs Q E hr h => ?_)
  · obtain ⟨b, e, a, rfl, hb, he, ha, q⟩ := h
    rfl
  · obtain ⟨b, e, a, rfl, hb, he, ha, q⟩ := h
    refine ⟨_, (pss_cons (ps_set (i := 2) sc__law_taken.nd rfl (Or.inl rfl) pe_int)
      (pss_cons (ps_for PassesOwn.never rfl (pi_range1 rfl B.range (pa_cons (pv 1) pa_nil)) (pg_name (i := 3) sc__law_taken.nd rfl (Or.inl rfl))
        (pss_one (ps_set (i := 2) sc__law_taken.nd rfl (Or.inl rfl) (pe_op op_mulW (pv 2) (pv 0)))))
      (pss_one (ps_ret (pv 2))))), ?_⟩
    walk_at "w"
    refine ⟨by omega, by omega, for_r (fun i σ H' => ∃ (v : Option V), σ = [some (.int b), some (.int e), some (.int ((b ^ i : Nat) : Int)), v] ∧ H' = H) ⟨none, by simp, rfl⟩ ?_ ?_⟩
    · rintro i σ H' hi ⟨v, rfl, rfl⟩ N hN
      have hi : i < e := by omega
      have h1 : b ^ i ≤ 2 ^ (a * e) := by
        rw [Nat.pow_mul]
        refine Nat.le_trans (Nat.pow_le_pow_left (Nat.le_of_lt hb) i) (Nat.pow_le_pow_right (Nat.two_pow_pos a) (by omega))
      have h2 : b ≤ 2 ^ (a * e) := Nat.le_trans (Nat.le_of_lt hb) (Nat.pow_le_pow_right (by decide) (Nat.le_mul_of_pos_right a (by omega)))
      have l1 := log2_le_of_le h1
      have l2 := log2_le_of_le h2
      walk_at "w"
      rw [show ((b ^ i : Nat) : Int) * (b : Int) = ((b ^ (i + 1) : Nat) : Int) by simp [Nat.pow_succ]]
      exact ⟨cmulN (by omega), hN _ _ ⟨_, rfl, rfl⟩⟩
    · rintro σ H' ⟨v, rfl, rfl⟩
      walk_at "w"
      exact q
end
abbrev s__law_root : Stmt := top 71
theorem sc__law_root : FnScope ["number", "exponent", "less", "more", "amid"] ["number", "exponent"] (defScope s__law_root) := ⟨rfl, rfl, rfl, by decide +kernel, rfl, by decide +kernel, by decide +kernel⟩
def sp__law_root (K : PySem.W.Frag) : Sp := fun vs H Q _ => ∃ (n e c : Nat), vs = [.int (n : Int), .int (e : Int)] ∧ 1 ≤ e ∧ n < 2 ^ c ∧ c + 2 * e ≤ 300000 ∧ Q (.int (rootN n e : Nat)) H
theorem rt_bits_half {j e n c : Nat} (h1 : (2 ^ j) ^ e ≤ n) (hn : n < 2 ^ c) : j * e < c := by
  rw [← Nat.pow_mul] at h1
  exact (Nat.pow_lt_pow_iff_right (by omega : 1 < 2)).mp (Nat.lt_of_le_of_lt h1 hn)
section
variable {P : Program} {w : World} {K : PySem.W.Frag} {mg : PySem.Str → Option Value} {base : Heap}
theorem bi__law_root {f : Addr} {fd : FuncData} (F : Fun K "_law_root" "_law_root" s__law_root f fd) : Binds K fd ["number", "exponent"] [] := F.binds (ps := ["number", "exponent"]) fun _ _ _ _ _ _ us hl => match us, hl with | [_, _], _ => rfl
set_option maxHeartbeats 4000000 in
theorem ok__law_root {f : Addr} {fd : FuncData} (F : Fun K "_law_root" "_law_root" s__law_root f fd) (B : Bt mg)  (h__law_taken : Fn P w K mg base CX0 1 "_law_taken" ["base", "exponent"] (sp__law_taken K)) : FnOk P w K mg base CX0 2 f fd ["number", "exponent"] (sp__law_root K) := by
  refine F.ok sc__law_root (fun vs H Q E h => ?_) (fun cdv A outer s H vs Q E hr h => ?_)
  · obtain ⟨n, e, c, rfl, he, hn, hc, q⟩ := h
    rfl
  · obtain ⟨n, e, c, rfl, he, hn, hc, q⟩ := h
    refine ⟨_, (pss_cons (ps_set (i := 2) sc__law_root.nd rfl (Or.inl rfl) pe_int)
      (pss_cons (ps_set (i := 3) sc__law_root.nd rfl (Or.inl rfl) pe_int)
      (pss_cons (ps_while PassesOwn.never (pt_cmpR op_le (pe_fn h__law_taken (hr.mono (by decide)) (by rfl) (pa_cons (pv 3) (pa_cons (pv 1) pa_nil))) (pv 0) (nomark _))
        (pss_one (ps_set (i := 3) sc__law_root.nd rfl (Or.inl rfl) (pe_op op_mul (pv 3) pe_int))))
      (pss_cons (ps_while PassesOwn.never (pt_cmpR op_gt (pe_op op_sub (pv 3) (pv 2)) pe_int (nomark _))
        (pss_cons (ps_set (i := 4) sc__law_root.nd rfl (Or.inl rfl) (pe_op op_fdiv (pe_op op_add (pv 2) (pv 3)) pe_int))
        (pss_one (ps_if (pt_cmpR op_le (pe_fn h__law_taken (hr.mono (by decide)) (by rfl) (pa_cons (pv 4) (pa_cons (pv 1) pa_nil))) (pv 0) (nomark _))
          (pss_one (ps_set (i := 2) sc__law_root.nd rfl (Or.inl rfl) (pv 4)))
          (pss_one (ps_set (i := 3) sc__law_root.nd rfl (Or.inl rfl) (pv 4)))))))
      (pss_one (ps_ret (pv 2))))))), ?_⟩
    walk_at "w"
    have key : ∀ j : Nat, (j = 0 ∨ (2 ^ (j - 1)) ^ e ≤ n) → (j + 1) * e ≤ c + 2 * e := by
      intro j hj
      rcases hj with rfl | hj
      · omega
      · rcases Nat.eq_zero_or_pos j with rfl | hp
        · omega
        · have := rt_bits_half hj hn
          have e1 : j + 1 = (j - 1) + 2 := by omega
          rw [e1, Nat.add_mul]
          omega
    refine while_m (fun m σ H' => ∃ j : Nat, σ = [some (.int n), some (.int e), some (.int 0), some (.int ((2 ^ j : Nat) : Int)), none] ∧ H' = H ∧ m = n + 1 - j ∧ j ≤ n + 1 ∧ (j = 0 ∨ (2 ^ (j - 1)) ^ e ≤ n)) (n + 1) ⟨0, by simp, rfl, rfl, by omega, .inl rfl⟩ ?_
    rintro m σ H' ⟨j, rfl, rfl, rfl, hjn, hj⟩ G hG
    walk_at "w"
    refine ⟨2 ^ j, e, j + 1, rfl, Nat.pow_lt_pow_right (by omega) (by omega), by omega, by have := key j hj; omega, ?_⟩
    walk_at "w"
    refine ite2 (fun ht => hG _ _ fun N hN => ?_) (fun ht => ?_)
    · have ht' : (2 ^ j) ^ e ≤ n := by omega
      have hjlt : j ≤ n := by
        have h2 : 2 ^ j ≤ (2 ^ j) ^ e := Nat.le_self_pow (by omega) _
        have h3 : j < 2 ^ j := Nat.lt_two_pow_self
        omega
      walk_at "w"
      refine ⟨by unfold CMul; omega, hN (n + 1 - (j + 1)) _ _ (by omega) ⟨j + 1, ?_, rfl, rfl, by omega, .inr (by simpa using ht')⟩⟩
      simp [Nat.pow_succ]
    · have ht' : n < (2 ^ j) ^ e := by omega
      refine while_m (fun m σ H2 => ∃ (lo hi : Nat) (b : Option V), σ = [some (.int n), some (.int e), some (.int lo), some (.int hi), b] ∧ H2 = H' ∧ hi - lo = m ∧ lo < hi ∧ hi ≤ 2 ^ j ∧ lo ^ e ≤ n ∧ n < hi ^ e) (2 ^ j) ⟨0, 2 ^ j, none, rfl, rfl, Nat.sub_zero _, Nat.two_pow_pos j, Nat.le_refl _, by rw [Nat.zero_pow (by omega)]; omega, ht'⟩ ?_
      rintro m σ H2 ⟨lo, hi, b, rfl, rfl, rfl, hlt, hle, h1, h2⟩ G hG
      have key2 := key j hj
      walk_at "w"
      refine ite2 (fun hw => hG _ _ fun N hN => ?_) (fun hw => ?_)
      · have e1 : ((lo : Int) + hi) / 2 = (((lo + hi) / 2 : Nat) : Int) := by omega
        have hpow : 2 ^ j < 2 ^ (j + 1) := Nat.pow_lt_pow_right (by omega) (by omega)
        walk_at "w"
        refine ⟨by unfold CDiv; omega, (lo + hi) / 2, e, j + 1, by rw [e1], by omega, by omega, by omega, ?_⟩
        walk_at "w"
        refine ite2 (fun hs => hN (hi - (lo + hi) / 2) _ _ (by omega) ⟨(lo + hi) / 2, hi, _, by rw [e1], rfl, rfl, by omega, hle, by omega, h2⟩)
          (fun hs => hN ((lo + hi) / 2 - lo) _ _ (by omega) ⟨lo, (lo + hi) / 2, _, by rw [e1], rfl, rfl, by omega, by omega, h1, by omega⟩)
      · have e2 : hi = lo + 1 := by omega
        subst e2
        walk_at "w"
        have := rootN_is he h1 h2
        rw [this]
        exact q
end
abbrev s__law_number : Stmt := top 74
theorem sc__law_number : FnScope ["seed", "most", "far", "exponent", "base", "some"] ["seed", "most"] (defScope s__law_number) := ⟨rfl, rfl, rfl, by decide +kernel, rfl, by decide +kernel, by decide +kernel⟩
def sp__law_number (K : PySem.W.Frag) : Sp := fun vs H Q _ => ∃ (a : Addr) (m : Nat), vs = [.ref a, .int (m : Int)] ∧ Sd H a ∧ 1 ≤ m ∧ m ≤ 10 ^ 40 ∧ ∀ (r : Nat) (H' : Hp), Kp a H H' → Sd H' a → r ≤ m → Q (.int (r : Int)) H'
section
variable {P : Program} {w : World} {K : PySem.W.Frag} {mg : PySem.Str → Option Value} {base : Heap}
theorem bi__law_number {f : Addr} {fd : FuncData} (F : Fun K "_law_number" "_law_number" s__law_number f fd) : Binds K fd ["seed", "most"] [] := F.binds (ps := ["seed", "most"]) fun _ _ _ _ _ _ us hl => match us, hl with | [_, _], _ => rfl
set_option maxHeartbeats 4000000 in
theorem ok__law_number {f : Addr} {fd : FuncData} (F : Fun K "_law_number" "_law_number" s__law_number f fd) (B : Bt mg)  (h__law_draw : Fn P w K mg base CX0 1 "_law_draw" ["seed", "most"] (sp__law_draw K)) (h__law_root : Fn P w K mg base CX0 2 "_law_root" ["number", "exponent"] (sp__law_root K)) (h__law_taken : Fn P w K mg base CX0 1 "_law_taken" ["base", "exponent"] (sp__law_taken K)) : FnOk P w K mg base CX0 3 f fd ["seed", "most"] (sp__law_number K) := by
  refine F.ok sc__law_number (fun vs H Q E h => ?_) (fun cdv A outer s H vs Q E hr h => ?_)
  · obtain ⟨a, m, rfl, hD, hm1, hm, q⟩ := h
    rfl
  · obtain ⟨a, m, rfl, hD, hm1, hm, q⟩ := h
    refine ⟨_, (pss_cons (ps_set (i := 2) sc__law_number.nd rfl (Or.inl rfl) (pe_op op_add (pe_op op_add (pe_op op_mulW (pe_fn h__law_draw (hr.mono (by decide)) (by rfl) (pa_cons (pv 0) (pa_cons (pe_op op_pow pe_int pe_int) pa_nil))) (pe_op op_pow pe_int pe_int)) (pe_op op_mulW (pe_fn h__law_draw (hr.mono (by decide)) (by rfl) (pa_cons (pv 0) (pa_cons (pe_op op_pow pe_int pe_int) pa_nil))) (pe_op op_pow pe_int pe_int))) (pe_fn h__law_draw (hr.mono (by decide)) (by rfl) (pa_cons (pv 0) (pa_cons (pe_op op_pow pe_int pe_int) pa_nil)))))
      (pss_cons (ps_set (i := 3) sc__law_number.nd rfl (Or.inl rfl) (pe_op op_add pe_int (pe_fn h__law_draw (hr.mono (by decide)) (by rfl) (pa_cons (pv 0) (pa_cons (pe_ix (k_ixL K) (pe_lst (pa_cons pe_int (pa_cons pe_int (pa_cons pe_int pa_nil)))) (pe_fn h__law_draw (hr.mono (by decide)) (by rfl) (pa_cons (pv 0) (pa_cons pe_int pa_nil))) (fun _ _ => rfl)) pa_nil)))))
      (pss_cons (ps_set (i := 4) sc__law_number.nd rfl (Or.inl rfl) (pe_op op_add pe_int (pe_op op_mod (pv 2) (pe_callB (call_max2 rfl) (by rfl) B.max (by decide +kernel) (pa_cons pe_int (pa_cons (pe_op op_sub (pe_fn h__law_root (hr.mono (by decide)) (by rfl) (pa_cons (pv 1) (pa_cons (pv 3) pa_nil))) pe_int) pa_nil))))))
      (pss_cons (ps_set (i := 5) sc__law_number.nd rfl (Or.inl rfl) (pe_lst (pa_cons (pe_fn h__law_draw (hr.mono (by decide)) (by rfl) (pa_cons (pv 0) (pa_cons pe_int pa_nil))) (pa_cons (pe_op op_sub (pe_op op_add (pe_fn h__law_taken (hr.mono (by decide)) (by rfl) (pa_cons (pv 4) (pa_cons (pv 3) pa_nil))) (pe_fn h__law_draw (hr.mono (by decide)) (by rfl) (pa_cons (pv 0) (pa_cons pe_int pa_nil)))) pe_int) (pa_cons (pe_op op_mod (pv 2) (pe_op op_add (pv 1) pe_int)) (pa_cons (pe_op op_mulW (pv 4) (pv 4)) pa_nil))))))
      (pss_one (ps_ret (pe_callB (call_min2 rfl) (by rfl) B.min (by decide +kernel) (pa_cons (pv 1) (pa_cons (pe_ix (k_ixL K) (pv 5) (pe_fn h__law_draw (hr.mono (by decide)) (by rfl) (pa_cons (pv 0) (pa_cons pe_int pa_nil))) (fun _ _ => rfl)) pa_nil))))))))), ?_⟩
    have e9 : (10 : Int) ^ Int.toNat 9 = 1000000000 := rfl
    have c9 : CPow 10 9 := by unfold CPow; omega
    have c31 : CPow 10 31 := by unfold CPow; omega
    have c20 : CPow 10 20 := by unfold CPow; omega
    walk_at "w"
    rw [e9]
    refine ⟨c9, use_draw (Kp.refl a H) hD (by omega) (by omega) fun d1 H1 _ K1 D1 a1 b1 => ?_⟩
    walk_at "w"
    have e31 : (10 : Int) ^ Int.toNat 31 = 10000000000000000000000000000000 := rfl
    have e20 : (10 : Int) ^ Int.toNat 20 = 100000000000000000000 := rfl
    rw [e31]
    refine ⟨c31, wide_mul (a := 128) (b := 128) (by omega) (by omega) (by decide) (by decide) (by decide), c9, use_draw K1 D1 (by omega) (by omega) fun d2 H2 _ K2 D2 a2 b2 => ?_⟩
    walk_at "w"
    rw [e20]
    refine ⟨c20, wide_mul (a := 128) (b := 128) (by omega) (by omega) (by decide) (by decide) (by decide), c9, use_draw K2 D2 (by omega) (by omega) fun d3 H3 _ K3 D3 a3 b3 => ?_⟩
    walk_at "w"
    refine ⟨by show 3 ≤ sizeLine; decide, fun p1 hp1 => ?_⟩
    refine use_pick (fun v => ∃ z : Int, v = .int z ∧ 3 ≤ z ∧ z ≤ 60) (fun x hx => by
      simp only [List.mem_cons, List.not_mem_nil, or_false] at hx
      rcases hx with rfl | rfl | rfl <;> exact ⟨_, rfl, by omega, by omega⟩) K3 D3 hp1 rfl (by omega) (by omega) fun v H4 hv _ K4 D4 => ?_
    obtain ⟨z, rfl, z1, z2⟩ := hv
    refine use_draw K4 D4 (by omega) (by omega) fun r5 H5 _ K5 D5 a5 b5 => ?_
    obtain ⟨F, hF⟩ : ∃ F : Nat, d1 * 10000000000000000000000000000000 + d2 * 100000000000000000000 + d3 = (F : Int) := ⟨_, (Int.toNat_of_nonneg (by omega)).symm⟩
    rw [hF]
    obtain ⟨r5, rfl⟩ := Int.eq_ofNat_of_zero_le a5
    obtain ⟨e, he⟩ : ∃ e : Nat, (2 : Int) + (r5 : Int) = (e : Int) := ⟨2 + r5, by omega⟩
    walk_at "w"
    rw [he]
    have he2 : 2 ≤ e ∧ e ≤ 62 := by omega
    have h134 : (10 : Nat) ^ 40 < 2 ^ 134 := by decide
    walk_at "w"
    refine ⟨m, e, 134, rfl, by omega, by omega, by omega, ?_⟩
    have hR : rootN m e ≤ m := Nat.le_trans (Nat.le_self_pow (by omega) _) (rootN_le (n := m) (e := e) (by omega))
    generalize rootN m e = R at hR ⊢
    walk_at "w"
    obtain ⟨W, hW, hW1, hW2⟩ : ∃ W : Nat, (if (R : Int) - 1 > 1 then (R : Int) - 1 else 1) = (W : Int) ∧ 1 ≤ W ∧ W ≤ m := by
      by_cases c : (R : Int) - 1 > 1
      · exact ⟨R - 1, by rw [if_pos c]; omega, by omega, by omega⟩
      · exact ⟨1, by rw [if_neg c]; rfl, by omega, by omega⟩
    rw [hW]
    have hmod : (F : Int) % (W : Int) = ((F % W : Nat) : Int) := by push_cast; rfl
    have hlt : F % W < W := Nat.mod_lt _ (by omega)
    obtain ⟨b, hb⟩ : ∃ b : Nat, (2 : Int) + ((F % W : Nat) : Int) = (b : Int) := ⟨2 + F % W, by omega⟩
    rw [hmod, hb]
    have hb2 : 2 ≤ b ∧ b < 2 ^ 134 := by omega
    refine ⟨by omega, use_draw K5 D5 (by omega) (by omega) fun r6 H6 _ K6 D6 a6 b6 => ?_⟩
    obtain ⟨r6, rfl⟩ := Int.eq_ofNat_of_zero_le a6
    walk_at "w"
    refine ⟨b, e, 134, rfl, hb2.2, by omega, by omega, ?_⟩
    have hpe : 1 ≤ b ^ e := Nat.pow_pos (by omega)
    walk_at "w"
    refine use_draw K6 D6 (by omega) (by omega) fun r7 H7 _ K7 D7 a7 b7 => ?_
    obtain ⟨r7, rfl⟩ := Int.eq_ofNat_of_zero_le a7
    have hm0 : (F : Int) % ((m : Int) + 1) = ((F % (m + 1) : Nat) : Int) := by
      have : (m : Int) + 1 = ((m + 1 : Nat) : Int) := by omega
      rw [this]
      push_cast
      rfl
    have hbb : (b : Int) * (b : Int) = ((b * b : Nat) : Int) := by push_cast; rfl
    have hpr : ((b ^ e : Nat) : Int) + (r7 : Int) - 1 = ((b ^ e + r7 - 1 : Nat) : Int) := by omega
    walk_at "w"
    rw [hm0, hbb, hpr]
    refine ⟨by omega, wide_mul (a := 140) (b := 140) (by omega) (by omega) (by decide) (by decide) (by decide), by show 4 ≤ sizeLine; decide, fun p2 hp2 => ?_⟩
    refine use_pick (fun v => ∃ z : Nat, v = .int (z : Int)) (fun x hx => by
      simp only [List.mem_cons, List.not_mem_nil, or_false] at hx
      rcases hx with rfl | rfl | rfl | rfl <;> exact ⟨_, rfl⟩) K7 D7 hp2 rfl (by omega) (by omega) fun v H8 hv _ K8 D8 => ?_
    obtain ⟨y, rfl⟩ := hv
    walk_at "w"
    by_cases c : y < m
    · rw [if_pos (by omega)]
      exact q y H8 K8 D8 (by omega)
    · rw [if_neg (by omega)]
      exact q m H8 K8 D8 (Nat.le_refl _)
end
abbrev s__law_deed : Stmt := top 76
theorem sc__law_deed : FnScope ["seed", "numbers", "number", "found"] ["seed", "numbers"] (defScope s__law_deed) := ⟨rfl, rfl, rfl, by decide +kernel, rfl, by decide +kernel, by decide +kernel⟩
def sp__law_deed (K : PySem.W.Frag) : Sp := fun vs H Q _ => ∃ (a nn : Addr) (L : List Nat), vs = [.ref a, .ref nn] ∧ Sd H a ∧ nn ≠ a ∧ H nn = some (.lst ((ofN L).map V.int)) ∧ (ofN L).Pairwise (· ≤ ·) ∧ L.length ≤ 60 ∧ (∀ x ∈ L, 1 ≤ x ∧ x ≤ 1000000) ∧
  ∀ (t b : Addr) (n : Nat) (z : PySem.Str) (L' : List Nat) (H' : Hp), Kp a H H' → Sd H' a → H b = none → H' t = some (.lst [.str z, .ref b]) → H' b = some (.lst ((ofN L').map V.int)) → (ofN L').Pairwise (· ≤ ·) → L'.length ≤ 60 →
    ((z = ln2 "come" n ∧ 1 ≤ n ∧ n ≤ 1000000 ∧ L.length < 60 ∧ L'.Perm (L ++ [n])) ∨ (z = ln2 "go" n ∧ n ∈ L ∧ L.Perm (n :: L'))) → Q (.ref t) H'
set_option hygiene false in
local macro_rules | `(tactic| walk_at "dk_go") => `(tactic| (
  refine r_len (SqL.of (k2 _ _ hna hB)) ?_
  rw [len2]
  refine use_draw k2 d2 (by omega) (by omega) fun r1 H3 _ k3 d3 a3 b3 => ?_
  obtain ⟨r1, rfl⟩ := Int.eq_ofNat_of_zero_le a3
  have hj : r1 < L.length := by omega
  have hat0 : L[r1]? = some L[r1] := List.getElem?_eq_getElem hj
  generalize L[r1] = m at hat0
  have hat : ((ofN L).map V.int)[r1]? = some (V.int (m : Int)) := by
    unfold ofN
    rw [List.getElem?_map, List.getElem?_map, hat0]
    rfl
  have hmem := List.mem_of_getElem? hat0
  have hrm := hrng m hmem
  have hB3 := k3 _ _ hna hB
  have hbg := big m hrm.2
  have hl3 : (Str.empty ++ "go " : PySem.Str).length = 3 := by decide +kernel
  refine r_ixL (SqL.of hB3) (atI_nat hat) (r_listL (SqL.of hB3) fun y hy => ⟨ty_list (SqL.of upd_same), ?_⟩)
  obtain ⟨j, h3, h4, h5, h6⟩ := first_in hmem
  refine ⟨y, ofN L, (m : Int), j, rfl, rfl, upd_same, h3, h4, ?_⟩
  rw [h5, upd_upd]
  have s1 := same_new (o := .lst ((ofN (L.eraseIdx j)).map V.int)) hy
  have hY : upd H3 y (.lst ((ofN (L.eraseIdx j)).map V.int)) y = _ := upd_same
  refine ⟨by rw [hl3]; omega, _, rfl, hbg.1, by rw [len_app, hl3]; omega, by omega, fun t ht => ?_⟩
  have s2 := s1.trans (same_new (o := .lst [V.str (Str.empty ++ "go " ++ Str.ofString (toString (m : Int))), V.ref y]) ht)
  have nyt := ne_of_none hY ht
  have hy0 : H y = none := k3.free (d3.ne hy) hy
  refine q t y m _ (L.eraseIdx j) _ (k3.trans (sm_kp s2)) (d3.same s2) hy0 upd_same ((upd_ne nyt).trans hY) ?_ ?_ (.inr ⟨go_line m, hmem, h6⟩)
  · rw [← h5]
    exact hso.sublist (List.eraseIdx_sublist _ _)
  · have := h6.length_eq
    rw [List.length_cons] at this
    omega))
section
variable {P : Program} {w : World} {K : PySem.W.Frag} {mg : PySem.Str → Option Value} {base : Heap}
theorem bi__law_deed {f : Addr} {fd : FuncData} (F : Fun K "_law_deed" "_law_deed" s__law_deed f fd) : Binds K fd ["seed", "numbers"] [] := F.binds (ps := ["seed", "numbers"]) fun _ _ _ _ _ _ us hl => match us, hl with | [_, _], _ => rfl
set_option maxHeartbeats 4000000 in
theorem ok__law_deed {f : Addr} {fd : FuncData} (F : Fun K "_law_deed" "_law_deed" s__law_deed f fd) (B : Bt mg) (g_DIG : NoDig K) (h__law_draw : Fn P w K mg base CX0 1 "_law_draw" ["seed", "most"] (sp__law_draw K)) (h__law_number : Fn P w K mg base CX0 3 "_law_number" ["seed", "most"] (sp__law_number K)) : FnOk P w K mg base CX0 4 f fd ["seed", "numbers"] (sp__law_deed K) := by
  refine F.ok sc__law_deed (fun vs H Q E h => ?_) (fun cdv A outer s H vs Q E hr h => ?_)
  · obtain ⟨a, nn, L, rfl, hD, hna, hB, hso, hlen, hrng, q⟩ := h
    rfl
  · obtain ⟨a, nn, L, rfl, hD, hna, hB, hso, hlen, hrng, q⟩ := h
    refine ⟨_, (Evl.pss_cut (ps_if (PW.pt (pw_and (pt_cmpR (k_neD K rfl hr.units) (pv 1) (pe_lst pa_nil) (nomark _)) (pw_and1 (PW.pt (pw_or (pt_cmpR op_eq (pe_fn h__law_draw (hr.mono (by decide)) (by rfl) (pa_cons (pv 0) (pa_cons pe_int pa_nil))) pe_int (nomark _)) (pw_or1 (pt_cmpR op_eq (pe_callB (k_len K) (by rfl) B.len (by decide +kernel) (pa_cons (pv 1) pa_nil)) pe_int (nomark _))))))))
        (pss_cons (ps_set (i := 2) sc__law_deed.nd rfl (Or.inl rfl) (pe_ix (k_ixL K) (pv 1) (pe_fn h__law_draw (hr.mono (by decide)) (by rfl) (pa_cons (pv 0) (pa_cons (pe_callB (k_len K) (by rfl) B.len (by decide +kernel) (pa_cons (pv 1) pa_nil)) pa_nil))) (fun _ _ => rfl)))
        (pss_cons (ps_set (i := 3) sc__law_deed.nd rfl (Or.inl rfl) (pe_callTy (k_list K) (by rfl) B.list (by decide +kernel) (pa_cons (pv 1) pa_nil)))
        (pss_cons (ps_expr (pe_bm PySem.F.plainAttrs_list PySem.F.slot_list_remove PySem.F.type_list_remove mt_remove (pv 3) (pa_cons (pv 2) pa_nil)))
        (pss_one (ps_ret (pe_lst (pa_cons (k_join2 pe_str (k_fmtN K g_DIG (pv 2))) (pa_cons (pv 3) pa_nil))))))))
        pss_nil)
      (pss_cons (ps_set (i := 2) sc__law_deed.nd rfl (Or.inl rfl) (pe_callB (call_max2 rfl) (by rfl) B.max (by decide +kernel) (pa_cons pe_int (pa_cons (pe_fn h__law_number (hr.mono (by decide)) (by rfl) (pa_cons (pv 0) (pa_cons (pe_op op_pow pe_int pe_int) pa_nil))) pa_nil))))
      (Evl.pss_cut (ps_if (PW.pt (pw_and (pt_cmpR (k_neD K rfl hr.units) (pv 1) (pe_lst pa_nil) (nomark _)) (pw_and1 (pt_cmpR op_eq (pe_fn h__law_draw (hr.mono (by decide)) (by rfl) (pa_cons (pv 0) (pa_cons pe_int pa_nil))) pe_int (nomark _)))))
        (pss_one (ps_set (i := 2) sc__law_deed.nd rfl (Or.inl rfl) (pe_ix (k_ixL K) (pv 1) (pe_fn h__law_draw (hr.mono (by decide)) (by rfl) (pa_cons (pv 0) (pa_cons (pe_callB (k_len K) (by rfl) B.len (by decide +kernel) (pa_cons (pv 1) pa_nil)) pa_nil))) (fun _ _ => rfl))))
        pss_nil)
      (pss_one (ps_ret (pe_lst (pa_cons (k_join2 pe_str (k_fmtN K g_DIG (pv 2))) (pa_cons (pe_callB (k_sorted K) (by rfl) B.sorted (by decide +kernel) (pa_cons (pe_op op_cat (pv 1) (pe_lst (pa_cons (pv 2) pa_nil))) pa_nil)) pa_nil)))))))), ?_⟩
    have e6 : (10 : Int) ^ Int.toNat 6 = ((1000000 : Nat) : Int) := rfl
    have c6 : CPow 10 6 := by unfold CPow; omega
    have sz : 1000 ≤ sizeLine := by decide
    have eN : ofN L = [] ↔ L = [] := by
      cases L <;> simp [ofN]
    have len2 : ((ofN L).map V.int).length = L.length := by rw [List.length_map, ofN_len]
    have big : ∀ n : Nat, n ≤ 1000000 → ((n : Nat) : Int).natAbs < 10 ^ 4300 ∧ (Str.ofString (toString (n : Int))).length ≤ 7 := fun n hn => ⟨Nat.lt_of_le_of_lt (show ((n : Nat) : Int).natAbs ≤ 1000000 by omega) (by decide +kernel), sN_len (n := n) (by decide) (Nat.lt_of_le_of_lt hn (by decide))⟩
    refine cut_m (fun σ H' => σ = [some (.ref a), some (.ref nn), none, none] ∧ Kp a H H' ∧ Sd H' a ∧ L.length < 60) (fun N hN => ?_) ?_
    · walk_at "y"
      refine ⟨by omega, fun u hu => ?_⟩
      have su := same_new (o := .lst []) hu
      refine r_neL (ns := ofN L) (ms := []) (SqL.of (su _ _ hB)) (SqL.of upd_same) ?_
      have kc := sm_kp (a := a) su
      have dc := hD.same su
      generalize upd H u (.lst []) = H1 at su kc dc ⊢
      refine ⟨_, rfl, ?_⟩
      by_cases hne : L = []
      · rw [if_neg (by simp [hne, ofN])]
        exact hN _ _ ⟨rfl, kc, dc, by rw [hne]; simp⟩
      · have hnp : 0 < L.length := List.length_pos_iff.mpr hne
        rw [if_pos (by simp [eN, hne])]
        refine use_draw kc dc (by omega) (by omega) fun r0 H2 _ k2 d2 _ _ => ?_
        walk_at "y"
        refine ite2 (fun hz => ?_) (fun hz => ?_)
        · walk_at "dk_go"
        · refine r_len (SqL.of (k2 _ _ hna hB)) ?_
          rw [len2]
          walk_at "y"
          refine ite2 (fun hz2 => ?_) (fun hz2 => hN _ _ ⟨rfl, k2, d2, by omega⟩)
          walk_at "dk_go"
    · rintro σ H1 ⟨rfl, k1, d1, hlt⟩
      walk_at "y"
      rw [e6]
      refine ⟨c6, a, 1000000, rfl, d1, by omega, by decide, fun r H2 k2 d2 hr => ⟨_, rfl, ?_⟩⟩
      obtain ⟨n, hn, hn1, hn2⟩ : ∃ n : Nat, (if (r : Int) > 1 then (r : Int) else 1) = (n : Int) ∧ 1 ≤ n ∧ n ≤ 1000000 := by
        by_cases c : (r : Int) > 1
        · exact ⟨r, by rw [if_pos c], by omega, by omega⟩
        · exact ⟨1, by rw [if_neg c]; rfl, by omega, by omega⟩
      rw [hn]
      have K2 := k1.trans k2
      refine cut_m (fun σ H' => ∃ n : Nat, σ = [some (.ref a), some (.ref nn), some (.int (n : Int)), none] ∧ Kp a H H' ∧ Sd H' a ∧ 1 ≤ n ∧ n ≤ 1000000) (fun N hN => ?_) ?_
      · walk_at "y"
        refine ⟨by omega, fun u hu => ?_⟩
        have su := same_new (o := .lst []) hu
        have K3 := K2.trans (sm_kp su)
        have d3 := d2.same su
        refine r_neL (ns := ofN L) (ms := []) (SqL.of (K3 _ _ hna hB)) (SqL.of upd_same) ?_
        generalize upd H2 u (.lst []) = H3 at su K3 d3 ⊢
        refine ⟨_, rfl, ?_⟩
        by_cases hne : L = []
        · rw [if_neg (by simp [hne, ofN])]
          exact hN _ _ ⟨n, rfl, K3, d3, hn1, hn2⟩
        · have hnp : 0 < L.length := List.length_pos_iff.mpr hne
          rw [if_pos (by simp [eN, hne])]
          refine use_draw K3 d3 (by omega) (by omega) fun r0 H4 _ K4 d4 _ _ => ?_
          walk_at "y"
          refine ite2 (fun hz => ?_) (fun hz => hN _ _ ⟨n, rfl, K4, d4, hn1, hn2⟩)
          refine r_len (SqL.of (K4 _ _ hna hB)) ?_
          rw [len2]
          refine use_draw K4 d4 (by omega) (by omega) fun r1 H5 _ K5 d5 a5 b5 => ?_
          obtain ⟨r1, rfl⟩ := Int.eq_ofNat_of_zero_le a5
          have hj : r1 < L.length := by omega
          have hat0 : L[r1]? = some L[r1] := List.getElem?_eq_getElem hj
          generalize L[r1] = m at hat0
          have hat : ((ofN L).map V.int)[r1]? = some (V.int (m : Int)) := by
            unfold ofN
            rw [List.getElem?_map, List.getElem?_map, hat0]
            rfl
          have hrm := hrng m (List.mem_of_getElem? hat0)
          exact r_ixL (SqL.of (K5 _ _ hna hB)) (atI_nat hat) (hN _ _ ⟨m, rfl, K5, d5, hrm.1, hrm.2⟩)
      · rintro σ H3 ⟨n, rfl, K3, d3, hn1, hn2⟩
        have hbg := big n hn2
        have hl5 : (Str.empty ++ "come " : PySem.Str).length = 5 := by decide +kernel
        walk_at "y"
        refine ⟨by rw [hl5]; omega, hbg.1, by rw [len_app, hl5]; omega, by omega, fun u hu => ?_⟩
        have hB3 := K3 _ _ hna hB
        have su := same_new (o := .lst [V.int (n : Int)]) hu
        refine r_cat (su _ _ hB3) upd_same ?_ fun x hx => ?_
        · refine size_le' ?_
          rw [len2]
          show L.length + 1 ≤ 1000000
          omega
        have eL : (ofN L).map V.int ++ [V.int (n : Int)] = (ofN (L ++ [n])).map V.int := by simp [ofN]
        rw [eL]
        have s2 := su.trans (same_new (o := .lst ((ofN (L ++ [n])).map V.int)) hx)
        refine r_sortedI (SqL.of upd_same) fun zs y hp hs hy => ⟨by omega, fun t ht => ?_⟩
        obtain ⟨L', rfl, hpL⟩ := perm_ofN hp
        have s3 := s2.trans (same_new (o := .lst ((ofN L').map V.int)) hy)
        have s4 := s3.trans (same_new (o := .lst [V.str (Str.empty ++ "come " ++ Str.ofString (toString (n : Int))), V.ref y]) ht)
        have nyt := ne_of_none (upd_same (a := y) (o := .lst ((ofN L').map V.int))) ht
        have hy3 : H3 y = none := s2.free hy
        have hy0 : H y = none := K3.free (d3.ne hy3) hy3
        refine q t y n _ L' _ (K3.trans (sm_kp s4)) (d3.same s4) hy0 upd_same ((upd_ne nyt).trans upd_same) hs ?_ (.inl ⟨come_line n, hn1, hn2, hlt, hpL⟩)
        rw [hpL.length_eq, List.length_append]
        show L.length + 1 ≤ 60
        omega
end
abbrev s__law_primes : Stmt := top 77
theorem sc__law_primes : FnScope ["number", "often", "prime", "found"] ["number", "often"] (defScope s__law_primes) := ⟨rfl, rfl, rfl, by decide +kernel, rfl, by decide +kernel, by decide +kernel⟩
def sp__law_primes (K : PySem.W.Frag) : Sp := fun vs H Q _ => ∃ (n : Nat) (d0 : Addr) (l ks : List Nat), vs = [.int (n : Int), .ref d0] ∧ 1 ≤ n ∧ n ≤ 1000000 ∧ CD H d0 l ks ∧ (∀ x ∈ ks, x ∈ l) ∧ ∀ (p : Addr) (ks' : List Nat) (H' : Hp), H p = none → Same H H' → CD H' p (l ++ pf n) ks' → (∀ x ∈ ks', x ∈ l ++ pf n) → Q (.ref p) H'
theorem paired_mono {α β : Type} {F G : α → β → Prop} : ∀ {l : List α} {m : List β}, Paired F l m → (∀ a b, F a b → G a b) → Paired G l m
  | _, _, .nil, _ => .nil
  | _, _, .cons h t, q => .cons (q _ _ h) (paired_mono t q)
section
variable {P : Program} {w : World} {K : PySem.W.Frag} {mg : PySem.Str → Option Value} {base : Heap}
theorem bi__law_primes {f : Addr} {fd : FuncData} (F : Fun K "_law_primes" "_law_primes" s__law_primes f fd) : Binds K fd ["number", "often"] [] := F.binds (ps := ["number", "often"]) fun _ _ _ _ _ _ us hl => match us, hl with | [_, _], _ => rfl
set_option maxHeartbeats 4000000 in
theorem ok__law_primes {f : Addr} {fd : FuncData} (F : Fun K "_law_primes" "_law_primes" s__law_primes f fd) (B : Bt mg)   : FnOk P w K mg base CX0 1 f fd ["number", "often"] (sp__law_primes K) := by
  refine F.ok sc__law_primes (fun vs H Q E h => ?_) (fun cdv A outer s H vs Q E hr h => ?_)
  · obtain ⟨n, d0, l0, ks0, rfl, hn1, hn, hc0, hk0, q⟩ := h
    rfl
  · obtain ⟨n, d0, l0, ks0, rfl, hn1, hn, hc0, hk0, q⟩ := h
    refine ⟨_, (pss_cons (ps_set (i := 3) sc__law_primes.nd rfl (Or.inl rfl) (pe_callTy (call_dictP rfl) (by rfl) B.dict (by decide +kernel) (pa_cons (pe_lock (pe_lc (own := [("prime", 2)]) (g := gName 2) (tt := tYes) rfl sc__law_primes.nd (pi_keys (pv 1)) (blkOk_by (own := [("prime", 2)]) (N := ["number", "often", "prime", "found"]) (sc := defScope s__law_primes) (by decide +kernel)) (fun _ _ _ _ _ => (pg_name (i := 2) sc__law_primes.nd rfl (Or.inl rfl))) (fun _ _ _ _ _ => pts_nil) (fun _ _ _ _ _ => (pe_tup (pa_cons (pv 2) (pa_cons (pe_dget (hu_of hr) (pv 1) (pv 2) (fun _ _ => rfl)) pa_nil)))))) pa_nil)))
      (pss_cons (ps_set (i := 2) sc__law_primes.nd rfl (Or.inl rfl) pe_int)
      (pss_cons (ps_while PassesOwn.never (pt_cmpR op_le (pe_op op_mulW (pv 2) (pv 2)) (pv 0) (nomark _))
        (pss_cons (ps_while PassesOwn.never (pt_cmpR op_eq (pe_op op_mod (pv 0) (pv 2)) pe_int (nomark _))
          (pss_cons (ps_dput (hu_of hr) (pv 3) (pv 2) (pe_op op_add (pe_dget2 (hu_of hr) (pv 3) (pv 2) pe_int (by constructor <;> rfl)) pe_int) rfl)
          (pss_one (ps_set (i := 0) sc__law_primes.nd rfl (Or.inl rfl) (pe_op op_fdivW (pv 0) (pv 2))))))
        (pss_one (ps_set (i := 2) sc__law_primes.nd rfl (Or.inl rfl) (pe_op op_add (pv 2) pe_int)))))
      (pss_cons (ps_if (pt_cmpR op_gt (pv 0) pe_int (nomark _))
        (pss_one (ps_dput (hu_of hr) (pv 3) (pv 0) (pe_op op_add (pe_dget2 (hu_of hr) (pv 3) (pv 0) pe_int (by constructor <;> rfl)) pe_int) rfl))
        pss_nil)
      (pss_one (ps_ret (pv 3))))))), ?_⟩
    walk_at "o"
    refine ⟨d0, _, hc0.at_, trivial, fun od => ?_⟩
    have fz : upd H d0 (.frz od (.dK (dN ks0 fun k => .int ((l0.count k : Nat) : Int)))) d0 = _ := upd_same
    refine ⟨od, .inl ⟨_, fz, lc_kI (fun j acc H' => Same (upd H d0 (.frz od (.dK (dN ks0 fun k => .int ((l0.count k : Nat) : Int))))) H' ∧ acc.length ≤ j ∧ ∃ ps : List Addr, acc = ps.map V.ref ∧ Paired (fun p kv => H' p = some (.tup [kV kv.1, kv.2])) ps (dN (ks0.take j) fun k => .int ((l0.count k : Nat) : Int))) (fun D hD => ⟨same_new hD, Nat.le_refl _, [], rfl, .nil⟩) (fun i acc H' _ h => h.1 _ _ fz) ?_ ?_⟩⟩
    · rintro j k acc D H1 hk hD hacc ⟨s1, hl, ps, rfl, hps⟩ N0 N1 n0 n1
      walk_at "o"
      refine ⟨_, dN_atF (s1 _ _ fz) (List.mem_of_getElem? hk), by show 2 ≤ sizeLine; decide, fun u hu => ?_⟩
      have nu := ne_of_none hacc hu
      have hj : j < ks0.length := (List.getElem?_eq_some_iff.mp hk).1
      have hlen := hc0.len
      have hpm : ∀ o, Paired (fun p kv => upd (upd H1 u (.tup [.int (k : Int), .int ((l0.count k : Nat) : Int)])) D o p = some (.tup [kV kv.1, kv.2])) ps (dN (ks0.take j) fun k => .int ((l0.count k : Nat) : Int)) := fun o => paired_mono hps fun p kv h => (upd_ne (ne_of h hacc fun e => by cases e)).trans ((upd_ne (ne_of_none h hu)).trans h)
      refine n1 _ _ ((upd_ne nu).trans hacc) (size_le (by omega)) ⟨fun b o hb => ?_, by rw [List.length_append]; show _ + 1 ≤ j + 1; omega, ps ++ [u], by simp, ?_⟩
      · rw [upd_ne (ne_of_none hb hD), upd_ne (ne_of_none (s1 _ _ hb) hu)]
        exact s1 _ _ hb
      · have ed : dN (ks0.take (j + 1)) (fun k => V.int ((l0.count k : Nat) : Int)) = dN (ks0.take j) (fun k => V.int ((l0.count k : Nat) : Int)) ++ [(Sum.inl (k : Int), V.int ((l0.count k : Nat) : Int))] := by
          rw [List.take_add_one, hk, Option.toList_some]
          simp [dN]
        rw [ed]
        exact (hpm _).snoc ((upd_ne nu.symm).trans upd_same)
    · rintro D acc H1 hD hacc ⟨s1, hl, ps, rfl, hps⟩
      rw [List.take_length] at hps
      have nD : D ≠ d0 := (ne_of_none fz hD).symm
      have sU := same_unlock s1 hc0.at_
      refine ⟨s1 _ _ fz, D, rfl, ps, SqL.of ((upd_ne nD).trans hacc), dN ks0 (fun k => .int ((l0.count k : Nat) : Int)), paired_mono hps fun p kv h => SqT.of ((upd_ne (ne_of h (s1 _ _ fz) fun e => by cases e)).trans h), fun p hp => ?_⟩
      have em : mergeK [] (dN ks0 fun k => .int ((l0.count k : Nat) : Int)) = dN ks0 fun k => .int ((l0.count k : Nat) : Int) := merge_dN _ ks0 [] (by simpa using hc0.nd)
      rw [em]
      have hp0 : H p = none := sU.free hp
      have sp : Same H (upd (upd H1 d0 (.dK (dN ks0 fun k => .int ((l0.count k : Nat) : Int)))) p (.dK (dN ks0 fun k => .int ((l0.count k : Nat) : Int)))) := sm_new sU hp0
      have hcp : CD (upd (upd H1 d0 (.dK (dN ks0 fun k => .int ((l0.count k : Nat) : Int)))) p (.dK (dN ks0 fun k => .int ((l0.count k : Nat) : Int)))) p l0 ks0 := ⟨upd_same, hc0.nd, hc0.all, hc0.rng⟩
      generalize upd (upd H1 d0 (.dK (dN ks0 fun k => .int ((l0.count k : Nat) : Int)))) p (.dK (dN ks0 fun k => .int ((l0.count k : Nat) : Int))) = H2 at sp hcp ⊢
      replace hp := hp0
      refine while_m (fun z σ H' => ∃ (m d : Nat) (l ks : List Nat), σ = [some (.int (m : Int)), some (.ref d0), some (.int (d : Int)), some (.ref p)] ∧ 2000000 - d = z ∧ 2 ≤ d ∧ d ≤ n + 2 ∧ 1 ≤ m ∧ m ≤ n ∧ Low d m ∧ l ++ pfT d m = l0 ++ pf n ∧ Same H H' ∧ CD H' p l ks ∧ ∀ x ∈ ks, x ∈ l) 1999998 ⟨n, 2, l0, ks0, rfl, rfl, by omega, by omega, hn1, Nat.le_refl _, low_2 n, rfl, sp, hcp, hk0⟩ ?_
      rintro z σ H1 ⟨m, d, l, ks, rfl, rfl, hd, hdn, hm, hmn, hlow, hl, s1, hc, hk⟩ G hG
      have cm : CMulW (d : Int) (d : Int) := wide_mul (a := 64) (b := 64) (by omega) (by omega) (by decide) (by decide) (by decide)
      have e1 : (d : Int) * (d : Int) = ((d * d : Nat) : Int) := by push_cast; rfl
      walk_at "d"
      rw [e1]
      refine ⟨cm, ite2 (fun hw => hG _ _ fun N hN => ?_) (fun hw => ?_)⟩
      · have hdm : d ≤ m := Nat.le_trans (Nat.le_mul_of_pos_left d (by omega)) (by omega : d * d ≤ m)
        refine while_m (fun z σ H' => ∃ (m' : Nat) (l ks : List Nat), σ = [some (.int (m' : Int)), some (.ref d0), some (.int (d : Int)), some (.ref p)] ∧ m' = z ∧ 1 ≤ m' ∧ m' ≤ m ∧ Low d m' ∧ l ++ pfT d m' = l0 ++ pf n ∧ Same H H' ∧ CD H' p l ks ∧ ∀ x ∈ ks, x ∈ l) m ⟨m, l, ks, rfl, rfl, hm, Nat.le_refl _, hlow, hl, s1, hc, hk⟩ ?_
        rintro z σ H2 ⟨m2, l2, ks2, rfl, rfl, hm2, hm2n, hlow2, hl2, s2, hc2, hk2⟩ G2 hG2
        walk_at "d"
        refine ⟨by omega, ite2 (fun hw2 => hG2 _ _ fun N2 hN2 => ?_) (fun hw2 => ?_)⟩
        · have hdv : d ∣ m2 := Nat.dvd_of_mod_eq_zero (by omega)
          have hlt : m2 / d < m2 := Nat.div_lt_self (by omega) (by omega)
          have hge : 1 ≤ m2 / d := Nat.div_pos (Nat.le_of_dvd hm2 hdv) (by omega)
          have e2 : (m2 : Int) / (d : Int) = ((m2 / d : Nat) : Int) := by push_cast; rfl
          obtain ⟨o, hg, ho⟩ := hc2.get (m := d)
          obtain ⟨H3, ks3, hput, hH3, hc3, hk3⟩ := hc2.put (m := d) hd (by omega)
          walk_at "d"
          walk_at "d"
          refine ⟨hc2.isD, o, hg, _, ho, H3, hput, ?_⟩
          rw [e2]
          have s3 : Same H H3 := by
            rw [hH3]
            exact sm_new s2 hp
          refine ⟨wide_div (b := 64) (by omega) (by omega) (by decide) (by decide), hN2 _ _ _ hlt ⟨m2 / d, l2 ++ [d], ks3, rfl, rfl, hge, by omega, low_div hlow2 hdv, ?_, s3, hc3, fun x hx => ?_⟩⟩
          · rw [List.append_assoc, List.singleton_append, ← pfT_dvd hd hm2 hlow2 hdv, hl2]
          · rw [List.mem_append]
            rcases (hk3 x).mp hx with c | c
            · exact .inl (hk2 x c)
            · exact .inr (by simp [c])
        · have hnd : ¬ d ∣ m2 := fun z => hw2 (by have := Nat.mod_eq_zero_of_dvd z; omega)
          have e3 : (d : Int) + 1 = ((d + 1 : Nat) : Int) := by omega
          walk_at "d"
          rw [e3]
          exact hN _ _ _ (by omega) ⟨m2, d + 1, l2, ks2, rfl, rfl, by omega, by omega, hm2, by omega, low_up hlow2 hnd, by rw [← pfT_up hd hnd]; exact hl2, s2, hc2, hk2⟩
      · have hmd : m < d * d := by omega
        walk_at "d"
        refine ite2 (fun h1 => ?_) (fun h1 => ?_)
        · rw [pfT_big hd (by omega) hmd] at hl
          obtain ⟨o, hg, ho⟩ := hc.get (m := m)
          obtain ⟨H3, ks3, hput, hH3, hc3, hk3⟩ := hc.put (m := m) (by omega) (by omega)
          walk_at "d"
          walk_at "d"
          refine ⟨hc.isD, o, hg, _, ho, H3, hput, ?_⟩
          rw [hl] at hc3
          refine q p ks3 H3 hp (by rw [hH3]; exact sm_new s1 hp) hc3 fun x hx => ?_
          rw [← hl, List.mem_append]
          rcases (hk3 x).mp hx with c | c
          · exact .inl (hk x c)
          · exact .inr (by simp [c])
        · rw [pfT_one (by omega), List.append_nil] at hl
          subst hl
          walk_at "d"
          exact q p ks H1 hp s1 hc hk
end
abbrev s__law_common : Stmt := top 78
theorem sc__law_common : FnScope ["one", "other"] ["one", "other"] (defScope s__law_common) := ⟨rfl, rfl, rfl, by decide +kernel, rfl, by decide +kernel, by decide +kernel⟩
def sp__law_common (K : PySem.W.Frag) : Sp := fun vs H Q _ => ∃ (a b : Nat), vs = [.int (a : Int), .int (b : Int)] ∧ Q (.int ((Nat.gcd a b : Nat) : Int)) H
section
variable {P : Program} {w : World} {K : PySem.W.Frag} {mg : PySem.Str → Option Value} {base : Heap}
theorem bi__law_common {f : Addr} {fd : FuncData} (F : Fun K "_law_common" "_law_common" s__law_common f fd) : Binds K fd ["one", "other"] [] := F.binds (ps := ["one", "other"]) fun _ _ _ _ _ _ us hl => match us, hl with | [_, _], _ => rfl
set_option maxHeartbeats 4000000 in
theorem ok__law_common {f : Addr} {fd : FuncData} (F : Fun K "_law_common" "_law_common" s__law_common f fd) (B : Bt mg)   : FnOk P w K mg base CX0 1 f fd ["one", "other"] (sp__law_common K) := by
  refine F.ok sc__law_common (fun vs H Q E h => ?_) (fun cdv A outer s H vs Q E hr h => ?_)
  · obtain ⟨a, b, rfl, q⟩ := h
    rfl
  · obtain ⟨a, b, rfl, q⟩ := h
    refine ⟨_, (pss_cons (ps_while PassesOwn.never (pt_cmpR op_gt (pv 1) pe_int (nomark _))
        (pss_one (ps_par (i := 0) (j := 1) (by rfl) sc__law_common.nd rfl rfl (by decide) rfl rfl (pa_cons (pv 1) (pa_cons (pe_op op_mod (pv 0) (pv 1)) pa_nil)) (by rfl))))
      (pss_one (ps_ret (pv 0)))), ?_⟩
    walk_at "w"
    refine while_m (fun z σ H' => ∃ (x y : Nat), σ = [some (.int (x : Int)), some (.int (y : Int))] ∧ H' = H ∧ y = z ∧ Nat.gcd x y = Nat.gcd a b) b ⟨a, b, rfl, rfl, rfl, rfl⟩ ?_
    rintro z σ H' ⟨x, y, rfl, rfl, rfl, hg⟩ G hG
    walk_at "w"
    refine ite2 (fun hw => hG _ _ fun N hN => ?_) (fun hw => ?_)
    · have e1 : (x : Int) % (y : Int) = ((x % y : Nat) : Int) := by push_cast; rfl
      walk_at "w"
      rw [e1]
      have hlt : x % y < y := Nat.mod_lt _ (by omega)
      refine ⟨by omega, hN _ _ _ hlt ⟨y, x % y, rfl, rfl, rfl, ?_⟩⟩
      rw [Nat.gcd_comm y, ← Nat.gcd_rec, Nat.gcd_comm, hg]
    · have e0 : y = 0 := by omega
      subst e0
      rw [Nat.gcd_zero_right] at hg
      walk_at "w"
      rw [hg]
      exact q
end
abbrev s__law_dues : Stmt := top 79
theorem sc__law_dues : FnScope ["seed", "numbers", "often", "number", "greatest", "prime", "told", "exponent", "lacks", "rows"] ["seed", "numbers"] (defScope s__law_dues) := ⟨rfl, rfl, rfl, by decide +kernel, rfl, by decide +kernel, by decide +kernel⟩
def sp__law_dues (K : PySem.W.Frag) : Sp := fun vs H Q _ => ∃ (a nn : Addr) (L : List Nat), vs = [.ref a, .ref nn] ∧ Sd H a ∧ nn ≠ a ∧ H nn = some (.lst ((ofN L).map V.int)) ∧ (ofN L).Pairwise (· ≤ ·) ∧ L.length ≤ 60 ∧ (∀ x ∈ L, 1 ≤ x ∧ x ≤ 1000000) ∧
  ∀ (t b1 b2 b3 : Addr) (H' : Hp), Kp a H H' → Sd H' a → H t = none → H' t = some (.lst [.ref b1, .ref b2, .ref b3]) →
    (∀ b, b = b1 ∨ b = b2 ∨ b = b3 → ∃ (z : PySem.Str) (d : Addr) (ys : List PySem.Str), H' b = some (.lst [.str z, .ref d]) ∧ H d = none ∧ H' d = some (.lst (ys.map V.str)) ∧ Ask L z ys) → Q (.ref t) H'
section
variable {P : Program} {w : World} {K : PySem.W.Frag} {mg : PySem.Str → Option Value} {base : Heap}
theorem bi__law_dues {f : Addr} {fd : FuncData} (F : Fun K "_law_dues" "_law_dues" s__law_dues f fd) : Binds K fd ["seed", "numbers"] [] := F.binds (ps := ["seed", "numbers"]) fun _ _ _ _ _ _ us hl => match us, hl with | [_, _], _ => rfl
set_option maxHeartbeats 4000000 in
theorem ok__law_dues {f : Addr} {fd : FuncData} (F : Fun K "_law_dues" "_law_dues" s__law_dues f fd) (B : Bt mg) (g_DIG : NoDig K) (h__law_primes : Fn P w K mg base CX0 1 "_law_primes" ["number", "often"] (sp__law_primes K)) (h__law_common : Fn P w K mg base CX0 1 "_law_common" ["one", "other"] (sp__law_common K)) (h__law_draw : Fn P w K mg base CX0 1 "_law_draw" ["seed", "most"] (sp__law_draw K)) (h__law_taken : Fn P w K mg base CX0 1 "_law_taken" ["base", "exponent"] (sp__law_taken K)) : FnOk P w K mg base CX0 2 f fd ["seed", "numbers"] (sp__law_dues K) := by
  refine F.ok sc__law_dues (fun vs H Q E h => ?_) (fun cdv A outer s H vs Q E hr h => ?_)
  · obtain ⟨a, nn, L, rfl, hD, hna, hB, hso, hlen, hrng, q⟩ := h
    rfl
  · obtain ⟨a, nn, L, rfl, hD, hna, hB, hso, hlen, hrng, q⟩ := h
    refine ⟨_, (pss_cons (ps_set (i := 2) sc__law_dues.nd rfl (Or.inl rfl) pe_dnewK)
      (pss_cons (ps_for PassesOwn.never rfl (pi_list (pv 1)) (pg_name (i := 3) sc__law_dues.nd rfl (Or.inl rfl))
        (pss_one (ps_set (i := 2) sc__law_dues.nd rfl (Or.inl rfl) (pe_fn h__law_primes (hr.mono (by decide)) (by rfl) (pa_cons (pv 3) (pa_cons (pv 2) pa_nil))))))
      (pss_cons (ps_set (i := 4) sc__law_dues.nd rfl (Or.inl rfl) pe_int)
      (pss_cons (ps_lock (ps_for PassesOwn.never rfl (pi_keys (pv 2)) (pg_name (i := 5) sc__law_dues.nd rfl (Or.inl rfl))
        (pss_one (ps_set (i := 4) sc__law_dues.nd rfl (Or.inl rfl) (pe_fn h__law_common (hr.mono (by decide)) (by rfl) (pa_cons (pe_dget (hu_of hr) (pv 2) (pv 5) (fun _ _ => rfl)) (pa_cons (pv 4) pa_nil)))))))
      (pss_cons (ps_set (i := 6) sc__law_dues.nd rfl (Or.inl rfl) pe_str)
      (Evl.pss_cut (ps_if (pt_cmpR op_ne (pv 4) pe_int (nomark _))
        (pss_cons (ps_set (i := 4) sc__law_dues.nd rfl (Or.inl rfl) (pe_callB (call_max2 rfl) (by rfl) B.max (by decide +kernel) (pa_cons pe_int (pa_cons (pv 4) pa_nil))))
        (pss_one (ps_set (i := 6) sc__law_dues.nd rfl (Or.inl rfl) (k_join2 pe_str (k_fmtN K g_DIG (pv 4))))))
        pss_nil)
      (pss_cons (ps_set (i := 7) sc__law_dues.nd rfl (Or.inl rfl) (pe_ix (k_ixL K) (pe_lst (pa_cons pe_int (pa_cons pe_int (pa_cons (pe_op op_add pe_int (pe_fn h__law_draw (hr.mono (by decide)) (by rfl) (pa_cons (pv 0) (pa_cons pe_int pa_nil)))) (pa_cons pe_int pa_nil))))) (pe_fn h__law_draw (hr.mono (by decide)) (by rfl) (pa_cons (pv 0) (pa_cons pe_int pa_nil))) (fun _ _ => rfl)))
      (pss_cons (ps_set (i := 8) sc__law_dues.nd rfl (Or.inl rfl) pe_int)
      (pss_cons (ps_lock (ps_for PassesOwn.never rfl (pi_keys (pv 2)) (pg_name (i := 5) sc__law_dues.nd rfl (Or.inl rfl))
        (pss_one (ps_set (i := 8) sc__law_dues.nd rfl (Or.inl rfl) (pe_op op_mulW (pv 8) (pe_fn h__law_taken (hr.mono (by decide)) (by rfl) (pa_cons (pv 5) (pa_cons (pe_op op_mod (pe_op op_sub pe_int (pe_dget (hu_of hr) (pv 2) (pv 5) (fun _ _ => rfl))) (pv 7)) pa_nil))))))))
      (pss_cons (ps_set (i := 9) sc__law_dues.nd rfl (Or.inl rfl) (pe_lst (pa_cons (pe_m1 PySem.F.slot_str_join PySem.F.type_str_join (k_join K) pe_str (pe_lc (own := [("number", 3)]) (g := gName 3) (tt := tYes) rfl sc__law_dues.nd (pi_list (pv 1)) (blkOk_by (own := [("number", 3)]) (N := ["seed", "numbers", "often", "number", "greatest", "prime", "told", "exponent", "lacks", "rows"]) (sc := defScope s__law_dues) (by decide +kernel)) (fun _ _ _ _ _ => (pg_name (i := 3) sc__law_dues.nd rfl (Or.inl rfl))) (fun _ _ _ _ _ => pts_nil) (fun _ _ _ _ _ => (pe_joined1 (k_fmtN K g_DIG (pv 3)))))) pa_nil)))
      (pss_one (ps_ret (pe_lst (pa_cons (pe_lst (pa_cons pe_str (pa_cons (pe_slice (k_slL K) (pv 9) po_none (po_some (pe_callB (k_len K) (by rfl) B.len (by decide +kernel) (pa_cons (pv 1) pa_nil)))) pa_nil))) (pa_cons (pe_lst (pa_cons pe_str (pa_cons (pe_lst (pa_cons (pv 6) pa_nil)) pa_nil))) (pa_cons (pe_lst (pa_cons (k_join2 pe_str (k_fmtN K g_DIG (pv 7))) (pa_cons (pe_lst (pa_cons (pe_joined1 (k_fmtN K g_DIG (pv 8))) pa_nil)) pa_nil))) pa_nil)))))))))))))))), ?_⟩
    have sz : 1000 ≤ sizeLine := by decide
    have len2 : ((ofN L).map V.int).length = L.length := by rw [List.length_map, ofN_len]
    walk_at "z"
    intro p hp
    have s0 := same_new (o := .dK []) hp
    refine ⟨⟨_, SqL.of (s0 _ _ hB)⟩, for_l (xs := (ofN L).map V.int) (fun i σ H' => ∃ (o : Addr) (ks : List Nat) (v3 : Option V), σ = [some (.ref a), some (.ref nn), some (.ref o), v3, none, none, none, none, none, none] ∧ Same H H' ∧ CD H' o (pfs (L.take i)) ks ∧ ∀ x ∈ ks, x ∈ pfs (L.take i)) ⟨p, [], _, rfl, s0, ⟨upd_same, List.nodup_nil, fun x hx => (by cases hx), fun x hx => (by cases hx)⟩, fun x hx => (by cases hx)⟩ ?_ ?_ ?_⟩
    · rintro i σ H1 _ ⟨o, ks, v3, rfl, s1, _⟩
      exact SqL.of (s1 _ _ hB)
    · rintro i x σ H1 hx ⟨o, ks, v3, rfl, s1, hc, hk⟩ N hN
      obtain ⟨m, hm, rfl⟩ := ofN_at hx
      have hr := hrng m (List.mem_of_getElem? hm)
      walk_at "z"
      refine ⟨m, o, _, ks, rfl, hr.1, hr.2, hc, hk, fun o2 ks2 H2 ho2 s2 hc2 hk2 => ?_⟩
      rw [← pfs_take hm] at hc2 hk2
      walk_at "z"
      exact hN _ _ ⟨o2, ks2, _, rfl, s1.trans s2, hc2, hk2⟩
    · rintro σ H1 ⟨o, ks, v3, rfl, s1, hc, hk⟩
      have et : L.take ((ofN L).map V.int).length = L := by rw [len2, List.take_length]
      rw [et] at hc hk
      walk_at "z"
      refine ⟨o, _, hc.at_, trivial, fun od => ?_⟩
      have fz : upd H1 o (.frz od (.dK (dN ks fun k => .int (((pfs L).count k : Nat) : Int)))) o = _ := upd_same
      refine ⟨od, .inl ⟨_, fz, for_k (fun i σ H' => H' = upd H1 o (.frz od (.dK (dN ks fun k => .int (((pfs L).count k : Nat) : Int)))) ∧ ∃ (r : Nat) (v5 : Option V), σ = [some (.ref a), some (.ref nn), some (.ref o), v3, some (.int (r : Int)), v5, none, none, none, none] ∧ ∀ d, d ∣ r ↔ ∀ p ∈ ks.take i, d ∣ (pfs L).count p) ⟨rfl, 0, _, rfl, fun d => ⟨fun _ p hp => by simp at hp, fun _ => Nat.dvd_zero d⟩⟩ ?_ ?_ ?_⟩⟩
      · rintro i σ H' _ ⟨rfl, _⟩
        exact fz
      · rintro i m σ H' hm hi ⟨rfl, r, v5, rfl, hd⟩ N hN
        walk_at "z"
        refine ⟨_, dN_atF fz (List.mem_of_getElem? hm), (pfs L).count m, r, rfl, ?_⟩
        walk_at "z"
        exact hN _ _ ⟨rfl, _, _, rfl, dvd_step2 hd hm⟩
      · rintro σ H' ⟨rfl, r, v5, rfl, hd⟩
        rw [List.take_length] at hd
        refine ⟨upd_same, ?_⟩
        rw [upd_upd, upd_eta hc.at_]
        have hE := gcd_exp hc.all hd
        walk_at "z"
        refine cut_m (fun σ H' => H' = H1 ∧ ∃ v4 : Option V, σ = [some (.ref a), some (.ref nn), some (.ref o), v3, v4, v5, some (.str (prodW (if r = 0 then 2 else r))), none, none, none]) (fun N hN => ?_) ?_
        · walk_at "z"
          have hl6 : (Str.empty ++ "power " : PySem.Str).length = 6 := by decide +kernel
          by_cases h1 : r = 1
          · subst h1
            rw [if_neg (by simp)]
            exact hN _ _ ⟨rfl, _, rfl⟩
          · obtain ⟨e, he, he2⟩ : ∃ e : Nat, (if (r : Int) > 2 then (r : Int) else 2) = (e : Int) ∧ (if r = 0 then 2 else r) = e := by
              by_cases c : (r : Int) > 2
              · exact ⟨r, by rw [if_pos c], by rw [if_neg (by omega)]⟩
              · refine ⟨2, by rw [if_neg c]; rfl, ?_⟩
                split <;> omega
            have hx : 1 < e := by
              rw [← he2]
              split <;> omega
            have hle := exp_le (he2 ▸ hE) hrng (by omega)
            have hl5 : (Str.ofString (toString (e : Int))).length ≤ 5 := sN_len (n := e) (by decide) (by omega)
            have hpw : prodW (if r = 0 then 2 else r) = Str.empty ++ "power " ++ Str.ofString (toString (e : Int)) := by
              rw [he2, power_line]
              unfold prodW
              rw [if_pos hx]
            rw [he, if_pos (by omega)]
            refine ⟨by rw [hl6]; omega, Nat.lt_of_le_of_lt (show ((e : Nat) : Int).natAbs ≤ 20000 by omega) (by decide +kernel), by rw [len_app, hl6]; omega, hN _ _ ⟨rfl, some (.int (e : Int)), ?_⟩⟩
            rw [hpw]
        · rintro σ H2 ⟨rfl, v4, rfl⟩
          have no : o ≠ a := by
            obtain ⟨x0, x1, x2, x3, ha⟩ := hD.same s1
            exact ne_of hc.at_ ha fun e => by cases e
          walk_at "z"
          refine use_draw (sm_kp (a := a) s1) (hD.same s1) (by omega) (by omega) fun r1 H3 k3 K3 d3 a3 b3 => ?_
          obtain ⟨r1, rfl⟩ := Int.eq_ofNat_of_zero_le a3
          walk_at "z"
          refine ⟨by omega, fun p2 hp2 => ?_⟩
          refine use_pick (fun v => ∃ z : Nat, v = .int (z : Int) ∧ 2 ≤ z ∧ z ≤ 10) (fun x hx => by
            simp only [List.mem_cons, List.not_mem_nil, or_false] at hx
            rcases hx with rfl | rfl | rfl | rfl
            · exact ⟨2, rfl, by omega, by omega⟩
            · exact ⟨3, rfl, by omega, by omega⟩
            · exact ⟨2 + r1, by congr 1, by omega, by omega⟩
            · exact ⟨10, rfl, by omega, by omega⟩) K3 d3 hp2 rfl (by omega) (by omega) fun v H4 hv k4 K4 d4 => ?_
          obtain ⟨e, rfl, he1, he2⟩ := hv
          have hc4 : CD H4 o (pfs L) ks := ⟨k4 _ _ no (k3 _ _ no hc.at_), hc.nd, hc.all, hc.rng⟩
          walk_at "z"
          refine ⟨o, _, hc4.at_, trivial, fun od => ?_⟩
          have fz : upd H4 o (.frz od (.dK (dN ks fun k => .int (((pfs L).count k : Nat) : Int)))) o = _ := upd_same
          refine ⟨od, .inl ⟨_, fz, for_k (fun i σ H' => H' = upd H4 o (.frz od (.dK (dN ks fun k => .int (((pfs L).count k : Nat) : Int)))) ∧ ∃ (v5 : Option V), σ = [some (.ref a), some (.ref nn), some (.ref o), v3, v4, v5, some (.str (prodW (if r = 0 then 2 else r))), some (.int (e : Int)), some (.int ((lackK (ks.take i) (pfs L) e : Nat) : Int)), none]) ⟨rfl, _, rfl⟩ ?_ ?_ ?_⟩⟩
          · rintro i σ H' _ ⟨rfl, _⟩
            exact fz
          · rintro i m σ H' hm hi ⟨rfl, v5, rfl⟩ N hN
            have hr := hc.rng m (List.mem_of_getElem? hm)
            have hlt : lackE ((pfs L).count m) e < e := Nat.mod_lt _ (by omega)
            have hm20 : m < 2 ^ 20 := Nat.lt_of_le_of_lt hr.2 (by decide)
            have hX : lackK (ks.take i) (pfs L) e ≤ 2 ^ (20 * L.length * e) := lack_log (by omega) (hc.nd.sublist (List.take_sublist i ks)) hrng fun x hx => by
              have := hc.rng x (List.mem_of_mem_take hx)
              omega
            have hBd : 20 * L.length * e ≤ 20 * 60 * 10 := Nat.mul_le_mul (by omega) he2
            have l1 := log2_le_of_le hX
            have hY : m ^ lackE ((pfs L).count m) e ≤ 2 ^ (20 * lackE ((pfs L).count m) e) := by
              rw [Nat.pow_mul]
              exact Nat.pow_le_pow_left (by omega) _
            have l2 := log2_le_of_le hY
            have em := lack_mod ((pfs L).count m) (e := e) (by omega)
            have ep : ((lackK (ks.take i) (pfs L) e : Nat) : Int) * ((m ^ lackE ((pfs L).count m) e : Nat) : Int) = ((lackK (ks.take (i + 1)) (pfs L) e : Nat) : Int) := by
              rw [List.take_add_one, hm, Option.toList_some, lackK_snoc]
              push_cast
              rfl
            walk_at "z"
            refine ⟨_, dN_atF fz (List.mem_of_getElem? hm), _, rfl, ?_⟩
            rw [em]
            refine ⟨by omega, m, lackE ((pfs L).count m) e, 20, rfl, hm20, by omega, by omega, ?_⟩
            walk_at "z"
            rw [ep]
            exact ⟨cmulN (by omega), hN _ _ ⟨rfl, _, rfl⟩⟩
          · rintro σ H' ⟨rfl, v5', rfl⟩
            rw [List.take_length]
            refine ⟨upd_same, ?_⟩
            rw [upd_upd, upd_eta hc4.at_]
            have hla := lack_keys (e := e) hc.nd hc.all
            generalize lackK ks (pfs L) e = R at hla ⊢
            have hRs := lack_small hla (by omega) he2 hrng (by omega)
            walk_at "z"
            have hB4 := K4 _ _ hna hB
            refine ⟨⟨_, SqL.of hB4⟩, lc_l txtI (SqL.of hB4) (size_le (by rw [len2]; omega)) ?_ ?_⟩
            · intro i x H5 hx s5 N0 N1 n0 n1
              obtain ⟨n, hn, rfl⟩ := ofN_at hx
              have hr := hrng n (List.mem_of_getElem? hn)
              walk_at "z"
              exact ⟨Nat.lt_of_le_of_lt (show ((n : Nat) : Int).natAbs ≤ 1000000 by omega) (by decide +kernel), n1 _ rfl _ (Same.refl _)⟩
            · intro Dc H5 hDc s5 hL5
              rw [filt_txt] at hL5
              refine ⟨_, Dc, (ofN L).map fun y => Str.ofString (toString y), rfl, rfl, .inl (SqL.of hL5), txt_len (List.Perm.refl _) (fun x hx => (hrng x hx).2) (by omega), by omega, fun pr hpr => ?_⟩
              rw [join_eq]
              have hB5 := s5 _ _ hB4
              have s6 := s5.trans (same_new (o := .lst [V.str (Str.join " " ((ofN L).map fun y => Str.ofString (toString y)))]) hpr)
              have hPr : upd H5 pr (.lst [V.str (Str.join " " ((ofN L).map fun y => Str.ofString (toString y)))]) pr = _ := upd_same
              generalize upd H5 pr (.lst [V.str (Str.join " " ((ofN L).map fun y => Str.ofString (toString y)))]) = H6 at s6 hPr ⊢
              refine r_len (SqL.of (s6 _ _ hB4)) ⟨_, rfl, r_slL (SqL.of hPr) fun d1 hd1 => ⟨by omega, fun b1 hb1 => ⟨by omega, fun d2 hd2 => ⟨by omega, fun b2 hb2 => ?_⟩⟩⟩⟩
              have ecut : cutV [V.str (Str.join " " ((ofN L).map fun y => Str.ofString (toString y)))] none (some (((ofN L).map V.int).length : Int)) = (rowsW (ofN L)).map V.str := by
                rw [cut_to, len2]
                unfold rowsW
                cases L with
                | nil => rfl
                | cons x r =>
                  have hne : ofN (x :: r) ≠ [] := by simp [ofN]
                  rw [if_neg hne, List.take_of_length_le (by simp)]
                  rfl
              rw [ecut] at hd2 hb1 hb2 ⊢
              have hl6 : (Str.empty ++ "lacks " : PySem.Str).length = 6 := by decide +kernel
              have hl5 : (Str.ofString (toString (e : Int))).length ≤ 5 := sN_len (n := e) (by decide) (by omega)
              have t1 := same_new (o := .lst ((rowsW (ofN L)).map V.str)) hd1
              have t2 := same_new (o := .lst [V.str "numbers", V.ref d1]) hb1
              have t3 := same_new (o := .lst [V.str (prodW (if r = 0 then 2 else r))]) hd2
              have t4 := same_new (o := .lst [V.str "product", V.ref d2]) hb2
              have f1 := (t2.trans (t3.trans t4)) _ _ (upd_same (H := H6) (a := d1) (o := .lst ((rowsW (ofN L)).map V.str)))
              have f2 := (t3.trans t4) _ _ (upd_same (a := b1) (o := .lst [V.str "numbers", V.ref d1]))
              have f3 := t4 _ _ (upd_same (a := d2) (o := .lst [V.str (prodW (if r = 0 then 2 else r))]))
              have z2 : H6 b1 = none := t1.free hb1
              have z3 : H6 d2 = none := t1.free (t2.free hd2)
              have z4 : H6 b2 = none := t1.free (t2.free (t3.free hb2))
              have t14 := t1.trans (t2.trans (t3.trans t4))
              have f4 := upd_same (H := upd (upd (upd H6 d1 (.lst ((rowsW (ofN L)).map V.str))) b1 (.lst [V.str "numbers", V.ref d1])) d2 (.lst [V.str (prodW (if r = 0 then 2 else r))])) (a := b2) (o := .lst [V.str "product", V.ref d2])
              generalize upd (upd (upd (upd H6 d1 (.lst ((rowsW (ofN L)).map V.str))) b1 (.lst [V.str "numbers", V.ref d1])) d2 (.lst [V.str (prodW (if r = 0 then 2 else r))])) b2 (.lst [V.str "product", V.ref d2]) = H7 at f1 f2 f3 f4 t14 ⊢
              refine ⟨by rw [hl6]; omega, Nat.lt_of_le_of_lt (show ((e : Nat) : Int).natAbs ≤ 1000000 by omega) (by decide +kernel), by rw [len_app, hl6]; omega, by rw [Int.natAbs_natCast]; exact hRs, by omega, fun d3 hd3 => ⟨by omega, fun b3 hb3 => ⟨by omega, fun t ht => ?_⟩⟩⟩
              rw [lacks_line] at ht ⊢
              have t5 := same_new (o := .lst [V.str (Str.ofString (toString (R : Int)))]) hd3
              have t6 := same_new (o := .lst [V.str (ln2 "lacks" e), V.ref d3]) hb3
              have t7 := same_new (o := .lst [V.ref b1, V.ref b2, V.ref b3]) ht
              have t57 := t5.trans (t6.trans t7)
              have z5 : H6 d3 = none := t14.free hd3
              have z6 : H6 b3 = none := t14.free (t5.free hb3)
              have z7 : H6 t = none := t14.free (t5.free (t6.free ht))
              have kall := K4.trans (sm_kp (s6.trans (t14.trans t57)))
              have dall := d4.same (s6.trans (t14.trans t57))
              have frH : ∀ u, H6 u = none → H u = none := fun u hu => by
                have h4 := s6.free hu
                exact K4.free (d4.ne h4) h4
              refine q t b1 b2 b3 _ kall dall (frH _ z7) upd_same fun b hb => ?_
              rcases hb with rfl | rfl | rfl
              · exact ⟨_, d1, rowsW (ofN L), t57 _ _ f2, frH _ hd1, t57 _ _ f1, .numbers _ (List.Perm.refl _) hso⟩
              · exact ⟨_, d2, [prodW (if r = 0 then 2 else r)], t57 _ _ f4, frH _ z3, t57 _ _ f3, .product _ hE⟩
              · exact ⟨_, d3, [sN R], t7 _ _ upd_same, frH _ z5, (t6.trans t7) _ _ upd_same, .lacks e R he1 he2 hla⟩
end
abbrev s__law_right : Stmt := top 80
theorem sc__law_right : FnScope ["seed", "desk", "numbers", "held", "dues", "begin", "line", "due", "told"] ["seed", "desk", "numbers", "held"] (defScope s__law_right) := ⟨rfl, rfl, rfl, by decide +kernel, rfl, by decide +kernel, by decide +kernel⟩
def sp__law_right (K : PySem.W.Frag) : Sp := fun vs H Q _ => ∃ (a q0 p ln lo nn h : Addr) (L L2 : List Nat) (xs : List Addr), vs = [.ref a, .ref q0, .ref nn, .ref h] ∧ Sd H a ∧ nn ≠ a ∧ ln ≠ a ∧ h ≠ a ∧ nn ≠ h ∧ DO K H q0 p ln lo L ∧ H nn = some (.lst ((ofN L2).map V.int)) ∧ L2.Perm L ∧ (ofN L2).Pairwise (· ≤ ·) ∧ L.length ≤ 60 ∧ Held H h ln xs ∧ xs.length ≤ 1000 ∧
  ∀ (xs' : List Addr) (H' : Hp), K2 a h H H' → Sd H' a → Held H' h ln xs' → xs'.length ≤ xs.length + 3 → Q (.bl true) H'
section
variable {P : Program} {w : World} {K : PySem.W.Frag} {mg : PySem.Str → Option Value} {base : Heap}
theorem bi__law_right {f : Addr} {fd : FuncData} (F : Fun K "_law_right" "_law_right" s__law_right f fd) : Binds K fd ["seed", "desk", "numbers", "held"] [] := F.binds (ps := ["seed", "desk", "numbers", "held"]) fun _ _ _ _ _ _ us hl => match us, hl with | [_, _, _, _], _ => rfl
set_option maxHeartbeats 4000000 in
theorem ok__law_right {f : Addr} {fd : FuncData} (F : Fun K "_law_right" "_law_right" s__law_right f fd) (B : Bt mg)  (h__law_dues : Fn P w K mg base CX0 2 "_law_dues" ["seed", "numbers"] (sp__law_dues K)) (h__law_draw : Fn P w K mg base CX0 1 "_law_draw" ["seed", "most"] (sp__law_draw K)) (h_Desk_ask : FnM P w K mg base CX0 5 "Desk" ["kept"] "ask" ["self", "line"] (sp_Desk_ask K)) : FnOk P w K mg base CX0 6 f fd ["seed", "desk", "numbers", "held"] (sp__law_right K) := by
  refine F.ok sc__law_right (fun vs H Q E h => ?_) (fun cdv A outer s H vs Q E hr h => ?_)
  · obtain ⟨a, q0, p, ln, lo, nn, h, L, L2, xs, rfl, hD, hna, hla, hha, hnh, hO, hB, hpm, hso, hlen, hH, hxl, q⟩ := h
    rfl
  · obtain ⟨a, q0, p, ln, lo, nn, h, L, L2, xs, rfl, hD, hna, hla, hha, hnh, hO, hB, hpm, hso, hlen, hH, hxl, q⟩ := h
    refine ⟨_, (pss_cons (ps_set (i := 4) sc__law_right.nd rfl (Or.inl rfl) (pe_fn h__law_dues (hr.mono (by decide)) (by rfl) (pa_cons (pv 0) (pa_cons (pv 2) pa_nil))))
      (pss_cons (ps_set (i := 5) sc__law_right.nd rfl (Or.inl rfl) (pe_fn h__law_draw (hr.mono (by decide)) (by rfl) (pa_cons (pv 0) (pa_cons pe_int pa_nil))))
      (pss_cons (ps_for PassesOwn.never rfl (pi_list (pe_op op_cat (pe_slice (k_slL K) (pv 4) (po_some (pv 5)) po_none) (pe_slice (k_slL K) (pv 4) po_none (po_some (pv 5))))) (k_lstG K rfl (pgs_cons (pg_name (i := 6) sc__law_right.nd rfl (Or.inl rfl)) (pgs_cons (pg_name (i := 7) sc__law_right.nd rfl (Or.inl rfl)) pgs_nil)))
        (pss_cons (ps_expr (pe_bm PySem.F.plainAttrs_list PySem.F.slot_list_append PySem.F.type_list_append mt_append (pv 3) (pa_cons (pe_tup (pa_cons (pe_mt (K := K) h_Desk_ask (hr.mono (by decide)) (pv 1) (pa_cons (pv 6) pa_nil)) (pa_cons (pv 7) pa_nil))) pa_nil)))
        (pss_cons (ps_set (i := 8) sc__law_right.nd rfl (Or.inl rfl) (pe_mt (K := K) h_Desk_ask (hr.mono (by decide)) (pv 1) (pa_cons (pv 6) pa_nil)))
        (pss_cons (ps_if (PW.pt (pw_or (pt_not (pt_val (pe_callB (k_isi K) (by rfl) B.isinstance (by decide +kernel) (pa_cons (pv 8) (pa_cons (pe_bltn (v := .ty "list") (u := .type "list") (by rfl) B.list (by decide +kernel) rfl) pa_nil))))) (pw_or1 (pt_cmpR (k_neD K rfl hr.units) (pv 8) (pv 7) (nomark _)))))
          (pss_one (ps_ret pe_bl))
          pss_nil)
        (pss_cons (ps_expr (pe_bm PySem.F.plainAttrs_list PySem.F.slot_list_append PySem.F.type_list_append mt_append (pv 8) (pa_cons pe_str pa_nil)))
        (pss_one (ps_if (pt_cmpR (k_neD K rfl hr.units) (pe_mt (K := K) h_Desk_ask (hr.mono (by decide)) (pv 1) (pa_cons (pv 6) pa_nil)) (pv 7) (nomark _))
          (pss_one (ps_ret pe_bl))
          pss_nil)))))))
      (pss_one (ps_ret pe_bl))))), ?_⟩
    have sz : 2000 ≤ sizeLine := by decide
    have hlen2 : L2.length ≤ 60 := hpm.length_eq ▸ hlen
    walk_at "z"
    refine ⟨a, nn, L2, rfl, hD, hna, hB, hso, hlen2, fun x hx => hO.kp.rng x (hpm.mem_iff.mp hx), fun t b1 b2 b3 H1 k1 d1 ht0 ht hb => ?_⟩
    walk_at "z"
    refine use_draw k1 d1 (by omega) (by omega) fun r H2 k2 K2' d2 a2 b2' => ?_
    obtain ⟨r, rfl⟩ := Int.eq_ofNat_of_zero_le a2
    have nth : t ≠ h := (ne_of_none hH.at_ ht0).symm
    have nta : t ≠ a := (fun z => by
      obtain ⟨x0, x1, x2, x3, ha⟩ := hD
      rw [z, ha] at ht0
      cases ht0)
    have ht2 := k2 _ _ nta ht
    refine ⟨_, rfl, r_slL (SqL.of ht2) fun c1 hc1 => ⟨_, rfl, ?_⟩⟩
    have s1 := same_new (o := .lst (cutV [V.ref b1, V.ref b2, V.ref b3] (some (r : Int)) none)) hc1
    refine r_slL (SqL.of (s1 _ _ ht2)) fun c2 hc2 => ?_
    rw [cut_from, cut_to] at *
    have n12 := ne_of_none (upd_same (H := H2) (a := c1) (o := .lst ([V.ref b1, V.ref b2, V.ref b3].drop r))) hc2
    have s2 := s1.trans (same_new (o := .lst ([V.ref b1, V.ref b2, V.ref b3].take r)) hc2)
    refine r_cat ((upd_ne n12).trans upd_same) upd_same (by simp only [List.length_drop, List.length_take, List.length_cons, List.length_nil]; omega) fun y hy => ?_
    have hmem : ∀ v ∈ [V.ref b1, V.ref b2, V.ref b3].drop r ++ [V.ref b1, V.ref b2, V.ref b3].take r, ∃ b, v = .ref b ∧ (b = b1 ∨ b = b2 ∨ b = b3) := fun v hv => by
      have hv2 : v ∈ [V.ref b1, V.ref b2, V.ref b3] := (List.mem_append.mp hv).elim List.mem_of_mem_drop List.mem_of_mem_take
      simp only [List.mem_cons, List.not_mem_nil, or_false] at hv2
      rcases hv2 with rfl | rfl | rfl
      · exact ⟨b1, rfl, .inl rfl⟩
      · exact ⟨b2, rfl, .inr (.inl rfl)⟩
      · exact ⟨b3, rfl, .inr (.inr rfl)⟩
    have hln3 : ([V.ref b1, V.ref b2, V.ref b3].drop r ++ [V.ref b1, V.ref b2, V.ref b3].take r).length = 3 := by
      simp only [List.length_append, List.length_drop, List.length_take, List.length_cons, List.length_nil]
      omega
    generalize hits : [V.ref b1, V.ref b2, V.ref b3].drop r ++ [V.ref b1, V.ref b2, V.ref b3].take r = items at hmem hln3 ⊢
    have s3 := s2.trans (same_new (o := .lst items) hy)
    have hY : upd (upd (upd H2 c1 (.lst ([V.ref b1, V.ref b2, V.ref b3].drop r))) c2 (.lst ([V.ref b1, V.ref b2, V.ref b3].take r))) y (.lst items) y = some (.lst items) := upd_same
    have ny2 : H2 y = none := s2.free hy
    generalize upd (upd (upd H2 c1 (.lst ([V.ref b1, V.ref b2, V.ref b3].drop r))) c2 (.lst ([V.ref b1, V.ref b2, V.ref b3].take r))) y (.lst items) = H3 at s3 hY ⊢
    have K3 : Kp a H H3 := K2'.trans (sm_kp s3)
    have d3 := d2.same s3
    have hO3 : DO K H3 q0 p ln lo L := hO.keep (a := a) (b := a) (fun c o n1 _ e => K3 c o n1 e) hD.lst hD.lst hla hla
    obtain ⟨ks, hcd⟩ := hO.kp.cd
    have hH3 : Held H3 h ln xs := hH.keep hD ⟨_, hcd.at_⟩ ⟨_, hO.kp.ns⟩ fun b o n1 _ _ e => K3 b o n1 e
    have nyh : y ≠ h := fun z => by
      have h4 := K2' _ _ hha hH.at_
      rw [← z, ny2] at h4
      cases h4
    -- what stands in the row
    have hb3 : ∀ b, b = b1 ∨ b = b2 ∨ b = b3 → ∃ (z : PySem.Str) (d : Addr) (ys : List PySem.Str), H3 b = some (.lst [.str z, .ref d]) ∧ d ≠ h ∧ d ≠ ln ∧ H3 d = some (.lst (ys.map V.str)) ∧ Ask L z ys := fun b hb4 => by
      obtain ⟨z, d, ys, g1, g2, g3, g4⟩ := hb b hb4
      have nba : b ≠ a := by
        obtain ⟨x0, x1, x2, x3, ha⟩ := d1
        exact ne_of g1 ha fun e => by
          injection e with e
          injection e with e
          cases e
      have nda : d ≠ a := fun z => by
        obtain ⟨x0, x1, x2, x3, ha⟩ := hD
        rw [z, ha] at g2
        cases g2
      exact ⟨z, d, ys, s3 _ _ (k2 _ _ nba g1), (ne_of_none hH.at_ g2).symm, (ne_of_none hO.kp.ns g2).symm, s3 _ _ (k2 _ _ nda g3), g4.perm hpm⟩
    walk_at "z"
    refine ⟨⟨_, SqL.of hY⟩, for_l (xs := items) (fun i σ H' => ∃ (v6 v7 v8 : Option V) (xs' : List Addr), σ = [some (.ref a), some (.ref q0), some (.ref nn), some (.ref h), some (.ref t), some (.int (r : Int)), v6, v7, v8] ∧ Kp h H3 H' ∧ Held H' h ln xs' ∧ xs'.length ≤ xs.length + i) ⟨_, _, _, xs, rfl, Kp.refl _ _, hH3, Nat.le_refl _⟩ ?_ ?_ ?_⟩
    · rintro i σ H' _ ⟨v6, v7, v8, xs', rfl, kk, _⟩
      exact SqL.of (kk _ _ nyh hY)
    · rintro i x σ H4 hx ⟨v6, v7, v8, xs', rfl, k4, hH4, hl4⟩ N hN
      obtain ⟨b, rfl, hbb⟩ := hmem x (List.mem_of_getElem? hx)
      obtain ⟨z, d, ys, g1, g2, g3, g4, hA⟩ := hb3 b hbb
      have nbh : b ≠ h := ne_of g1 hH3.at_ fun e => by
        injection e with e
        cases xs with
        | nil => cases e
        | cons x xs =>
          rw [List.map_cons] at e
          injection e with e
          cases e
      have g1' := k4 _ _ nbh g1
      have g4' := k4 _ _ g2 g4
      have hO4 : DO K H4 q0 p ln lo L := hO3.keep (a := h) (b := h) (fun c o n1 _ e => k4 c o n1 e) ⟨_, hH3.at_⟩ ⟨_, hH3.at_⟩ hH.ne.symm hH.ne.symm
      have hi3 : i < 3 := by
        have := (List.getElem?_eq_some_iff.mp hx).1
        omega
      have hok := hA.oks
      refine ⟨b, _, rfl, SqL.of g1', rfl, ?_⟩
      walk_at "z"
      refine ⟨ty_list (SqL.of hH4.at_), hO4.dk.isO (by decide +kernel), q0, p, ln, lo, L, z, rfl, hO4, hlen, .inl ⟨ys, hA, fun t1 H5 ht1 s5 h5 => ⟨by omega, fun u hu => ?_⟩⟩⟩
      have s6 := s5.trans (same_new (o := .tup [.ref t1, .ref d]) hu)
      have h5u := (same_new (o := .tup [.ref t1, .ref d]) hu) _ _ h5
      have hU : upd H5 u (.tup [.ref t1, .ref d]) u = _ := upd_same
      generalize upd H5 u (.tup [.ref t1, .ref d]) = H6 at s6 h5u hU ⊢
      have hH6 := hH4.same s6
      have hx1 : xs'.length ≤ 1010 := by omega
      refine r_app hH6.at_ (by rw [List.length_map]; omega) ?_
      have hH7 := hH6.snoc hU h5u (s6 _ _ g4') hok (ne_of_none hO4.kp.ns ht1).symm g3 (ne_of_none hH4.at_ ht1).symm g2
      have k7 : Kp h H3 (upd H6 h (.lst (xs'.map V.ref ++ [.ref u]))) := (k4.trans (sm_kp s6)).upd
      have g7 := k7 _ _ g2 g4
      have hO7 : DO K (upd H6 h (.lst (xs'.map V.ref ++ [.ref u]))) q0 p ln lo L := hO3.keep (a := h) (b := h) (fun c o n1 _ e => k7 c o n1 e) ⟨_, hH3.at_⟩ ⟨_, hH3.at_⟩ hH.ne.symm hH.ne.symm
      generalize upd H6 h (.lst (xs'.map V.ref ++ [.ref u])) = H7 at hH7 k7 g7 hO7 ⊢
      refine ⟨hO7.dk.isO (by decide +kernel), q0, p, ln, lo, L, z, rfl, hO7, hlen, .inl ⟨ys, hA, fun t2 H8 ht2 s8 h8 => ?_⟩⟩
      refine r_isi (ty_lst (SqL.of h8)) (c := true) (by decide +kernel) ⟨true, rfl, ?_⟩
      rw [if_neg (by decide)]
      refine r_neLX (ns := ys) (ms := ys) (SqL.of h8) (SqL.of (s8 _ _ g7)) hok hok ⟨_, rfl, ?_⟩
      rw [if_neg (by simp)]
      have hys : ys.length ≤ 1 := by
        cases hA with
        | numbers zs _ _ =>
          unfold rowsW
          split <;> simp
        | product e _ => exact Nat.le_refl _
        | lacks e r _ _ _ => exact Nat.le_refl _
      refine ⟨ty_list (SqL.of h8), r_app h8 (by rw [List.length_map]; omega) ?_⟩
      have s9 : Same H7 (upd H8 t2 (.lst (ys.map V.str ++ [.str "x"]))) := sm_new s8 ht2
      have hO9 := hO7.same s9
      have hH9 := hH7.same s9
      have k9 := k7.trans (sm_kp s9)
      have g9 := s9 _ _ g7
      generalize upd H8 t2 (.lst (ys.map V.str ++ [.str "x"])) = H9 at s9 hO9 hH9 k9 g9 ⊢
      refine ⟨hO9.dk.isO (by decide +kernel), q0, p, ln, lo, L, z, rfl, hO9, hlen, .inl ⟨ys, hA, fun t3 H10 ht3 s10 h10 => ?_⟩⟩
      refine r_neLX (ns := ys) (ms := ys) (SqL.of h10) (SqL.of (s10 _ _ g9)) hok hok ⟨_, rfl, ?_⟩
      rw [if_neg (by simp)]
      exact hN _ _ ⟨_, _, _, xs' ++ [u], rfl, k9.trans (sm_kp s10), hH9.same s10, by rw [List.length_append]; show _ + 1 ≤ _; omega⟩
    · rintro σ H4 ⟨v6, v7, v8, xs', rfl, k4, hH4, hl4⟩
      walk_at "z"
      rw [hln3] at hl4
      refine q xs' H4 (fun c o n1 n2 e => k4 _ _ n2 (K3 _ _ n1 e)) ?_ hH4 hl4
      obtain ⟨x0, x1, x2, x3, ha⟩ := d3
      exact ⟨x0, x1, x2, x3, k4 _ _ hha.symm ha⟩
end
abbrev s_law : Stmt := top 81
theorem sc_law : FnScope ["script", "desk", "held", "numbers", "cell", "seed", "turn", "line", "told", "due"] ["script"] (defScope s_law) := ⟨rfl, rfl, rfl, by decide +kernel, rfl, by decide +kernel, by decide +kernel⟩
def sp_law (K : PySem.W.Frag) : Sp := fun vs H Q _ => ∃ (a : Addr) (ns : List Int), vs = [.ref a] ∧ SqL K H a (ns.map V.int) ∧ ns.length ≤ 63 ∧ ∀ H', Q (.bl true) H'
/-- all but the desk's own and what is held -/
def Kd (ln lo h : Addr) (H H' : Hp) : Prop := ∀ b o, b ≠ ln → b ≠ lo → b ≠ h → H b = some o → H' b = some o
theorem Kd.refl (ln lo h : Addr) (H : Hp) : Kd ln lo h H H := fun _ _ _ _ _ e => e
theorem Kd.more {ln lo h a : Addr} {H0 H H' : Hp} (k : Kd ln lo h H0 H) (ha : H0 a = none) (q : ∀ b o, b ≠ a → b ≠ ln → b ≠ lo → b ≠ h → H b = some o → H' b = some o) : Kd ln lo h H0 H' := fun b o n1 n2 n3 e => q b o (ne_of_none e ha) n1 n2 n3 (k b o n1 n2 n3 e)
/-- the desk, the law's own numbers, what is held -/
structure Stt (K : PySem.W.Frag) (H : Hp) (q0 p ln lo nn h : Addr) (L L2 : List Nat) (xs : List Addr) : Prop where
  o : DO K H q0 p ln lo L
  hn : H nn = some (.lst ((ofN L2).map V.int))
  pm : L2.Perm L
  so : (ofN L2).Pairwise (· ≤ ·)
  len : L2.length ≤ 60
  hd : Held H h ln xs
  nd : nn ≠ ln ∧ nn ≠ h
theorem Stt.same {K : PySem.W.Frag} {H H' : Hp} {q0 p ln lo nn h : Addr} {L L2 : List Nat} {xs : List Addr} (s : Stt K H q0 p ln lo nn h L L2 xs) (k : Same H H') : Stt K H' q0 p ln lo nn h L L2 xs := ⟨s.o.same k, k _ _ s.hn, s.pm, s.so, s.len, s.hd.same k, s.nd⟩
theorem Stt.fresh {K : PySem.W.Frag} {H : Hp} {q0 p ln lo nn h a : Addr} {L L2 : List Nat} {xs : List Addr} (s : Stt K H q0 p ln lo nn h L L2 xs) (ha : H a = none) : nn ≠ a ∧ ln ≠ a ∧ h ≠ a := ⟨ne_of_none s.hn ha, ne_of_none s.o.kp.ns ha, ne_of_none s.hd.at_ ha⟩
theorem Stt.right {K : PySem.W.Frag} {H : Hp} {q0 p ln lo nn h a : Addr} {L L2 : List Nat} {xs : List Addr} {Q : VK} (s : Stt K H q0 p ln lo nn h L L2 xs) (hD : Sd H a) (na : nn ≠ a ∧ ln ≠ a ∧ h ≠ a) (hx : xs.length ≤ 1000)
    (q : ∀ (xs' : List Addr) (H' : Hp), K2 a h H H' → Sd H' a → Stt K H' q0 p ln lo nn h L L2 xs' → xs'.length ≤ xs.length + 3 → Q (.bl true) H') : sp__law_right K [.ref a, .ref q0, .ref nn, .ref h] H Q E0 :=
  ⟨a, q0, p, ln, lo, nn, h, L, L2, xs, rfl, hD, na.1, na.2.1, na.2.2, s.nd.2, s.o, s.hn, s.pm, s.so, s.pm.length_eq ▸ s.len, s.hd, hx, fun xs' H' k d hh hl => q xs' H' k d ⟨s.o.keep k hD.lst ⟨_, s.hd.at_⟩ na.2.1 s.hd.ne.symm, k _ _ na.1 s.nd.2 s.hn, s.pm, s.so, s.len, hh, s.nd⟩ hl⟩
/-- what a seed's draws, or a new list, leave -/
theorem Stt.kp {K : PySem.W.Frag} {H H' : Hp} {q0 p ln lo nn h a : Addr} {L L2 : List Nat} {xs : List Addr} (s : Stt K H q0 p ln lo nn h L L2 xs) (hD : Sd H a) (na : nn ≠ a ∧ ln ≠ a ∧ h ≠ a) (k : Kp a H H') : Stt K H' q0 p ln lo nn h L L2 xs := by
  obtain ⟨ks, hc⟩ := s.o.kp.cd
  exact ⟨s.o.keep (a := a) (b := a) (fun c o n1 _ e => k c o n1 e) hD.lst hD.lst na.2.1 na.2.1, k _ _ na.1 s.hn, s.pm, s.so, s.len, s.hd.keep hD ⟨_, hc.at_⟩ ⟨_, s.o.kp.ns⟩ fun b o n1 _ _ e => k b o n1 e, s.nd⟩
section
variable {P : Program} {w : World} {K : PySem.W.Frag} {mg : PySem.Str → Option Value} {base : Heap}
theorem bi_law {f : Addr} {fd : FuncData} (F : Fun K "law" "law" s_law f fd) : Binds K fd ["script"] [] := F.binds (ps := ["script"]) fun _ _ _ _ _ _ us hl => match us, hl with | [_], _ => rfl
set_option maxHeartbeats 4000000 in
theorem ok_law {f : Addr} {fd : FuncData} (F : Fun K "law" "law" s_law f fd) (B : Bt mg)  (h_Desk___init__ : FnK P w K mg base CX0 3 "Desk" ["kept"] ["self"] (sp_Desk___init__ K)) (h__law_right : Fn P w K mg base CX0 6 "_law_right" ["seed", "desk", "numbers", "held"] (sp__law_right K)) (h__law_seed : Fn P w K mg base CX0 1 "_law_seed" ["cell"] (sp__law_seed K)) (h__law_cells : Fn P w K mg base CX0 1 "_law_cells" ["script", "many"] (sp__law_cells K)) (h__law_draw : Fn P w K mg base CX0 1 "_law_draw" ["seed", "most"] (sp__law_draw K)) (h__law_deed : Fn P w K mg base CX0 4 "_law_deed" ["seed", "numbers"] (sp__law_deed K)) (h_Desk_ask : FnM P w K mg base CX0 5 "Desk" ["kept"] "ask" ["self", "line"] (sp_Desk_ask K)) : FnOk P w K mg base CX0 7 f fd ["script"] (sp_law K) := by
  refine F.ok sc_law (fun vs H Q E h => ?_) (fun cdv A outer s H vs Q E hr h => ?_)
  · obtain ⟨a, ns, rfl, hS, hlen, q⟩ := h
    rfl
  · obtain ⟨a, ns, rfl, hS, hlen, q⟩ := h
    refine ⟨_, (pss_cons (ps_set (i := 1) sc_law.nd rfl (Or.inl rfl) (pe_mk0 h_Desk___init__ (hr.mono (by decide)) (by rfl)))
      (pss_cons (ps_set (i := 2) sc_law.nd rfl (Or.inl rfl) (pe_lst pa_nil))
      (pss_cons (ps_set (i := 3) sc_law.nd rfl (Or.inl rfl) (pe_lst pa_nil))
      (pss_cons (ps_if (pt_not (pt_tru K (pe_fn h__law_right (hr.mono (by decide)) (by rfl) (pa_cons (pe_fn h__law_seed (hr.mono (by decide)) (by rfl) (pa_cons pe_int pa_nil)) (pa_cons (pv 1) (pa_cons (pv 3) (pa_cons (pv 2) pa_nil)))))))
        (pss_one (ps_ret pe_bl))
        pss_nil)
      (pss_cons (ps_for PassesOwn.never rfl (pi_list (pe_fn h__law_cells (hr.mono (by decide)) (by rfl) (pa_cons (pv 0) (pa_cons pe_int pa_nil)))) (pg_name (i := 4) sc_law.nd rfl (Or.inl rfl))
        (pss_cons (ps_set (i := 5) sc_law.nd rfl (Or.inl rfl) (pe_fn h__law_seed (hr.mono (by decide)) (by rfl) (pa_cons (pv 4) pa_nil)))
        (pss_cons (ps_for PassesOwn.never rfl (pi_range1 rfl B.range (pa_cons (pe_ix (k_ixL K) (pe_lst (pa_cons pe_int (pa_cons pe_int (pa_cons pe_int (pa_cons pe_int pa_nil))))) (pe_fn h__law_draw (hr.mono (by decide)) (by rfl) (pa_cons (pv 5) (pa_cons pe_int pa_nil))) (fun _ _ => rfl)) pa_nil)) (pg_name (i := 6) sc_law.nd rfl (Or.inl rfl))
          (pss_cons (ps_asg (pe_fn h__law_deed (hr.mono (by decide)) (by rfl) (pa_cons (pv 5) (pa_cons (pv 3) pa_nil))) (k_lstG K rfl (pgs_cons (pg_name (i := 7) sc_law.nd rfl (Or.inl rfl)) (pgs_cons (pg_name (i := 3) sc_law.nd rfl (Or.inl rfl)) pgs_nil))))
          (pss_cons (ps_set (i := 8) sc_law.nd rfl (Or.inl rfl) (pe_mt (K := K) h_Desk_ask (hr.mono (by decide)) (pv 1) (pa_cons (pv 7) pa_nil)))
          (pss_cons (ps_if (pt_cmpR (k_neD K rfl hr.units) (pv 8) (pe_lst pa_nil) (nomark _))
            (pss_one (ps_ret pe_bl))
            pss_nil)
          (pss_one (ps_expr (pe_bm PySem.F.plainAttrs_list PySem.F.slot_list_append PySem.F.type_list_append mt_append (pv 8) (pa_cons pe_str pa_nil))))))))
        (pss_one (ps_if (PW.pt (pw_and (pt_cmpR op_eq (pe_fn h__law_draw (hr.mono (by decide)) (by rfl) (pa_cons (pv 5) (pa_cons pe_int pa_nil))) pe_int (nomark _)) (pw_and1 (pt_not (pt_tru K (pe_fn h__law_right (hr.mono (by decide)) (by rfl) (pa_cons (pv 5) (pa_cons (pv 1) (pa_cons (pv 3) (pa_cons (pv 2) pa_nil))))))))))
          (pss_one (ps_ret pe_bl))
          pss_nil)))))
      (pss_cons (ps_if (pt_not (pt_tru K (pe_fn h__law_right (hr.mono (by decide)) (by rfl) (pa_cons (pe_fn h__law_seed (hr.mono (by decide)) (by rfl) (pa_cons (pe_callB (k_len K) (by rfl) B.len (by decide +kernel) (pa_cons (pv 0) pa_nil)) pa_nil)) (pa_cons (pv 1) (pa_cons (pv 3) (pa_cons (pv 2) pa_nil)))))))
        (pss_one (ps_ret pe_bl))
        pss_nil)
      (pss_one (ps_ret (pe_cmpR (k_eqD K rfl hr.units) (pe_lc (own := [("told", 8), ("due", 9)]) (g := gTup K 2 (gCons (gName 8) (gCons (gName 9) gNil))) rfl sc_law.nd (pi_list (pv 2)) (blkOk_by (own := [("told", 8), ("due", 9)]) (N := ["script", "desk", "held", "numbers", "cell", "seed", "turn", "line", "told", "due"]) (sc := defScope s_law) (by decide +kernel)) (fun _ _ _ _ _ => (pg_tup rfl (pgs_cons (pg_name (i := 8) sc_law.nd rfl (Or.inl rfl)) (pgs_cons (pg_name (i := 9) sc_law.nd rfl (Or.inl rfl)) pgs_nil)))) (fun _ _ _ _ _ => (pts_one (pt_cmpR (k_neD K rfl hr.units) (pv 8) (pv 9) (nomark _)))) (fun _ _ _ _ _ => pe_int)) (pe_lst pa_nil) (nomark _)))))))))), ?_⟩
    have sz : 2000 ≤ sizeLine := by decide
    walk_at "z"
    intro C q0 dx hC hq0 hdx hne
    refine ⟨q0, C, dx, rfl, hC, upd_same, fun p ln lo H1 hp hln hlo hO hfr => ⟨rfl, ?_⟩⟩
    have up : Same H H1 := fun b o h => hfr b o (ne_of_none h hq0) (by rw [upd_ne (ne_of_none h hq0), upd_ne (ne_of_none h hdx)]; exact h)
    walk_at "z"
    refine ⟨by omega, fun h hh => ⟨by omega, fun nn hnn => ?_⟩⟩
    have s2 := (same_new (o := .lst []) hh).trans (same_new (o := .lst []) hnn)
    have hS2 : Stt K (upd (upd H1 h (.lst [])) nn (.lst [])) q0 p ln lo nn h [] [] [] := by
      have nhn := ne_of_none (upd_same (H := H1) (a := h) (o := .lst [])) hnn
      refine ⟨hO.same s2, upd_same, List.Perm.refl _, List.Pairwise.nil, Nat.zero_le _, ⟨(upd_ne nhn).trans upd_same, fun x hx => (by cases hx), (ne_of_none hO.kp.ns hh).symm⟩, (ne_of_none hO.kp.ns (upd_free hnn)).symm, nhn.symm⟩
    have sA : Same H (upd (upd H1 h (.lst [])) nn (.lst [])) := up.trans s2
    generalize upd (upd H1 h (.lst [])) nn (.lst []) = H2 at s2 hS2 sA ⊢
    refine ⟨2, rfl, fun a0 H3 ha0 s3 d3 => ?_⟩
    have hS3 := hS2.same s3
    refine hS3.right d3 (hS2.fresh ha0) (Nat.zero_le _) fun xs H4 k4 d4 hS4 hl4 => ⟨true, rfl, ?_⟩
    have nha : h ≠ a0 := (hS2.fresh ha0).2.2
    have hSqL : ∀ H', (∀ b o, H b = some o → H' b = some o) → SqL K H' a (ns.map V.int) := fun H' hh => Same.seq hh hS
    -- what stood there at first still stands
    have hln0 : H ln = none := upd_free (upd_free hln)
    have hlo0 : H lo = none := upd_free (upd_free hlo)
    have fH : ∀ b o, H b = some o → b ≠ ln ∧ b ≠ lo ∧ b ≠ h := fun b o e => ⟨(fun z => by
      rw [z, hln0] at e
      cases e), (fun z => by
      rw [z, hlo0] at e
      cases e), ne_of_none (up _ _ e) hh⟩
    have s04 : Same H H4 := fun b o e => k4 b o (ne_of_none (sA _ _ e) ha0) (fH b o e).2.2 (s3 _ _ (sA _ _ e))
    walk_at "z"
    refine ⟨a, ns, 15, rfl, s04.seq hS, hlen, fun cl cs H5 hcl s5 hCL _ hcl64 => ?_⟩
    have hS5 := hS4.same s5
    have fcl := hS4.fresh hcl
    obtain ⟨ks4, hcd4⟩ := hS4.o.kp.cd
    have ncl : cl ≠ ln ∧ cl ≠ lo ∧ cl ≠ h := ⟨fcl.2.1.symm, (ne_of_none hcd4.at_ hcl).symm, fcl.2.2.symm⟩
    have s05 : Same H H5 := s04.trans s5
    walk_at "z"
    refine ⟨⟨_, SqL.of hCL⟩, for_l (xs := cs.map V.int) (fun i σ H' => ∃ (nn : Addr) (v4 v5 v6 v7 v8 : Option V) (L L2 : List Nat) (xs : List Addr), σ = [some (.ref a), some (.ref q0), some (.ref h), some (.ref nn), v4, v5, v6, v7, v8, none] ∧ Kd ln lo h H5 H' ∧ Stt K H' q0 p ln lo nn h L L2 xs ∧ xs.length ≤ 3 + 3 * i) ⟨nn, _, _, _, _, _, [], [], xs, rfl, Kd.refl _ _ _ _, hS5, hl4⟩ ?_ ?_ ?_⟩
    · rintro i σ H' _ ⟨nn, v4, v5, v6, v7, v8, L, L2, xs, rfl, kk, _⟩
      exact SqL.of (kk _ _ ncl.1 ncl.2.1 ncl.2.2 hCL)
    · rintro i x σ H6 hx ⟨nn, v4, v5, v6, v7, v8, L, L2, xs, rfl, k6, hS6, hl6⟩ N hN
      obtain ⟨c, _, rfl⟩ := int_at hx
      have hi64 : i < 64 := by
        have := (List.getElem?_eq_some_iff.mp hx).1
        rw [List.length_map] at this
        omega
      walk_at "z"
      refine ⟨c, rfl, fun a1 H7 ha1 s7 d7 => ?_⟩
      have fr := hS6.fresh ha1
      have hS7 := hS6.same s7
      have n5 : H5 a1 = none := by
        cases e : H5 a1 with
        | none => rfl
        | some o =>
          obtain ⟨ks6, hcd6⟩ := hS6.o.kp.cd
          have := k6 a1 o fr.2.1.symm (ne_of_none hcd6.at_ ha1).symm fr.2.2.symm e
          rw [this] at ha1
          cases ha1
      have k7 : Kd ln lo h H5 H7 := k6.more n5 fun b o _ _ _ _ e => s7 b o e
      walk_at "z"
      refine ⟨by omega, fun p1 hp1 => ?_⟩
      refine use_pick (fun v => ∃ z : Nat, v = .int (z : Int) ∧ z ≤ 15) (fun x hx => by
        simp only [List.mem_cons, List.not_mem_nil, or_false] at hx
        rcases hx with rfl | rfl | rfl | rfl
        · exact ⟨1, rfl, by omega⟩
        · exact ⟨2, rfl, by omega⟩
        · exact ⟨3, rfl, by omega⟩
        · exact ⟨15, rfl, by omega⟩) (Kp.refl a1 H7) d7 hp1 rfl (by omega) (by omega) fun v H8 hv k8 _ d8 => ?_
      obtain ⟨z, rfl, hz⟩ := hv
      have hS8 := hS7.kp d7 fr k8
      have k8' : Kd ln lo h H5 H8 := k7.more n5 fun b o n1 _ _ _ e => k8 b o n1 e
      walk_at "z"
      refine ⟨by omega, by omega, for_r (fun j σ H' => ∃ (nn : Addr) (v6 v7 v8 : Option V) (L L2 : List Nat), σ = [some (.ref a), some (.ref q0), some (.ref h), some (.ref nn), some (.int c), some (.ref a1), v6, v7, v8, none] ∧ Kd ln lo h H5 H' ∧ Stt K H' q0 p ln lo nn h L L2 xs ∧ Sd H' a1 ∧ nn ≠ a1) ⟨nn, _, _, _, L, L2, rfl, k8', hS8, d8, fr.1⟩ ?_ ?_⟩
      · rintro j σ H9 hj ⟨nn, v6, v7, v8, L, L2, rfl, k9, hS9, d9, nna⟩ N2 hN2
        walk_at "z"
        have hlL : L.length = L2.length := hS9.pm.length_eq.symm
        refine ⟨a1, nn, L2, rfl, d9, nna, hS9.hn, hS9.so, hS9.len, fun x hx => hS9.o.kp.rng x (hS9.pm.mem_iff.mp hx), fun t b n zz L2' H10 k10 d10 hb0 ht hb hso hl hcase => ?_⟩
        have fr9 : nn ≠ a1 ∧ ln ≠ a1 ∧ h ≠ a1 := ⟨nna, fr.2⟩
        have hS10 := hS9.kp d9 fr9 k10
        obtain ⟨ks9, hcd9⟩ := hS9.o.kp.cd
        have nb : b ≠ ln ∧ b ≠ lo ∧ b ≠ h := ⟨(ne_of_none hS9.o.kp.ns hb0).symm, (ne_of_none hcd9.at_ hb0).symm, (ne_of_none hS9.hd.at_ hb0).symm⟩
        have nba : b ≠ a1 := fun z => by
          obtain ⟨x0, x1, x2, x3, ha⟩ := d9
          rw [z, ha] at hb0
          cases hb0
        have k10' : Kd ln lo h H5 H10 := k9.more n5 fun b o n1 _ _ _ e => k10 b o n1 e
        obtain ⟨ks10, hcd10⟩ := hS10.o.kp.cd
        walk_at "z"
        refine ⟨_, SqL.of ht, rfl, ?_⟩
        walk_at "z"
        have fin : ∀ (L' : List Nat) (t' : Addr) (H11 : Hp), H10 t' = none → K2 ln lo H10 H11 → DO K H11 q0 p ln lo L' → H11 t' = some (.lst []) → L2'.Perm L' →
            0 ≤ sizeLine ∧ ∀ u, H11 u = none → rNeD K (.ref t') (.ref u) (upd H11 u (.lst [])) fun x H1 => ∃ k, x = .bl k ∧ if k = true then Q (.bl false) H1 else tyV K "list" (.ref t') H1 ∧ rAppend (.ref t') [.str "x"] H1 fun _ H1 => N2 [some (.ref a), some (.ref q0), some (.ref h), some (.ref b), some (.int c), some (.ref a1), some (.int (0 + (j : Int))), some (.str zz), some (.ref t'), none] H1 := fun L' t' H11 ht' k11 hO11 h11 hpm => by
          refine ⟨Nat.zero_le _, fun u hu => ?_⟩
          have su := same_new (o := .lst []) hu
          have hU : upd H11 u (.lst []) u = some (.lst []) := upd_same
          refine r_neL (ns := []) (ms := []) (SqL.of (su _ _ h11)) (SqL.of hU) ⟨_, rfl, ?_⟩
          rw [if_neg (by simp)]
          refine ⟨ty_list (SqL.of (su _ _ h11)), r_app (su _ _ h11) (by show 0 < sizeLine; omega) ?_⟩
          have hS11 : Stt K H11 q0 p ln lo b h L' L2' xs := ⟨hO11, k11 _ _ nb.1 nb.2.1 hb, hpm, hso, hl, hS10.hd.keep d10 ⟨_, hcd10.at_⟩ ⟨_, hS10.o.kp.ns⟩ fun b o _ n2 n3 e => k11 b o n2 n3 e, nb.1, nb.2.2⟩
          have d11 : Sd H11 a1 := by
            obtain ⟨x0, x1, x2, x3, ha⟩ := d10
            exact ⟨x0, x1, x2, x3, k11 _ _ fr.2.1.symm (ne_of ha hcd10.at_ fun e => by cases e) ha⟩
          -- the told list is none of these
          have sx : ∀ b o, b ≠ t' → H11 b = some o → upd (upd H11 u (.lst [])) t' (.lst ([] ++ [.str "x"])) b = some o := fun b o nb e => (upd_ne nb).trans (su _ _ e)
          have kx : Kp t' H11 (upd (upd H11 u (.lst [])) t' (.lst ([] ++ [.str "x"]))) := fun b o n e => sx b o n e
          have ntl : ln ≠ t' ∧ lo ≠ t' ∧ h ≠ t' ∧ b ≠ t' ∧ a1 ≠ t' := by
            obtain ⟨x0, x1, x2, x3, ha⟩ := d10
            exact ⟨ne_of_none hS10.o.kp.ns ht', ne_of_none hcd10.at_ ht', ne_of_none hS10.hd.at_ ht', ne_of_none hb ht', ne_of_none ha ht'⟩
          have hh12 : Held (upd (upd H11 u (.lst [])) t' (.lst ([] ++ [.str "x"]))) h ln xs := by
            refine ⟨kx _ _ ntl.2.2.1 hS11.hd.at_, fun x hx => ?_, hS11.hd.ne⟩
            obtain ⟨t2, d2, ys, g1, g2, g3, g4, g5, g6⟩ := hS10.hd.all x hx
            have gk : ∀ v o, H10 v = some o → v ≠ ln → v ≠ lo → upd (upd H11 u (.lst [])) t' (.lst ([] ++ [.str "x"])) v = some o := fun v o e n1 n2 => kx _ _ (ne_of_none e ht') (k11 _ _ n1 n2 e)
            exact ⟨t2, d2, ys, gk _ _ g1 (ne_of g1 hS10.o.kp.ns fun e => by cases e) (ne_of g1 hcd10.at_ fun e => by cases e), gk _ _ g2 g5 (ne_of g2 hcd10.at_ fun e => by cases e), gk _ _ g3 g6 (ne_of g3 hcd10.at_ fun e => by cases e), g4, g5, g6⟩
          refine hN2 _ _ ⟨b, _, _, _, L', L2', rfl, ?_, ⟨hO11.keep (a := t') (b := t') (fun c o n1 _ e => kx c o n1 e) ⟨_, h11⟩ ⟨_, h11⟩ ntl.1 ntl.1, kx _ _ ntl.2.2.2.1 hS11.hn, hpm, hso, hl, hh12, nb.1, nb.2.2⟩, ?_, nba⟩
          · have nt5 : ∀ b o, b ≠ ln → b ≠ lo → b ≠ h → H5 b = some o → b ≠ t' := fun b o n1 n2 n3 e => ne_of_none (k10' b o n1 n2 n3 e) ht'
            exact fun b o n1 n2 n3 e => kx b o (nt5 b o n1 n2 n3 e) (k11 b o n1 n2 (k10' b o n1 n2 n3 e))
          · obtain ⟨x0, x1, x2, x3, ha⟩ := d11
            exact ⟨x0, x1, x2, x3, kx _ _ ntl.2.2.2.2 ha⟩
        refine ⟨hS10.o.dk.isO (by decide +kernel), q0, p, ln, lo, L, zz, rfl, hS10.o, by rw [hlL]; exact hS10.len, ?_⟩
        rcases hcase with ⟨rfl, c1, c2, c3, c4⟩ | ⟨rfl, c1, c2⟩
        · exact .inr (.inl ⟨n, rfl, c1, c2, by rw [hlL]; exact c3, fun t' H11 ht' k11 hO11 h11 => fin _ t' H11 ht' k11 hO11 h11 (c4.trans (hS9.pm.append_right [n]))⟩)
        · exact .inr (.inr ⟨n, rfl, hS9.pm.mem_iff.mp c1, fun t' H11 L' ht' k11 hp11 hO11 h11 => fin _ t' H11 ht' k11 hO11 h11 ((List.perm_cons n).mp ((c2.symm.trans hS9.pm).trans hp11))⟩)
      · rintro σ H9 ⟨nn, v6, v7, v8, L, L2, rfl, k9, hS9, d9, nna⟩
        have fr9 : nn ≠ a1 ∧ ln ≠ a1 ∧ h ≠ a1 := ⟨nna, fr.2⟩
        walk_at "z"
        refine use_draw (Kp.refl a1 H9) d9 (by omega) (by omega) fun r H10 k10 _ d10 _ _ => ?_
        have hS10 := hS9.kp d9 fr9 k10
        have k10' : Kd ln lo h H5 H10 := k9.more n5 fun b o n1 _ _ _ e => k10 b o n1 e
        walk_at "z"
        refine ite2 (fun h0 => ?_) (fun h0 => hN _ _ ⟨nn, _, _, _, _, _, L, L2, xs, rfl, k10', hS10, by omega⟩)
        refine hS10.right d10 fr9 (by omega) fun xs' H11 k11 d11 hS11 hl11 => ⟨true, rfl, ?_⟩
        walk_at "z"
        exact hN _ _ ⟨nn, _, _, _, _, _, L, L2, xs', rfl, k10'.more n5 fun b o n1 _ _ n4 e => k11 b o n1 n4 e, hS11, by omega⟩
    · rintro σ H6 ⟨nn, v4, v5, v6, v7, v8, L, L2, xs, rfl, k6, hS6, hl6⟩
      rw [List.length_map] at hl6
      walk_at "z"
      have hS06 : SqL K H6 a (ns.map V.int) := Same.seq (fun b o e => k6 b o (fH b o e).1 (fH b o e).2.1 (fH b o e).2.2 (s05 _ _ e)) hS
      refine r_len hS06 ⟨_, rfl, fun a2 H7 ha2 s7 d7 => ?_⟩
      have hS7 := hS6.same s7
      refine hS7.right d7 (hS6.fresh ha2) (by omega) fun xs' H8 k8 d8 hS8 hl8 => ⟨true, rfl, ?_⟩
      walk_at "z"
      refine ⟨⟨_, SqL.of hS8.hd.at_⟩, lc_l (fun _ => none) (SqL.of hS8.hd.at_) (by rw [List.length_map]; omega) ?_ ?_⟩
      · intro i x H9 hx s9 N0 N1 n0 n1
        obtain ⟨y, hy, rfl⟩ := List.mem_map.mp (List.mem_of_getElem? hx)
        obtain ⟨t2, d2, ys, g1, g2, g3, g4, _⟩ := hS8.hd.all y hy
        refine ⟨y, _, rfl, SqT.of (s9 _ _ g1), rfl, ?_⟩
        walk_at "z"
        refine r_neLX (ns := ys) (ms := ys) (SqL.of (s9 _ _ g2)) (SqL.of (s9 _ _ g3)) g4 g4 ⟨_, rfl, ?_⟩
        rw [if_neg (by simp)]
        exact n0 rfl _ (Same.refl _)
      · intro D H9 hD s9 hL
        rw [fm_none] at hL
        refine ⟨by omega, fun u hu => r_eqL (ns := []) (ms := []) (SqL.of ((upd_ne (ne_of_none hL hu)).trans hL)) (SqL.of upd_same) ?_⟩
        rw [decide_eq_true rfl]
        exact q _
end
theorem all_mk {l : PySem.W.OpenLaw} {w : World} {K : PySem.W.Frag} {h : Heap} {mg : PySem.Str → Option Value} {fa : Addr} (X : K.In h) (G : h.Ns mainGlobals mg) (hfa : mg "law" = some (.ref fa))
    {C0 : Addr} (aC0 : PySem.W.nsIn K mainGlobals "KeptProduct" = some (some (.ref C0))) (pg0 : PySem.W.plainGet K C0 Str.empty = true) (hd0 : PySem.W.hasDictIn K C0 = true) (po0 : PySem.W.plainOver K C0 = true) (sa0 : PySem.W.findIn K (.ref C0) "__setattr__" = some (some (.builtin "object.__setattr__"))) (mk0 : PySem.W.makesIn K C0 = true) (kc0 : PySem.W.keepIn K (.ref C0) = true)
    (n0_0 : PySem.W.findIn K (.ref C0) "numbers" = some none)
    (n0_1 : PySem.W.findIn K (.ref C0) "often" = some none)
    {C1 : Addr} (aC1 : PySem.W.nsIn K mainGlobals "Desk" = some (some (.ref C1))) (pg1 : PySem.W.plainGet K C1 Str.empty = true) (hd1 : PySem.W.hasDictIn K C1 = true) (po1 : PySem.W.plainOver K C1 = true) (sa1 : PySem.W.findIn K (.ref C1) "__setattr__" = some (some (.builtin "object.__setattr__"))) (mk1 : PySem.W.makesIn K C1 = true) (kc1 : PySem.W.keepIn K (.ref C1) = true)
    (n1_0 : PySem.W.findIn K (.ref C1) "kept" = some none)
    {f0 : Addr} {od0 an0 : Option Addr} {sl0 : Array (Option Value)} {oc0 kV0 dc0 pm0 cd0 ct0 : Value}
    (a0 : PySem.W.nsIn K mainGlobals "taken" = some (some (.ref f0))) (l0 : K.lookup f0 = some ⟨oc0, od0, .func (PySem.W.fnOf "taken" "taken" (defArgs s_taken) (defBody s_taken) (defScope s_taken) .none kV0 dc0 pm0 an0 cd0 ct0), sl0⟩) (c0 : PySem.W.codeIn K cd0 "taken" = true) (k0 : PySem.W.keepIn K (.ref f0) = true)
    {f1 : Addr} {od1 an1 : Option Addr} {sl1 : Array (Option Value)} {oc1 kV1 dc1 pm1 cd1 ct1 : Value}
    (a1 : PySem.W.nsIn K mainGlobals "primes_in_kept" = some (some (.ref f1))) (l1 : K.lookup f1 = some ⟨oc1, od1, .func (PySem.W.fnOf "primes_in" "primes_in" (defArgs s_primes_in_kept) (defBody s_primes_in_kept) (defScope s_primes_in_kept) .none kV1 dc1 pm1 an1 cd1 ct1), sl1⟩) (c1 : PySem.W.codeIn K cd1 "primes_in" = true) (k1 : PySem.W.keepIn K (.ref f1) = true)
    {f2 : Addr} {od2 an2 : Option Addr} {sl2 : Array (Option Value)} {oc2 kV2 dc2 pm2 cd2 ct2 : Value}
    (a2 : PySem.W.nsIn K mainGlobals "common_divisor" = some (some (.ref f2))) (l2 : K.lookup f2 = some ⟨oc2, od2, .func (PySem.W.fnOf "common_divisor" "common_divisor" (defArgs s_common_divisor) (defBody s_common_divisor) (defScope s_common_divisor) .none kV2 dc2 pm2 an2 cd2 ct2), sl2⟩) (c2 : PySem.W.codeIn K cd2 "common_divisor" = true) (k2 : PySem.W.keepIn K (.ref f2) = true)
    {f3 : Addr} {od3 an3 : Option Addr} {sl3 : Array (Option Value)} {oc3 kV3 dc3 pm3 cd3 ct3 : Value}
    (a3 : PySem.W.findIn K (.ref C0) "__init__" = some (some (.ref f3))) (i3 : PySem.W.isFn K (.ref f3) = true) (l3 : K.lookup f3 = some ⟨oc3, od3, .func (PySem.W.fnOf "__init__" "KeptProduct.__init__" (defArgs s_KeptProduct___init__) (defBody s_KeptProduct___init__) (defScope s_KeptProduct___init__) .none kV3 dc3 pm3 an3 cd3 ct3), sl3⟩) (c3 : PySem.W.codeIn K cd3 "KeptProduct.__init__" = true) (k3 : PySem.W.keepIn K (.ref f3) = true)
    {f4 : Addr} {od4 an4 : Option Addr} {sl4 : Array (Option Value)} {oc4 kV4 dc4 pm4 cd4 ct4 : Value}
    (a4 : PySem.W.findIn K (.ref C0) "put_primes" = some (some (.ref f4))) (i4 : PySem.W.isFn K (.ref f4) = true) (l4 : K.lookup f4 = some ⟨oc4, od4, .func (PySem.W.fnOf "put_primes" "KeptProduct.put_primes" (defArgs s_KeptProduct_put_primes) (defBody s_KeptProduct_put_primes) (defScope s_KeptProduct_put_primes) .none kV4 dc4 pm4 an4 cd4 ct4), sl4⟩) (c4 : PySem.W.codeIn K cd4 "KeptProduct.put_primes" = true) (k4 : PySem.W.keepIn K (.ref f4) = true)
    {f5 : Addr} {od5 an5 : Option Addr} {sl5 : Array (Option Value)} {oc5 kV5 dc5 pm5 cd5 ct5 : Value}
    (a5 : PySem.W.findIn K (.ref C0) "come" = some (some (.ref f5))) (i5 : PySem.W.isFn K (.ref f5) = true) (l5 : K.lookup f5 = some ⟨oc5, od5, .func (PySem.W.fnOf "come" "KeptProduct.come" (defArgs s_KeptProduct_come) (defBody s_KeptProduct_come) (defScope s_KeptProduct_come) .none kV5 dc5 pm5 an5 cd5 ct5), sl5⟩) (c5 : PySem.W.codeIn K cd5 "KeptProduct.come" = true) (k5 : PySem.W.keepIn K (.ref f5) = true)
    {f6 : Addr} {od6 an6 : Option Addr} {sl6 : Array (Option Value)} {oc6 kV6 dc6 pm6 cd6 ct6 : Value}
    (a6 : PySem.W.findIn K (.ref C0) "go" = some (some (.ref f6))) (i6 : PySem.W.isFn K (.ref f6) = true) (l6 : K.lookup f6 = some ⟨oc6, od6, .func (PySem.W.fnOf "go" "KeptProduct.go" (defArgs s_KeptProduct_go) (defBody s_KeptProduct_go) (defScope s_KeptProduct_go) .none kV6 dc6 pm6 an6 cd6 ct6), sl6⟩) (c6 : PySem.W.codeIn K cd6 "KeptProduct.go" = true) (k6 : PySem.W.keepIn K (.ref f6) = true)
    {f7 : Addr} {od7 an7 : Option Addr} {sl7 : Array (Option Value)} {oc7 kV7 dc7 pm7 cd7 ct7 : Value}
    (a7 : PySem.W.findIn K (.ref C0) "numbers_now" = some (some (.ref f7))) (i7 : PySem.W.isFn K (.ref f7) = true) (l7 : K.lookup f7 = some ⟨oc7, od7, .func (PySem.W.fnOf "numbers_now" "KeptProduct.numbers_now" (defArgs s_KeptProduct_numbers_now) (defBody s_KeptProduct_numbers_now) (defScope s_KeptProduct_numbers_now) .none kV7 dc7 pm7 an7 cd7 ct7), sl7⟩) (c7 : PySem.W.codeIn K cd7 "KeptProduct.numbers_now" = true) (k7 : PySem.W.keepIn K (.ref f7) = true)
    {f8 : Addr} {od8 an8 : Option Addr} {sl8 : Array (Option Value)} {oc8 kV8 dc8 pm8 cd8 ct8 : Value}
    (a8 : PySem.W.findIn K (.ref C0) "exponent_now" = some (some (.ref f8))) (i8 : PySem.W.isFn K (.ref f8) = true) (l8 : K.lookup f8 = some ⟨oc8, od8, .func (PySem.W.fnOf "exponent_now" "KeptProduct.exponent_now" (defArgs s_KeptProduct_exponent_now) (defBody s_KeptProduct_exponent_now) (defScope s_KeptProduct_exponent_now) .none kV8 dc8 pm8 an8 cd8 ct8), sl8⟩) (c8 : PySem.W.codeIn K cd8 "KeptProduct.exponent_now" = true) (k8 : PySem.W.keepIn K (.ref f8) = true)
    {f9 : Addr} {od9 an9 : Option Addr} {sl9 : Array (Option Value)} {oc9 kV9 dc9 pm9 cd9 ct9 : Value}
    (a9 : PySem.W.findIn K (.ref C0) "lacks_now" = some (some (.ref f9))) (i9 : PySem.W.isFn K (.ref f9) = true) (l9 : K.lookup f9 = some ⟨oc9, od9, .func (PySem.W.fnOf "lacks_now" "KeptProduct.lacks_now" (defArgs s_KeptProduct_lacks_now) (defBody s_KeptProduct_lacks_now) (defScope s_KeptProduct_lacks_now) .none kV9 dc9 pm9 an9 cd9 ct9), sl9⟩) (c9 : PySem.W.codeIn K cd9 "KeptProduct.lacks_now" = true) (k9 : PySem.W.keepIn K (.ref f9) = true)
    {f10 : Addr} {od10 an10 : Option Addr} {sl10 : Array (Option Value)} {oc10 kV10 dc10 pm10 cd10 ct10 : Value}
    (a10 : PySem.W.nsIn K mainGlobals "need_words" = some (some (.ref f10))) (l10 : K.lookup f10 = some ⟨oc10, od10, .func (PySem.W.fnOf "need_words" "need_words" (defArgs s_need_words) (defBody s_need_words) (defScope s_need_words) .none kV10 dc10 pm10 an10 cd10 ct10), sl10⟩) (c10 : PySem.W.codeIn K cd10 "need_words" = true) (k10 : PySem.W.keepIn K (.ref f10) = true)
    {f11 : Addr} {od11 an11 : Option Addr} {sl11 : Array (Option Value)} {oc11 kV11 dc11 pm11 cd11 ct11 : Value}
    (a11 : PySem.W.nsIn K mainGlobals "plain_number" = some (some (.ref f11))) (l11 : K.lookup f11 = some ⟨oc11, od11, .func (PySem.W.fnOf "plain_number" "plain_number" (defArgs s_plain_number) (defBody s_plain_number) (defScope s_plain_number) .none kV11 dc11 pm11 an11 cd11 ct11), sl11⟩) (c11 : PySem.W.codeIn K cd11 "plain_number" = true) (k11 : PySem.W.keepIn K (.ref f11) = true)
    {f12 : Addr} {od12 an12 : Option Addr} {sl12 : Array (Option Value)} {oc12 kV12 dc12 pm12 cd12 ct12 : Value}
    (a12 : PySem.W.findIn K (.ref C1) "__init__" = some (some (.ref f12))) (i12 : PySem.W.isFn K (.ref f12) = true) (l12 : K.lookup f12 = some ⟨oc12, od12, .func (PySem.W.fnOf "__init__" "Desk.__init__" (defArgs s_Desk___init__) (defBody s_Desk___init__) (defScope s_Desk___init__) .none kV12 dc12 pm12 an12 cd12 ct12), sl12⟩) (c12 : PySem.W.codeIn K cd12 "Desk.__init__" = true) (k12 : PySem.W.keepIn K (.ref f12) = true)
    {f13 : Addr} {od13 an13 : Option Addr} {sl13 : Array (Option Value)} {oc13 kV13 dc13 pm13 cd13 ct13 : Value}
    (a13 : PySem.W.findIn K (.ref C1) "change_by" = some (some (.ref f13))) (i13 : PySem.W.isFn K (.ref f13) = true) (l13 : K.lookup f13 = some ⟨oc13, od13, .func (PySem.W.fnOf "change_by" "Desk.change_by" (defArgs s_Desk_change_by) (defBody s_Desk_change_by) (defScope s_Desk_change_by) .none kV13 dc13 pm13 an13 cd13 ct13), sl13⟩) (c13 : PySem.W.codeIn K cd13 "Desk.change_by" = true) (k13 : PySem.W.keepIn K (.ref f13) = true)
    {f14 : Addr} {od14 an14 : Option Addr} {sl14 : Array (Option Value)} {oc14 kV14 dc14 pm14 cd14 ct14 : Value}
    (a14 : PySem.W.findIn K (.ref C1) "told" = some (some (.ref f14))) (i14 : PySem.W.isFn K (.ref f14) = true) (l14 : K.lookup f14 = some ⟨oc14, od14, .func (PySem.W.fnOf "told" "Desk.told" (defArgs s_Desk_told) (defBody s_Desk_told) (defScope s_Desk_told) .none kV14 dc14 pm14 an14 cd14 ct14), sl14⟩) (c14 : PySem.W.codeIn K cd14 "Desk.told" = true) (k14 : PySem.W.keepIn K (.ref f14) = true)
    {f15 : Addr} {od15 an15 : Option Addr} {sl15 : Array (Option Value)} {oc15 kV15 dc15 pm15 cd15 ct15 : Value}
    (a15 : PySem.W.findIn K (.ref C1) "ask" = some (some (.ref f15))) (i15 : PySem.W.isFn K (.ref f15) = true) (l15 : K.lookup f15 = some ⟨oc15, od15, .func (PySem.W.fnOf "ask" "Desk.ask" (defArgs s_Desk_ask) (defBody s_Desk_ask) (defScope s_Desk_ask) .none kV15 dc15 pm15 an15 cd15 ct15), sl15⟩) (c15 : PySem.W.codeIn K cd15 "Desk.ask" = true) (k15 : PySem.W.keepIn K (.ref f15) = true)
    {f16 : Addr} {od16 an16 : Option Addr} {sl16 : Array (Option Value)} {oc16 kV16 dc16 pm16 cd16 ct16 : Value}
    (a16 : PySem.W.nsIn K mainGlobals "_law_seed" = some (some (.ref f16))) (l16 : K.lookup f16 = some ⟨oc16, od16, .func (PySem.W.fnOf "_law_seed" "_law_seed" (defArgs s__law_seed) (defBody s__law_seed) (defScope s__law_seed) .none kV16 dc16 pm16 an16 cd16 ct16), sl16⟩) (c16 : PySem.W.codeIn K cd16 "_law_seed" = true) (k16 : PySem.W.keepIn K (.ref f16) = true)
    {f17 : Addr} {od17 an17 : Option Addr} {sl17 : Array (Option Value)} {oc17 kV17 dc17 pm17 cd17 ct17 : Value}
    (a17 : PySem.W.nsIn K mainGlobals "_law_draw" = some (some (.ref f17))) (l17 : K.lookup f17 = some ⟨oc17, od17, .func (PySem.W.fnOf "_law_draw" "_law_draw" (defArgs s__law_draw) (defBody s__law_draw) (defScope s__law_draw) .none kV17 dc17 pm17 an17 cd17 ct17), sl17⟩) (c17 : PySem.W.codeIn K cd17 "_law_draw" = true) (k17 : PySem.W.keepIn K (.ref f17) = true)
    {f18 : Addr} {od18 an18 : Option Addr} {sl18 : Array (Option Value)} {oc18 kV18 dc18 pm18 cd18 ct18 : Value}
    (a18 : PySem.W.nsIn K mainGlobals "_law_cells" = some (some (.ref f18))) (l18 : K.lookup f18 = some ⟨oc18, od18, .func (PySem.W.fnOf "_law_cells" "_law_cells" (defArgs s__law_cells) (defBody s__law_cells) (defScope s__law_cells) .none kV18 dc18 pm18 an18 cd18 ct18), sl18⟩) (c18 : PySem.W.codeIn K cd18 "_law_cells" = true) (k18 : PySem.W.keepIn K (.ref f18) = true)
    {f19 : Addr} {od19 an19 : Option Addr} {sl19 : Array (Option Value)} {oc19 kV19 dc19 pm19 cd19 ct19 : Value}
    (a19 : PySem.W.nsIn K mainGlobals "_law_taken" = some (some (.ref f19))) (l19 : K.lookup f19 = some ⟨oc19, od19, .func (PySem.W.fnOf "_law_taken" "_law_taken" (defArgs s__law_taken) (defBody s__law_taken) (defScope s__law_taken) .none kV19 dc19 pm19 an19 cd19 ct19), sl19⟩) (c19 : PySem.W.codeIn K cd19 "_law_taken" = true) (k19 : PySem.W.keepIn K (.ref f19) = true)
    {f20 : Addr} {od20 an20 : Option Addr} {sl20 : Array (Option Value)} {oc20 kV20 dc20 pm20 cd20 ct20 : Value}
    (a20 : PySem.W.nsIn K mainGlobals "_law_root" = some (some (.ref f20))) (l20 : K.lookup f20 = some ⟨oc20, od20, .func (PySem.W.fnOf "_law_root" "_law_root" (defArgs s__law_root) (defBody s__law_root) (defScope s__law_root) .none kV20 dc20 pm20 an20 cd20 ct20), sl20⟩) (c20 : PySem.W.codeIn K cd20 "_law_root" = true) (k20 : PySem.W.keepIn K (.ref f20) = true)
    {f21 : Addr} {od21 an21 : Option Addr} {sl21 : Array (Option Value)} {oc21 kV21 dc21 pm21 cd21 ct21 : Value}
    (a21 : PySem.W.nsIn K mainGlobals "_law_number" = some (some (.ref f21))) (l21 : K.lookup f21 = some ⟨oc21, od21, .func (PySem.W.fnOf "_law_number" "_law_number" (defArgs s__law_number) (defBody s__law_number) (defScope s__law_number) .none kV21 dc21 pm21 an21 cd21 ct21), sl21⟩) (c21 : PySem.W.codeIn K cd21 "_law_number" = true) (k21 : PySem.W.keepIn K (.ref f21) = true)
    {f22 : Addr} {od22 an22 : Option Addr} {sl22 : Array (Option Value)} {oc22 kV22 dc22 pm22 cd22 ct22 : Value}
    (a22 : PySem.W.nsIn K mainGlobals "_law_deed" = some (some (.ref f22))) (l22 : K.lookup f22 = some ⟨oc22, od22, .func (PySem.W.fnOf "_law_deed" "_law_deed" (defArgs s__law_deed) (defBody s__law_deed) (defScope s__law_deed) .none kV22 dc22 pm22 an22 cd22 ct22), sl22⟩) (c22 : PySem.W.codeIn K cd22 "_law_deed" = true) (k22 : PySem.W.keepIn K (.ref f22) = true)
    {f23 : Addr} {od23 an23 : Option Addr} {sl23 : Array (Option Value)} {oc23 kV23 dc23 pm23 cd23 ct23 : Value}
    (a23 : PySem.W.nsIn K mainGlobals "_law_primes" = some (some (.ref f23))) (l23 : K.lookup f23 = some ⟨oc23, od23, .func (PySem.W.fnOf "_law_primes" "_law_primes" (defArgs s__law_primes) (defBody s__law_primes) (defScope s__law_primes) .none kV23 dc23 pm23 an23 cd23 ct23), sl23⟩) (c23 : PySem.W.codeIn K cd23 "_law_primes" = true) (k23 : PySem.W.keepIn K (.ref f23) = true)
    {f24 : Addr} {od24 an24 : Option Addr} {sl24 : Array (Option Value)} {oc24 kV24 dc24 pm24 cd24 ct24 : Value}
    (a24 : PySem.W.nsIn K mainGlobals "_law_common" = some (some (.ref f24))) (l24 : K.lookup f24 = some ⟨oc24, od24, .func (PySem.W.fnOf "_law_common" "_law_common" (defArgs s__law_common) (defBody s__law_common) (defScope s__law_common) .none kV24 dc24 pm24 an24 cd24 ct24), sl24⟩) (c24 : PySem.W.codeIn K cd24 "_law_common" = true) (k24 : PySem.W.keepIn K (.ref f24) = true)
    {f25 : Addr} {od25 an25 : Option Addr} {sl25 : Array (Option Value)} {oc25 kV25 dc25 pm25 cd25 ct25 : Value}
    (a25 : PySem.W.nsIn K mainGlobals "_law_dues" = some (some (.ref f25))) (l25 : K.lookup f25 = some ⟨oc25, od25, .func (PySem.W.fnOf "_law_dues" "_law_dues" (defArgs s__law_dues) (defBody s__law_dues) (defScope s__law_dues) .none kV25 dc25 pm25 an25 cd25 ct25), sl25⟩) (c25 : PySem.W.codeIn K cd25 "_law_dues" = true) (k25 : PySem.W.keepIn K (.ref f25) = true)
    {f26 : Addr} {od26 an26 : Option Addr} {sl26 : Array (Option Value)} {oc26 kV26 dc26 pm26 cd26 ct26 : Value}
    (a26 : PySem.W.nsIn K mainGlobals "_law_right" = some (some (.ref f26))) (l26 : K.lookup f26 = some ⟨oc26, od26, .func (PySem.W.fnOf "_law_right" "_law_right" (defArgs s__law_right) (defBody s__law_right) (defScope s__law_right) .none kV26 dc26 pm26 an26 cd26 ct26), sl26⟩) (c26 : PySem.W.codeIn K cd26 "_law_right" = true) (k26 : PySem.W.keepIn K (.ref f26) = true)
    {f27 : Addr} {od27 an27 : Option Addr} {sl27 : Array (Option Value)} {oc27 kV27 dc27 pm27 cd27 ct27 : Value}
    (a27 : PySem.W.nsIn K mainGlobals "law" = some (some (.ref f27))) (l27 : K.lookup f27 = some ⟨oc27, od27, .func (PySem.W.fnOf "law" "law" (defArgs s_law) (defBody s_law) (defScope s_law) .none kV27 dc27 pm27 an27 cd27 ct27), sl27⟩) (c27 : PySem.W.codeIn K cd27 "law" = true) (k27 : PySem.W.keepIn K (.ref f27) = true)
    {gt0 : Tok} (gg0 : PySem.W.nsIn K mainGlobals "FIGURES_whole" = some (some (.str "0123456789" gt0)))
    {gt1 : Tok} (gg1 : PySem.W.nsIn K mainGlobals "MOST_FIGURES" = some (some (.int 18 gt1)))
    {gt2 : Tok} (gg2 : PySem.W.nsIn K mainGlobals "MOST_NUMBERS" = some (some (.int 60 gt2)))
    (gg3 : PySem.W.nsIn K cStatics "sys.int_max_str_digits" = some none)
    {gt4 : Tok} (gg4 : PySem.W.nsIn K mainGlobals "SMALL" = some (some (.int 1000000 gt4)))
    {gt5 : Tok} (gg5 : PySem.W.nsIn K mainGlobals "MOST_LACKING" = some (some (.int 10 gt5)))
    {gA6 : Addr} {gd6 : Option Addr} {gn6 : Nat} {gs6 : Array (Option Value)} {gq6_0 : Tok} {gq6_1 : Tok} {gq6_2 : Tok} {gq6_3 : Tok} {gq6_4 : Tok} {gq6_5 : Tok} {gq6_6 : Tok}
    (gg6 : PySem.W.nsIn K mainGlobals "OF_TEXT" = some (some (.ref gA6))) (gl6 : K.lookup gA6 = some ⟨.type "tuple", gd6, .seq #[.str "is" gq6_0, .str "count" gq6_1, .str "place" gq6_2, .str "near" gq6_3, .str "beside" gq6_4, .str "sums" gq6_5, .str "full" gq6_6] gn6, gs6⟩)
    (z_range : PySem.W.nsIn K mainGlobals "range" = some none)
    (z_len : PySem.W.nsIn K mainGlobals "len" = some none)
    (z_sum : PySem.W.nsIn K mainGlobals "sum" = some none)
    (z_min : PySem.W.nsIn K mainGlobals "min" = some none)
    (z_max : PySem.W.nsIn K mainGlobals "max" = some none)
    (z_abs : PySem.W.nsIn K mainGlobals "abs" = some none)
    (z_sorted : PySem.W.nsIn K mainGlobals "sorted" = some none)
    (z_isinstance : PySem.W.nsIn K mainGlobals "isinstance" = some none)
    (z_enumerate : PySem.W.nsIn K mainGlobals "enumerate" = some none)
    (z_zip : PySem.W.nsIn K mainGlobals "zip" = some none)
    (z_int : PySem.W.nsIn K mainGlobals "int" = some none)
    (z_bool : PySem.W.nsIn K mainGlobals "bool" = some none)
    (z_str : PySem.W.nsIn K mainGlobals "str" = some none)
    (z_list : PySem.W.nsIn K mainGlobals "list" = some none)
    (z_tuple : PySem.W.nsIn K mainGlobals "tuple" = some none)
    (z_dict : PySem.W.nsIn K mainGlobals "dict" = some none)
    (z_set : PySem.W.nsIn K mainGlobals "set" = some none)
    (z_ValueError : PySem.W.nsIn K mainGlobals "ValueError" = some none)
    : ∃ fd : FuncData, (∀ (s : Shared) (v : Value), BindsTo s fd ⟨[v], []⟩ [("script", v)]) ∧ ∀ base : Heap, K.In base → base.Ns mainGlobals mg → FnOk l.prog w K mg base CX0 7 fa fd ["script"] (sp_law K) := by
  have e := hfa.symm.trans (PySem.W.mg_of X G a27)
  cases e
  have B : Bt mg := ⟨PySem.W.mg_none_of X G z_range, PySem.W.mg_none_of X G z_len, PySem.W.mg_none_of X G z_sum, PySem.W.mg_none_of X G z_min, PySem.W.mg_none_of X G z_max, PySem.W.mg_none_of X G z_abs, PySem.W.mg_none_of X G z_sorted, PySem.W.mg_none_of X G z_isinstance, PySem.W.mg_none_of X G z_enumerate, PySem.W.mg_none_of X G z_zip, PySem.W.mg_none_of X G z_int, PySem.W.mg_none_of X G z_bool, PySem.W.mg_none_of X G z_str, PySem.W.mg_none_of X G z_list, PySem.W.mg_none_of X G z_tuple, PySem.W.mg_none_of X G z_dict, PySem.W.mg_none_of X G z_set, PySem.W.mg_none_of X G z_ValueError⟩
  have kcl0 : KCl K "KeptProduct" ["numbers", "often"] C0 := ⟨aC0, ⟨pg0, hd0, po0, sa0⟩, fun a ha => by
    simp only [List.mem_cons, List.not_mem_nil, or_false] at ha
    rcases ha with rfl | rfl
    · exact n0_0
    · exact n0_1⟩
  have kcl1 : KCl K "Desk" ["kept"] C1 := ⟨aC1, ⟨pg1, hd1, po1, sa1⟩, fun a ha => by
    simp only [List.mem_cons, List.not_mem_nil, or_false] at ha
    rcases ha with rfl
    · exact n1_0⟩
  refine ⟨PySem.W.fnOf "law" "law" (defArgs s_law) (defBody s_law) (defScope s_law) .none kV27 dc27 pm27 an27 cd27 ct27, fun s v => .of_eq rfl, fun base _ _ => ?_⟩
  have g_FIGURES_whole : GS mg "FIGURES_whole" "0123456789" := ⟨_, PySem.W.mg_of X G gg0⟩
  have g_MOST_FIGURES : GI mg "MOST_FIGURES" 18 := ⟨_, PySem.W.mg_of X G gg1⟩
  have g_MOST_NUMBERS : GI mg "MOST_NUMBERS" 60 := ⟨_, PySem.W.mg_of X G gg2⟩
  have g_DIG : NoDig K := gg3
  have g_SMALL : GI mg "SMALL" 1000000 := ⟨_, PySem.W.mg_of X G gg4⟩
  have g_MOST_LACKING : GI mg "MOST_LACKING" 10 := ⟨_, PySem.W.mg_of X G gg5⟩
  have g_OF_TEXT : GT K mg "OF_TEXT" ["is", "count", "place", "near", "beside", "sums", "full"] := ⟨gA6, PySem.W.mg_of X G gg6, _, _, _, gl6, rfl, rfl, by show 7 ≤ sizeLine; decide, (.cons ⟨_, rfl⟩ (.cons ⟨_, rfl⟩ (.cons ⟨_, rfl⟩ (.cons ⟨_, rfl⟩ (.cons ⟨_, rfl⟩ (.cons ⟨_, rfl⟩ (.cons ⟨_, rfl⟩ .nil)))))))⟩
  have F0 := fun_mk (st := s_taken) l0 c0 k0
  have h_taken : Fn l.prog w K mg base CX0 1 "taken" ["base", "exponent"] (sp_taken K) := ⟨_, _, PySem.W.mg_of X G a0, k0, bi_taken F0, ok_taken F0 B⟩
  have F1 := fun_mk (st := s_primes_in_kept) l1 c1 k1
  have h_primes_in_kept : Fn l.prog w K mg base CX0 1 "primes_in_kept" ["number"] (sp_primes_in_kept K) := ⟨_, _, PySem.W.mg_of X G a1, k1, bi_primes_in_kept F1, ok_primes_in_kept F1 B⟩
  have F2 := fun_mk (st := s_common_divisor) l2 c2 k2
  have h_common_divisor : Fn l.prog w K mg base CX0 1 "common_divisor" ["one", "other"] (sp_common_divisor K) := ⟨_, _, PySem.W.mg_of X G a2, k2, bi_common_divisor F2, ok_common_divisor F2 B⟩
  have F3 := fun_mk (st := s_KeptProduct___init__) l3 c3 k3
  have h_KeptProduct___init__ : FnK l.prog w K mg base CX0 1 "KeptProduct" ["numbers", "often"] ["self"] (sp_KeptProduct___init__ K) := ⟨_, _, _, kcl0, ⟨mk0, a3, i3, kc0⟩, PySem.W.mg_of X G aC0, bi_KeptProduct___init__ F3, ok_KeptProduct___init__ F3 B⟩
  have F4 := fun_mk (st := s_KeptProduct_put_primes) l4 c4 k4
  have h_KeptProduct_put_primes : FnM l.prog w K mg base CX0 2 "KeptProduct" ["numbers", "often"] "put_primes" ["self", "number", "sign"] (sp_KeptProduct_put_primes K) := ⟨_, _, _, kcl0, ⟨a4, i4, k4⟩, bi_KeptProduct_put_primes F4, ok_KeptProduct_put_primes F4 B h_primes_in_kept⟩
  have F5 := fun_mk (st := s_KeptProduct_come) l5 c5 k5
  have h_KeptProduct_come : FnM l.prog w K mg base CX0 3 "KeptProduct" ["numbers", "often"] "come" ["self", "number"] (sp_KeptProduct_come K) := ⟨_, _, _, kcl0, ⟨a5, i5, k5⟩, bi_KeptProduct_come F5, ok_KeptProduct_come F5 B h_KeptProduct_put_primes⟩
  have F6 := fun_mk (st := s_KeptProduct_go) l6 c6 k6
  have h_KeptProduct_go : FnM l.prog w K mg base CX0 3 "KeptProduct" ["numbers", "often"] "go" ["self", "number"] (sp_KeptProduct_go K) := ⟨_, _, _, kcl0, ⟨a6, i6, k6⟩, bi_KeptProduct_go F6, ok_KeptProduct_go F6 B h_KeptProduct_put_primes⟩
  have F7 := fun_mk (st := s_KeptProduct_numbers_now) l7 c7 k7
  have h_KeptProduct_numbers_now : FnM l.prog w K mg base CX0 1 "KeptProduct" ["numbers", "often"] "numbers_now" ["self"] (sp_KeptProduct_numbers_now K) := ⟨_, _, _, kcl0, ⟨a7, i7, k7⟩, bi_KeptProduct_numbers_now F7, ok_KeptProduct_numbers_now F7 B⟩
  have F8 := fun_mk (st := s_KeptProduct_exponent_now) l8 c8 k8
  have h_KeptProduct_exponent_now : FnM l.prog w K mg base CX0 2 "KeptProduct" ["numbers", "often"] "exponent_now" ["self"] (sp_KeptProduct_exponent_now K) := ⟨_, _, _, kcl0, ⟨a8, i8, k8⟩, bi_KeptProduct_exponent_now F8, ok_KeptProduct_exponent_now F8 B h_common_divisor⟩
  have F9 := fun_mk (st := s_KeptProduct_lacks_now) l9 c9 k9
  have h_KeptProduct_lacks_now : FnM l.prog w K mg base CX0 2 "KeptProduct" ["numbers", "often"] "lacks_now" ["self", "exponent"] (sp_KeptProduct_lacks_now K) := ⟨_, _, _, kcl0, ⟨a9, i9, k9⟩, bi_KeptProduct_lacks_now F9, ok_KeptProduct_lacks_now F9 B h_taken⟩
  have F10 := fun_mk (st := s_need_words) l10 c10 k10
  have h_need_words : Fn l.prog w K mg base CX0 1 "need_words" ["words", "many"] (sp_need_words K) := ⟨_, _, PySem.W.mg_of X G a10, k10, bi_need_words F10, ok_need_words F10 B⟩
  have F11 := fun_mk (st := s_plain_number) l11 c11 k11
  have h_plain_number : Fn l.prog w K mg base CX0 1 "plain_number" ["word", "least", "most"] (sp_plain_number K) := ⟨_, _, PySem.W.mg_of X G a11, k11, bi_plain_number F11, ok_plain_number F11 B g_FIGURES_whole g_MOST_FIGURES⟩
  have F12 := fun_mk (st := s_Desk___init__) l12 c12 k12
  have h_Desk___init__ : FnK l.prog w K mg base CX0 3 "Desk" ["kept"] ["self"] (sp_Desk___init__ K) := ⟨_, _, _, kcl1, ⟨mk1, a12, i12, kc1⟩, PySem.W.mg_of X G aC1, bi_Desk___init__ F12, ok_Desk___init__ F12 B h_KeptProduct___init__⟩
  have F13 := fun_mk (st := s_Desk_change_by) l13 c13 k13
  have h_Desk_change_by : FnM l.prog w K mg base CX0 4 "Desk" ["kept"] "change_by" ["self", "word", "number"] (sp_Desk_change_by K) := ⟨_, _, _, kcl1, ⟨a13, i13, k13⟩, bi_Desk_change_by F13, ok_Desk_change_by F13 B g_MOST_NUMBERS h_KeptProduct_go h_KeptProduct_numbers_now h_KeptProduct_come⟩
  have F14 := fun_mk (st := s_Desk_told) l14 c14 k14
  have h_Desk_told : FnM l.prog w K mg base CX0 3 "Desk" ["kept"] "told" ["self", "word"] (sp_Desk_told K) := ⟨_, _, _, kcl1, ⟨a14, i14, k14⟩, bi_Desk_told F14, ok_Desk_told F14 B g_DIG h_KeptProduct_numbers_now h_KeptProduct_exponent_now⟩
  have F15 := fun_mk (st := s_Desk_ask) l15 c15 k15
  have h_Desk_ask : FnM l.prog w K mg base CX0 5 "Desk" ["kept"] "ask" ["self", "line"] (sp_Desk_ask K) := ⟨_, _, _, kcl1, ⟨a15, i15, k15⟩, bi_Desk_ask F15, ok_Desk_ask F15 B g_DIG g_SMALL g_MOST_LACKING g_OF_TEXT h_need_words h_Desk_change_by h_plain_number h_KeptProduct_lacks_now h_Desk_told⟩
  have F16 := fun_mk (st := s__law_seed) l16 c16 k16
  have h__law_seed : Fn l.prog w K mg base CX0 1 "_law_seed" ["cell"] (sp__law_seed K) := ⟨_, _, PySem.W.mg_of X G a16, k16, bi__law_seed F16, ok__law_seed F16 B⟩
  have F17 := fun_mk (st := s__law_draw) l17 c17 k17
  have h__law_draw : Fn l.prog w K mg base CX0 1 "_law_draw" ["seed", "most"] (sp__law_draw K) := ⟨_, _, PySem.W.mg_of X G a17, k17, bi__law_draw F17, ok__law_draw F17 B⟩
  have F18 := fun_mk (st := s__law_cells) l18 c18 k18
  have h__law_cells : Fn l.prog w K mg base CX0 1 "_law_cells" ["script", "many"] (sp__law_cells K) := ⟨_, _, PySem.W.mg_of X G a18, k18, bi__law_cells F18, ok__law_cells F18 B⟩
  have F19 := fun_mk (st := s__law_taken) l19 c19 k19
  have h__law_taken : Fn l.prog w K mg base CX0 1 "_law_taken" ["base", "exponent"] (sp__law_taken K) := ⟨_, _, PySem.W.mg_of X G a19, k19, bi__law_taken F19, ok__law_taken F19 B⟩
  have F20 := fun_mk (st := s__law_root) l20 c20 k20
  have h__law_root : Fn l.prog w K mg base CX0 2 "_law_root" ["number", "exponent"] (sp__law_root K) := ⟨_, _, PySem.W.mg_of X G a20, k20, bi__law_root F20, ok__law_root F20 B h__law_taken⟩
  have F21 := fun_mk (st := s__law_number) l21 c21 k21
  have h__law_number : Fn l.prog w K mg base CX0 3 "_law_number" ["seed", "most"] (sp__law_number K) := ⟨_, _, PySem.W.mg_of X G a21, k21, bi__law_number F21, ok__law_number F21 B h__law_draw h__law_root h__law_taken⟩
  have F22 := fun_mk (st := s__law_deed) l22 c22 k22
  have h__law_deed : Fn l.prog w K mg base CX0 4 "_law_deed" ["seed", "numbers"] (sp__law_deed K) := ⟨_, _, PySem.W.mg_of X G a22, k22, bi__law_deed F22, ok__law_deed F22 B g_DIG h__law_draw h__law_number⟩
  have F23 := fun_mk (st := s__law_primes) l23 c23 k23
  have h__law_primes : Fn l.prog w K mg base CX0 1 "_law_primes" ["number", "often"] (sp__law_primes K) := ⟨_, _, PySem.W.mg_of X G a23, k23, bi__law_primes F23, ok__law_primes F23 B⟩
  have F24 := fun_mk (st := s__law_common) l24 c24 k24
  have h__law_common : Fn l.prog w K mg base CX0 1 "_law_common" ["one", "other"] (sp__law_common K) := ⟨_, _, PySem.W.mg_of X G a24, k24, bi__law_common F24, ok__law_common F24 B⟩
  have F25 := fun_mk (st := s__law_dues) l25 c25 k25
  have h__law_dues : Fn l.prog w K mg base CX0 2 "_law_dues" ["seed", "numbers"] (sp__law_dues K) := ⟨_, _, PySem.W.mg_of X G a25, k25, bi__law_dues F25, ok__law_dues F25 B g_DIG h__law_primes h__law_common h__law_draw h__law_taken⟩
  have F26 := fun_mk (st := s__law_right) l26 c26 k26
  have h__law_right : Fn l.prog w K mg base CX0 6 "_law_right" ["seed", "desk", "numbers", "held"] (sp__law_right K) := ⟨_, _, PySem.W.mg_of X G a26, k26, bi__law_right F26, ok__law_right F26 B h__law_dues h__law_draw h_Desk_ask⟩
  exact ok_law (fun_mk (st := s_law) l27 c27 k27) B h_Desk___init__ h__law_right h__law_seed h__law_cells h__law_draw h__law_deed h_Desk_ask
end Pn
open PySem PySem.W PyProof.Rows
set_option maxHeartbeats 0 in
theorem PySem.Challenge.cw_powernumbers_k28_desk_products_holds : PySem.Challenge.rw_powernumbers_k28_desk_products.Holds := by
  w_on; o_law; k_head; (case hw => w_witness2)
  k_fill
  refine L2.walk_of (l := PySem.Challenge.rw_powernumbers_k28_desk_products) (n := 63) (k := 7) (x := "script") (CX := fun _ => L2.CX0) (sp := fun w => Pn.sp_law _) rfl (by decide) rfl ⟨rfl, by decide, by decide⟩ (fun w h Y => PySem.W.kIn_of Y) ?F (fun _ _ a ns hl _ hS => ⟨a, ns, rfl, hS, hl, fun _ => rfl⟩) (fun _ _ _ _ _ h => h)
  case F =>
    intro w mg fa h KX G hmg
    refine' Pn.all_mk KX G hmg ?aC0 ?pg0 ?hd0 ?po0 ?sa0 ?mk0 ?kc0 ?n0_0 ?n0_1 ?aC1 ?pg1 ?hd1 ?po1 ?sa1 ?mk1 ?kc1 ?n1_0 ?a0 ?l0 ?c0 ?k0 ?a1 ?l1 ?c1 ?k1 ?a2 ?l2 ?c2 ?k2 ?a3 ?i3 ?l3 ?c3 ?k3 ?a4 ?i4 ?l4 ?c4 ?k4 ?a5 ?i5 ?l5 ?c5 ?k5 ?a6 ?i6 ?l6 ?c6 ?k6 ?a7 ?i7 ?l7 ?c7 ?k7 ?a8 ?i8 ?l8 ?c8 ?k8 ?a9 ?i9 ?l9 ?c9 ?k9 ?a10 ?l10 ?c10 ?k10 ?a11 ?l11 ?c11 ?k11 ?a12 ?i12 ?l12 ?c12 ?k12 ?a13 ?i13 ?l13 ?c13 ?k13 ?a14 ?i14 ?l14 ?c14 ?k14 ?a15 ?i15 ?l15 ?c15 ?k15 ?a16 ?l16 ?c16 ?k16 ?a17 ?l17 ?c17 ?k17 ?a18 ?l18 ?c18 ?k18 ?a19 ?l19 ?c19 ?k19 ?a20 ?l20 ?c20 ?k20 ?a21 ?l21 ?c21 ?k21 ?a22 ?l22 ?c22 ?k22 ?a23 ?l23 ?c23 ?k23 ?a24 ?l24 ?c24 ?k24 ?a25 ?l25 ?c25 ?k25 ?a26 ?l26 ?c26 ?k26 ?a27 ?l27 ?c27 ?k27 ?gg0 ?gg1 ?gg2 ?gg3 ?gg4 ?gg5 ?gg6 ?gl6 ?z_range ?z_len ?z_sum ?z_min ?z_max ?z_abs ?z_sorted ?z_isinstance ?z_enumerate ?z_zip ?z_int ?z_bool ?z_str ?z_list ?z_tuple ?z_dict ?z_set ?z_ValueError
    (case aC0 => k_is)
    (case pg0 => k_is)
    (case hd0 => k_is)
    (case po0 => k_is)
    (case sa0 => k_is)
    (case mk0 => k_is)
    (case kc0 => k_is)
    (case n0_0 => k_is)
    (case n0_1 => k_is)
    (case aC1 => k_is)
    (case pg1 => k_is)
    (case hd1 => k_is)
    (case po1 => k_is)
    (case sa1 => k_is)
    (case mk1 => k_is)
    (case kc1 => k_is)
    (case n1_0 => k_is)
    (case a0 => k_is)
    (case l0 => k_is)
    (case c0 => k_is)
    (case k0 => k_is)
    (case a1 => k_is)
    (case l1 => k_is)
    (case c1 => k_is)
    (case k1 => k_is)
    (case a2 => k_is)
    (case l2 => k_is)
    (case c2 => k_is)
    (case k2 => k_is)
    (case a3 => k_is)
    (case i3 => k_is)
    (case l3 => k_is)
    (case c3 => k_is)
    (case k3 => k_is)
    (case a4 => k_is)
    (case i4 => k_is)
    (case l4 => k_is)
    (case c4 => k_is)
    (case k4 => k_is)
    (case a5 => k_is)
    (case i5 => k_is)
    (case l5 => k_is)
    (case c5 => k_is)
    (case k5 => k_is)
    (case a6 => k_is)
    (case i6 => k_is)
    (case l6 => k_is)
    (case c6 => k_is)
    (case k6 => k_is)
    (case a7 => k_is)
    (case i7 => k_is)
    (case l7 => k_is)
    (case c7 => k_is)
    (case k7 => k_is)
    (case a8 => k_is)
    (case i8 => k_is)
    (case l8 => k_is)
    (case c8 => k_is)
    (case k8 => k_is)
    (case a9 => k_is)
    (case i9 => k_is)
    (case l9 => k_is)
    (case c9 => k_is)
    (case k9 => k_is)
    (case a10 => k_is)
    (case l10 => k_is)
    (case c10 => k_is)
    (case k10 => k_is)
    (case a11 => k_is)
    (case l11 => k_is)
    (case c11 => k_is)
    (case k11 => k_is)
    (case a12 => k_is)
    (case i12 => k_is)
    (case l12 => k_is)
    (case c12 => k_is)
    (case k12 => k_is)
    (case a13 => k_is)
    (case i13 => k_is)
    (case l13 => k_is)
    (case c13 => k_is)
    (case k13 => k_is)
    (case a14 => k_is)
    (case i14 => k_is)
    (case l14 => k_is)
    (case c14 => k_is)
    (case k14 => k_is)
    (case a15 => k_is)
    (case i15 => k_is)
    (case l15 => k_is)
    (case c15 => k_is)
    (case k15 => k_is)
    (case a16 => k_is)
    (case l16 => k_is)
    (case c16 => k_is)
    (case k16 => k_is)
    (case a17 => k_is)
    (case l17 => k_is)
    (case c17 => k_is)
    (case k17 => k_is)
    (case a18 => k_is)
    (case l18 => k_is)
    (case c18 => k_is)
    (case k18 => k_is)
    (case a19 => k_is)
    (case l19 => k_is)
    (case c19 => k_is)
    (case k19 => k_is)
    (case a20 => k_is)
    (case l20 => k_is)
    (case c20 => k_is)
    (case k20 => k_is)
    (case a21 => k_is)
    (case l21 => k_is)
    (case c21 => k_is)
    (case k21 => k_is)
    (case a22 => k_is)
    (case l22 => k_is)
    (case c22 => k_is)
    (case k22 => k_is)
    (case a23 => k_is)
    (case l23 => k_is)
    (case c23 => k_is)
    (case k23 => k_is)
    (case a24 => k_is)
    (case l24 => k_is)
    (case c24 => k_is)
    (case k24 => k_is)
    (case a25 => k_is)
    (case l25 => k_is)
    (case c25 => k_is)
    (case k25 => k_is)
    (case a26 => k_is)
    (case l26 => k_is)
    (case c26 => k_is)
    (case k26 => k_is)
    (case a27 => k_is)
    (case l27 => k_is)
    (case c27 => k_is)
    (case k27 => k_is)
    (case gg0 => k_is)
    (case gg1 => k_is)
    (case gg2 => k_is)
    (case gg3 => k_is)
    (case gg4 => k_is)
    (case gg5 => k_is)
    (case gg6 => k_is)
    (case gl6 => k_is)
    (case z_range => k_is)
    (case z_len => k_is)
    (case z_sum => k_is)
    (case z_min => k_is)
    (case z_max => k_is)
    (case z_abs => k_is)
    (case z_sorted => k_is)
    (case z_isinstance => k_is)
    (case z_enumerate => k_is)
    (case z_zip => k_is)
    (case z_int => k_is)
    (case z_bool => k_is)
    (case z_str => k_is)
    (case z_list => k_is)
    (case z_tuple => k_is)
    (case z_dict => k_is)
    (case z_set => k_is)
    (case z_ValueError => k_is)
